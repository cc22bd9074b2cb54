import PyProof.Rows.All
import Wide.All
import OpenK.AllK
import Wide.FinOn
import HandS.ForMost
import HandS.ForExc
import HandS.Head0
import HandS.Head1
import HandS.Head2
import HandS.HeadEnd
import HandS.HeadHook1
import HandS.HeadHook2
import HandS.TupAny
import HandS.Wide
import HandS.TupLe
import HandS.Deep
import PyProof.NeData
import HandS.Defaults
import HandS.ExcOwn
import HandS.Style
import HandS.IsInst
import HandS.Flt
import HandS.More
import HandS.Replace
import HandS.TupMul
import HandS.Small
import PyProof.StrOps2
import HandS.ExcInit
import HandS.ExcField
import KE.KExcSuper
import HandS.Text
import HandS.Strs
import HandS.TryOnly
import HandS.SortInts
import PyProof.Rows.StrMeet
import HandS.Set
import HandS.SetFor
import HandS.SetKeys
import PyProof.Rows.SortShellAny
import HandS.Zip
import KE.GoesRaise
import HandS.ListItems
import KE.GoesMore
import PyProof.EnumFor
import KE.SortData
import KE.DataMinMax
import HandS.Codes
import PySem.Challenge.RW_postingstold_k82_whole_snippets
set_option Elab.async false
set_option linter.all false
set_option maxRecDepth 100000
set_option maxHeartbeats 4000000
/-! # The mirror layer: data trees over the hand layer's heap -/
namespace MI
open PySem L2

/-- data: what a value is, lists and dicts in it never change any more; ref: an object of the shared store; scr: the law's own script -/
inductive D where
  | non | bl (b : Bool) | int (i : Int) | str (x : Str)
  | tup (xs : List D) | lst (xs : List D) | dic (kvs : List (Key × D)) | ref (n : Nat) | scr (xs : List D)
  deriving Inhabited

/-- an object that may change -/
inductive MObj where
  | lst (xs : List D) | dic (kvs : List (Key × D)) | ins (c : Str) (fs : List (Str × D))
  deriving Inhabited
inductive Slot where
  | none | val (x : D) | own (o : MObj)
  deriving Inhabited
structure S where
  env : List Slot
  gl : List MObj
inductive Loc where
  | sl (i : Nat) | gl (n : Nat)
  deriving DecidableEq
/-- a value of an expression: data; the object that a slot owns; a new object -/
inductive RV where
  | d (x : D) | at (i : Nat) | new (o : MObj)
inductive Res (α : Type) where
  | ok (a : α) (s : S) | exc (c : Str) (p : D) (s : S) | stuck
inductive Out where
  | nx | rt (x : D) | bk | ct

def cellOf (s : S) : Loc → Option MObj
  | .sl i => match s.env[i]? with
    | some (.own o) => some o
    | _ => none
  | .gl n => s.gl[n]?

/-- what stands unchanged for good; what is another one's; where the objects are, how many are shared -/
structure G where
  F : Hp
  P : Addr → Prop
  adr : Loc → Addr
  ng : Nat

mutual
inductive Rep (K : PySem.W.Frag) (g : G) : V → D → Prop
  | non : Rep K g .non .non
  | bl (b : Bool) : Rep K g (.bl b) (.bl b)
  | int (i : Int) : Rep K g (.int i) (.int i)
  | str (x : Str) : Rep K g (.str x) (.str x)
  | tup {a : Addr} {vs : List V} {ds : List D} : SqT K g.F a vs → RepL K g vs ds → Rep K g (.ref a) (.tup ds)
  | lst {a : Addr} {vs : List V} {ds : List D} : g.F a = some (.lst vs) → RepL K g vs ds → Rep K g (.ref a) (.lst ds)
  | dic {a : Addr} {kvs : List (Key × V)} {ds : List (Key × D)} : g.F a = some (.dK kvs) → RepK K g kvs ds → Rep K g (.ref a) (.dic ds)
  | ref (n : Nat) : n < g.ng → Rep K g (.ref (g.adr (.gl n))) (.ref n)
  | scr {a : Addr} {vs : List V} {ds : List D} : SqL K g.F a vs → RepL K g vs ds → Rep K g (.ref a) (.scr ds)
inductive RepL (K : PySem.W.Frag) (g : G) : List V → List D → Prop
  | nil : RepL K g [] []
  | cons {v : V} {vs : List V} {d : D} {ds : List D} : Rep K g v d → RepL K g vs ds → RepL K g (v :: vs) (d :: ds)
inductive RepK (K : PySem.W.Frag) (g : G) : List (Key × V) → List (Key × D) → Prop
  | nil : RepK K g [] []
  | cons {k : Key} {v : V} {vs : List (Key × V)} {d : D} {ds : List (Key × D)} : Rep K g v d → RepK K g vs ds → RepK K g ((k, v) :: vs) ((k, d) :: ds)
end
inductive RepF (K : PySem.W.Frag) (g : G) : List (Str × V) → List (Str × D) → Prop
  | nil : RepF K g [] []
  | cons {k : Str} {v : V} {vs : List (Str × V)} {d : D} {ds : List (Str × D)} : Rep K g v d → RepF K g vs ds → RepF K g ((k, v) :: vs) ((k, d) :: ds)

def Sub (F H : Hp) : Prop := ∀ a o, F a = some o → H a = some o
theorem Sub.refl (F : Hp) : Sub F F := fun _ _ e => e
theorem Sub.trans {F G H : Hp} (a : Sub F G) (b : Sub G H) : Sub F H := fun x o e => b x o (a x o e)
/-- what F tells stands in H, a dict perhaps locked -/
def SubH (F H : Hp) : Prop := ∀ a o, F a = some o → H a = some o ∨ ∃ kvs od, o = .dK kvs ∧ H a = some (.frz od (.dK kvs))
theorem SubH.of {F H : Hp} (a : Sub F H) : SubH F H := fun x o e => .inl (a x o e)
theorem SubH.refl (F : Hp) : SubH F F := .of (.refl F)
theorem Sub.transH {F G H : Hp} (a : Sub F G) (b : SubH G H) : SubH F H := fun x o e => b x o (a x o e)
theorem SubH.more {F H H' : Hp} (s : SubH F H) (h : ∀ b o, H b = some o → H' b = some o) : SubH F H' := fun a o e => by
  rcases s a o e with q | ⟨k, od, z, q⟩
  · exact .inl (h _ _ q)
  · exact .inr ⟨k, od, z, h _ _ q⟩
theorem SubH.lst {F H : Hp} (s : SubH F H) {a : Addr} {vs : List V} (e : F a = some (.lst vs)) : H a = some (.lst vs) := by
  rcases s _ _ e with e | ⟨_, _, z, _⟩
  · exact e
  · cases z
theorem SubH.ex {F H : Hp} (s : SubH F H) {a : Addr} {o : HO} (e : F a = Option.some o) : ∃ u, H a = Option.some u := by
  rcases s _ _ e with e | ⟨_, _, _, e⟩
  · exact ⟨_, e⟩
  · exact ⟨_, e⟩
theorem SubH.dic {F H : Hp} (s : SubH F H) {a : Addr} {kvs : List (Key × V)} (e : F a = Option.some (.dK kvs)) : Rd H a (.dK kvs) := by
  rcases s _ _ e with e | ⟨k, od, z, e⟩
  · exact .inl e
  · cases z; exact .inr ⟨od, e⟩
theorem SubH.upH {F H : Hp} (s : SubH F H) {a : Addr} {o : HO} (n : F a = none) : SubH F (upd H a o) := fun b u e => by
  have z : b ≠ a := fun z => by rw [z, n] at e; cases e
  rw [upd_ne z]; exact s b u e
theorem SubH.upF {F H : Hp} (s : SubH F H) {a : Addr} {o : HO} (h : H a = some o) : SubH (upd F a o) H := fun b u e => by
  by_cases z : b = a
  · subst z; rw [upd_same] at e; cases e; exact .inl h
  · rw [upd_ne z] at e; exact s b u e
/-- the later ghost -/
structure GLe (g g' : G) : Prop where
  F : Sub g.F g'.F
  ng : g.ng ≤ g'.ng
  adr : ∀ n, n < g.ng → g'.adr (.gl n) = g.adr (.gl n)
theorem GLe.refl (g : G) : GLe g g := ⟨Sub.refl _, Nat.le_refl _, fun _ _ => rfl⟩
theorem GLe.trans {a b c : G} (x : GLe a b) (y : GLe b c) : GLe a c :=
  ⟨x.F.trans y.F, Nat.le_trans x.ng y.ng, fun n h => (y.adr n (Nat.lt_of_lt_of_le h x.ng)).trans (x.adr n h)⟩

theorem rd_mono {F H : Hp} (s : SubH F H) {a : Addr} {u : HO} (r : Rd F a u) : Rd H a u := by
  rcases r with r | ⟨o, r⟩
  · rcases s _ _ r with r | ⟨_, od, rfl, r2⟩
    · exact .inl r
    · exact .inr ⟨od, r2⟩
  · rcases s _ _ r with r | ⟨_, _, z, _⟩
    · exact .inr ⟨o, r⟩
    · cases z
theorem sqT_mono {K : PySem.W.Frag} {F H : Hp} (s : SubH F H) {a : Addr} {xs : List V} (r : SqT K F a xs) : SqT K H a xs := by
  rcases r with r | r
  · exact .inl (rd_mono s r)
  · exact .inr r
theorem sqL_mono {K : PySem.W.Frag} {F H : Hp} (s : SubH F H) {a : Addr} {xs : List V} (r : SqL K F a xs) : SqL K H a xs := by
  rcases r with r | r
  · exact .inl (rd_mono s r)
  · exact .inr r

section
variable {K : PySem.W.Frag} {g g' : G}
mutual
theorem Rep.mono (l : GLe g g') : ∀ {v : V} {d : D}, Rep K g v d → Rep K g' v d
  | _, _, .non => .non
  | _, _, .bl b => .bl b
  | _, _, .int i => .int i
  | _, _, .str x => .str x
  | _, _, .tup h r => .tup (sqT_mono (.of l.F) h) (RepL.mono l r)
  | _, _, .lst h r => .lst (l.F _ _ h) (RepL.mono l r)
  | _, _, .dic h r => .dic (l.F _ _ h) (RepK.mono l r)
  | _, _, .scr h r => .scr (sqL_mono (.of l.F) h) (RepL.mono l r)
  | _, _, .ref n h => by rw [← l.adr n h]; exact .ref n (Nat.lt_of_lt_of_le h l.ng)
theorem RepL.mono (l : GLe g g') : ∀ {v : List V} {d : List D}, RepL K g v d → RepL K g' v d
  | _, _, .nil => .nil
  | _, _, .cons a b => .cons (Rep.mono l a) (RepL.mono l b)
theorem RepK.mono (l : GLe g g') : ∀ {v : List (Key × V)} {d : List (Key × D)}, RepK K g v d → RepK K g' v d
  | _, _, .nil => .nil
  | _, _, .cons a b => .cons (Rep.mono l a) (RepK.mono l b)
end
theorem RepF.mono (l : GLe g g') : ∀ {v : List (Str × V)} {d : List (Str × D)}, RepF K g v d → RepF K g' v d
  | _, _, .nil => .nil
  | _, _, .cons a b => .cons (Rep.mono l a) (RepF.mono l b)

theorem RepL.length : ∀ {v : List V} {d : List D}, RepL K g v d → v.length = d.length
  | _, _, .nil => rfl
  | _, _, .cons _ b => by rw [List.length_cons, List.length_cons, RepL.length b]
theorem RepL.append : ∀ {v w : List V} {d e : List D}, RepL K g v d → RepL K g w e → RepL K g (v ++ w) (d ++ e)
  | _, _, _, _, .nil, h => h
  | _, _, _, _, .cons a b, h => .cons a (RepL.append b h)
theorem RepL.one {v : V} {d : D} (h : Rep K g v d) : RepL K g [v] [d] := .cons h .nil
theorem RepL.take : ∀ {v : List V} {d : List D} (n : Nat), RepL K g v d → RepL K g (v.take n) (d.take n)
  | _, _, 0, _ => .nil
  | _, _, _ + 1, .nil => .nil
  | _, _, n + 1, .cons a b => .cons a (RepL.take n b)
theorem RepL.drop : ∀ {v : List V} {d : List D} (n : Nat), RepL K g v d → RepL K g (v.drop n) (d.drop n)
  | _, _, 0, h => h
  | _, _, _ + 1, .nil => .nil
  | _, _, n + 1, .cons _ b => RepL.drop n b
theorem RepL.get : ∀ {v : List V} {d : List D} {i : Nat} {x : D}, RepL K g v d → d[i]? = some x → ∃ u, v[i]? = some u ∧ Rep K g u x
  | _, _, _, _, .nil, e => by simp at e
  | _, _, 0, _, .cons a b, e => by simp at e; subst e; exact ⟨_, rfl, a⟩
  | _, _, i + 1, x, .cons a b, e => by
    obtain ⟨u, h1, h2⟩ := RepL.get (i := i) (x := x) b (by simpa using e)
    exact ⟨u, by simpa using h1, h2⟩
theorem RepL.get' : ∀ {v : List V} {d : List D} {i : Nat} {u : V}, RepL K g v d → v[i]? = some u → ∃ x, d[i]? = some x ∧ Rep K g u x
  | _, _, _, _, .nil, e => by simp at e
  | _, _, 0, _, .cons a b, e => by simp at e; subst e; exact ⟨_, rfl, a⟩
  | _, _, i + 1, x, .cons a b, e => by
    obtain ⟨u, h1, h2⟩ := RepL.get' (i := i) (u := x) b (by simpa using e)
    exact ⟨u, by simpa using h1, h2⟩
theorem RepL.set {x : D} {u : V} (h : Rep K g u x) : ∀ {v : List V} {d : List D} (i : Nat), RepL K g v d → RepL K g (v.set i u) (d.set i x)
  | _, _, _, .nil => .nil
  | _, _, 0, .cons _ b => .cons h b
  | _, _, i + 1, .cons a b => .cons a (RepL.set h i b)
theorem RepL.reverse {v : List V} {d : List D} (h : RepL K g v d) : RepL K g v.reverse d.reverse := by
  induction v generalizing d with
  | nil => cases h; exact .nil
  | cons a v ih =>
    cases h with
    | cons x y =>
      rw [List.reverse_cons, List.reverse_cons]
      exact (ih y).append (.one x)
theorem RepL.eraseIdx : ∀ {v : List V} {d : List D} (i : Nat), RepL K g v d → RepL K g (v.eraseIdx i) (d.eraseIdx i)
  | _, _, _, .nil => .nil
  | _, _, 0, .cons _ b => b
  | _, _, i + 1, .cons a b => .cons a (RepL.eraseIdx i b)
end

/-- an object of the store at an address -/
def ObjRep (K : PySem.W.Frag) (g : G) (H : Hp) (a : Addr) : MObj → Prop
  | .lst xs => ∃ vs, H a = some (.lst vs) ∧ RepL K g vs xs
  | .dic kvs => ∃ vs, H a = some (.dK vs) ∧ RepK K g vs kvs
  | .ins c fs => ∃ dx vs, H a = some (.ins (He.ga K c) dx vs) ∧ RepF K g vs fs
theorem ObjRep.some {K : PySem.W.Frag} {g : G} {H : Hp} {a : Addr} {o : MObj} (h : ObjRep K g H a o) : ∃ u, H a = Option.some u := by
  cases o with
  | lst xs => obtain ⟨vs, e, _⟩ := h; exact ⟨_, e⟩
  | dic xs => obtain ⟨vs, e, _⟩ := h; exact ⟨_, e⟩
  | ins c fs => obtain ⟨dx, vs, e, _⟩ := h; exact ⟨_, e⟩
theorem ObjRep.mono {K : PySem.W.Frag} {g g' : G} {H H' : Hp} {a : Addr} {o : MObj} (l : GLe g g') (e : H' a = H a) (h : ObjRep K g H a o) : ObjRep K g' H' a o := by
  cases o with
  | lst xs => obtain ⟨vs, q, r⟩ := h; exact ⟨vs, e.trans q, r.mono l⟩
  | dic xs => obtain ⟨vs, q, r⟩ := h; exact ⟨vs, e.trans q, r.mono l⟩
  | ins c fs => obtain ⟨dx, vs, q, r⟩ := h; exact ⟨dx, vs, e.trans q, r.mono l⟩

def SlotRep (K : PySem.W.Frag) (g : G) (σ : St) (i : Nat) : Slot → Prop
  | .none => True
  | .val d => ∃ v, σ[i]? = some (some v) ∧ Rep K g v d
  | .own _ => σ[i]? = some (some (.ref (g.adr (.sl i))))

def Live (g : G) (s : S) (a : Addr) : Prop := ∃ l o, cellOf s l = some o ∧ g.adr l = a
/-- the state s is what the slots and the heap are -/
structure Ok (K : PySem.W.Frag) (g : G) (s : S) (σ : St) (H : Hp) : Prop where
  sub : SubH g.F H
  cell : ∀ l o, cellOf s l = some o → g.F (g.adr l) = none ∧ ObjRep K g H (g.adr l) o
  inj : ∀ l l' o o', cellOf s l = some o → cellOf s l' = some o' → g.adr l = g.adr l' → l = l'
  env : ∀ i x, s.env[i]? = some x → SlotRep K g σ i x
  len : s.env.length = σ.length
  ng : g.ng = s.gl.length
  prot : ∀ a, g.P a → (∃ u, H a = some u) ∧ g.F a = none ∧ ¬ Live g s a

/-- from (g, H) to (g', H') -/
structure Step (g : G) (H : Hp) (g' : G) (H' : Hp) : Prop where
  le : GLe g g'
  P : g'.P = g.P
  keep : ∀ a, g.P a → H' a = H a
  fk : ∀ a u, g.F a = some u → H' a = H a
theorem Step.refl (g : G) (H : Hp) : Step g H g H := ⟨GLe.refl _, rfl, fun _ _ => rfl, fun _ _ _ => rfl⟩
theorem Step.trans {g g' g'' : G} {H H' H'' : Hp} (a : Step g H g' H') (b : Step g' H' g'' H'') : Step g H g'' H'' :=
  ⟨a.le.trans b.le, b.P.trans a.P, fun x p => (b.keep x (by rw [a.P]; exact p)).trans (a.keep x p), fun x u e => (b.fk x u (a.le.F _ _ e)).trans (a.fk x u e)⟩

def RepRV (K : PySem.W.Frag) (g : G) (s : S) (H : Hp) (v : V) : RV → Prop
  | .d x => Rep K g v x
  | .at i => v = .ref (g.adr (.sl i))
  | .new o => ∃ a, v = .ref a ∧ g.F a = none ∧ ¬ g.P a ∧ ¬ Live g s a ∧ ObjRep K g H a o
/-- slots' objects stay at their places -/
def SlKeep (g g' : G) : Prop := ∀ i, g'.adr (.sl i) = g.adr (.sl i)
theorem SlKeep.refl (g : G) : SlKeep g g := fun _ => rfl
theorem SlKeep.trans {a b c : G} (x : SlKeep a b) (y : SlKeep b c) : SlKeep a c := fun i => (y i).trans (x i)

/-! ### what follows a part -/
abbrev M := S → Res RV
/-- an exception: the class by name, its one field (as a pair of its name and its value), or none -/
def ExcRep (K : PySem.W.Frag) (g : G) (H : Hp) (cls : Value) (d : Option Addr) (c : Str) (p : D) : Prop :=
  cls = .ref (He.ga K c) ∧ ((d = none ∧ p = .non) ∨ ∃ dx f v q, d = some dx ∧ H dx = some (.xd [(f, v)]) ∧ p = .tup [.str f, q] ∧ Rep K g v q)
theorem ExcRep.mono {K : PySem.W.Frag} {g g' : G} {H : Hp} {cls : Value} {d : Option Addr} {c : Str} {p : D} (l : GLe g g') (h : ExcRep K g H cls d c p) : ExcRep K g' H cls d c p := by
  obtain ⟨h1, h2 | ⟨dx, f, v, q, e1, e2, e3, r⟩⟩ := h
  · exact ⟨h1, .inl h2⟩
  · exact ⟨h1, .inr ⟨dx, f, v, q, e1, e2, e3, r.mono l⟩⟩
def PostE (K : PySem.W.Frag) (W : WX) (σ : St) (g : G) (s : S) (H : Hp) {α : Type} (k : α → G → S → Hp → Prop) : Res α → Prop
  | .ok a s' => ∀ g' H', Step g H g' H' → SlKeep g g' → Ok K g' s' σ H' → k a g' s' H'
  | .exc c p s' => ∀ cls d g' H', Step g H g' H' → SlKeep g g' → Ok K g' s' σ H' → ExcRep K g' H' cls d c p → W cls d σ H'
  | .stuck => False
abbrev kE (K : PySem.W.Frag) (Q : VK) : RV → G → S → Hp → Prop := fun r g s H => ∀ v, RepRV K g s H v r → Q v H
abbrev kL (K : PySem.W.Frag) (Q : List V → Hp → Prop) : List D → G → S → Hp → Prop := fun r g _ H => ∀ v, RepL K g v r → Q v H
abbrev kB (Q : Bool → Hp → Prop) : Bool → G → S → Hp → Prop := fun r _ _ H => Q r H
/-- mirrors as readings: an expression, an argument list, a test -/
def tM (K : PySem.W.Frag) (W : WX) (m : M) : TE := fun σ H Q => ∃ g s, Ok K g s σ H ∧ PostE K W σ g s H (kE K Q) (m s)
def tMA (K : PySem.W.Frag) (W : WX) (m : S → Res (List D)) : TA := fun σ H Q => ∃ g s, Ok K g s σ H ∧ PostE K W σ g s H (kL K Q) (m s)
def tMT (K : PySem.W.Frag) (W : WX) (m : S → Res Bool) : TT := fun σ H Q => ∃ g s, Ok K g s σ H ∧ PostE K W σ g s H (kB Q) (m s)
def ME (X : Cx) (W : WX) (e : Expr) (m : M) : Prop := PE X e (tM X.K W m)
def MA (X : Cx) (W : WX) (es : List Expr) (m : S → Res (List D)) : Prop := PA X es (tMA X.K W m)
def MT (X : Cx) (W : WX) (e : Expr) (m : S → Res Bool) : Prop := PT X e (tMT X.K W m)

def PostS (K : PySem.W.Frag) (W : WX) (g : G) (s : S) (H : Hp) (D : Ends) : Res Out → Prop
  | .ok .nx s' => ∀ σ' g' H', Step g H g' H' → Ok K g' s' σ' H' → D.nx σ' H'
  | .ok .bk s' => ∀ σ' g' H', Step g H g' H' → Ok K g' s' σ' H' → D.bk σ' H'
  | .ok .ct s' => ∀ σ' g' H', Step g H g' H' → Ok K g' s' σ' H' → D.ct σ' H'
  | .ok (.rt d) s' => ∀ v σ' g' H', Step g H g' H' → Ok K g' s' σ' H' → Rep K g' v d → D.rt v H'
  | .exc c p s' => ∀ σ' cls d g' H', Step g H g' H' → Ok K g' s' σ' H' → ExcRep K g' H' cls d c p → W cls d σ' H'
  | .stuck => False
def tMS (K : PySem.W.Frag) (W : WX) (m : S → Res Out) : TS := fun D σ H => ∃ g s, Ok K g s σ H ∧ PostS K W g s H D (m s)
def MS (X : Cx) (W : WX) (st : Stmt) (m : S → Res Out) : Prop := PS X st (tMS X.K W m)
def MSs (X : Cx) (W : WX) (st : List Stmt) (m : S → Res Out) : Prop := PSs X st (tMS X.K W m)

theorem pe_imp {X : Cx} {e : Expr} {t t' : TE} (h : PE X e t) (i : ∀ σ H Q, t' σ H Q → t σ H Q) : PE X e t' :=
  ⟨fun pins s σ H Q I q => h.run pins s σ H Q I (i σ H Q q)⟩
theorem pt_imp {X : Cx} {e : Expr} {t t' : TT} (h : PT X e t) (i : ∀ σ H Q, t' σ H Q → t σ H Q) : PT X e t' :=
  ⟨fun pins s σ H Q I q => h.run pins s σ H Q I (i σ H Q q)⟩
theorem pa_imp {X : Cx} {e : List Expr} {t t' : TA} (h : PA X e t) (i : ∀ σ H Q, t' σ H Q → t σ H Q) : PA X e t' :=
  ⟨fun pos pins s σ H Q I q => h.run pos pins s σ H Q I (i σ H Q q)⟩
theorem ps_imp {X : Cx} {e : Stmt} {t t' : TS} (h : PS X e t) (i : ∀ D σ H, t' D σ H → t D σ H) : PS X e t' :=
  ⟨fun pins s σ H D I q => h.run pins s σ H D I (i D σ H q)⟩
theorem pss_imp {X : Cx} {e : List Stmt} {t t' : TS} (h : PSs X e t) (i : ∀ D σ H, t' D σ H → t D σ H) : PSs X e t' :=
  ⟨fun pins s σ H D I q => h.run pins s σ H D I (i D σ H q)⟩

def Res.bind {α β : Type} (r : Res α) (f : α → S → Res β) : Res β := match r with
  | .ok a s => f a s
  | .exc c p s => .exc c p s
  | .stuck => .stuck
@[simp] theorem Res.bind_ok {α β : Type} (a : α) (s : S) (f : α → S → Res β) : (Res.ok a s).bind f = f a s := rfl
@[simp] theorem Res.bind_exc {α β : Type} (c : Str) (p : D) (s : S) (f : α → S → Res β) : (Res.exc c p s).bind f = .exc c p s := rfl
@[simp] theorem Res.bind_stuck {α β : Type} (f : α → S → Res β) : (Res.stuck : Res α).bind f = .stuck := rfl

section
variable {K : PySem.W.Frag} {W : WX} {σ : St} {g : G} {s : S} {H : Hp} {α β : Type} {k : α → G → S → Hp → Prop} {D : Ends}
theorem PostE.mono {k' : α → G → S → Hp → Prop} {r : Res α} (h : PostE K W σ g s H k r)
    (i : ∀ a g' s' H', Step g H g' H' → SlKeep g g' → Ok K g' s' σ H' → k a g' s' H' → k' a g' s' H') : PostE K W σ g s H k' r := by
  cases r with
  | ok a s' => exact fun g' H' t sk o => i _ _ _ _ t sk o (h g' H' t sk o)
  | exc c p s' => exact h
  | stuck => exact h
theorem PostE.bind {r : Res β} {f : β → S → Res α} (h : PostE K W σ g s H k (r.bind f)) :
    PostE K W σ g s H (fun b g' s' H' => PostE K W σ g' s' H' k (f b s')) r := by
  cases r with
  | ok b s' =>
    intro g' H' t sk o
    have h' : PostE K W σ g s H k (f b s') := h
    show PostE K W σ g' s' H' k (f b s')
    cases e : f b s' with
    | ok a s'' => rw [e] at h'; exact fun g'' H'' t' sk' o' => h' g'' H'' (t.trans t') (sk.trans sk') o'
    | exc c p s'' => rw [e] at h'; exact fun cls d g'' H'' t' sk' o' x => h' cls d g'' H'' (t.trans t') (sk.trans sk') o' x
    | stuck => rw [e] at h'; exact h'
  | exc c p s' => exact h
  | stuck => exact h
/-- a part that only turns the ghost -/
theorem PostE.ghost {r : Res α} {g' : G} {s' : S} (h : PostE K W σ g s H k r) (t : Step g H g' H) (sk : SlKeep g g') : PostE K W σ g' s' H k r := by
  cases r with
  | ok a s'' => exact fun g'' H'' t' sk' o' => h g'' H'' (t.trans t') (sk.trans sk') o'
  | exc c p s'' => exact fun cls d g'' H'' t' sk' o' x => h cls d g'' H'' (t.trans t') (sk.trans sk') o' x
  | stuck => exact h
theorem PostE.after {r : Res α} {g' : G} {s' : S} {H' : Hp} (h : PostE K W σ g s H k r) (t : Step g H g' H') (sk : SlKeep g g') : PostE K W σ g' s' H' k r := by
  cases r with
  | ok a s'' => exact fun g'' H'' t' sk' o' => h g'' H'' (t.trans t') (sk.trans sk') o'
  | exc c p s'' => exact fun cls d g'' H'' t' sk' o' x => h cls d g'' H'' (t.trans t') (sk.trans sk') o' x
  | stuck => exact h
theorem PostE.done {a : α} (h : PostE K W σ g s H k (.ok a s)) (o : Ok K g s σ H) : k a g s H := h g H (Step.refl _ _) (SlKeep.refl _) o
theorem PostS.bind {r : Res β} {f : β → S → Res Out} (h : PostS K W g s H D (r.bind f)) :
    PostE K W σ g s H (fun b g' s' H' => PostS K W g' s' H' D (f b s')) r := by
  cases r with
  | ok b s' =>
    intro g' H' t sk o
    have h' : PostS K W g s H D (f b s') := h
    show PostS K W g' s' H' D (f b s')
    cases e : f b s' with
    | ok a s'' =>
      rw [e] at h'
      cases a with
      | nx => exact fun σ'' g'' H'' t' o' => h' σ'' g'' H'' (t.trans t') o'
      | bk => exact fun σ'' g'' H'' t' o' => h' σ'' g'' H'' (t.trans t') o'
      | ct => exact fun σ'' g'' H'' t' o' => h' σ'' g'' H'' (t.trans t') o'
      | rt d => exact fun v σ'' g'' H'' t' o' x => h' v σ'' g'' H'' (t.trans t') o' x
    | exc c p s'' => rw [e] at h'; exact fun σ'' cls d g'' H'' t' o' x => h' σ'' cls d g'' H'' (t.trans t') o' x
    | stuck => rw [e] at h'; exact h'
  | exc c p s' => exact fun cls d g' H' t sk o x => h σ cls d g' H' t o x
  | stuck => exact h
theorem PostS.after {r : Res Out} {g' : G} {s' : S} {H' : Hp} (h : PostS K W g s H D r) (t : Step g H g' H') : PostS K W g' s' H' D r := by
  cases r with
  | ok a s'' =>
    cases a with
    | nx => exact fun σ'' g'' H'' t' o' => h σ'' g'' H'' (t.trans t') o'
    | bk => exact fun σ'' g'' H'' t' o' => h σ'' g'' H'' (t.trans t') o'
    | ct => exact fun σ'' g'' H'' t' o' => h σ'' g'' H'' (t.trans t') o'
    | rt d => exact fun v σ'' g'' H'' t' o' x => h v σ'' g'' H'' (t.trans t') o' x
  | exc c p s'' => exact fun σ'' cls d g'' H'' t' o' x => h σ'' cls d g'' H'' (t.trans t') o' x
  | stuck => exact h
end

/-! ### the ghost's own steps -/
section
variable {K : PySem.W.Frag} {σ : St} {g : G} {s : S} {H : Hp}
theorem Ok.live {a : Addr} (ok : Ok K g s σ H) (l : Live g s a) : ∃ u, H a = some u := by
  obtain ⟨l, o, e, rfl⟩ := l
  exact (ok.cell l o e).2.some
theorem Ok.fnone {a : Addr} (ok : Ok K g s σ H) (n : H a = none) : g.F a = none := by
  cases e : g.F a with
  | none => rfl
  | some u => obtain ⟨w, hw⟩ := ok.sub.ex e; rw [hw] at n; cases n
theorem Ok.pnone {a : Addr} (ok : Ok K g s σ H) (n : H a = none) : ¬ g.P a := fun p => by
  obtain ⟨⟨u, e⟩, _⟩ := ok.prot a p
  rw [n] at e; cases e
theorem Ok.lnone {a : Addr} (ok : Ok K g s σ H) (n : H a = none) : ¬ Live g s a := fun p => by
  obtain ⟨u, e⟩ := ok.live p
  rw [n] at e; cases e
/-- a new tracked object, not in the store -/
theorem Ok.grow {a : Addr} {o : HO} (ok : Ok K g s σ H) (n : H a = none) : Ok K g s σ (upd H a o) := by
  have ne : ∀ b u, H b = some u → b ≠ a := fun b u e z => by rw [z, n] at e; cases e
  refine ⟨ok.sub.upH (ok.fnone n), fun l u e => ?_, ok.inj, ok.env, ok.len, ok.ng, fun b p => ?_⟩
  · obtain ⟨f, r⟩ := ok.cell l u e
    obtain ⟨w, hw⟩ := r.some
    exact ⟨f, r.mono (GLe.refl _) (upd_ne (ne _ _ hw))⟩
  · obtain ⟨⟨u, e⟩, f, l⟩ := ok.prot b p
    exact ⟨⟨u, by rw [upd_ne (ne _ _ e)]; exact e⟩, f, l⟩
theorem Step.grow {a : Addr} {o : HO} (ok : Ok K g s σ H) (n : H a = none) : Step g H g (upd H a o) := by
  refine ⟨GLe.refl _, rfl, fun b p => upd_ne fun z => ?_, fun b u e => upd_ne fun z => ?_⟩
  · obtain ⟨⟨u, e⟩, _⟩ := ok.prot b p
    rw [z, n] at e; cases e
  · rw [z, ok.fnone n] at e; cases e
/-- a tracked object that is not in the store comes to stand for good -/
def G.frz (g : G) (a : Addr) (o : HO) : G := { g with F := upd g.F a o }
theorem frz_le {a : Addr} {o : HO} (n : g.F a = none) : GLe g (g.frz a o) := by
  refine ⟨fun b u e => ?_, Nat.le_refl _, fun _ _ => rfl⟩
  show upd g.F a o b = _
  rw [upd_ne (fun z => by rw [z, n] at e; cases e)]
  exact e
theorem SlotRep.mono {g' : G} {i : Nat} {x : Slot} (l : GLe g g') (k : SlKeep g g') (h : SlotRep K g σ i x) : SlotRep K g' σ i x := by
  cases x with
  | none => trivial
  | val d =>
    obtain ⟨v, e, r⟩ := h
    exact ⟨v, e, r.mono l⟩
  | own o =>
    show σ[i]? = _
    rw [k i]; exact h
theorem Ok.frz {a : Addr} {o : HO} (ok : Ok K g s σ H) (h : H a = some o) (n : g.F a = none) (np : ¬ g.P a) (nl : ¬ Live g s a) : Ok K (g.frz a o) s σ H := by
  have f0 : ∀ b, b ≠ a → (g.frz a o).F b = g.F b := fun b z => upd_ne z
  refine ⟨ok.sub.upF h, fun l u e => ?_, ok.inj, fun i x e => (ok.env i x e).mono (frz_le n) (SlKeep.refl _), ok.len, ok.ng, fun b p => ?_⟩
  · obtain ⟨f, r⟩ := ok.cell l u e
    exact ⟨(f0 _ fun z => nl ⟨l, u, e, z⟩).trans f, r.mono (frz_le n) rfl⟩
  · obtain ⟨e, f, l⟩ := ok.prot b p
    exact ⟨e, (f0 b fun z => np (z ▸ p)).trans f, l⟩
theorem Step.frz {a : Addr} {o : HO} (n : g.F a = none) : Step g H (g.frz a o) H := ⟨frz_le n, rfl, fun _ _ => rfl, fun _ _ _ => rfl⟩
end
end MI
/-! # Expressions -/
namespace MI
open PySem L2

section
variable {K : PySem.W.Frag} {W : WX} {σ : St} {g : G} {s : S} {H : Hp}
/-- the end of an operation that makes nothing new -/
theorem kE_d {Q : VK} {x : D} {v : V} (h : PostE K W σ g s H (kE K Q) (.ok (.d x) s)) (o : Ok K g s σ H) (r : Rep K g v x) : Q v H := (PostE.done h o) v r
/-- .. that makes a new tracked object -/
theorem kE_new {Q : VK} {o : MObj} {ho : HO} {p : Addr} (h : PostE K W σ g s H (kE K Q) (.ok (.new o) s)) (k : Ok K g s σ H) (n : H p = none)
    (r : ObjRep K g (upd H p ho) p o) : Q (.ref p) (upd H p ho) :=
  h g _ (Step.grow k n) (SlKeep.refl _) (k.grow n) _ ⟨p, rfl, k.fnone n, k.pnone n, k.lnone n, r⟩
/-- a new tuple stands for good at once -/
theorem kE_tup {Q : VK} {ds : List D} {vs : List V} {p : Addr} (h : PostE K W σ g s H (kE K Q) (.ok (.d (.tup ds)) s)) (k : Ok K g s σ H) (n : H p = none)
    (r : RepL K g vs ds) : Q (.ref p) (upd H p (.tup vs)) := by
  have k1 := k.grow (o := .tup vs) n
  have k2 := k1.frz (o := .tup vs) upd_same (k.fnone n) (k.pnone n) (k.lnone n)
  refine h (g.frz p (.tup vs)) _ ((Step.grow k n).trans (Step.frz (k.fnone n))) (SlKeep.refl _) k2 _ (.tup (.inl (.inl ?_)) (r.mono (frz_le (k.fnone n))))
  exact upd_same
end

/-- a new object that is held while other parts run stands for good -/
def frzO : MObj → Option D
  | .lst xs => some (.lst xs)
  | .dic kvs => some (.dic kvs)
  | .ins _ _ => none
def settle : RV → Option RV
  | .new o => (frzO o).map .d
  | r => some r
/-- a value goes out of hand: a slot's object, a new one, stand for good from there on -/
def leak : RV → S → Option (D × S)
  | .d x, s => some (x, s)
  | .new o, s => (frzO o).map fun d => (d, s)
  | .at i, s => match s.env[i]? with
    | some (.own o) => (frzO o).map fun d => (d, { s with env := s.env.set i (.val d) })
    | _ => none

section
variable {K : PySem.W.Frag} {W : WX} {σ : St} {g : G} {s : S} {H : Hp}
theorem frzO_rep {g : G} {H : Hp} {a : Addr} {o : MObj} {d : D} (e : frzO o = some d) (r : ObjRep K g H a o) (n : g.F a = none) :
    ∃ u, H a = some u ∧ Rep K (g.frz a u) (.ref a) d := by
  cases o with
  | lst xs =>
    cases e
    obtain ⟨vs, h, r⟩ := r
    exact ⟨_, h, .lst upd_same (r.mono (frz_le n))⟩
  | dic xs =>
    cases e
    obtain ⟨vs, h, r⟩ := r
    exact ⟨_, h, .dic upd_same (r.mono (frz_le n))⟩
  | ins c fs => cases e
theorem settle_ok {v : V} {r r' : RV} (ok : Ok K g s σ H) (h : RepRV K g s H v r) (e : settle r = some r') :
    ∃ g', Step g H g' H ∧ SlKeep g g' ∧ Ok K g' s σ H ∧ RepRV K g' s H v r' := by
  cases r with
  | d x => cases e; exact ⟨g, Step.refl _ _, SlKeep.refl _, ok, h⟩
  | «at» i => cases e; exact ⟨g, Step.refl _ _, SlKeep.refl _, ok, h⟩
  | new o =>
    obtain ⟨a, rfl, n, np, nl, q⟩ := h
    cases e' : frzO o with
    | none => simp only [settle, e', Option.map_some, Option.map_none] at e; cases e
    | some d =>
      simp only [settle, e', Option.map_some, Option.map_none] at e; cases e
      obtain ⟨u, hu, r⟩ := frzO_rep e' q n
      exact ⟨g.frz a u, Step.frz n, SlKeep.refl _, ok.frz hu n np nl, r⟩
/-- a slot's object is given up: the slot holds data -/
theorem Ok.giveup {i : Nat} {o : MObj} {d : D} {u : HO} (ok : Ok K g s σ H) (e : s.env[i]? = some (.own o)) (hu : H (g.adr (.sl i)) = some u)
    (r : Rep K (g.frz (g.adr (.sl i)) u) (.ref (g.adr (.sl i))) d) : Ok K (g.frz (g.adr (.sl i)) u) { s with env := s.env.set i (.val d) } σ H := by
  have hi : i < s.env.length := (List.getElem?_eq_some_iff.mp e).1
  have ce : cellOf s (.sl i) = some o := by show (match s.env[i]? with | some (.own o) => some o | _ => none) = _; rw [e]
  obtain ⟨n, _⟩ := ok.cell _ _ ce
  have sub : ∀ l w, cellOf { s with env := s.env.set i (.val d) } l = some w → l ≠ .sl i ∧ cellOf s l = some w := by
    intro l w h
    cases l with
    | gl n => exact ⟨(fun z => nomatch z), h⟩
    | sl j =>
      by_cases z : j = i
      · subst z
        have h' : (match (s.env.set j (.val d))[j]? with | some (.own o) => some o | _ => none) = some w := h
        rw [List.getElem?_set_self hi] at h'
        cases h'
      · refine ⟨fun q => z (by cases q; rfl), ?_⟩
        have h' : (match (s.env.set i (.val d))[j]? with | some (.own o) => some o | _ => none) = some w := h
        rw [List.getElem?_set_ne (Ne.symm z)] at h'
        exact h'
  have ne : ∀ l w, cellOf s l = some w → l ≠ .sl i → g.adr l ≠ g.adr (.sl i) := fun l w h z q => z (ok.inj _ _ _ _ h ce q)
  refine ⟨ok.sub.upF hu, fun l w q => ?_, fun l l' w w' q q' z => ok.inj l l' w w' (sub l w q).2 (sub l' w' q').2 z, fun j x q => ?_, by rw [List.length_set]; exact ok.len, ok.ng, fun b p => ?_⟩
  · obtain ⟨h1, h2⟩ := sub l w q
    obtain ⟨f, r'⟩ := ok.cell l w h2
    refine ⟨?_, r'.mono (frz_le n) rfl⟩
    show upd g.F (g.adr (.sl i)) u (g.adr l) = none
    rw [upd_ne (ne l w h2 h1)]
    exact f
  · by_cases z : j = i
    · subst z
      rw [List.getElem?_set_self hi] at q
      cases q
      exact ⟨_, ok.env j _ e, r⟩
    · rw [List.getElem?_set_ne (Ne.symm z)] at q
      exact (ok.env j x q).mono (frz_le n) (SlKeep.refl _)
  · obtain ⟨e1, f, l⟩ := ok.prot b p
    refine ⟨e1, ?_, fun ⟨l', w, q, z⟩ => l ⟨l', w, (sub l' w q).2, z⟩⟩
    show upd g.F (g.adr (.sl i)) u b = none
    rw [upd_ne (fun z => l ⟨_, _, ce, z.symm⟩)]
    exact f
theorem leak_ok {v : V} {r : RV} {d : D} {s' : S} (ok : Ok K g s σ H) (h : RepRV K g s H v r) (e : leak r s = some (d, s')) :
    ∃ g', Step g H g' H ∧ SlKeep g g' ∧ Ok K g' s' σ H ∧ Rep K g' v d := by
  cases r with
  | d x => cases e; exact ⟨g, Step.refl _ _, SlKeep.refl _, ok, h⟩
  | new o =>
    obtain ⟨a, rfl, n, np, nl, q⟩ := h
    cases e' : frzO o with
    | none => simp only [leak, e', Option.map_some, Option.map_none] at e; cases e
    | some d' =>
      simp only [leak, e', Option.map_some, Option.map_none] at e; cases e
      obtain ⟨u, hu, r⟩ := frzO_rep e' q n
      exact ⟨g.frz a u, Step.frz n, SlKeep.refl _, ok.frz hu n np nl, r⟩
  | «at» i =>
    have hv : v = .ref (g.adr (.sl i)) := h
    subst hv
    unfold leak at e
    cases e1 : s.env[i]? with
    | none => simp only [e1] at e; cases e
    | some w =>
      cases w with
      | none => simp only [e1] at e; cases e
      | val x => simp only [e1] at e; cases e
      | own o =>
        simp only [e1] at e
        cases e' : frzO o with
        | none => simp only [e'] at e; cases e
        | some d' =>
          simp only [e'] at e; cases e
          have ce : cellOf s (.sl i) = some o := by show (match s.env[i]? with | some (.own o) => some o | _ => none) = _; rw [e1]
          obtain ⟨n, q⟩ := ok.cell _ _ ce
          obtain ⟨u, hu, r⟩ := frzO_rep e' q n
          exact ⟨_, Step.frz n, SlKeep.refl _, ok.giveup e1 hu r, r⟩
end

/-! ### names, constants -/
def mVar (i : Nat) : M := fun s => match s.env[i]? with
  | some (.val x) => .ok (.d x) s
  | some (.own _) => .ok (.at i) s
  | _ => .stuck
def mC (x : D) : M := fun s => .ok (.d x) s
def mLeak (m : M) : S → Res D := fun s => (m s).bind fun r s1 => match leak r s1 with
  | some (d, s2) => .ok d s2
  | none => .stuck
def mSettle (m : M) : M := fun s => (m s).bind fun r s1 => match settle r with
  | some r' => .ok r' s1
  | none => .stuck

section
variable {X : Cx} {W : WX}
theorem me_var {i : Nat} {x : Str} {pos : Pos} (hN : X.N[i]? = some x := by rfl) (hv : Vis X.env.scope x := by first | exact Or.inl rfl | exact Or.inr (Or.inl rfl) | exact Or.inr (Or.inr rfl)) (hd : (x == ("__debug__" : Str)) = false := by decide) (hcd : (x == ("__classdict__" : Str)) = false := by decide) :
    ME X W (.Name x pos) (mVar i) := by
  refine pe_imp (pe_var (i := i) hN hv hd hcd) fun σ H Q ⟨g, s, ok, h⟩ => ?_
  unfold mVar at h
  cases e : s.env[i]? with
  | none => simp only [e] at h; exact h.elim
  | some w =>
    cases w with
    | none => simp only [e] at h; exact h.elim
    | val x =>
      simp only [e] at h
      obtain ⟨v, ev, r⟩ := ok.env i _ e
      exact ⟨v, ev, kE_d h ok r⟩
    | own o =>
      simp only [e] at h
      exact ⟨_, ok.env i _ e, PostE.done h ok _ rfl⟩
theorem me_int {i : Int} {j pos} : ME X W (.Constant (.int i) j pos) (mC (.int i)) := pe_imp pe_int fun σ H Q ⟨g, s, ok, h⟩ => kE_d h ok (.int i)
theorem me_bl {b : Bool} {j pos} : ME X W (.Constant (.bool b) j pos) (mC (.bl b)) := pe_imp pe_bl fun σ H Q ⟨g, s, ok, h⟩ => kE_d h ok (.bl b)
theorem me_non {j pos} : ME X W (.Constant .none j pos) (mC .non) := pe_imp pe_non fun σ H Q ⟨g, s, ok, h⟩ => kE_d h ok .non
theorem me_str {x : Str} {j pos} : ME X W (.Constant (.str x) j pos) (mC (.str x)) := pe_imp pe_str fun σ H Q ⟨g, s, ok, h⟩ => kE_d h ok (.str x)
theorem me_glob {x : Str} {v : V} {u : Value} {d : D} {pos : Pos} (hg : Gl X x) (hm : X.mg x = some u) (r : RelV v u) (hr : ∀ g, Rep X.K g v d) (hd : (x == ("__debug__" : Str)) = false := by decide) : ME X W (.Name x pos) (mC d) :=
  pe_imp (pe_glob hg hm r hd) fun σ H Q ⟨g, s, ok, h⟩ => kE_d h ok (hr g)

/-! ### two operands -/
def mBin (f : S → RV → RV → Res RV) (a b : M) : M := fun s => (mSettle a s).bind fun x s1 => (b s1).bind fun y s2 => f s2 x y
def OpS (X : Cx) (W : WX) (r : R2) (f : S → RV → RV → Res RV) : Prop :=
  ∀ (σ : St) (g : G) (s : S) (H : Hp) (Q : VK) (x y : V) (ra rb : RV), Ok X.K g s σ H → RepRV X.K g s H x ra → RepRV X.K g s H y rb → (∀ o, ra ≠ .new o) →
    PostE X.K W σ g s H (kE X.K Q) (f s ra rb) → r x y H Q
theorem RepRV.held {K : PySem.W.Frag} {g g' : G} {s s' : S} {H H' : Hp} {v : V} {r : RV} (n : ∀ o, r ≠ .new o) (t : Step g H g' H') (k : SlKeep g g') (h : RepRV K g s H v r) : RepRV K g' s' H' v r := by
  cases r with
  | d x => exact Rep.mono t.le h
  | «at» i => show v = _; rw [k i]; exact h
  | new o => exact absurd rfl (n o)
theorem settle_no {r r' : RV} (e : settle r = some r') : ∀ o, r' ≠ .new o := by
  cases r with
  | d x => cases e; exact fun o z => by cases z
  | «at» i => cases e; exact fun o z => by cases z
  | new o =>
    cases e' : frzO o with
    | none => simp only [settle, e', Option.map_none] at e; cases e
    | some d => simp only [settle, e', Option.map_some] at e; cases e; exact fun o z => by cases z
/-- the settled reading of a part -/
theorem tM_settle {K : PySem.W.Frag} {m : M} {σ : St} {H : Hp} {Q : VK} {g : G} {s : S} {k : RV → G → S → Hp → Prop} (ok : Ok K g s σ H)
    (h : PostE K W σ g s H k (mSettle m s)) (q : ∀ r g' s' H' v, Step g H g' H' → SlKeep g g' → Ok K g' s' σ H' → RepRV K g' s' H' v r → (∀ o, r ≠ .new o) → k r g' s' H' → Q v H') : tM K W m σ H Q := by
  refine ⟨g, s, ok, (PostE.bind h).mono fun r g1 s1 H1 t1 k1 o1 h1 v rv => ?_⟩
  cases e : settle r with
  | none => rw [e] at h1; exact h1.elim
  | some r' =>
    rw [e] at h1
    obtain ⟨g2, t2, k2, o2, rv2⟩ := settle_ok o1 rv e
    have h2 := h1 g2 H1 t2 k2 o2
    exact q r' g2 s1 H1 v (t1.trans t2) (k1.trans k2) o2 rv2 (settle_no e) h2
theorem tOp_of {r : R2} {f : S → RV → RV → Res RV} {ma mb : M} (hs : OpS X W r f) {σ : St} {H : Hp} {Q : VK} {g : G} {s : S} (ok : Ok X.K g s σ H)
    (h : PostE X.K W σ g s H (kE X.K Q) (mBin f ma mb s)) : tOp r (tM X.K W ma) (tM X.K W mb) σ H Q := by
  refine tM_settle ok (PostE.bind h) fun x g1 s1 H1 v t1 k1 o1 rv nn h1 => ?_
  refine ⟨g1, s1, o1, (PostE.bind h1).mono fun y g2 s2 H2 t2 k2 o2 h2 u ru => ?_⟩
  exact hs σ g2 s2 H2 Q v u x y o2 (rv.held nn t2 k2) ru nn h2
variable {a b : Expr} {ma mb : M} {pos : Pos}
theorem me_bin {op : Operator} {r : R2} {f : S → RV → RV → Res RV} (ho : OpR X (binaryOp op) r) (hs : OpS X W r f) (ha : ME X W a ma) (hb : ME X W b mb) : ME X W (.BinOp a op b pos) (mBin f ma mb) :=
  pe_imp (pe_op ho ha hb) fun _ _ _ ⟨_, _, ok, h⟩ => tOp_of hs ok h
theorem me_cmp {op : CmpOp} {r : R2} {f : S → RV → RV → Res RV} (ho : OpR X (compareOp op) r) (hs : OpS X W r f) (ha : ME X W a ma) (hb : ME X W b mb) (hm : behindInMarks op b = false) : ME X W (.Compare a [op] [b] pos) (mBin f ma mb) :=
  pe_imp (pe_cmpR ho ha hb hm) fun _ _ _ ⟨_, _, ok, h⟩ => tOp_of hs ok h
end
end MI
/-! # Operations on values -/
namespace MI
open PySem L2

def asLst (s : S) : RV → Option (List D)
  | .d (.lst xs) => some xs
  | .at i => match s.env[i]? with
    | some (.own (.lst xs)) => some xs
    | _ => none
  | .d (.ref n) => match s.gl[n]? with
    | some (.lst xs) => some xs
    | _ => none
  | .new (.lst xs) => some xs
  | _ => none
def asDic (s : S) : RV → Option (List (Key × D))
  | .d (.dic xs) => some xs
  | .at i => match s.env[i]? with
    | some (.own (.dic xs)) => some xs
    | _ => none
  | .d (.ref n) => match s.gl[n]? with
    | some (.dic xs) => some xs
    | _ => none
  | .new (.dic xs) => some xs
  | _ => none
def asTup : RV → Option (List D)
  | .d (.tup xs) => some xs
  | _ => none
def asInt : RV → Option Int
  | .d (.int i) => some i
  | _ => none
def asStr : RV → Option Str
  | .d (.str i) => some i
  | _ => none

section
variable {K : PySem.W.Frag} {W : WX} {σ : St} {g : G} {s : S} {H : Hp}
theorem asInt_ok {v : V} {r : RV} {i : Int} (h : RepRV K g s H v r) (e : asInt r = some i) : v = .int i := by
  cases r with
  | d x => cases x <;> first | (cases e; cases (show Rep K g v _ from h); rfl) | cases e
  | «at» i => cases e
  | new o => cases e
theorem asStr_ok {v : V} {r : RV} {i : Str} (h : RepRV K g s H v r) (e : asStr r = some i) : v = .str i := by
  cases r with
  | d x => cases x <;> first | (cases e; cases (show Rep K g v _ from h); rfl) | cases e
  | «at» i => cases e
  | new o => cases e
theorem asTup_ok {v : V} {r : RV} {xs : List D} (ok : Ok K g s σ H) (h : RepRV K g s H v r) (e : asTup r = some xs) : ∃ a vs, v = .ref a ∧ SqT K H a vs ∧ RepL K g vs xs := by
  cases r with
  | d x =>
    cases x with
    | tup ys =>
      cases e
      cases (show Rep K g v _ from h) with
      | tup h1 r => exact ⟨_, _, rfl, sqT_mono ok.sub h1, r⟩
    | _ => cases e
  | «at» i => cases e
  | new o => cases e
theorem cell_sl {i : Nat} {o : MObj} (e : s.env[i]? = some (.own o)) : cellOf s (.sl i) = some o := by
  show (match s.env[i]? with | some (.own o) => some o | _ => none) = _
  rw [e]
theorem asLst_ok {v : V} {r : RV} {xs : List D} (ok : Ok K g s σ H) (h : RepRV K g s H v r) (e : asLst s r = some xs) : ∃ a vs, v = .ref a ∧ H a = some (.lst vs) ∧ RepL K g vs xs := by
  cases r with
  | d x =>
    cases x with
    | lst ys =>
      cases e
      cases (show Rep K g v _ from h) with
      | lst h1 r => exact ⟨_, _, rfl, ok.sub.lst h1, r⟩
    | ref n =>
      cases (show Rep K g v _ from h) with
      | ref _ hn =>
        simp only [asLst] at e
        split at e
        · rename_i ys hg
          cases e
          obtain ⟨_, vs, h1, r⟩ := ok.cell (.gl n) (.lst xs) hg
          exact ⟨_, _, rfl, h1, r⟩
        · cases e
    | _ => cases e
  | «at» i =>
    simp only [asLst] at e
    split at e
    · rename_i ys hg
      cases e
      obtain ⟨_, vs, h1, r⟩ := ok.cell (.sl i) (.lst xs) (cell_sl hg)
      exact ⟨_, _, h, h1, r⟩
    · cases e
  | new o =>
    cases o with
    | lst ys =>
      cases e
      obtain ⟨a, hv, _, _, _, vs, h1, r⟩ := h
      exact ⟨a, vs, hv, h1, r⟩
    | _ => cases e
theorem asDic_ok {v : V} {r : RV} {xs : List (Key × D)} (ok : Ok K g s σ H) (h : RepRV K g s H v r) (e : asDic s r = some xs) : ∃ a vs, v = .ref a ∧ Rd H a (.dK vs) ∧ RepK K g vs xs := by
  cases r with
  | d x =>
    cases x with
    | dic ys =>
      cases e
      cases (show Rep K g v _ from h) with
      | dic h1 r => exact ⟨_, _, rfl, ok.sub.dic h1, r⟩
    | ref n =>
      cases (show Rep K g v _ from h) with
      | ref _ hn =>
        simp only [asDic] at e
        split at e
        · rename_i ys hg
          cases e
          obtain ⟨_, vs, h1, r⟩ := ok.cell (.gl n) (.dic xs) hg
          exact ⟨_, _, rfl, .inl h1, r⟩
        · cases e
    | _ => cases e
  | «at» i =>
    simp only [asDic] at e
    split at e
    · rename_i ys hg
      cases e
      obtain ⟨_, vs, h1, r⟩ := ok.cell (.sl i) (.dic xs) (cell_sl hg)
      exact ⟨_, _, h, .inl h1, r⟩
    · cases e
  | new o =>
    cases o with
    | dic ys =>
      cases e
      obtain ⟨a, hv, _, _, _, vs, h1, r⟩ := h
      exact ⟨a, vs, hv, .inl h1, r⟩
    | _ => cases e
end

/-! ### arithmetic -/
/-- of two operations the one that is not stuck -/
def orF (f f' : S → RV → RV → Res RV) : S → RV → RV → Res RV := fun s a b => match f s a b with
  | .stuck => f' s a b
  | r => r
theorem OpS.or {X : Cx} {W : WX} {r r' : R2} {f f' : S → RV → RV → Res RV} (h : OpS X W r f) (h' : OpS X W r' f') : OpS X W (fun x y H Q => r x y H Q ∨ r' x y H Q) (orF f f') := by
  intro σ g s H Q x y ra rb ok rx ry nn q
  unfold orF at q
  cases e : f s ra rb with
  | ok a s' => simp only [e] at q; exact .inl (h σ g s H Q x y ra rb ok rx ry nn (by rw [e]; exact q))
  | exc c p s' => simp only [e] at q; exact .inl (h σ g s H Q x y ra rb ok rx ry nn (by rw [e]; exact q))
  | stuck => simp only [e] at q; exact .inr (h' σ g s H Q x y ra rb ok rx ry nn q)
def fI (C : Int → Int → Bool) (f : Int → Int → D) : S → RV → RV → Res RV := fun s a b => match asInt a, asInt b with
  | some i, some j => if C i j = true then .ok (.d (f i j)) s else .stuck
  | _, _ => .stuck
theorem fI_ok {X : Cx} {W : WX} {C : Int → Int → Bool} {f : Int → Int → D} {C' : Int → Int → Prop} {f' : Int → Int → V} (hc : ∀ i j, C i j = true → C' i j) (hf : ∀ K g i j, Rep K g (f' i j) (f i j)) : OpS X W (rI C' f') (fI C f) := by
  intro σ g s H Q x y ra rb ok rx ry nn q
  unfold fI at q
  cases e1 : asInt ra with
  | none => simp only [e1] at q; exact q.elim
  | some i =>
    cases e2 : asInt rb with
    | none => simp only [e1, e2] at q; exact q.elim
    | some j =>
      simp only [e1, e2] at q
      by_cases h : C i j = true
      · rw [if_pos h] at q
        exact ⟨i, j, asInt_ok rx e1, asInt_ok ry e2, hc i j h, kE_d q ok (hf _ _ i j)⟩
      · rw [if_neg h] at q; exact q.elim
theorem rI0_of {g : Int → Int → V} {x y : V} {H : Hp} {Q : VK} (h : rI (fun _ _ => True) g x y H Q) : rI0 g x y H Q := by
  obtain ⟨i, j, e1, e2, _, q⟩ := h
  exact ⟨i, j, e1, e2, q⟩
theorem OpR.imp {X : Cx} {f : Value → Value → Sem Value} {r r' : R2} (h : OpR X f r) (i : ∀ x y H Q, r' x y H Q → r x y H Q) : OpR X f r' :=
  fun pins s σ H x y v u Q I rx ry q => h pins s σ H x y v u Q I rx ry (i x y H Q q)
def cT : Int → Int → Bool := fun _ _ => true
def cMul : Int → Int → Bool := fun i j => decide (i.natAbs < 2 ^ 64) || decide (j.natAbs < 2 ^ 64) || decide (i.natAbs.log2 + j.natAbs.log2 < 1000000)
def cMod : Int → Int → Bool := fun _ j => decide (0 < j)
def cFdiv : Int → Int → Bool := fun _ j => decide (0 < j) && (decide (j < 1073741824) || decide (j.natAbs.log2 < 9000))
def cPow : Int → Int → Bool := fun i j => decide (0 ≤ j) && (decide (j ≤ 1000000) && decide (i.natAbs < 2 ^ 64))
section
variable {X : Cx} {W : WX}
def opSub := fI cT fun i j => .int (i - j)
theorem os_sub : OpS X W (rI0 fun i j => .int (i - j)) opSub := fun σ g s H Q x y ra rb ok rx ry nn q => rI0_of (fI_ok (C' := fun _ _ => True) (fun _ _ _ => trivial) (fun _ _ i j => .int _) σ g s H Q x y ra rb ok rx ry nn q)
def rMul2 : R2 := fun x y H Q => rI CMul (fun i j => .int (i * j)) x y H Q ∨ rI CMulW (fun i j => .int (i * j)) x y H Q
theorem op_mul2 : OpR X (binaryOp .Mult) rMul2 := op_mul.or op_mulW
def opMulI := fI cMul fun i j => .int (i * j)
theorem os_mulI : OpS X W rMul2 opMulI := by
  intro σ g s H Q x y ra rb ok rx ry nn q
  obtain ⟨i, j, e1, e2, hc, q⟩ := fI_ok (X := X) (C' := fun i j => cMul i j = true) (f' := fun i j => V.int (i * j)) (fun _ _ h => h) (fun _ _ i j => .int _) σ g s H Q x y ra rb ok rx ry nn q
  unfold cMul at hc
  simp only [Bool.or_eq_true, decide_eq_true_eq] at hc
  rcases hc with (h | h) | h
  · exact .inl ⟨i, j, e1, e2, .inl ⟨by omega, by omega⟩, q⟩
  · exact .inl ⟨i, j, e1, e2, .inr ⟨by omega, by omega⟩, q⟩
  · exact .inr ⟨i, j, e1, e2, h, q⟩
def opMod := fI cMod fun i j => .int (i % j)
theorem os_mod : OpS X W (rI (fun _ j => 0 < j) fun i j => .int (i % j)) opMod := fI_ok (fun _ _ h => of_decide_eq_true h) (fun _ _ i j => .int _)
def rFdiv2 : R2 := fun x y H Q => rI CDiv (fun i j => .int (i / j)) x y H Q ∨ rI CDivW (fun i j => .int (i / j)) x y H Q
theorem op_fdiv2 : OpR X (binaryOp .FloorDiv) rFdiv2 := op_fdiv.or op_fdivW
def opFdiv := fI cFdiv fun i j => .int (i / j)
theorem os_fdiv : OpS X W rFdiv2 opFdiv := by
  intro σ g s H Q x y ra rb ok rx ry nn q
  obtain ⟨i, j, e1, e2, hc, q⟩ := fI_ok (X := X) (C' := fun i j => cFdiv i j = true) (f' := fun i j => V.int (i / j)) (fun _ _ h => h) (fun _ _ i j => .int _) σ g s H Q x y ra rb ok rx ry nn q
  unfold cFdiv at hc
  simp only [Bool.or_eq_true, Bool.and_eq_true, decide_eq_true_eq] at hc
  obtain ⟨h0, h | h⟩ := hc
  · exact .inl ⟨i, j, e1, e2, ⟨h0, h⟩, q⟩
  · exact .inr ⟨i, j, e1, e2, ⟨h0, h⟩, q⟩
def opPow := fI cPow fun i j => .int (i ^ j.toNat)
theorem cPow_ok (i j : Int) (h : cPow i j = true) : CPow i j := by
  unfold cPow at h
  simp only [Bool.and_eq_true, decide_eq_true_eq] at h
  exact ⟨h.1, h.2.1, h.2.2⟩
theorem os_pow : OpS X W (rI CPow fun i j => .int (i ^ j.toNat)) opPow := fI_ok cPow_ok (fun _ _ i j => .int _)
def opShl := fI cPow fun i j => .int (i * 2 ^ j.toNat)
theorem os_shl : OpS X W (rI CPow fun i j => .int (i * 2 ^ j.toNat)) opShl := fI_ok cPow_ok (fun _ _ i j => .int _)

/-! ### a + b -/
def opAddI := fI cT fun i j => .int (i + j)
theorem os_addI : OpS X W (rI0 fun i j => .int (i + j)) opAddI := fun σ g s H Q x y ra rb ok rx ry nn q => rI0_of (fI_ok (C' := fun _ _ => True) (fun _ _ _ => trivial) (fun _ _ i j => .int _) σ g s H Q x y ra rb ok rx ry nn q)
def opAddS : S → RV → RV → Res RV := fun s a b => match asStr a, asStr b with
  | some x, some y => if x.length + y.length ≤ sizeLine then .ok (.d (.str (x ++ y))) s else .stuck
  | _, _ => .stuck
theorem os_addS : OpS X W (fun x y H Q => ∃ i j, x = .str i ∧ y = .str j ∧ i.length + j.length ≤ sizeLine ∧ Q (.str (i ++ j)) H) opAddS := by
  intro σ g s H Q x y ra rb ok rx ry nn q
  unfold opAddS at q
  split at q
  · rename_i i j e1 e2
    split at q
    · rename_i h
      exact ⟨i, j, asStr_ok rx e1, asStr_ok ry e2, h, kE_d q ok (.str _)⟩
    · exact q.elim
  · exact q.elim
def opAddT : S → RV → RV → Res RV := fun s a b => match asTup a, asTup b with
  | some x, some y => if x.length + y.length ≤ sizeLine then .ok (.d (.tup (x ++ y))) s else .stuck
  | _, _ => .stuck
theorem RepL.nil_iff {K : PySem.W.Frag} {g : G} {vs : List V} {ds : List D} (r : RepL K g vs ds) : vs = [] ↔ ds = [] := by
  cases r <;> simp
theorem os_addT : OpS X W (rCatA X.K) opAddT := by
  intro σ g s H Q x y ra rb ok rx ry nn q
  unfold opAddT at q
  split at q
  · rename_i i j e1 e2
    split at q
    · rename_i h
      obtain ⟨a, vs, rfl, h1, r1⟩ := asTup_ok ok rx e1
      obtain ⟨b, ws, rfl, h2, r2⟩ := asTup_ok ok ry e2
      refine ⟨a, b, vs, ws, rfl, rfl, h1, h2, by rw [r1.length, r2.length]; exact h, fun z => ?_, fun z z' => ?_, fun z z' p hp => kE_tup q ok hp (r1.append r2)⟩
      · rw [(RepL.nil_iff r1).mp z, List.nil_append] at q
        cases rb with
        | d w =>
          cases w <;> first | cases e2
          exact kE_d q ok ry
        | «at» _ => cases e2
        | new _ => cases e2
      · rw [(RepL.nil_iff r2).mp z', List.append_nil] at q
        cases ra with
        | d w =>
          cases w <;> first | cases e1
          exact kE_d q ok rx
        | «at» _ => cases e1
        | new _ => cases e1
    · exact q.elim
  · exact q.elim
def opAddL : S → RV → RV → Res RV := fun s a b => match asLst s a, asLst s b with
  | some x, some y => if x.length + y.length ≤ sizeLine then .ok (.new (.lst (x ++ y))) s else .stuck
  | _, _ => .stuck
theorem os_addL : OpS X W rCat opAddL := by
  intro σ g s H Q x y ra rb ok rx ry nn q
  unfold opAddL at q
  split at q
  · rename_i i j e1 e2
    split at q
    · rename_i h
      obtain ⟨a, vs, rfl, h1, r1⟩ := asLst_ok ok rx e1
      obtain ⟨b, ws, rfl, h2, r2⟩ := asLst_ok ok ry e2
      exact ⟨a, b, vs, ws, rfl, rfl, h1, h2, by rw [r1.length, r2.length]; exact h, fun p hp => kE_new q ok hp ⟨_, upd_same, r1.append r2⟩⟩
    · exact q.elim
  · exact q.elim
def opAdd := orF opAddI (orF opAddS (orF opAddT opAddL))
theorem op_addA : OpR X (binaryOp .Add) (fun x y H Q => rI0 (fun i j => .int (i + j)) x y H Q ∨ (∃ i j, x = .str i ∧ y = .str j ∧ i.length + j.length ≤ sizeLine ∧ Q (.str (i ++ j)) H) ∨ rCatA X.K x y H Q ∨ rCat x y H Q) :=
  op_add.or (op_add_str.or (op_catA.or op_cat))
theorem os_add : OpS X W (fun x y H Q => rI0 (fun i j => .int (i + j)) x y H Q ∨ (∃ i j, x = .str i ∧ y = .str j ∧ i.length + j.length ≤ sizeLine ∧ Q (.str (i ++ j)) H) ∨ rCatA X.K x y H Q ∨ rCat x y H Q) opAdd :=
  os_addI.or (os_addS.or (os_addT.or os_addL))
variable {a b : Expr} {ma mb : M} {pos : Pos}
theorem me_add (ha : ME X W a ma) (hb : ME X W b mb) : ME X W (.BinOp a .Add b pos) (mBin opAdd ma mb) := me_bin op_addA os_add ha hb
theorem me_sub (ha : ME X W a ma) (hb : ME X W b mb) : ME X W (.BinOp a .Sub b pos) (mBin opSub ma mb) := me_bin op_sub os_sub ha hb
theorem me_mod (ha : ME X W a ma) (hb : ME X W b mb) : ME X W (.BinOp a .Mod b pos) (mBin opMod ma mb) := me_bin op_mod os_mod ha hb
theorem me_fdiv (ha : ME X W a ma) (hb : ME X W b mb) : ME X W (.BinOp a .FloorDiv b pos) (mBin opFdiv ma mb) := me_bin op_fdiv2 os_fdiv ha hb
theorem me_pow (ha : ME X W a ma) (hb : ME X W b mb) : ME X W (.BinOp a .Pow b pos) (mBin opPow ma mb) := me_bin op_pow os_pow ha hb
theorem me_shl (ha : ME X W a ma) (hb : ME X W b mb) : ME X W (.BinOp a .LShift b pos) (mBin opShl ma mb) := me_bin op_shl os_shl ha hb
end
end MI
/-! # Comparisons -/
namespace MI
open PySem L2

/-- what a value is as data, for the moment -/
def asD (s : S) : RV → Option D
  | .d (.ref n) => match s.gl[n]? with
    | some o => frzO o
    | none => none
  | .d x => some x
  | .at i => match s.env[i]? with
    | some (.own o) => frzO o
    | _ => none
  | .new o => frzO o
section
variable {K : PySem.W.Frag} {W : WX} {σ : St} {g : G} {s : S} {H : Hp}
theorem frz_le' {a : Addr} {u : HO} (sb : SubH g.F H) (h : H a = some u) (nf : ∀ o w, u ≠ .frz o w) : GLe g (g.frz a u) ∧ SubH (g.frz a u).F H := by
  refine ⟨⟨fun b w e => ?_, Nat.le_refl _, fun _ _ => rfl⟩, sb.upF h⟩
  · show upd g.F a u b = _
    by_cases z : b = a
    · subst z
      rw [upd_same]
      rcases sb _ _ e with q | ⟨_, _, _, q⟩
      · rw [← h]; exact q
      · rw [h] at q; cases q; exact absurd rfl (nf _ _)
    · rw [upd_ne z]; exact e
theorem frzO_rep' {a : Addr} {o : MObj} {d : D} (sb : SubH g.F H) (e : frzO o = some d) (r : ObjRep K g H a o) :
    ∃ g', GLe g g' ∧ SubH g'.F H ∧ Rep K g' (.ref a) d := by
  cases o with
  | lst xs =>
    cases e
    obtain ⟨vs, h, r⟩ := r
    obtain ⟨l, sb'⟩ := frz_le' sb h (fun _ _ z => nomatch z)
    exact ⟨_, l, sb', .lst upd_same (r.mono l)⟩
  | dic xs =>
    cases e
    obtain ⟨vs, h, r⟩ := r
    obtain ⟨l, sb'⟩ := frz_le' sb h (fun _ _ z => nomatch z)
    exact ⟨_, l, sb', .dic upd_same (r.mono l)⟩
  | ins c fs => cases e
/-- .. over any ghost behind g whose F stands in H -/
theorem asD_ok {g0 : G} {v : V} {r : RV} {d : D} (ok : Ok K g0 s σ H) (l0 : GLe g0 g) (sb : SubH g.F H) (h : RepRV K g0 s H v r) (e : asD s r = some d) : ∃ g', GLe g g' ∧ SubH g'.F H ∧ Rep K g' v d := by
  cases r with
  | d x =>
    by_cases hx : ∃ n, x = .ref n
    · obtain ⟨n, rfl⟩ := hx
      simp only [asD] at e
      split at e
      · rename_i o hg
        obtain ⟨_, q⟩ := ok.cell (.gl n) o hg
        cases (show Rep K g0 v _ from h) with
        | ref _ hn => exact frzO_rep' sb e (q.mono l0 rfl)
      · cases e
    · have e' : asD s (.d x) = some x := by cases x <;> first | rfl | exact absurd ⟨_, rfl⟩ hx
      rw [e'] at e
      cases e
      exact ⟨g, GLe.refl _, sb, Rep.mono l0 h⟩
  | «at» i =>
    simp only [asD] at e
    split at e
    · rename_i o hg
      have hv : v = .ref (g0.adr (.sl i)) := h
      subst hv
      obtain ⟨_, q⟩ := ok.cell (.sl i) o (cell_sl hg)
      exact frzO_rep' sb e (q.mono l0 rfl)
    · cases e
  | new o =>
    obtain ⟨a, rfl, _, _, _, q⟩ := h
    exact frzO_rep' sb e (q.mono l0 rfl)
end

/-! ### == -/
def eqAll (f : D → D → Option Bool) : List D → List D → Option Bool
  | [], [] => some true
  | x :: xs, y :: ys => match f x y, eqAll f xs ys with
    | some a, some b => some (a && b)
    | _, _ => none
  | [], _ :: _ => some false
  | _ :: _, [] => some false
def eqS : D → D → Option Bool
  | .non, .non => some true
  | .non, .bl _ => some false
  | .non, .int _ => some false
  | .non, .str _ => some false
  | .bl _, .non => some false
  | .bl a, .bl b => some (a == b)
  | .bl a, .int j => some ((if a then 1 else 0) == j)
  | .bl _, .str _ => some false
  | .int _, .non => some false
  | .int i, .bl b => some (i == (if b then 1 else 0))
  | .int i, .int j => some (i == j)
  | .int _, .str _ => some false
  | .str _, .non => some false
  | .str _, .bl _ => some false
  | .str _, .int _ => some false
  | .str x, .str y => some (x == y)
  | _, _ => none
/-- Python's == of data nested below n; none: not told -/
def eqvO : Nat → D → D → Option Bool
  | 0, x, y => eqS x y
  | n + 1, .tup xs, .tup ys => eqAll (eqvO n) xs ys
  | n + 1, .lst xs, .lst ys => eqAll (eqvO n) xs ys
  | _ + 1, .tup _, .lst _ => some false
  | _ + 1, .lst _, .tup _ => some false
  | _ + 1, .tup _, .non => some false
  | _ + 1, .tup _, .bl _ => some false
  | _ + 1, .tup _, .int _ => some false
  | _ + 1, .tup _, .str _ => some false
  | _ + 1, .lst _, .non => some false
  | _ + 1, .lst _, .bl _ => some false
  | _ + 1, .lst _, .int _ => some false
  | _ + 1, .lst _, .str _ => some false
  | _ + 1, .non, .tup _ => some false
  | _ + 1, .bl _, .tup _ => some false
  | _ + 1, .int _, .tup _ => some false
  | _ + 1, .str _, .tup _ => some false
  | _ + 1, .non, .lst _ => some false
  | _ + 1, .bl _, .lst _ => some false
  | _ + 1, .int _, .lst _ => some false
  | _ + 1, .str _, .lst _ => some false
  | _ + 1, x, y => eqS x y

section
variable {X : Cx} {pins : List (Addr × Obj)} {σ : St} {g : G} {H : Hp} {s : Shared}
theorem tup_not_lst (I : Inv X pins σ H s) {a : Addr} {vs ws : List V} (h : SqT X.K H a vs) (h' : H a = some (.lst ws)) : False := by
  rcases h with h | ⟨o, its, n, hk, _⟩
  · rcases h with h | ⟨o, h⟩ <;> (rw [h'] at h; cases h)
  · obtain ⟨_, z⟩ := I.bs a o (I.mod.kin a o hk)
    rw [h'] at z; cases z
/-- both answers: RcAt (==) and EqAt (in a comparison of parts) -/
def EqT (X : Cx) (s : Shared) (A : Around) (v u : Value) (b : Bool) : Prop := SeqAt.RcAt A s v u b ∧ SeqAt.EqAt A s v u b ∧ SeqAt.RcNeAt A s v u (!b)
theorem eqS_at {A : Around} : ∀ {x y : D} {b : Bool} {vx vy : V} {v u : Value}, eqS x y = some b → Rep X.K g vx x → Rep X.K g vy y → RelV vx v → RelV vy u → EqT X s A v u b
  | .non, .non, _, _, _, _, _, e, .non, .non, r1, r2 => by
    cases e
    cases r1
    cases r2
    exact ⟨SeqAt.RcAt.none_none, SeqAt.EqAt.same _, SeqAt.RcNeAt.none_none⟩
  | .non, .bl q, _, _, _, _, _, e, .non, .bl _, r1, r2 => by
    cases e
    cases r1
    cases r2
    exact ⟨SeqAt.RcAt.none_bool _, SeqAt.EqAt.none_bool _, SeqAt.RcNeAt.none_bool _⟩
  | .non, .int q, _, _, _, _, _, e, .non, .int _, r1, r2 => by
    cases e
    cases r1
    obtain ⟨t2, rfl⟩ := r2
    exact ⟨SeqAt.RcAt.none_int _ _, SeqAt.EqAt.none_int _ _, SeqAt.RcNeAt.none_int _ _⟩
  | .non, .str q, _, _, _, _, _, e, .non, .str _, r1, r2 => by
    cases e
    cases r1
    obtain ⟨t2, rfl⟩ := r2
    exact ⟨SeqAt.RcAt.none_str _ _, SeqAt.EqAt.none_str _ _, SeqAt.RcNeAt.none_str _ _⟩
  | .bl p, .non, _, _, _, _, _, e, .bl _, .non, r1, r2 => by
    cases e
    cases r1
    cases r2
    exact ⟨SeqAt.RcAt.bool_none _, SeqAt.EqAt.bool_none _, SeqAt.RcNeAt.bool_none _⟩
  | .bl p, .bl q, _, _, _, _, _, e, .bl _, .bl _, r1, r2 => by
    cases e
    cases r1
    cases r2
    exact ⟨SeqAt.RcAt.bool_bool _ _, SeqAt.EqAt.bool_bool _ _, SeqAt.RcNeAt.bool_bool _ _⟩
  | .bl p, .int q, _, _, _, _, _, e, .bl _, .int _, r1, r2 => by
    cases e
    cases r1
    obtain ⟨t2, rfl⟩ := r2
    exact ⟨SeqAt.RcAt.bool_int _ _ _, SeqAt.EqAt.bool_int _ _ _, SeqAt.RcNeAt.bool_int _ _ _⟩
  | .bl p, .str q, _, _, _, _, _, e, .bl _, .str _, r1, r2 => by
    cases e
    cases r1
    obtain ⟨t2, rfl⟩ := r2
    exact ⟨SeqAt.RcAt.bool_str _ _ _, SeqAt.EqAt.bool_str _ _ _, SeqAt.RcNeAt.bool_str _ _ _⟩
  | .int p, .non, _, _, _, _, _, e, .int _, .non, r1, r2 => by
    cases e
    obtain ⟨t, rfl⟩ := r1
    cases r2
    exact ⟨SeqAt.RcAt.int_none _ _, SeqAt.EqAt.int_none _ _, SeqAt.RcNeAt.int_none _ _⟩
  | .int p, .bl q, _, _, _, _, _, e, .int _, .bl _, r1, r2 => by
    cases e
    obtain ⟨t, rfl⟩ := r1
    cases r2
    exact ⟨SeqAt.RcAt.int_bool _ _ _, SeqAt.EqAt.int_bool _ _ _, SeqAt.RcNeAt.int_bool _ _ _⟩
  | .int p, .int q, _, _, _, _, _, e, .int _, .int _, r1, r2 => by
    cases e
    obtain ⟨t, rfl⟩ := r1
    obtain ⟨t2, rfl⟩ := r2
    exact ⟨SeqAt.RcAt.int_int _ _ _ _, SeqAt.EqAt.int_int _ _ _ _, SeqAt.RcNeAt.int_int _ _ _ _⟩
  | .int p, .str q, _, _, _, _, _, e, .int _, .str _, r1, r2 => by
    cases e
    obtain ⟨t, rfl⟩ := r1
    obtain ⟨t2, rfl⟩ := r2
    exact ⟨SeqAt.RcAt.int_str _ _ _ _, SeqAt.EqAt.int_str _ _ _ _, SeqAt.RcNeAt.int_str _ _ _ _⟩
  | .str p, .non, _, _, _, _, _, e, .str _, .non, r1, r2 => by
    cases e
    obtain ⟨t, rfl⟩ := r1
    cases r2
    exact ⟨SeqAt.RcAt.str_none _ _, SeqAt.EqAt.str_none _ _, SeqAt.RcNeAt.str_none _ _⟩
  | .str p, .bl q, _, _, _, _, _, e, .str _, .bl _, r1, r2 => by
    cases e
    obtain ⟨t, rfl⟩ := r1
    cases r2
    exact ⟨SeqAt.RcAt.str_bool _ _ _, SeqAt.EqAt.str_bool _ _ _, SeqAt.RcNeAt.str_bool _ _ _⟩
  | .str p, .int q, _, _, _, _, _, e, .str _, .int _, r1, r2 => by
    cases e
    obtain ⟨t, rfl⟩ := r1
    obtain ⟨t2, rfl⟩ := r2
    exact ⟨SeqAt.RcAt.str_int _ _ _ _, SeqAt.EqAt.str_int _ _ _ _, SeqAt.RcNeAt.str_int _ _ _ _⟩
  | .str p, .str q, _, _, _, _, _, e, .str _, .str _, r1, r2 => by
    cases e
    obtain ⟨t, rfl⟩ := r1
    obtain ⟨t2, rfl⟩ := r2
    exact ⟨SeqAt.RcAt.str_str _ _ _ _, SeqAt.EqAt.str_str _ _ _ _, SeqAt.RcNeAt.str_str _ _ _ _⟩
  | .tup _, _, _, _, _, _, _, e, _, _, r1, r2 => by cases e
  | .lst _, _, _, _, _, _, _, e, _, _, r1, r2 => by cases e
  | .dic _, _, _, _, _, _, _, e, _, _, r1, r2 => by cases e
  | .scr _, _, _, _, _, _, _, e, _, _, r1, r2 => by cases e
  | .ref _, _, _, _, _, _, _, e, _, _, r1, r2 => by cases e
  | .non, .tup _, _, _, _, _, _, e, _, _, r1, r2 => by cases e
  | .bl p, .tup _, _, _, _, _, _, e, _, _, r1, r2 => by cases e
  | .int p, .tup _, _, _, _, _, _, e, _, _, r1, r2 => by cases e
  | .str p, .tup _, _, _, _, _, _, e, _, _, r1, r2 => by cases e
  | .non, .lst _, _, _, _, _, _, e, _, _, r1, r2 => by cases e
  | .bl p, .lst _, _, _, _, _, _, e, _, _, r1, r2 => by cases e
  | .int p, .lst _, _, _, _, _, _, e, _, _, r1, r2 => by cases e
  | .str p, .lst _, _, _, _, _, _, e, _, _, r1, r2 => by cases e
  | .non, .dic _, _, _, _, _, _, e, _, _, r1, r2 => by cases e
  | .bl p, .dic _, _, _, _, _, _, e, _, _, r1, r2 => by cases e
  | .int p, .dic _, _, _, _, _, _, e, _, _, r1, r2 => by cases e
  | .str p, .dic _, _, _, _, _, _, e, _, _, r1, r2 => by cases e
  | .non, .ref _, _, _, _, _, _, e, _, _, r1, r2 => by cases e
  | .non, .scr _, _, _, _, _, _, e, _, _, r1, r2 => by cases e
  | .bl p, .ref _, _, _, _, _, _, e, _, _, r1, r2 => by cases e
  | .bl p, .scr _, _, _, _, _, _, e, _, _, r1, r2 => by cases e
  | .int p, .ref _, _, _, _, _, _, e, _, _, r1, r2 => by cases e
  | .int p, .scr _, _, _, _, _, _, e, _, _, r1, r2 => by cases e
  | .str p, .ref _, _, _, _, _, _, e, _, _, r1, r2 => by cases e
  | .str p, .scr _, _, _, _, _, _, e, _, _, r1, r2 => by cases e
/-- the items' answers, by places -/
theorem eqAll_at {f : D → D → Option Bool} {P : Value → Value → Bool → Prop} {g : G}
    (ih : ∀ x y b vx vy v u, f x y = some b → Rep X.K g vx x → Rep X.K g vy y → RelV vx v → RelV vy u → P v u b) :
    ∀ {xs ys : List D} {b : Bool} {vs ws : List V} {us zs : List Value}, eqAll f xs ys = some b → RepL X.K g vs xs → RepL X.K g ws ys → Vals vs us → Vals ws zs →
      ∃ e : Nat → Bool, (∀ j (h1 : j < us.length) (h2 : j < zs.length), P us[j] zs[j] (e j)) ∧ b = ((List.range (min us.length zs.length)).all e && us.length == zs.length)
  | [], [], b, _, _, _, _, h, .nil, .nil, .nil, .nil => by
    cases h
    exact ⟨fun _ => true, fun j h1 => absurd h1 (Nat.not_lt_zero _), rfl⟩
  | [], _ :: _, b, _, _, _, _, h, .nil, .cons _ _, .nil, .cons _ _ => by
    cases h
    exact ⟨fun _ => true, fun j h1 => absurd h1 (Nat.not_lt_zero _), by simp⟩
  | _ :: _, [], b, _, _, _, _, h, .cons _ _, .nil, .cons _ _, .nil => by
    cases h
    exact ⟨fun _ => true, fun j _ h1 => absurd h1 (Nat.not_lt_zero _), by simp⟩
  | x :: xs, y :: ys, b, _, _, _, _, h, .cons a1 b1, .cons a2 b2, .cons c1 d1, .cons c2 d2 => by
    simp only [eqAll] at h
    split at h
    · rename_i p q e1 e2
      cases h
      obtain ⟨e, he, hb⟩ := eqAll_at ih e2 b1 b2 d1 d2
      refine ⟨fun j => match j with | 0 => p | j + 1 => e j, fun j h1 h2 => ?_, ?_⟩
      · cases j with
        | zero => exact ih _ _ _ _ _ _ _ e1 a1 a2 c1 c2
        | succ j => exact he j (Nat.lt_of_succ_lt_succ h1) (Nat.lt_of_succ_lt_succ h2)
      · rw [hb, List.length_cons, List.length_cons, Nat.succ_min_succ, List.range_succ_eq_map, List.all_cons, List.all_map, ← Bool.and_assoc]
        congr 1
        simp
    · cases h
theorem same_true (I : Inv X pins σ H s) (sb : SubH g.F H) : ∀ (n : Nat) {x y : D} {b : Bool} {v : V}, eqvO n x y = some b → Rep X.K g v x → Rep X.K g v y → b = true := by
  have base : ∀ {x y : D} {b : Bool} {v : V}, eqS x y = some b → Rep X.K g v x → Rep X.K g v y → b = true := by
    intro x y b v e rx ry
    cases x <;> cases y <;> first
      | (cases e; done)
      | (simp only [eqS, Option.some.injEq] at e
         subst e
         cases rx <;> cases ry <;> simp)
  have all : ∀ {f : D → D → Option Bool}, (∀ {x y : D} {b : Bool} {v : V}, f x y = some b → Rep X.K g v x → Rep X.K g v y → b = true) →
      ∀ {xs ys : List D} {b : Bool} {vs : List V}, eqAll f xs ys = some b → RepL X.K g vs xs → RepL X.K g vs ys → b = true := by
    intro f ih xs
    induction xs with
    | nil =>
      intro ys b vs e r1 r2
      cases r1; cases r2; cases e; rfl
    | cons x xs ihx =>
      intro ys b vs e r1 r2
      cases r1 with
      | cons a1 b1 =>
        cases r2 with
        | cons a2 b2 =>
          simp only [eqAll] at e
          split at e
          · rename_i p q e1 e2
            cases e
            rw [ih e1 a1 a2, ihx e2 b1 b2]; rfl
          · cases e
  intro n
  induction n with
  | zero => exact base
  | succ n ih =>
    intro x y b v e rx ry
    cases x with
    | tup xs =>
      cases y with
      | tup ys =>
        cases rx with
        | tup h1 r1 =>
          cases ry with
          | tup h2 r2 =>
            have z := I.tuple_inj (sqT_mono sb h1) (sqT_mono sb h2)
            subst z
            exact all ih (show eqAll (eqvO n) _ _ = some b from e) r1 r2
      | lst ys =>
        cases rx with
        | tup h1 r1 =>
          cases ry with
          | lst h2 r2 => exact (tup_not_lst I (sqT_mono sb h1) (sb.lst h2)).elim
      | _ => first | (cases e; done) | (cases rx; cases ry)
    | lst xs =>
      cases y with
      | lst ys =>
        cases rx with
        | lst h1 r1 =>
          cases ry with
          | lst h2 r2 =>
            have z := (sb.lst h1).symm.trans (sb.lst h2)
            cases z
            exact all ih (show eqAll (eqvO n) _ _ = some b from e) r1 r2
      | tup ys =>
        cases rx with
        | lst h1 r1 =>
          cases ry with
          | tup h2 r2 => exact (tup_not_lst I (sqT_mono sb h2) (sb.lst h1)).elim
      | _ => first | (cases e; done) | (cases rx; cases ry)
    | _ => cases y <;> first | (cases e; done) | exact base e rx ry | (cases rx; cases ry)
theorem eqvO_at (I : Inv X pins σ H s) (sb : SubH g.F H) : ∀ (n : Nat) {x y : D} {b : Bool} {vx vy : V} {v u : Value} {A : Around}, A.units + n < cLine →
    eqvO n x y = some b → Rep X.K g vx x → Rep X.K g vy y → RelV vx v → RelV vy u → EqT X s A v u b := by
  intro n
  induction n with
  | zero => intro x y b vx vy v u A hu e rx ry r1 r2; exact eqS_at e rx ry r1 r2
  | succ n ih =>
    intro x y b vx vy v u A hu e rx ry r1 r2
    have hu1 : A.units < cLine := by omega
    have refs : ∀ {l m : Addr} {k : Bool}, (SeqAt.RcAt A s (.ref l) (.ref m) k ∧ SeqAt.RcNeAt A s (.ref l) (.ref m) (!k)) → (l = m → k = true) → EqT X s A (.ref l) (.ref m) k := fun {l m k} ⟨h, hn⟩ h' => by
      refine ⟨h, ?_, hn⟩
      by_cases z : l = m
      · rw [h' z, z]; exact SeqAt.EqAt.same _
      · exact SeqAt.EqAt.of_refs z h
    have step : ∀ {xs ys : List D} {vs ws : List V} {us zs : List Value} {b : Bool}, eqAll (eqvO n) xs ys = some b → RepL X.K g vs xs → RepL X.K g ws ys → Vals vs us → Vals ws zs →
        ∃ e : Nat → Bool, (∀ j (h1 : j < us.length) (h2 : j < zs.length), SeqAt.EqAt A.in1 s us[j] zs[j] (e j)) ∧ b = ((List.range (min us.length zs.length)).all e && us.length == zs.length) :=
      fun he q1 q2 q3 q4 => eqAll_at (P := fun v u b => SeqAt.EqAt A.in1 s v u b) (fun x y b vx vy v u e a1 a2 a3 a4 => (ih (A := A.in1) (by show A.units + 1 + n < cLine; omega) e a1 a2 a3 a4).2.1) he q1 q2 q3 q4
    have sT : ∀ {xs ys : List D}, x = .tup xs → y = .tup ys → EqT X s A v u b := by
      rintro xs ys rfl rfl
      have sm : ∀ {v : V}, Rep X.K g v (.tup xs) → Rep X.K g v (.tup ys) → b = true := fun h1 h2 => same_true I sb (n + 1) e h1 h2
      cases rx with
      | tup h1 q1 =>
        cases ry with
        | tup h2 q2 =>
          cases (show v = Value.ref _ from r1)
          cases (show u = Value.ref _ from r2)
          obtain ⟨us, rv, t1, _⟩ := I.tuple (sqT_mono sb h1)
          obtain ⟨zs, rz, t2, _⟩ := I.tuple (sqT_mono sb h2)
          obtain ⟨f, hf, hb⟩ := step e q1 q2 rv rz
          refine refs ?_ fun z => ?_
          · rw [hb]
            have hj : ∀ j (h1 : j < us.toArray.size) (h2 : j < zs.toArray.size), SeqAt.EqAt A.in1 s us.toArray[j] zs.toArray[j] (f j) := fun j h1 h2 => by
              have := hf j (by simpa using h1) (by simpa using h2)
              simpa using this
            have k := SeqAt.RcAt.tuples (e := f) t1 t2 hu1 hj
            have kn := SeqAt.RcNeAt.tuples (e := f) t1 t2 hu1 hj
            exact ⟨by simpa using k, by simpa using kn⟩
          · subst z
            exact sm (.tup h1 q1) (.tup h2 q2)
    have sL : ∀ {xs ys : List D}, x = .lst xs → y = .lst ys → EqT X s A v u b := by
      rintro xs ys rfl rfl
      have sm : ∀ {v : V}, Rep X.K g v (.lst xs) → Rep X.K g v (.lst ys) → b = true := fun h1 h2 => same_true I sb (n + 1) e h1 h2
      cases rx with
      | lst h1 q1 =>
        cases ry with
        | lst h2 q2 =>
          cases (show v = Value.ref _ from r1)
          cases (show u = Value.ref _ from r2)
          obtain ⟨us, rv, t1, _⟩ := I.list (.of (sb.lst h1))
          obtain ⟨zs, rz, t2, _⟩ := I.list (.of (sb.lst h2))
          obtain ⟨f, hf, hb⟩ := step e q1 q2 rv rz
          refine refs ?_ fun z => ?_
          · by_cases hl : us.length = zs.length
            · have hj : ∀ j (h1 : j < us.toArray.size) (h2 : j < zs.toArray.size), SeqAt.EqAt A.in1 s us.toArray[j] zs.toArray[j] (f j) := fun j h1 h2 => by
                have := hf j (by simpa using h1) (by simpa using h2)
                simpa using this
              have k := SeqAt.RcAt.lists (e := f) t1.isList t2.isList (by simpa using hl) hu1 hj
              have kn := SeqAt.RcNeAt.lists (e := f) t1.isList t2.isList (by simpa using hl) hu1 hj
              have : b = (List.range us.toArray.size).all f := by
                rw [hb, ← hl, Nat.min_self]; simp
              rw [this]; exact ⟨k, kn⟩
            · have : b = false := by rw [hb]; simp [hl]
              rw [this]
              exact ⟨SeqAt.RcAt.lists_lengths t1.isList t2.isList (by simpa using hl) hu1, SeqAt.RcNeAt.lists_lengths t1.isList t2.isList (by simpa using hl) hu1⟩
          · subst z
            exact sm (.lst h1 q1) (.lst h2 q2)
    -- the mixed ones
    have tupO : ∀ {xs : List D} {w : V} {c : Value}, Rep X.K g w (.tup xs) → RelV w c → ∃ a its, c = .ref a ∧ s.heap.IsTuple a its := by
      intro xs w c r rc
      cases r with
      | tup h q =>
        cases (show c = Value.ref _ from rc)
        obtain ⟨us, _, t, _⟩ := I.tuple (sqT_mono sb h)
        exact ⟨_, _, rfl, t⟩
    have lstO : ∀ {xs : List D} {w : V} {c : Value}, Rep X.K g w (.lst xs) → RelV w c → ∃ a its, c = .ref a ∧ s.heap.IsList a its := by
      intro xs w c r rc
      cases r with
      | lst h q =>
        cases (show c = Value.ref _ from rc)
        obtain ⟨us, _, t, _⟩ := I.list (.of (sb.lst h))
        exact ⟨_, _, rfl, t.isList⟩
    cases x <;> cases y <;> first
      | (cases e; done)
      | exact eqS_at e rx ry r1 r2
      | exact sT rfl rfl
      | exact sL rfl rfl
      | (cases e
         obtain ⟨a, i1, rfl, t1⟩ := tupO rx r1
         obtain ⟨b, i2, rfl, t2⟩ := lstO ry r2
         exact ⟨SeqAt.RcAt.tuple_list t1 t2 hu1, SeqAt.EqAt.tuple_list t1 t2 hu1, SeqAt.RcNeAt.tuple_list t1 t2 hu1⟩)
      | (cases e
         obtain ⟨a, i1, rfl, t1⟩ := lstO rx r1
         obtain ⟨b, i2, rfl, t2⟩ := tupO ry r2
         exact ⟨SeqAt.RcAt.list_tuple t1 t2 hu1, SeqAt.EqAt.list_tuple t1 t2 hu1, SeqAt.RcNeAt.list_tuple t1 t2 hu1⟩)
      | (cases e
         obtain ⟨a, i1, rfl, t1⟩ := tupO rx r1
         cases ry
         first
           | (cases r2; first | exact ⟨SeqAt.RcAt.tuple_none t1 hu1, SeqAt.EqAt.tuple_none t1 hu1, SeqAt.RcNeAt.tuple_none t1 hu1⟩ | exact ⟨SeqAt.RcAt.tuple_bool _ t1 hu1, SeqAt.EqAt.tuple_bool _ t1 hu1, SeqAt.RcNeAt.tuple_bool _ t1 hu1⟩)
           | (obtain ⟨t, rfl⟩ := r2; first | exact ⟨SeqAt.RcAt.tuple_int _ _ t1 hu1, SeqAt.EqAt.tuple_int _ _ t1 hu1, SeqAt.RcNeAt.tuple_int _ _ t1 hu1⟩ | exact ⟨SeqAt.RcAt.tuple_str _ _ t1 hu1, SeqAt.EqAt.tuple_str _ _ t1 hu1, SeqAt.RcNeAt.tuple_str _ _ t1 hu1⟩))
      | (cases e
         obtain ⟨a, i1, rfl, t1⟩ := lstO rx r1
         cases ry
         first
           | (cases r2; first | exact ⟨SeqAt.RcAt.list_none t1 hu1, SeqAt.EqAt.list_none t1 hu1, SeqAt.RcNeAt.list_none t1 hu1⟩ | exact ⟨SeqAt.RcAt.list_bool _ t1 hu1, SeqAt.EqAt.list_bool _ t1 hu1, SeqAt.RcNeAt.list_bool _ t1 hu1⟩)
           | (obtain ⟨t, rfl⟩ := r2; first | exact ⟨SeqAt.RcAt.list_int _ _ t1 hu1, SeqAt.EqAt.list_int _ _ t1 hu1, SeqAt.RcNeAt.list_int _ _ t1 hu1⟩ | exact ⟨SeqAt.RcAt.list_str _ _ t1 hu1, SeqAt.EqAt.list_str _ _ t1 hu1, SeqAt.RcNeAt.list_str _ _ t1 hu1⟩))
      | (cases e
         obtain ⟨a, i1, rfl, t1⟩ := tupO ry r2
         cases rx
         first
           | (cases r1; first | exact ⟨SeqAt.RcAt.none_tuple t1 hu1, SeqAt.EqAt.none_tuple t1 hu1, SeqAt.RcNeAt.none_tuple t1 hu1⟩ | exact ⟨SeqAt.RcAt.bool_tuple _ t1 hu1, SeqAt.EqAt.bool_tuple _ t1 hu1, SeqAt.RcNeAt.bool_tuple _ t1 hu1⟩)
           | (obtain ⟨t, rfl⟩ := r1; first | exact ⟨SeqAt.RcAt.int_tuple _ _ t1 hu1, SeqAt.EqAt.int_tuple _ _ t1 hu1, SeqAt.RcNeAt.int_tuple _ _ t1 hu1⟩ | exact ⟨SeqAt.RcAt.str_tuple _ _ t1 hu1, SeqAt.EqAt.str_tuple _ _ t1 hu1, SeqAt.RcNeAt.str_tuple _ _ t1 hu1⟩))
      | (cases e
         obtain ⟨a, i1, rfl, t1⟩ := lstO ry r2
         cases rx
         first
           | (cases r1; first | exact ⟨SeqAt.RcAt.none_list t1 hu1, SeqAt.EqAt.none_list t1 hu1, SeqAt.RcNeAt.none_list t1 hu1⟩ | exact ⟨SeqAt.RcAt.bool_list _ t1 hu1, SeqAt.EqAt.bool_list _ t1 hu1, SeqAt.RcNeAt.bool_list _ t1 hu1⟩)
           | (obtain ⟨t, rfl⟩ := r1; first | exact ⟨SeqAt.RcAt.int_list _ _ t1 hu1, SeqAt.EqAt.int_list _ _ t1 hu1, SeqAt.RcNeAt.int_list _ _ t1 hu1⟩ | exact ⟨SeqAt.RcAt.str_list _ _ t1 hu1, SeqAt.EqAt.str_list _ _ t1 hu1, SeqAt.RcNeAt.str_list _ _ t1 hu1⟩))
end

section
variable {X : Cx} {W : WX}
def rEqM (K : PySem.W.Frag) (neg : Bool) : R2 := fun x y H Q => ∃ g dx dy b, SubH g.F H ∧ Rep K g x dx ∧ Rep K g y dy ∧ eqvO 40 dx dy = some b ∧ Q (.bl (b != neg)) H
theorem op_neM (hu : X.A.units + 64 < cLine) : OpR X (compareOp .NotEq) (rEqM X.K true) := by
  intro pins s σ H x y v u Q I rx ry ⟨g, dx, dy, b, sb, h1, h2, e, q⟩
  refine (eqvO_at I sb 40 (A := X.A) (by omega) e h1 h2 rx ry).2.2 X.prog X.w X.xe _ ⟨.bl (!b), H, I, rfl, ?_⟩
  have : (b != true) = !b := by cases b <;> rfl
  rw [this] at q; exact q
theorem op_eqM (hu : X.A.units + 64 < cLine) : OpR X (compareOp .Eq) (rEqM X.K false) := by
  intro pins s σ H x y v u Q I rx ry ⟨g, dx, dy, b, sb, h1, h2, e, q⟩
  refine (eqvO_at I sb 40 (A := X.A) (by omega) e h1 h2 rx ry).1 X.prog X.w X.xe _ ⟨.bl b, H, I, rfl, ?_⟩
  have : (b != false) = b := by cases b <;> rfl
  rw [this] at q; exact q
end
end MI
/-! # Comparisons as expressions and tests; and, or, not; a if t else b -/
namespace MI
open PySem L2

section
variable {X : Cx} {W : WX}
def opEq (neg : Bool) : S → RV → RV → Res RV := fun s a b => match asD s a, asD s b with
  | some x, some y => match eqvO 40 x y with
    | some r => .ok (.d (.bl (r != neg))) s
    | none => .stuck
  | _, _ => .stuck
theorem os_eq {neg : Bool} : OpS X W (rEqM X.K neg) (opEq neg) := by
  intro σ g s H Q x y ra rb ok rx ry nn q
  unfold opEq at q
  split at q
  · rename_i dx dy e1 e2
    split at q
    · rename_i r e
      obtain ⟨g1, l1, sb1, r1⟩ := asD_ok ok (GLe.refl g) ok.sub rx e1
      obtain ⟨g2, l2, sb2, r2⟩ := asD_ok ok l1 sb1 ry e2
      exact ⟨g2, dx, dy, r, sb2, r1.mono l2, r2, e, kE_d q ok (.bl _)⟩
    · exact q.elim
  · exact q.elim
/-! ### <, <=, >, >= of ints and texts -/
def fS (f : Str → Str → Bool) : S → RV → RV → Res RV := fun s a b => match asStr a, asStr b with
  | some x, some y => .ok (.d (.bl (f x y))) s
  | _, _ => .stuck
theorem fS_ok {f : Str → Str → Bool} : OpS X W (fun x y H Q => ∃ i j, x = .str i ∧ y = .str j ∧ Q (.bl (f i j)) H) (fS f) := by
  intro σ g s H Q x y ra rb ok rx ry nn q
  unfold fS at q
  split at q
  · rename_i i j e1 e2
    exact ⟨i, j, asStr_ok rx e1, asStr_ok ry e2, kE_d q ok (.bl _)⟩
  · exact q.elim
theorem fI0_ok {f : Int → Int → Bool} : OpS X W (rI0 fun i j => .bl (f i j)) (fI cT fun i j => .bl (f i j)) :=
  fun σ g s H Q x y ra rb ok rx ry nn q => rI0_of (fI_ok (C' := fun _ _ => True) (fun _ _ _ => trivial) (fun _ _ i j => .bl _) σ g s H Q x y ra rb ok rx ry nn q)
def strLt (x y : Str) : Bool := decide (x.cps.toList < y.cps.toList)
def opLt := orF (fI cT fun i j => .bl (decide (i < j))) (fS fun x y => strLt x y)
def opLe := orF (fI cT fun i j => .bl (decide (i ≤ j))) (fS fun x y => !strLt y x)
def opGt := orF (fI cT fun i j => .bl (decide (j < i))) (fS fun x y => strLt y x)
def opGe := orF (fI cT fun i j => .bl (decide (j ≤ i))) (fS fun x y => !strLt x y)
/-! ### in, not in, by == of data -/
def anyO (f : D → Option Bool) : List D → Option Bool
  | [] => some false
  | x :: xs => match f x, anyO f xs with
    | some a, some b => some (a || b)
    | _, _ => none
def asItems (s : S) (r : RV) : Option (List D) := match asTup r with
  | some xs => some xs
  | none => asLst s r
def opIn (neg : Bool) : S → RV → RV → Res RV := fun s a b => match asD s a, asItems s b with
  | some x, some ys => match anyO (fun y => eqvO 40 y x) ys with
    | some r => .ok (.d (.bl (r != neg))) s
    | none => .stuck
  | _, _ => .stuck
def rInM (K : PySem.W.Frag) (neg : Bool) : R2 := fun x y H Q => ∃ g a vs dx ys b, SubH g.F H ∧ y = .ref a ∧ (SqL K H a vs ∨ SqT K H a vs) ∧ Rep K g x dx ∧ RepL K g vs ys ∧ anyO (fun y => eqvO 40 y dx) ys = some b ∧ Q (.bl (b != neg)) H
end
section
variable {X : Cx} {pins : List (Addr × Obj)} {σ : St} {g : G} {H : Hp} {s : Shared}
theorem eqvO_fun (I : Inv X pins σ H s) (sb : SubH g.F H) : ∀ (n : Nat) {x x' y : D} {b b' : Bool} {v : V}, eqvO n x y = some b → eqvO n x' y = some b' → Rep X.K g v x → Rep X.K g v x' → b = b' := by
  have sc : ∀ {x x' : D} {v : V}, (∀ xs, x ≠ .tup xs) → (∀ xs, x ≠ .lst xs) → (∀ n, x ≠ .ref n) → (∀ kvs, x ≠ .dic kvs) → (∀ kvs, x ≠ .scr kvs) → Rep X.K g v x → Rep X.K g v x' → x = x' := by
    intro x x' v h1 h2 h3 h4 h5 r r'
    cases r with
    | non => cases r'; rfl
    | bl b => cases r'; rfl
    | int i => cases r'; rfl
    | str x => cases r'; rfl
    | tup _ _ => exact absurd rfl (h1 _)
    | lst _ _ => exact absurd rfl (h2 _)
    | dic _ _ => exact absurd rfl (h4 _)
    | ref n _ => exact absurd rfl (h3 _)
    | scr _ _ => exact absurd rfl (h5 _)
  have all : ∀ {f : D → D → Option Bool}, (∀ {x x' y : D} {b b' : Bool} {v : V}, f x y = some b → f x' y = some b' → Rep X.K g v x → Rep X.K g v x' → b = b') →
      ∀ {xs xs' ys : List D} {b b' : Bool} {vs : List V}, eqAll f xs ys = some b → eqAll f xs' ys = some b' → RepL X.K g vs xs → RepL X.K g vs xs' → b = b' := by
    intro f ih xs
    induction xs with
    | nil =>
      intro xs' ys b b' vs e e' r1 r2
      cases r1; cases r2
      rw [e] at e'; cases e'; rfl
    | cons x xs ihx =>
      intro xs' ys b b' vs e e' r1 r2
      cases r1 with
      | cons a1 b1 =>
        cases r2 with
        | cons a2 b2 =>
          cases ys with
          | nil => cases e; cases e'; rfl
          | cons y ys =>
            simp only [eqAll] at e e'
            split at e
            · rename_i p q e1 e2
              split at e'
              · rename_i p' q' e1' e2'
                cases e; cases e'
                rw [ih e1 e1' a1 a2, ihx e2 e2' b1 b2]
              · cases e'
            · cases e
  intro n
  induction n with
  | zero =>
    intro x x' y b b' v e e' r r'
    have := sc (x := x) (x' := x') (fun xs z => by subst z; cases y <;> cases e) (fun xs z => by subst z; cases y <;> cases e) (fun xs z => by subst z; cases y <;> cases e) (fun xs z => by subst z; cases y <;> cases e) (fun xs z => by subst z; cases y <;> cases e) r r'
    subst this
    rw [e] at e'; cases e'; rfl
  | succ n ih =>
    intro x x' y b b' v e e' r r'
    cases x with
    | tup xs =>
      cases r with
      | tup h1 r1 =>
        cases r' with
        | tup h2 r2 =>
          have z := I.tuple_inj (sqT_mono sb h1) (sqT_mono sb h2)
          subst z
          cases y with
          | tup ys => exact all (f := eqvO n) ih (show eqAll (eqvO n) _ _ = some b from e) (show eqAll (eqvO n) _ _ = some b' from e') r1 r2
          | dic _ => cases e
          | ref _ => cases e
          | scr _ => cases e
          | _ => cases e; cases e'; rfl
        | lst h2 r2 => exact (tup_not_lst I (sqT_mono sb h1) (sb.lst h2)).elim
        | dic h2 r2 => cases y <;> cases e'
        | ref n _ => cases y <;> cases e'
        | scr _ _ => cases y <;> cases e'
    | lst xs =>
      cases r with
      | lst h1 r1 =>
        cases r' with
        | lst h2 r2 =>
          have z := (sb.lst h1).symm.trans (sb.lst h2)
          cases z
          cases y with
          | lst ys => exact all (f := eqvO n) ih (show eqAll (eqvO n) _ _ = some b from e) (show eqAll (eqvO n) _ _ = some b' from e') r1 r2
          | dic _ => cases e
          | ref _ => cases e
          | scr _ => cases e
          | _ => cases e; cases e'; rfl
        | tup h2 r2 => exact (tup_not_lst I (sqT_mono sb h2) (sb.lst h1)).elim
        | dic h2 r2 => cases y <;> cases e'
        | ref n _ => cases y <;> cases e'
        | scr _ _ => cases y <;> cases e'
    | dic _ => cases y <;> cases e
    | ref _ => cases y <;> cases e
    | scr _ => cases y <;> cases e
    | _ =>
      have := sc (x' := x') (fun xs z => by cases z) (fun xs z => by cases z) (fun xs z => by cases z) (fun xs z => by cases z) (fun xs z => by cases z) r r'
      subst this
      rw [e] at e'; cases e'; rfl
theorem any_at (I : Inv X pins σ H s) (sb : SubH g.F H) {A : Around} (hu : A.units + 40 < cLine) {dx : D} {vx : V} {v : Value} (rx : Rep X.K g vx dx) (rv : RelV vx v) :
    ∀ {ys : List D} {b : Bool} {vs : List V} {us : List Value}, anyO (fun y => eqvO 40 y dx) ys = some b → RepL X.K g vs ys → Vals vs us →
      ∃ e : Value → Bool, (∀ u ∈ us, SeqAt.EqAt A s u v (e u)) ∧ b = us.any e := by
  classical
  -- a value's answer by the value alone
  let e : Value → Bool := fun u => decide (∃ w d, RelV w u ∧ Rep X.K g w d ∧ eqvO 40 d dx = some true)
  have he : ∀ {u : Value} {w : V} {d : D} {k : Bool}, RelV w u → Rep X.K g w d → eqvO 40 d dx = some k → e u = k := by
    intro u w d k r1 r2 q
    cases k with
    | true => exact decide_eq_true ⟨w, d, r1, r2, q⟩
    | false =>
      refine decide_eq_false fun ⟨w', d', r1', r2', q'⟩ => ?_
      cases r1.inj r1'
      cases eqvO_fun I sb 40 q q' r2 r2'
  suffices key : ∀ {ys : List D} {b : Bool} {vs : List V} {us : List Value}, anyO (fun y => eqvO 40 y dx) ys = some b → RepL X.K g vs ys → Vals vs us →
      (∀ u ∈ us, SeqAt.EqAt A s u v (e u)) ∧ b = us.any e by
    intro ys b vs us h r1 r2
    exact ⟨e, key h r1 r2⟩
  intro ys
  induction ys with
  | nil =>
    intro b vs us h r1 r2
    cases r1; cases r2; cases h
    exact ⟨(fun u hu => nomatch hu), rfl⟩
  | cons y ys ih =>
    intro b vs us h r1 r2
    cases r1 with
    | cons a1 b1 =>
      cases r2 with
      | cons c1 d1 =>
        simp only [anyO] at h
        split at h
        · rename_i p q e1 e2
          cases h
          obtain ⟨i1, i2⟩ := ih e2 b1 d1
          have z := (eqvO_at I sb 40 (A := A) hu e1 a1 rx c1 rv).2.1
          have ze := he c1 a1 e1
          refine ⟨fun u hu => ?_, ?_⟩
          · rcases List.mem_cons.mp hu with rfl | hu
            · rw [ze]; exact z
            · exact i1 u hu
          · rw [List.any_cons, ze, ← i2]
        · cases h
end
section
variable {X : Cx} {W : WX}
theorem op_inM (hu : X.A.units + 64 < cLine) : OpR X (compareOp .In) (rInM X.K false) := by
  intro pins s σ H x y v u Q I rx ry ⟨g, a, vs, dx, ys, b, sb, hy, hq, r1, r2, e, q⟩
  subst hy
  cases (show u = Value.ref a from ry)
  have q' : Q (.bl b) H := by
    have : (b != false) = b := by cases b <;> rfl
    rw [this] at q; exact q
  have hu' : X.A.in1.units + 40 < cLine := by show X.A.units + 1 + 40 < cLine; omega
  rcases hq with hq | hq
  · obtain ⟨its, r, pl, hz⟩ := I.list hq
    obtain ⟨f, hf, hb⟩ := any_at I sb hu' r1 rx e r2 r
    refine SeqAt.in_listAt f pl.isList (fun w hw => hf w (by simpa using hw)) ⟨.bl b, H, I, ?_, q'⟩
    show Value.bool _ = _
    rw [hb]; simp
  · obtain ⟨its, r, pl, hz⟩ := I.tuple hq
    obtain ⟨f, hf, hb⟩ := any_at I sb hu' r1 rx e r2 r
    refine SeqAt.in_tupleAt f pl (fun w hw => hf w (by simpa using hw)) ⟨.bl b, H, I, ?_, q'⟩
    show Value.bool _ = _
    rw [hb]; simp
theorem op_notInM (hu : X.A.units + 64 < cLine) : OpR X (compareOp .NotIn) (rInM X.K true) := by
  intro pins s σ H x y v u Q I rx ry ⟨g, a, vs, dx, ys, b, sb, hy, hq, r1, r2, e, q⟩
  subst hy
  cases (show u = Value.ref a from ry)
  have q' : Q (.bl (!b)) H := by
    have : (b != true) = !b := by cases b <;> rfl
    rw [this] at q; exact q
  have hu' : X.A.in1.units + 40 < cLine := by show X.A.units + 1 + 40 < cLine; omega
  rcases hq with hq | hq
  · obtain ⟨its, r, pl, hz⟩ := I.list hq
    obtain ⟨f, hf, hb⟩ := any_at I sb hu' r1 rx e r2 r
    refine SeqAt.notIn_listAt f pl.isList (fun w hw => hf w (by simpa using hw)) ⟨.bl (!b), H, I, ?_, q'⟩
    show Value.bool _ = _
    rw [hb]; simp
  · obtain ⟨its, r, pl, hz⟩ := I.tuple hq
    obtain ⟨f, hf, hb⟩ := any_at I sb hu' r1 rx e r2 r
    refine SeqAt.notIn_tupleAt f pl (fun w hw => hf w (by simpa using hw)) ⟨.bl (!b), H, I, ?_, q'⟩
    show Value.bool _ = _
    rw [hb]; simp
theorem os_in {neg : Bool} : OpS X W (rInM X.K neg) (opIn neg) := by
  intro σ g s H Q x y ra rb ok rx ry nn q
  unfold opIn at q
  split at q
  · rename_i dx ys e1 e2
    split at q
    · rename_i r e
      obtain ⟨g1, l1, sb1, r1⟩ := asD_ok ok (GLe.refl g) ok.sub rx e1
      unfold asItems at e2
      split at e2
      · rename_i zs e3
        cases e2
        obtain ⟨a, vs, rfl, h, r2⟩ := asTup_ok ok ry e3
        exact ⟨g1, a, vs, dx, ys, r, sb1, rfl, .inr h, r1, r2.mono l1, e, kE_d q ok (.bl _)⟩
      · obtain ⟨a, vs, rfl, h, r2⟩ := asLst_ok ok ry e2
        exact ⟨g1, a, vs, dx, ys, r, sb1, rfl, .inl (.of h), r1, r2.mono l1, e, kE_d q ok (.bl _)⟩
    · exact q.elim
  · exact q.elim
variable {a b c : Expr} {ma mb mc : M} {pos : Pos}
theorem me_eq (hu : X.A.units + 64 < cLine) (ha : ME X W a ma) (hb : ME X W b mb) : ME X W (.Compare a [.Eq] [b] pos) (mBin (opEq false) ma mb) := me_cmp (op_eqM hu) os_eq ha hb (nomark _)
theorem me_ne (hu : X.A.units + 64 < cLine) (ha : ME X W a ma) (hb : ME X W b mb) : ME X W (.Compare a [.NotEq] [b] pos) (mBin (opEq true) ma mb) := me_cmp (op_neM hu) os_eq ha hb (nomark _)
theorem or_lt : OpR X (compareOp .Lt) (fun x y H Q => rI0 (fun i j => .bl (decide (i < j))) x y H Q ∨ ∃ i j, x = .str i ∧ y = .str j ∧ Q (.bl (strLt i j)) H) := op_lt.or op_lt_str
theorem or_le : OpR X (compareOp .LtE) (fun x y H Q => rI0 (fun i j => .bl (decide (i ≤ j))) x y H Q ∨ ∃ i j, x = .str i ∧ y = .str j ∧ Q (.bl (!strLt j i)) H) := op_le.or op_le_str
theorem or_gt : OpR X (compareOp .Gt) (fun x y H Q => rI0 (fun i j => .bl (decide (j < i))) x y H Q ∨ ∃ i j, x = .str i ∧ y = .str j ∧ Q (.bl (strLt j i)) H) := op_gt.or op_gt_str
theorem or_ge : OpR X (compareOp .GtE) (fun x y H Q => rI0 (fun i j => .bl (decide (j ≤ i))) x y H Q ∨ ∃ i j, x = .str i ∧ y = .str j ∧ Q (.bl (!strLt i j)) H) := op_ge.or op_ge_str
theorem os_lt : OpS X W (fun x y H Q => rI0 (fun i j => .bl (decide (i < j))) x y H Q ∨ ∃ i j, x = .str i ∧ y = .str j ∧ Q (.bl (strLt i j)) H) opLt := fI0_ok.or fS_ok
theorem os_le : OpS X W (fun x y H Q => rI0 (fun i j => .bl (decide (i ≤ j))) x y H Q ∨ ∃ i j, x = .str i ∧ y = .str j ∧ Q (.bl (!strLt j i)) H) opLe := fI0_ok.or fS_ok
theorem os_gt : OpS X W (fun x y H Q => rI0 (fun i j => .bl (decide (j < i))) x y H Q ∨ ∃ i j, x = .str i ∧ y = .str j ∧ Q (.bl (strLt j i)) H) opGt := fI0_ok.or fS_ok
theorem os_ge : OpS X W (fun x y H Q => rI0 (fun i j => .bl (decide (j ≤ i))) x y H Q ∨ ∃ i j, x = .str i ∧ y = .str j ∧ Q (.bl (!strLt i j)) H) opGe := fI0_ok.or fS_ok
theorem me_lt (ha : ME X W a ma) (hb : ME X W b mb) : ME X W (.Compare a [.Lt] [b] pos) (mBin opLt ma mb) := me_cmp or_lt os_lt ha hb (nomark _)
theorem me_le (ha : ME X W a ma) (hb : ME X W b mb) : ME X W (.Compare a [.LtE] [b] pos) (mBin opLe ma mb) := me_cmp or_le os_le ha hb (nomark _)
theorem me_gt (ha : ME X W a ma) (hb : ME X W b mb) : ME X W (.Compare a [.Gt] [b] pos) (mBin opGt ma mb) := me_cmp or_gt os_gt ha hb (nomark _)
theorem me_ge (ha : ME X W a ma) (hb : ME X W b mb) : ME X W (.Compare a [.GtE] [b] pos) (mBin opGe ma mb) := me_cmp or_ge os_ge ha hb (nomark _)
theorem me_in (hu : X.A.units + 64 < cLine) (ha : ME X W a ma) (hb : ME X W b mb) (hm : behindInMarks .In b = false) : ME X W (.Compare a [.In] [b] pos) (mBin (opIn false) ma mb) := me_cmp (op_inM hu) os_in ha hb hm
theorem me_notIn (hu : X.A.units + 64 < cLine) (ha : ME X W a ma) (hb : ME X W b mb) (hm : behindInMarks .NotIn b = false) : ME X W (.Compare a [.NotIn] [b] pos) (mBin (opIn true) ma mb) := me_cmp (op_notInM hu) os_in ha hb hm
/-! ### is None -/
def isNonRV : RV → Bool
  | .d .non => true
  | _ => false
def opIsN (neg : Bool) : S → RV → RV → Res RV := fun s a b => match b with
  | .d .non => .ok (.d (.bl (isNonRV a != neg))) s
  | _ => .stuck
theorem isN_dec {K : PySem.W.Frag} {g : G} {s : S} {H : Hp} {x : V} {ra : RV} (h : RepRV K g s H x ra) : decide (x = .non) = isNonRV ra := by
  cases ra with
  | d y => cases (show Rep K g x y from h) <;> rfl
  | «at» i => cases (show x = _ from h); rfl
  | new o => obtain ⟨a, rfl, _⟩ := h; rfl
theorem os_isN : OpS X W (fun x y H Q => y = .non ∧ Q (.bl (decide (x = .non))) H) (opIsN false) := by
  intro σ g s H Q x y ra rb ok rx ry nn q
  unfold opIsN at q
  split at q
  · cases (show Rep _ _ _ _ from ry)
    refine ⟨rfl, ?_⟩
    rw [isN_dec rx]
    have : ∀ k : Bool, (k != false) = k := fun k => by cases k <;> rfl
    rw [this] at q
    exact kE_d q ok (.bl _)
  · exact q.elim
theorem os_notN : OpS X W (fun x y H Q => y = .non ∧ Q (.bl (!decide (x = .non))) H) (opIsN true) := by
  intro σ g s H Q x y ra rb ok rx ry nn q
  unfold opIsN at q
  split at q
  · cases (show Rep _ _ _ _ from ry)
    refine ⟨rfl, ?_⟩
    rw [isN_dec rx]
    have : ∀ k : Bool, (k != true) = !k := fun k => by cases k <;> rfl
    rw [this] at q
    exact kE_d q ok (.bl _)
  · exact q.elim
theorem me_isN {j p} (ha : ME X W a ma) : ME X W (.Compare a [.Is] [.Constant .none j p] pos) (mBin (opIsN false) ma (mC .non)) := me_cmp op_isN os_isN ha me_non (nomark _)
theorem me_notN {j p} (ha : ME X W a ma) : ME X W (.Compare a [.IsNot] [.Constant .none j p] pos) (mBin (opIsN true) ma (mC .non)) := me_cmp op_notN os_notN ha me_non (nomark _)
end
end MI
/-! # Tests: truth, and, or, not; a if t else b; chains -/
namespace MI
open PySem L2

def truthD : D → Option Bool
  | .non => some false
  | .bl b => some b
  | .int i => some (i != 0)
  | .str x => if x.length ≤ sizeLine then some ((x.length : Int) != 0) else none
  | .tup xs => some (!xs.isEmpty)
  | .lst xs => some (!xs.isEmpty)
  | .dic _ => none
  | .ref _ => none
  | .scr xs => some (!xs.isEmpty)
def mTru (m : M) : S → Res Bool := fun s => (m s).bind fun r s1 => match (asD s1 r).bind truthD with
  | some b => .ok b s1
  | none => .stuck
def mNotT (m : S → Res Bool) : S → Res Bool := fun s => (m s).bind fun b s1 => .ok (!b) s1
def mAndT (a b : S → Res Bool) : S → Res Bool := fun s => (a s).bind fun c s1 => if c = true then b s1 else .ok false s1
def mOrT (a b : S → Res Bool) : S → Res Bool := fun s => (a s).bind fun c s1 => if c = true then .ok true s1 else b s1
/-- a test's answer as a value -/
def mVal (m : S → Res Bool) : M := fun s => (m s).bind fun b s1 => .ok (.d (.bl b)) s1
def mIf (t : S → Res Bool) (a b : M) : M := fun s => (t s).bind fun c s1 => if c = true then a s1 else b s1
/-- a bool alone -/
def mBl (m : M) : S → Res Bool := fun s => (m s).bind fun r s1 => match r with
  | .d (.bl b) => .ok b s1
  | _ => .stuck
section
variable {K : PySem.W.Frag} {W : WX} {σ : St} {g : G} {s : S} {H : Hp}
theorem isEmpty_L {vs : List V} {ds : List D} (r : RepL K g vs ds) : vs.isEmpty = ds.isEmpty := by cases r <;> rfl
theorem isEmpty_K {vs : List (Key × V)} {ds : List (Key × D)} (r : RepK K g vs ds) : vs.isEmpty = ds.isEmpty := by cases r <;> rfl
theorem truth_ok {v : V} {r : RV} {b : Bool} (ok : Ok K g s σ H) (h : RepRV K g s H v r) (e : (asD s r).bind truthD = some b) : TruV K v H b := by
  cases e1 : asD s r with
  | none => rw [e1] at e; cases e
  | some d =>
    rw [e1] at e
    have e2 : truthD d = some b := e
    obtain ⟨g1, l, sb, rp⟩ := asD_ok ok (GLe.refl g) ok.sub h e1
    cases rp with
    | non => cases e2; rfl
    | bl c => cases e2; rfl
    | int i => cases e2; rfl
    | str x =>
      simp only [truthD] at e2
      split at e2
      · rename_i hl
        cases e2
        exact ⟨hl, rfl⟩
      · cases e2
    | tup h1 r1 => cases e2; exact .inr (.inl ⟨_, sqT_mono sb h1, by rw [isEmpty_L r1]⟩)
    | lst h1 r1 => cases e2; exact .inl ⟨_, .of (sb.lst h1), by rw [isEmpty_L r1]⟩
    | dic h1 r1 => cases e2
    | ref n hn => cases e2
    | scr h1 r1 => cases e2; exact .inl ⟨_, sqL_mono sb h1, by rw [isEmpty_L r1]⟩
end
section
variable {X : Cx} {W : WX} {a b c : Expr} {ma mb mc : M} {ta tb : S → Res Bool} {pos : Pos} {rest : List Expr}
theorem mt_val (ha : ME X W a ma) (he : ∀ whole, isTrue a X.env whole = (do let v ← whole; standAt a.pos; holding [v] (truthy v)) := by intro _; rfl) : MT X W a (mTru ma) := by
  refine pt_imp (pt_truth ha he) fun σ H Q ⟨g, s, ok, h⟩ => ?_
  refine ⟨g, s, ok, (PostE.bind h).mono fun r g1 s1 H1 t1 k1 o1 h1 v rv => ?_⟩
  cases e : (asD s1 r).bind truthD with
  | none => rw [e] at h1; exact h1.elim
  | some k => rw [e] at h1; exact ⟨k, truth_ok o1 rv e, PostE.done h1 o1⟩
/-- a comparison (or what else is a bool) as a test -/
theorem mt_cmp {op : CmpOp} {r : R2} {f : S → RV → RV → Res RV} (ho : OpR X (compareOp op) r) (hs : OpS X W r f) (ha : ME X W a ma) (hb : ME X W b mb) (hm : behindInMarks op b = false) : MT X W (.Compare a [op] [b] pos) (mBl (mBin f ma mb)) := by
  refine pt_imp (pt_cmpR ho ha hb hm) fun σ H Q ⟨g, s, ok, h⟩ => ?_
  show tOp r (tM X.K W ma) (tM X.K W mb) σ H _
  refine tOp_of hs ok ((PostE.bind h).mono fun r g1 s1 H1 t1 k1 o1 h1 v rv => ?_)
  split at h1
  · rename_i k
    cases (show Rep _ _ _ _ from rv)
    exact ⟨k, rfl, PostE.done h1 o1⟩
  · exact h1.elim
theorem mt_not (ha : MT X W a ta) : MT X W (.UnaryOp .Not a pos) (mNotT ta) := by
  refine pt_imp (L2.pt_not ha) fun σ H Q ⟨g, s, ok, h⟩ => ?_
  exact ⟨g, s, ok, (PostE.bind h).mono fun b g1 s1 H1 t1 k1 o1 h1 => PostE.done (W := W) h1 o1⟩
def MW (X : Cx) (W : WX) (e : Expr) (m : S → Res Bool) : Prop := PW X e (tMT X.K W m)
theorem pw_imp {e : Expr} {t t' : TT} (h : PW X e t) (i : ∀ σ H Q, t' σ H Q → t σ H Q) : PW X e t' :=
  ⟨fun wh pins s σ H Q I q => h.run wh pins s σ H Q I (i σ H Q q)⟩
theorem mw_and1 (ha : MT X W a ta) : MW X W (.BoolOp .And [a] pos) ta := pw_and1 ha
theorem mw_or1 (ha : MT X W a ta) : MW X W (.BoolOp .Or [a] pos) ta := pw_or1 ha
theorem mw_and (ha : MT X W a ta) (hb : MW X W (.BoolOp .And (b :: rest) pos) tb) : MW X W (.BoolOp .And (a :: b :: rest) pos) (mAndT ta tb) := by
  refine pw_imp (pw_and ha hb) fun σ H Q ⟨g, s, ok, h⟩ => ?_
  refine ⟨g, s, ok, (PostE.bind h).mono fun c g1 s1 H1 t1 k1 o1 h1 => ?_⟩
  cases c with
  | true => rw [if_pos rfl] at h1; show (if true = true then _ else _); rw [if_pos rfl]; exact ⟨g1, s1, o1, h1⟩
  | false => rw [if_neg (by decide)] at h1; show (if false = true then _ else _); rw [if_neg (by decide)]; exact PostE.done h1 o1
theorem mw_or (ha : MT X W a ta) (hb : MW X W (.BoolOp .Or (b :: rest) pos) tb) : MW X W (.BoolOp .Or (a :: b :: rest) pos) (mOrT ta tb) := by
  refine pw_imp (pw_or ha hb) fun σ H Q ⟨g, s, ok, h⟩ => ?_
  refine ⟨g, s, ok, (PostE.bind h).mono fun c g1 s1 H1 t1 k1 o1 h1 => ?_⟩
  cases c with
  | true => rw [if_pos rfl] at h1; show (if true = true then _ else _); rw [if_pos rfl]; exact PostE.done h1 o1
  | false => rw [if_neg (by decide)] at h1; show (if false = true then _ else _); rw [if_neg (by decide)]; exact ⟨g1, s1, o1, h1⟩
theorem mt_w (h : MW X W a ta) : MT X W a ta := PW.pt h
/-! ### and, or, not as values: of bools -/
def mAndV (a b : M) : M := fun s => (a s).bind fun r s1 => match r with
  | .d (.bl c) => if c = true then b s1 else .ok (.d (.bl false)) s1
  | _ => .stuck
def mOrV (a b : M) : M := fun s => (a s).bind fun r s1 => match r with
  | .d (.bl c) => if c = true then .ok (.d (.bl true)) s1 else b s1
  | _ => .stuck
def mNotV (a : M) : M := fun s => (a s).bind fun r s1 => match r with
  | .d (.bl c) => .ok (.d (.bl (!c))) s1
  | _ => .stuck
/-- not of a value, by its truth -/
def mNotVT (a : M) : M := mVal (mNotT (mTru a))
theorem me_one {op} (ha : ME X W a ma) : ME X W (.BoolOp op [a] pos) ma := pe_one ha
theorem me_and (ha : ME X W a ma) (hb : ME X W (.BoolOp .And (b :: rest) pos) mb) : ME X W (.BoolOp .And (a :: b :: rest) pos) (mAndV ma mb) := by
  refine pe_imp (pe_and ha hb) fun σ H Q ⟨g, s, ok, h⟩ => ?_
  refine ⟨g, s, ok, (PostE.bind h).mono fun r g1 s1 H1 t1 k1 o1 h1 v rv => ?_⟩
  split at h1
  · rename_i c
    cases (show Rep _ _ _ _ from rv)
    refine ⟨c, rfl, ?_⟩
    cases c with
    | true => rw [if_pos rfl] at h1; rw [if_pos rfl]; exact ⟨g1, s1, o1, h1⟩
    | false => rw [if_neg (by decide)] at h1; rw [if_neg (by decide)]; exact kE_d h1 o1 (.bl _)
  · exact h1.elim
theorem me_or (ha : ME X W a ma) (hb : ME X W (.BoolOp .Or (b :: rest) pos) mb) : ME X W (.BoolOp .Or (a :: b :: rest) pos) (mOrV ma mb) := by
  refine pe_imp (pe_or ha hb) fun σ H Q ⟨g, s, ok, h⟩ => ?_
  refine ⟨g, s, ok, (PostE.bind h).mono fun r g1 s1 H1 t1 k1 o1 h1 v rv => ?_⟩
  split at h1
  · rename_i c
    cases (show Rep _ _ _ _ from rv)
    refine ⟨c, rfl, ?_⟩
    cases c with
    | true => rw [if_pos rfl] at h1; rw [if_pos rfl]; exact kE_d h1 o1 (.bl _)
    | false => rw [if_neg (by decide)] at h1; rw [if_neg (by decide)]; exact ⟨g1, s1, o1, h1⟩
  · exact h1.elim
theorem me_not (ha : ME X W a ma) : ME X W (.UnaryOp .Not a pos) (mNotV ma) := by
  refine pe_imp (pe_not ha) fun σ H Q ⟨g, s, ok, h⟩ => ?_
  refine ⟨g, s, ok, (PostE.bind h).mono fun r g1 s1 H1 t1 k1 o1 h1 v rv => ?_⟩
  split at h1
  · rename_i c
    cases (show Rep _ _ _ _ from rv)
    exact ⟨c, rfl, kE_d h1 o1 (.bl _)⟩
  · exact h1.elim
theorem me_if {t : S → Res Bool} (hc : MT X W c t) (ha : ME X W a ma) (hb : ME X W b mb) : ME X W (.IfExp c a b pos) (mIf t ma mb) := by
  refine pe_imp (pe_ifExp hc ha hb) fun σ H Q ⟨g, s, ok, h⟩ => ?_
  refine ⟨g, s, ok, (PostE.bind h).mono fun c g1 s1 H1 t1 k1 o1 h1 => ?_⟩
  cases c with
  | true => rw [if_pos rfl] at h1; show (if true = true then _ else _); rw [if_pos rfl]; exact ⟨g1, s1, o1, h1⟩
  | false => rw [if_neg (by decide)] at h1; show (if false = true then _ else _); rw [if_neg (by decide)]; exact ⟨g1, s1, o1, h1⟩
/-! ### a op b op' c -/
def mChain (f f' : S → RV → RV → Res RV) (a b c : M) : M := fun s => (mSettle a s).bind fun x s1 => (mSettle b s1).bind fun y s2 => (f s2 x y).bind fun z s3 => match z with
  | .d (.bl k) => if k = true then (c s3).bind fun w s4 => f' s4 y w else .ok (.d (.bl false)) s3
  | _ => .stuck
theorem tChain_of {r r' : R2} {f f' : S → RV → RV → Res RV} (hs : OpS X W r f) (hs' : OpS X W r' f') {σ : St} {H : Hp} {Q : VK} {g : G} {s : S} (ok : Ok X.K g s σ H)
    (h : PostE X.K W σ g s H (kE X.K Q) (mChain f f' ma mb mc s)) : tChain r r' (tM X.K W ma) (tM X.K W mb) (tM X.K W mc) σ H Q := by
  refine tM_settle ok (PostE.bind h) fun x g1 s1 H1 v t1 k1 o1 rv nn h1 => ?_
  refine tM_settle o1 (PostE.bind h1) fun y g2 s2 H2 u t2 k2 o2 ru nn2 h2 => ?_
  refine hs σ g2 s2 H2 _ v u x y o2 (rv.held nn t2 k2) ru nn ((PostE.bind h2).mono fun z g3 s3 H3 t3 k3 o3 h3 w rw' => ?_)
  split at h3
  · rename_i k
    cases (show Rep _ _ _ _ from rw')
    refine ⟨k, rfl, ?_⟩
    cases k with
    | true =>
      rw [if_pos rfl] at h3; rw [if_pos rfl]
      refine ⟨g3, s3, o3, (PostE.bind h3).mono fun q g4 s4 H4 t4 k4 o4 h4 w rw' => ?_⟩
      have ru3 : RepRV X.K g3 s3 H3 u y := ru.held nn2 t3 k3
      have ru4 : RepRV X.K g4 s4 H4 u y := ru3.held nn2 t4 k4
      exact hs' σ g4 s4 H4 Q u w y q o4 ru4 rw' nn2 h4
    | false => rw [if_neg (by decide)] at h3; rw [if_neg (by decide)]; exact kE_d h3 o3 (.bl _)
  · exact h3.elim
theorem me_chain {op op' : CmpOp} {r r' : R2} {f f' : S → RV → RV → Res RV} (ho : OpR X (compareOp op) r) (ho' : OpR X (compareOp op') r') (hs : OpS X W r f) (hs' : OpS X W r' f') (ha : ME X W a ma) (hb : ME X W b mb) (hc : ME X W c mc)
    (hm : lastMarks [op, op'] [b, c] = false := by with_unfolding_all rfl) : ME X W (.Compare a [op, op'] [b, c] pos) (mChain f f' ma mb mc) :=
  pe_imp (pe_chain ho ho' ha hb hc hm) fun _ _ _ ⟨_, _, ok, h⟩ => tChain_of hs hs' ok h
theorem mt_chain {op op' : CmpOp} {r r' : R2} {f f' : S → RV → RV → Res RV} (ho : OpR X (compareOp op) r) (ho' : OpR X (compareOp op') r') (hs : OpS X W r f) (hs' : OpS X W r' f') (ha : ME X W a ma) (hb : ME X W b mb) (hc : ME X W c mc)
    (hm : lastMarks [op, op'] [b, c] = false := by with_unfolding_all rfl) : MT X W (.Compare a [op, op'] [b, c] pos) (mBl (mChain f f' ma mb mc)) := by
  refine pt_imp (L2.pt_chain ho ho' ha hb hc hm) fun σ H Q ⟨g, s, ok, h⟩ => ?_
  refine tChain_of hs hs' ok ((PostE.bind h).mono fun r g1 s1 H1 t1 k1 o1 h1 v rv => ?_)
  split at h1
  · rename_i k
    cases (show Rep _ _ _ _ from rv)
    exact ⟨k, rfl, PostE.done h1 o1⟩
  · exact h1.elim
end
end MI
/-! # Argument lists, displays, own functions -/
namespace MI
open PySem PySem.Spec PyProof.Rows L2

def mANil : S → Res (List D) := fun s => .ok [] s
def mACons (a : M) (r : S → Res (List D)) : S → Res (List D) := fun s => (mLeak a s).bind fun d s1 => (r s1).bind fun ds s2 => .ok (d :: ds) s2
def mTup (m : S → Res (List D)) : M := fun s => (m s).bind fun ds s1 => if ds.length ≤ sizeLine then .ok (.d (.tup ds)) s1 else .stuck
def mLst (m : S → Res (List D)) : M := fun s => (m s).bind fun ds s1 => if ds.length ≤ sizeLine then .ok (.new (.lst ds)) s1 else .stuck

section
variable {K : PySem.W.Frag} {W : WX} {σ : L2.St} {g : G} {s : S} {H : Hp}
/-- the leaked reading of a part -/
theorem tM_leak {m : M} {Q : VK} {k : D → G → S → Hp → Prop} (ok : Ok K g s σ H)
    (h : PostE K W σ g s H k (mLeak m s)) (q : ∀ d g' s' H' v, Step g H g' H' → SlKeep g g' → Ok K g' s' σ H' → Rep K g' v d → k d g' s' H' → Q v H') : tM K W m σ H Q := by
  refine ⟨g, s, ok, (PostE.bind h).mono fun r g1 s1 H1 t1 k1 o1 h1 v rv => ?_⟩
  cases e : leak r s1 with
  | none => rw [e] at h1; exact h1.elim
  | some p =>
    obtain ⟨d, s2⟩ := p
    rw [e] at h1
    obtain ⟨g2, t2, k2, o2, rv2⟩ := leak_ok o1 rv e
    exact q d g2 s2 H1 v (t1.trans t2) (k1.trans k2) o2 rv2 (h1 g2 H1 t2 k2 o2)
end
section
variable {X : Cx} {W : WX} {e : Expr} {es : List Expr} {me : M} {m : S → Res (List D)} {pos : Pos}
theorem ma_nil : MA X W [] mANil := pa_imp pa_nil fun σ H Q ⟨g, s, ok, h⟩ => PostE.done h ok _ .nil
theorem ma_cons (ha : ME X W e me) (hr : MA X W es m) (hs : starEach (e :: es) X.env = (false, eval e X.env) :: starEach es X.env := by rfl) : MA X W (e :: es) (mACons me m) := by
  refine pa_imp (pa_cons ha hr hs) fun σ H Q ⟨g, s, ok, h⟩ => ?_
  refine tM_leak ok (PostE.bind h) fun d g1 s1 H1 v t1 k1 o1 rv h1 => ?_
  refine ⟨g1, s1, o1, (PostE.bind h1).mono fun ds g2 s2 H2 t2 k2 o2 h2 vs rs => ?_⟩
  exact PostE.done h2 o2 _ (.cons (rv.mono t2.le) rs)
theorem me_tup {x1} (h : MA X W es m) : ME X W (.Tuple es x1 pos) (mTup m) := by
  refine pe_imp (pe_tup h) fun σ H Q ⟨g, s, ok, h⟩ => ?_
  refine ⟨g, s, ok, (PostE.bind h).mono fun ds g1 s1 H1 t1 k1 o1 h1 vs rs => ?_⟩
  split at h1
  · rename_i hl
    exact ⟨by rw [rs.length]; exact hl, fun p hp => kE_tup h1 o1 hp rs⟩
  · exact h1.elim
theorem me_lst (h : MA X W es m) : ME X W (.List es pos) (mLst m) := by
  refine pe_imp (pe_lst h) fun σ H Q ⟨g, s, ok, h⟩ => ?_
  refine ⟨g, s, ok, (PostE.bind h).mono fun ds g1 s1 H1 t1 k1 o1 h1 vs rs => ?_⟩
  split at h1
  · rename_i hl
    exact ⟨by rw [rs.length]; exact hl, fun p hp => kE_new h1 o1 hp ⟨_, upd_same, rs⟩⟩
  · exact h1.elim
/-- of two readings of one expression the one that is not stuck -/
def orM (a b : M) : M := fun s => match a s with
  | .stuck => b s
  | r => r
theorem pe_or2 {t t' : TE} (h : PE X e t) (h' : PE X e t') : PE X e (fun σ H Q => t σ H Q ∨ t' σ H Q) :=
  ⟨fun pins s σ H Q I q => q.elim (h.run pins s σ H Q I) (h'.run pins s σ H Q I)⟩
theorem me_alt {ma mb : M} (ha : ME X W e ma) (hb : ME X W e mb) : ME X W e (orM ma mb) := by
  refine pe_imp (pe_or2 ha hb) fun σ H Q ⟨g, s, ok, h⟩ => ?_
  unfold orM at h
  cases q : ma s with
  | ok a s' => simp only [q] at h; exact .inl ⟨g, s, ok, by rw [q]; exact h⟩
  | exc c p s' => simp only [q] at h; exact .inl ⟨g, s, ok, by rw [q]; exact h⟩
  | stuck => simp only [q] at h; exact .inr ⟨g, s, ok, h⟩
end

/-! ### own functions -/
inductive CRes where
  | ok (d : D) (gl : List MObj) | exc (c : Str) (p : D) (gl : List MObj) | stuck
abbrev Fm := List D → List MObj → CRes
/-- a function's promise, by its mirror -/
def spM (K : PySem.W.Frag) (f : Fm) : Sp := fun vs H Q E => ∃ g gl ds, Ok K g ⟨[], gl⟩ [] H ∧ RepL K g vs ds ∧ match f ds gl with
  | .ok d gl' => ∀ v g' H', Step g H g' H' → Ok K g' ⟨[], gl'⟩ [] H' → Rep K g' v d → Q v H'
  | .exc c p gl' => ∀ cls dd g' H', Step g H g' H' → Ok K g' ⟨[], gl'⟩ [] H' → ExcRep K g' H' cls dd c p → E cls dd H'
  | .stuck => False
/-- a def's body as a mirror: n parameters, N slots -/
def mDef (n N : Nat) (body : S → Res Out) : Fm := fun ds gl => if ds.length = n then (match body ⟨ds.map Slot.val ++ List.replicate (N - n) Slot.none, gl⟩ with
  | .ok (.rt d) s => .ok d s.gl
  | .ok .nx s => .ok .non s.gl
  | .ok _ _ => .stuck
  | .exc c p s => .exc c p s.gl
  | .stuck => .stuck) else .stuck
def mCall (f : Fm) (m : S → Res (List D)) : M := fun s => (m s).bind fun ds s1 => match f ds s1.gl with
  | .ok d gl => .ok (.d d) { s1 with gl := gl }
  | .exc c p gl => .exc c p { s1 with gl := gl }
  | .stuck => .stuck

section
variable {K : PySem.W.Frag} {W : WX} {σ : L2.St} {g : G} {s : S} {H : Hp}
/-- the ghost for a callee: all that is not the store's or unchanging is protected -/
def G.callee (g : G) (gl : List MObj) (H : Hp) : G := { g with P := fun a => (∃ u, H a = some u) ∧ g.F a = none ∧ ¬ ∃ n, n < gl.length ∧ g.adr (.gl n) = a }
theorem callee_le (g : G) (gl : List MObj) (H : Hp) : GLe g (g.callee gl H) := ⟨Sub.refl _, Nat.le_refl _, fun _ _ => rfl⟩
/-- the ghost behind it -/
def G.back (g g' : G) : G := { g' with P := g.P, adr := fun l => match l with
  | .sl i => g.adr (.sl i)
  | .gl n => g'.adr (.gl n) }
theorem cell_sl0 {s : S} {i : Nat} {o : MObj} (e : s.env[i]? = some (.own o)) : cellOf s (.sl i) = some o := by
  show (match s.env[i]? with | some (.own o) => some o | _ => none) = _
  rw [e]
theorem gl_cell {s : S} {n : Nat} {o : MObj} (e : cellOf s (.gl n) = some o) : n < s.gl.length := (List.getElem?_eq_some_iff.mp e).1
theorem live_gl {g : G} {gl : List MObj} {a : Addr} (l : Live g ⟨[], gl⟩ a) : ∃ n, n < gl.length ∧ g.adr (.gl n) = a := by
  obtain ⟨l, o, e, z⟩ := l
  cases l with
  | sl i => exact nomatch (show (none : Option MObj) = some o from e)
  | gl n => exact ⟨n, gl_cell (s := ⟨[], gl⟩) e, z⟩
theorem Ok.callee (ok : Ok K g s σ H) : Ok K (g.callee s.gl H) ⟨[], s.gl⟩ [] H where
  sub := ok.sub
  cell := fun l o e => by
    cases l with
    | sl i => exact nomatch (show (none : Option MObj) = some o from e)
    | gl n =>
      obtain ⟨f, r⟩ := ok.cell (.gl n) o e
      exact ⟨f, r.mono (callee_le g s.gl H) rfl⟩
  inj := fun l l' o o' e e' z => by
    cases l with
    | sl i => exact nomatch (show (none : Option MObj) = some o from e)
    | gl n =>
      cases l' with
      | sl i => exact nomatch (show (none : Option MObj) = some o' from e')
      | gl n' => exact ok.inj (.gl n) (.gl n') o o' e e' z
  env := fun i x e => nomatch e
  len := rfl
  ng := ok.ng
  prot := fun a ⟨h1, h2, h3⟩ => ⟨h1, h2, fun l => h3 (live_gl l)⟩
theorem back_le {g' : G} {H' : Hp} {gl : List MObj} (t : Step (g.callee gl H) H g' H') : GLe g (g.back g') := ⟨t.le.F, t.le.ng, t.le.adr⟩
theorem back_ge {g' : G} : GLe g' (g.back g') := ⟨Sub.refl _, Nat.le_refl _, fun _ _ => rfl⟩
theorem prot_callee {a : Addr} (ok : Ok K g s σ H) (p : g.P a) : (g.callee s.gl H).P a := by
  obtain ⟨h1, h2, h3⟩ := ok.prot a p
  refine ⟨h1, h2, fun ⟨n, hn, z⟩ => h3 ⟨.gl n, s.gl[n], ?_, z⟩⟩
  show s.gl[n]? = _
  simp [hn]
theorem Ok.back {g' : G} {H' : Hp} {gl' : List MObj} (ok : Ok K g s σ H) (t : Step (g.callee s.gl H) H g' H') (ok' : Ok K g' ⟨[], gl'⟩ [] H') :
    Step g H (g.back g') H' ∧ SlKeep g (g.back g') ∧ Ok K (g.back g') { s with gl := gl' } σ H' := by
  have P' : g'.P = (g.callee s.gl H).P := t.P
  have own : ∀ i o, s.env[i]? = some (.own o) → (g.callee s.gl H).P (g.adr (.sl i)) := by
    intro i o e
    have ce := cell_sl0 e
    obtain ⟨f, r⟩ := ok.cell _ _ ce
    refine ⟨r.some, f, fun ⟨n, hn, z⟩ => ?_⟩
    have cg : cellOf s (.gl n) = some s.gl[n] := by show s.gl[n]? = _; simp [hn]
    exact nomatch ok.inj _ _ _ _ cg ce z
  have slc : ∀ i o, cellOf { s with gl := gl' } (.sl i) = some o → s.env[i]? = some (.own o) := by
    intro i o e
    have e' : (match s.env[i]? with | some (.own o) => some o | _ => none) = some o := e
    split at e'
    · rename_i o' h
      cases e'
      exact h
    · cases e'
  have glc : ∀ n o, cellOf { s with gl := gl' } (.gl n) = some o → cellOf (⟨[], gl'⟩ : S) (.gl n) = some o := fun n o e => e
  refine ⟨⟨back_le t, rfl, fun a p => t.keep a (prot_callee ok p), t.fk⟩, fun _ => rfl, ?_⟩
  refine ⟨ok'.sub, fun l o e => ?_, fun l l' o o' e e' z => ?_, fun i x e => (ok.env i x e).mono (back_le t) (fun _ => rfl), ok.len, ok'.ng, fun a p => ?_⟩
  · cases l with
    | sl i =>
      have e1 := slc i o e
      have p := own i o e1
      obtain ⟨_, r⟩ := ok.cell _ _ (cell_sl0 e1)
      exact ⟨(ok'.prot _ (by rw [P']; exact p)).2.1, r.mono (back_le t) (t.keep _ p)⟩
    | gl n =>
      obtain ⟨f, r⟩ := ok'.cell (.gl n) o (glc n o e)
      exact ⟨f, r.mono back_ge rfl⟩
  · cases l with
    | sl i =>
      have e1 := slc i o e
      cases l' with
      | sl j => exact ok.inj _ _ _ _ (cell_sl0 e1) (cell_sl0 (slc j o' e')) z
      | gl n => exact absurd ⟨.gl n, o', glc n o' e', z.symm⟩ (ok'.prot _ (by rw [P']; exact own i o e1)).2.2
    | gl n =>
      cases l' with
      | sl j => exact absurd ⟨.gl n, o, glc n o e, z⟩ (ok'.prot _ (by rw [P']; exact own j o' (slc j o' e'))).2.2
      | gl n' => exact ok'.inj (.gl n) (.gl n') o o' (glc n o e) (glc n' o' e') z
  · have q := prot_callee ok p
    obtain ⟨h1, h2, h3⟩ := ok'.prot a (by rw [P']; exact q)
    refine ⟨h1, h2, fun ⟨l, o, e, z⟩ => ?_⟩
    cases l with
    | sl i => exact (ok.prot a p).2.2 ⟨.sl i, o, cell_sl0 (slc i o e), z⟩
    | gl n => exact h3 ⟨.gl n, o, glc n o e, z⟩
/-- a call at the level of what is wanted -/
theorem sp_call {f : Fm} {vs : List V} {ds : List D} {Q : VK} {E : XK} (ok : Ok K g s σ H) (r : RepL K g vs ds)
    (h : PostE K W σ g s H (kE K Q) (match f ds s.gl with
      | .ok d gl => .ok (.d d) { s with gl := gl }
      | .exc c p gl => .exc c p { s with gl := gl }
      | .stuck => .stuck)) (hE : ∀ cls d H, W cls d σ H → E cls d H) : spM K f vs H Q E := by
  refine ⟨g.callee s.gl H, s.gl, ds, ok.callee, r.mono (callee_le g s.gl H), ?_⟩
  cases e : f ds s.gl with
  | ok d gl' =>
    rw [e] at h
    intro v g' H' t o' rv
    obtain ⟨t2, k2, o2⟩ := ok.back t o'
    exact h _ _ t2 k2 o2 v (show Rep K (g.back g') v d from rv.mono back_ge)
  | exc c p gl' =>
    rw [e] at h
    intro cls dd g' H' t o' rv
    obtain ⟨t2, k2, o2⟩ := ok.back t o'
    exact hE _ _ _ (h cls dd _ _ t2 k2 o2 (rv.mono back_ge))
  | stuck => rw [e] at h; exact h
end
section
variable {X : Cx} {W : WX} {e : Expr} {es : List Expr} {me : M} {m : S → Res (List D)} {pos p : Pos} {k : Nat} {f : Addr} {fd : FuncData} {ps : List Str} {fm : Fm} {x : Str}
theorem me_call (F : FnOk X.prog X.w X.K X.mg X.base (L2.CX X.prog X.w) k f fd ps (spM X.K fm)) (hr : Room k X.A) (hg : Gl X x) (hm : X.mg x = some (.ref f)) (hk : PySem.W.keepIn X.K (.ref f) = true) (hb : Binds X.K fd ps []) (tk : Takes X W)
    (ha : MA X W (e :: es) m) (hdb : (x == ("__debug__" : Str)) = false := by decide) (he : starEach (e :: es) X.env = (false, eval e X.env) :: starEach es X.env := by rfl) (hpl : (backTo pos (starEach es X.env)).any (·.1) = false := by rfl) :
    ME X W (.Call (.Name x p) (e :: es) [] pos) (mCall fm m) := by
  refine pe_imp (pe_callS F hr hg hm hk hb (fun σ => passAt tk σ) ha hdb he hpl) fun σ H Q ⟨g, s, ok, h⟩ => ?_
  refine ⟨g, s, ok, (PostE.bind h).mono fun ds g1 s1 H1 t1 k1 o1 h1 vs rs => ?_⟩
  exact sp_call o1 rs h1 fun _ _ _ h => h
end

/-! ### a def keeps its mirror's promise -/
theorem Ok.drop {K : PySem.W.Frag} {σ : L2.St} {g : G} {s : S} {H : Hp} (ok : Ok K g s σ H) : Ok K g ⟨[], s.gl⟩ [] H where
  sub := ok.sub
  cell := fun l o e => by
    cases l with
    | sl i => exact nomatch (show (none : Option MObj) = some o from e)
    | gl n => exact ok.cell (.gl n) o e
  inj := fun l l' o o' e e' z => by
    cases l with
    | sl i => exact nomatch (show (none : Option MObj) = some o from e)
    | gl n =>
      cases l' with
      | sl i => exact nomatch (show (none : Option MObj) = some o' from e')
      | gl n' => exact ok.inj (.gl n) (.gl n') o o' e e' z
  env := fun i x e => nomatch e
  len := rfl
  ng := ok.ng
  prot := fun a p => by
    obtain ⟨h1, h2, h3⟩ := ok.prot a p
    refine ⟨h1, h2, fun ⟨l, o, e, z⟩ => ?_⟩
    cases l with
    | sl i => exact nomatch (show (none : Option MObj) = some o from e)
    | gl n => exact h3 ⟨.gl n, o, e, z⟩
theorem env_start {K : PySem.W.Frag} {g : G} {vs : List V} {ds : List D} {N : List Str} (r : RepL K g vs ds) {i : Nat} {x : Slot} (e : (ds.map Slot.val ++ List.replicate (N.length - ds.length) Slot.none)[i]? = some x) : SlotRep K g (L2.start N vs) i x := by
  have hl := r.length
  by_cases h : i < ds.length
  · rw [List.getElem?_append_left (by simpa using h), List.getElem?_map] at e
    obtain ⟨d, hd⟩ : ∃ d, ds[i]? = some d := ⟨_, List.getElem?_eq_getElem h⟩
    rw [hd] at e
    cases e
    obtain ⟨v, hv, rv⟩ := r.get hd
    refine ⟨v, ?_, rv⟩
    unfold L2.start
    rw [List.getElem?_append_left (by simpa [hl] using h), List.getElem?_map, hv]
    rfl
  · rw [List.getElem?_append_right (by simpa using h)] at e
    have := (List.mem_replicate.mp (List.mem_of_getElem? e)).2
    subst this
    trivial
theorem Ok.enter {K : PySem.W.Frag} {g : G} {gl : List MObj} {H : Hp} {vs : List V} {ds : List D} {N : List Str} (ok : Ok K g ⟨[], gl⟩ [] H) (r : RepL K g vs ds) (hN : ds.length ≤ N.length) :
    Ok K g ⟨ds.map Slot.val ++ List.replicate (N.length - ds.length) Slot.none, gl⟩ (L2.start N vs) H := by
  have slc : ∀ i o, cellOf ⟨ds.map Slot.val ++ List.replicate (N.length - ds.length) Slot.none, gl⟩ (.sl i) = some o → False := by
    intro i o e
    have e' : (match (ds.map Slot.val ++ List.replicate (N.length - ds.length) Slot.none)[i]? with | some (.own o) => some o | _ => none) = some o := e
    split at e'
    · rename_i o' h
      rcases List.mem_append.mp (List.mem_of_getElem? h) with z | z
      · obtain ⟨d, _, z⟩ := List.mem_map.mp z
        cases z
      · cases (List.mem_replicate.mp z).2
    · cases e'
  refine ⟨ok.sub, fun l o e => ?_, fun l l' o o' e e' z => ?_, fun i x e => env_start r e, ?_, ok.ng, fun a p => ?_⟩
  · cases l with
    | sl i => exact (slc i o e).elim
    | gl n => exact ok.cell (.gl n) o e
  · cases l with
    | sl i => exact (slc i o e).elim
    | gl n =>
      cases l' with
      | sl i => exact (slc i o' e').elim
      | gl n' => exact ok.inj (.gl n) (.gl n') o o' e e' z
  · have hl := r.length
    unfold L2.start
    simp [hl]
  · obtain ⟨h1, h2, h3⟩ := ok.prot a p
    refine ⟨h1, h2, fun ⟨l, o, e, z⟩ => ?_⟩
    cases l with
    | sl i => exact (slc i o e).elim
    | gl n => exact h3 ⟨.gl n, o, e, z⟩
theorem fn_mirror {P : Program} {w : World} {K : PySem.W.Frag} {mg : Str → Option Value} {base : Heap} {x qual : Str} {params : Arguments} {body : List Stmt} {scope : Scope} {dvs : List V} {kws : List (Str × V)} {f : Addr} {fd : FuncData} {N ps : List Str} {k : Nat} {m : S → Res Out}
    (F : FunD K x qual params body scope dvs kws f fd) (Sc : FnScope N ps scope) (hN : ps.length ≤ N.length)
    (hbody : ∀ (cdv : Value) (A : Around) (outer : List Env) (s : Shared) (H : Hp) (E : XK), Room k (A.deeper (envOfC qual scope s.heap.objs.size f cdv)) →
      MSs (cxOf (L2.CX P w) P w K mg base N qual scope f cdv A outer s H E) (fun cls d _ H => E cls d H) body m) :
    FnOk P w K mg base (L2.CX P w) (k + 1) f fd ps (spM K (mDef ps.length N.length m)) := by
  refine F.ok Sc (fun vs H Q E h => ?_) (fun cdv A outer s H vs Q E hr h => ⟨_, hbody cdv A outer s H E hr, ?_⟩)
  · obtain ⟨g, gl, ds, ok, r, h⟩ := h
    unfold mDef at h
    by_cases z : ds.length = ps.length
    · exact r.length.trans z
    · rw [if_neg z] at h; exact h.elim
  · obtain ⟨g, gl, ds, ok, r, h⟩ := h
    unfold mDef at h
    by_cases z : ds.length = ps.length
    · rw [if_pos z] at h
      have o1 := ok.enter (N := N) r (by rw [z]; exact hN)
      refine ⟨g, _, o1, ?_⟩
      rw [z]
      cases e : m ⟨ds.map Slot.val ++ List.replicate (N.length - ps.length) Slot.none, gl⟩ with
      | ok a s' =>
        rw [e] at h
        cases a with
        | nx => exact fun σ' g' H' t o' => h _ _ _ t o'.drop .non
        | rt d => exact fun v σ' g' H' t o' rv => h _ _ _ t o'.drop rv
        | bk => exact h.elim
        | ct => exact h.elim
      | exc c p s' => rw [e] at h; exact fun σ' cls d g' H' t o' rv => h _ _ _ _ t o'.drop rv
      | stuck => rw [e] at h; exact h
    · rw [if_neg z] at h; exact h.elim
end MI
/-! # Statements -/
namespace MI
open PySem L2

section
variable {K : PySem.W.Frag} {W : WX} {σ : St} {g : G} {s : S} {H : Hp} {D : Ends}
theorem PostS.nx (h : PostS K W g s H D (.ok .nx s)) (o : Ok K g s σ H) : D.nx σ H := h σ g H (Step.refl _ _) o
end
/-! ### stores to names -/
def G.put (g : G) (i : Nat) (a : Addr) : G := { g with adr := fun l => if l = .sl i then a else g.adr l }
def assign (i : Nat) : RV → S → Option S
  | .d x, s => if i < s.env.length then some { s with env := s.env.set i (.val x) } else none
  | .new o, s => if i < s.env.length then some { s with env := s.env.set i (.own o) } else none
  | .at j, s => match leak (.at j) s with
    | some (x, s1) => if i < s1.env.length then some { s1 with env := s1.env.set i (.val x) } else none
    | none => none
section
variable {K : PySem.W.Frag} {W : WX} {σ : St} {g : G} {s : S} {H : Hp}
theorem cellOf_set {i : Nat} {x : Slot} (hi : i < s.env.length) {l : Loc} {o : MObj} (h : cellOf { s with env := s.env.set i x } l = some o) :
    (l = .sl i ∧ x = .own o) ∨ (l ≠ .sl i ∧ cellOf s l = some o) := by
  cases l with
  | gl n => exact .inr ⟨(fun z => nomatch z), h⟩
  | sl j =>
    have h' : (match (s.env.set i x)[j]? with | some (.own o) => some o | _ => none) = some o := h
    by_cases z : j = i
    · subst z
      rw [List.getElem?_set_self hi] at h'
      refine .inl ⟨rfl, ?_⟩
      cases x with
      | own w => cases h'; rfl
      | _ => cases h'
    · rw [List.getElem?_set_ne (Ne.symm z)] at h'
      exact .inr ⟨fun q => z (by cases q; rfl), h'⟩
theorem Ok.setVal {i : Nat} {v : V} {x : D} (ok : Ok K g s σ H) (r : Rep K g v x) (hi : i < s.env.length) : Ok K g { s with env := s.env.set i (.val x) } (σ.set i (some v)) H := by
  have sub : ∀ {l o}, cellOf { s with env := s.env.set i (.val x) } l = some o → cellOf s l = some o := fun h => by
    rcases cellOf_set hi h with ⟨_, z⟩ | ⟨_, z⟩
    · cases z
    · exact z
  refine ⟨ok.sub, fun l o e => ok.cell l o (sub e), fun l l' o o' e e' z => ok.inj l l' o o' (sub e) (sub e') z, fun j y e => ?_, by simpa using ok.len, ok.ng, fun a p => ?_⟩
  · have hi' : i < σ.length := by rw [← ok.len]; exact hi
    by_cases z : j = i
    · subst z
      have e' : (s.env.set j (.val x))[j]? = some y := e
      rw [List.getElem?_set_self hi] at e'
      cases e'
      exact ⟨v, List.getElem?_set_self hi', r⟩
    · have e' : (s.env.set i (.val x))[j]? = some y := e
      rw [List.getElem?_set_ne (Ne.symm z)] at e'
      have := ok.env j y e'
      cases y with
      | none => trivial
      | val d => obtain ⟨w, q, r⟩ := this; exact ⟨w, by rw [List.getElem?_set_ne (Ne.symm z)]; exact q, r⟩
      | own o => show (σ.set i (some v))[j]? = _; rw [List.getElem?_set_ne (Ne.symm z)]; exact this
  · obtain ⟨h1, h2, h3⟩ := ok.prot a p
    exact ⟨h1, h2, fun ⟨l, o, e, z⟩ => h3 ⟨l, o, sub e, z⟩⟩
theorem put_le {i : Nat} {a : Addr} : GLe g (g.put i a) := by
  refine ⟨Sub.refl _, Nat.le_refl _, fun n _ => ?_⟩
  show (if Loc.gl n = Loc.sl i then a else g.adr (.gl n)) = _
  rw [if_neg (by intro z; cases z)]
theorem put_step {i : Nat} {a : Addr} : Step g H (g.put i a) H := ⟨put_le, rfl, fun _ _ => rfl, fun _ _ _ => rfl⟩
theorem put_same {i : Nat} {a : Addr} : (g.put i a).adr (.sl i) = a := if_pos rfl
theorem put_ne {i : Nat} {a : Addr} {l : Loc} (h : l ≠ .sl i) : (g.put i a).adr l = g.adr l := if_neg h
theorem Ok.setOwn {i : Nat} {a : Addr} {o : MObj} (ok : Ok K g s σ H) (hi : i < s.env.length) (n : g.F a = none) (np : ¬ g.P a) (nl : ¬ Live g s a) (q : ObjRep K g H a o) :
    Ok K (g.put i a) { s with env := s.env.set i (.own o) } (σ.set i (some (.ref a))) H := by
  have cs : ∀ {l w}, cellOf { s with env := s.env.set i (.own o) } l = some w → (l = .sl i ∧ w = o) ∨ (l ≠ .sl i ∧ cellOf s l = some w) := by
    intro l w h
    rcases cellOf_set hi h with ⟨e1, z⟩ | z
    · cases z; exact .inl ⟨e1, rfl⟩
    · exact .inr z
  refine ⟨ok.sub, fun l w e => ?_, fun l l' w w' e e' z => ?_, fun j y e => ?_, by simpa using ok.len, ok.ng, fun b p => ?_⟩
  · rcases cs e with ⟨rfl, rfl⟩ | ⟨hl, e⟩
    · rw [put_same]; exact ⟨n, q.mono put_le rfl⟩
    · rw [put_ne hl]
      obtain ⟨f, r⟩ := ok.cell l w e
      exact ⟨f, r.mono put_le rfl⟩
  · rcases cs e with ⟨e1, _⟩ | ⟨hl, e1⟩
    · rcases cs e' with ⟨e2, _⟩ | ⟨hl', e2⟩
      · rw [e1, e2]
      · rw [e1, put_same, put_ne hl'] at z
        exact absurd ⟨l', w', e2, z.symm⟩ nl
    · rcases cs e' with ⟨e2, _⟩ | ⟨hl', e2⟩
      · rw [e2, put_same, put_ne hl] at z
        exact absurd ⟨l, w, e1, z⟩ nl
      · rw [put_ne hl, put_ne hl'] at z
        exact ok.inj l l' w w' e1 e2 z
  · have hi' : i < σ.length := by rw [← ok.len]; exact hi
    by_cases z : j = i
    · subst z
      have e' : (s.env.set j (.own o))[j]? = some y := e
      rw [List.getElem?_set_self hi] at e'
      cases e'
      show (σ.set j (some (.ref a)))[j]? = _
      rw [put_same, List.getElem?_set_self hi']
    · have e' : (s.env.set i (.own o))[j]? = some y := e
      rw [List.getElem?_set_ne (Ne.symm z)] at e'
      have := ok.env j y e'
      cases y with
      | none => trivial
      | val d => obtain ⟨w, q, r⟩ := this; exact ⟨w, by rw [List.getElem?_set_ne (Ne.symm z)]; exact q, r.mono put_le⟩
      | own w =>
        show (σ.set i (some (.ref a)))[j]? = _
        rw [List.getElem?_set_ne (Ne.symm z), put_ne (fun q => z (by cases q; rfl))]; exact this
  · obtain ⟨h1, h2, h3⟩ := ok.prot b p
    refine ⟨h1, h2, fun ⟨l, w, e, z⟩ => ?_⟩
    rcases cs e with ⟨rfl, rfl⟩ | ⟨hl, e⟩
    · rw [put_same] at z
      exact np (z ▸ p)
    · rw [put_ne hl] at z
      exact h3 ⟨l, w, e, z⟩
theorem assign_ok {i : Nat} {v : V} {r : RV} {s' : S} (ok : Ok K g s σ H) (h : RepRV K g s H v r) (e : assign i r s = some s') :
    ∃ g', Step g H g' H ∧ Ok K g' s' (σ.set i (some v)) H := by
  cases r with
  | d x =>
    simp only [assign] at e
    split at e
    · rename_i hi
      cases e
      exact ⟨g, Step.refl _ _, ok.setVal h hi⟩
    · cases e
  | new o =>
    obtain ⟨a, rfl, n, np, nl, q⟩ := h
    simp only [assign] at e
    split at e
    · rename_i hi
      cases e
      exact ⟨_, put_step, ok.setOwn hi n np nl q⟩
    · cases e
  | «at» j =>
    simp only [assign] at e
    split at e
    · rename_i x s1 e1
      split at e
      · rename_i hi
        cases e
        obtain ⟨g1, t1, k1, o1, r1⟩ := leak_ok ok h e1
        exact ⟨g1, t1, o1.setVal r1 hi⟩
      · cases e
    · cases e
end

/-! ### small statements -/
def mNx : S → Res Out := fun s => .ok .nx s
def mSeq (a b : S → Res Out) : S → Res Out := fun s => match a s with
  | .ok .nx s1 => b s1
  | r => r
def mExpr (m : M) : S → Res Out := fun s => (m s).bind fun _ s1 => .ok .nx s1
def mRet (m : M) : S → Res Out := fun s => (mLeak m s).bind fun d s1 => .ok (.rt d) s1
def mRetN : S → Res Out := fun s => .ok (.rt .non) s
def mIfS (t : S → Res Bool) (a b : S → Res Out) : S → Res Out := fun s => (t s).bind fun c s1 => if c = true then a s1 else b s1
def mSet (i : Nat) (m : M) : S → Res Out := fun s => (m s).bind fun r s1 => match assign i r s1 with
  | some s2 => .ok .nx s2
  | none => .stuck
def mBrk : S → Res Out := fun s => .ok .bk s
def mCont : S → Res Out := fun s => .ok .ct s
section
variable {X : Cx} {W : WX} {e c : Expr} {me : M} {t : S → Res Bool} {st : Stmt} {a b rest : List Stmt} {ma mb : S → Res Out} {pos : Pos}
theorem mss_nil : MSs X W [] mNx := pss_imp pss_nil fun D σ H ⟨g, s, ok, h⟩ => PostS.nx h ok
theorem mss_cons (h1 : MS X W st ma) (h2 : MSs X W rest mb) : MSs X W (st :: rest) (mSeq ma mb) := by
  refine pss_imp (pss_cons h1 h2) fun D σ H ⟨g, s, ok, h⟩ => ⟨g, s, ok, ?_⟩
  unfold mSeq at h
  cases e : ma s with
  | ok o s1 =>
    simp only [e] at h
    cases o with
    | nx => exact fun σ' g' H' t o' => ⟨g', s1, o', PostS.after h t⟩
    | rt d => exact h
    | bk => exact h
    | ct => exact h
  | exc c p s1 => simp only [e] at h; exact h
  | stuck => simp only [e] at h; exact h
theorem mss_one (h1 : MS X W st ma) : MSs X W [st] ma := pss_one h1
theorem ms_pass : MS X W (.Pass pos) mNx := ps_imp ps_pass fun D σ H ⟨g, s, ok, h⟩ => PostS.nx h ok
theorem ms_break : MS X W (.Break pos) mBrk := ps_imp ps_break fun D σ H ⟨g, s, ok, h⟩ => h σ g H (Step.refl _ _) ok
theorem ms_continue : MS X W (.Continue pos) mCont := ps_imp ps_continue fun D σ H ⟨g, s, ok, h⟩ => h σ g H (Step.refl _ _) ok
theorem ms_doc {x j p p'} : MS X W (.Expr (.Constant (.str x) j p) p') mNx := ps_imp ps_doc fun D σ H ⟨g, s, ok, h⟩ => PostS.nx h ok
theorem ms_expr (he : ME X W e me) (hs : swapsWith e none pos.line X.env = pure false := by rfl) : MS X W (.Expr e pos) (mExpr me) := by
  refine ps_imp (ps_expr he hs) fun D σ H ⟨g, s, ok, h⟩ => ?_
  exact ⟨g, s, ok, (PostS.bind h).mono fun r g1 s1 H1 t1 k1 o1 h1 v rv => PostS.nx h1 o1⟩
theorem ms_ret (he : ME X W e me) : MS X W (.Return (some e) pos) (mRet me) := by
  refine ps_imp (ps_ret he) fun D σ H ⟨g, s, ok, h⟩ => ?_
  exact tM_leak ok (PostS.bind h) fun d g1 s1 H1 v t1 k1 o1 rv h1 => h1 v σ g1 H1 (Step.refl _ _) o1 rv
theorem ms_retN : MS X W (.Return none pos) mRetN := ps_imp ps_retN fun D σ H ⟨g, s, ok, h⟩ => h .non σ g H (Step.refl _ _) ok .non
theorem ms_if (hc : MT X W c t) (ha : MSs X W a ma) (hb : MSs X W b mb) : MS X W (.If c a b pos) (mIfS t ma mb) := by
  refine ps_imp (ps_if hc ha hb) fun D σ H ⟨g, s, ok, h⟩ => ?_
  refine ⟨g, s, ok, (PostS.bind h).mono fun c g1 s1 H1 t1 k1 o1 h1 => ?_⟩
  cases c with
  | true => rw [if_pos rfl] at h1; show (if true = true then _ else _); rw [if_pos rfl]; exact ⟨g1, s1, o1, h1⟩
  | false => rw [if_neg (by decide)] at h1; show (if false = true then _ else _); rw [if_neg (by decide)]; exact ⟨g1, s1, o1, h1⟩
theorem ms_set {i : Nat} {x : Str} {pos' : Pos} (he : ME X W e me) (hN : X.N.Nodup) (hi : X.N[i]? = some x := by rfl) (hx : L2.Loc X.env.scope x := by first | exact Or.inl rfl | exact Or.inr rfl)
    (hs : swapsWith e (some (.Name x pos')) pos.line X.env = pure false := by rfl) (hf : X.fn x = true ∨ X.env.scope.names.lookup x = some .local := by first | exact .inl rfl | exact .inr rfl) :
    MS X W (.Assign [.Name x pos'] e pos) (mSet i me) := by
  refine ps_imp (ps_set hN hi hx he hs hf) fun D σ H ⟨g, s, ok, h⟩ => ?_
  refine ⟨g, s, ok, (PostS.bind h).mono fun r g1 s1 H1 t1 k1 o1 h1 v rv => ?_⟩
  show D.nx (σ.set i (some v)) H1
  split at h1
  · rename_i s2 e2
    obtain ⟨g2, t2, o2⟩ := assign_ok o1 rv e2
    exact h1 _ g2 H1 t2 o2
  · exact h1.elim
end
end MI
/-! # Several values at once, stored to names -/
namespace MI
open PySem L2

inductive RepRVs (K : PySem.W.Frag) (g : G) (s : S) (H : Hp) : List V → List RV → List Addr → Prop
  | nil : RepRVs K g s H [] [] []
  | d {v : V} {x : D} {vs : List V} {rs : List RV} {L : List Addr} : Rep K g v x → RepRVs K g s H vs rs L → RepRVs K g s H (v :: vs) (.d x :: rs) L
  | new {a : Addr} {o : MObj} {vs : List V} {rs : List RV} {L : List Addr} : g.F a = none → ¬ g.P a → ¬ Live g s a → ObjRep K g H a o → a ∉ L → RepRVs K g s H vs rs L → RepRVs K g s H (.ref a :: vs) (.new o :: rs) (a :: L)
abbrev kR (K : PySem.W.Frag) (Q : List V → Hp → Prop) : List RV → G → S → Hp → Prop := fun r g s H => ∀ v L, RepRVs K g s H v r L → Q v H
def tMR (K : PySem.W.Frag) (W : WX) (m : S → Res (List RV)) : TA := fun σ H Q => ∃ g s, Ok K g s σ H ∧ PostE K W σ g s H (kR K Q) (m s)
def MR (X : Cx) (W : WX) (es : List Expr) (m : S → Res (List RV)) : Prop := PA X es (tMR X.K W m)
def mHold (a : M) : M := fun s => (a s).bind fun r s1 => match r with
  | .at i => match leak (.at i) s1 with
    | some (d, s2) => .ok (.d d) s2
    | none => .stuck
  | r => .ok r s1
def mRNil : S → Res (List RV) := fun s => .ok [] s
def mRCons (a : M) (r : S → Res (List RV)) : S → Res (List RV) := fun s => (mHold a s).bind fun x s1 => (r s1).bind fun xs s2 => .ok (x :: xs) s2
def G.hold (g : G) (a : Addr) : G := { g with P := fun b => g.P b ∨ b = a }
def G.wP (g : G) (P : Addr → Prop) : G := { g with P := P }
section
variable {K : PySem.W.Frag} {W : WX} {σ : St} {g : G} {s : S} {H : Hp}
theorem wP_le {P : Addr → Prop} : GLe g (g.wP P) := ⟨Sub.refl _, Nat.le_refl _, fun _ _ => rfl⟩
theorem wP_ge {P : Addr → Prop} : GLe (g.wP P) g := ⟨Sub.refl _, Nat.le_refl _, fun _ _ => rfl⟩
theorem Ok.wP {P : Addr → Prop} (ok : Ok K g s σ H) (h : ∀ a, P a → (∃ u, H a = some u) ∧ g.F a = none ∧ ¬ Live g s a) : Ok K (g.wP P) s σ H :=
  ⟨ok.sub, fun l o e => ⟨(ok.cell l o e).1, (ok.cell l o e).2.mono wP_le rfl⟩, ok.inj, fun i x e => (ok.env i x e).mono wP_le (SlKeep.refl _), ok.len, ok.ng, h⟩
theorem Ok.hold {a : Addr} {u : HO} (ok : Ok K g s σ H) (h : H a = some u) (n : g.F a = none) (nl : ¬ Live g s a) : Ok K (g.hold a) s σ H :=
  ok.wP (P := fun b => g.P b ∨ b = a) fun b p => by
    rcases p with p | rfl
    · exact ok.prot b p
    · exact ⟨⟨u, h⟩, n, nl⟩
theorem Ok.unhold {a : Addr} {g0 : G} (ok : Ok K g s σ H) (e : g.P = (g0.hold a).P) : Ok K (g.wP g0.P) s σ H :=
  ok.wP fun b p => ok.prot b (by rw [e]; exact .inl p)
theorem Step.unhold {a : Addr} {g' : G} {H' : Hp} (t : Step (g.hold a) H g' H') : Step g H (g'.wP g.P) H' :=
  ⟨⟨t.le.F, t.le.ng, t.le.adr⟩, rfl, fun b p => t.keep b (.inl p), t.fk⟩
theorem ObjRep.wP {P : Addr → Prop} {a : Addr} {o : MObj} (q : ObjRep K g H a o) : ObjRep K (g.wP P) H a o := q.mono wP_le rfl
theorem RepRVs.unhold {a : Addr} {vs : List V} {rs : List RV} {L : List Addr} {g0 : G} (e : g.P = (g0.hold a).P) (r : RepRVs K g s H vs rs L) : RepRVs K (g.wP g0.P) s H vs rs L ∧ a ∉ L := by
  induction r with
  | nil => exact ⟨.nil, by simp⟩
  | d x _ ih => exact ⟨.d (Rep.mono wP_le x) ih.1, ih.2⟩
  | @new b _ _ _ _ n np nl q m _ ih =>
    refine ⟨.new n (fun p => np (by rw [e]; exact .inl p)) nl q.wP m ih.1, fun z => ?_⟩
    rcases List.mem_cons.mp z with z | z
    · exact np (by rw [e]; exact .inr z.symm)
    · exact ih.2 z
theorem PostE.hold {α : Type} {k : α → G → S → Hp → Prop} {a : Addr} {r : Res α} (h : PostE K W σ g s H k r) :
    PostE K W σ (g.hold a) s H (fun b g' s' H' => k b (g'.wP g.P) s' H' ∧ H' a = H a ∧ g'.F a = none ∧ ¬ Live g' s' a ∧ g'.P = (g.hold a).P ∧ Step g H (g'.wP g.P) H' ∧ SlKeep g (g'.wP g.P)) r := by
  cases r with
  | ok b s' =>
    intro g' H' t sk o
    have pa : g'.P a := by rw [t.P]; exact .inr rfl
    obtain ⟨_, f, l⟩ := o.prot a pa
    exact ⟨h _ H' t.unhold sk (o.unhold t.P), t.keep a (.inr rfl), f, l, t.P, t.unhold, sk⟩
  | exc c p s' =>
    intro cls d g' H' t sk o rv
    exact h cls d _ H' t.unhold sk (o.unhold t.P) (rv.mono wP_le)
  | stuck => exact h
end
section
variable {X : Cx} {W : WX} {e : Expr} {es : List Expr} {me : M} {m : S → Res (List RV)} {pos : Pos}
theorem mr_nil : MR X W [] mRNil := pa_imp pa_nil fun σ H Q ⟨g, s, ok, h⟩ => PostE.done h ok _ _ .nil
theorem mr_cons (ha : ME X W e me) (hr : MR X W es m) (hs : starEach (e :: es) X.env = (false, eval e X.env) :: starEach es X.env := by rfl) : MR X W (e :: es) (mRCons me m) := by
  refine pa_imp (pa_cons ha hr hs) fun σ H Q ⟨g, s, ok, h⟩ => ?_
  refine ⟨g, s, ok, (PostE.bind (PostE.bind h)).mono fun r g1 s1 H1 t1 k1 o1 h1 v rv => ?_⟩
  have dcase : ∀ {x : D} {g2 : G} {s2 : S}, Step g1 H1 g2 H1 → SlKeep g1 g2 → Ok X.K g2 s2 σ H1 → Rep X.K g2 v x →
      PostE X.K W σ g2 s2 H1 (kR X.K Q) ((m s2).bind fun xs s3 => .ok (.d x :: xs) s3) → tMR X.K W m σ H1 (fun xs H2 => Q (v :: xs) H2) := by
    intro x g2 s2 t2 k2 o2 rx h2
    refine ⟨g2, s2, o2, (PostE.bind h2).mono fun xs g3 s3 H3 t3 k3 o3 h3 vs L rs => ?_⟩
    exact PostE.done h3 o3 _ _ (.d (rx.mono t3.le) rs)
  cases r with
  | d x => exact dcase (Step.refl _ _) (SlKeep.refl _) o1 rv (PostE.done h1 o1)
  | «at» i =>
    cases e1 : leak (.at i) s1 with
    | none => simp only [e1] at h1; exact h1.elim
    | some p =>
      obtain ⟨x, s2⟩ := p
      simp only [e1] at h1
      obtain ⟨g2, t2, k2, o2, r2⟩ := leak_ok o1 rv e1
      exact dcase t2 k2 o2 r2 (h1 g2 H1 t2 k2 o2)
  | new o =>
    obtain ⟨a, rfl, n, np, nl, q⟩ := rv
    obtain ⟨u, hu⟩ := q.some
    have h2 := PostE.done h1 o1
    refine ⟨g1.hold a, s1, o1.hold hu n nl, ((PostE.bind h2).hold (a := a)).mono fun xs g3 s3 H3 t3 k3 o3 ⟨h3, e3, f3, l3, p3, st3, sk3⟩ vs L rs => ?_⟩
    obtain ⟨rs', nm⟩ := rs.unhold p3
    have q3 : ObjRep X.K (g3.wP g1.P) H3 a o := q.mono st3.le e3
    exact PostE.done h3 (o3.unhold p3) _ _ (.new f3 np l3 q3 nm rs')
end
/-! ### stores -/
def assignAll : List Nat → List RV → S → Option S
  | [], [], s => some s
  | i :: is, r :: rs, s => match assign i r s with
    | some s1 => assignAll is rs s1
    | none => none
  | _, _, _ => none
def setAll (σ : St) : List Nat → List V → St
  | i :: is, v :: vs => setAll (σ.set i (some v)) is vs
  | _, _ => σ
section
variable {K : PySem.W.Frag} {W : WX}
theorem assignAll_ok : ∀ {is : List Nat} {vs : List V} {rs : List RV} {L : List Addr} {σ : St} {g : G} {s s' : S} {H : Hp}, Ok K g s σ H → RepRVs K g s H vs rs L → assignAll is rs s = some s' →
    ∃ g', Step g H g' H ∧ Ok K g' s' (setAll σ is vs) H := by
  intro is
  induction is with
  | nil =>
    intro vs rs L σ g s s' H ok r e
    cases r with
    | nil => cases e; exact ⟨g, Step.refl _ _, ok⟩
    | d _ _ => cases e
    | new _ _ _ _ _ _ => cases e
  | cons i is ih =>
    intro vs rs L σ g s s' H ok r e
    cases r with
    | nil => cases e
    | @d v x vs rs L rx r =>
      simp only [assignAll] at e
      split at e
      · rename_i s1 e1
        simp only [assign] at e1
        split at e1
        · rename_i hi
          cases e1
          have o1 := ok.setVal rx hi
          have r1 : RepRVs K g { s with env := s.env.set i (.val x) } H vs rs L := by
            clear ih e
            induction r with
            | nil => exact .nil
            | d x _ ih => exact .d x ih
            | new n np nl q m _ ih =>
              refine .new n np (fun ⟨l, w, z, za⟩ => nl ?_) q m ih
              rcases cellOf_set hi z with ⟨_, z⟩ | ⟨_, z⟩
              · cases z
              · exact ⟨l, w, z, za⟩
          exact ih o1 r1 e
        · cases e1
      · cases e
    | @new a o vs rs L n np nl q m r =>
      simp only [assignAll] at e
      split at e
      · rename_i s1 e1
        simp only [assign] at e1
        split at e1
        · rename_i hi
          cases e1
          have o1 := ok.setOwn hi n np nl q
          have r1 : RepRVs K (g.put i a) { s with env := s.env.set i (.own o) } H vs rs L := by
            clear ih e
            induction r with
            | nil => exact .nil
            | d x _ ih => exact .d (Rep.mono put_le x) (ih (by simpa using m))
            | @new b w _ _ _ n2 np2 nl2 q2 m2 _ ih2 =>
              have ne : b ≠ a := fun z => m (by rw [z]; exact List.mem_cons_self)
              refine .new n2 np2 (fun ⟨l, w, z, za⟩ => ?_) (q2.mono put_le rfl) m2 (ih2 fun z => m (List.mem_cons_of_mem _ z))
              rcases cellOf_set hi z with ⟨rfl, _⟩ | ⟨hl, z⟩
              · rw [put_same] at za; exact ne za.symm
              · rw [put_ne hl] at za; exact nl2 ⟨l, w, z, za⟩
          obtain ⟨g2, t2, o2⟩ := ih o1 r1 e
          exact ⟨g2, (put_step (i := i) (a := a)).trans t2, o2⟩
        · cases e1
      · cases e
end
def mParN (is : List Nat) (m : S → Res (List RV)) : S → Res Out := fun s => (m s).bind fun rs s1 => match assignAll is rs s1 with
  | some s2 => .ok .nx s2
  | none => .stuck
theorem RepRVs.len {K : PySem.W.Frag} {g : G} {s : S} {H : Hp} {vs : List V} {rs : List RV} {L : List Addr} (r : RepRVs K g s H vs rs L) : vs.length = rs.length := by
  induction r with
  | nil => rfl
  | d _ _ ih => simp [ih]
  | new _ _ _ _ _ _ ih => simp [ih]
theorem assignAll_len : ∀ {is : List Nat} {rs : List RV} {s s' : S}, assignAll is rs s = some s' → is.length = rs.length
  | [], [], _, _, _ => rfl
  | [], _ :: _, _, _, e => by cases e
  | _ :: _, [], _, _, e => by cases e
  | i :: is, r :: rs, s, s', e => by
    simp only [assignAll] at e
    split at e
    · rw [List.length_cons, List.length_cons, assignAll_len e]
    · cases e
section
variable {X : Cx} {W : WX} {a b c : Expr} {m : S → Res (List RV)}
theorem ms_par {i j : Nat} {x y : Str} {px py pt pos : Pos} {kt k2 pt2} (hc : X.calm = true) (hN : X.N.Nodup) (ha : MR X W [a, b] m) (hi : X.N[i]? = some x := by rfl) (hj : X.N[j]? = some y := by rfl) (hij : i ≠ j := by decide)
    (hx : X.env.scope.names.lookup x = some .local := by rfl) (hy : X.env.scope.names.lookup y = some .local := by rfl)
    (hw : swappedStores [.Tuple [.Name x px, .Name y py] kt pt] (.Tuple [a, b] k2 pt2) X.env = pure (some [x, y]) := by rfl)
    (hs : swapsWithSole [.Tuple [.Name x px, .Name y py] kt pt] (.Tuple [a, b] k2 pt2) pos.line X.env = pure false := by rfl) :
    MS X W (.Assign [.Tuple [.Name x px, .Name y py] kt pt] (.Tuple [a, b] k2 pt2) pos) (mParN [i, j] m) := by
  refine ps_imp (ps_par hc hN hi hj hij hx hy ha hw hs) fun D σ H ⟨g, s, ok, h⟩ => ?_
  refine ⟨g, s, ok, (PostS.bind h).mono fun rs g1 s1 H1 t1 k1 o1 h1 vs L rv => ?_⟩
  split at h1
  · rename_i s2 e
    obtain ⟨g2, t2, o2⟩ := assignAll_ok o1 rv e
    have hl := (assignAll_len e).trans rv.len.symm
    obtain ⟨v, w, rfl⟩ : ∃ v w, vs = [v, w] := by
      match vs, hl with
      | [v, w], _ => exact ⟨v, w, rfl⟩
    exact ⟨v, w, rfl, h1 _ g2 H1 t2 o2⟩
  · exact h1.elim
theorem ms_par3 {i j l : Nat} {x y z : Str} {px py pz pt pos : Pos} {kt k2 pt2} (hc : X.calm = true) (hN : X.N.Nodup) (ha : MR X W [a, b, c] m) (hi : X.N[i]? = some x := by rfl) (hj : X.N[j]? = some y := by rfl) (hl : X.N[l]? = some z := by rfl)
    (hij : i ≠ j := by decide) (hil : i ≠ l := by decide) (hjl : j ≠ l := by decide)
    (hx : X.env.scope.names.lookup x = some .local := by rfl) (hy : X.env.scope.names.lookup y = some .local := by rfl) (hz : X.env.scope.names.lookup z = some .local := by rfl)
    (hw : swappedStores [.Tuple [.Name x px, .Name y py, .Name z pz] kt pt] (.Tuple [a, b, c] k2 pt2) X.env = pure (some [x, y, z]) := by rfl)
    (hs : swapsWithSole [.Tuple [.Name x px, .Name y py, .Name z pz] kt pt] (.Tuple [a, b, c] k2 pt2) pos.line X.env = pure false := by rfl) :
    MS X W (.Assign [.Tuple [.Name x px, .Name y py, .Name z pz] kt pt] (.Tuple [a, b, c] k2 pt2) pos) (mParN [i, j, l] m) := by
  refine ps_imp (ps_par3 hc hN hi hj hl hij hil hjl hx hy hz ha hw hs) fun D σ H ⟨g, s, ok, h⟩ => ?_
  refine ⟨g, s, ok, (PostS.bind h).mono fun rs g1 s1 H1 t1 k1 o1 h1 vs L rv => ?_⟩
  split at h1
  · rename_i s2 e
    obtain ⟨g2, t2, o2⟩ := assignAll_ok o1 rv e
    have hl := (assignAll_len e).trans rv.len.symm
    obtain ⟨v, w, u, rfl⟩ : ∃ v w u, vs = [v, w, u] := by
      match vs, hl with
      | [v, w, u], _ => exact ⟨v, w, u, rfl⟩
    exact ⟨v, w, u, rfl, h1 _ g2 H1 t2 o2⟩
  · exact h1.elim
end

/-! ### a tuple's parts to names -/
/-- targets that are plain names, by their slots -/
def gNames : List Nat → TGs
  | [] => gNil
  | i :: is => gCons (gName i) (gNames is)
theorem gNames_set : ∀ {is : List Nat} {vs : List V} {σ : St} {H : Hp} {Q : St → Hp → Prop}, is.length = vs.length → Q (setAll σ is vs) H → gNames is vs σ H Q
  | [], [], _, _, _, _, q => ⟨rfl, q⟩
  | i :: is, v :: vs, σ, H, Q, hl, q => ⟨v, vs, rfl, gNames_set (is := is) (vs := vs) (σ := σ.set i (some v)) (by simpa using hl) q⟩
def mUnp (is : List Nat) (m : M) : S → Res Out := fun s => (mLeak m s).bind fun d s1 => match d with
  | .tup ds => match assignAll is (ds.map .d) s1 with
    | some s2 => .ok .nx s2
    | none => .stuck
  | _ => .stuck
theorem repRVs_d {K : PySem.W.Frag} {g : G} {s : S} {H : Hp} : ∀ {vs : List V} {ds : List D}, RepL K g vs ds → RepRVs K g s H vs (ds.map .d) []
  | _, _, .nil => .nil
  | _, _, .cons a b => .d a (repRVs_d b)
section
variable {X : Cx} {W : WX} {e : Expr} {me : M} {ts es : List Expr} {is : List Nat} {m : S → Res (List RV)}
theorem ms_unp {kt : Nat} {pt pos : Pos} (hc : X.calm = true) (he : ME X W e me) (ht : PGs X ts (gNames is))
    (hn : (assignEach ts X.env).length = is.length := by rfl) (hst : (assignEach ts X.env).findIdx? (·.1) = none := by rfl)
    (hs : swapsWithSole [.Tuple ts kt pt] e pos.line X.env = pure false := by rfl) (hw : swappedStores [.Tuple ts kt pt] e X.env = pure none := by rfl)
    (h1 : (assignEach [.Tuple ts kt pt] X.env).map (·.2) = [PySem.assign (.Tuple ts kt pt) X.env] := by rfl) :
    MS X W (.Assign [.Tuple ts kt pt] e pos) (mUnp is me) := by
  refine ps_imp (ps_asg he (pg_tup hc ht hn hst) hs hw h1) fun D σ H ⟨g, s, ok, h⟩ => ?_
  refine tM_leak ok (PostS.bind h) fun d g1 s1 H1 v t1 k1 o1 rv h1 => ?_
  split at h1
  · rename_i ds
    split at h1
    · rename_i s2 e
      cases rv with
      | tup hq rl =>
        obtain ⟨g2, t2, o2⟩ := assignAll_ok o1 (repRVs_d rl) e
        have hl := (assignAll_len e).trans ((List.length_map _).trans rl.length.symm)
        exact ⟨_, _, rfl, sqT_mono o1.sub hq, hl.symm, gNames_set hl (h1 _ g2 H1 t2 o2)⟩
    · exact h1.elim
  · exact h1.elim
/-- (x, y, ..) = (a, b, ..) where the tuple is made: the parts may be new objects -/
theorem ms_tupN {kt kt2 : Nat} {pt pt2 pos : Pos} (hc : X.calm = true) (he : MR X W es m) (ht : PGs X ts (gNames is)) (hl20 : is.length ≤ 100)
    (hn : (assignEach ts X.env).length = is.length := by rfl) (hst : (assignEach ts X.env).findIdx? (·.1) = none := by rfl)
    (hs : swapsWithSole [.Tuple ts kt pt] (.Tuple es kt2 pt2) pos.line X.env = pure false := by rfl) (hw : swappedStores [.Tuple ts kt pt] (.Tuple es kt2 pt2) X.env = pure none := by rfl)
    (h1 : (assignEach [.Tuple ts kt pt] X.env).map (·.2) = [PySem.assign (.Tuple ts kt pt) X.env] := by rfl) :
    MS X W (.Assign [.Tuple ts kt pt] (.Tuple es kt2 pt2) pos) (mParN is m) := by
  refine ps_imp (ps_asg (pe_tup he) (pg_tup hc ht hn hst) hs hw h1) fun D σ H ⟨g, s, ok, h⟩ => ?_
  refine ⟨g, s, ok, (PostS.bind h).mono fun rs g1 s1 H1 t1 k1 o1 h1 vs L rv => ?_⟩
  split at h1
  · rename_i s2 e
    obtain ⟨g2, t2, o2⟩ := assignAll_ok o1 rv e
    have hl := (assignAll_len e).trans rv.len.symm
    have z : 100 ≤ sizeLine := by decide
    refine ⟨by omega, fun p hp => ⟨p, vs, rfl, .of upd_same, hl.symm, gNames_set hl ?_⟩⟩
    exact h1 _ g2 _ (t2.trans (Step.grow o2 hp)) (o2.grow hp)
  · exact h1.elim
theorem mgs_nil : PGs X [] (gNames []) := pgs_nil
theorem mgs_cons {i : Nat} {x : Str} {pos : Pos} (h2 : PGs X es (gNames is)) (hN : X.N.Nodup) (hi : X.N[i]? = some x := by rfl) (hx : L2.Loc X.env.scope x := by first | exact Or.inl rfl | exact Or.inr rfl)
    (hs : (assignEach (.Name x pos :: es) X.env).map (·.2) = PySem.assign (.Name x pos) X.env :: (assignEach es X.env).map (·.2) := by rfl) (hf : X.fn x = true ∨ X.env.scope.names.lookup x = some .local := by first | exact .inl rfl | exact .inr rfl) :
    PGs X (.Name x pos :: es) (gNames (i :: is)) := pgs_cons (pg_name hN hi hx hf) h2 hs
end
end MI
/-! # Subscripts, slices -/
namespace HT
open PySem PyProof.Rows
section
variable {prog : Program} {w : World} {A : Around} {E : Value → Shared → Prop} {s : Shared}
theorem rev_bounds (n : Nat) : Builtin.Slice.sliceAdjust none none (-1) (n : Int) = ((n : Int) - 1, -1) := by
  unfold Builtin.Slice.sliceAdjust
  simp
theorem rev_places (n : Nat) : Builtin.Slice.slicePlaces ((n : Int) - 1) (-1) (-1) = n := by
  unfold Builtin.Slice.slicePlaces
  simp
  omega
theorem sliceApplied_rev {sl : Addr} {vk : Value} {n : Nat} {Q : Int × Int × Nat → Shared → Prop} (hs : s.heap.IsSliceOf sl .none .none vk) (pk : IsPart vk (some (-1)))
    (h : Q ((n : Int) - 1, -1, n) s) : wpAny (model prog w) A (Builtin.Slice.sliceApplied (.ref sl) (pure (n : Int))) Q E s := by
  obtain ⟨os, hos, hcs, hds⟩ := id hs
  unfold Builtin.Slice.sliceApplied Builtin.Slice.sliceFields
  refine wpAny_bind (wpAny_bind (wpAny_field hos hds (x := .none) rfl (wpAny_bind (wpAny_field hos hds (x := .none) rfl (wpAny_bind (wpAny_field hos hds (x := vk) rfl (wpAny_pure ?_)))))))
  refine wpAny_bind (slicePart_ pk ?_)
  show wpAny _ _ (if ((-1 : Int) == 0) = true then _ else _) _ _ s
  rw [if_neg (by decide)]
  refine wpAny_bind (slicePart_none (wpAny_bind (slicePart_none (wpAny_bind (wpAny_pure ?_)))))
  show wpAny _ _ (match Builtin.Slice.sliceAdjust none none (-1) (n : Int) with | (lo, hi) => pure (lo, (-1 : Int), Builtin.Slice.slicePlaces lo hi (-1))) _ _ s
  rw [rev_bounds]
  show wpAny _ _ (pure ((n : Int) - 1, (-1 : Int), Builtin.Slice.slicePlaces ((n : Int) - 1) (-1) (-1))) _ _ s
  rw [rev_places]
  exact wpAny_pure h
theorem filterMap_cg {α β : Type} {f g : α → Option β} : ∀ {l : List α}, (∀ x ∈ l, f x = g x) → l.filterMap f = l.filterMap g
  | [], _ => rfl
  | x :: l, h => by
    rw [List.filterMap_cons, List.filterMap_cons, h x List.mem_cons_self, filterMap_cg fun y hy => h y (List.mem_cons_of_mem _ hy)]
theorem pick_rev (xs : Array Value) : ((List.range xs.size).filterMap fun (m : Nat) => xs[((xs.size : Int) - 1 + (m : Int) * (-1)).toNat]?).toArray = xs.toList.reverse.toArray := by
  congr 1
  have e : ∀ m ∈ List.range xs.size, xs[((xs.size : Int) - 1 + (m : Int) * (-1)).toNat]? = xs[xs.size - 1 - m]? := by
    intro m hm
    have := List.mem_range.mp hm
    have e : ((xs.size : Int) - 1 + (m : Int) * (-1)).toNat = xs.size - 1 - m := by omega
    rw [e]
  rw [filterMap_cg e]
  have h2 : (List.range xs.size).filterMap (fun m => xs[xs.size - 1 - m]?) = ((List.range xs.size).map fun k => xs.size - 1 - k).filterMap (xs[·]?) := by
    rw [List.filterMap_map]; rfl
  rw [h2, PySem.W.krv_range, List.filterMap_reverse, PySem.W.krv_all]
theorem getItem_tuple_rev {t sl : Addr} {items : Array Value} {vk : Value} {Q : Value → Shared → Prop} (ht : IsTup s.heap t items) (hs : s.heap.IsSliceOf sl .none .none vk) (pk : IsPart vk (some (-1)))
    (h : Q (.ref s.heap.objs.size) { s with heap := s.heap.push { cls := .type "tuple", data := .seq items.toList.reverse.toArray } })
    (hsz : items.size ≤ sizeLine) : wpAny (model prog w) A (getItem (.ref t) (.ref sl)) Q E s := by
  have htake : sizeOk (.seq items.toList.reverse.toArray) := by
    show items.toList.reverse.toArray.size ≤ sizeLine
    rw [List.size_toArray, List.length_reverse, Array.length_toList]
    exact hsz
  obtain ⟨os, hos, hcs, hds⟩ := id hs
  have hTs : s.TypeIs (.ref sl) "slice" := ⟨os, hos, hcs⟩
  unfold getItem
  try with_reducible refine wpAny_holding ?_
  first | refine wpAny_bind (wpAny_pure ?_) | skip
  refine wpAny_bind (wpAny_sequenceKey ht.typeIs (by decide) ?_)
  refine wpAny_bind (wpAny_callSpecial?_slot (name := Str.ofString "__getitem__") ht.typeIs PyProof.Rows.slot_tuple_getitem
    (wpAny_call_entry PyProof.Rows.slot_tuple_getitem ht.typeIs entry_tuple_getitem ?_ (args_tuple_getitem _ _)))
  show wpAny _ _ (Builtin.Tuple.tupleItemsOf (.ref t) >>= _) _ _ s
  refine wpAny_bind (tupleItemsOf_ ht ?_)
  refine wpAny_bind (wpAny_typeOf hTs ?_)
  rw [if_pos (by decide)]
  refine wpAny_bind (sliceApplied_rev hs pk ?_)
  have hno : ¬ ((((items.size : Int) - 1) == 0 && (-1 : Int) == 1 && items.size == items.size) = true) := by
    intro q
    rw [Bool.and_eq_true, Bool.and_eq_true] at q
    exact absurd q.1.2 (by decide)
  show wpAny _ _ (if (((items.size : Int) - 1) == 0 && (-1 : Int) == 1 && items.size == items.size) = true then _ else _) _ _ s
  rw [if_neg hno, pick_rev]
  first
    | exact wpAny_bind (m := Builtin.Tuple.tupleExact _) (wpAny_newObj_type (wpAny_pure ⟨_, rfl, wpAny_pure h⟩) htake)
    | exact wpAny_bind (m := Builtin.Tuple.tupleExact _) (wpAny_newObj_type (wpAny_bind (wpAny_pure (wpAny_pure ⟨_, rfl, wpAny_pure h⟩))) htake)
    | exact wpAny_bind (wpAny_bind (m := Builtin.Tuple.tupleExact _) (wpAny_newObj_type (wpAny_pure (wpAny_pure ⟨_, rfl, wpAny_pure h⟩)) htake))
    | exact wpAny_bind (wpAny_bind (m := Builtin.Tuple.tupleExact _) (wpAny_newObj_type (wpAny_pure ⟨_, rfl, wpAny_pure h⟩) htake))
end
end HT
namespace L2
open PySem PySem.Spec PyProof.Rows
section
variable {X : Cx} {e k : Expr} {te tk : TE} {pos p2 : Pos}
/-- xs[::k], k minus one: a list or a tuple backward -/
def tRev (K : PySem.W.Frag) (te tk : TE) : TE := fun σ H Q => te σ H fun x H1 => tk σ H1 fun y H2 => y = .int (-1) ∧
  ((∃ a xs, x = .ref a ∧ SqL K H2 a xs ∧ ∀ p, H2 p = none → Q (.ref p) (upd H2 p (.lst xs.reverse))) ∨
   (∃ a xs, x = .ref a ∧ SqT K H2 a xs ∧ ∀ p, H2 p = none → Q (.ref p) (upd H2 p (.tup xs.reverse))))
theorem pe_rev (he : PE X e te) (hk : PE X k tk) : PE X (.Subscript e (.Slice none none (some k) p2) pos) (tRev X.K te tk) := by
  refine ⟨fun pins s σ H Q I h => ?_⟩
  refine Subscript_ (thn (he.run pins s σ H _ I h) fun v s1 ⟨x, H1, I1, r1, q1⟩ => ?_)
  refine wpAny_Slice ?_
  rw [evalPart_none, evalPart_some]
  refine wpAny_pure (wpAny_pure ?_)
  refine thn (hk.run pins s1 σ H1 _ I1 q1) fun vk s2 ⟨y, H2, I2, rk, hy, hq⟩ => ?_
  subst hy
  obtain ⟨tk, rfl⟩ := rk
  have I4 : Inv X pins σ H2 { s2 with heap := s2.heap.push { cls := .type "slice", data := .fields #[.none, .none, .int (-1) tk] } } := I2.kept (t' := s2.toks) fun b ob q => Heap.get?_push_of_some _ q
  show wpAny (model X.prog X.w) X.A (subscriptTail e (.Slice none none (some k) p2) v (.ref s2.heap.objs.size)) (EP X pins σ Q) X.xe { s2 with heap := s2.heap.push { cls := .type "slice", data := .fields #[.none, .none, .int (-1) tk] } }
  have hs := Heap.IsSliceOf.new s2.heap .none .none (.int (-1) tk)
  rcases hq with ⟨a, xs, rfl, hx, q⟩ | ⟨a, xs, rfl, hx, q⟩
  · cases r1
    obtain ⟨its, r, ht, hz⟩ := I4.list hx
    have hlen := r.length
    refine tail_any (ops := [.ref a, .ref s2.heap.objs.size]) ht.isList.typeIs slot_list_getitem.lookup ?_ (by with_unfolding_all rfl)
    refine wpAny_getItem_list_slice ht.isList hs .none .none (.int _ _) (by simp) ?_ (by rw [List.size_toArray] <;> omega)
    rw [PySem.W.krv_pick]
    refine ⟨.ref _, _, I4.laid (t' := s2.toks) (o := .lst xs.reverse) (fun b ob q => Heap.get?_push_of_some _ q) (Nat.le_refl _) ?_, rfl, q _ (I4.hok.fresh (Nat.le_refl _))⟩
    exact ⟨by rw [List.length_reverse]; exact hz, _, 0, r.reverse, Heap.get?_push_size _ rfl⟩
  · cases r1
    obtain ⟨its, r, ht, hz⟩ := I4.tuple hx
    have hlen := r.length
    refine tail_any (ops := [.ref a, .ref s2.heap.objs.size]) ht.typeIs PyProof.Rows.slot_tuple_getitem.lookup ?_ (by with_unfolding_all rfl)
    refine HT.getItem_tuple_rev ht hs (.int _ _) ?_ (by rw [List.size_toArray]; omega)
    refine ⟨.ref _, _, I4.laid (t' := s2.toks) (o := .tup xs.reverse) (fun b ob q => Heap.get?_push_of_some _ q) (Nat.le_refl _) ?_, rfl, q _ (I4.hok.fresh (Nat.le_refl _))⟩
    refine ⟨by rw [List.length_reverse]; exact hz, its.reverse, r.reverse, ?_⟩
    exact IsTup.new _ _
end
end L2

namespace MI
open PySem L2
/-! ### a[i] -/
def opIx : S → RV → RV → Res RV := fun s a b => match asInt b with
  | none => .stuck
  | some i => match asTup a with
    | some xs => (match atI xs i with
      | some d => .ok (.d d) s
      | none => .stuck)
    | none => match asLst s a with
      | some xs => (match atI xs i with
        | some d => .ok (.d d) s
        | none => .stuck)
      | none => match asStr a with
        | some z => if z.length ≤ sizeLine then (match atI z.cps.toList i with
          | some c => .ok (.d (.str ⟨#[c]⟩)) s
          | none => .stuck) else .stuck
        | none => .stuck
theorem atI_rep {K : PySem.W.Frag} {g : G} {vs : List V} {ds : List D} {i : Int} {d : D} (r : RepL K g vs ds) (e : atI ds i = some d) : ∃ v, atI vs i = some v ∧ Rep K g v d := by
  unfold atI at e ⊢
  rw [r.length]
  cases h : ixN ds.length i with
  | none => rw [h] at e; cases e
  | some j =>
    rw [h] at e
    exact r.get e
section
variable {X : Cx} {W : WX} {a b e : Expr} {ma mb me : M} {pos p2 : Pos}
theorem os_ix : OpS X W (rIx X.K) opIx := by
  intro σ g s H Q x y ra rb ok rx ry nn q
  unfold opIx at q
  split at q
  · exact q.elim
  · rename_i i e1
    have ey := asInt_ok ry e1
    split at q
    · rename_i xs e2
      split at q
      · rename_i d e3
        obtain ⟨p, vs, rfl, h, r⟩ := asTup_ok ok rx e2
        obtain ⟨v, hv, rv⟩ := atI_rep r e3
        exact .inr (.inl ⟨p, vs, i, v, rfl, ey, h, hv, kE_d q ok (Rep.mono (GLe.refl _) rv)⟩)
      · exact q.elim
    · split at q
      · rename_i xs e2
        split at q
        · rename_i d e3
          obtain ⟨p, vs, rfl, h, r⟩ := asLst_ok ok rx e2
          obtain ⟨v, hv, rv⟩ := atI_rep r e3
          exact .inl ⟨p, vs, i, v, rfl, ey, .of h, hv, kE_d q ok rv⟩
        · exact q.elim
      · split at q
        · rename_i z e2
          split at q
          · rename_i hz
            split at q
            · rename_i c e3
              exact .inr (.inr ⟨z, i, c, asStr_ok rx e2, ey, hz, e3, kE_d q ok (.str _)⟩)
            · exact q.elim
          · exact q.elim
        · exact q.elim
theorem me_ix (ha : ME X W a ma) (hb : ME X W b mb) (hs : PlainIx b := by exact fun _ _ => rfl) : ME X W (.Subscript a b pos) (mBin opIx ma mb) :=
  pe_imp (pe_ix ix_seq ha hb hs) fun _ _ _ ⟨_, _, ok, h⟩ => tOp_of os_ix ok h
/-! ### a[i:j] -/
def MO (X : Cx) (W : WX) (e : Option Expr) (m : S → Res (Option Int)) : Prop :=
  PO X e (fun σ H Q => ∃ g s, Ok X.K g s σ H ∧ PostE X.K W σ g s H (fun r _ _ H => Q r H) (m s))
def mNoPart : S → Res (Option Int) := fun s => .ok none s
def mPart (m : M) : S → Res (Option Int) := fun s => (m s).bind fun r s1 => match asInt r with
  | some i => .ok (some i) s1
  | none => .stuck
theorem po_imp {e : Option Expr} {t t' : TO} (h : PO X e t) (i : ∀ σ H Q, t' σ H Q → t σ H Q) : PO X e t' :=
  ⟨fun pins s σ H Q I q => h.run pins s σ H Q I (i σ H Q q)⟩
theorem mo_none : MO X W none mNoPart := po_imp po_none fun σ H Q ⟨g, s, ok, h⟩ => PostE.done (W := W) h ok
theorem mo_some (h : ME X W e me) : MO X W (some e) (mPart me) := by
  refine po_imp (po_some h) fun σ H Q ⟨g, s, ok, h⟩ => ⟨g, s, ok, (PostE.bind h).mono fun r g1 s1 H1 t1 k1 o1 h1 v rv => ?_⟩
  split at h1
  · rename_i i e
    exact ⟨i, asInt_ok rv e, PostE.done (W := W) h1 o1⟩
  · exact h1.elim
def cut {α : Type} (xs : List α) (lo hi : Option Int) : List α := (xs.drop (HT.sIx xs.length 0 lo)).take (HT.sIx xs.length xs.length hi - HT.sIx xs.length 0 lo)
theorem cut_rep {K : PySem.W.Frag} {g : G} {vs : List V} {ds : List D} (r : RepL K g vs ds) (lo hi : Option Int) : RepL K g (cutV vs lo hi) (cut ds lo hi) := by
  unfold cutV cut
  rw [r.length]
  exact (r.drop _).take _
def asScr : RV → Option (List D)
  | .d (.scr xs) => some xs
  | _ => none
theorem asScr_ok {K : PySem.W.Frag} {σ : St} {g : G} {s : S} {H : Hp} {v : V} {r : RV} {xs : List D} (ok : Ok K g s σ H) (h : RepRV K g s H v r) (e : asScr r = some xs) : ∃ a vs, v = .ref a ∧ SqL K H a vs ∧ RepL K g vs xs := by
  cases r with
  | d x =>
    cases x with
    | scr ys =>
      cases e
      cases (show Rep K g v _ from h) with
      | scr h1 r => exact ⟨_, _, rfl, sqL_mono ok.sub h1, r⟩
    | _ => cases e
  | «at» i => cases e
  | new o => cases e
def opSl (lo hi : Option Int) : S → RV → Res RV := fun s a => match asTup a with
  | some xs => .ok (.d (.tup (cut xs lo hi))) s
  | none => match asLst s a with
    | some xs => .ok (.new (.lst (cut xs lo hi))) s
    | none => match asScr a with
     | some xs => .ok (.new (.lst (cut xs lo hi))) s
     | none => match asStr a with
      | some z => if z.length ≤ sizeLine then .ok (.d (.str (cutS z lo hi))) s else .stuck
      | none => .stuck
def mSlice (a : M) (lo hi : S → Res (Option Int)) : M := fun s => (mSettle a s).bind fun x s1 => (lo s1).bind fun l s2 => (hi s2).bind fun u s3 => opSl l u s3 x
def rSlM (K : PySem.W.Frag) : V → Option Int → Option Int → Hp → VK → Prop := fun x lo hi H Q => rSlA K x lo hi H Q ∨ rSlL K x lo hi H Q ∨ rSlS x lo hi H Q
theorem sl_M : SlR X (rSlM X.K) := sl_tupA.or (sl_list.or sl_str)
theorem cut_whole {α : Type} {xs : List α} {lo hi : Option Int} (h : HT.sIx xs.length 0 lo = 0 ∧ HT.sIx xs.length xs.length hi = xs.length) : cut xs lo hi = xs := by
  unfold cut
  rw [h.1, h.2]
  simp
theorem me_slice {lo hi : Option Expr} {ml mh : S → Res (Option Int)} (ha : ME X W a ma) (hl : MO X W lo ml) (hh : MO X W hi mh) : ME X W (.Subscript a (.Slice lo hi none p2) pos) (mSlice ma ml mh) := by
  refine pe_imp (pe_slice sl_M ha hl hh) fun σ H Q ⟨g, s, ok, h⟩ => ?_
  refine tM_settle ok (PostE.bind h) fun x g1 s1 H1 v t1 k1 o1 rv nn h1 => ?_
  refine ⟨g1, s1, o1, (PostE.bind h1).mono fun l g2 s2 H2 t2 k2 o2 h2 => ?_⟩
  refine ⟨g2, s2, o2, (PostE.bind h2).mono fun u g3 s3 H3 t3 k3 o3 h3 => ?_⟩
  have rv2 : RepRV X.K g2 s2 H2 v x := rv.held nn t2 k2
  have rv3 : RepRV X.K g3 s3 H3 v x := rv2.held nn t3 k3
  unfold opSl at h3
  split at h3
  · rename_i xs e
    obtain ⟨p, vs, rfl, hq, r⟩ := asTup_ok o3 rv3 e
    refine .inl ⟨p, vs, rfl, hq, fun z => ?_, fun z p hp => kE_tup h3 o3 hp (cut_rep r l u)⟩
    rw [r.length] at z
    rw [cut_whole z] at h3
    cases x with
    | d w =>
      cases w <;> first | cases e
      exact kE_d h3 o3 rv3
    | «at» _ => cases e
    | new _ => cases e
  · split at h3
    · rename_i xs e
      obtain ⟨p, vs, rfl, hq, r⟩ := asLst_ok o3 rv3 e
      exact .inr (.inl ⟨p, vs, rfl, .of hq, fun p hp => kE_new h3 o3 hp ⟨_, upd_same, cut_rep r l u⟩⟩)
    · split at h3
      · rename_i xs e
        obtain ⟨p, vs, rfl, hq, r⟩ := asScr_ok o3 rv3 e
        exact .inr (.inl ⟨p, vs, rfl, hq, fun p hp => kE_new h3 o3 hp ⟨_, upd_same, cut_rep r l u⟩⟩)
      · split at h3
        · rename_i z e
          split at h3
          · rename_i hz
            exact .inr (.inr ⟨z, asStr_ok rv3 e, hz, kE_d h3 o3 (.str _)⟩)
          · exact h3.elim
        · exact h3.elim
/-- a[::-1] -/
def opRev : S → RV → RV → Res RV := fun s a b => match asInt b with
  | some i => if i = -1 then (match asTup a with
    | some xs => .ok (.d (.tup xs.reverse)) s
    | none => match asLst s a with
      | some xs => .ok (.new (.lst xs.reverse)) s
      | none => .stuck) else .stuck
  | none => .stuck
theorem me_rev (ha : ME X W a ma) (hb : ME X W b mb) : ME X W (.Subscript a (.Slice none none (some b) p2) pos) (mBin opRev ma mb) := by
  refine pe_imp (pe_rev ha hb) fun σ H Q ⟨g, s, ok, h⟩ => ?_
  refine tM_settle ok (PostE.bind h) fun x g1 s1 H1 v t1 k1 o1 rv nn h1 => ?_
  refine ⟨g1, s1, o1, (PostE.bind h1).mono fun y g2 s2 H2 t2 k2 o2 h2 u ru => ?_⟩
  have rv2 : RepRV X.K g2 s2 H2 v x := rv.held nn t2 k2
  unfold opRev at h2
  split at h2
  · rename_i i e1
    by_cases hi : i = -1
    case neg => rw [if_neg hi] at h2; exact h2.elim
    rw [if_pos hi] at h2
    subst hi
    refine ⟨asInt_ok ru e1, ?_⟩
    split at h2
    · rename_i xs e
      obtain ⟨p, vs, rfl, hq, r⟩ := asTup_ok o2 rv2 e
      exact .inr ⟨p, vs, rfl, hq, fun p hp => kE_tup h2 o2 hp r.reverse⟩
    · split at h2
      · rename_i xs e
        obtain ⟨p, vs, rfl, hq, r⟩ := asLst_ok o2 rv2 e
        exact .inl ⟨p, vs, rfl, .of hq, fun p hp => kE_new h2 o2 hp ⟨_, upd_same, r.reverse⟩⟩
      · exact h2.elim
  · exact h2.elim
end
end MI
/-! # Built-in functions, methods of lists -/
namespace MI
open PySem L2

section
variable {K : PySem.W.Frag} {W : WX} {σ : St} {g : G} {s : S} {H : Hp}
/-- a built-in function of one value that makes nothing -/
def mFn1 (f : S → RV → Res RV) (m : M) : M := fun s => (m s).bind fun r s1 => f s1 r
end
section
variable {X : Cx} {W : WX} {e a b c : Expr} {me ma mb mc : M} {pos p : Pos} {x : Str}
/-- one argument that is not given away -/
theorem ma_one {r : List V → Hp → VK → Prop} {f : S → RV → Res RV}
    (hf : ∀ (σ : St) (g : G) (s : S) (H : Hp) (Q : VK) (v : V) (rv : RV), Ok X.K g s σ H → RepRV X.K g s H v rv → PostE X.K W σ g s H (kE X.K Q) (f s rv) → r [v] H Q)
    {σ : St} {H : Hp} {Q : VK} {g : G} {s : S} (ok : Ok X.K g s σ H) (h : PostE X.K W σ g s H (kE X.K Q) (mFn1 f me s)) : tCB r (tCons (tM X.K W me) tNil) σ H Q :=
  ⟨g, s, ok, (PostE.bind h).mono fun rv g1 s1 H1 t1 k1 o1 h1 v rr => hf σ g1 s1 H1 Q v rv o1 rr h1⟩
/-! ### len -/
def lenD : D → Option Nat
  | .str y => if y.length ≤ sizeLine then some y.length else none
  | .tup xs => some xs.length
  | .lst xs => some xs.length
  | .dic xs => some xs.length
  | .scr xs => some xs.length
  | _ => none
def fLen : S → RV → Res RV := fun s r => match (asD s r).bind lenD with
  | some n => .ok (.d (.int n)) s
  | none => .stuck
theorem call_lenDR : CallR X (.builtin "len") (fun xs H Q => ∃ p kvs, xs = [.ref p] ∧ Rd H p (.dK kvs) ∧ Q (.int kvs.length) H) := by
  intro pins s σ H xs us Q I r h
  obtain ⟨p, kvs, rfl, hp, q⟩ := h
  obtain ⟨u, rfl, ru⟩ := vals1 r
  cases ru
  exact d_len I hp fun t s' I' => ⟨.int kvs.length, H, I', ⟨t, rfl⟩, q⟩
theorem call_lenM (hc : True) : CallR X (.builtin "len") (fun xs H Q => (∃ x n, xs = [x] ∧ LenV X.K x H n ∧ Q (.int n) H) ∨ ∃ p kvs, xs = [.ref p] ∧ Rd H p (.dK kvs) ∧ Q (.int kvs.length) H) := by
  intro pins s σ H xs us Q I r h
  rcases h with h | ⟨p, kvs, rfl, hp, q⟩
  · exact call_len pins s σ H xs us Q I r h
  · exact call_lenDR pins s σ H _ us Q I r ⟨p, kvs, rfl, hp, q⟩
theorem RepK.length {K : PySem.W.Frag} {g : G} : ∀ {v : List (Key × V)} {d : List (Key × D)}, RepK K g v d → v.length = d.length
  | _, _, .nil => rfl
  | _, _, .cons _ b => by rw [List.length_cons, List.length_cons, RepK.length b]
theorem me_len (ha : ME X W a ma) (hg : Gl X "len") (hm : X.mg "len" = none) (hs : starEach [a] X.env = (false, eval a X.env) :: starEach [] X.env := by rfl) : ME X W (.Call (.Name "len" p) [a] [] pos) (mFn1 fLen ma) := by
  refine pe_imp (pe_callB (call_lenM trivial) hg hm PySem.boot_len (pa_cons ha pa_nil hs) (he := hs)) fun σ H Q ⟨g, s, ok, h⟩ => ma_one (fun σ g s H Q v rv ok rr h => ?_) ok h
  unfold fLen at h
  cases e : (asD s rv).bind lenD with
  | none => simp only [e] at h; exact h.elim
  | some n =>
    simp only [e] at h
    cases e1 : asD s rv with
    | none => rw [e1] at e; cases e
    | some d =>
      rw [e1] at e
      have e2 : lenD d = some n := e
      obtain ⟨g1, l, sb, rp⟩ := asD_ok ok (GLe.refl g) ok.sub rr e1
      have fin := kE_d h ok (.int n)
      cases rp with
      | str x =>
        simp only [lenD] at e2
        split at e2
        · rename_i hl
          cases e2
          exact .inl ⟨_, _, rfl, ⟨hl, rfl⟩, fin⟩
        · cases e2
      | tup h1 r1 => cases e2; exact .inl ⟨_, _, rfl, .inr ⟨_, sqT_mono sb h1, rfl⟩, by rw [r1.length]; exact fin⟩
      | lst h1 r1 => cases e2; exact .inl ⟨_, _, rfl, .inl ⟨_, .of (sb.lst h1), rfl⟩, by rw [r1.length]; exact fin⟩
      | scr h1 r1 => cases e2; exact .inl ⟨_, _, rfl, .inl ⟨_, sqL_mono sb h1, rfl⟩, by rw [r1.length]; exact fin⟩
      | dic h1 r1 => cases e2; exact .inr ⟨_, _, rfl, sb.dic h1, by rw [r1.length]; exact fin⟩
      | _ => cases e2
/-! ### int, abs, list, tuple, min, max -/
def fInt : S → RV → Res RV := fun s r => match r with
  | .d (.int i) => .ok (.d (.int i)) s
  | .d (.bl k) => .ok (.d (.int (if k then 1 else 0))) s
  | _ => .stuck
theorem me_toInt (ha : ME X W a ma) (hg : Gl X "int") (hm : X.mg "int" = none) (hs : starEach [a] X.env = (false, eval a X.env) :: starEach [] X.env := by rfl) : ME X W (.Call (.Name "int" p) [a] [] pos) (mFn1 fInt ma) := by
  refine pe_imp (pe_callTy call_int1 hg hm (by decide +kernel) (pa_cons ha pa_nil hs) (he := hs)) fun σ H Q ⟨g, s, ok, h⟩ => ma_one (fun σ g s H Q v rv ok rr h => ?_) ok h
  unfold fInt at h
  split at h
  · cases (show Rep _ _ _ _ from rr); exact .inl ⟨_, rfl, kE_d h ok (.int _)⟩
  · cases (show Rep _ _ _ _ from rr); exact .inr ⟨_, rfl, kE_d h ok (.int _)⟩
  · exact h.elim
def fAbs : S → RV → Res RV := fun s r => match asInt r with
  | some i => .ok (.d (.int (if i < 0 then -i else i))) s
  | none => .stuck
theorem me_abs (ha : ME X W a ma) (hg : Gl X "abs") (hm : X.mg "abs" = none) (hs : starEach [a] X.env = (false, eval a X.env) :: starEach [] X.env := by rfl) : ME X W (.Call (.Name "abs" p) [a] [] pos) (mFn1 fAbs ma) := by
  refine pe_imp (pe_callB call_abs hg hm (by decide +kernel) (pa_cons ha pa_nil hs) (he := hs)) fun σ H Q ⟨g, s, ok, h⟩ => ma_one (fun σ g s H Q v rv ok rr h => ?_) ok h
  unfold fAbs at h
  split at h
  · rename_i i e; rw [asInt_ok rr e]; exact ⟨_, rfl, kE_d h ok (.int _)⟩
  · exact h.elim
def fList : S → RV → Res RV := fun s r => match asItems s r with
  | some xs => .ok (.new (.lst xs)) s
  | none => .stuck
theorem asItems_ok {K : PySem.W.Frag} {σ : St} {g : G} {s : S} {H : Hp} {v : V} {r : RV} {xs : List D} (ok : Ok K g s σ H) (h : RepRV K g s H v r) (e : asItems s r = some xs) :
    ∃ a vs, v = .ref a ∧ (SqL K H a vs ∨ SqT K H a vs) ∧ RepL K g vs xs := by
  unfold asItems at e
  split at e
  · rename_i zs e3
    cases e
    obtain ⟨a, vs, rfl, h, r2⟩ := asTup_ok ok h e3
    exact ⟨a, vs, rfl, .inr h, r2⟩
  · obtain ⟨a, vs, rfl, h, r2⟩ := asLst_ok ok h e
    exact ⟨a, vs, rfl, .inl (.of h), r2⟩
theorem me_list (ha : ME X W a ma) (hg : Gl X "list") (hm : X.mg "list" = none) (hs : starEach [a] X.env = (false, eval a X.env) :: starEach [] X.env := by rfl) : ME X W (.Call (.Name "list" p) [a] [] pos) (mFn1 fList ma) := by
  refine pe_imp (pe_callTy call_list_of hg hm (by decide +kernel) (pa_cons ha pa_nil hs) (he := hs)) fun σ H Q ⟨g, s, ok, h⟩ => ma_one (fun σ g s H Q v rv ok rr h => ?_) ok h
  unfold fList at h
  split at h
  · rename_i xs e
    obtain ⟨p, vs, rfl, hq, r⟩ := asItems_ok ok rr e
    exact ⟨p, vs, rfl, hq, fun l hl => kE_new h ok hl ⟨_, upd_same, r⟩⟩
  · exact h.elim
def fTuple : S → RV → Res RV := fun s r => match asItems s r with
  | some xs => .ok (.d (.tup xs)) s
  | none => .stuck
theorem me_tuple (ha : ME X W a ma) (hg : Gl X "tuple") (hm : X.mg "tuple" = none) (hs : starEach [a] X.env = (false, eval a X.env) :: starEach [] X.env := by rfl) : ME X W (.Call (.Name "tuple" p) [a] [] pos) (mFn1 fTuple ma) := by
  refine pe_imp (pe_callTy call_tuple_of hg hm (by decide +kernel) (pa_cons ha pa_nil hs) (he := hs)) fun σ H Q ⟨g, s, ok, h⟩ => ma_one (fun σ g s H Q v rv ok rr h => ?_) ok h
  unfold fTuple at h
  split at h
  · rename_i xs e
    unfold asItems at e
    split at e
    · rename_i zs e3
      cases e
      obtain ⟨a, vs, rfl, hq, r⟩ := asTup_ok ok rr e3
      refine ⟨a, vs, rfl, .inr ⟨hq, ?_⟩⟩
      cases rv with
      | d w =>
        cases w <;> first | cases e3
        exact kE_d h ok rr
      | «at» _ => cases e3
      | new _ => cases e3
    · obtain ⟨a, vs, rfl, hq, r⟩ := asLst_ok ok rr e
      exact ⟨a, vs, rfl, .inl ⟨.of hq, fun l hl => kE_tup h ok hl r⟩⟩
  · exact h.elim
/-- min, max of two or three ints -/
def intsOf : List D → Option (List Int)
  | [] => some []
  | .int i :: r => (intsOf r).map (i :: ·)
  | _ :: _ => none
def minI : Int → Int → Int := fun i j => if j < i then j else i
def maxI : Int → Int → Int := fun i j => if j > i then j else i
def mFn2 (f : Int → Int → Int) (m : S → Res (List D)) : M := fun s => (m s).bind fun ds s1 => match ds with
  | [.int i, .int j] => .ok (.d (.int (f i j))) s1
  | _ => .stuck
def mFn3 (f : Int → Int → Int) (m : S → Res (List D)) : M := fun s => (m s).bind fun ds s1 => match ds with
  | [.int i, .int j, .int k] => .ok (.d (.int (f (f i j) k))) s1
  | _ => .stuck
theorem nuMin2_int (i j : Int) : nuMin2 (.int i) (.int j) = some (.int (minI i j)) := by
  show some (if decide (j < i) = true then V.int j else V.int i) = some (.int (if j < i then j else i))
  by_cases h : j < i <;> simp [h]
theorem nuMax2_int (i j : Int) : nuMax2 (.int i) (.int j) = some (.int (maxI i j)) := by
  show some (if decide (i < j) = true then V.int j else V.int i) = some (.int (if j > i then j else i))
  by_cases h : i < j <;> simp [h]
theorem mFn2_of {f : Int → Int → Int} {f' : V → V → Option V} {es : List Expr} {m : S → Res (List D)} (hf : ∀ i j, f' (.int i) (.int j) = some (.int (f i j))) {σ : St} {H : Hp} {Q : VK} {g : G} {s : S} (ok : Ok X.K g s σ H)
    (h : PostE X.K W σ g s H (kE X.K Q) (mFn2 f m s)) : tCB (rNuC2 f') (tMA X.K W m) σ H Q := by
  refine ⟨g, s, ok, (PostE.bind h).mono fun ds g1 s1 H1 t1 k1 o1 h1 vs rs => ?_⟩
  split at h1
  · cases rs with
    | cons r1 rs =>
      cases rs with
      | cons r2 rs =>
        cases rs
        cases r1; cases r2
        exact ⟨_, _, _, rfl, hf _ _, kE_d h1 o1 (.int _)⟩
  · exact h1.elim
theorem mFn3_of {f : Int → Int → Int} {f' : V → V → V → Option V} {es : List Expr} {m : S → Res (List D)} (hf : ∀ i j k, f' (.int i) (.int j) (.int k) = some (.int (f (f i j) k))) {σ : St} {H : Hp} {Q : VK} {g : G} {s : S} (ok : Ok X.K g s σ H)
    (h : PostE X.K W σ g s H (kE X.K Q) (mFn3 f m s)) : tCB (rNuC3 f') (tMA X.K W m) σ H Q := by
  refine ⟨g, s, ok, (PostE.bind h).mono fun ds g1 s1 H1 t1 k1 o1 h1 vs rs => ?_⟩
  split at h1
  · cases rs with
    | cons r1 rs =>
      cases rs with
      | cons r2 rs =>
        cases rs with
        | cons r3 rs =>
          cases rs
          cases r1; cases r2; cases r3
          exact ⟨_, _, _, _, rfl, hf _ _ _, kE_d h1 o1 (.int _)⟩
  · exact h1.elim
theorem nuMin3_int (i j k : Int) : nuMin3 (.int i) (.int j) (.int k) = some (.int (minI (minI i j) k)) := by
  unfold nuMin3; rw [nuMin2_int]; exact nuMin2_int _ _
theorem nuMax3_int (i j k : Int) : nuMax3 (.int i) (.int j) (.int k) = some (.int (maxI (maxI i j) k)) := by
  unfold nuMax3; rw [nuMax2_int]; exact nuMax2_int _ _
section
variable {m : S → Res (List D)}
theorem me_min2 (hc : X.calm = true) (hA : MA X W [a, b] m) (hg : Gl X "min") (hm : X.mg "min" = none) (hs : starEach [a, b] X.env = (false, eval a X.env) :: starEach [b] X.env := by rfl) (hpl : (backTo pos (starEach [b] X.env)).any (·.1) = false := by rfl) : ME X W (.Call (.Name "min" p) [a, b] [] pos) (mFn2 minI m) :=
  pe_imp (pe_callB (call_min2Nu hc) hg hm (by decide +kernel) hA (he := hs) (hpl := hpl)) fun σ H Q ⟨g, s, ok, h⟩ => mFn2_of (es := [a, b]) nuMin2_int ok h
theorem me_max2 (hc : X.calm = true) (hA : MA X W [a, b] m) (hg : Gl X "max") (hm : X.mg "max" = none) (hs : starEach [a, b] X.env = (false, eval a X.env) :: starEach [b] X.env := by rfl) (hpl : (backTo pos (starEach [b] X.env)).any (·.1) = false := by rfl) : ME X W (.Call (.Name "max" p) [a, b] [] pos) (mFn2 maxI m) :=
  pe_imp (pe_callB (call_max2Nu hc) hg hm (by decide +kernel) hA (he := hs) (hpl := hpl)) fun σ H Q ⟨g, s, ok, h⟩ => mFn2_of (es := [a, b]) nuMax2_int ok h
theorem me_min3 (hc : X.calm = true) (hA : MA X W [a, b, c] m) (hg : Gl X "min") (hm : X.mg "min" = none) (hs : starEach [a, b, c] X.env = (false, eval a X.env) :: starEach [b, c] X.env := by rfl) (hpl : (backTo pos (starEach [b, c] X.env)).any (·.1) = false := by rfl) : ME X W (.Call (.Name "min" p) [a, b, c] [] pos) (mFn3 minI m) :=
  pe_imp (pe_callB (call_min3Nu hc) hg hm (by decide +kernel) hA (he := hs) (hpl := hpl)) fun σ H Q ⟨g, s, ok, h⟩ => mFn3_of (es := [a, b, c]) nuMin3_int ok h
theorem me_max3 (hc : X.calm = true) (hA : MA X W [a, b, c] m) (hg : Gl X "max") (hm : X.mg "max" = none) (hs : starEach [a, b, c] X.env = (false, eval a X.env) :: starEach [b, c] X.env := by rfl) (hpl : (backTo pos (starEach [b, c] X.env)).any (·.1) = false := by rfl) : ME X W (.Call (.Name "max" p) [a, b, c] [] pos) (mFn3 maxI m) :=
  pe_imp (pe_callB (call_max3Nu hc) hg hm (by decide +kernel) hA (he := hs) (hpl := hpl)) fun σ H Q ⟨g, s, ok, h⟩ => mFn3_of (es := [a, b, c]) nuMax3_int ok h
end
/-! ### -a -/
def fNeg : S → RV → Res RV := fun s r => match asInt r with
  | some i => .ok (.d (.int (-i))) s
  | none => .stuck
theorem me_neg (ha : ME X W a ma) : ME X W (.UnaryOp .USub a pos) (mFn1 fNeg ma) := by
  refine pe_imp (pe_un un_neg ha) fun σ H Q ⟨g, s, ok, h⟩ => ⟨g, s, ok, (PostE.bind h).mono fun rv g1 s1 H1 t1 k1 o1 h1 v rr => ?_⟩
  unfold fNeg at h1
  split at h1
  · rename_i i e; exact ⟨i, asInt_ok rr e, kE_d h1 o1 (.int _)⟩
  · exact h1.elim
/-! ### all, any of a list of bools -/
def blsOf : List D → Option (List Bool)
  | [] => some []
  | .bl b :: r => (blsOf r).map (b :: ·)
  | _ :: _ => none
theorem blsOf_ok {K : PySem.W.Frag} {g : G} : ∀ {vs : List V} {ds : List D} {bs : List Bool}, RepL K g vs ds → blsOf ds = some bs → vs = bs.map V.bl
  | _, _, _, .nil, e => by cases e; rfl
  | _, _, bs, .cons (d := d) a b, e => by
    cases d with
    | bl k =>
      cases a
      simp only [blsOf] at e
      obtain ⟨cs, e1, rfl⟩ := Option.map_eq_some_iff.mp e
      rw [blsOf_ok b e1]; rfl
    | _ => cases e
def fAll : S → RV → Res RV := fun s r => match (asLst s r).bind blsOf with
  | some bs => .ok (.d (.bl (bs.all id))) s
  | none => .stuck
def fAny : S → RV → Res RV := fun s r => match (asLst s r).bind blsOf with
  | some bs => .ok (.d (.bl (bs.any id))) s
  | none => .stuck
theorem bls_seq {K : PySem.W.Frag} {σ : St} {g : G} {s : S} {H : Hp} {v : V} {r : RV} {bs : List Bool} (ok : Ok K g s σ H) (h : RepRV K g s H v r) (e : (asLst s r).bind blsOf = some bs) : ∃ a, v = .ref a ∧ SqL K H a (bs.map V.bl) := by
  cases e1 : asLst s r with
  | none => rw [e1] at e; cases e
  | some xs =>
    rw [e1] at e
    obtain ⟨a, vs, rfl, hq, r⟩ := asLst_ok ok h e1
    have := blsOf_ok r e
    subst this
    exact ⟨a, rfl, .of hq⟩
theorem me_all (hc : X.calm = true) (ha : ME X W a ma) (hg : Gl X "all") (hm : X.mg "all" = none) (hs : starEach [a] X.env = (false, eval a X.env) :: starEach [] X.env := by rfl) : ME X W (.Call (.Name "all" p) [a] [] pos) (mFn1 fAll ma) := by
  refine pe_imp (pe_callB (cr_all hc) hg hm (by decide +kernel) (pa_cons ha pa_nil hs) (he := hs)) fun σ H Q ⟨g, s, ok, h⟩ => ma_one (fun σ g s H Q v rv ok rr h => ?_) ok h
  unfold fAll at h
  split at h
  · rename_i bs e
    obtain ⟨p, rfl, hq⟩ := bls_seq ok rr e
    exact ⟨p, bs, rfl, hq, kE_d h ok (.bl _)⟩
  · exact h.elim
theorem me_any (hc : X.calm = true) (ha : ME X W a ma) (hg : Gl X "any") (hm : X.mg "any" = none) (hs : starEach [a] X.env = (false, eval a X.env) :: starEach [] X.env := by rfl) : ME X W (.Call (.Name "any" p) [a] [] pos) (mFn1 fAny ma) := by
  refine pe_imp (pe_callB (cr_any hc) hg hm (by decide +kernel) (pa_cons ha pa_nil hs) (he := hs)) fun σ H Q ⟨g, s, ok, h⟩ => ma_one (fun σ g s H Q v rv ok rr h => ?_) ok h
  unfold fAny at h
  split at h
  · rename_i bs e
    obtain ⟨p, rfl, hq⟩ := bls_seq ok rr e
    exact ⟨p, bs, rfl, hq, kE_d h ok (.bl _)⟩
  · exact h.elim
/-! ### isinstance with a built-in class -/
inductive Ty where
  | int | str | bool | tup | lst | dic
def Ty.name : Ty → String
  | .int => "int" | .str => "str" | .bool => "bool" | .tup => "tuple" | .lst => "list" | .dic => "dict"
def isTy : Ty → D → Bool
  | .int, .int _ => true
  | .int, .bl _ => true
  | .bool, .bl _ => true
  | .str, .str _ => true
  | .tup, .tup _ => true
  | .lst, .lst _ => true
  | .dic, .dic _ => true
  | _, _ => false
def tyD : D → Option String
  | .non => some "NoneType" | .bl _ => some "bool" | .int _ => some "int" | .str _ => some "str" | .tup _ => some "tuple" | .lst _ => some "list" | .dic _ => some "dict" | .ref _ => none | .scr _ => none
theorem isTy_kit : ∀ (T : Ty) (d : D) (t : String), tyD d = some t → kitB t T.name = some (isTy T d) := by
  intro T d t e
  cases d <;> cases e <;> cases T <;> (simp only [isTy, Ty.name]; decide +kernel)
def fIsi (T : Ty) : S → RV → Res RV := fun s r => match asD s r with
  | some d => match tyD d with
    | some _ => .ok (.d (.bl (isTy T d))) s
    | none => .stuck
  | none => .stuck
theorem tyX_of {K : PySem.W.Frag} {g : G} {H : Hp} {v : V} {d : D} {t : String} (sb : SubH g.F H) (r : Rep K g v d) (e : tyD d = some t) : TyX K H v (.type t) := by
  cases r with
  | non => cases e; exact .base .non
  | bl b => cases e; exact .base (.bl b)
  | int i => cases e; exact .base (.int i)
  | str x => cases e; exact .base (.str x)
  | tup h _ =>
    cases e
    rcases sqT_mono sb h with (h | ⟨o, h⟩) | ⟨o, _, _, hk, hc, _⟩
    · exact .base (.tup h)
    · exact .fTuple h
    · exact .kTuple hk hc
  | lst h _ => cases e; exact .base (.lst (sb.lst h))
  | dic h _ =>
    cases e
    rcases sb.dic h with h | ⟨o, h⟩
    · exact .base (.dK h)
    · exact .fDict h
  | ref _ _ => cases e
  | scr _ _ => cases e
theorem me_isi {T : Ty} {tn : Str} {p2 : Pos} (ha : ME X W a ma) (hg : Gl X "isinstance") (hm : X.mg "isinstance" = none) (hg2 : Gl X tn) (hm2 : X.mg tn = none) (hv : bootBuiltins tn = some (.type T.name)) (hn : tn ≠ "__name__" := by decide) (hdb : (tn == ("__debug__" : Str)) = false := by decide)
    (hs : starEach [a, .Name tn p2] X.env = (false, eval a X.env) :: starEach [.Name tn p2] X.env := by rfl) (hs2 : starEach [.Name tn p2] X.env = (false, eval (.Name tn p2) X.env) :: starEach [] X.env := by rfl) (hpl : (backTo pos (starEach [.Name tn p2] X.env)).any (·.1) = false := by rfl) :
    ME X W (.Call (.Name "isinstance" p) [a, .Name tn p2] [] pos) (mFn1 (fIsi T) ma) := by
  refine pe_imp (pe_callB call_isi hg hm (by decide +kernel) (pa_cons ha (pa_cons (pe_bltn (v := .ty T.name) hg2 hm2 hv rfl hn hdb) pa_nil hs2) hs) (he := hs) (hpl := hpl)) fun σ H Q ⟨g, s, ok, h⟩ => ?_
  refine ⟨g, s, ok, (PostE.bind h).mono fun rv g1 s1 H1 t1 k1 o1 h1 v rr => ?_⟩
  unfold fIsi at h1
  split at h1
  · rename_i d e1
    split at h1
    · rename_i t e2
      obtain ⟨g2, l, sb, rp⟩ := asD_ok o1 (GLe.refl g1) o1.sub rr e1
      exact ⟨v, .ty T.name, .type t, .type T.name, isTy T d, rfl, .ty _, tyX_of sb rp e2, kit_ty (isTy_kit T d t e2), kE_d h1 o1 (.bl _)⟩
    · exact h1.elim
  · exact h1.elim
end

/-! ### the store's objects are changed -/
@[simp] def locOf : RV → Option Loc
  | .at i => some (.sl i)
  | .d (.ref n) => some (.gl n)
  | _ => none
def setCell (s : S) (l : Loc) (o : MObj) : S := match l with
  | .sl i => { s with env := s.env.set i (.own o) }
  | .gl n => { s with gl := s.gl.set n o }
section
variable {K : PySem.W.Frag} {W : WX} {σ : St} {g : G} {s : S} {H : Hp}
theorem locOf_ok {v : V} {r : RV} {l : Loc} (h : RepRV K g s H v r) (e : locOf r = some l) : v = .ref (g.adr l) := by
  cases r with
  | d x =>
    cases x <;> first | cases e
    cases (show Rep K g v _ from h); rfl
  | «at» i => cases e; exact h
  | new o => cases e
theorem cellOf_setCell {l l' : Loc} {o o' w : MObj} (h : cellOf s l = some o) (e : cellOf (setCell s l o') l' = some w) : (l' = l ∧ w = o') ∨ (l' ≠ l ∧ cellOf s l' = some w) := by
  cases l with
  | sl i =>
    have hi : i < s.env.length := by
      have h' : (match s.env[i]? with | some (.own o) => some o | _ => none) = some o := h
      split at h'
      · rename_i e; exact (List.getElem?_eq_some_iff.mp e).1
      · cases h'
    rcases cellOf_set hi e with ⟨z, z2⟩ | z
    · cases z2; exact .inl ⟨z, rfl⟩
    · exact .inr z
  | gl n =>
    have hn : n < s.gl.length := (List.getElem?_eq_some_iff.mp h).1
    cases l' with
    | sl j => exact .inr ⟨(fun z => nomatch z), e⟩
    | gl m =>
      have e' : (s.gl.set n o')[m]? = some w := e
      by_cases z : m = n
      · subst z; rw [List.getElem?_set_self hn] at e'; cases e'; exact .inl ⟨rfl, rfl⟩
      · rw [List.getElem?_set_ne (Ne.symm z)] at e'; exact .inr ⟨fun q => z (by cases q; rfl), e'⟩
/-- the object at l is changed -/
theorem Ok.change {l : Loc} {o o' : MObj} {ho : HO} (ok : Ok K g s σ H) (h : cellOf s l = some o) (r : ObjRep K g (upd H (g.adr l) ho) (g.adr l) o') :
    Ok K g (setCell s l o') σ (upd H (g.adr l) ho) ∧ Step g H g (upd H (g.adr l) ho) := by
  obtain ⟨f, q⟩ := ok.cell l o h
  have np : ¬ g.P (g.adr l) := fun p => (ok.prot _ p).2.2 ⟨l, o, h, rfl⟩
  have cs : ∀ {l' w}, cellOf (setCell s l o') l' = some w → ∃ w', cellOf s l' = some w' := fun e => by
    rcases cellOf_setCell h e with ⟨rfl, _⟩ | ⟨_, z⟩
    · exact ⟨o, h⟩
    · exact ⟨_, z⟩
  refine ⟨⟨ok.sub.upH f, fun l' w e => ?_, fun l1 l2 w1 w2 e1 e2 z => ?_, fun i x e => ?_, ?_, ?_, fun b p => ?_⟩, GLe.refl _, rfl, fun b p => upd_ne fun z => np (by rw [← z]; exact p), fun b u e => upd_ne fun z => by rw [z, f] at e; cases e⟩
  · rcases cellOf_setCell h e with ⟨rfl, rfl⟩ | ⟨hl, z⟩
    · exact ⟨f, r⟩
    · obtain ⟨f', r'⟩ := ok.cell l' w z
      exact ⟨f', r'.mono (GLe.refl _) (upd_ne fun q => hl (ok.inj _ _ _ _ z h q))⟩
  · obtain ⟨w1', h1⟩ := cs e1
    obtain ⟨w2', h2⟩ := cs e2
    exact ok.inj _ _ _ _ h1 h2 z
  · cases l with
    | gl n => exact ok.env i x e
    | sl j =>
      have hj : j < s.env.length := by
        have h' : (match s.env[j]? with | some (.own o) => some o | _ => none) = some o := h
        split at h'
        · rename_i e; exact (List.getElem?_eq_some_iff.mp e).1
        · cases h'
      have e' : (s.env.set j (.own o'))[i]? = some x := e
      by_cases z : i = j
      · subst z
        rw [List.getElem?_set_self hj] at e'
        cases e'
        have h' : (match s.env[i]? with | some (.own o) => some o | _ => none) = some o := h
        split at h'
        · rename_i e; have q := ok.env i _ e; exact q
        · cases h'
      · rw [List.getElem?_set_ne (Ne.symm z)] at e'
        exact ok.env i x e'
  · cases l with
    | gl n => exact ok.len
    | sl j => exact (List.length_set ..).trans ok.len
  · cases l with
    | gl n => exact ok.ng.trans (List.length_set ..).symm
    | sl j => exact ok.ng
  · obtain ⟨h1, h2, h3⟩ := ok.prot b p
    refine ⟨?_, h2, fun ⟨l', w, e, z⟩ => ?_⟩
    · rw [upd_ne (fun z => np (by rw [← z]; exact p))]; exact h1
    · obtain ⟨w', h'⟩ := cs e
      exact h3 ⟨l', w', h', z⟩
theorem setCell_keep {l : Loc} {o : MObj} {r : RV} {v : V} {ho : HO} : True := trivial
/-- the end of a method that changes its receiver -/
theorem kE_change {Q : VK} {l : Loc} {o o' : MObj} {ho : HO} {v : V} {x : D} (ok : Ok K g s σ H) (h : cellOf s l = some o) (r : ObjRep K g (upd H (g.adr l) ho) (g.adr l) o') (rx : Rep K g v x)
    (q : PostE K W σ g s H (kE K Q) (.ok (.d x) (setCell s l o'))) : Q v (upd H (g.adr l) ho) := by
  obtain ⟨o1, t1⟩ := ok.change h r
  exact q g _ t1 (SlKeep.refl _) o1 v rx
theorem cell_lst {l : Loc} {xs : List D} (ok : Ok K g s σ H) (h : cellOf s l = some (.lst xs)) : ∃ vs, H (g.adr l) = some (.lst vs) ∧ RepL K g vs xs := (ok.cell l _ h).2
end
/-- a method of a list with one argument given away -/
def mLm1 (f : List D → D → Option (D × List D)) (o a : M) : M := fun s => (o s).bind fun r s1 => match locOf r with
  | some l => (match cellOf s1 l with
    | some (.lst _) => (mLeak a s1).bind fun d s2 => (match cellOf s2 l with
      | some (.lst xs) => (match f xs d with
        | some (x, ys) => .ok (.d x) (setCell s2 l (.lst ys))
        | none => .stuck)
      | _ => .stuck)
    | _ => .stuck)
  | none => .stuck
def fAppend : List D → D → Option (D × List D) := fun xs d => if xs.length < sizeLine then some (.non, xs ++ [d]) else none
section
variable {X : Cx} {W : WX} {o a b : Expr} {mo ma mb : M} {apos cpos : Pos}
theorem mLm1_of {f : List D → D → Option (D × List D)} {r : V → List V → Hp → VK → Prop}
    (hf : ∀ (g : G) (l : Addr) (vs : List V) (xs : List D) (y : V) (d : D) (x : D) (ys : List D) (H : Hp) (Q : VK), RepL X.K g vs xs → Rep X.K g y d → H l = some (.lst vs) → f xs d = some (x, ys) →
      (∀ v ws, Rep X.K g v x → RepL X.K g ws ys → Q v (upd H l (.lst ws))) → r (.ref l) [y] H Q)
    {σ : St} {H : Hp} {Q : VK} {g : G} {s : S} (ok : Ok X.K g s σ H) (h : PostE X.K W σ g s H (kE X.K Q) (mLm1 f mo ma s)) : tBM X.K "list" r (tM X.K W mo) (tCons (tM X.K W ma) tNil) σ H Q := by
  refine ⟨g, s, ok, (PostE.bind h).mono fun rv g1 s1 H1 t1 k1 o1 h1 v rr => ?_⟩
  split at h1
  · rename_i l e1
    have hv := locOf_ok rr e1
    subst hv
    split at h1
    · rename_i zs e2
      obtain ⟨us, hu, _⟩ := cell_lst o1 e2
      refine ⟨.inl ⟨rfl, us, .of hu⟩, ?_⟩
      refine tM_leak o1 (PostE.bind h1) fun d g2 s2 H2 y t2 k2 o2 ry h2 => ?_
      have el : g2.adr l = g1.adr l := by
        cases l with
        | sl i => exact k2 i
        | gl n => exact t2.le.adr n (by rw [o1.ng]; exact gl_cell e2)
      split at h2
      · rename_i xs e3
        split at h2
        · rename_i x ys e4
          obtain ⟨vs, hvs, rvs⟩ := cell_lst o2 e3
          show r (.ref (g1.adr l)) [y] H2 Q
          rw [← el]
          exact hf g2 _ vs xs y d x ys H2 Q rvs ry hvs e4 fun v ws rv rw' => kE_change (o' := .lst ys) o2 e3 ⟨ws, upd_same, rw'⟩ rv h2
        · exact h2.elim
      · exact h2.elim
    · exact h1.elim
  · exact h1.elim
theorem me_append (ho : ME X W o mo) (ha : ME X W a ma) (hbase : attributeBase o "append" X.env (eval o X.env) = eval o X.env := by rfl)
    (hfew : ((backTo cpos (starEach [a] X.env)).all (fun x => !x.1) && (backToKw cpos (keywordEach [] X.env)).all (fun x => x.1.isSome)
      && decide ([a].length + ([] : List Keyword).length + (if ([] : List Keyword).isEmpty then 0 else 1) < 30)) = true := by rfl)
    (hline : (apos.endLine == cpos.line) = true := by rfl) (hs : starEach [a] X.env = (false, eval a X.env) :: starEach [] X.env := by rfl) :
    ME X W (.Call (.Attribute o "append" apos) [a] [] cpos) (mLm1 fAppend mo ma) := by
  have z := pe_bm PySem.F.plainAttrs_list PySem.F.slot_list_append PySem.F.type_list_append mt_append ho (pa_cons ha pa_nil hs) hbase hfew hline hs
  refine pe_imp z fun σ H Q h => ?_
  obtain ⟨g, s, ok, h⟩ := h
  refine mLm1_of (fun g l vs xs y d x ys H Q rvs ry hl e q => ?_) ok h
  clear h
  unfold fAppend at e
  split at e
  · rename_i hz
    cases e
    exact ⟨l, vs, y, rfl, rfl, hl, by rw [rvs.length]; exact hz, q _ _ .non (rvs.append (.one ry))⟩
  · cases e
end
end MI
/-! # Loops, comprehensions -/
namespace MI
open PySem L2

/-! ### what is walked -/
def Walk (K : PySem.W.Frag) (J : It) (ds : List D) (g : G) (H : Hp) : Prop := ∀ g' s' σ' H', GLe g g' → (∀ a u, g.F a = some u → H' a = H a) → Ok K g' s' σ' H' →
  J.stop ds.length H' ∧ ∀ i d, ds[i]? = some d → J.go i H' ∧ ∀ x H'', J.yld i H' x H'' → ∃ g'', Step g' H' g'' H'' ∧ SlKeep g' g'' ∧ Ok K g'' s' σ' H'' ∧ Rep K g'' x d
abbrev kI (K : PySem.W.Frag) (R : It → Hp → Prop) : List D → G → S → Hp → Prop := fun ds g _ H => ∀ J, Walk K J ds g H → R J H
def tMI (K : PySem.W.Frag) (W : WX) (m : S → Res (List D)) : TI := fun σ H R => ∃ g s, Ok K g s σ H ∧ PostE K W σ g s H (kI K R) (m s)
def MIt (X : Cx) (W : WX) (tg iter : Expr) (m : S → Res (List D)) : Prop := PI X tg iter (tMI X.K W m)
theorem pi_imp {X : Cx} {tg e : Expr} {t t' : TI} (h : PI X tg e t) (i : ∀ σ H R, t' σ H R → t σ H R) : PI X tg e t' :=
  ⟨fun pins s σ H R I q => h.run pins s σ H R I (i σ H R q)⟩
/-- a target: what it does to the names -/
def MGk (K : PySem.W.Frag) (gt : TG) (is : List Nat) (t : D → S → Option S) : Prop :=
  ∀ g s σ H v d s', Ok K g s σ H → Rep K g v d → t d s = some s' → ∃ ws, Ok K g s' (setAll σ is ws) H ∧ ∀ Q : St → Hp → Prop, Q (setAll σ is ws) H → gt v σ H Q
structure MG (X : Cx) (tg : Expr) (gt : TG) (is : List Nat) (t : D → S → Option S) : Prop where
  pg : PG X tg gt
  ok : MGk X.K gt is t

def iSeq (m : M) : S → Res (List D) := fun s => (mLeak m s).bind fun d s1 => match d with
  | .lst xs => .ok xs s1
  | .tup xs => .ok xs s1
  | .scr xs => .ok xs s1
  | _ => .stuck
def iLst (m : M) : S → Res (List D) := fun s => (mLeak m s).bind fun d s1 => match d with
  | .lst xs => .ok xs s1
  | .scr xs => .ok xs s1
  | _ => .stuck
def iTup (m : M) : S → Res (List D) := fun s => (mLeak m s).bind fun d s1 => match d with
  | .tup xs => .ok xs s1
  | _ => .stuck
def rangeD (lo : Int) : Nat → List D
  | 0 => []
  | n + 1 => .int lo :: rangeD (lo + 1) n
theorem rangeD_len : ∀ (n : Nat) (lo : Int), (rangeD lo n).length = n
  | 0, _ => rfl
  | n + 1, lo => by rw [rangeD, List.length_cons, rangeD_len n]
theorem rangeD_get : ∀ (n : Nat) (lo : Int) (i : Nat) (d : D), (rangeD lo n)[i]? = some d → i < n ∧ d = .int (lo + i)
  | 0, _, _, _, e => by simp [rangeD] at e
  | n + 1, lo, 0, d, e => by simp [rangeD] at e; subst e; simp
  | n + 1, lo, i + 1, d, e => by
    obtain ⟨h1, h2⟩ := rangeD_get n (lo + 1) i d (by simpa [rangeD] using e)
    refine ⟨by omega, ?_⟩
    rw [h2]
    congr 1
    push_cast
    omega
theorem rng1_ex (j : Int) : ∃ r : Option (List D), r = if -(2 ^ 62) ≤ j ∧ j < 2 ^ 62 then some (rangeD 0 j.toNat) else none := ⟨_, rfl⟩
theorem rng2_ex (i j : Int) : ∃ r : Option (List D), r = if -(2 ^ 62) ≤ i ∧ i < 2 ^ 62 ∧ -(2 ^ 62) ≤ j ∧ j < 2 ^ 62 then some (rangeD i (j - i).toNat) else none := ⟨_, rfl⟩
/-- (by choice: nothing is worked out by the kernel) -/
noncomputable def rng1 (j : Int) : Option (List D) := Classical.choose (rng1_ex j)
noncomputable def rng2 (i j : Int) : Option (List D) := Classical.choose (rng2_ex i j)
theorem rng1_eq (j : Int) : rng1 j = if -(2 ^ 62) ≤ j ∧ j < 2 ^ 62 then some (rangeD 0 j.toNat) else none := Classical.choose_spec (rng1_ex j)
theorem rng2_eq (i j : Int) : rng2 i j = if -(2 ^ 62) ≤ i ∧ i < 2 ^ 62 ∧ -(2 ^ 62) ≤ j ∧ j < 2 ^ 62 then some (rangeD i (j - i).toNat) else none := Classical.choose_spec (rng2_ex i j)
noncomputable def iRange1 (m : S → Res (List D)) : S → Res (List D) := fun s => (m s).bind fun ds s1 => match ds with
  | [.int j] => (match rng1 j with
    | some l => .ok l s1
    | none => .stuck)
  | _ => .stuck
noncomputable def iRange2 (m : S → Res (List D)) : S → Res (List D) := fun s => (m s).bind fun ds s1 => match ds with
  | [.int i, .int j] => (match rng2 i j with
    | some l => .ok l s1
    | none => .stuck)
  | _ => .stuck
section
variable {K : PySem.W.Frag}
theorem walk_lst {g : G} {H0 : Hp} {a : Addr} {vs : List V} {ds : List D} (h : SqL K g.F a vs) (r : RepL K g vs ds) (inj : ∀ H, SubH g.F H → ∀ xs, SqL K H a xs → xs = vs) : Walk K (Itl K a) ds g H0 := by
  intro g' s' σ' H' l _ ok
  have hq : SqL K H' a vs := sqL_mono (l.F.transH ok.sub) h
  refine ⟨⟨vs, hq, by rw [r.length]; exact Nat.le_refl _⟩, fun i d e => ?_⟩
  obtain ⟨v, hv, rv⟩ := r.get e
  refine ⟨⟨vs, v, hq, hv⟩, fun x H'' ⟨e1, e2⟩ => ?_⟩
  subst e1
  have := e2 vs hq
  rw [hv] at this
  cases this
  exact ⟨g', Step.refl _ _, SlKeep.refl _, ok, rv.mono l⟩
theorem walk_lst' {g : G} {H0 : Hp} {a : Addr} {vs : List V} {ds : List D} (h : SqL K g.F a vs) (r : RepL K g vs ds) : Walk K (Itl K a) ds g H0 := by
  intro g' s' σ' H' l _ ok
  have hq : SqL K H' a vs := sqL_mono (l.F.transH ok.sub) h
  refine ⟨⟨vs, hq, by rw [r.length]; exact Nat.le_refl _⟩, fun i d e => ?_⟩
  obtain ⟨v, hv, rv⟩ := r.get e
  refine ⟨⟨vs, v, hq, hv⟩, fun x H'' ⟨e1, e2⟩ => ?_⟩
  subst e1
  have := e2 vs hq
  rw [hv] at this
  cases this
  exact ⟨g', Step.refl _ _, SlKeep.refl _, ok, rv.mono l⟩
theorem walk_tup {g : G} {H0 : Hp} {a : Addr} {vs : List V} {ds : List D} (h : SqT K g.F a vs) (r : RepL K g vs ds) : Walk K (Itt K a) ds g H0 := by
  intro g' s' σ' H' l _ ok
  have hq : SqT K H' a vs := sqT_mono (l.F.transH ok.sub) h
  refine ⟨⟨vs, hq, by rw [r.length]; exact Nat.le_refl _⟩, fun i d e => ?_⟩
  obtain ⟨v, hv, rv⟩ := r.get e
  refine ⟨⟨vs, v, hq, hv⟩, fun x H'' ⟨e1, e2⟩ => ?_⟩
  subst e1
  have := e2 vs hq
  rw [hv] at this
  cases this
  exact ⟨g', Step.refl _ _, SlKeep.refl _, ok, rv.mono l⟩
theorem walk_rng {g : G} {H0 : Hp} {lo : Int} {n : Nat} : Walk K (Itr lo n) (rangeD lo n) g H0 := by
  intro g' s' σ' H' l _ ok
  refine ⟨by rw [rangeD_len]; exact Nat.le_refl _, fun i d e => ?_⟩
  obtain ⟨h1, rfl⟩ := rangeD_get n lo i d e
  refine ⟨h1, fun x H'' ⟨e1, e2⟩ => ?_⟩
  subst e1 e2
  exact ⟨g', Step.refl _ _, SlKeep.refl _, ok, .int _⟩
end
section
variable {X : Cx} {W : WX} {tg e a b : Expr} {me : M} {m : S → Res (List D)} {p pos : Pos}
theorem mi_lst (he : ME X W e me) : MIt X W tg e (iLst me) := by
  refine pi_imp (pi_list he) fun σ H R h => ?_
  obtain ⟨g, s, ok, h⟩ := h
  refine tM_leak ok (PostE.bind h) fun d g1 s1 H1 v t1 k1 o1 rv h1 => ?_
  split at h1
  · cases rv with
    | lst hq r => exact ⟨_, rfl, ⟨_, .of (o1.sub.lst hq)⟩, PostE.done h1 o1 _ (walk_lst' (.of hq) r)⟩
  · cases rv with
    | scr hq r => exact ⟨_, rfl, ⟨_, sqL_mono o1.sub hq⟩, PostE.done h1 o1 _ (walk_lst' hq r)⟩
  · exact h1.elim
theorem mi_tup (he : ME X W e me) : MIt X W tg e (iTup me) := by
  refine pi_imp (pi_tup he) fun σ H R h => ?_
  obtain ⟨g, s, ok, h⟩ := h
  refine tM_leak ok (PostE.bind h) fun d g1 s1 H1 v t1 k1 o1 rv h1 => ?_
  split at h1
  · cases rv with
    | tup hq r => exact ⟨_, rfl, ⟨_, sqT_mono o1.sub hq⟩, PostE.done h1 o1 _ (walk_tup hq r)⟩
  · exact h1.elim
/-- of two readings of what is walked the one that is not stuck -/
def orI (a b : S → Res (List D)) : S → Res (List D) := fun s => match a s with
  | .stuck => b s
  | r => r
theorem pi_or2 {t t' : TI} (h : PI X tg e t) (h' : PI X tg e t') : PI X tg e (fun σ H R => t σ H R ∨ t' σ H R) :=
  ⟨fun pins s σ H R I q => q.elim (h.run pins s σ H R I) (h'.run pins s σ H R I)⟩
theorem mi_alt {ma mb : S → Res (List D)} (ha : MIt X W tg e ma) (hb : MIt X W tg e mb) : MIt X W tg e (orI ma mb) := by
  refine pi_imp (pi_or2 ha hb) fun σ H Q h => ?_
  obtain ⟨g, s, ok, h⟩ := h
  unfold orI at h
  cases q : ma s with
  | ok a s' => simp only [q] at h; exact .inl ⟨g, s, ok, by rw [q]; exact h⟩
  | exc c p s' => simp only [q] at h; exact .inl ⟨g, s, ok, by rw [q]; exact h⟩
  | stuck => simp only [q] at h; exact .inr ⟨g, s, ok, h⟩
theorem mi_imp {m m' : S → Res (List D)} (h : MIt X W tg e m) (i : ∀ s, m' s = .stuck ∨ m' s = m s) : MIt X W tg e m' := by
  refine pi_imp h fun σ H R ⟨g, s, ok, h⟩ => ?_
  rcases i s with z | z
  · rw [z] at h; exact h.elim
  · rw [z] at h; exact ⟨g, s, ok, h⟩
theorem mi_seq (he : ME X W e me) : MIt X W tg e (iSeq me) := by
  refine mi_imp (mi_alt (mi_lst he) (mi_tup he)) fun s => ?_
  unfold iSeq orI iLst iTup
  cases h : mLeak me s with
  | ok d s1 => cases d <;> simp
  | exc c p s1 => simp
  | stuck => simp
theorem mi_range1 (ha : MA X W [a] m) (hg : Gl X "range") (hm : X.mg "range" = none) (hs : starEach [a] X.env = [(false, eval a X.env)] := by rfl) : MIt X W tg (.Call (.Name "range" p) [a] [] pos) (iRange1 m) := by
  refine pi_imp (pi_range1 hg hm ha hs) fun σ H R h => ?_
  obtain ⟨g, s, ok, h⟩ := h
  refine ⟨g, s, ok, (PostE.bind h).mono fun ds g1 s1 H1 t1 k1 o1 h1 vs rs => ?_⟩
  split at h1
  · cases rs with
    | cons r1 rs =>
      cases rs
      cases r1
      split at h1
      · rename_i hz
        rw [rng1_eq] at hz
        split at hz
        · rename_i hz2
          cases hz
          exact ⟨_, rfl, hz2.1, hz2.2, PostE.done h1 o1 _ walk_rng⟩
        · cases hz
      · exact h1.elim
  · exact h1.elim
theorem mi_range2 (ha : MA X W [a, b] m) (hg : Gl X "range") (hm : X.mg "range" = none) (hs : starEach [a, b] X.env = [(false, eval a X.env), (false, eval b X.env)] := by rfl) (hs2 : starEach [b] X.env = [(false, eval b X.env)] := by rfl) : MIt X W tg (.Call (.Name "range" p) [a, b] [] pos) (iRange2 m) := by
  refine pi_imp (pi_range2 hg hm ha hs hs2) fun σ H R h => ?_
  obtain ⟨g, s, ok, h⟩ := h
  refine ⟨g, s, ok, (PostE.bind h).mono fun ds g1 s1 H1 t1 k1 o1 h1 vs rs => ?_⟩
  split at h1
  · cases rs with
    | cons r1 rs =>
      cases rs with
      | cons r2 rs =>
        cases rs
        cases r1; cases r2
        split at h1
        · rename_i hz
          rw [rng2_eq] at hz
          split at hz
          · rename_i hz2
            cases hz
            exact ⟨_, _, rfl, hz2, PostE.done h1 o1 _ walk_rng⟩
          · cases hz
        · exact h1.elim
  · exact h1.elim
/-! ### targets -/
def tgName (i : Nat) : D → S → Option S := fun d s => assign i (.d d) s
def tgTup (is : List Nat) : D → S → Option S := fun d s => match d with
  | .tup ds => assignAll is (ds.map .d) s
  | _ => none
theorem mgk_name {K : PySem.W.Frag} {i : Nat} : MGk K (gName i) [i] (tgName i) := fun g s σ H v d s' ok r e => by
  simp only [tgName, assign] at e
  split at e
  · rename_i hl
    cases e
    exact ⟨[v], ok.setVal r hl, fun Q q => q⟩
  · cases e
theorem mg_name {i : Nat} {x : Str} (hN : X.N.Nodup) (hi : X.N[i]? = some x := by rfl) (hx : L2.Loc X.env.scope x := by first | exact Or.inl rfl | exact Or.inr rfl) (hf : X.fn x = true ∨ X.env.scope.names.lookup x = some .local := by first | exact .inl rfl | exact .inr rfl) :
    MG X (.Name x pos) (gName i) [i] (tgName i) := ⟨pg_name hN hi hx hf, mgk_name⟩
theorem assignAll_d {K : PySem.W.Frag} {g : G} {H : Hp} : ∀ {is : List Nat} {vs : List V} {ds : List D} {σ : St} {s s' : S}, Ok K g s σ H → RepL K g vs ds → assignAll is (ds.map .d) s = some s' → Ok K g s' (setAll σ is vs) H
  | [], _, _, σ, s, s', ok, .nil, e => by cases e; exact ok
  | [], _, _, σ, s, s', ok, .cons _ _, e => by cases e
  | i :: is, _, _, σ, s, s', ok, .nil, e => by cases e
  | i :: is, _, _, σ, s, s', ok, .cons (d := d) a b, e => by
    simp only [List.map_cons, assignAll, assign] at e
    split at e
    · rename_i s1 e1
      split at e1
      · rename_i hl
        cases e1
        have z := assignAll_d (ok.setVal a hl) b e
        exact z
      · cases e1
    · cases e
theorem mgk_tup {K : PySem.W.Frag} {is : List Nat} : MGk K (gTup K is.length (gNames is)) is (tgTup is) := fun g s σ H v d s' ok r e => by
  unfold tgTup at e
  split at e
  · rename_i ds
    cases r with
    | tup hq rl =>
      refine ⟨_, assignAll_d ok rl e, fun Q q => ?_⟩
      have hl := (assignAll_len e).trans ((List.length_map _).trans rl.length.symm)
      exact ⟨_, _, rfl, sqT_mono ok.sub hq, hl.symm, gNames_set hl q⟩
  · cases e
theorem mg_tup {ts : List Expr} {is : List Nat} {k : Nat} (hc : X.calm = true) (h : PGs X ts (gNames is)) (hn : (assignEach ts X.env).length = is.length := by rfl) (hst : (assignEach ts X.env).findIdx? (·.1) = none := by rfl) :
    MG X (.Tuple ts k pos) (gTup X.K is.length (gNames is)) is (tgTup is) := ⟨pg_tup hc h hn hst, mgk_tup⟩
end

/-! ### for -/
def forGo (t : D → S → Option S) (body : S → Res Out) : List D → S → Res Out
  | [], s => .ok .nx s
  | d :: ds, s => match t d s with
    | none => .stuck
    | some s1 => match body s1 with
      | .ok .nx s2 => forGo t body ds s2
      | .ok .ct s2 => forGo t body ds s2
      | .ok .bk s2 => .ok .nx s2
      | r => r
def mFor (it : S → Res (List D)) (t : D → S → Option S) (body : S → Res Out) : S → Res Out := fun s => (it s).bind fun ds s1 => forGo t body ds s1
section
variable {X : Cx} {W : WX} {tg iter : Expr} {body : List Stmt} {it : S → Res (List D)} {gt : TG} {is : List Nat} {t : D → S → Option S} {mb : S → Res Out} {pos : Pos}
theorem ms_for (hp : PassesOwn (model X.prog X.w) X.A X.env X.xe) (hc : X.calm = true) (hi : MIt X W tg iter it) (hg : MG X tg gt is t) (hb : MSs X W body mb)
    (hs : ∀ x, foldedSetIterable iter X.env x = pure x := by intro _; rfl) : MS X W (.For tg iter body [] pos) (mFor it t mb) := by
  refine ps_imp (ps_for hp hc hi hg.pg hb hs) fun D σ H h => ?_
  obtain ⟨g, s, ok, h⟩ := h
  refine ⟨g, s, ok, (PostS.bind h).mono fun ds g1 s1 H1 t1 k1 o1 h1 J hJ => ?_⟩
  refine ⟨fun i m σ' H' => m = ds.length - i ∧ i ≤ ds.length ∧ ∃ g' s', Step g1 H1 g' H' ∧ Ok X.K g' s' σ' H' ∧ PostS X.K W g' s' H' D (forGo t mb (ds.drop i) s'), ⟨ds.length, by simp, Nat.zero_le _, g1, s1, Step.refl _ _, o1, by simpa using h1⟩, ?_⟩
  rintro i m σ' H' ⟨rfl, hi, g', s', t', o', h'⟩
  obtain ⟨st, go⟩ := hJ g' s' σ' H' t'.le t'.fk o'
  by_cases hlt : i < ds.length
  · obtain ⟨d, hd⟩ : ∃ d, ds[i]? = some d := ⟨_, List.getElem?_eq_getElem hlt⟩
    have hdrop : ds.drop i = d :: ds.drop (i + 1) := by
      rw [List.drop_eq_getElem_cons hlt]
      congr 1
      rw [List.getElem?_eq_getElem hlt] at hd
      exact Option.some.inj hd
    obtain ⟨go1, yl⟩ := go i d hd
    refine .inr ⟨go1, fun σ3 H3 => ∃ g3 s3, Step g1 H1 g3 H3 ∧ Ok X.K g3 s3 σ3 H3 ∧ PostS X.K W g3 s3 H3 D (forGo t mb (ds.drop (i + 1)) s3), fun σ3 H3 ⟨g3, s3, t3, o3, h3⟩ => ⟨ds.length - (i + 1), by omega, rfl, hlt, g3, s3, t3, o3, h3⟩, fun x H2 y => ?_⟩
    obtain ⟨g2, t2, k2, o2, r2⟩ := yl x H2 y
    have h2 := PostS.after (s' := s') h' t2
    rw [hdrop] at h2
    unfold forGo at h2
    cases e : t d s' with
    | none => simp only [e] at h2; exact h2.elim
    | some s2 =>
      simp only [e] at h2
      obtain ⟨ws, o2', hQ⟩ := hg.ok g2 s' σ' H2 x d s2 o2 r2 e
      refine hQ _ ⟨g2, s2, o2', ?_⟩
      have tt := t'.trans t2
      cases e2 : mb s2 with
      | ok o s3 =>
        simp only [e2] at h2
        cases o with
        | nx => exact fun σ3 g3 H3 t3 o3 => ⟨g3, s3, tt.trans t3, o3, PostS.after h2 t3⟩
        | ct => exact fun σ3 g3 H3 t3 o3 => ⟨g3, s3, tt.trans t3, o3, PostS.after h2 t3⟩
        | bk => exact fun σ3 g3 H3 t3 o3 => h2 σ3 g3 H3 t3 o3
        | rt d => exact fun v σ3 g3 H3 t3 o3 rv => h2 v σ3 g3 H3 t3 o3 rv
      | exc c p s3 => simp only [e2] at h2; exact h2
      | stuck => simp only [e2] at h2; exact h2
  · have e : i = ds.length := by omega
    subst e
    refine .inl ⟨st, ?_⟩
    rw [List.drop_length] at h'
    exact PostS.nx h' o'
end

/-! ### while -/
def whileGo (c : S → Res Bool) (b : S → Res Out) : Nat → S → Res Out
  | 0, _ => .stuck
  | n + 1, s => (c s).bind fun k s1 => if k = true then (match b s1 with
    | .ok .nx s2 => whileGo c b n s2
    | .ok .ct s2 => whileGo c b n s2
    | .ok .bk s2 => .ok .nx s2
    | r => r) else .ok .nx s1
open Classical in
noncomputable def mWhile (c : S → Res Bool) (b : S → Res Out) : S → Res Out := fun s => if h : ∃ n, whileGo c b n s ≠ .stuck then whileGo c b (Classical.choose h) s else .stuck
theorem whileGo_mono {c : S → Res Bool} {b : S → Res Out} : ∀ (n k : Nat) (s : S), whileGo c b n s ≠ .stuck → whileGo c b (n + k) s = whileGo c b n s
  | 0, _, _, h => absurd rfl h
  | n + 1, k, s, h => by
    have e : n + 1 + k = (n + k) + 1 := by omega
    rw [e]
    unfold whileGo at h ⊢
    cases hc : c s with
    | ok q s1 =>
      rw [hc] at h
      simp only [Res.bind_ok] at h ⊢
      by_cases hq : q = true
      · rw [if_pos hq] at h ⊢
        rw [if_pos hq]
        cases hb : b s1 with
        | ok o s2 =>
          rw [hb] at h
          cases o with
          | nx => exact whileGo_mono n k s2 h
          | ct => exact whileGo_mono n k s2 h
          | bk => rfl
          | rt d => rfl
        | exc _ _ _ => rfl
        | stuck => rfl
      · rw [if_neg hq, if_neg hq]
    | exc _ _ _ => rfl
    | stuck => rfl
theorem mWhile_eq {c : S → Res Bool} {b : S → Res Out} {n : Nat} {s : S} {r : Res Out} (h : whileGo c b n s = r) (hr : r ≠ .stuck) : mWhile c b s = r := by
  have hx : ∃ n, whileGo c b n s ≠ .stuck := ⟨n, by rw [h]; exact hr⟩
  unfold mWhile
  rw [dif_pos hx]
  have hy := Classical.choose_spec hx
  rcases Nat.le_total n (Classical.choose hx) with z | z
  · obtain ⟨k, hk⟩ := Nat.exists_eq_add_of_le z
    rw [hk, whileGo_mono n k s (by rw [h]; exact hr)]; exact h
  · obtain ⟨k, hk⟩ := Nat.exists_eq_add_of_le z
    rw [← whileGo_mono _ k s hy, ← hk]; exact h
section
variable {X : Cx} {W : WX} {c : Expr} {body : List Stmt} {mc : S → Res Bool} {mb : S → Res Out} {pos : Pos}
theorem ms_while (hp : PassesOwn (model X.prog X.w) X.A X.env X.xe) (hc : MT X W c mc) (hb : MSs X W body mb) : MS X W (.While c body [] pos) (mWhile mc mb) := by
  refine ps_imp (ps_while hp hc hb) fun D σ H h => ?_
  obtain ⟨g, s, ok, h⟩ := h
  unfold mWhile at h
  split at h
  · rename_i hx
    refine ⟨fun m σ H => ∃ g s, Ok X.K g s σ H ∧ PostS X.K W g s H D (whileGo mc mb m s), ⟨_, g, s, ok, h⟩, ?_⟩
    rintro m σ H ⟨g, s, ok, h⟩
    cases m with
    | zero => exact h.elim
    | succ m =>
      unfold whileGo at h
      refine ⟨g, s, ok, (PostS.bind h).mono fun k g1 s1 H1 t1 k1 o1 h1 => ?_⟩
      cases k with
      | true =>
        rw [if_pos rfl] at h1
        show (if true = true then _ else _)
        rw [if_pos rfl]
        refine ⟨fun σ3 H3 => ∃ g3 s3, Ok X.K g3 s3 σ3 H3 ∧ PostS X.K W g3 s3 H3 D (whileGo mc mb m s3), fun σ3 H3 z => ⟨m, Nat.lt_succ_self _, z⟩, g1, s1, o1, ?_⟩
        cases e2 : mb s1 with
        | ok o s3 =>
          simp only [e2] at h1
          cases o with
          | nx => exact fun σ3 g3 H3 t3 o3 => ⟨g3, s3, o3, PostS.after h1 t3⟩
          | ct => exact fun σ3 g3 H3 t3 o3 => ⟨g3, s3, o3, PostS.after h1 t3⟩
          | bk => exact fun σ3 g3 H3 t3 o3 => h1 σ3 g3 H3 t3 o3
          | rt d => exact fun v σ3 g3 H3 t3 o3 rv => h1 v σ3 g3 H3 t3 o3 rv
        | exc c p s3 => simp only [e2] at h1; exact h1
        | stuck => simp only [e2] at h1; exact h1
      | false =>
        rw [if_neg (by decide)] at h1
        show (if false = true then _ else _)
        rw [if_neg (by decide)]
        exact PostS.nx h1 o1
  · exact h.elim
end
end MI
/-! # List comprehensions -/
namespace MI
open PySem L2

def wipeE (env : List Slot) : List Nat → List Slot
  | [] => env
  | v :: vs => (wipeE env vs).set v .none
def restE (e1 e2 : List Slot) : List Nat → List Slot
  | [] => e2
  | v :: vs => (restE e1 e2 vs).set v ((e1[v]?).getD .none)
theorem wipeE_len (env : List Slot) : ∀ vs, (wipeE env vs).length = env.length
  | [] => rfl
  | v :: vs => by rw [wipeE, List.length_set, wipeE_len env vs]
theorem restE_len (e1 e2 : List Slot) : ∀ vs, (restE e1 e2 vs).length = e2.length
  | [] => rfl
  | v :: vs => by rw [restE, List.length_set, restE_len e1 e2 vs]
theorem wipeE_get (env : List Slot) : ∀ (vs : List Nat) (i : Nat), (wipeE env vs)[i]? = if i ∈ vs then (env[i]?).map (fun _ => Slot.none) else env[i]?
  | [], i => by simp [wipeE]
  | v :: vs, i => by
    rw [wipeE]
    by_cases h : i = v
    · subst h
      simp only [List.mem_cons, true_or, if_true]
      by_cases hl : i < env.length
      · rw [List.getElem?_set_self (by rw [wipeE_len]; exact hl), List.getElem?_eq_getElem hl]; rfl
      · rw [List.getElem?_eq_none (by rw [List.length_set, wipeE_len]; omega), List.getElem?_eq_none (by omega)]; rfl
    · rw [List.getElem?_set_ne (Ne.symm h), wipeE_get env vs i]
      simp [h]
theorem restE_get (e1 e2 : List Slot) (hl : e1.length = e2.length) : ∀ (vs : List Nat) (i : Nat), (restE e1 e2 vs)[i]? = if i ∈ vs then e1[i]? else e2[i]?
  | [], i => by simp [restE]
  | v :: vs, i => by
    rw [restE]
    by_cases h : i = v
    · subst h
      simp only [List.mem_cons, true_or, if_true]
      by_cases hi : i < e1.length
      · rw [List.getElem?_set_self (by rw [restE_len]; omega), List.getElem?_eq_getElem hi]; rfl
      · rw [List.getElem?_eq_none (by rw [List.length_set, restE_len]; omega), List.getElem?_eq_none (by omega)]
    · rw [List.getElem?_set_ne (Ne.symm h), restE_get e1 e2 hl vs i]
      simp [h]
theorem wipe_get (σ : St) : ∀ (vs : List Nat) (i : Nat), (wipe σ vs)[i]? = if i ∈ vs then (σ[i]?).map (fun _ => none) else σ[i]?
  | [], i => by simp [wipe]
  | v :: vs, i => by
    rw [wipe]
    by_cases h : i = v
    · subst h
      simp only [List.mem_cons, true_or, if_true]
      by_cases hl : i < σ.length
      · rw [List.getElem?_set_self (by rw [wipe_length]; exact hl), List.getElem?_eq_getElem hl]; rfl
      · rw [List.getElem?_eq_none (by rw [List.length_set, wipe_length]; omega), List.getElem?_eq_none (by omega)]; rfl
    · rw [List.getElem?_set_ne (Ne.symm h), wipe_get σ vs i]
      simp [h]
theorem setAll_len : ∀ (is : List Nat) (vs : List V) (σ : St), (setAll σ is vs).length = σ.length
  | [], _, _ => by simp [setAll]
  | _ :: _, [], _ => by simp [setAll]
  | i :: is, v :: vs, σ => by rw [setAll, setAll_len is vs, List.length_set]
theorem setAll_get : ∀ (is : List Nat) (vs : List V) (σ : St) (i : Nat), i ∉ is → (setAll σ is vs)[i]? = σ[i]?
  | [], _, _, _, _ => by simp [setAll]
  | _ :: _, [], _, _, _ => by simp [setAll]
  | j :: is, v :: vs, σ, i, h => by
    rw [setAll, setAll_get is vs _ i (fun z => h (List.mem_cons_of_mem _ z)), List.getElem?_set_ne (fun z => h (by rw [z]; exact List.mem_cons_self))]
theorem wipe_setAll {σ : St} {is vs : List Nat} {ws : List V} (h : ∀ i ∈ is, i ∈ vs) : wipe (setAll (wipe σ vs) is ws) vs = wipe σ vs := by
  apply List.ext_getElem?
  intro i
  rw [wipe_get, wipe_get]
  by_cases hi : i ∈ vs
  · rw [if_pos hi, if_pos hi]
    have hl : (setAll (wipe σ vs) is ws).length = σ.length := by rw [setAll_len, wipe_length]
    by_cases hl2 : i < σ.length
    · rw [List.getElem?_eq_getElem (by rw [hl]; exact hl2), List.getElem?_eq_getElem hl2]; rfl
    · rw [List.getElem?_eq_none (by rw [hl]; omega), List.getElem?_eq_none (by omega)]
  · rw [if_neg hi, if_neg hi, setAll_get _ _ _ _ (fun z => hi (h i z)), wipe_get, if_neg hi]
theorem wipe_wipe {σ : St} {vs : List Nat} : wipe (wipe σ vs) vs = wipe σ vs := by
  have := wipe_setAll (σ := σ) (is := []) (vs := vs) (ws := []) (fun _ h => nomatch h)
  simpa [setAll] using this
def noOwn (env : List Slot) (vs : List Nat) : Bool := vs.all fun v => match env[v]? with
  | some (.own _) => false
  | _ => true
def wipeS (s : S) (vs : List Nat) : S := { s with env := wipeE s.env vs }
section
variable {K : PySem.W.Frag} {σ : St} {g : G} {s : S} {H : Hp}
theorem cellOf_wipe {vs : List Nat} {l : Loc} {o : MObj} (e : cellOf (wipeS s vs) l = some o) : cellOf s l = some o ∧ ∀ i, l = .sl i → i ∉ vs := by
  cases l with
  | gl n => exact ⟨e, fun i z => nomatch z⟩
  | sl j =>
    have e' : (match (wipeE s.env vs)[j]? with | some (.own o) => some o | _ => none) = some o := e
    rw [wipeE_get] at e'
    by_cases h : j ∈ vs
    · rw [if_pos h] at e'
      cases q : s.env[j]? with
      | none => rw [q] at e'; cases e'
      | some w => rw [q] at e'; cases e'
    · rw [if_neg h] at e'
      exact ⟨e', fun i z => by cases z; exact h⟩
theorem Ok.wipe {vs : List Nat} (ok : Ok K g s σ H) : Ok K g (wipeS s vs) (wipe σ vs) H := by
  refine ⟨ok.sub, fun l o e => ok.cell l o (cellOf_wipe e).1, fun l l' o o' e e' z => ok.inj l l' o o' (cellOf_wipe e).1 (cellOf_wipe e').1 z, fun i x e => ?_, ?_, ok.ng, fun a p => ?_⟩
  · have e' : (wipeE s.env vs)[i]? = some x := e
    rw [wipeE_get] at e'
    by_cases h : i ∈ vs
    · rw [if_pos h] at e'
      cases q : s.env[i]? with
      | none => rw [q] at e'; cases e'
      | some w => rw [q] at e'; cases e'; trivial
    · rw [if_neg h] at e'
      have := ok.env i x e'
      cases x with
      | none => trivial
      | val d => obtain ⟨v, q, r⟩ := this; exact ⟨v, by rw [wipe_get, if_neg h]; exact q, r⟩
      | own o => show (L2.wipe σ vs)[i]? = _; rw [wipe_get, if_neg h]; exact this
  · show (wipeE s.env vs).length = (L2.wipe σ vs).length
    rw [wipeE_len, wipe_length, ok.len]
  · obtain ⟨h1, h2, h3⟩ := ok.prot a p
    exact ⟨h1, h2, fun ⟨l, o, e, z⟩ => h3 ⟨l, o, (cellOf_wipe e).1, z⟩⟩
/-- back from the block: the block's own names are as they were -/
theorem Ok.rest {vs : List Nat} {g' : G} {s' : S} {H' : Hp} (ok : Ok K g s σ H) (n : noOwn s.env vs = true) (ok' : Ok K g' s' (L2.wipe σ vs) H') (l : GLe g g') :
    Ok K g' { s' with env := restE s.env s'.env vs } σ H' := by
  have hl : s.env.length = s'.env.length := by
    have h1 := ok.len
    have h2 := ok'.len
    rw [wipe_length] at h2
    omega
  have no : ∀ i ∈ vs, ∀ o, s.env[i]? ≠ some (.own o) := fun i hi o e => by
    have := List.all_eq_true.mp n i hi
    rw [e] at this
    cases this
  have cs : ∀ {l o}, cellOf { s' with env := restE s.env s'.env vs } l = some o → cellOf s' l = some o := by
    intro l o e
    cases l with
    | gl n => exact e
    | sl j =>
      have e' : (match (restE s.env s'.env vs)[j]? with | some (.own o) => some o | _ => none) = some o := e
      rw [restE_get _ _ hl] at e'
      by_cases h : j ∈ vs
      · rw [if_pos h] at e'
        split at e'
        · rename_i w q
          exact absurd q (no j h _)
        · cases e'
      · rw [if_neg h] at e'
        exact e'
  refine ⟨ok'.sub, fun l o e => ok'.cell l o (cs e), fun l l' o o' e e' z => ok'.inj l l' o o' (cs e) (cs e') z, fun i x e => ?_, ?_, ok'.ng, fun a p => ?_⟩
  · have e' : (restE s.env s'.env vs)[i]? = some x := e
    rw [restE_get _ _ hl] at e'
    by_cases h : i ∈ vs
    · rw [if_pos h] at e'
      have := ok.env i x e'
      cases x with
      | none => trivial
      | val d => obtain ⟨v, q, r⟩ := this; exact ⟨v, q, r.mono l⟩
      | own o => exact absurd e' (no i h o)
    · rw [if_neg h] at e'
      have := ok'.env i x e'
      cases x with
      | none => trivial
      | val d => obtain ⟨v, q, r⟩ := this; exact ⟨v, by rw [wipe_get, if_neg h] at q; exact q, r⟩
      | own o =>
        have q : (L2.wipe σ vs)[i]? = _ := this
        rw [wipe_get, if_neg h] at q
        exact q
  · show (restE s.env s'.env vs).length = σ.length
    rw [restE_len, ← hl]; exact ok.len
  · obtain ⟨h1, h2, h3⟩ := ok'.prot a p
    exact ⟨h1, h2, fun ⟨l, o, e, z⟩ => h3 ⟨l, o, cs e, z⟩⟩
end
def compGo (vs : List Nat) (t : D → S → Option S) (c : S → Res Bool) (e : S → Res D) : List D → List D → S → Option (List D × S)
  | [], acc, s => some (acc, s)
  | d :: ds, acc, s => match t d s with
    | none => none
    | some s1 => match c s1 with
      | .ok b s2 => if b = true then (match e s2 with
          | .ok y s3 => if acc.length < sizeLine then compGo vs t c e ds (acc ++ [y]) (wipeS s3 vs) else none
          | _ => none)
        else compGo vs t c e ds acc (wipeS s2 vs)
      | _ => none
def mComp (vs : List Nat) (it : S → Res (List D)) (t : D → S → Option S) (c : S → Res Bool) (e : M) : M := fun s => (it s).bind fun ds s1 => if noOwn s1.env vs = true then (match compGo vs t c (mLeak e) ds [] (wipeS s1 vs) with
  | some (acc, s2) => .ok (.new (.lst acc)) { s2 with env := restE s1.env s2.env vs }
  | none => .stuck) else .stuck
def mYes : S → Res Bool := fun s => .ok true s
abbrev W0 : WX := fun _ _ _ _ => False
abbrev Blk (X : Cx) (scope : Scope) (P : Cx → Prop) : Prop := ∀ (s : Shared) (H : Hp) (C : Addr) (cl : List (Str × Addr)) (fp : List Addr), P (X.blk s H scope (PySem.compEnvC scope cl C X.env) fp)
def MTs (X : Cx) (W : WX) (ifs : List Expr) (m : S → Res Bool) : Prop := PTs X ifs (tMT X.K W m)
theorem mts_nil {X : Cx} {W : WX} : MTs X W [] mYes := ⟨fun pins s σ H Q I ⟨g, t, ok, h⟩ => pts_nil.run pins s σ H Q I (PostE.done (W := W) h ok)⟩
theorem mts_one {X : Cx} {W : WX} {c : Expr} {m : S → Res Bool} (h : MT X W c m) : MTs X W [c] m := pts_one h
section
variable {X : Cx} {W : WX}
theorem tLc_of {vs is : List Nat} {it : S → Res (List D)} {gt : TG} {t : D → S → Option S} {mc : S → Res Bool} {me : M} {σ : St} {H : Hp} {Q : VK} {g : G} {s : S}
    (hgt : MGk X.K gt is t) (hsub : ∀ i ∈ is, i ∈ vs)
    (ok : Ok X.K g s σ H) (h : PostE X.K W σ g s H (kE X.K Q) (mComp vs it t mc me s)) :
    tLc (tMI X.K W it) gt (tMT X.K W0 mc) (tM X.K W0 me) vs σ H Q := by
  refine ⟨g, s, ok, (PostE.bind h).mono fun ds g1 s1 H1 t1 k1 o1 h1 J hJ D hD => ?_⟩
  split at h1
  · rename_i hno
    split at h1
    · rename_i acc0 s0 hgo
      -- the new list at D is held
      have ok2 := o1.grow (o := .lst []) hD
      have hold := ok2.hold (a := D) (u := .lst []) upd_same (o1.fnone hD) (o1.lnone hD)
      refine ⟨fun i m H' => m = ds.length - i ∧ i ≤ ds.length ∧ ∃ g' s' acc avs, Step (g1.hold D) (upd H1 D (.lst [])) (g'.wP (g1.hold D).P) (upd H' D (.lst [])) ∧ SlKeep g1 g' ∧ g'.P = (g1.hold D).P ∧ Ok X.K g' s' (wipe σ vs) H' ∧ H' D = some (.lst avs) ∧ RepL X.K g' avs acc ∧
        compGo vs t mc (mLeak me) (ds.drop i) acc s' = some (acc0, s0), ⟨ds.length, by simp, Nat.zero_le _, g1.hold D, wipeS s1 vs, [], [], ?_, SlKeep.refl _, rfl, hold.wipe, upd_same, .nil, by simpa using hgo⟩, ?_⟩
      · exact ⟨⟨Sub.refl _, Nat.le_refl _, fun _ _ => rfl⟩, rfl, fun b _ => by rw [upd_upd], fun b _ _ => by rw [upd_upd]⟩
      rintro i m H' ⟨rfl, hi, g', s', acc, avs, st, sk, pp, o', hD', racc, hg'⟩
      have lg : GLe g1 g' := ⟨st.le.F, st.le.ng, st.le.adr⟩
      have pD : g'.P D := by rw [pp]; exact .inr rfl
      have fD1 : g1.F D = none := o1.fnone hD
      have fk0 : ∀ a u, g1.F a = some u → H' a = H1 a := fun a u e => by
        have z : a ≠ D := fun z => by rw [z, fD1] at e; cases e
        have q := st.fk a u e
        rw [upd_ne z, upd_ne z] at q
        exact q
      obtain ⟨stp, go⟩ := hJ g' s' _ H' lg fk0 o'
      by_cases hlt : i < ds.length
      · obtain ⟨d, hd⟩ : ∃ d, ds[i]? = some d := ⟨_, List.getElem?_eq_getElem hlt⟩
        have hdrop : ds.drop i = d :: ds.drop (i + 1) := by
          rw [List.drop_eq_getElem_cons hlt]
          congr 1
          rw [List.getElem?_eq_getElem hlt] at hd
          exact Option.some.inj hd
        obtain ⟨go1, yl⟩ := go i d hd
        refine .inr ⟨go1, fun H3 => ∃ g3 s3 acc avs, Step (g1.hold D) (upd H1 D (.lst [])) (g3.wP (g1.hold D).P) (upd H3 D (.lst [])) ∧ SlKeep g1 g3 ∧ g3.P = (g1.hold D).P ∧ Ok X.K g3 s3 (wipe σ vs) H3 ∧ H3 D = some (.lst avs) ∧ RepL X.K g3 avs acc ∧
          compGo vs t mc (mLeak me) (ds.drop (i + 1)) acc s3 = some (acc0, s0), fun H3 z => ⟨ds.length - (i + 1), by omega, rfl, hlt, z⟩, fun x H2 y => ?_⟩
        obtain ⟨g2, t2, k2, o2, r2⟩ := yl x H2 y
        rw [hdrop] at hg'
        unfold compGo at hg'
        cases e : t d s' with
        | none => simp only [e] at hg'; cases hg'
        | some s2 =>
          simp only [e] at hg'
          obtain ⟨ws, o2', hQ⟩ := hgt g2 s' (wipe σ vs) H2 x d s2 o2 r2 e
          refine hQ _ ⟨wipe_setAll hsub, g2, s2, o2', ?_⟩
          -- what has been kept so far
          have acc2 : ∀ {g3 : G} {H3 : Hp}, Step g2 H2 g3 H3 → SlKeep g2 g3 → g3.P = (g1.hold D).P ∧ Step (g1.hold D) (upd H1 D (.lst [])) (g3.wP (g1.hold D).P) (upd H3 D (.lst [])) ∧ SlKeep g1 g3 ∧ H3 D = some (.lst avs) ∧ RepL X.K g3 avs acc := by
            intro g3 H3 t3 k3
            have tt := t2.trans t3
            have p3 : g3.P = (g1.hold D).P := tt.P.trans pp
            refine ⟨p3, ⟨⟨st.le.F.trans tt.le.F, Nat.le_trans st.le.ng tt.le.ng, fun n hn => (tt.le.adr n (Nat.lt_of_lt_of_le hn st.le.ng)).trans (st.le.adr n hn)⟩, rfl, fun b hb => ?_, fun b u hu => ?_⟩, fun j => (k3 j).trans ((k2 j).trans (sk j)), (tt.keep D pD).trans hD', racc.mono tt.le⟩
            · by_cases hbD : b = D
              · rw [hbD, upd_same, upd_same]
              · have q := st.keep b hb
                rw [upd_ne hbD, upd_ne hbD] at q ⊢
                exact (tt.keep b (by rw [pp]; exact hb)).trans q
            · by_cases hbD : b = D
              · rw [hbD, upd_same, upd_same]
              · have q := st.fk b u hu
                rw [upd_ne hbD, upd_ne hbD] at q ⊢
                exact (tt.fk b u (st.le.F _ _ hu)).trans q
          cases e2 : mc s2 with
          | ok b s3 =>
            simp only [e2] at hg'
            intro g3 H3 t3 k3 o3
            show (if b = true then _ else _)
            cases b with
            | true =>
              rw [if_pos rfl] at hg'
              rw [if_pos rfl]
              unfold mLeak at hg'
              refine ⟨g3, s3, o3, ?_⟩
              cases e3 : me s3 with
              | ok r s4 =>
                simp only [e3, Res.bind_ok] at hg'
                intro g4 H4 t4 k4 o4 v rv
                cases e4 : leak r s4 with
                | none => simp only [e4] at hg'; cases hg'
                | some pr =>
                  obtain ⟨y, s5⟩ := pr
                  simp only [e4] at hg'
                  obtain ⟨g5, t5, k5, o5, ry⟩ := leak_ok o4 rv e4
                  obtain ⟨p5, st5, sk5, hD5, ra5⟩ := acc2 ((t3.trans t4).trans t5) ((k3.trans k4).trans k5)
                  by_cases hz : acc.length < sizeLine
                  · rw [if_pos hz] at hg'
                    have pD5 : g5.P D := by rw [p5]; exact .inr rfl
                    obtain ⟨_, f5, l5⟩ := o5.prot D pD5
                    refine ⟨avs, hD5, by rw [ra5.length]; exact hz, g5, wipeS s5 vs, acc ++ [y], avs ++ [v], ?_, sk5, p5, ?_, upd_same, ra5.append (.one ry), hg'⟩
                    · rw [upd_upd]; exact st5
                    · -- the list at D grows: it is nobody's in the store
                      have ow := o5.wipe (vs := vs)
                      rw [show L2.wipe (setAll (L2.wipe σ vs) is ws) vs = L2.wipe σ vs from wipe_setAll hsub] at ow
                      refine ⟨ow.sub.upH f5, fun l o e => ?_, ow.inj, ow.env, ow.len, ow.ng, fun b p => ?_⟩
                      · obtain ⟨f, r⟩ := ow.cell l o e
                        exact ⟨f, r.mono (GLe.refl _) (upd_ne fun z => l5 ⟨l, o, (cellOf_wipe e).1, z⟩)⟩
                      · obtain ⟨h1, h2, h3⟩ := ow.prot b p
                        refine ⟨?_, h2, h3⟩
                        by_cases z : b = D
                        · exact ⟨_, by rw [z]; exact upd_same⟩
                        · rw [upd_ne z]; exact h1
                  · rw [if_neg hz] at hg'; cases hg'
              | exc c p s4 => simp only [e3, Res.bind_exc] at hg'; cases hg'
              | stuck => simp only [e3, Res.bind_stuck] at hg'; cases hg'
            | false =>
              rw [if_neg (by decide)] at hg'
              rw [if_neg (by decide)]
              obtain ⟨p5, st5, sk5, hD5, ra5⟩ := acc2 t3 k3
              have ow := o3.wipe (vs := vs)
              rw [show L2.wipe (setAll (L2.wipe σ vs) is ws) vs = L2.wipe σ vs from wipe_setAll hsub] at ow
              exact ⟨g3, wipeS s3 vs, acc, avs, st5, sk5, p5, ow, hD5, ra5, hg'⟩
          | exc c p s3 => simp only [e2] at hg'; cases hg'
          | stuck => simp only [e2] at hg'; cases hg'
      · have e : i = ds.length := by omega
        subst e
        refine .inl ⟨stp, ?_⟩
        rw [List.drop_length] at hg'
        cases hg'
        -- back: D is let go
        have ob := o'.unhold (g0 := g1) (a := D) pp
        obtain ⟨_, fD, lD⟩ := o'.prot D pD
        have npD : ¬ g1.P D := o1.pnone hD
        have obr := o1.rest hno ob (show GLe g1 (g'.wP g1.P) from ⟨lg.F, lg.ng, lg.adr⟩)
        refine h1 (g'.wP g1.P) H' ⟨⟨lg.F, lg.ng, lg.adr⟩, rfl, fun b hb => ?_, fk0⟩ sk obr (.ref D) ⟨D, rfl, fD, npD, fun ⟨l, o, e, z⟩ => lD ?_, avs, hD', racc.mono wP_le⟩
        · have hbD : b ≠ D := fun z => npD (z ▸ hb)
          have q := st.keep b (.inl hb)
          rw [upd_ne hbD, upd_ne hbD] at q
          exact q
        · -- a cell of the restored state is one of the block's
          cases l with
          | gl n => exact ⟨.gl n, o, e, z⟩
          | sl j =>
            have hl : s1.env.length = s0.env.length := by
              have h1 := o1.len
              have h2 := o'.len
              rw [wipe_length] at h2
              omega
            have e' : (match (restE s1.env s0.env vs)[j]? with | some (.own o) => some o | _ => none) = some o := e
            rw [restE_get _ _ hl] at e'
            by_cases hj : j ∈ vs
            · rw [if_pos hj] at e'
              split at e'
              · rename_i w q
                have := List.all_eq_true.mp hno j hj
                rw [q] at this
                cases this
              · cases e'
            · rw [if_neg hj] at e'
              exact ⟨.sl j, o, e', z⟩
    · exact h1.elim
  · exact h1.elim
variable {elt tg iter : Expr} {ifs : List Expr} {scope : Scope} {own : List (Str × Nat)} {pos : Pos} {it : S → Res (List D)} {gt : TG} {is : List Nat} {t : D → S → Option S} {mc : S → Res Bool} {me : M}
theorem me_comp (hc : X.calm = true) (hN : X.N.Nodup) (hi : MIt X W tg iter it) (ok : BlkOk X.N X.env.scope scope own) (hgk : MGk X.K gt is t) (hsub : ∀ i ∈ is, i ∈ own.map (·.2))
    (hg : Blk X scope fun Y => PG Y tg gt) (ht : Blk X scope fun Y => MTs Y W0 ifs mc) (he : Blk X scope fun Y => ME Y W0 elt me) (hs : ∀ x, foldedSetIterable iter X.env x = pure x := by intro _; rfl) :
    ME X W (.ListComp elt [⟨tg, iter, ifs, 0⟩] scope pos) (mComp (own.map (·.2)) it t mc me) := by
  have z := pe_lc (pos := pos) (tt := tMT X.K W0 mc) (te := tM X.K W0 me) hc hN hi ok (fun s H C cl fp => hg s H C cl fp) (fun s H C cl fp => ht s H C cl fp) (fun s H C cl fp => he s H C cl fp) hs
  refine pe_imp z fun σ H Q h => ?_
  obtain ⟨g, s, o, h⟩ := h
  exact tLc_of hgk hsub o h
/-- name = [..] on one line, the name a local -/
theorem ms_setComp {i : Nat} {y : Str} {py spos : Pos} (hc : X.calm = true) (hN : X.N.Nodup) (hi : MIt X W tg iter it) (ok : BlkOk X.N X.env.scope scope own) (hgk : MGk X.K gt is t) (hsub : ∀ i ∈ is, i ∈ own.map (·.2))
    (hg : Blk X scope fun Y => PG Y tg gt) (ht : Blk X scope fun Y => MTs Y W0 ifs mc) (he : Blk X scope fun Y => ME Y W0 elt me) (hy : X.N[i]? = some y := by rfl) (hyl : X.env.scope.names.lookup y = some .local := by rfl)
    (hsw : swapsWith (.ListComp elt [⟨tg, iter, ifs, 0⟩] scope pos) (some (.Name y py)) spos.line X.env = pure true := by exact sw_true rfl rfl rfl (by decide +kernel)) (hs : ∀ x, foldedSetIterable iter X.env x = pure x := by intro _; rfl) :
    MS X W (.Assign [.Name y py] (.ListComp elt [⟨tg, iter, ifs, 0⟩] scope pos) spos) (mSet i (mComp (own.map (·.2)) it t mc me)) := by
  have z := ps_setLc (tt := tMT X.K W0 mc) (te := tM X.K W0 me) hc hN hy hyl hsw hi ok (fun s H C cl fp => hg s H C cl fp) (fun s H C cl fp => ht s H C cl fp) (fun s H C cl fp => he s H C cl fp) hs
  refine ps_imp z fun D σ H h => ?_
  obtain ⟨g, s, o, h⟩ := h
  refine tLc_of hgk hsub o ((PostS.bind h).mono fun r g1 s1 H1 t1 k1 o1 h1 v rv => ?_)
  show D.nx (σ.set i (some v)) H1
  split at h1
  · rename_i s2 e2
    obtain ⟨g2, t2, o2⟩ := assign_ok o1 rv e2
    exact h1 _ g2 H1 t2 o2
  · exact h1.elim
end
end MI
/-! # Functions by name -/
namespace MI
open PySem PySem.Spec PyProof.Rows L2

/-- the name x stands for a def that keeps fm's promise -/
structure FnM (P : Program) (w : World) (K : PySem.W.Frag) (mg : Str → Option Value) (base : Heap) (k : Nat) (x : Str) (ps : List Str) (fm : Fm) : Prop where
  ex : ∃ f fd, FnOk P w K mg base (L2.CX P w) k f fd ps (spM K fm) ∧ mg x = some (.ref f) ∧ PySem.W.keepIn K (.ref f) = true ∧ Binds K fd ps [] ∧
    (∃ oc od osl, K.lookup f = some ⟨oc, od, .func fd, osl⟩) ∧ ∀ (s : Shared) (us : List Value), us.length = ps.length → BindsTo s fd ⟨us, []⟩ (ps.zip us)
/-- every parameter is given by place -/
def BindOk (x : Str) (args : Arguments) (body : List Stmt) (scope : Scope) (ps : List Str) : Prop :=
  ∀ (kV doc pm : Value) (an : Option Addr) (cdv ct : Value) (us : List Value), us.length = ps.length → bindArgs (PySem.W.fnOf x x args body scope .none kV doc pm an cdv ct) ⟨us, []⟩ = pure (ps.zip us)
/-- what the head says of a def by name -/
def DefM (K : PySem.W.Frag) (mg : Str → Option Value) (x : Str) (args : Arguments) (body : List Stmt) (scope : Scope) : Prop :=
  ∃ f fd, FunD K x x args body scope [] [] f fd ∧ mg x = some (.ref f)
section
variable {X : Cx} {W : WX} {e : Expr} {es : List Expr} {m : S → Res (List D)} {pos p : Pos} {k j : Nat} {ps : List Str} {fm : Fm} {x : Str}
theorem me_fn (F : FnM X.prog X.w X.K X.mg X.base k x ps fm) (hr : Room j X.A) (hj : k ≤ j) (hg : Gl X x) (tk : Takes X W)
    (ha : MA X W (e :: es) m) (hdb : (x == ("__debug__" : Str)) = false := by decide) (he : starEach (e :: es) X.env = (false, eval e X.env) :: starEach es X.env := by rfl) (hpl : (backTo pos (starEach es X.env)).any (·.1) = false := by rfl) :
    ME X W (.Call (.Name x p) (e :: es) [] pos) (mCall fm m) := by
  obtain ⟨f, fd, F1, hm, hk, hb, _⟩ := F.ex
  exact me_call F1 (hr.mono hj) hg hm hk hb tk ha hdb he hpl
end
abbrev wx (E : XK) : WX := fun cls d _ H => E cls d H
theorem takesC {P : Program} {w : World} {K : PySem.W.Frag} {mg : Str → Option Value} {base : Heap} {N : List Str} {qual : Str} {scope : Scope} {f : Addr} {cd : Value} {A : Around} {outer : List Env} {s : Shared} {H : Hp} {E : XK} :
    Takes (cxOf (L2.CX P w) P w K mg base N qual scope f cd A outer s H E) (wx E) := L2.takes_of rfl rfl rfl rfl
theorem takesB {X : Cx} : Takes X W0 := L2.takes0
theorem owns {P : Program} {w : World} {K : PySem.W.Frag} {mg : Str → Option Value} {base : Heap} {N : List Str} {qual : Str} {scope : Scope} {f : Addr} {cd : Value} {A : Around} {outer : List Env} {s : Shared} {H : Hp} {E : XK} {CX : CXT} :
    PassesOwn (model P w) (cxOf CX P w K mg base N qual scope f cd A outer s H E).A (cxOf CX P w K mg base N qual scope f cd A outer s H E).env (cxOf CX P w K mg base N qual scope f cd A outer s H E).xe :=
  passes_of (X := cxOf CX P w K mg base N qual scope f cd A outer s H E) (K := fun e s'' => CX outer H s E e s'') (E₁ := fun e' s'' => CX outer H s E e' s'') rfl
theorem mss_stuck {X : Cx} {W : WX} {st : List Stmt} : MSs X W st (fun _ => .stuck) := pss_imp pss_never fun D σ H ⟨g, s, ok, h⟩ => h
section
variable {P : Program} {w : World} {K : PySem.W.Frag} {mg : Str → Option Value} {base : Heap} {x : Str} {args : Arguments} {body : List Stmt} {scope : Scope} {N ps : List Str} {k : Nat} {m : S → Res Out}
theorem fnM (F : DefM K mg x args body scope) (Sc : FnScope N ps scope) (hN : ps.length ≤ N.length)
    (hB : BindOk x args body scope ps)
    (hbody : ∀ (f : Addr) (cdv : Value) (A : Around) (outer : List Env) (s : Shared) (H : Hp) (E : XK), Room k (A.deeper (envOfC x scope s.heap.objs.size f cdv)) →
      MSs (cxOf (L2.CX P w) P w K mg base N x scope f cdv A outer s H E) (wx E) body m) :
    FnM P w K mg base (k + 1) x ps (mDef ps.length N.length m) := by
  obtain ⟨f, fd, F1, hm⟩ := F
  refine ⟨f, fd, fn_mirror F1 Sc hN (fun cdv A outer s H E hr => hbody f cdv A outer s H E hr), hm, F1.kp, F1.bindsN hB, ?_, F1.bindsA hB⟩
  obtain ⟨oc, od, dV, kV, doc, pm, an, cdv, ct, osl, e, lk, _⟩ := F1.ex
  exact ⟨oc, od, osl, e ▸ lk⟩
end

/-! ### names of the module -/
section
variable {X : Cx} {W : WX} {x : Str} {pos : Pos}
def GInt (mg : Str → Option Value) (x : Str) (i : Int) : Prop := ∃ t, mg x = some (.int i t)
def GStr (mg : Str → Option Value) (x : Str) (z : Str) : Prop := ∃ t, mg x = some (.str z t)
/-- a tuple of the module, for good -/
def GTup (K : PySem.W.Frag) (mg : Str → Option Value) (x : Str) (vs : List V) : Prop := ∃ a, mg x = some (.ref a) ∧ ∀ H, SqT K H a vs
theorem me_gint {i : Int} (h : GInt X.mg x i) (hg : Gl X x) (hd : (x == ("__debug__" : Str)) = false := by decide) : ME X W (.Name x pos) (mC (.int i)) := by
  obtain ⟨t, e⟩ := h
  exact me_glob hg e (v := .int i) ⟨t, rfl⟩ (fun g => .int i) hd
theorem me_gstr {z : Str} (h : GStr X.mg x z) (hg : Gl X x) (hd : (x == ("__debug__" : Str)) = false := by decide) : ME X W (.Name x pos) (mC (.str z)) := by
  obtain ⟨t, e⟩ := h
  exact me_glob hg e (v := .str z) ⟨t, rfl⟩ (fun g => .str z) hd
theorem me_gtup {vs : List V} {ds : List D} (h : GTup X.K X.mg x vs) (r : ∀ g, RepL X.K g vs ds) (hg : Gl X x) (hd : (x == ("__debug__" : Str)) = false := by decide) : ME X W (.Name x pos) (mC (.tup ds)) := by
  obtain ⟨a, e, q⟩ := h
  exact me_glob hg e (v := .ref a) rfl (fun g => .tup (q g.F) (r g)) hd
end
/-- a block's own names, seen by a test -/
def blkB (N : List Str) (sc scope : Scope) (own : List (Str × Nat)) : Bool :=
  decide (scope.kind = .function) && (decide (∀ y ∈ scope.names, scope.names.lookup y.1 = some y.2) && (decide (∀ p ∈ own, N[p.2]? = some p.1) &&
    (decide (∀ y ∈ scope.names, y.2 = .free → sc.names.lookup y.1 = some .cell ∨ sc.names.lookup y.1 = some .free) &&
      decide (∀ y ∈ scope.names, y.2 = .local ∨ y.2 = .cell → y.1 ∈ own.map (·.1) ∨ y.1 ∉ N))))
theorem blk_of {N : List Str} {sc scope : Scope} {own : List (Str × Nat)} (h : blkB N sc scope own = true) : BlkOk N sc scope own := by
  unfold blkB at h
  simp only [Bool.and_eq_true, decide_eq_true_eq] at h
  obtain ⟨h1, h2, h3, h4, h5⟩ := h
  exact ⟨h1, h2, h3, h4, h5⟩
def scB (N P : List Str) (sc : Scope) : Bool :=
  decide (sc.kind = .function) && (!sc.isCoroutine && (!sc.isGenerator && (decide N.Nodup && (decide (N.take P.length = P) && (decide (∀ x ∈ P, sc.names.lookup x = some .local ∨ sc.names.lookup x = some .cell) && decide (∀ y ∈ sc.names, y.2 ≠ .free))))))
theorem sc_of {N P : List Str} {sc : Scope} (h : scB N P sc = true) : FnScope N P sc := by
  unfold scB at h
  simp only [Bool.and_eq_true, decide_eq_true_eq, Bool.not_eq_true'] at h
  obtain ⟨h1, h2, h3, h4, h5, h6, h7⟩ := h
  exact ⟨h1, h2, h3, h4, h5, h6, h7⟩
end MI
/-! # Repetition, stores at a place, shared objects -/
namespace MI
open PySem PySem.Spec PyProof.Rows L2

/-! ### a tuple once, or an empty one: the same object -/
theorem tuple_mul_same (l : Addr) (items : Array Value) (n : Nat) (dd : Option Addr) (sl : Array (Option Value)) (x : Int) (u : Tok) (c0 : (decide (x < -(2 ^ 63)) || decide (x ≥ 2 ^ 63)) = false) (c1 : (items.isEmpty || x == 1) = true) :
    Meets (Builtin.«tuple.__mul__» ⟨[.ref l, .int x u], []⟩) (fun _ R s => s.heap.get? l = some { cls := .type "tuple", dict := dd, data := .seq items n, slots := sl } ∧ R (.ok (.ret (Value.ref l))) s) :=
  .of_wp fun prog w A R s h => by
    obtain ⟨hp, g, d, tk, os⟩ := s
    obtain ⟨hl, h⟩ := h
    have f1 := AutoSeq1.idx_int
    wp_walk using wpAny_loadPart' hl
    repeat (first
      | (refine wpAny_ite_false (decide_eq_false (by rw [c0]; exact Bool.false_ne_true)) ?_; wp_walk using wpAny_loadPart' hl)
      | (refine wpAny_ite_true (decide_eq_true c1) ?_; wp_walk using wpAny_loadPart' hl))
    all_goals exact ⟨_, rfl, h⟩
def rSameT (K : PySem.W.Frag) : R2 := fun x y H Q => ∃ l k xs, x = .ref l ∧ y = .int k ∧ SqT K H l xs ∧ (xs = [] ∨ k = 1) ∧ -(2 ^ 63) ≤ k ∧ k < 2 ^ 63 ∧ Q x H

section
variable {X : Cx} {W : WX}
theorem op_sameT : OpR X (binaryOp .Mult) (rSameT X.K) := by
  intro pins s σ H x y v u Q I rx ry h
  obtain ⟨l, k, xs, rfl, rfl, hT, hone, h1, h2, q⟩ := h
  cases rx
  obtain ⟨t, rfl⟩ := ry
  obtain ⟨its, r, ⟨⟨cls, dd, data, sl⟩, ho, hc, n, hd⟩, hs⟩ := I.tuple hT
  simp only at hc hd
  subst hc hd
  have same : (its.toArray.isEmpty || k == 1) = true := by
    rcases hone with z | z
    · subst z
      cases r
      rfl
    · subst z
      simp
  have inr : (decide (k < -(2 ^ 63)) || decide (k ≥ 2 ^ 63)) = false := by
    have a : ¬ k < -(2 ^ 63) := by omega
    have b : ¬ k ≥ 2 ^ 63 := by omega
    simp only [decide_eq_false a, decide_eq_false b, Bool.or_self]
  refine wpAny_binaryOp_repeat_ref (T := "tuple") (U := "int") (by decide) ⟨_, ho, rfl⟩ (fun s' => typeIs_int s' k t) noFill_tuple_mul F.fills_int_mul F.slot_int_rmul repeat_tuple F.slot_int_index.lookup ?_
  refine call_meets F.slot_int_rmul (typeIs_int s k t) F.entry_int_rmul (F.args_int_rmul_2 _ _) (int_rmul_tuple k t l its.toArray n dd sl) ⟨ho, rfl, ⟨_, ho, rfl⟩, ?_⟩
  exact call_meets F.slot_tuple_mul ⟨_, ho, rfl⟩ F.entry_tuple_mul (F.args_tuple_mul_2 _ _) (tuple_mul_same l its.toArray n dd sl k t inr same) ⟨ho, ⟨.ref l, H, I, rfl, q⟩⟩
/-- a text repeated -/
def repS (x : Str) (n : Int) : Str := if n < 1 then Str.empty else if (n == 1 || x.length == 0) = true then x else ⟨(List.replicate n.toNat x.cps).foldl (· ++ ·) #[]⟩
def rRepS : R2 := fun x y H Q => ∃ (z : Str) (k : Int), x = .str z ∧ y = .int k ∧ -1000 ≤ k ∧ k ≤ 1000 ∧ z.length ≤ 1000 ∧ Q (.str (repS z k)) H
theorem op_repS : OpR X (binaryOp .Mult) rRepS := by
  intro pins s σ H x y v u Q I rx ry h
  obtain ⟨z, k, rfl, rfl, h1, h2, hz, q⟩ := h
  obtain ⟨t, rfl⟩ := rx
  obtain ⟨t', rfl⟩ := ry
  refine PySem.P.mul_str ?_ (fun c1 _ => ?_) (fun c1 _ => ?_) ?_
  · have a : ¬ k < -(2 ^ 63) := by omega
    have b : ¬ k ≥ 2 ^ 63 := by omega
    simp only [decide_eq_false a, decide_eq_false b, Bool.or_self]
  · have k1 : 1 ≤ k := by omega
    have a1 : (1000 : Int) ≤ (2 ^ 63 - 1) / k := by
      rw [Int.le_ediv_iff_mul_le (by omega)]
      omega
    omega
  · have a1 : z.length * k.toNat ≤ 1000 * 1000 := Nat.mul_le_mul hz (by omega)
    have : ¬ (z.length * k.toNat > sizeLine) := by rw [sizeLine_eq]; omega
    exact decide_eq_false this
  · unfold repS at q
    split
    · rename_i c
      rw [if_pos c] at q
      exact ⟨by rw [sizeLine_eq]; decide, .str Str.empty, H, I.tok _, ⟨_, rfl⟩, q⟩
    · rename_i c
      rw [if_neg c] at q
      split
      · rename_i c2
        rw [if_pos c2] at q
        exact ⟨.str z, H, I, ⟨_, rfl⟩, q⟩
      · rename_i c2
        rw [if_neg c2] at q
        refine ⟨?_, .str _, H, I.tok _, ⟨_, rfl⟩, q⟩
        have key : ∀ (m : Nat) (acc : Array Nat), ((List.replicate m z.cps).foldl (· ++ ·) acc).size = acc.size + m * z.cps.size := by
          intro m
          induction m with
          | zero => intro acc; simp
          | succ m ih => intro acc; rw [List.replicate_succ, List.foldl_cons, ih, Array.size_append, Nat.succ_mul]; omega
        show ((List.replicate k.toNat z.cps).foldl (· ++ ·) #[]).size ≤ sizeLine
        rw [key]
        have a1 : k.toNat * z.cps.size ≤ 1000 * 1000 := Nat.mul_le_mul (by omega) hz
        rw [sizeLine_eq]
        simp
        omega
def opMulT : S → RV → RV → Res RV := fun s a b => match asTup a, asInt b with
  | some xs, some k => if (xs.isEmpty || k == 1) = true then (if -(2 ^ 63) ≤ k ∧ k < 2 ^ 63 then .ok (.d (.tup xs)) s else .stuck)
    else if 2 ≤ k ∧ k ≤ 1000 ∧ xs.length ≤ 1000 then .ok (.d (.tup (List.replicate k.toNat xs).flatten)) s else .stuck
  | _, _ => .stuck
def opMulS : S → RV → RV → Res RV := fun s a b => match asStr a, asInt b with
  | some x, some k => if -1000 ≤ k ∧ k ≤ 1000 ∧ x.length ≤ 1000 then .ok (.d (.str (repS x k))) s else .stuck
  | _, _ => .stuck
def opMulL : S → RV → RV → Res RV := fun s a b => match asLst s a, asInt b with
  | some xs, some k => if -(2 ^ 63) ≤ k ∧ k < 2 ^ 63 ∧ xs.length * k.toNat ≤ sizeLine then .ok (.new (.lst (List.replicate k.toNat xs).flatten)) s else .stuck
  | _, _ => .stuck
theorem RepL.rep {K : PySem.W.Frag} {g : G} {vs : List V} {ds : List D} (r : RepL K g vs ds) : ∀ k : Nat, RepL K g (List.replicate k vs).flatten (List.replicate k ds).flatten
  | 0 => .nil
  | k + 1 => by
    rw [List.replicate_succ, List.replicate_succ, List.flatten_cons, List.flatten_cons]
    exact r.append (r.rep k)
theorem os_mulT : OpS X W (fun x y H Q => rSameT X.K x y H Q ∨ rRepT X.K x y H Q) opMulT := by
  intro σ g s H Q x y ra rb ok rx ry nn q
  unfold opMulT at q
  split at q
  · rename_i xs k e1 e2
    obtain ⟨a, vs, rfl, h1, r1⟩ := asTup_ok ok rx e1
    have e := asInt_ok ry e2
    subst e
    split at q
    · rename_i c
      split at q
      · rename_i hk
        refine .inl ⟨a, k, vs, rfl, rfl, h1, ?_, hk.1, hk.2, kE_d q ok ?_⟩
        · simp only [Bool.or_eq_true, List.isEmpty_iff, beq_iff_eq] at c
          rcases c with c | c
          · exact .inl ((RepL.nil_iff r1).mpr c)
          · exact .inr c
        · cases ra with
          | d w =>
            cases w <;> first | cases e1
            exact rx
          | «at» _ => cases e1
          | new _ => cases e1
      · exact q.elim
    · rename_i c
      split at q
      · rename_i hk
        refine .inr ⟨a, k, vs, rfl, rfl, h1, fun z => ?_, hk.1, hk.2.1, by rw [r1.length]; exact hk.2.2, fun p hp => kE_tup q ok hp (r1.rep _)⟩
        have := (RepL.nil_iff r1).mp z
        subst this
        exact c rfl
      · exact q.elim
  · exact q.elim
theorem os_mulS : OpS X W rRepS opMulS := by
  intro σ g s H Q x y ra rb ok rx ry nn q
  unfold opMulS at q
  split at q
  · rename_i z k e1 e2
    split at q
    · rename_i h
      exact ⟨z, k, asStr_ok rx e1, asInt_ok ry e2, h.1, h.2.1, h.2.2, kE_d q ok (.str _)⟩
    · exact q.elim
  · exact q.elim
theorem os_mulL : OpS X W rRep opMulL := by
  intro σ g s H Q x y ra rb ok rx ry nn q
  unfold opMulL at q
  split at q
  · rename_i xs k e1 e2
    obtain ⟨a, vs, rfl, h1, r1⟩ := asLst_ok ok rx e1
    have e := asInt_ok ry e2
    subst e
    split at q
    · rename_i h
      exact ⟨a, k, vs, rfl, rfl, h1, h.1, h.2.1, by rw [r1.length]; exact h.2.2, fun p hp => kE_new q ok hp ⟨_, upd_same, r1.rep _⟩⟩
    · exact q.elim
  · exact q.elim
def opMul := orF opMulI (orF opMulT (orF opMulS opMulL))
variable {a b o i e : Expr} {ma mb mo mi me : M} {pos pos' apos cpos : Pos}
theorem me_mul (ha : ME X W a ma) (hb : ME X W b mb) : ME X W (.BinOp a .Mult b pos) (mBin opMul ma mb) :=
  me_bin (op_mul2.or ((op_sameT.or op_repT).or (op_repS.or op_rep))) (os_mulI.or (os_mulT.or (os_mulS.or os_mulL))) ha hb
end

/-! ### a new object comes into the shared store -/
def mAlloc (m : M) : M := fun s => (m s).bind fun r s1 => match r with
  | .new o => .ok (.d (.ref s1.gl.length)) { s1 with gl := s1.gl ++ [o] }
  | _ => .stuck
section
variable {K : PySem.W.Frag} {W : WX} {σ : L2.St} {g : G} {s : S} {H : Hp}
def G.add (g : G) (a : Addr) : G := { g with adr := fun l => if l = .gl g.ng then a else g.adr l, ng := g.ng + 1 }
theorem add_le {a : Addr} : GLe g (g.add a) := ⟨Sub.refl _, Nat.le_succ _, fun n h => if_neg fun z => by cases z; exact Nat.lt_irrefl _ h⟩
theorem Ok.add {a : Addr} {o : MObj} (ok : Ok K g s σ H) (n : g.F a = none) (np : ¬ g.P a) (nl : ¬ Live g s a) (q : ObjRep K g H a o) :
    Ok K (g.add a) { s with gl := s.gl ++ [o] } σ H := by
  have cs : ∀ l w, cellOf { s with gl := s.gl ++ [o] } l = some w → (l = .gl g.ng ∧ w = o) ∨ (l ≠ .gl g.ng ∧ cellOf s l = some w) := by
    intro l w e
    cases l with
    | sl i => exact .inr ⟨(fun z => nomatch z), e⟩
    | gl m =>
      have e' : (s.gl ++ [o])[m]? = some w := e
      by_cases h : m < s.gl.length
      · rw [List.getElem?_append_left h] at e'
        exact .inr ⟨fun z => by cases z; have := ok.ng; omega, e'⟩
      · rw [List.getElem?_append_right (by omega)] at e'
        have hm : m - s.gl.length = 0 := by
          cases hq : m - s.gl.length with
          | zero => rfl
          | succ z => rw [hq] at e'; cases e'
        rw [hm] at e'
        cases e'
        exact .inl ⟨by rw [ok.ng]; exact congrArg Loc.gl (by omega), rfl⟩
  have a0 : (g.add a).adr (.gl g.ng) = a := if_pos rfl
  have a1 : ∀ l, l ≠ .gl g.ng → (g.add a).adr l = g.adr l := fun l h => if_neg h
  have ne : ∀ l w, cellOf s l = some w → g.adr l ≠ a := fun l w h z => nl ⟨l, w, h, z⟩
  refine ⟨ok.sub, fun l w e => ?_, fun l l' w w' e e' z => ?_, fun i x e => (ok.env i x e).mono add_le (fun i => a1 _ (fun z => nomatch z)), ok.len, ?_, fun b p => ?_⟩
  · rcases cs l w e with ⟨rfl, rfl⟩ | ⟨h, e⟩
    · rw [a0]; exact ⟨n, q.mono add_le rfl⟩
    · rw [a1 l h]
      obtain ⟨f, r⟩ := ok.cell l w e
      exact ⟨f, r.mono add_le rfl⟩
  · rcases cs l w e with ⟨e1, _⟩ | ⟨h, en⟩
    · rcases cs l' w' e' with ⟨e2, _⟩ | ⟨h', en'⟩
      · exact e1.trans e2.symm
      · rw [e1, a0, a1 l' h'] at z
        exact absurd z.symm (ne l' w' en')
    · rcases cs l' w' e' with ⟨e2, _⟩ | ⟨h', en'⟩
      · rw [e2, a0, a1 l h] at z
        exact absurd z (ne l w en)
      · rw [a1 l h, a1 l' h'] at z
        exact ok.inj l l' w w' en en' z
  · show g.ng + 1 = (s.gl ++ [o]).length
    rw [List.length_append, ok.ng]; rfl
  · obtain ⟨h1, h2, h3⟩ := ok.prot b p
    refine ⟨h1, h2, fun ⟨l, w, e, z⟩ => ?_⟩
    rcases cs l w e with ⟨rfl, rfl⟩ | ⟨h, e⟩
    · rw [a0] at z
      exact np (z ▸ p)
    · rw [a1 l h] at z
      exact h3 ⟨l, w, e, z⟩
end
section
variable {X : Cx} {W : WX} {a b o i e : Expr} {ma mb mo mi me : M} {pos pos' apos cpos : Pos}
theorem me_alloc (h : ME X W e me) : ME X W e (mAlloc me) := by
  refine pe_imp h fun σ H Q ⟨g, s, ok, h⟩ => ?_
  refine ⟨g, s, ok, (PostE.bind h).mono fun r g1 s1 H1 t1 k1 o1 h1 v rv => ?_⟩
  cases r with
  | d x => exact h1.elim
  | «at» j => exact h1.elim
  | new w =>
    obtain ⟨p, rfl, n, np, nl, q⟩ := rv
    have o2 := o1.add n np nl q
    refine h1 (g1.add p) H1 ⟨add_le, rfl, fun _ _ => rfl, fun _ _ _ => rfl⟩ (fun j => show (if Loc.sl j = Loc.gl g1.ng then p else g1.adr (.sl j)) = g1.adr (.sl j) from if_neg (by intro z; cases z)) o2 _ ?_
    have := Rep.ref (K := X.K) (g := g1.add p) g1.ng (Nat.lt_succ_self _)
    rw [show (g1.add p).adr (.gl g1.ng) = p from if_pos rfl] at this
    rw [← o1.ng]
    exact this

/-! ### xs.pop(i) -/
def fPopAt : List D → D → Option (D × List D) := fun xs d => match d with
  | .int i => if -(2 ^ 63) ≤ i ∧ i < 2 ^ 63 then (match seqIndex? i xs.length with
    | some k => (match xs[k]? with
      | some y => some (y, xs.eraseIdx k)
      | none => none)
    | none => none) else none
  | _ => none
theorem me_popAt (ho : ME X W o mo) (ha : ME X W a ma) (hbase : attributeBase o "pop" X.env (eval o X.env) = eval o X.env := by rfl)
    (hfew : ((backTo cpos (starEach [a] X.env)).all (fun x => !x.1) && (backToKw cpos (keywordEach [] X.env)).all (fun x => x.1.isSome)
      && decide ([a].length + ([] : List Keyword).length + (if ([] : List Keyword).isEmpty then 0 else 1) < 30)) = true := by rfl)
    (hline : (apos.endLine == cpos.line) = true := by rfl) (hs : starEach [a] X.env = (false, eval a X.env) :: starEach [] X.env := by rfl) :
    ME X W (.Call (.Attribute o "pop" apos) [a] [] cpos) (mLm1 fPopAt mo ma) := by
  have z := pe_bm PySem.F.plainAttrs_list PySem.F.slot_list_pop PySem.F.type_list_pop mt_popAt ho (pa_cons ha pa_nil hs) hbase hfew hline hs
  refine pe_imp z fun σ H Q h => ?_
  obtain ⟨g, s, ok, h⟩ := h
  refine mLm1_of (fun g l vs xs y d x ys H Q rvs ry hl e q => ?_) ok h
  clear h
  obtain ⟨i, rfl⟩ : ∃ i, d = .int i := by
    cases d <;> first | exact ⟨_, rfl⟩ | (exact absurd e (by simp [fPopAt]))
  cases ry
  have e : (if -(2 ^ 63) ≤ i ∧ i < 2 ^ 63 then (match seqIndex? i xs.length with
    | some k => (match xs[k]? with
      | some y => some (y, xs.eraseIdx k)
      | none => none)
    | none => none) else none) = some (x, ys) := e
  split at e
  · rename_i hi
    split at e
    · rename_i k ek
      split at e
      · rename_i w ew
        cases e
        obtain ⟨u, hu, ru⟩ := rvs.get ew
        exact ⟨l, vs, i, k, u, rfl, rfl, hl, hi.1, hi.2, by rw [rvs.length]; exact ek, hu, q u _ ru (rvs.eraseIdx k)⟩
      · cases e
    · cases e
  · cases e

/-! ### o[i] = e -/
def mSetIx (v o i : M) : S → Res Out := fun s => (mLeak v s).bind fun d s1 => (o s1).bind fun r s2 => match locOf r with
  | some l => (match cellOf s2 l with
    | some _ => (mLeak i s2).bind fun k s3 => (match cellOf s3 l, k with
      | some (.lst xs), .int k => (match ixN xs.length k with
        | some j => .ok .nx (setCell s3 l (.lst (xs.set j d)))
        | none => .stuck)
      | _, _ => .stuck)
    | _ => .stuck)
  | none => .stuck
theorem loc_held {K : PySem.W.Frag} {σ : L2.St} {g g' : G} {s : S} {H H' : Hp} {l : Loc} {o : MObj} (ok : Ok K g s σ H) (e : cellOf s l = some o) (t : Step g H g' H') (k : SlKeep g g') : g'.adr l = g.adr l := by
  cases l with
  | sl i => exact k i
  | gl n => exact t.le.adr n (by rw [ok.ng]; exact gl_cell e)
theorem ms_setIx (hv : ME X W e me) (ho : ME X W o mo) (hi : ME X W i mi)
    (hs : swapsWithSole [.Subscript o i pos'] e pos.line X.env = pure false := by rfl) (hw : swappedStores [.Subscript o i pos'] e X.env = pure none := by rfl)
    (h1 : (assignEach [.Subscript o i pos'] X.env).map (·.2) = [PySem.assign (.Subscript o i pos') X.env] := by rfl)
    (hg : ∀ v, PySem.assign (.Subscript o i pos') X.env v = (do
      let ov ← holding [v] (eval o X.env)
      let iv ← holding [v, ov] (eval i X.env)
      standAt pos'
      holding [v, ov, iv] (setItem ov iv v)
      release [v, ov, iv] []) := by intro _; rfl) : MS X W (.Assign [.Subscript o i pos'] e pos) (mSetIx me mo mi) := by
  have z := ps_asg hv (pg_sub ho hi set_list hg) hs hw h1
  refine ps_imp z fun D σ H h => ?_
  obtain ⟨g, s, ok, h⟩ := h
  refine tM_leak ok (k := fun d g1 s1 H1 => PostS X.K W g1 s1 H1 D ((mo s1).bind fun r s2 => match locOf r with
  | some l => (match cellOf s2 l with
    | some _ => (mLeak mi s2).bind fun k s3 => (match cellOf s3 l, k with
      | some (.lst xs), .int k => (match ixN xs.length k with
        | some j => .ok .nx (setCell s3 l (.lst (xs.set j d)))
        | none => .stuck)
      | _, _ => .stuck)
    | _ => .stuck)
  | none => .stuck)) (PostS.bind h) fun d g1 s1 H1 v t1 k1 o1 rv h1 => ?_
  refine ⟨g1, s1, o1, (PostS.bind h1).mono fun r g2 s2 H2 t2 k2 o2 h2 u ru => ?_⟩
  split at h2
  · rename_i l e1
    have hu := locOf_ok ru e1
    subst hu
    split at h2
    · rename_i w e2
      refine tM_leak o2 (PostS.bind h2) fun dk g3 s3 H3 y t3 k3 o3 ry h3 => ?_
      have el := loc_held o2 e2 t3 k3
      split at h3
      · rename_i xs k e3
        cases ry
        split at h3
        · rename_i j ej
          obtain ⟨vs, hvs, rvs⟩ := cell_lst o3 e3
          refine ⟨_, vs, k, j, rfl, rfl, by rw [← el]; exact hvs, by rw [rvs.length]; exact ej, ?_⟩
          rw [← el]
          obtain ⟨o4, t4⟩ := o3.change (o' := .lst (xs.set j d)) (ho := .lst (vs.set j v)) e3 ⟨_, upd_same, RepL.set ((rv.mono t2.le).mono t3.le) j rvs⟩
          exact h3 _ _ _ t4 o4
        · exact h3.elim
      · exact h3.elim
    · exact h2.elim
  · exact h2.elim
end
end MI
/-! # An own exception whose __init__ says super().__init__(text + str(place)), then self.f = place -/
namespace MI
open PySem PySem.Spec PyProof.Rows L2

/-- what the written part says of the class at C and of its __init__ -/
structure BbF (P : Program) (K : PySem.W.Frag) (C fI cda cc : Addr) (qual : Str) (params : Arguments) (body : List Stmt) (scope : Scope) (f : Str) : Prop where
  T : OexC K C
  iC : PySem.W.findIn K (.ref C) "__init__" = some (some (.ref fI))
  tI : PySem.W.typeIn K (.ref fI) = some (.type "function")
  fn : ∃ oc od doc pm an ct osl, K.lookup fI = some ⟨oc, od, .func (PySem.W.ksFn "__init__" qual params body scope .none .none doc pm an (.ref cda) ct cc), osl⟩
  hcd : PySem.W.codeIn K (.ref cda) qual = true
  code : ∃ ccl cdd vs ccs file tf, K.lookup cda = some ⟨ccl, cdd, .fields vs, ccs⟩ ∧ vs[2]? = some (.str file tf) ∧ ((P.main.file : Str) == file) = true
  cell : ∃ cl cld csl, K.lookup cc = some ⟨cl, cld, .cell (some (.ref C)), csl⟩
  cls : ∃ cd, PySem.W.clsIn K C = some cd
  sub : PySem.W.mroIn K C (.ref C) = some true
  sup : PySem.W.ks_superIn K C C "__init__" = some (some (.builtin "ValueError.__init__"))
  ve : PySem.W.subIn K (.ref C) (.type "ValueError") = some true
  any : PySem.W.nsIn K cStatics "thirdparty.any" = some none
  exi : ∃ bmB, ExcBaseFacts "ValueError" "ValueError.__new__" "ValueError.__init__" bmB ∧ PySem.W.excInitIn K C bmB "ValueError.__new__" = true
  fld : PySem.W.findIn K (.ref C) f = some none
/-- the def's own places -/
structure BbP where
  p0 : Pos
  p1 : Pos
  p2 : Pos
  p3 : Pos
  p4 : Pos
  p5 : Pos
  p6 : Pos
  p7 : Pos
  p8 : Pos
  p9 : Pos
  q0 : Pos
  q1 : Pos
  q2 : Pos
  q3 : Pos
  msg : Str
  j : Nat
def BbP.arg (b : BbP) : Expr := .BinOp (.Constant (.str b.msg) b.j b.p3) .Add (.Call (.Name "str" b.p4) [.Name "place" b.p5] [] b.p6) b.p7
def BbP.call (b : BbP) : Expr := .Call (.Attribute (.Call (.Name "super" b.p0) [] [] b.p1) "__init__" b.p2) [b.arg] [] b.p8
def BbP.set (b : BbP) (f : Str) : Stmt := .Assign [.Attribute (.Name "self" b.q0) f b.q1] (.Name "place" b.q2) b.q3
def BbP.body (b : BbP) (f : Str) : List Stmt := [.Expr b.call b.p9, b.set f]
/-- the def's own shape -/
structure BbS (P : Program) (params : Arguments) (scope : Scope) (b : BbP) (f : Str) (qual : Str) : Prop where
  msg : b.msg.length ≤ 1000
  ev : ∀ env : Env, env.scope = scope → ∃ pl, eval b.call env = (do
      let ov ← attributeBase (.Call (.Name "super" b.p0) [] [] b.p1) "__init__" env (eval (.Call (.Name "super" b.p0) [] [] b.p1) env)
      standAt b.p2.atName
      let (f, first) ← holding [ov] (getMethod ov "__init__" pl)
      callWith b.p8 f first (backTo b.p8 (starEach [b.arg] env)) [])
  st : ∀ env : Env, env.scope = scope → interactive env = false ∧ swapsWith b.call none b.p9.line env = pure false ∧ swapsWith (.Name "place" b.q2) (some (.Attribute (.Name "self" b.q0) f b.q1)) b.q3.line env = pure false
  sp : ∀ env : Env, env.scope = scope → starEach [b.arg] env = [(false, eval b.arg env)] ∧ starEach [.Name "place" b.p5] env = [(false, eval (.Name "place" b.p5) env)]
  par : ∃ ar, (params.posonlyargs ++ params.args).head? = some ar ∧ ar.arg = "self"
  bind : ∀ (doc pm : Value) (an : Option Addr) (cdv ct : Value) (cc : Addr) (u v : Value), bindArgs (PySem.W.ksFn "__init__" qual params (b.body f) scope .none .none doc pm an cdv ct cc) ⟨[u, v], []⟩ = pure [(("self" : Str), u), (("place" : Str), v)]
  kind : scope.kind = .function
  co : scope.isCoroutine = false
  gen : scope.isGenerator = false
  self : scope.names.lookup ("self" : Str) = some .local
  place : scope.names.lookup ("place" : Str) = some .local
  sup : scope.names.lookup ("super" : Str) = some .globalImplicit
  str : scope.names.lookup ("str" : Str) = some .globalImplicit
  cl : scope.names.lookup ("__class__" : Str) = some .free
  nocell : ∀ x ∈ scope.names, x.2 ≠ .cell
  top : (P.main.scope.names.lookup ("super" : Str)).isSome = false
section
open PySem.W PySem.Calls
variable {P : Program} {w : World} {K : Frag} {C fI cda cc : Addr} {qual f : Str} {params : Arguments} {b : BbP} {scope : Scope} {A : Around} {hp h1 : Heap} {g : Array GenState} {d : Drawn} {t : Nat} {os : OsState} {mg : Str → Option Value} {R : Result → Shared → Prop} {e t1 : Addr} {i : Int} {tk : Tok}
theorem log_small {n : Nat} (h : n ≤ 1000000) : n.log2 < 1920 := by
  by_cases z : n = 0
  · subst z; decide
  · rw [Nat.log2_lt z]
    exact Nat.lt_of_le_of_lt h (by decide +kernel)
theorem bb_run (B : BbF P K C fI cda cc qual params (b.body f) scope f) (S : BbS P params scope b f qual) (X : K.In hp) (hg : hp.Ns mainGlobals mg) (hb : ∃ mb, hp.Ns builtinsNs mb ∧ ∀ x : Str, x ≠ "__name__" → mb x = bootBuiltins x) (nl : hp.NoLimit)
    (hsup : mg "super" = none) (hstr : mg "str" = none) (hroom : A.depth < recursionLimit) (hi : i.natAbs ≤ 1000000) (kk : ∀ b o, hp.get? b = some o → h1.get? b = some o) (hsz : hp.objs.size ≤ e) (he : h1.get? e = some (excObj C t1 none .none))
    (hR : ∀ h2 tk' t' dx, (∀ b o, hp.get? b = some o → h2.get? b = some o) → hp.objs.size ≤ dx → dx ≠ e → h2.get? e = some ({ cls := .ref C, dict := some dx, data := .fields #[.ref t', .none, .none, .none, .bool false, .none] } : Obj) →
      h2.Ns1 dx (fun y => if y = f then some (.int i tk) else none) → R (.ok (.ret .none)) ⟨h2, g, d, tk', os⟩) :
    codeAny (model P w) A (.call (.ref fI) ⟨[.ref e, .int i tk], []⟩) R ⟨h1, g, d, t, os⟩ := by
  obtain ⟨oc, od, doc, pm, an, ct, osl, lk⟩ := B.fn
  obtain ⟨ccl, cdd, vs, ccs, file, tf, lc, lvs, lfile⟩ := B.code
  obtain ⟨cl, cld, csl, lcell⟩ := B.cell
  obtain ⟨cd, lcls⟩ := B.cls
  obtain ⟨bmB, FB, exi⟩ := B.exi
  obtain ⟨ar, har, hself⟩ := S.par
  have X1 : K.In h1 := X.keeps kk
  refine ks_codeAny_call_defAt (fd := ksFn "__init__" qual params (b.body f) scope .none .none doc pm an (.ref cda) ct cc) (body := b.body f) (binds := [("self", .ref e), ("place", .int i tk)]) hroom (kk _ _ (X _ _ lk)) rfl (nl.keeps kk) (codeRec_of X1 B.hcd) rfl
    (.of_eq (S.bind _ _ _ _ _ _ _ _)) S.nocell ?_ (fun h0 hns hk => ?_) S.co S.gen S.kind
  · intro y hy
    rcases List.mem_cons.mp hy with rfl | hy
    · exact S.self
    · rcases List.mem_cons.mp hy with rfl | hy
      · exact S.place
      · cases hy
  have hel : e < h1.objs.size := Heap.lt_size he
  have F0 : Fr hp h1.objs.size h0 (fun x => [(("self" : Str), Value.ref e), ("place", .int i tk)].reverse.lookup x) := ⟨hns, fun b o z => hk b o (kk b o z), Nat.le_of_lt (Nat.lt_of_le_of_lt hsz hel)⟩
  have hpe : hp.get? e = none := by
    cases z : hp.get? e with
    | none => rfl
    | some o => exact absurd (Nat.lt_of_lt_of_le (Heap.lt_size z) hsz) (Nat.lt_irrefl _)
  have N0 : News hp h1.objs.size h0 [(e, excObj C t1 none .none)] := fun p hpm => by
    rcases List.mem_cons.mp hpm with rfl | hpm
    · exact ⟨hk _ _ he, Nat.ne_of_lt hel, hpe⟩
    · cases hpm
  have hL : h1.objs.size ≠ e := fun z => Nat.ne_of_lt hel z.symm
  obtain ⟨mb, hbn, hbl⟩ := hb
  have K0 : K.In h0 := X.keeps F0.keep
  obtain ⟨oD, hD1, hD2⟩ : ∃ oD, h0.get? C = some oD ∧ oD.data = .cls cd := by
    unfold clsIn at lcls
    split at lcls
    · rename_i ho
      cases lcls
      exact ⟨_, K0 _ _ ho, rfl⟩
    · cases lcls
  obtain ⟨m, hm, mself, mplace⟩ : ∃ m : Str → Option Value, (fun x : Str => [(("self" : Str), Value.ref e), (("place" : Str), Value.int i tk)].reverse.lookup x) = m ∧ m "self" = some (.ref e) ∧ m "place" = some (.int i tk) := ⟨_, rfl, rfl, rfl⟩
  rw [hm] at F0 hns
  obtain ⟨env, henv⟩ : ∃ env, callEnv (ksFn "__init__" qual params (b.body f) scope .none .none doc pm an (.ref cda) ct cc) h1.objs.size fI = env := ⟨_, rfl⟩
  have esc : env.scope = scope := by rw [← henv]; rfl
  have elo : env.locals = h1.objs.size := by rw [← henv]; rfl
  have egl : env.globals = mainGlobals := by rw [← henv]; rfl
  have ebl : env.builtins = builtinsNs := by rw [← henv]; rfl
  have ecl : env.cells.lookup ("__class__" : Str) = some cc := by rw [← henv]; rfl
  have efu : env.func = some fI := by rw [← henv]; rfl
  have eco : env.code = .ref cda := by rw [← henv]; rfl
  show _root_.PySem.wpAt _ _ _ (execs [.Expr b.call b.p9, b.set f] (callEnv (ksFn "__init__" qual params (b.body f) scope .none .none doc pm an (.ref cda) ct cc) h1.objs.size fI)) _ _ _
  rw [henv]
  obtain ⟨pl, ev⟩ := S.ev env esc
  obtain ⟨st1, st2, st3⟩ := S.st env esc
  obtain ⟨sp1, sp2⟩ := S.sp env esc
  have kd : ∀ {x : Str} {k : NameKind}, scope.names.lookup x = some k → env.kindOf x = some k := fun {x k} z => by
    show env.scope.names.lookup x = some k
    rw [esc]; exact z
  have ekd : env.scope.kind = .function := by rw [esc]; exact S.kind
  refine ks_wpAt_execs_cons (ks_wpAt_Expr_any (ks_wpAt_MethodCall (ks_wpAt_super_base (kd S.sup) (kd S.cl) (by decide) efu (K0 _ _ lk) rfl har eco (K0 _ _ lc) rfl lvs lfile S.top ?_) ev) st1 st2)
  refine ks_loadName_global ekd (kd S.sup) (loadGlobal_builtin (by rw [egl]; exact hg.keeps F0.keep) hsup (by rw [ebl]; exact hbn.keeps F0.keep) ((hbl _ (by decide)).trans rfl) ⟨rfl, ?_⟩)
  refine wpAny_loadName_free ekd (kd S.cl) ecl ⟨_, K0 _ _ lcell, rfl⟩ ?_
  refine wpAny_loadName_local ekd (by rw [hself]; exact kd S.self) (by rw [elo]; exact F0.ns) (by rw [hself]; exact mself) ?_
  refine ks_wpAny_isType_cls hD1 hD2 ⟨rfl, ?_⟩
  have he0 : h0.get? e = some (excObj C t1 none .none) := (N0 _ List.mem_cons_self).1
  refine ks_wpAny_call_super hD1 hD2 he0 rfl (fun c z => by cases z) (looks_mroIn K0 B.sub) (fun h2 eso k2 => ?_)
  obtain ⟨F2, N2, lt2⟩ := ks_newsPush (s := ⟨h0, g, d, t + 2, os⟩) F0 N0 rfl eso k2
  refine kxs_method kxs_ValueError F2 X N2 List.mem_cons_self (InstAt.of_exc0 N2 (List.mem_cons_of_mem _ List.mem_cons_self)) B.any B.sup B.ve (by decide) (fun q h3 F3 N3 lt3 => ?_)
  -- the text
  have K3 : K.In h3 := X.keeps F3.keep
  refine kxs_callWith1 (i := "ValueError.__init__") (x := e) N3 List.mem_cons_self ?_ (by rw [sp1]; rfl) rfl
  rw [sp1]
  have ns3 : h3.Ns env.locals m := by rw [elo]; exact F3.ns
  have gl3 : h3.Ns env.globals mg := by rw [egl]; exact hg.keeps F3.keep
  have bl3 : h3.Ns env.builtins mb := by rw [ebl]; exact hbn.keeps F3.keep
  show wpAny _ _ (spliced [(false, _)]) _ _ _
  refine Calls.spliced_cons (wpAny_BinOp (Calls.Constant_str (wpAny_Call_Name_kw (Calls.Name_function_global ekd (kd S.str) (loadGlobal_builtin gl3 hstr bl3 ((hbl _ (by decide)).trans rfl) ?_) (by decide)))))
  refine PyProof.Rows.callWith_type1 (T := "str") ?_ (by rw [sp2]; rfl) rfl
  rw [sp2]
  refine Calls.spliced_cons (wpAny_Name (wpAny_loadName_local ekd (kd S.place) ns3 mplace (Calls.spliced_nil ?_)) (by decide))
  refine PySem.P.str_of_int (log_small hi) ?_
  refine PyProof.Rows.add_str (fun t' tk' => Calls.spliced_nil ⟨kxs_at N3 List.mem_cons_self, ?_⟩) ?_
  · refine kxs_call F3 X N3 FB exi List.mem_cons_self (.tail ?_ (.tail ?_ (.head (fun _ z => nomatch z)))) (by show 1 ≤ sizeLine; rw [sizeLine_eq]; decide) (fun t4 h4 F4 N4 lt4 => ?_)
    · exact Nat.ne_of_gt (lt3 _ (List.mem_cons_of_mem _ List.mem_cons_self))
    · exact Nat.ne_of_gt (lt2 _ List.mem_cons_self)
    · -- the field
      have K4 : K.In h4 := X.keeps F4.keep
      have ns4 : h4.Ns env.locals m := by rw [elo]; exact F4.ns
      have e4 : h4.get? e = some (excObj C t4 none .none) := (N4 (e, excObj C t4 none .none) (List.mem_cons_of_mem _ (List.mem_cons_of_mem _ (List.mem_cons_of_mem _ List.mem_cons_self)))).1
      obtain ⟨nm, qn, nN, bs, bm, sn, sub, ab, col, dd, k0, k1, k2', k3, k5, hC, hbm⟩ := B.T.cls
      have hcl : clsIn K C = some { name := nm, bases := bs, mro := .ref C :: bm, ns := nN, qualname := qn, hasDict := true, slotNames := sn, subclasses := sub, abstract := ab, collection := col, hasDel := false } := by
        unfold clsIn
        rw [hC] <;> rfl
      show _root_.PySem.wpAt _ _ _ (execs [b.set f] env) _ _ _
      refine ks_wpAt_execs_cons (ks_wpAt_Assign_Attr (wpAt_of_wpAny (wpAny_Name (wpAny_loadName_local ekd (kd S.place) ns4 mplace (wpAny_Name (wpAny_loadName_local ekd (kd S.self) ns4 mself ?_) (by decide))) (by decide))) st3)
      refine set_plain (ox := excObj C t4 none .none) (od := none) K4 ⟨e4, rfl, rfl, trivial⟩ B.T.sa ?_
      refine PySem.HandSPX.exc_osa K4 e4 hcl (show PySem.HandSPX.refsVE (.ref C :: bm) = true from hbm) rfl B.fld (fun h5 tk5 dx k5' dn dne hx hn => ?_)
      refine wpAt_of_wpAny (wpAny_execs_nil (hR h5 tk5 t4 dx (fun c o z => k5' c o (fun y => by rw [y, hpe] at z; cases z) (F4.keep c o z)) ?_ dne hx hn))
      exact Nat.le_trans (Nat.le_of_lt (Nat.lt_of_le_of_lt hsz (Heap.lt_size e4))) dn
  · have hmsg := S.msg
    have h1 := PyProof.Rows.len_str_of_int i
    rw [sizeLine_eq]
    show b.msg.length + (Str.ofString (toString i)).length ≤ _
    omega
end
end MI
/-! # raise, try -/
namespace MI
open PySem PySem.Spec PyProof.Rows L2

section
variable {X : Cx} {e : Expr} {te : TE} {x f : Str} {p pos : Pos} {C fI cda cc : Addr} {qual : Str} {params : Arguments} {b : BbP} {scope : Scope}
/-- C(e), e a place -/
theorem pmk_bb (B : BbF X.prog X.K C fI cda cc qual params (b.body f) scope f) (S : BbS X.prog params scope b f qual) (hsup : X.mg "super" = none) (hstr : X.mg "str" = none) (hr : Room 3 X.A) (hg : Gl X x) (hm : X.mg x = some (.ref C)) (ha : PE X e te)
    (hdb : (x == ("__debug__" : Str)) = false := by decide) (he : starEach [e] X.env = (false, eval e X.env) :: starEach [] X.env := by rfl) :
    PMk X (.Call (.Name x p) [e] [] pos) (fun σ H Q => tCons te tNil σ H fun vs H1 => ∃ i : Int, vs = [.int i] ∧ i.natAbs ≤ 1000000 ∧ ∀ dx, H1 dx = none → Q (.ref C) (some dx) (upd H1 dx (.xd [(f, .int i)]))) := by
  intro pins s σ H Q I h
  obtain ⟨nm, q, nN, bs, bm, sn, sub, ab, col, dd, k0, k1, k2, k3, k5, hC, hbm⟩ := B.T.cls
  refine wpAny_Call_Name_kw (ld_glob I hg hm ?_ hdb)
  refine PySem.W.callWith_K (h₀ := X.base) I.ok.mod.kin B.T.kC (thn ((pa_cons ha pa_nil he).run pos pins s σ H (fun vs H1 => ∃ i : Int, vs = [.int i] ∧ i.natAbs ≤ 1000000 ∧ ∀ dx, H1 dx = none → Q (.ref C) (some dx) (upd H1 dx (.xd [(f, .int i)]))) I h) fun us s1 ⟨vs, H1, I1, r1, i, ev, hi, q1⟩ => ⟨I1.kIn, ?_⟩) he (by rfl)
  · subst ev
    obtain ⟨u, rfl, ru⟩ := vals1 r1
    obtain ⟨tk, rfl⟩ := ru
    show wpAny _ _ (call (.ref C) [.int i tk]) _ _ _
    obtain ⟨hp, g, dr, tt, os⟩ := s1
    have hget : ((hp.push (PySem.W.kdv_tup [.int i tk])).push (PySem.HandSPX.excO C hp.objs.size)).get? (hp.objs.size + 1) = some (PySem.HandSPX.excO C hp.objs.size) := by heap_get
    have kk : ∀ c o, hp.get? c = some o → ((hp.push (PySem.W.kdv_tup [.int i tk])).push (PySem.HandSPX.excO C hp.objs.size)).get? c = some o := fun c o z => Heap.get?_push_of_some _ (Heap.get?_push_of_some _ z)
    refine wpAny_call (PySem.HandSPX.call_own F.excBase_ValueError (fun Y => PySem.HandSPX.refsVE_contains Y bm hbm) (I1.kIn _ _ hC) (PySem.W.looks_findIn I1.kIn B.iC) (fun self => PySem.W.bind_fn I1.kIn self B.tI) (by show 1 ≤ sizeLine; rw [sizeLine_eq]; decide) ?_)
    refine bb_run B S I1.kIn (I1.mod.glob.keeps I1.bk) ?_ I1.nolimit hsup hstr (Room.depth (hr.make C [.int i tk] [])) hi kk (Nat.le_succ _) hget (fun h2 tk' t' dx k2' dn dne hx hn => ?_)
    · obtain ⟨mb, z1, z2⟩ := I1.mod.blt
      exact ⟨mb, z1.keeps I1.bk, z2⟩
    · refine ⟨rfl, ?_⟩
      obtain ⟨G, g1, g2⟩ := restrict h2 fun c => decide (c ≠ hp.objs.size + 1)
      have gk : ∀ c, c ≠ hp.objs.size + 1 → G.get? c = h2.get? c := fun c hc => g1 c (decide_eq_true hc)
      have ge : G.get? (hp.objs.size + 1) = none := g2 _ (by simp)
      have lt : ∀ c o, hp.get? c = some o → c ≠ hp.objs.size + 1 := fun c o z => Nat.ne_of_lt (Nat.lt_succ_of_lt (Heap.lt_size z))
      have kG : ∀ c o, hp.get? c = some o → G.get? c = some o := fun c o z => (gk c (lt c o z)).trans (k2' c o z)
      have J := I1.laid (t' := tk') (a := dx) (o := .xd [(f, .int i)]) (h' := G) kG dn ?_
      · refine ⟨hp.objs.size + 1, _, _, ⟨G, g, dr, tk', os⟩, _, .ref C, some dx, rfl, J, fun c o z => ?_, ge, hx, ⟨rfl, rfl⟩, rfl, rfl, ?_, rfl, I1.bare, raises_own B.T.exC B.T.tyC, q1 dx (I1.hok.fresh dn)⟩
        · by_cases hc : c = hp.objs.size + 1
          · rw [hc, ge] at z; cases z
          · exact (gk c hc).symm.trans z
        · rw [upd_ne (Ne.symm dne)]
          exact I1.hok.fresh (Nat.le_succ _)
      · refine ⟨_, hn.at fun o z => (gk dx dne).trans z, fun y => ?_⟩
        show RelO (List.lookup y [(f, V.int i)]) (if y = f then some (.int i tk) else none)
        rw [lookup_put]
        by_cases hy : y = f
        · rw [if_pos hy, if_pos hy]; exact ⟨tk, rfl⟩
        · rw [if_neg hy, if_neg hy]; exact True.intro
end

/-! ### what the module says of such a class -/
/-- x stands for an own exception class that keeps one int, under f -/
def XcM (P : Program) (K : PySem.W.Frag) (mg : Str → Option Value) (x f : Str) : Prop :=
  ∃ fI cda cc qual params b scope, BbF P K (He.ga K x) fI cda cc qual params (BbP.body b f) scope f ∧ BbS P params scope b f qual ∧ mg x = some (.ref (He.ga K x)) ∧ mg "super" = none ∧ mg "str" = none
def mRaise (x f : Str) (m : M) : S → Res Out := fun s => (mLeak m s).bind fun d s1 => match d with
  | .int i => if i.natAbs ≤ 1000000 then .exc x (.tup [.str f, .int i]) s1 else .stuck
  | _ => .stuck
section
variable {X : Cx} {W : WX} {e : Expr} {me : M} {x f : Str} {p pos pos' : Pos}
theorem ms_raise (B : XcM X.prog X.K X.mg x f) (hr : Room 3 X.A) (hc : X.calm = true) (tk : Takes X W) (hg : Gl X x) (ha : ME X W e me)
    (hdb : (x == ("__debug__" : Str)) = false := by decide) (he : starEach [e] X.env = (false, eval e X.env) :: starEach [] X.env := by rfl) :
    MS X W (.Raise (some (.Call (.Name x p) [e] [] pos')) none pos) (mRaise x f me) := by
  obtain ⟨fI, cda, cc, qual, params, b, scope, BF, BS, hm, hsup, hstr⟩ := B
  have z := ps_raise (pos := pos) hc tk (pmk_bb (p := p) (pos := pos') BF BS hsup hstr hr hg hm ha hdb he)
  refine ps_imp z fun D σ H h => ?_
  obtain ⟨g, s, ok, h⟩ := h
  unfold mRaise at h
  refine tM_leak ok (k := fun d g1 s1 H1 => PostS X.K W g1 s1 H1 D (match d with
  | .int i => if i.natAbs ≤ 1000000 then .exc x (.tup [.str f, .int i]) s1 else .stuck
  | _ => .stuck)) (PostS.bind h) fun d g1 s1 H1 v t1 k1 o1 rv h1 => ?_
  cases d <;> first | exact h1.elim | skip
  rename_i i
  cases rv
  simp only at h1
  split at h1
  · rename_i hi
    refine ⟨i, rfl, hi, fun dx hx => ?_⟩
    exact h1 _ _ _ g1 _ (Step.grow o1 hx) (o1.grow hx) ⟨rfl, .inr ⟨dx, f, .int i, .int i, rfl, upd_same, rfl, .int i⟩⟩
  · exact h1.elim
end

/-! ### try -/
/-- try: body / except c as n: y = n.f   (tb: which class is one of c) -/
def mTryF (tb : Str → Option Bool) (i j : Nat) (f : Str) (b : S → Res Out) : S → Res Out := fun s => match b s with
  | .exc c p s1 => (match tb c with
    | some true => (match p with
      | .tup [.str f', q] => if f' = f ∧ i ≠ j ∧ i < s1.env.length then (match assign j (.d q) { s1 with env := s1.env.set i .none } with
        | some s2 => .ok .nx s2
        | none => .stuck) else .stuck
      | _ => .stuck)
    | some false => .exc c p s1
    | none => .stuck)
  | r => r
section
variable {K : PySem.W.Frag} {σ : L2.St} {g : G} {s : S} {H : Hp}
theorem Ok.setNone {i : Nat} {x : Option V} (ok : Ok K g s σ H) : Ok K g { s with env := s.env.set i .none } (σ.set i x) H := by
  have cs : ∀ l w, cellOf { s with env := s.env.set i .none } l = some w → cellOf s l = some w := by
    intro l w h
    cases l with
    | gl n => exact h
    | sl k =>
      by_cases hi : i < s.env.length
      · rcases cellOf_set hi h with ⟨_, z⟩ | ⟨_, z⟩
        · cases z
        · exact z
      · have e : s.env.set i Slot.none = s.env := List.set_eq_of_length_le (by omega)
        rw [e] at h; exact h
  refine ⟨ok.sub, fun l w e => ok.cell l w (cs l w e), fun l l' w w' e e' z => ok.inj l l' w w' (cs l w e) (cs l' w' e') z, fun k y e => ?_, by rw [List.length_set, List.length_set]; exact ok.len, ok.ng, fun a p => ?_⟩
  · by_cases z : k = i
    · subst z
      have e' : (s.env.set k Slot.none)[k]? = some y := e
      by_cases hk : k < s.env.length
      · rw [List.getElem?_set_self hk] at e'
        cases e'
        trivial
      · rw [List.getElem?_eq_none (by rw [List.length_set]; omega)] at e'
        cases e'
    · have e' : (s.env.set i Slot.none)[k]? = some y := e
      rw [List.getElem?_set_ne (Ne.symm z)] at e'
      have q := ok.env k y e'
      cases y with
      | none => trivial
      | val d =>
        obtain ⟨v, h1, h2⟩ := q
        exact ⟨v, (List.getElem?_set_ne (Ne.symm z)).trans h1, h2⟩
      | own o => exact (List.getElem?_set_ne (Ne.symm z)).trans q
  · obtain ⟨h1, h2, h3⟩ := ok.prot a p
    exact ⟨h1, h2, fun ⟨l, w, e, z⟩ => h3 ⟨l, w, cs l w e, z⟩⟩
end
section
variable {X : Cx} {W : WX} {body : List Stmt} {mb : S → Res Out} {x n y f : Str} {i j : Nat} {np py pn pa apos pos pos' : Pos} {tb : Str → Option Bool}
theorem ms_tryF (hm : X.mg x = some (.ref (He.ga X.K x))) (hxf : XfC X.K (He.ga X.K x)) (hno : PySem.W.findIn X.K (.ref (He.ga X.K x)) f = some none)
    (htb : ∀ c b, tb c = some b → PySem.W.exmOne X.K (.ref (He.ga X.K c)) (.ref (He.ga X.K x)) = some b ∧ (b = true → c = x)) (hN : X.N.Nodup) (tk : Takes X W) (hg : Gl X x)
    (hb : ∀ (W : WX) (pn : List (Addr × Obj)) (xe : Value → Shared → Prop), Takes (X.tr pn xe) W → PassesOwn (model X.prog X.w) X.A X.env xe → MSs (X.tr pn xe) W body mb)
    (hs : X.stack = X.env :: X.outer := by rfl) (hf : X.env.frame = some X.env.locals := by rfl) (hi : X.N[i]? = some n := by rfl) (hj : X.N[j]? = some y := by rfl) (hln : X.env.kindOf n = some .local := by rfl) (hly : X.env.scope.names.lookup y = some .local := by rfl)
    (hdb : (x == ("__debug__" : Str)) = false := by decide) (hd1 : (n == ("__debug__" : Str)) = false := by decide) (hd2 : (n == ("__classdict__" : Str)) = false := by decide)
    (hsw : swapsWith (.Attribute (.Name n pn) f pa) (some (.Name y py)) apos.line X.env = pure false := by rfl) (hba : attributeBase (.Name n pn) f X.env (eval (.Name n pn) X.env) = eval (.Name n pn) X.env := by rfl) :
    MS X W (.Try body [.ExceptHandler (some (.Name x np)) (some n) [.Assign [.Name y py] (.Attribute (.Name n pn) f pa) apos] pos'] [] [] pos) (mTryF tb i j f mb) := by
  have z := ps_try_as (X := X) (x := x) (n := n) (c := .ref (He.ga X.K x)) (i := i) (np := np) (pos := pos) (pos' := pos') (Wout := W) (tb := fun W => tMS X.K W mb)
    (ts := fun a cls d => fun D σ H => tXf a cls d (He.ga X.K x) f (tVar i) σ H fun v H1 => D.nx (σ.set j (some v)) H1) hs hf hN hi hln ⟨hg, hdb, .inl hm⟩ tk hb
    (fun a oe cls d pn' hz hfs => pss_one (ps_set (X := X.suite a ((a, oe) :: pn')) (i := j) hN hj (.inl hly) (pe_xf (X := X) hxf hno hz hfs (pe_var (X := X.suite a ((a, oe) :: pn')) (i := i) hi (.inl hln) hd1 hd2) hba) hsw (.inr hly)))
  refine ps_imp z fun D σ H h => ?_
  obtain ⟨g, s, ok, h⟩ := h
  refine ⟨g, s, ok, ?_⟩
  unfold mTryF at h
  cases e : mb s with
  | ok a s' => simp only [e] at h; cases a <;> exact h
  | stuck => simp only [e] at h; exact h.elim
  | exc c p s1 =>
    simp only [e] at h
    intro σ' cls d g' H' t o' rep
    obtain ⟨rfl, rep⟩ := rep
    cases eb : tb c with
    | none => simp only [eb] at h; exact h.elim
    | some b =>
      obtain ⟨hx, hc⟩ := htb c b eb
      refine ⟨b, hx, fun hb1 a ha => ?_, fun hb0 => ?_⟩
      · subst hb1
        have ec := hc rfl
        subst ec
        simp only [eb] at h
        split at h
        · rename_i fl q
          split at h
          · rename_i hfij
            obtain ⟨rfl, hij, hlt⟩ := hfij
            split at h
            · rename_i s2 es
              rcases rep with ⟨_, rep⟩ | ⟨dx, f2, v, q2, ed, eH, rep, rq⟩
              · cases rep
              · cases rep
                refine ⟨.ref a, ?_, rfl, rfl, dx, _, v, ed, eH, ?_, ?_⟩
                · exact List.getElem?_set_self (by rw [← o'.len]; exact hlt)
                · simp [List.lookup]
                · show D.nx (((σ'.set i (some (.ref a))).set j (some v)).set i none) H'
                  have el : ((σ'.set i (some (.ref a))).set j (some v)).set i none = (σ'.set i none).set j (some v) := by
                    rw [List.set_comm _ _ (Ne.symm hij), List.set_set, List.set_comm _ _ hij]
                  rw [el]
                  obtain ⟨g2, t2, o2⟩ := assign_ok (o'.setNone (i := i) (x := none)) (show RepRV X.K g' _ H' v (.d q) from rq) es
                  exact h _ _ _ (t.trans t2) o2
            · exact h.elim
          · exact h.elim
        · exact h.elim
      · subst hb0
        simp only [eb] at h
        exact h _ _ _ _ _ t o' ⟨rfl, rep⟩
end
/-- .. and one that a clause names -/
structure XcT (P : Program) (K : PySem.W.Frag) (mg : Str → Option Value) (x f : Str) : Prop where
  xm : XcM P K mg x f
  xf : XfC K (He.ga K x)
  ex : PySem.W.exmOne K (.ref (He.ga K x)) (.ref (He.ga K x)) = some true
def tbOne (x : Str) : Str → Option Bool := fun c => if c = x then some true else none
def mTryX (x : Str) (i j : Nat) (f : Str) (b : S → Res Out) : S → Res Out := mTryF (tbOne x) i j f b
section
variable {X : Cx} {W : WX} {body : List Stmt} {mb : S → Res Out} {x n y f : Str} {i j : Nat} {np py pn pa apos pos pos' : Pos}
theorem ms_tryX (B : XcT X.prog X.K X.mg x f) (hN : X.N.Nodup) (tk : Takes X W) (hg : Gl X x)
    (hb : ∀ (W : WX) (pn : List (Addr × Obj)) (xe : Value → Shared → Prop), Takes (X.tr pn xe) W → PassesOwn (model X.prog X.w) X.A X.env xe → MSs (X.tr pn xe) W body mb)
    (hs : X.stack = X.env :: X.outer := by rfl) (hf : X.env.frame = some X.env.locals := by rfl) (hi : X.N[i]? = some n := by rfl) (hj : X.N[j]? = some y := by rfl) (hln : X.env.kindOf n = some .local := by rfl) (hly : X.env.scope.names.lookup y = some .local := by rfl)
    (hdb : (x == ("__debug__" : Str)) = false := by decide) (hd1 : (n == ("__debug__" : Str)) = false := by decide) (hd2 : (n == ("__classdict__" : Str)) = false := by decide)
    (hsw : swapsWith (.Attribute (.Name n pn) f pa) (some (.Name y py)) apos.line X.env = pure false := by rfl) (hba : attributeBase (.Name n pn) f X.env (eval (.Name n pn) X.env) = eval (.Name n pn) X.env := by rfl) :
    MS X W (.Try body [.ExceptHandler (some (.Name x np)) (some n) [.Assign [.Name y py] (.Attribute (.Name n pn) f pa) apos] pos'] [] [] pos) (mTryX x i j f mb) := by
  obtain ⟨fI, cda, cc, qual, params, b, scope, BF, BS, hm, hsup, hstr⟩ := B.xm
  refine ms_tryF hm B.xf BF.fld (fun c b h => ?_) hN tk hg hb hs hf hi hj hln hly hdb hd1 hd2 hsw hba
  unfold tbOne at h
  split at h
  · rename_i e
    cases h
    subst e
    exact ⟨B.ex, fun _ => rfl⟩
  · cases h
end
end MI
/-! # The head's facts: defs, names, own exception classes -/
namespace MI
open PySem PySem.Spec PyProof.Rows L2 PySem.W

/-- an own exception class with a written __init__: its name, the field, the def -/
structure InD where
  x : Str
  f : Str
  qual : Str
  params : Arguments
  b : BbP
  scope : Scope
abbrev InV : Type := Option (Str × Str × Arguments × FuncBody × Scope × Addr × List Str × Addr)
def InD.val (d : InD) : InV := some (("__init__" : Str), d.qual, d.params, .stmts (d.b.body d.f), d.scope, mainGlobals, [("__class__" : Str)], builtinsNs)
/-- the class object itself -/
def oexB (K : Frag) (C : Addr) : Bool := match K.lookup C with
  | some ⟨.type "type", _, .cls cd, sl⟩ => (match cd.mro, sl.toList with
    | .ref C' :: bm, [_, _, _, _, some (.builtin n), _] => decide (C' = C) && (decide (n = "ValueError.__new__") && (!cd.hasDel && (cd.hasDict && HandSPX.refsVE bm)))
    | _, _ => false)
  | _ => false
theorem oexB_ok {K : Frag} {C : Addr} (h : oexB K C = true) : ∃ nm q N bs bm sn sub ab col dd k0 k1 k2 k3 k5, K.lookup C = some (excClassObj nm q C N bs bm true sn sub ab col dd k0 k1 k2 k3 k5 "ValueError.__new__") ∧ HandSPX.refsVE bm = true := by
  unfold oexB at h
  split at h
  · rename_i dd cd sl ho
    split at h
    · rename_i C' bm k0 k1 k2 k3 n k5 e1 e2
      obtain ⟨a1, h⟩ := Bool.and_eq_true_iff.mp h
      obtain ⟨a2, h⟩ := Bool.and_eq_true_iff.mp h
      obtain ⟨a3, h⟩ := Bool.and_eq_true_iff.mp h
      obtain ⟨a4, a5⟩ := Bool.and_eq_true_iff.mp h
      have b1 := of_decide_eq_true a1
      have b2 := of_decide_eq_true a2
      subst b1 b2
      obtain ⟨nm, bs, mro, ns, qn, hd, sn, sub, ab, col, dl⟩ := cd
      simp only at e1 a3 a4
      subst e1 a4
      have b3 : dl = false := by simpa using a3
      subst b3
      have e3 : sl = #[k0, k1, k2, k3, some (.builtin "ValueError.__new__"), k5] := by
        obtain ⟨l⟩ := sl
        exact congrArg Array.mk e2
      subst e3
      exact ⟨nm, qn, ns, bs, bm, sn, sub, ab, col, dd, k0, k1, k2, k3, k5, ho, a5⟩
    · cases h
  · cases h
def inFn (K : Frag) (d : InD) : Addr := He.ma K (He.ga K d.x) "__init__"
def InD.obs (K : Frag) (d : InD) : InV := match K.lookup (inFn K d) with
  | some ⟨_, _, .func fd, _⟩ => some (fd.name, fd.qualname, fd.params, fd.body, fd.scope, fd.globals, fd.closure.map (·.1), fd.builtins)
  | _ => none
/-- the function object's other parts -/
def inFnB (K : Frag) (C fI : Addr) (qual file : Str) : Bool := match K.lookup fI with
  | some ⟨_, _, .func fd, _⟩ => (match fd.defaults, fd.kwdefaults, fd.closure, fd.code with
    | .none, .none, [(_, cc)], .ref cda => codeIn K (.ref cda) qual && ((match K.lookup cda with
        | some ⟨_, _, .fields vs, _⟩ => (match (vs[2]? : Option Value) with
          | some (Value.str fl _) => (file == fl)
          | _ => false)
        | _ => false) && (match K.lookup cc with
        | some ⟨_, _, .cell (some (.ref D)), _⟩ => decide (D = C)
        | _ => false))
    | _, _, _, _ => false)
  | _ => false
def veB : List Value := [.type "ValueError", .type "Exception", .type "BaseException", .type "object"]
def InD.ok (K : Frag) (file : Str) (d : InD) : Bool :=
  let C := He.ga K d.x
  oexB K C && (He.eqO (findIn K (.ref C) "__setattr__") (some (some (.builtin "object.__setattr__"))) && (decide (subIn K (.ref C) (.type "BaseException") = some true) && (decide (typeIn K (.ref C) = some (.type "type")) && (keepIn K (.ref C) &&
  (He.eqO (findIn K (.ref C) "__init__") (some (some (.ref (inFn K d)))) && (decide (typeIn K (.ref (inFn K d)) = some (.type "function")) && (inFnB K C (inFn K d) d.qual file && ((clsIn K C).isSome && (decide (mroIn K C (.ref C) = some true) &&
  (decide (ks_superIn K C C "__init__" = some (some (.builtin "ValueError.__init__"))) && (decide (subIn K (.ref C) (.type "ValueError") = some true) && (He.eqO (nsIn K cStatics "thirdparty.any") (some none) && (excInitIn K C veB "ValueError.__new__" &&
  (He.eqO (findIn K (.ref C) d.f) (some none) && (xfB K C && (decide (exmOne K (.ref C) (.ref C) = some true) && (He.eqO (nsIn K mainGlobals d.x) (some (some (.ref C))) && (He.eqO (nsIn K mainGlobals "super") (some none) && He.eqO (nsIn K mainGlobals "str") (some none)))))))))))))))))))
theorem InD.xct {P : Program} {K : Frag} {h : Heap} {mg : Str → Option Value} {d : InD} (X : K.In h) (G : h.Ns mainGlobals mg) (ok : d.ok K P.main.file = true) (e : d.obs K = d.val) (S : BbS P d.params d.scope d.b d.f d.qual) : XcT P K mg d.x d.f := by
  unfold InD.ok at ok
  simp only [Bool.and_eq_true, decide_eq_true_eq] at ok
  obtain ⟨c1, c2, c3, c4, c5, c6, c7, c8, c9, c10, c11, c12, c13, c14, c15, c16, c17, c18, c19, c20⟩ := ok
  have c2 := He.eqO_ok c2
  have c6 := He.eqO_ok c6
  have c13 := He.eqO_ok c13
  have c15 := He.eqO_ok c15
  have c18 := He.eqO_ok c18
  have c19 := He.eqO_ok c19
  have c20 := He.eqO_ok c20
  unfold InD.obs at e
  unfold inFnB at c8
  cases q : K.lookup (inFn K d) with
  | none => rw [q] at c8; cases c8
  | some o =>
    obtain ⟨oc, od, dt, osl⟩ := o
    rw [q] at c8 e
    cases dt with
    | func fd =>
      obtain ⟨n1, n2, n3, n4, n5, n6, n7, n8, n9, n10, n11, n12, n13, n14, n15⟩ := fd
      simp only at c8 e
      unfold InD.val at e
      simp only [Option.some.injEq, Prod.mk.injEq] at e
      obtain ⟨h1, h2, h3, h4, h5, h6, h7, h8⟩ := e
      subst h1 h2 h3 h4 h5 h6 h8
      split at c8
      · rename_i nm cc cda
        have hn : nm = "__class__" := by
          have z := List.head_eq_of_cons_eq h7
          exact z
        subst hn
        obtain ⟨d1, c8⟩ := Bool.and_eq_true_iff.mp c8
        obtain ⟨d2, d3⟩ := Bool.and_eq_true_iff.mp c8
        have code : ∃ ccl cdd vs ccs file tf, K.lookup cda = some ⟨ccl, cdd, .fields vs, ccs⟩ ∧ vs[2]? = some (.str file tf) ∧ ((P.main.file : Str) == file) = true := by
          split at d2
          · rename_i ho
            split at d2
            · rename_i hv
              exact ⟨_, _, _, _, _, _, ho, hv, d2⟩
            · cases d2
          · cases d2
        have cell : ∃ cl cld csl, K.lookup cc = some ⟨cl, cld, .cell (some (.ref (He.ga K d.x))), csl⟩ := by
          split at d3
          · rename_i D' _ ho
            have z := of_decide_eq_true d3
            subst z
            exact ⟨_, _, _, ho⟩
          · cases d3
        have BF : BbF P K (He.ga K d.x) (inFn K d) cda cc d.qual d.params (d.b.body d.f) d.scope d.f :=
          ⟨⟨oexB_ok c1, c2, c3, c4, c5⟩, c6, c7, ⟨_, _, _, _, _, _, _, q⟩, d1, code, cell, Option.isSome_iff_exists.mp c9, c10, c11, c12, c13, ⟨veB, F.excBase_ValueError, c14⟩, c15⟩
        exact ⟨⟨_, _, _, _, _, _, _, BF, S, mg_of X G c18, mg_none_of X G c19, mg_none_of X G c20⟩, xfB_ok c16, c17⟩
      · cases c8
    | _ => cases c8
/-! ### the Hook -/
abbrev AlX : Type := Bool × List He.FnW × List InV
structure HdX where
  n : Nat
  file : Str
  fa : List He.Fa
  fn : List He.DefD
  ini : List InD
  tup : List (Str × List He.Dv)
def HdX.ok (d : HdX) (K : Frag) : Bool := d.fa.all (fun f => f.ok K) && (d.fn.all (fun f => f.ok K) && (d.ini.all (fun f => f.ok K d.file) && d.tup.all fun p => He.eqO (nsIn K mainGlobals p.1) (some (some (.ref (He.ga K p.1)))) && He.tupB K p.1 p.2))
def HdX.obs (d : HdX) (K : Frag) : AlX := (d.ok K, d.fn.map (fun f => He.fnW K f.at_), d.ini.map fun f => f.obs K)
def HdX.val (d : HdX) : AlX := (true, d.fn.map He.DefD.val, d.ini.map InD.val)
def HdX.says (d : HdX) (K : Frag) : Prop := d.obs K = d.val
def asX (g : Addr → Option Obj) : Nat → List Addr
  | 0 => [mainGlobals, cStatics]
  | n + 1 => He.growD g (asX g n)
def HdX.obsG (d : HdX) (g : Addr → Option Obj) : AlX := d.obs (He.frG g (asX g d.n))
def HdX.hook (d : HdX) : Hook where
  α := AlX
  obs := fun s => d.obsG s.heap.get?
  val := fun _ => d.val
  says := fun _ h => ∃ K : Frag, K.In h ∧ d.says K
  of := fun _ _ e => ⟨_, He.frG_in, e⟩
  keeps := fun _ _ _ ⟨K, hK, c⟩ k => ⟨K, Frag.In.keeps hK k, c⟩
theorem HdX.obs_eq {d : HdX} {g : Addr → Option Obj} {s : Shared} (h : ∀ a, g a = s.heap.get? a) : d.obsG g = d.hook.obs s := by
  have e : g = s.heap.get? := funext h
  rw [e] <;> rfl
def HdX.ob (d : HdX) (s : SharedT) : AlX := d.obsG (HandSHeadRun.getT s)
theorem HdX.ob_eq (d : HdX) (s : SharedT) : d.ob s = d.hook.obs s.abs := HdX.obs_eq (HandSHeadRun.getT_eq s)
section
variable {d : HdX} {P : Program} {K : Frag} {h : Heap} {mg : Str → Option Value}
theorem HdX.says.ok (c : d.says K) : d.ok K = true := congrArg (fun z : AlX => z.1) c
theorem HdX.says.fact (c : d.says K) (i : Nat) {f : He.Fa} (e : d.fa[i]? = some f := by rfl) : f.ok K = true :=
  List.all_eq_true.mp (Bool.and_eq_true_iff.mp c.ok).1 f (List.mem_of_getElem? e)
theorem HdX.says.def_ (c : d.says K) (X : K.In h) (G : h.Ns mainGlobals mg) (i j : Nat) {x : Str} {params : Arguments} {body : List Stmt} {scope : Scope} (e : d.fn[i]? = some ⟨(x, none), x, x, params, body, scope, [], []⟩ := by rfl) (e2 : d.fa[j]? = some (.glo x) := by rfl) :
    DefM K mg x params body scope := by
  have c1 := (Bool.and_eq_true_iff.mp (Bool.and_eq_true_iff.mp c.ok).2).1
  have q : d.fn.map (fun f => He.fnW K f.at_) = d.fn.map He.DefD.val := congrArg (fun z : AlX => z.2.1) c
  have q2 : (d.fn.map fun f => He.fnW K f.at_)[i]? = (d.fn.map He.DefD.val)[i]? := by rw [q]
  rw [List.getElem?_map, List.getElem?_map, e] at q2
  obtain ⟨fd, F⟩ := He.DefD.funD (Option.some.inj q2) (List.all_eq_true.mp c1 _ (List.mem_of_getElem? e))
  exact ⟨_, fd, F, He.glo_ok X G (c.fact j e2)⟩
theorem HdX.says.free (c : d.says K) (X : K.In h) (G : h.Ns mainGlobals mg) (j : Nat) {x : Str} (e : d.fa[j]? = some (.free x) := by rfl) : mg x = none := He.free_ok X G (c.fact j e)
theorem HdX.says.gint (c : d.says K) (X : K.In h) (G : h.Ns mainGlobals mg) (j : Nat) {x : Str} {i : Int} (e : d.fa[j]? = some (.int x i) := by rfl) : GInt mg x i := He.int_ok X G (c.fact j e)
theorem HdX.says.gstr (c : d.says K) (X : K.In h) (G : h.Ns mainGlobals mg) (j : Nat) {x z : Str} (e : d.fa[j]? = some (.str x z) := by rfl) : GStr mg x z := He.str_ok X G (c.fact j e)
theorem HdX.says.exc (c : d.says K) (hf : d.file = P.main.file) (X : K.In h) (G : h.Ns mainGlobals mg) (i : Nat) {x f qual : Str} {params : Arguments} {b : BbP} {scope : Scope} (S : BbS P params scope b f qual) (e : d.ini[i]? = some ⟨x, f, qual, params, b, scope⟩ := by rfl) : XcT P K mg x f := by
  have c1 := (Bool.and_eq_true_iff.mp (Bool.and_eq_true_iff.mp (Bool.and_eq_true_iff.mp c.ok).2).2).1
  have q : d.ini.map (fun f => f.obs K) = d.ini.map InD.val := congrArg (fun z : AlX => z.2.2) c
  have q2 : (d.ini.map fun f => f.obs K)[i]? = (d.ini.map InD.val)[i]? := by rw [q]
  rw [List.getElem?_map, List.getElem?_map, e] at q2
  have o := List.all_eq_true.mp c1 _ (List.mem_of_getElem? e)
  rw [hf] at o
  exact InD.xct (d := ⟨x, f, qual, params, b, scope⟩) X G o (Option.some.inj q2) S
theorem HdX.says.gtup (c : d.says K) (X : K.In h) (G : h.Ns mainGlobals mg) (i : Nat) {x : Str} {ds : List He.Dv} (e : d.tup[i]? = some (x, ds) := by rfl) : GTup K mg x (ds.map (He.Dv.v K)) := by
  have c1 := (Bool.and_eq_true_iff.mp (Bool.and_eq_true_iff.mp (Bool.and_eq_true_iff.mp c.ok).2).2).2
  have o := List.all_eq_true.mp c1 _ (List.mem_of_getElem? e)
  obtain ⟨o1, o2⟩ := Bool.and_eq_true_iff.mp o
  exact ⟨_, mg_of X G (He.eqO_ok o1), fun H => He.tupB_ok o2 H⟩
end
/-- the places of such an __init__, off its text -/
def bbOf : List Stmt → BbP
  | [.Expr (.Call (.Attribute (.Call (.Name _ p0) _ _ p1) _ p2) [.BinOp (.Constant (.str msg) j p3) _ (.Call (.Name _ p4) [.Name _ p5] _ p6) p7] _ p8) p9, .Assign [.Attribute (.Name _ q0) _ q1] (.Name _ q2) q3] =>
    ⟨p0, p1, p2, p3, p4, p5, p6, p7, p8, p9, q0, q1, q2, q3, msg, j⟩
  | _ => ⟨⟨0, 0, 0, 0⟩, ⟨0, 0, 0, 0⟩, ⟨0, 0, 0, 0⟩, ⟨0, 0, 0, 0⟩, ⟨0, 0, 0, 0⟩, ⟨0, 0, 0, 0⟩, ⟨0, 0, 0, 0⟩, ⟨0, 0, 0, 0⟩, ⟨0, 0, 0, 0⟩, ⟨0, 0, 0, 0⟩, ⟨0, 0, 0, 0⟩, ⟨0, 0, 0, 0⟩, ⟨0, 0, 0, 0⟩, ⟨0, 0, 0, 0⟩, "", 0⟩
/-! ### the end: the law at a script -/
def CXw (P : Program) : CXT := fun outer H s E e s' => ∃ w : World, L2.CX P w outer H s E e s'
theorem law_out {P : Program} (H : Hp) (s : Shared) (e : Value) (s' : Shared) : CXw P [] H s (fun _ _ _ => False) e s' → False := fun ⟨_, _, _, _, _, _, _, _, _, _, _, _, _, z⟩ => z
theorem fnOk_cx {P : Program} {w : World} {K : Frag} {mg : Str → Option Value} {base : Heap} {k : Nat} {f : Addr} {fd : FuncData} {ps : List Str} {sp : Sp} (F : FnOk P w K mg base (L2.CX P w) k f fd ps sp) : FnOk P w K mg base (CXw P) k f fd ps sp :=
  ⟨F.len, fun A outer s H args us vs Q E hr e0 hb r q => codeAny_mono (F.run A outer s H args us vs Q E hr e0 hb r q) fun r s' z => by
    cases r with
    | error e => exact ⟨w, z⟩
    | ok fl => cases fl <;> exact z⟩
theorem law_end {P : Program} {w : World} {K : Frag} {mg : Str → Option Value} {fa : Addr} {h : Heap} {k : Nat} {fm : Fm} (KX : K.In h) (hmg : mg ("law" : Str) = some (.ref fa)) (F : ∀ base : Heap, FnM P w K mg base k "law" ["script"] fm)
    (plain : ∀ ns : List Int, ns.length ≤ 63 → ∃ gl, fm [.scr (ns.map D.int)] [] = .ok (.bl true) gl) :
    ∃ (K : Frag) (fd : FuncData) (sp : Sp), K.In h ∧ (∀ (s : Shared) (u : Value), BindsTo s fd ⟨[u], []⟩ [(("script" : Str), u)]) ∧
        (∀ (H : Hp) (a : Addr) (ns : List Int), ns.length ≤ 63 → Only H → SqL K H a (ns.map V.int) → sp [.ref a] H (fun v _ => v = .bl true) fun _ _ _ => False) ∧
        ∀ base : Heap, K.In base → base.Ns mainGlobals mg → FnOk P w K mg base (CXw P) k fa fd ["script"] sp := by
  obtain ⟨f0, fd, _, hm0, _, _, ⟨oc, od, osl, lk⟩, hb⟩ := (F h).ex
  have ef : f0 = fa := by rw [hm0] at hmg; cases hmg; rfl
  subst ef
  refine ⟨K, fd, spM K fm, KX, fun s u => hb s [u] rfl, fun H a ns hl _ hS => ?_, fun base _ _ => ?_⟩
  · have rl : ∀ ns : List Int, RepL K ⟨H, fun _ => False, fun _ => 0, 0⟩ (ns.map V.int) (ns.map D.int) := fun ns => by
      induction ns with
      | nil => exact .nil
      | cons i r ih => exact .cons (.int i) ih
    refine ⟨⟨H, fun _ => False, fun _ => 0, 0⟩, [], [.scr (ns.map D.int)], ⟨SubH.refl _, fun l o e => ?_, fun l l' o o' e => ?_, fun i x e => (nomatch e), rfl, rfl, fun a p => p.elim⟩, .one (.scr hS (rl ns)), ?_⟩
    · cases l with
      | sl i => exact nomatch (show (none : Option MObj) = some o from e)
      | gl n => exact nomatch (show (none : Option MObj) = some o from e)
    · cases l with
      | sl i => exact nomatch (show (none : Option MObj) = some o from e)
      | gl n => exact nomatch (show (none : Option MObj) = some o from e)
    · obtain ⟨gl, e⟩ := plain ns hl
      rw [e]
      intro v g' H' _ _ r
      cases r
      rfl
  · obtain ⟨f1, fd1, F1, hm1, _, _, ⟨oc1, od1, osl1, lk1⟩, _⟩ := (F base).ex
    have ef : f1 = f0 := by rw [hm0] at hm1; cases hm1; rfl
    subst ef
    rw [lk] at lk1
    cases lk1
    exact fnOk_cx F1
end MI
/-! # More methods of lists -/
namespace MI
open PySem PySem.Spec PyProof.Rows L2
/-- xs.extend(ys), ys a list -/
def fExtend : List D → D → Option (D × List D) := fun xs d => match d with
  | .lst ys => if xs.length + ys.length ≤ sizeLine then some (.non, xs ++ ys) else none
  | _ => none
section
variable {X : Cx} {W : WX} {o a : Expr} {mo ma : M} {apos cpos : Pos}
/-- (as mLm1_of; the heap of the argument is seen) -/
theorem mLm1_ofF {f : List D → D → Option (D × List D)} {r : V → List V → Hp → VK → Prop}
    (hf : ∀ (g : G) (l : Addr) (vs : List V) (xs : List D) (y : V) (d : D) (x : D) (ys : List D) (H : Hp) (Q : VK), SubH g.F H → RepL X.K g vs xs → Rep X.K g y d → H l = some (.lst vs) → f xs d = some (x, ys) →
      (∀ v ws, Rep X.K g v x → RepL X.K g ws ys → Q v (upd H l (.lst ws))) → r (.ref l) [y] H Q)
    {σ : L2.St} {H : Hp} {Q : VK} {g : G} {s : S} (ok : Ok X.K g s σ H) (h : PostE X.K W σ g s H (kE X.K Q) (mLm1 f mo ma s)) : tBM X.K "list" r (tM X.K W mo) (tCons (tM X.K W ma) tNil) σ H Q := by
  refine ⟨g, s, ok, (PostE.bind h).mono fun rv g1 s1 H1 t1 k1 o1 h1 v rr => ?_⟩
  split at h1
  · rename_i l e1
    have hv := locOf_ok rr e1
    subst hv
    split at h1
    · rename_i zs e2
      obtain ⟨us, hu, _⟩ := cell_lst o1 e2
      refine ⟨.inl ⟨rfl, us, .of hu⟩, ?_⟩
      refine tM_leak o1 (PostE.bind h1) fun d g2 s2 H2 y t2 k2 o2 ry h2 => ?_
      have el := loc_held o1 e2 t2 k2
      split at h2
      · rename_i xs e3
        split at h2
        · rename_i x ys e4
          obtain ⟨vs, hvs, rvs⟩ := cell_lst o2 e3
          show r (.ref (g1.adr l)) [y] H2 Q
          rw [← el]
          exact hf g2 _ vs xs y d x ys H2 Q o2.sub rvs ry hvs e4 fun v ws rv rw' => kE_change (o' := .lst ys) o2 e3 ⟨ws, upd_same, rw'⟩ rv h2
        · exact h2.elim
      · exact h2.elim
    · exact h1.elim
  · exact h1.elim
theorem me_extend (ho : ME X W o mo) (ha : ME X W a ma) (hbase : attributeBase o "extend" X.env (eval o X.env) = eval o X.env := by rfl)
    (hfew : ((backTo cpos (starEach [a] X.env)).all (fun x => !x.1) && (backToKw cpos (keywordEach [] X.env)).all (fun x => x.1.isSome)
      && decide ([a].length + ([] : List Keyword).length + (if ([] : List Keyword).isEmpty then 0 else 1) < 30)) = true := by rfl)
    (hline : (apos.endLine == cpos.line) = true := by rfl) (hs : starEach [a] X.env = (false, eval a X.env) :: starEach [] X.env := by rfl) :
    ME X W (.Call (.Attribute o "extend" apos) [a] [] cpos) (mLm1 fExtend mo ma) := by
  have z := pe_bm PySem.F.plainAttrs_list PySem.F.slot_list_extend PySem.F.type_list_extend mt_extend ho (pa_cons ha pa_nil hs) hbase hfew hline hs
  refine pe_imp z fun σ H Q h => ?_
  obtain ⟨g, s, ok, h⟩ := h
  refine mLm1_ofF (fun g l vs xs y d x ys H Q sb rvs ry hl e q => ?_) ok h
  clear h
  obtain ⟨zd, rfl⟩ : ∃ zd, d = .lst zd := by
    cases d <;> first | exact ⟨_, rfl⟩ | exact absurd e (by simp [fExtend])
  cases ry
  rename_i b zs hb rz
  unfold fExtend at e
  simp only at e
  split at e
  · rename_i hz
    cases e
    exact ⟨l, b, vs, zs, rfl, rfl, hl, sb.lst hb, by rw [rvs.length, rz.length]; exact hz, q _ _ .non (rvs.append rz)⟩
  · cases e
end
/-! ### enumerate of a list -/
def enumD (lo : Nat) : List D → List D
  | [] => []
  | d :: ds => .tup [.int lo, d] :: enumD (lo + 1) ds
theorem enumD_len : ∀ (lo : Nat) (ds : List D), (enumD lo ds).length = ds.length
  | _, [] => rfl
  | lo, d :: ds => by rw [enumD, List.length_cons, List.length_cons, enumD_len]
theorem enumD_get : ∀ (lo : Nat) (ds : List D) (i : Nat) (x : D), (enumD lo ds)[i]? = some x → ∃ d, ds[i]? = some d ∧ x = .tup [.int ((lo + i : Nat) : Int), d]
  | _, [], _, _, h => by cases h
  | lo, d :: ds, 0, x, h => ⟨d, rfl, by simpa [enumD] using h.symm⟩
  | lo, d :: ds, i + 1, x, h => by
    obtain ⟨y, h1, h2⟩ := enumD_get (lo + 1) ds i x (by simpa [enumD] using h)
    refine ⟨y, by simpa using h1, ?_⟩
    rw [h2, show lo + 1 + i = lo + (i + 1) by omega]
def iEnumM (m : S → Res (List D)) : S → Res (List D) := fun s => (m s).bind fun ds s1 => match ds with
  | [.lst xs] => .ok (enumD 0 xs) s1
  | [.scr xs] => .ok (enumD 0 xs) s1
  | _ => .stuck
theorem walk_enum {K : PySem.W.Frag} {g : G} {H0 : Hp} {a : Addr} {vs : List V} {ds : List D} (h : SqL K g.F a vs) (r : RepL K g vs ds) : Walk K (Ite K a) (enumD 0 ds) g H0 := by
  intro g' s' σ' H' l _ ok
  have hq : SqL K H' a vs := sqL_mono (l.F.transH ok.sub) h
  refine ⟨⟨vs, hq, by rw [r.length, enumD_len]; exact Nat.le_refl _⟩, fun i d e => ?_⟩
  obtain ⟨y, hy, rfl⟩ := enumD_get 0 ds i d e
  obtain ⟨v, hv, rv⟩ := r.get hy
  refine ⟨⟨vs, v, hq, hv⟩, fun x H'' ⟨T, z, ex, hT, eH, e2⟩ => ?_⟩
  subst ex eH
  have e3 := e2 vs hq
  rw [hv] at e3
  cases e3
  have k1 := ok.grow (o := .tup [.int (i : Nat), v]) hT
  have k2 := k1.frz (o := .tup [.int (i : Nat), v]) upd_same (ok.fnone hT) (ok.pnone hT) (ok.lnone hT)
  refine ⟨g'.frz T (.tup [.int (i : Nat), v]), (Step.grow ok hT).trans (Step.frz (ok.fnone hT)), SlKeep.refl _, k2, ?_⟩
  rw [Nat.zero_add]
  exact .tup (.inl (.inl upd_same)) (.cons (.int _) (.cons ((rv.mono l).mono (frz_le (ok.fnone hT))) .nil))
section
variable {X : Cx} {W : WX} {e : Expr} {m : S → Res (List D)} {p pos tpos : Pos} {elts : List Expr} {kk : Nat}
theorem mi_enum (ha : MA X W [e] m) (hg : Gl X "enumerate") (hm : X.mg "enumerate" = none) (hs : starEach [e] X.env = [(false, eval e X.env)] := by rfl) : MIt X W (.Tuple elts kk tpos) (.Call (.Name "enumerate" p) [e] [] pos) (iEnumM m) := by
  refine pi_imp (pi_enum hg hm ha hs) fun σ H R h => ?_
  obtain ⟨g, s, ok, h⟩ := h
  refine ⟨g, s, ok, (PostE.bind h).mono fun ds g1 s1 H1 t1 k1 o1 h1 vs rs => ?_⟩
  split at h1
  · cases rs with
    | cons r1 rs =>
      cases rs
      cases r1 with
      | lst hq r => exact ⟨_, _, rfl, .of (o1.sub.lst hq), PostE.done h1 o1 _ (walk_enum (.of hq) r)⟩
  · cases rs with
    | cons r1 rs =>
      cases rs
      cases r1 with
      | scr hq r => exact ⟨_, _, rfl, sqL_mono o1.sub hq, PostE.done h1 o1 _ (walk_enum hq r)⟩
  · exact h1.elim
end
/-! ### a text's signs -/
def signs (x : Str) : List D := x.cps.toList.map fun c => .str ⟨#[c]⟩
def iStrM (m : M) : S → Res (List D) := fun s => (mLeak m s).bind fun d s1 => match d with
  | .str x => .ok (signs x) s1
  | _ => .stuck
theorem walk_str {K : PySem.W.Frag} {g : G} {H0 : Hp} {x : Str} : Walk K (Its x) (signs x) g H0 := by
  intro g' s' σ' H' l _ ok
  refine ⟨by show x.cps.size ≤ (signs x).length; simp [signs], fun i d e => ?_⟩
  unfold signs at e
  rw [List.getElem?_map] at e
  obtain ⟨c, hc, rfl⟩ := Option.map_eq_some_iff.mp e
  have hc' : x.cps[i]? = some c := by rw [← Array.getElem?_toList]; exact hc
  refine ⟨(Array.getElem?_eq_some_iff.mp hc').1, fun y H'' ⟨e1, c', h', ey⟩ => ?_⟩
  subst e1 ey
  rw [hc'] at h'
  cases h'
  exact ⟨g', Step.refl _ _, SlKeep.refl _, ok, .str _⟩
theorem mi_str {X : Cx} {W : WX} {tg e : Expr} {me : M} (he : ME X W e me) : MIt X W tg e (iStrM me) := by
  refine pi_imp (pi_str he) fun σ H R h => ?_
  obtain ⟨g, s, ok, h⟩ := h
  refine tM_leak ok (PostE.bind h) fun d g1 s1 H1 v t1 k1 o1 rv h1 => ?_
  split at h1
  · cases rv
    exact ⟨_, rfl, PostE.done h1 o1 _ walk_str⟩
  · exact h1.elim
end MI
namespace MI
open PySem PySem.Spec PyProof.Rows L2
/-! ### a text in a text -/
def inS (i j : Str) : Bool := !(Builtin.Str.occurrences j i 0 j.length 1).isEmpty
def opInS : S → RV → RV → Res RV := fS fun i j => inS i j
section
variable {X : Cx} {W : WX} {a b : Expr} {ma mb : M} {pos : Pos}
theorem os_inS : OpS X W (fun x y H Q => ∃ i j, x = .str i ∧ y = .str j ∧ Q (.bl (inS i j)) H) opInS := fS_ok
theorem me_inS (ha : ME X W a ma) (hb : ME X W b mb) (hm : behindInMarks .In b = false) : ME X W (.Compare a [.In] [b] pos) (mBin opInS ma mb) := me_cmp op_in_str os_inS ha hb hm
theorem mt_inS (ha : ME X W a ma) (hb : ME X W b mb) (hm : behindInMarks .In b = false) : MT X W (.Compare a [.In] [b] pos) (mBl (mBin opInS ma mb)) := mt_cmp op_in_str os_inS ha hb hm
/-- .. a single sign -/
def opInC (neg : Bool) : S → RV → RV → Res RV := fun s a b => match asStr a, asStr b with
  | some x, some z => (match x.cps.toList with
    | [c] => .ok (.d (.bl (decide (c ∈ z.cps.toList) != neg))) s
    | _ => .stuck)
  | _, _ => .stuck
theorem one_sign {x : Str} {c : Nat} (h : x.cps.toList = [c]) : x = ⟨#[c]⟩ := by
  obtain ⟨⟨l⟩⟩ := x
  simp only at h
  subst h
  rfl
theorem os_inC : OpS X W (fun x y H Q => ∃ (c : Nat) (z : Str), x = .str ⟨#[c]⟩ ∧ y = .str z ∧ Q (.bl (decide (c ∈ z.cps.toList))) H) (opInC false) := by
  intro σ g s H Q x y ra rb ok rx ry nn q
  unfold opInC at q
  split at q
  · rename_i i j e1 e2
    split at q
    · rename_i c hc
      refine ⟨c, j, by rw [asStr_ok rx e1, one_sign hc], asStr_ok ry e2, ?_⟩
      have z := kE_d q ok (.bl _)
      simpa using z
    · exact q.elim
  · exact q.elim
theorem me_inC (ha : ME X W a ma) (hb : ME X W b mb) (hm : behindInMarks .In b = false) : ME X W (.Compare a [.In] [b] pos) (mBin (opInC false) ma mb) := me_cmp op_in_sign os_inC ha hb hm
theorem mt_inC (ha : ME X W a ma) (hb : ME X W b mb) (hm : behindInMarks .In b = false) : MT X W (.Compare a [.In] [b] pos) (mBl (mBin (opInC false) ma mb)) := mt_cmp op_in_sign os_inC ha hb hm
end
end MI
/-! # Methods of lists and texts, x += e -/
namespace MI
open PySem PySem.Spec PyProof.Rows L2

/-! ### xs.extend(a list or a tuple) -/
theorem extend_tuple_any (l : Addr) (items : Array Value) (n : Nat) (b : Addr) (items2 : Array Value) (n2 : Nat) (dd : Option Addr) (sl : Array (Option Value)) (hs0 : ¬(!items.isEmpty && Builtin.List.listTooLong (items.size + items2.size)) = true) (hs1 : items.size ≤ sizeLine) (hs2 : items.size + items2.size ≤ sizeLine + 1) :
    Meets (Builtin.«list.extend» ⟨[.ref l, .ref b], []⟩) (fun _ R s => s.heap.get? l = some { cls := .type "list", dict := none, data := .seq items n, slots := #[] } ∧ s.heap.get? b = some { cls := .type "tuple", dict := dd, data := .seq items2 n2, slots := sl } ∧ R (.ok (.ret Value.none)) { s with heap := s.heap.update l (Obj.mapSeq fun x => x ++ items2), toks := s.toks }) :=
  .of_wp fun prog w A R s h => by
    obtain ⟨hp, g, d, tk, os⟩ := s; obtain ⟨hl, hb, h⟩ := h; have f1 := AutoSeq1.idx_int; have f2 := AutoSeq1.sub_tuple_tuple; have f3 := AutoSeq1.sub_list_list; have f4 := AutoSeq1.sub_tuple_list; have f5 := AutoSeq1.sub_list_tuple
    have hz' : (items ++ items2).size ≤ sizeLine + 1 := by rw [Array.size_append]; exact hs2
    wp_walk using (wpAny_updateSeq hl rfl (hz := hs1) (_hz' := hz')), wpAny_loadPart' hl, wpAny_loadPart' hb; exact ⟨_, rfl, h⟩
def rExtendT (K : PySem.W.Frag) : V → List V → Hp → VK → Prop := fun x vs H Q => ∃ l b xs zs, x = .ref l ∧ vs = [.ref b] ∧ H l = some (.lst xs) ∧ SqT K H b zs ∧ xs.length + zs.length ≤ sizeLine ∧ Q .non (upd H l (.lst (xs ++ zs)))
theorem mt_extendA {X : Cx} : MtM X "list.extend" (fun x vs H Q => rExtend x vs H Q ∨ rExtendT X.K x vs H Q) := by
  intro pins s σ H x vs v us Q I rx rv h
  rcases h with h | h
  · exact mt_extend pins s σ H x vs v us Q I rx rv h
  obtain ⟨l, b, xs, zs, rfl, rfl, hH, hB, hz, q⟩ := h
  cases rx
  obtain ⟨u, rfl, ru⟩ := rv.one
  cases ru
  obtain ⟨z, its, n, r, hl, e⟩ := I.lstM hH
  obtain ⟨its2, r2, ⟨⟨cls, dd, data, sl⟩, ho, hc, n2, hd⟩, hl2⟩ := I.tuple hB
  simp only at hc hd
  subst hc hd
  have z1 := r.length
  have z2 := r2.length
  have hsz : its.toArray.size + its2.toArray.size ≤ sizeLine := by rw [List.size_toArray, List.size_toArray]; omega
  have hlong : ¬ (!its.toArray.isEmpty && Builtin.List.listTooLong (its.toArray.size + its2.toArray.size)) = true := by
    rw [notLongL hsz, Bool.and_false]
    exact Bool.false_ne_true
  refine call_meets F.slot_list_extend ⟨_, e, rfl⟩ F.entry_list_extend (F.args_list_extend_2 _ _)
    (extend_tuple_any l its.toArray n b its2.toArray n2 dd sl hlong (by rw [List.size_toArray]; omega) (by omega)) ⟨e, ho, ?_⟩
  refine ⟨.non, _, I.lset (its' := its ++ its2) hH e (by simp) (r.append r2) ?_, rfl, q⟩
  rw [List.length_append]
  omega
def fExtendA : List D → D → Option (D × List D) := fun xs d => match d with
  | .lst ys => if xs.length + ys.length ≤ sizeLine then some (.non, xs ++ ys) else none
  | .tup ys => if xs.length + ys.length ≤ sizeLine then some (.non, xs ++ ys) else none
  | _ => none
section
variable {X : Cx} {W : WX} {o a : Expr} {mo ma : M} {apos cpos : Pos}
theorem me_extendA (ho : ME X W o mo) (ha : ME X W a ma) (hbase : attributeBase o "extend" X.env (eval o X.env) = eval o X.env := by rfl)
    (hfew : ((backTo cpos (starEach [a] X.env)).all (fun x => !x.1) && (backToKw cpos (keywordEach [] X.env)).all (fun x => x.1.isSome)
      && decide ([a].length + ([] : List Keyword).length + (if ([] : List Keyword).isEmpty then 0 else 1) < 30)) = true := by rfl)
    (hline : (apos.endLine == cpos.line) = true := by rfl) (hs : starEach [a] X.env = (false, eval a X.env) :: starEach [] X.env := by rfl) :
    ME X W (.Call (.Attribute o "extend" apos) [a] [] cpos) (mLm1 fExtendA mo ma) := by
  have z := pe_bm PySem.F.plainAttrs_list PySem.F.slot_list_extend PySem.F.type_list_extend mt_extendA ho (pa_cons ha pa_nil hs) hbase hfew hline hs
  refine pe_imp z fun σ H Q h => ?_
  obtain ⟨g, s, ok, h⟩ := h
  refine mLm1_ofF (fun g l vs xs y d x ys H Q sb rvs ry hl e q => ?_) ok h
  clear h
  unfold fExtendA at e
  split at e
  · cases ry
    rename_i zs b us hb rz
    split at e
    · rename_i hz
      cases e
      exact .inl ⟨l, b, vs, us, rfl, rfl, hl, sb.lst hb, by rw [rvs.length, rz.length]; exact hz, q _ _ .non (rvs.append rz)⟩
    · cases e
  · cases ry
    rename_i zs b us hb rz
    split at e
    · rename_i hz
      cases e
      exact .inr ⟨l, b, vs, us, rfl, rfl, hl, sqT_mono sb hb, by rw [rvs.length, rz.length]; exact hz, q _ _ .non (rvs.append rz)⟩
    · cases e
  · cases e
end

/-! ### xs.pop() -/
def mLm0 (f : List D → Option (D × List D)) (o : M) : M := fun s => (o s).bind fun r s1 => match locOf r with
  | some l => (match cellOf s1 l with
    | some (.lst xs) => (match f xs with
      | some (x, ys) => .ok (.d x) (setCell s1 l (.lst ys))
      | none => .stuck)
    | _ => .stuck)
  | none => .stuck
def fPop : List D → Option (D × List D) := fun xs => match xs[xs.length - 1]? with
  | some y => some (y, xs.dropLast)
  | none => none
section
variable {X : Cx} {W : WX} {o a : Expr} {mo ma : M} {apos cpos : Pos}
theorem me_pop (ho : ME X W o mo) (hbase : attributeBase o "pop" X.env (eval o X.env) = eval o X.env := by rfl) (hline : (apos.endLine == cpos.line) = true := by rfl) :
    ME X W (.Call (.Attribute o "pop" apos) [] [] cpos) (mLm0 fPop mo) := by
  refine pe_imp (pe_bm0 PySem.F.plainAttrs_list PySem.F.slot_list_pop PySem.F.type_list_pop mt_pop ho hbase hline) fun σ H Q h => ?_
  obtain ⟨g, s, ok, h⟩ := h
  refine ⟨g, s, ok, (PostE.bind h).mono fun rv g1 s1 H1 t1 k1 o1 h1 v rr => ?_⟩
  split at h1
  · rename_i l e1
    have hv := locOf_ok rr e1
    subst hv
    split at h1
    · rename_i zs e2
      obtain ⟨us, hu, ru⟩ := cell_lst o1 e2
      refine ⟨.inl ⟨rfl, us, .of hu⟩, ?_⟩
      split at h1
      · rename_i x ys e4
        unfold fPop at e4
        split at e4
        · rename_i y ey
          cases e4
          obtain ⟨w, hw, rw'⟩ := ru.get ey
          refine ⟨_, us, w, rfl, rfl, hu, by rw [ru.length]; exact hw, ?_⟩
          refine kE_change (o' := .lst zs.dropLast) o1 e2 ⟨us.dropLast, upd_same, ?_⟩ rw' h1
          rw [List.dropLast_eq_take, List.dropLast_eq_take, ru.length]
          exact ru.take _
        · cases e4
      · exact h1.elim
    · exact h1.elim
  · exact h1.elim

/-! ### methods of texts with one argument -/
def mSm1 (f : Str → D → Option D) (o a : M) : M := fun s => (mLeak o s).bind fun d s1 => match d with
  | .str x => (mLeak a s1).bind fun y s2 => (match f x y with
    | some z => .ok (.d z) s2
    | none => .stuck)
  | _ => .stuck
theorem mSm1_of {f : Str → D → Option D} {r : V → List V → Hp → VK → Prop}
    (hf : ∀ (g : G) (x : Str) (y : V) (d z : D) (H : Hp) (Q : VK), SubH g.F H → Rep X.K g y d → f x d = some z → (∀ v, Rep X.K g v z → Q v H) → r (.str x) [y] H Q)
    {σ : L2.St} {H : Hp} {Q : VK} {g : G} {s : S} (ok : Ok X.K g s σ H) (h : PostE X.K W σ g s H (kE X.K Q) (mSm1 f mo ma s)) : tBM X.K "str" r (tM X.K W mo) (tCons (tM X.K W ma) tNil) σ H Q := by
  refine tM_leak ok (PostE.bind h) fun d g1 s1 H1 v t1 k1 o1 rv h1 => ?_
  split at h1
  · cases rv
    refine ⟨rfl, ?_⟩
    refine tM_leak o1 (PostE.bind h1) fun d g2 s2 H2 y t2 k2 o2 ry h2 => ?_
    split at h2
    · rename_i z e
      exact hf g2 _ y d z H2 Q o2.sub ry e fun v rv => kE_d h2 o2 rv
    · exact h2.elim
  · exact h1.elim
def fIndexS : Str → D → Option D := fun x d => match d with
  | .str y => (match Builtin.Str.occurrences x y 0 x.length 1 with
    | i :: _ => some (.int (i : Nat))
    | [] => none)
  | _ => none
theorem me_indexS (ho : ME X W o mo) (ha : ME X W a ma) (hbase : attributeBase o "index" X.env (eval o X.env) = eval o X.env := by rfl)
    (hfew : ((backTo cpos (starEach [a] X.env)).all (fun x => !x.1) && (backToKw cpos (keywordEach [] X.env)).all (fun x => x.1.isSome)
      && decide ([a].length + ([] : List Keyword).length + (if ([] : List Keyword).isEmpty then 0 else 1) < 30)) = true := by rfl)
    (hline : (apos.endLine == cpos.line) = true := by rfl) (hs : starEach [a] X.env = (false, eval a X.env) :: starEach [] X.env := by rfl) :
    ME X W (.Call (.Attribute o "index" apos) [a] [] cpos) (mSm1 fIndexS mo ma) := by
  refine pe_imp (pe_bm PySem.F.plainAttrs_str PySem.F.slot_str_index PySem.F.type_str_index mt_sindex ho (pa_cons ha pa_nil hs) hbase hfew hline hs) fun σ H Q h => ?_
  obtain ⟨g, s, ok, h⟩ := h
  refine mSm1_of (fun g x y d z H Q sb ry e q => ?_) ok h
  unfold fIndexS at e
  split at e
  · rename_i y0
    cases ry
    split at e
    · rename_i i rest ho
      cases e
      exact ⟨x, _, i, rest, rfl, rfl, ho, q _ (.int _)⟩
    · cases e
  · cases e
def strsOf : List D → Option (List Str)
  | [] => some []
  | .str i :: r => (strsOf r).map (i :: ·)
  | _ :: _ => none
theorem strsOf_ok {K : PySem.W.Frag} {g : G} : ∀ {vs : List V} {ds : List D} {bs : List Str}, RepL K g vs ds → strsOf ds = some bs → vs = bs.map V.str
  | _, _, _, .nil, e => by cases e; rfl
  | _, _, bs, .cons (d := d) a b, e => by
    cases d with
    | str k =>
      cases a
      simp only [strsOf] at e
      obtain ⟨cs, e1, rfl⟩ := Option.map_eq_some_iff.mp e
      rw [strsOf_ok b e1]; rfl
    | _ => cases e
def joinD (x : Str) (ds : List D) : Option D := match strsOf ds with
  | some ys => if (ys.map (·.length)).sum + ys.length * x.length ≤ 16777216 then some (.str (Txt.join x ys)) else none
  | none => none
def fJoin : Str → D → Option D := fun x d => match d with
  | .lst ds => joinD x ds
  | .tup ds => joinD x ds
  | _ => none
theorem joinD_ok {x : Str} {ds : List D} {z : D} (e : joinD x ds = some z) : ∃ ys, strsOf ds = some ys ∧ (ys.map (·.length)).sum + ys.length * x.length ≤ 16777216 ∧ z = .str (Txt.join x ys) := by
  unfold joinD at e
  split at e
  · rename_i ys e1
    split at e
    · rename_i h
      cases e
      exact ⟨ys, e1, h, rfl⟩
    · cases e
  · cases e
theorem me_join (ho : ME X W o mo) (ha : ME X W a ma) (hbase : attributeBase o "join" X.env (eval o X.env) = eval o X.env := by rfl)
    (hfew : ((backTo cpos (starEach [a] X.env)).all (fun x => !x.1) && (backToKw cpos (keywordEach [] X.env)).all (fun x => x.1.isSome)
      && decide ([a].length + ([] : List Keyword).length + (if ([] : List Keyword).isEmpty then 0 else 1) < 30)) = true := by rfl)
    (hline : (apos.endLine == cpos.line) = true := by rfl) (hs : starEach [a] X.env = (false, eval a X.env) :: starEach [] X.env := by rfl) :
    ME X W (.Call (.Attribute o "join" apos) [a] [] cpos) (mSm1 fJoin mo ma) := by
  refine pe_imp (pe_bm PySem.F.plainAttrs_str PySem.F.slot_str_join PySem.F.type_str_join mt_join ho (pa_cons ha pa_nil hs) hbase hfew hline hs) fun σ H Q h => ?_
  obtain ⟨g, s, ok, h⟩ := h
  refine mSm1_of (fun g x y d z H Q sb ry e q => ?_) ok h
  unfold fJoin at e
  split at e
  · cases ry
    rename_i b us hb rz
    obtain ⟨ys, e1, hz, rfl⟩ := joinD_ok e
    have eu := strsOf_ok rz e1
    subst eu
    exact ⟨x, b, ys, rfl, rfl, .inl (.of (sb.lst hb)), hz, q _ (.str _)⟩
  · cases ry
    rename_i b us hb rz
    obtain ⟨ys, e1, hz, rfl⟩ := joinD_ok e
    have eu := strsOf_ok rz e1
    subst eu
    exact ⟨x, b, ys, rfl, rfl, .inr (sqT_mono sb hb), hz, q _ (.str _)⟩
  · cases e
end

/-! ### x += e, ints -/
def mAug (i : Nat) (f : Int → Int → Int) (m : M) : S → Res Out := fun s => match s.env[i]? with
  | some (.val (.int a)) => (m s).bind fun r s1 => (match asInt r with
    | some b => (match assign i (.d (.int (f a b))) s1 with
      | some s2 => .ok .nx s2
      | none => .stuck)
    | none => .stuck)
  | _ => .stuck
section
variable {X : Cx} {W : WX} {e : Expr} {me : M} {pos : Pos}
theorem ms_aug {i : Nat} {x : Str} {f : Int → Int → Int} {op : Operator} {pos' : Pos} (hp : PIp X op (ipI f)) (he : ME X W e me) (hN : X.N.Nodup) (hi : X.N[i]? = some x := by rfl) (hx : L2.Loc X.env.scope x := by first | exact Or.inl rfl | exact Or.inr rfl)
    (hf : X.fn x = true ∨ X.env.scope.names.lookup x = some .local := by first | exact .inl rfl | exact .inr rfl) : MS X W (.AugAssign (.Name x pos') op e pos) (mAug i f me) := by
  refine ps_imp (ps_aug hN hi hx he hp hf) fun D σ H ⟨g, s, ok, h⟩ => ?_
  unfold mAug at h
  split at h
  · rename_i a e1
    obtain ⟨v, ev, rv⟩ := ok.env i _ e1
    cases rv
    refine ⟨.int a, ev, g, s, ok, (PostS.bind h).mono fun r g1 s1 H1 t1 k1 o1 h1 v rv => ?_⟩
    split at h1
    · rename_i b eb
      refine ⟨a, b, rfl, asInt_ok rv eb, ?_⟩
      split at h1
      · rename_i s2 e2
        obtain ⟨g2, t2, o2⟩ := assign_ok (v := .int (f a b)) o1 (show RepRV X.K g1 s1 H1 _ (.d _) from .int _) e2
        exact h1 _ g2 H1 t2 o2
      · exact h1.elim
    · exact h1.elim
  · exact h.elim
theorem ms_augAdd {i : Nat} {x : Str} {pos' : Pos} (he : ME X W e me) (hN : X.N.Nodup) (hi : X.N[i]? = some x := by rfl) (hx : L2.Loc X.env.scope x := by first | exact Or.inl rfl | exact Or.inr rfl)
    (hf : X.fn x = true ∨ X.env.scope.names.lookup x = some .local := by first | exact .inl rfl | exact .inr rfl) : MS X W (.AugAssign (.Name x pos') .Add e pos) (mAug i (fun a b => a + b) me) := ms_aug ip_add he hN hi hx hf
theorem ms_augSub {i : Nat} {x : Str} {pos' : Pos} (he : ME X W e me) (hN : X.N.Nodup) (hi : X.N[i]? = some x := by rfl) (hx : L2.Loc X.env.scope x := by first | exact Or.inl rfl | exact Or.inr rfl)
    (hf : X.fn x = true ∨ X.env.scope.names.lookup x = some .local := by first | exact .inl rfl | exact .inr rfl) : MS X W (.AugAssign (.Name x pos') .Sub e pos) (mAug i (fun a b => a - b) me) := ms_aug ip_sub he hN hi hx hf
end
end MI
/-! # Ranges by steps, targets in one another, dicts, sorting -/
namespace MI
open PySem PySem.Spec PyProof.Rows L2

/-! ### range(a, b, c) -/
def rangeC (lo c : Int) : Nat → List D
  | 0 => []
  | n + 1 => .int lo :: rangeC (lo + c) c n
theorem rangeC_len : ∀ (n : Nat) (lo c : Int), (rangeC lo c n).length = n
  | 0, _, _ => rfl
  | n + 1, lo, c => by rw [rangeC, List.length_cons, rangeC_len n]
theorem rangeC_get : ∀ (n : Nat) (lo c : Int) (i : Nat) (d : D), (rangeC lo c n)[i]? = some d → i < n ∧ d = .int (lo + (i : Nat) * c)
  | 0, _, _, _, _, e => by simp [rangeC] at e
  | n + 1, lo, c, 0, d, e => by simp [rangeC] at e; subst e; simp
  | n + 1, lo, c, i + 1, d, e => by
    obtain ⟨h1, h2⟩ := rangeC_get n (lo + c) c i d (by simpa [rangeC] using e)
    refine ⟨by omega, ?_⟩
    rw [h2]
    congr 1
    have : ((i + 1 : Nat) : Int) * c = (i : Int) * c + c := by rw [Int.natCast_succ, Int.add_mul, Int.one_mul]
    omega
theorem rng3_ex (i j c : Int) : ∃ r : Option (List D), r = if c ≠ 0 ∧ c.natAbs < 1073741824 ∧ Builtin.Range.small i j c = true ∧ 0 ≤ Builtin.Range.rangeSize i j c then some (rangeC i c (Builtin.Range.rangeSize i j c).toNat) else none := ⟨_, rfl⟩
noncomputable def rng3 (i j c : Int) : Option (List D) := Classical.choose (rng3_ex i j c)
theorem rng3_eq (i j c : Int) : rng3 i j c = if c ≠ 0 ∧ c.natAbs < 1073741824 ∧ Builtin.Range.small i j c = true ∧ 0 ≤ Builtin.Range.rangeSize i j c then some (rangeC i c (Builtin.Range.rangeSize i j c).toNat) else none := Classical.choose_spec (rng3_ex i j c)
noncomputable def iRange3 (m : S → Res (List D)) : S → Res (List D) := fun s => (m s).bind fun ds s1 => match ds with
  | [.int i, .int j, .int c] => (match rng3 i j c with
    | some l => .ok l s1
    | none => .stuck)
  | _ => .stuck
theorem walk_rngC {K : PySem.W.Frag} {g : G} {H0 : Hp} {lo c : Int} {n : Nat} : Walk K (Itc lo c n) (rangeC lo c n) g H0 := by
  intro g' s' σ' H' l _ ok
  refine ⟨by rw [rangeC_len]; exact Nat.le_refl _, fun i d e => ?_⟩
  obtain ⟨h1, rfl⟩ := rangeC_get n lo c i d e
  refine ⟨h1, fun x H'' ⟨e1, e2⟩ => ?_⟩
  subst e1 e2
  exact ⟨g', Step.refl _ _, SlKeep.refl _, ok, .int _⟩
section
variable {X : Cx} {W : WX} {tg a b c : Expr} {m : S → Res (List D)} {p pos : Pos}
theorem mi_range3 (ha : MA X W [a, b, c] m) (hg : Gl X "range") (hm : X.mg "range" = none) (hs : starEach [a, b, c] X.env = (false, eval a X.env) :: starEach [b, c] X.env := by rfl) (hpl : (backTo pos (starEach [b, c] X.env)).any (·.1) = false := by rfl) : MIt X W tg (.Call (.Name "range" p) [a, b, c] [] pos) (iRange3 m) := by
  refine pi_imp (pi_range3 hg hm ha hs hpl) fun σ H R h => ?_
  obtain ⟨g, s, ok, h⟩ := h
  refine ⟨g, s, ok, (PostE.bind h).mono fun ds g1 s1 H1 t1 k1 o1 h1 vs rs => ?_⟩
  split at h1
  · cases rs with
    | cons r1 rs =>
      cases rs with
      | cons r2 rs =>
        cases rs with
        | cons r3 rs =>
          cases rs
          cases r1; cases r2; cases r3
          split at h1
          · rename_i hz
            rw [rng3_eq] at hz
            split at hz
            · rename_i hz2
              cases hz
              exact ⟨_, _, _, _, rfl, ⟨hz2.1, hz2.2.1, hz2.2.2.1, by have := hz2.2.2.2; omega⟩, PostE.done h1 o1 _ walk_rngC⟩
            · cases hz
          · exact h1.elim
  · exact h1.elim
end
theorem rng3_up {i j c : Int} (h0 : -1000000 ≤ i) (h1 : i ≤ 1000000) (h2 : -1000000 ≤ j) (h3 : j ≤ 1000000) (h4 : 0 < c) (h5 : c ≤ 1000000) : rng3 i j c = some (rangeC i c (if i < j then (j - i - 1) / c + 1 else 0).toNat) := by
  have e : Builtin.Range.rangeSize i j c = if i < j then (j - i - 1) / c + 1 else 0 := by unfold Builtin.Range.rangeSize; rw [if_pos h4]
  have q : i < j → 0 ≤ (j - i - 1) / c ∧ (j - i - 1) / c * c ≤ j - i - 1 ∧ (j - i - 1) / c ≤ j - i - 1 := fun h =>
    ⟨Int.ediv_nonneg (by omega) (by omega), Int.ediv_mul_le _ (by omega), Int.ediv_le_self _ (by omega)⟩
  rw [rng3_eq, e, if_pos]
  refine ⟨by omega, by omega, ?_, by split; (rename_i h; have := (q h).1; omega); omega⟩
  unfold Builtin.Range.small
  rw [e]
  simp only [Builtin.Range.rangeFitsLong, Bool.and_eq_true, Bool.or_eq_true, decide_eq_true_eq, beq_iff_eq, h4, if_true]
  by_cases h : i < j
  · obtain ⟨q1, q2, q3⟩ := q h
    simp only [h, if_true]
    generalize (j - i - 1) / c = z at q1 q2 q3 ⊢
    refine ⟨⟨⟨⟨⟨?_, ?_⟩, ?_, ?_⟩, ?_, ?_⟩, ?_, ?_⟩, .inr ⟨?_, ?_⟩⟩ <;> omega
  · simp only [h, if_false]
    refine ⟨⟨⟨⟨⟨?_, ?_⟩, ?_, ?_⟩, ?_, ?_⟩, ?_, ?_⟩, .inl ?_⟩ <;> first | omega | rfl | simp
theorem rng3_down {i j : Int} (h0 : -1000000 ≤ i) (h1 : i ≤ 1000000) (h2 : -1000000 ≤ j) (h3 : j ≤ 1000000) : rng3 i j (-1) = some (rangeC i (-1) (i - j).toNat) := by
  rw [rng3_eq, PySem.W.rangeSize_downNat, if_pos ⟨by omega, by decide, PySem.W.small_down (by omega) (by omega) (by omega) (by omega), by omega⟩]
  congr 2
end MI
/-! # Targets in one another, dicts, sorting -/
namespace MI
open PySem PySem.Spec PyProof.Rows L2

/-! ### targets in one another -/
def tgsNil : List D → S → Option S := fun ds s => match ds with
  | [] => some s
  | _ => none
def tgsCons (t : D → S → Option S) (ts : List D → S → Option S) : List D → S → Option S := fun ds s => match ds with
  | d :: ds => (match t d s with
    | some s1 => ts ds s1
    | none => none)
  | [] => none
def tgT (ts : List D → S → Option S) : D → S → Option S := fun d s => match d with
  | .tup ds => ts ds s
  | .lst ds => ts ds s
  | _ => none
theorem setAll_app : ∀ {is js : List Nat} {ws us : List V} {σ : L2.St}, is.length = ws.length → setAll σ (is ++ js) (ws ++ us) = setAll (setAll σ is ws) js us
  | [], js, [], us, σ, _ => rfl
  | i :: is, js, w :: ws, us, σ, h => by
    show setAll (σ.set i (some w)) (is ++ js) (ws ++ us) = _
    exact setAll_app (by simpa using h)
  | [], _, _ :: _, _, _, h => by simp at h
  | _ :: _, _, [], _, _, h => by simp at h
def MGk2 (K : PySem.W.Frag) (gt : TG) (is : List Nat) (t : D → S → Option S) : Prop :=
  ∀ g s σ H v d s', Ok K g s σ H → Rep K g v d → t d s = some s' → ∃ ws, is.length = ws.length ∧ Ok K g s' (setAll σ is ws) H ∧ ∀ Q : L2.St → Hp → Prop, Q (setAll σ is ws) H → gt v σ H Q
def MGks (K : PySem.W.Frag) (n : Nat) (gt : TGs) (is : List Nat) (t : List D → S → Option S) : Prop :=
  ∀ g s σ H vs ds s', Ok K g s σ H → RepL K g vs ds → t ds s = some s' → ∃ ws, is.length = ws.length ∧ vs.length = n ∧ Ok K g s' (setAll σ is ws) H ∧ ∀ Q : L2.St → Hp → Prop, Q (setAll σ is ws) H → gt vs σ H Q
structure MG2 (X : Cx) (tg : Expr) (gt : TG) (is : List Nat) (t : D → S → Option S) : Prop where
  pg : PG X tg gt
  ok : MGk2 X.K gt is t
structure MGs (X : Cx) (es : List Expr) (n : Nat) (gt : TGs) (is : List Nat) (t : List D → S → Option S) : Prop where
  pg : PGs X es gt
  ok : MGks X.K n gt is t
theorem MG2.mg {X : Cx} {tg : Expr} {gt : TG} {is : List Nat} {t : D → S → Option S} (h : MG2 X tg gt is t) : MG X tg gt is t :=
  ⟨h.pg, fun g s σ H v d s' ok r e => by obtain ⟨ws, _, o, q⟩ := h.ok g s σ H v d s' ok r e; exact ⟨ws, o, q⟩⟩
section
variable {X : Cx} {W : WX} {e : Expr} {es : List Expr} {me : M} {pos : Pos} {gt : TG} {gts : TGs} {is js : List Nat} {t : D → S → Option S} {ts : List D → S → Option S} {n : Nat}
theorem mg2_name {i : Nat} {x : Str} (hN : X.N.Nodup) (hi : X.N[i]? = some x := by rfl) (hx : L2.Loc X.env.scope x := by first | exact Or.inl rfl | exact Or.inr rfl) (hf : X.fn x = true ∨ X.env.scope.names.lookup x = some .local := by first | exact .inl rfl | exact .inr rfl) :
    MG2 X (.Name x pos) (gName i) [i] (tgName i) := ⟨pg_name hN hi hx hf, fun g s σ H v d s' ok r e => by
  simp only [tgName, MI.assign] at e
  split at e
  · rename_i hl
    cases e
    exact ⟨[v], rfl, ok.setVal r hl, fun Q q => q⟩
  · cases e⟩
theorem mgs2_nil : MGs X [] 0 gNil [] tgsNil := ⟨pgs_nil, fun g s σ H vs ds s' ok r e => by
  cases r with
  | nil => cases e; exact ⟨[], rfl, rfl, ok, fun Q q => ⟨rfl, q⟩⟩
  | cons _ _ => cases e⟩
theorem mgs2_cons (h1 : MG2 X e gt is t) (h2 : MGs X es n gts js ts) (hs : (assignEach (e :: es) X.env).map (·.2) = PySem.assign e X.env :: (assignEach es X.env).map (·.2) := by rfl) :
    MGs X (e :: es) (n + 1) (gCons gt gts) (is ++ js) (tgsCons t ts) := ⟨pgs_cons h1.pg h2.pg hs, fun g s σ H vs ds s' ok r e => by
  cases r with
  | nil => cases e
  | @cons v vs d ds r1 r2 =>
    have e' : (match t d s with
      | some s1 => ts ds s1
      | none => none) = some s' := e
    cases e1 : t d s with
    | none => rw [e1] at e'; cases e'
    | some s1 =>
      rw [e1] at e'
      obtain ⟨ws, l1, o1, q1⟩ := h1.ok g s σ H v d s1 ok r1 e1
      obtain ⟨us, l2, l3, o2, q2⟩ := h2.ok g s1 _ H vs ds s' o1 r2 e'
      refine ⟨ws ++ us, by rw [List.length_append, List.length_append, l1, l2], by rw [List.length_cons, l3], by rw [setAll_app l1]; exact o2, fun Q q => ?_⟩
      rw [setAll_app l1] at q
      exact ⟨v, vs, rfl, q1 _ (q2 Q q)⟩⟩
theorem pg_or {tg : Expr} {t t' : TG} (h : PG X tg t) (h' : PG X tg t') : PG X tg (fun v σ H Q => t v σ H Q ∨ t' v σ H Q) :=
  ⟨fun pins s σ H v u Q I r q => q.elim (h.run pins s σ H v u Q I r) (h'.run pins s σ H v u Q I r)⟩
theorem mg2_tup {k : Nat} (hc : X.calm = true) (h : MGs X es n gts is ts) (hn : (assignEach es X.env).length = n := by rfl) (hst : (assignEach es X.env).findIdx? (·.1) = none := by rfl) :
    MG2 X (.Tuple es k pos) (fun v σ H Q => gTup X.K n gts v σ H Q ∨ gLst X.K n gts v σ H Q) is (tgT ts) := ⟨pg_or (pg_tup hc h.pg hn hst) (pg_lst hc h.pg hn hst), fun g s σ H v d s' ok r e => by
  unfold tgT at e
  split at e
  · cases r with
    | tup hq rl =>
      obtain ⟨ws, l1, l2, o, q⟩ := h.ok g s σ H _ _ s' ok rl e
      exact ⟨ws, l1, o, fun Q z => .inl ⟨_, _, rfl, sqT_mono ok.sub hq, l2, q Q z⟩⟩
  · cases r with
    | lst hq rl =>
      obtain ⟨ws, l1, l2, o, q⟩ := h.ok g s σ H _ _ s' ok rl e
      exact ⟨ws, l1, o, fun Q z => .inr ⟨_, _, rfl, .of (ok.sub.lst hq), l2, q Q z⟩⟩
  · cases e⟩
def mUnpT (t : D → S → Option S) (m : M) : S → Res Out := fun s => (mLeak m s).bind fun d s1 => match t d s1 with
  | some s2 => .ok .nx s2
  | none => .stuck
theorem ms_unpT {tg : Expr} (he : ME X W e me) (hg : MG2 X tg gt is t)
    (hs : swapsWithSole [tg] e pos.line X.env = pure false := by rfl) (hw : swappedStores [tg] e X.env = pure none := by rfl)
    (h1 : (assignEach [tg] X.env).map (·.2) = [PySem.assign tg X.env] := by rfl) :
    MS X W (.Assign [tg] e pos) (mUnpT t me) := by
  refine ps_imp (ps_asg he hg.pg hs hw h1) fun D σ H ⟨g, s, ok, h⟩ => ?_
  refine tM_leak ok (PostS.bind h) fun d g1 s1 H1 v t1 k1 o1 rv h1 => ?_
  split at h1
  · rename_i s2 e2
    obtain ⟨ws, _, o2, q⟩ := hg.ok g1 s1 σ H1 v d s2 o1 rv e2
    exact q _ (h1 _ g1 H1 (Step.refl _ _) o2)
  · exact h1.elim
end

/-! ### dicts -/
def keyOf : D → Option Key
  | .int i => some (.inl i)
  | .str x => some (.inr x)
  | _ => none
theorem keyOf_ok {K : PySem.W.Frag} {g : G} {v : V} {d : D} {k : Key} (r : Rep K g v d) (e : keyOf d = some k) : v = kV k := by
  cases r with
  | int i => cases e; rfl
  | str x => cases e; rfl
  | _ => cases e
def dval (kvs : List (Key × D)) (k : Key) : Option D := (kvs.find? fun kv => decide (kv.1 = k)).map (·.2)
def dput (kvs : List (Key × D)) (k : Key) (v : D) : List (Key × D) :=
  if (kvs.any fun kv => decide (kv.1 = k)) = true then kvs.map (fun kv => if kv.1 = k then (kv.1, v) else kv) else kvs ++ [(k, v)]
section
variable {K : PySem.W.Frag} {g : G}
theorem RepK.val : ∀ {vs : List (Key × V)} {ds : List (Key × D)} (k : Key), RepK K g vs ds → (∀ d, dval ds k = some d → ∃ v, valV vs k = some v ∧ Rep K g v d) ∧ (dval ds k = none → valV vs k = none)
  | _, _, k, .nil => ⟨fun d e => (nomatch e), fun _ => rfl⟩
  | _, _, k, .cons (k := j) (v := v) (vs := vs) (d := d) (ds := ds) a b => by
    by_cases h : j = k
    · subst h
      have e1 : dval ((j, d) :: ds) j = some d := by simp [dval]
      have e2 : valV ((j, v) :: vs) j = some v := valV_pos rfl
      exact ⟨fun z e => by rw [e1] at e; cases e; exact ⟨v, e2, a⟩, fun e => by rw [e1] at e; cases e⟩
    · have e1 : dval ((j, d) :: ds) k = dval ds k := by simp [dval, h]
      have e2 : valV ((j, v) :: vs) k = valV vs k := valV_neg h
      rw [e1, e2]
      exact RepK.val k b
theorem RepK.any : ∀ {vs : List (Key × V)} {ds : List (Key × D)} (k : Key), RepK K g vs ds → (vs.any fun kv => decide (kv.1 = k)) = ds.any fun kv => decide (kv.1 = k)
  | _, _, k, .nil => rfl
  | _, _, k, .cons (k := j) a b => by rw [List.any_cons, List.any_cons, RepK.any k b]
theorem RepK.repl {y : V} {x : D} (r : Rep K g y x) : ∀ {vs : List (Key × V)} {ds : List (Key × D)} (k : Key), RepK K g vs ds → RepK K g (vs.map fun kv => if kv.1 = k then (kv.1, y) else kv) (ds.map fun kv => if kv.1 = k then (kv.1, x) else kv)
  | _, _, k, .nil => .nil
  | _, _, k, .cons (k := j) (v := v) (vs := vs) (d := d) (ds := ds) a b => by
    rw [List.map_cons, List.map_cons]
    by_cases h : j = k
    · simp only [h, if_true]; exact .cons r (RepK.repl r k b)
    · simp only [h, if_false]; exact .cons a (RepK.repl r k b)
theorem RepK.snoc {y : V} {x : D} (r : Rep K g y x) (k : Key) : ∀ {vs : List (Key × V)} {ds : List (Key × D)}, RepK K g vs ds → RepK K g (vs ++ [(k, y)]) (ds ++ [(k, x)])
  | _, _, .nil => .cons r .nil
  | _, _, .cons a b => .cons a (RepK.snoc r k b)
theorem RepK.put {vs : List (Key × V)} {ds : List (Key × D)} {y : V} {x : D} (h : RepK K g vs ds) (k : Key) (r : Rep K g y x) : RepK K g (putK vs k y) (dput ds k x) := by
  unfold putK dput
  rw [h.any k]
  by_cases z : (ds.any fun kv => decide (kv.1 = k)) = true
  · rw [if_pos z, if_pos z]; exact RepK.repl r k h
  · rw [if_neg z, if_neg z]; exact RepK.snoc r k h
theorem RepK.keys : ∀ {vs : List (Key × V)} {ds : List (Key × D)}, RepK K g vs ds → vs.map (·.1) = ds.map (·.1)
  | _, _, .nil => rfl
  | _, _, .cons a b => by rw [List.map_cons, List.map_cons, RepK.keys b]
end
/-- {} -/
def mDNew : M := fun s => .ok (.new (.dic [])) s
/-- d[k] -/
def mDGet (d k : M) : M := fun s => (mSettle d s).bind fun r s1 => (mLeak k s1).bind fun y s2 => match asDic s2 r, keyOf y with
  | some kvs, some k => (match dval kvs k with
    | some x => .ok (.d x) s2
    | none => .stuck)
  | _, _ => .stuck
/-- d.get(k, x) -/
def mDGet2 (d k x : M) : M := fun s => (mSettle d s).bind fun r s1 => match asDic s1 r with
  | some _ => (mLeak k s1).bind fun y s2 => (mLeak x s2).bind fun z s3 => (match asDic s3 r, keyOf y with
    | some kvs, some k => .ok (.d ((dval kvs k).getD z)) s3
    | _, _ => .stuck)
  | none => .stuck
/-- d[k] = v -/
def mDPut (v o k : M) : S → Res Out := fun s => (mLeak v s).bind fun d s1 => (o s1).bind fun r s2 => match locOf r with
  | some l => (match cellOf s2 l with
    | some _ => (mLeak k s2).bind fun y s3 => (match cellOf s3 l, keyOf y with
      | some (.dic kvs), some k => if kvs.length < sizeLine then .ok .nx (setCell s3 l (.dic (dput kvs k d))) else .stuck
      | _, _ => .stuck)
    | _ => .stuck)
  | none => .stuck
theorem hu1 {A : Around} (h : A.units + 64 < cLine) : A.units + 1 < cLine := by omega
section
variable {X : Cx} {W : WX} {d k x o e : Expr} {md mk mx mo me : M} {pos pos' apos cpos : Pos}
theorem me_dnew : ME X W (.Dict [] [] pos) mDNew := pe_imp pe_dnewK fun σ H Q ⟨g, s, ok, h⟩ p hp => kE_new h ok hp ⟨[], upd_same, .nil⟩
theorem me_dget (hu : X.A.units + 64 < cLine) (hd : ME X W d md) (hk : ME X W k mk) (hs : NoSl k := by exact fun _ _ => rfl) : ME X W (.Subscript d k pos) (mDGet md mk) := by
  refine pe_imp (pe_dget (hu1 hu) hd hk hs) fun σ H Q ⟨g, s, ok, h⟩ => ?_
  refine tM_settle ok (PostE.bind h) fun r g1 s1 H1 v t1 k1 o1 rv nn h1 => ?_
  refine tM_leak o1 (PostE.bind h1) fun y g2 s2 H2 u t2 k2 o2 ru h2 => ?_
  split at h2
  · rename_i kvs key e1 e2
    split at h2
    · rename_i z e3
      obtain ⟨a, vs, rfl, hq, rk⟩ := asDic_ok o2 (rv.held nn t2 k2) e1
      obtain ⟨w, hw, rw'⟩ := (rk.val key).1 z e3
      refine ⟨a, w, rfl, ?_, kE_d h2 o2 rw'⟩
      rw [keyOf_ok ru e2, ← hw]
      exact .inl ⟨_, _, hq, rfl, rfl⟩
    · exact h2.elim
  · exact h2.elim
theorem me_dget2 (hu : X.A.units + 64 < cLine) (hd : ME X W d md) (hk : ME X W k mk) (hx : ME X W x mx) (m : M2 X d "get" apos k x cpos := by exact ⟨rfl, rfl, rfl, rfl⟩) : ME X W (.Call (.Attribute d "get" apos) [k, x] [] cpos) (mDGet2 md mk mx) := by
  refine pe_imp (L2.pe_dget2 (hu1 hu) hd hk hx m) fun σ H Q ⟨g, s, ok, h⟩ => ?_
  refine tM_settle ok (PostE.bind h) fun r g1 s1 H1 v t1 k1 o1 rv nn h1 => ?_
  split at h1
  · rename_i kvs0 e0
    obtain ⟨a, vs0, rfl, hq0, _⟩ := asDic_ok o1 rv e0
    refine ⟨a, rfl, .inl ⟨vs0, hq0⟩, ?_⟩
    refine tM_leak o1 (PostE.bind h1) fun y g2 s2 H2 u t2 k2 o2 ru h2 => ?_
    refine tM_leak o2 (PostE.bind h2) fun z g3 s3 H3 w t3 k3 o3 rw' h3 => ?_
    split at h3
    · rename_i kvs key e1 e2
      obtain ⟨a', vs, ea, hq, rk⟩ := asDic_ok o3 (RepRV.held (s := s2) (s' := s3) nn t3 k3 (RepRV.held (s := s1) (s' := s2) nn t2 k2 rv)) e1
      cases ea
      refine ⟨valV vs key, ?_, ?_⟩
      · rw [keyOf_ok ru e2]; exact .inl ⟨_, _, hq, rfl, rfl⟩
      · cases e3 : dval kvs key with
        | none =>
          rw [(rk.val key).2 e3]
          rw [e3] at h3
          exact kE_d h3 o3 rw'
        | some q =>
          obtain ⟨b, hb, rb⟩ := (rk.val key).1 q e3
          rw [hb]
          rw [e3] at h3
          exact kE_d h3 o3 rb
    · exact h3.elim
  · exact h1.elim
theorem ms_dput (hu : X.A.units + 64 < cLine) (hv : ME X W e me) (ho : ME X W o mo) (hk : ME X W k mk) (hs : swapsWith e (some (.Subscript o k pos')) pos.line X.env = pure false := by rfl) :
    MS X W (.Assign [.Subscript o k pos'] e pos) (mDPut me mo mk) := by
  refine ps_imp (ps_dput (hu1 hu) ho hk hv hs) fun D σ H h => ?_
  obtain ⟨g, s, ok, h⟩ := h
  refine tM_leak ok (k := fun d g1 s1 H1 => PostS X.K W g1 s1 H1 D ((mo s1).bind fun r s2 => match locOf r with
  | some l => (match cellOf s2 l with
    | some _ => (mLeak mk s2).bind fun y s3 => (match cellOf s3 l, keyOf y with
      | some (.dic kvs), some k => if kvs.length < sizeLine then .ok .nx (setCell s3 l (.dic (dput kvs k d))) else .stuck
      | _, _ => .stuck)
    | _ => .stuck)
  | none => .stuck)) (PostS.bind h) fun d g1 s1 H1 v t1 k1 o1 rv h1 => ?_
  refine ⟨g1, s1, o1, (PostS.bind h1).mono fun r g2 s2 H2 t2 k2 o2 h2 u ru => ?_⟩
  split at h2
  · rename_i l e1
    have hu := locOf_ok ru e1
    subst hu
    split at h2
    · rename_i w e2
      refine tM_leak o2 (PostS.bind h2) fun dk g3 s3 H3 y t3 k3 o3 ry h3 => ?_
      have el := loc_held o2 e2 t3 k3
      split at h3
      · rename_i kvs key e3 e4
        split at h3
        · rename_i hz
          obtain ⟨vs, hvs, rvs⟩ := (o3.cell l _ e3).2
          have rd := (rv.mono t2.le).mono t3.le
          obtain ⟨o4, t4⟩ := o3.change (o' := .dic (dput kvs key d)) (ho := .dK (putK vs key v)) e3 ⟨_, upd_same, rvs.put key rd⟩
          refine ⟨_, upd H3 (g3.adr l) (.dK (putK vs key v)), rfl, ?_, h3 _ _ _ t4 o4⟩
          rw [keyOf_ok ry e4, ← el]
          exact .k hvs (by rw [RepK.length rvs]; exact hz)
        · exact h3.elim
      · exact h3.elim
    · exact h2.elim
  · exact h2.elim
end
end MI
namespace MI
open PySem PySem.Spec PyProof.Rows L2
/-! ### sorting -/
theorem perm_sorted_eq {α : Type} {le : α → α → Prop} (anti : ∀ a b, le a b → le b a → a = b) : ∀ {l m : List α}, l.Perm m → l.Pairwise le → m.Pairwise le → l = m
  | [], m, p, _, _ => (List.nil_perm.mp p).symm
  | a :: l, [], p, _, _ => absurd p.length_eq (by simp)
  | a :: l, b :: m, p, hl, hm => by
    obtain ⟨h1, h2⟩ := List.pairwise_cons.mp hl
    obtain ⟨h3, h4⟩ := List.pairwise_cons.mp hm
    have e : a = b := by
      have m1 : a ∈ b :: m := p.mem_iff.mp List.mem_cons_self
      have m2 : b ∈ a :: l := p.mem_iff.mpr List.mem_cons_self
      rcases List.mem_cons.mp m1 with m1 | m1
      · exact m1
      · rcases List.mem_cons.mp m2 with m2 | m2
        · exact m2.symm
        · exact anti a b (h1 b m2) (h3 a m1)
    subst e
    rw [perm_sorted_eq anti (List.Perm.cons_inv p) h2 h4]
def leS (x y : Str) : Bool := !strLt y x
theorem leS_iff (x y : Str) : leS x y = true ↔ x.cps.toList ≤ y.cps.toList := by
  unfold leS strLt
  rw [Bool.not_eq_true', decide_eq_false_iff_not]
  exact List.not_lt
theorem str_eq {x y : Str} (h : x.cps.toList = y.cps.toList) : x = y := by
  obtain ⟨⟨a⟩⟩ := x
  obtain ⟨⟨b⟩⟩ := y
  simp only at h
  rw [h]
theorem leS_anti (x y : Str) (h : leS x y = true) (h2 : leS y x = true) : x = y := str_eq (List.le_antisymm ((leS_iff x y).mp h) ((leS_iff y x).mp h2))
theorem leS_trans (x y z : Str) (h : leS x y = true) (h2 : leS y z = true) : leS x z = true := (leS_iff x z).mpr (List.le_trans ((leS_iff x y).mp h) ((leS_iff y z).mp h2))
theorem leS_total (x y : Str) : (leS x y || leS y x) = true := by
  rw [Bool.or_eq_true, leS_iff, leS_iff]
  exact List.le_total _ _
def sortS (l : List Str) : List Str := l.mergeSort leS
theorem sortS_perm (l : List Str) : (sortS l).Perm l := List.mergeSort_perm l leS
theorem sortS_sorted (l : List Str) : (sortS l).Pairwise fun x y => leS x y = true := List.pairwise_mergeSort leS_trans leS_total l
theorem sortedS_pw : ∀ {l : List Str}, sortedS l = true → l.Pairwise fun x y => leS x y = true := by
  have key : ∀ (l : List Str) (p : Str), risingS p l = true → (∀ y ∈ l, leS p y = true) ∧ l.Pairwise fun x y => leS x y = true := by
    intro l
    induction l with
    | nil => intro p _; exact ⟨fun _ h => (nomatch h), List.Pairwise.nil⟩
    | cons x r ih =>
      intro p h
      unfold risingS at h
      obtain ⟨h1, h2⟩ := Bool.and_eq_true_iff.mp h
      obtain ⟨h3, h4⟩ := ih x h2
      have hp : leS p x = true := by unfold leS strLt; rw [ltCps_eq] at h1; exact h1
      refine ⟨fun y m => ?_, List.pairwise_cons.mpr ⟨h3, h4⟩⟩
      rcases List.mem_cons.mp m with rfl | m
      · exact hp
      · exact leS_trans p x y hp (h3 y m)
  intro l h
  cases l with
  | nil => exact List.Pairwise.nil
  | cons x r => obtain ⟨h3, h4⟩ := key r x h; exact List.pairwise_cons.mpr ⟨h3, h4⟩
theorem sortS_uniq {l m : List Str} (p : m.Perm l) (h : sortedS m = true) : m = sortS l :=
  perm_sorted_eq (le := fun x y => leS x y = true) leS_anti (p.trans (sortS_perm l).symm) (sortedS_pw h) (sortS_sorted l)
def sortI (l : List Int) : List Int := l.mergeSort fun i j => decide (i ≤ j)
theorem sortI_perm (l : List Int) : (sortI l).Perm l := List.mergeSort_perm l _
theorem sortI_sorted (l : List Int) : (sortI l).Pairwise fun x y => x ≤ y := by
  have := List.pairwise_mergeSort (le := fun i j : Int => decide (i ≤ j)) (fun a b c h1 h2 => by simp at *; omega) (fun a b => by simp; omega) l
  exact this.imp fun h => by simpa using h
theorem sortI_uniq {l m : List Int} (p : m.Perm l) (h : m.Pairwise fun x y => x ≤ y) : m = sortI l :=
  perm_sorted_eq (le := fun x y : Int => x ≤ y) (fun a b h1 h2 => by omega) (p.trans (sortI_perm l).symm) h (sortI_sorted l)
def keysS : List (Key × D) → Option (List Str)
  | [] => some []
  | (.inr x, _) :: r => (keysS r).map (x :: ·)
  | _ :: _ => none
theorem keysS_ok : ∀ {kvs : List (Key × D)} {ks : List Str}, keysS kvs = some ks → kvs.map (·.1) = ks.map Sum.inr
  | [], ks, e => by cases e; rfl
  | (.inr x, d) :: r, ks, e => by
    simp only [keysS] at e
    obtain ⟨k', e1, rfl⟩ := Option.map_eq_some_iff.mp e
    rw [List.map_cons, List.map_cons, keysS_ok e1]
  | (.inl x, d) :: r, ks, e => by cases e
def fSorted : S → RV → Res RV := fun s r => match asD s r with
  | some (.dic kvs) => (match keysS kvs with
    | some ks => if ks.length < 64 then .ok (.new (.lst ((sortS ks).map .str))) s else .stuck
    | none => .stuck)
  | some (.lst xs) => (match strsOf xs with
    | some ks => if ks.length < 64 then .ok (.new (.lst ((sortS ks).map .str))) s else .stuck
    | none => (match intsOf xs with
      | some is => .ok (.new (.lst ((sortI is).map .int))) s
      | none => .stuck))
  | _ => .stuck
theorem intsOf_ok {K : PySem.W.Frag} {g : G} : ∀ {vs : List V} {ds : List D} {bs : List Int}, RepL K g vs ds → intsOf ds = some bs → vs = bs.map V.int
  | _, _, _, .nil, e => by cases e; rfl
  | _, _, bs, .cons (d := d) a b, e => by
    cases d with
    | int k =>
      cases a
      simp only [intsOf] at e
      obtain ⟨cs, e1, rfl⟩ := Option.map_eq_some_iff.mp e
      rw [intsOf_ok b e1]; rfl
    | _ => cases e
theorem repL_strs {K : PySem.W.Frag} {g : G} : ∀ ks : List Str, RepL K g (ks.map V.str) (ks.map D.str)
  | [] => .nil
  | k :: ks => .cons (.str k) (repL_strs ks)
theorem repL_ints {K : PySem.W.Frag} {g : G} : ∀ ks : List Int, RepL K g (ks.map V.int) (ks.map D.int)
  | [] => .nil
  | k :: ks => .cons (.int k) (repL_ints ks)
section
variable {X : Cx} {W : WX} {a : Expr} {ma : M} {pos p : Pos}
theorem cr_sortedA (hc : X.calm = true) : CallR X (.builtin "sorted") (fun xs H Q => rSortedS X.K xs H Q ∨ rSortedI X.K xs H Q ∨ (∃ (a : Addr) (kvs : List (Key × V)) (ks : List Str), xs = [.ref a] ∧ Rd H a (.dK kvs) ∧ kvs.map (·.1) = ks.map Sum.inr ∧ ks.length < 64 ∧
    ∀ ys p, ys.Perm ks → sortedS ys = true → H p = none → Q (.ref p) (upd H p (.lst (ys.map V.str))))) := by
  intro pins s σ H xs us Q I r h
  rcases h with h | h | h
  · exact cr_sortedS pins s σ H xs us Q I r h
  · exact cr_sortedI pins s σ H xs us Q I r h
  · exact call_sortedD hc pins s σ H xs us Q I r h
theorem me_sorted (hc : X.calm = true) (ha : ME X W a ma) (hg : Gl X "sorted") (hm : X.mg "sorted" = none) (hs : starEach [a] X.env = (false, eval a X.env) :: starEach [] X.env := by rfl) : ME X W (.Call (.Name "sorted" p) [a] [] pos) (mFn1 fSorted ma) := by
  refine pe_imp (pe_callB (cr_sortedA hc) hg hm (by decide +kernel) (pa_cons ha pa_nil hs) (he := hs)) fun σ H Q ⟨g, s, ok, h⟩ => ma_one (fun σ g s H Q v rv ok rr h => ?_) ok h
  unfold fSorted at h
  split at h
  · rename_i kvs e
    obtain ⟨g1, l, sb, rp⟩ := asD_ok ok (GLe.refl g) ok.sub rr e
    cases rp with
    | @dic b vs _ h1 r1 =>
      split at h
      · rename_i ks e2
        split at h
        · rename_i h64
          refine .inr (.inr ⟨b, vs, ks, rfl, (sb.dic h1), r1.keys.trans (keysS_ok e2), h64, fun ys p hp hy hn => ?_⟩)
          have := sortS_uniq hp hy
          subst this
          exact kE_new h ok hn ⟨_, upd_same, repL_strs _⟩
        · exact h.elim
      · exact h.elim
  · rename_i xs e
    obtain ⟨g1, l, sb, rp⟩ := asD_ok ok (GLe.refl g) ok.sub rr e
    cases rp with
    | @lst b vs _ h1 r1 =>
      split at h
      · rename_i ks e2
        split at h
        · rename_i h64
          have ev := strsOf_ok r1 e2
          subst ev
          refine .inl ⟨b, ks, rfl, .of (sb.lst h1), h64, fun ys p hp hy hn => ?_⟩
          have := sortS_uniq hp hy
          subst this
          exact kE_new h ok hn ⟨_, upd_same, repL_strs _⟩
        · exact h.elim
      · split at h
        · rename_i is e2
          have ev := intsOf_ok r1 e2
          subst ev
          refine .inr (.inl ⟨b, is, rfl, .of (sb.lst h1), fun ys p hp hy hn => ?_⟩)
          have := sortI_uniq hp hy
          subst this
          exact kE_new h ok hn ⟨_, upd_same, repL_ints _⟩
        · exact h.elim
  · exact h.elim
end
end MI
/-! # Sets of ints and texts made of a list, sorted and counted -/
namespace MI
open PySem PySem.Spec PyProof.Rows L2
/-- the key of an entry -/
def kyE (e : Int × Value) : Key := match e.2 with
  | .int i _ => .inl i
  | .str x _ => .inr x
  | _ => .inl 0
def GdK (w : World) (e : Int × Value) : Prop := ∃ k, keyIs k e.2 = true ∧ e.1 = keyH w k
/-- a key put to keys -/
def insK (l : List Key) (k : Key) : List Key := if (l.any fun j => decide (j = k)) = true then l else k :: l
theorem insK_in {l : List Key} {k : Key} (h : k ∈ l) : insK l k = l := if_pos (List.any_eq_true.mpr ⟨k, h, decide_eq_true rfl⟩)
theorem insK_out {l : List Key} {k : Key} (h : k ∉ l) : insK l k = k :: l := if_neg fun z => by
  obtain ⟨j, hj, e⟩ := List.any_eq_true.mp z
  rw [of_decide_eq_true e] at hj
  exact h hj
/-- the set of the keys l at a, each once; its table rises and can be walked -/
def KSet (w : World) (h : Heap) (a : Addr) (l : List Key) : Prop :=
  ∃ o es ep t, h.get? a = some o ∧ o.ExactSet ∧ o.data = .set es ep t ∧ (∀ e ∈ es.toList, GdK w e) ∧ (es.toList.map kyE).Perm l ∧ l.Nodup ∧
    es.size < scanBound ∧ t.fits es.size = true ∧ Ris t.place.toList ∧ (w.params.followText "set-order" = true ∨ t.led = true)
theorem kyE_is {w : World} {e : Int × Value} (g : GdK w e) (k : Key) : keyIs k e.2 = true ↔ kyE e = k := by
  obtain ⟨k0, h, _⟩ := g
  unfold kyE
  rcases keyIs_shape h with ⟨i, t, rfl, hv⟩ | ⟨x, t, rfl, hv⟩
  · rw [hv]
    constructor
    · intro q
      rcases keyIs_shape q with ⟨j, u, rfl, e⟩ | ⟨y, u, rfl, e⟩
      · injection e with e1 _; rw [e1]
      · exact nomatch e
    · rintro rfl
      exact keyIs_int _ _
  · rw [hv]
    constructor
    · intro q
      rcases keyIs_shape q with ⟨j, u, rfl, e⟩ | ⟨y, u, rfl, e⟩
      · exact nomatch e
      · injection e with e1 _; rw [e1]
    · rintro rfl
      exact keyIs_str _ _
section
variable {P : Program} {w : World} {A : Around} {E : Value → Shared → Prop} {s : Shared} {a : Addr} {l : List Key}
theorem gdK_elems {es : List (Int × Value)} (g : ∀ e ∈ es, GdK w e) : ElemsOf (mixKind P w) es := fun e he => by
  obtain ⟨k, h1, h2⟩ := g e he
  refine ⟨⟨k, h1, h2⟩, ?_⟩
  rcases keyIs_shape h1 with ⟨i, t, _, hv⟩ | ⟨x, t, _, hv⟩ <;> rw [hv] <;> rfl
theorem KSet.at {h h' : Heap} (R : KSet w h a l) (k : ∀ o, h.get? a = some o → h'.get? a = some o) : KSet w h' a l := by
  obtain ⟨o, es, ep, t, ho, r⟩ := R
  exact ⟨o, es, ep, t, k o ho, r⟩
theorem ks_tail {g : Bool → Sem Unit} (hg : ∀ (b : Bool) (s₁ : Shared) (Q' : Unit → Shared → Prop), Q' () s₁ → wpAny (model P w) A (g b) Q' E s₁)
    {o : Obj} {es : Array (Int × Value)} {ep : Nat} {t : SetTable} (ho : s.heap.get? a = some o) (hex : o.ExactSet) (hd : o.data = .set es ep t)
    {es1 : Array (Int × Value)} {t2 : SetTable} {l' : List Key} (g1 : ∀ e ∈ es1.toList, GdK w e) (p1 : (es1.toList.map kyE).Perm l') (n1 : l'.Nodup)
    (hb1 : es1.size < scanBound) (hf2 : t2.fits es1.size = true) (hr : Ris t2.place.toList) (hl : w.params.followText "set-order" = true ∨ t2.led = true) {wasDummy : Bool} {R : Option Bool → Shared → Prop}
    (hR : ∀ h', Heap.SameBut a s.heap h' → KSet w h' a l' → R (some true) { s with heap := h' }) :
    wpAny (model P w) A (do
        storeSet a es1 t2
        if (!wasDummy && t2.tooFull) = true then do
            g (relayAll t2 es1 (SetTable.grown es1.size)).2.2
            storeSet a (relayAll t2 es1 (SetTable.grown es1.size)).1 (relayAll t2 es1 (SetTable.grown es1.size)).2.1
            pure (some true)
          else pure (some true)) R E s := by
  refine wpAny_bind (wpAny_storeSet_of ho hd ?_ (fits_of_scanBound hb1))
  have ho1 := store_at (es' := es1) (t' := t2) ho hd
  have sb1 := Heap.SameBut.update s.heap a (Obj.putSet es1 t2)
  split
  · have pm := relayAll_perm t2 es1 (SetTable.grown es1.size)
    have hf3 := relayAll_fits t2 es1 (SetTable.grown es1.size)
    have hr3 := relayAll_ris t2 es1 (SetTable.grown es1.size)
    have hl3 := relayAll_led t2 es1 (SetTable.grown es1.size)
    generalize relayAll t2 es1 (SetTable.grown es1.size) = Z at pm hf3 hr3 hl3 ⊢
    obtain ⟨es2, t3, gave⟩ := Z
    dsimp only at pm hf3 hr3 hl3 ⊢
    have hsz : es2.size = es1.size := by rw [← Array.length_toList, pm.length_eq, Array.length_toList]
    have hb2 : es2.size < scanBound := by rw [hsz]; exact hb1
    refine wpAny_bind (hg _ _ _ ?_)
    refine wpAny_bind (wpAny_storeSet_of ho1 rfl ?_ (fits_of_scanBound hb2))
    have ho2 := store_at (es' := es2) (t' := t3) ho1 rfl
    refine wpAny_pure (hR _ (sb1.trans (Heap.SameBut.update _ a _)) ?_)
    exact ⟨_, es2, _, t3, ho2, hex, rfl, fun e he => g1 e (pm.mem_iff.mp he), (pm.map kyE).trans p1, n1, hb2, hf3, hr3, hl.imp id fun z => by rw [hl3]; exact z⟩
  · exact wpAny_pure (hR _ sb1 ⟨_, es1, _, t2, ho1, hex, rfl, g1, p1, n1, hb1, hf2, hr, hl⟩)
theorem ks_add {k : Key} {u : Value} {Q : Bool → Shared → Prop} (hu : keyIs k u = true) (R : KSet w s.heap a l) (room : l.length + 1 < scanBound)
    (hQ : ∀ h' b, Heap.SameBut a s.heap h' → KSet w h' a (insK l k) → Q b { s with heap := h' }) :
    wpAny (model P w) A (setAddHashed a u ((mixKind P w).hash k)) Q E s := by
  obtain ⟨o, es, ep, t, ho, hex, hd, g, pl, nl, hb, hf, hr, hl⟩ := R
  have hkey : (mixKind P w).is k u = true := hu
  have hsc : u.scannable = true := by
    rcases keyIs_shape hu with ⟨i, t, _, hv⟩ | ⟨x, t, _, hv⟩ <;> rw [hv] <;> rfl
  have hel : ElemsOf (mixKind P w) es.toList := gdK_elems g
  unfold setAddHashed setAddHashedIn
  refine wpAny_holding (wpAny_bind (wpAny_setState_of ho hd hf ?_))
  dsimp only
  rw [byScan_of hsc hb hel]
  simp only [↓reduceIte]
  unfold setAddByScan
  refine wpAny_bind ?_
  refine wpAny_bind (wpAny_rule ?_)
  refine wpAny_bind (wpAny_setScan_of hkey ho hd hf hel ?_)
  cases hfi : List.findIdx? (fun e => (mixKind P w).is k e.2) es.toList with
  | some j =>
    dsimp only
    obtain ⟨hj, pj, _⟩ := List.findIdx?_eq_some_iff_getElem.mp hfi
    have hk : k ∈ l := by
      refine pl.mem_iff.mp (List.mem_map.mpr ⟨es.toList[j], List.getElem_mem hj, ?_⟩)
      exact (kyE_is (g _ (List.getElem_mem hj)) k).mp pj
    refine wpAny_pure (wpAny_pure ?_)
    have q := hQ s.heap false (Heap.SameBut.refl a s.heap) (by rw [insK_in hk]; exact ⟨o, es, ep, t, ho, hex, hd, g, pl, nl, hb, hf, hr, hl⟩)
    exact q
  | none =>
    dsimp only
    have hk : k ∉ l := fun z => by
      obtain ⟨e, he, q⟩ := List.mem_map.mp (pl.mem_iff.mpr z)
      have c := List.findIdx?_eq_none_iff.mp hfi e he
      have c' := (kyE_is (g e he) k).mpr q
      have c2 : keyIs k e.2 = false := c
      rw [c'] at c2
      cases c2
    have hgw : ∀ (b : Bool) {s₁ : Shared} {Q' : Unit → Shared → Prop}, Q' () s₁ → wpAny (model P w) A (match b with | true => rule "set.scan.the-table-gave-way" | false => pure ()) Q' E s₁ :=
      fun b s₁ Q' q => by cases b <;> first | exact wpAny_pure q | exact wpAny_rule q
    have pm := layNew_perm t es ((mixKind P w).hash k) u
    have hf1 := layNew_fits t es ((mixKind P w).hash k) u
    have hr1 := layNew_ris t es ((mixKind P w).hash k) u hr
    have hl1 := layNew_led t es ((mixKind P w).hash k) u
    generalize layNew t es ((mixKind P w).hash k) u = Z at pm hf1 hr1 hl1 ⊢
    obtain ⟨es1, t1, wasDummy, gave⟩ := Z
    dsimp only at pm hf1 hr1 hl1 ⊢
    rw [Array.toList_push] at pm
    have pc : es1.toList.Perm (((mixKind P w).hash k, u) :: es.toList) := pm.trans (List.perm_append_singleton _ _)
    have g0 : GdK w ((mixKind P w).hash k, u) := ⟨k, hu, rfl⟩
    have k0 : kyE ((mixKind P w).hash k, u) = k := (kyE_is g0 k).mp hu
    have pk : (es1.toList.map kyE).Perm (k :: l) := by
      have := pc.map kyE
      rw [List.map_cons, k0] at this
      exact this.trans (List.Perm.cons k pl)
    have g1 : ∀ e ∈ es1.toList, GdK w e := fun e he => by
      rcases List.mem_cons.mp (pc.mem_iff.mp he) with z | z
      · rw [z]; exact g0
      · exact g e z
    have hz : es.size = l.length := by rw [← Array.length_toList, ← pl.length_eq, List.length_map]
    have hsz : es1.size = l.length + 1 := by rw [← Array.length_toList, pc.length_eq, List.length_cons, Array.length_toList, hz]
    have hb1 : es1.size < scanBound := by rw [hsz]; exact room
    have hled : w.params.followText "set-order" = true ∨ t1.led = true := hl.imp id fun z => by rw [hl1]; exact z
    have fin : ∀ h', Heap.SameBut a s.heap h' → KSet w h' a (k :: l) → Q true { s with heap := h' } := fun h' sb r => hQ h' true sb (by rw [insK_out hk]; exact r)
    have nk : (k :: l).Nodup := List.nodup_cons.mpr ⟨hk, nl⟩
    refine wpAny_bind (hgw _ ?_)
    split
    · refine wpAny_bind ?_
      rw [hashByValue_scannable 8 hsc]
      refine wpAny_pure ?_
      refine ks_tail ?_ ho hex hd g1 pk nk hb1 ?_ ?_ ?_ ?_
      · intro b s₁ Q' q; cases b <;> first | exact wpAny_pure q | exact wpAny_rule q
      · first | (split <;> first | exact hf1 | exact SetTable.fits_plain_off hf1) | exact hf1
      · first | (split <;> exact hr1) | exact hr1
      · first | (split <;> exact hled) | exact hled
      · intro h' sb r; dsimp only; exact wpAny_pure (fin h' sb r)
    · refine wpAny_bind (wpAny_pure ?_)
      simp only [↓reduceIte]
      refine ks_tail ?_ ho hex hd g1 pk nk hb1 hf1 hr1 hled ?_
      · intro b s₁ Q' q; cases b <;> first | exact wpAny_pure q | exact wpAny_rule q
      · intro h' sb r; dsimp only; exact wpAny_pure (fin h' sb r)
/-- keys put one behind the other -/
def uniK (ks : List Key) : List Key := ks.foldl insK []
theorem insK_len (l : List Key) (k : Key) : (insK l k).length ≤ l.length + 1 := by
  unfold insK
  split <;> simp
theorem uniK_snoc (ks : List Key) (k : Key) : uniK (ks ++ [k]) = insK (uniK ks) k := by
  unfold uniK
  rw [List.foldl_append]
  rfl
theorem uniK_take_len (ks : List Key) : ∀ i, (uniK (ks.take i)).length ≤ i
  | 0 => by simp [uniK]
  | i + 1 => by
    cases h : ks[i]? with
    | none =>
      rw [List.take_add_one, h]
      have := uniK_take_len ks i
      simp
      omega
    | some k =>
      rw [List.take_add_one, h]
      show (uniK (ks.take i ++ [k])).length ≤ _
      rw [uniK_snoc]
      have h1 := insK_len (uniK (ks.take i)) k
      have h2 := uniK_take_len ks i
      omega
theorem kset_fresh {h : Heap} (ho : h.get? a = some { cls := .type "set", dict := none, data := .set #[] 0 (.fresh 0 0 (!w.params.followText "set-order")) }) : KSet w h a [] :=
  ⟨_, #[], 0, _, ho, ⟨rfl, rfl, rfl⟩, rfl, (fun e he => by simp at he), by simp, List.nodup_nil, (by decide), (by rfl), List.Pairwise.nil, by
    show _ ∨ (!w.params.followText "set-order") = true
    cases w.params.followText "set-order"
    · exact .inr rfl
    · exact .inl rfl⟩
theorem set_update_keys {I : Addr} {fp wr : List Addr} {G : Array GenState → Array GenState → Prop} {n : Nat} {Pv : Nat → Value → Prop} {St : Nat → Shared → Prop} {R : Result → Shared → Prop}
    (W : WalksS P w A.in1 I fp wr G n Pv St) (S : Addr) (hSf : S ∉ fp) (ks : List Key) (hn : n = ks.length) (hb : ks.length + 1 < scanBound) (hval : ∀ i v, Pv i v → ∃ k, ks[i]? = some k ∧ keyIs k v = true) :
    ∀ (k i : Nat) (s : Shared), n - i = k → i ≤ n → St i s → KSet w s.heap S (uniK (ks.take i)) →
      (∀ s', Moved (S :: wr) G s s' → KSet w s'.heap S (uniK ks) → R (.ok (.ret .none)) s') →
      codeAny (model P w) A (.builtin "set.update.loop" ⟨[.ref S, .ref I], []⟩) R s := by
  have hSw : S ∉ wr := fun h => hSf (W.sub _ h)
  have hsub : ∀ b ∈ wr, b ∈ S :: wr := fun b hb => List.mem_cons_of_mem _ hb
  intro k
  induction k with
  | zero =>
    intro i s hk' hi hst hS hR
    have hin : i = n := by omega
    subst hin
    refine codeAny_builtin F.entry_set_update_loop ?_
    rw [Around.under_plainId F.plain_set_update_loop _]
    show wpAny _ A.in1 (pyNext (.ref I) >>= _) _ _ s
    refine wpAny_bind (W.done s _ _ hst fun s' hm => ?_)
    show wpAny _ A.in1 (ret Value.none) _ _ s'
    have e : ks.take i = ks := List.take_of_length_le (by omega)
    rw [e] at hS
    exact wpAny_pure (hR s' (hm.mono hsub) (hS.at fun o e => hm.heap S o hSw e))
  | succ k ih =>
    intro i s hk' hi hst hS hR
    have hlt : i < n := by omega
    refine codeAny_builtin F.entry_set_update_loop ?_
    rw [Around.under_plainId F.plain_set_update_loop _]
    show wpAny _ A.in1 (pyNext (.ref I) >>= _) _ _ s
    refine wpAny_bind (W.item i s _ _ hlt hst fun v s' hP hst' hm => ?_)
    obtain ⟨z, hz, hv⟩ := hval i v hP
    have hS' : KSet w s'.heap S (uniK (ks.take i)) := hS.at fun o e => hm.heap S o hSw e
    have ul := uniK_take_len ks i
    show wpAny _ A.in1 (holding [v] (setAdd S v) >>= _) _ _ s'
    refine wpAny_bind (wpAny_holding ?_)
    unfold setAdd
    refine wpAny_holding ?_
    refine wpAny_bind ((mixKind P w).pyHash (k := z) hv ?_)
    refine ks_add (s := { s' with toks := s'.toks + 1 }) hv hS' (by omega) fun h' b hsb hS2 => ?_
    have hS3 : KSet w h' S (uniK (ks.take (i + 1))) := by
      rw [List.take_add_one, hz]
      show KSet w h' S (uniK (ks.take i ++ [z]))
      rw [uniK_snoc]
      exact hS2
    refine wpAny_pure ⟨plainId_quiet F.plain_set_update_loop _, ih (i + 1) _ (by omega) hlt (W.frame _ s' _ _ hst' (Nat.le_succ _) fun b hb o e => ?_) hS3 fun s'' hm'' hS'' => ?_⟩
    · rw [hsb.2 b (fun h : b = S => hSf (by rw [← h]; exact hb))]; exact e
    · refine hR s'' (Moved.trans W.gtrans ((hm.mono hsub).then_heap (Nat.le_succ _) fun b o hb e => ?_) hm'') hS''
      rw [hsb.2 b (fun h : b = S => hb (by rw [h]; exact List.mem_cons_self))]; exact e
/-- set(xs) -/
theorem call_set_keys {l : Addr} {items : Array Value} (ks : List Key) {Q : Value → Shared → Prop} (hh : A.handled = none) (hl : s.heap.IsList l items) (hit : ∀ (i : Nat) (v : Value), items[i]? = some v → ∃ k, ks[i]? = some k ∧ keyIs k v = true) (hsz : items.size = ks.length)
    (hb : ks.length + 1 < scanBound)
    (h : ∀ (h' : Heap) (tk : Nat), KSet w h' s.heap.objs.size (uniK ks) → (∀ b o, s.heap.get? b = some o → h'.get? b = some o) → Q (.ref s.heap.objs.size) { s with heap := h', toks := tk }) :
    wpAny (model P w) A (call (.type "set") [.ref l]) Q E s := by
  obtain ⟨c, tl, hmro⟩ := F.called_set.mro
  have hmade := F.called_set.made
  have hsub := F.called_set.sub
  refine wpAny_call (codeAny_of_tree ?_)
  show wpAny _ _ (callAny (.type "set") _) _ _ _
  refine wpAny_pure ⟨Code.quiet_builtin _ (by decide +kernel), codeAny_builtin F.entry_type_call ?_⟩
  rw [Around.under_plain (weight_type_call_type "set" [.ref l] []) rfl]
  have h1 := F.called_set.notType
  have h2 := F.called_set.canCreate
  have hct := F.typeCall_set_1 (.ref l)
  repeat (any_goals (first | assumption | wp_step))

  refine codeAny_mono (code_set_led1 (.ref l) (E := E) (Q₁ := fun obj s₁ => obj = .ref s.heap.objs.size ∧ s₁ = { s with heap := s.heap.push { cls := .type "set", dict := none, data := .set #[] 0 (.fresh 0 0 (!w.params.followText "set-order")) } }) ⟨rfl, rfl⟩) fun r s₁ hr => ?_
  cases r with
  | error e => exact hr
  | ok fl =>
    cases fl with
    | ret obj =>
      obtain ⟨rfl, rfl⟩ := hr
      have hS : (s.heap.push { cls := .type "set", dict := none, data := .set #[] 0 (.fresh 0 0 (!w.params.followText "set-order")) }).get? s.heap.objs.size = some { cls := .type "set", dict := none, data := .set #[] 0 (.fresh 0 0 (!w.params.followText "set-order")) } := Heap.get?_push_size _ rfl
      have hT : Shared.TypeIs { s with heap := s.heap.push { cls := .type "set", dict := none, data := .set #[] 0 (.fresh 0 0 (!w.params.followText "set-order")) } } (.ref s.heap.objs.size) "set" := ⟨_, hS, rfl⟩
      have hli := F.called_set.init.lookup
      have hbi := F.called_set.init.bind (.ref s.heap.objs.size)
      repeat (any_goals (first | assumption | wp_step))

      refine codeAny_mono (codeAny_call_builtin (R := wants (fun r s₂ => r = .none ∧ ∃ h' tk, s₂ = { s with heap := h', toks := tk } ∧ KSet w h' s.heap.objs.size (uniK ks) ∧
          (∀ b o, s.heap.get? b = some o → h'.get? b = some o)) E) F.called_set.init.plain F.entry_set_init (check_set_init_1 hT ?_)) fun r₂ s₂ hr₂ => ?_
      · obtain ⟨ol, hol, hcl, nl, hdl⟩ := hl
        obtain ⟨ocls, odict, odata, oslots⟩ := ol
        simp only at hcl hdl
        subst hcl; subst hdl
        have hol' : (s.heap.push { cls := .type "set", dict := none, data := .set #[] 0 (.fresh 0 0 (!w.params.followText "set-order")) }).get? l = some { cls := .type "list", dict := odict, data := .seq items nl, slots := oslots } := Heap.get?_push_of_some _ hol
        have hsls := F.sub_list_set
        have hslf := F.sub_list_frozenset
        have hne : (Value.type "list" == Value.type "dict") = false := by decide
        have hl1 : (s.heap.push { cls := .type "set", dict := none, data := .set #[] 0 (.fresh 0 0 (!w.params.followText "set-order")) }).IsList l items := ⟨_, hol', rfl, nl, rfl⟩
        unfold Builtin.«set.__init__» noKeywords Builtin.Frozenset.updateFrom
        generalize hPI : pyIter = PI
        wp_walk
        subst hPI

        refine wpAny_pyIter_list hl1 ?_
        refine wpAny_bind (wpAny_runValue ?_)
        have hlS : l < s.heap.objs.size := Heap.lt_size hol
        have hh3 : A.in1.in1.in1.handled = none := by simp [hh]
        have hneI : l ≠ (s.heap.push { cls := .type "set", dict := none, data := .set #[] 0 (.fresh 0 0 (!w.params.followText "set-order")) }).objs.size := by
          rw [Heap.size_push]; exact Nat.ne_of_lt (Nat.lt_succ_of_lt hlS)
        have hSf : s.heap.objs.size ∉ [(s.heap.push { cls := .type "set", dict := none, data := .set #[] 0 (.fresh 0 0 (!w.params.followText "set-order")) }).objs.size, l] := by
          rw [Heap.size_push]; simp only [List.mem_cons, List.mem_singleton, List.not_mem_nil, or_false, not_or]
          exact ⟨Nat.ne_of_lt (Nat.lt_succ_self _), Nat.ne_of_gt hlS⟩
        refine set_update_keys ((Walks.list hh3 _ l hneI items).toS) s.heap.objs.size
          hSf ks hsz hb hit (items.size - 0) 0 _ (by omega) (Nat.zero_le _)
          ⟨⟨_, Heap.get?_push_size _ rfl, rfl, rfl⟩, (hl1.push _)⟩ ?hS0 ?hR
        case hS0 =>
          have hget : ((s.heap.push { cls := .type "set", dict := none, data := .set #[] 0 (.fresh 0 0 (!w.params.followText "set-order")) }).push { cls := .type "list_iterator", data := .fields #[.ref l, .int 0 0] }).get? s.heap.objs.size
              = some { cls := .type "set", dict := none, data := .set #[] 0 (.fresh 0 0 (!w.params.followText "set-order")) } := Heap.get?_push_of_some _ hS
          exact kset_fresh hget
        case hR =>
          intro s' hm hS'
          obtain ⟨h', g', d', tk', os'⟩ := s'
          have eg : g' = s.gens := hm.gens
          have ed : d' = s.drawn := hm.drawn
          have eo : os' = s.os := hm.os
          subst eg; subst ed; subst eo
          show wpAny _ _ _ _ _ _
          refine wpAny_pure ?_
          show wpAny _ _ (ret Value.none) _ _ _
          refine wpAny_pure ⟨rfl, h', tk', rfl, hS', fun b o e => ?_⟩
          have hb' : b < s.heap.objs.size := Heap.lt_size e
          have hb1 : b ≠ s.heap.objs.size := Nat.ne_of_lt hb'
          have hb2 : b ≠ (s.heap.push { cls := .type "set", dict := none, data := .set #[] 0 (.fresh 0 0 (!w.params.followText "set-order")) }).objs.size := by
            rw [Heap.size_push]; exact Nat.ne_of_lt (Nat.lt_succ_of_lt hb')
          exact hm.heap b o (by simp only [List.mem_cons, List.mem_singleton, List.not_mem_nil, or_false, not_or]; exact ⟨hb1, hb2⟩) (Heap.get?_push_of_some _ (Heap.get?_push_of_some _ e))

      · cases r₂ with
        | error e => exact hr₂
        | ok fl₂ =>
          cases fl₂ with
          | ret r =>
            obtain ⟨rfl, h', tk, rfl, hS', hk'⟩ := hr₂
            repeat (any_goals (first | assumption | wp_step))
            exact h _ _ hS' hk'
          | _ => exact hr₂.elim
    | _ => exact hr.elim
end
end MI
/-! # sorted(set(xs)), len(set(xs)) -/
namespace MI
open PySem PySem.Spec PyProof.Rows L2
def kStr : Key → Str
  | .inr x => x
  | .inl _ => Str.empty
def kInt : Key → Int
  | .inl i => i
  | .inr _ => 0
section
variable {P : Program} {w : World} {A : Around} {E : Value → Shared → Prop} {s : Shared} {a : Addr} {l : List Key}
theorem ints_all : ∀ (vs : List Value), (∀ v ∈ vs, ∃ k tk, v = Value.int k tk) → IntsAre vs (vs.map fun v => match v with | .int k _ => k | _ => 0)
  | [], _ => .nil
  | v :: vs, h => by
    obtain ⟨k, tk, rfl⟩ := h v List.mem_cons_self
    exact .cons k tk (ints_all vs fun u hu => h u (List.mem_cons_of_mem _ hu))
theorem sorted_ksetS {ss : List Str} {Q : Value → Shared → Prop} (R : KSet w s.heap a (ss.map Sum.inr)) (hh : A.handled = none)
    (hQ : ∀ s' p (out : Array Value) (c : Nat) (ys : List Str), (∀ b o, s.heap.get? b = some o → s'.heap.get? b = some o) → s'.gens = s.gens → s'.os = s.os → s.heap.objs.size ≤ p →
      s'.heap.get? p = some (seqObj "list" out c) → StrsAre out.toList ys → ys.Perm ss → sortedS ys = true → Q (.ref p) s') :
    wpAny (model P w) A (call (.builtin "sorted") [.ref a]) Q E s := by
  obtain ⟨o, es, ep, t, ho, hex, hd, g, pl, nl, hb, hf, hr, hl⟩ := R
  refine Calls.call_function_entry kind_sorted plain_sorted entry_sorted (args_sorted1 _) ?_
  unfold Builtin.«sorted»
  refine wpAny_bind (m := checkCount "sorted" 1 1 _) (wpAny_pure ?_)
  refine wpAny_bind (collect_set (A := A.in1) hh ⟨o, ho, hex.1, hd⟩ hf hb hr hl fun s1 vs k1 hz g1 o1 pm => ?_)
  have hvl : vs.length < scanBound := by rw [pm.length_eq, List.length_map, Array.length_toList]; exact hb
  have hvl2 : vs.length ≤ sizeLine := fits_of_scanBound hvl
  have ek : ∀ e ∈ es.toList, ∃ x tk, e.2 = Value.str x tk := fun e he => by
    obtain ⟨k, h1, h2⟩ := g e he
    have hm := pl.mem_iff.mp (List.mem_map.mpr ⟨e, he, (kyE_is (g e he) k).mp h1⟩)
    obtain ⟨x, _, rfl⟩ := List.mem_map.mp hm
    rcases keyIs_shape h1 with ⟨i, tk, q, hv⟩ | ⟨y, tk, q, hv⟩
    · exact nomatch q
    · exact ⟨y, tk, hv⟩
  have hS : StrsAre vs (vs.map strOf) := strsAre_map vs fun v hv => by
    obtain ⟨e, he, q⟩ := List.mem_map.mp (pm.mem_iff.mp hv)
    obtain ⟨x, tk, h⟩ := ek e he
    exact ⟨x, tk, by rw [← q, h]⟩
  have pk : (vs.map strOf).Perm ss := by
    have q1 := pm.map strOf
    have q2 := pl.map kStr
    rw [List.map_map] at q1 q2
    rw [List.map_map] at q2
    have e1 : es.toList.map (strOf ∘ fun e => e.2) = es.toList.map (kStr ∘ kyE) := List.map_congr_left fun e he => by
      obtain ⟨x, tk, h⟩ := ek e he
      show strOf e.2 = kStr (kyE e)
      unfold kyE
      rw [h]
      rfl
    have e2 : ss.map (kStr ∘ Sum.inr) = ss := by
      have : (kStr ∘ Sum.inr : Str → Str) = id := rfl
      rw [this, List.map_id]
    rw [e2] at q2
    exact (q1.trans (by rw [← e1] at q2; exact q2))
  refine wpAny_bind (wpAny_newList ?_ (by simpa using hvl2))
  have hoL : (s1.heap.push (seqObj "list" vs.toArray 0)).get? s1.heap.objs.size = some (seqObj "list" vs.toArray 0) := Heap.get?_push_size _ rfl
  refine wpAny_bind (wpAny_holding (wpAny_call_entry slot_list_sort ⟨_, hoL, rfl⟩ entry_list_sort (list_sort_treeKAny strKind_oneLt hoL hS.keysOf (fun v₁ v₂ rest e => keyKind_strs (by rw [← e]; exact hS)) hvl2 fun st' hp hs => ⟨_, rfl, ?_⟩) (args_list_sort _)))
  obtain ⟨ys, a1, a2, a3⟩ := sorted_out_str hS hp hs
  obtain ⟨c, hc⟩ := sortedHeap_at (vs := vs) (out := (arrOf st').map (·.2)) hoL
  refine wpAny_pure ⟨_, rfl, hQ _ s1.heap.objs.size _ c ys (fun b u e => ?_) g1 o1 hz hc a1 (a2.trans pk) a3⟩
  have q := k1 b u e
  have hlt := Heap.lt_size q
  show (sortedHeap (s1.heap.push (seqObj "list" vs.toArray 0)) s1.heap.objs.size vs _).get? b = some u
  rw [sortedHeap_old (Nat.ne_of_lt hlt) (by rw [size_push']; exact Nat.lt_succ_of_lt hlt)]
  exact Heap.get?_push_of_some _ q
theorem sorted_ksetI {ss : List Int} {Q : Value → Shared → Prop} (R : KSet w s.heap a (ss.map Sum.inl)) (hh : A.handled = none)
    (hQ : ∀ s' p (out : Array Value) (c : Nat) (ys : List Int), (∀ b o, s.heap.get? b = some o → s'.heap.get? b = some o) → s'.gens = s.gens → s'.os = s.os → s.heap.objs.size ≤ p →
      s'.heap.get? p = some (seqObj "list" out c) → IntsAre out.toList ys → ys.Perm ss → ys.Pairwise (· ≤ ·) → Q (.ref p) s') :
    wpAny (model P w) A (call (.builtin "sorted") [.ref a]) Q E s := by
  obtain ⟨o, es, ep, t, ho, hex, hd, g, pl, nl, hb, hf, hr, hl⟩ := R
  refine Calls.call_function_entry kind_sorted plain_sorted entry_sorted (args_sorted1 _) ?_
  unfold Builtin.«sorted»
  refine wpAny_bind (m := checkCount "sorted" 1 1 _) (wpAny_pure ?_)
  refine wpAny_bind (collect_set (A := A.in1) hh ⟨o, ho, hex.1, hd⟩ hf hb hr hl fun s1 vs k1 hz g1 o1 pm => ?_)
  have hvl : vs.length < scanBound := by rw [pm.length_eq, List.length_map, Array.length_toList]; exact hb
  have hvl2 : vs.length ≤ sizeLine := fits_of_scanBound hvl
  have ek : ∀ e ∈ es.toList, ∃ x tk, e.2 = Value.int x tk := fun e he => by
    obtain ⟨k, h1, h2⟩ := g e he
    have hm := pl.mem_iff.mp (List.mem_map.mpr ⟨e, he, (kyE_is (g e he) k).mp h1⟩)
    obtain ⟨x, _, rfl⟩ := List.mem_map.mp hm
    rcases keyIs_shape h1 with ⟨i, tk, q, hv⟩ | ⟨y, tk, q, hv⟩
    · exact ⟨i, tk, hv⟩
    · exact nomatch q
  have hS := ints_all vs fun v hv => by
    obtain ⟨e, he, q⟩ := List.mem_map.mp (pm.mem_iff.mp hv)
    obtain ⟨x, tk, h⟩ := ek e he
    exact ⟨x, tk, by rw [← q, h]⟩
  have pk : (vs.map fun v => match v with | .int k _ => k | _ => 0).Perm ss := by
    have q1 := pm.map fun v => match v with | .int k _ => k | _ => (0 : Int)
    have q2 := pl.map kInt
    rw [List.map_map] at q1 q2
    rw [List.map_map] at q2
    have e1 : es.toList.map ((fun v => match v with | .int k _ => k | _ => (0 : Int)) ∘ fun e => e.2) = es.toList.map (kInt ∘ kyE) := List.map_congr_left fun e he => by
      obtain ⟨x, tk, h⟩ := ek e he
      show (match e.2 with | .int k _ => k | _ => (0 : Int)) = kInt (kyE e)
      unfold kyE
      rw [h]
      rfl
    have e2 : ss.map (kInt ∘ Sum.inl) = ss := by
      have : (kInt ∘ Sum.inl : Int → Int) = id := rfl
      rw [this, List.map_id]
    rw [e2] at q2
    exact (q1.trans (by rw [← e1] at q2; exact q2))
  refine wpAny_bind (wpAny_newList ?_ (by simpa using hvl2))
  have hoL : (s1.heap.push (seqObj "list" vs.toArray 0)).get? s1.heap.objs.size = some (seqObj "list" vs.toArray 0) := Heap.get?_push_size _ rfl
  refine wpAny_bind (wpAny_holding (wpAny_call_entry slot_list_sort ⟨_, hoL, rfl⟩ entry_list_sort (list_sort_treeAny hoL hS hvl2 fun out ys a1 a2 a3 => ⟨_, rfl, ?_⟩) (args_list_sort _)))
  obtain ⟨c, hc⟩ := sortedHeap_at (vs := vs) (out := out) hoL
  refine wpAny_pure ⟨_, rfl, hQ _ s1.heap.objs.size _ c ys (fun b u e => ?_) g1 o1 hz hc a1 (a2.trans pk) a3⟩
  have q := k1 b u e
  have hlt := Heap.lt_size q
  show (sortedHeap (s1.heap.push (seqObj "list" vs.toArray 0)) s1.heap.objs.size vs _).get? b = some u
  rw [sortedHeap_old (Nat.ne_of_lt hlt) (by rw [size_push']; exact Nat.lt_succ_of_lt hlt)]
  exact Heap.get?_push_of_some _ q
end
/-- the set of keys, held -/
def SetJ (w : World) (a : Addr) (l : List Key) : HO := .ext fun h => KSet w h a l
theorem setJ_new {w : World} {P : Program} {H : Hp} {h : Heap} {a : Addr} {l : List Key} (R : KSet w h a l) : ObjOk P w H h a (SetJ w a l) := by
  have ⟨o, _, _, _, ho, _⟩ := R
  exact ⟨R, ⟨o, ho⟩, fun h1 h2 p k => KSet.at p k⟩
section
variable {X : Cx}
theorem keys_vals (P : Program) (w : World) : ∀ {ks : List Key} {us : List Value}, Vals (ks.map kV) us → ∀ (i : Nat) (v : Value), us[i]? = some v → ∃ k, ks[i]? = some k ∧ keyIs k v = true
  | [], _, .nil, i, v, h => by simp at h
  | k :: ks, _, .cons r t, 0, v, h => by
    simp at h
    subst h
    exact ⟨k, rfl, kV_is (P := P) (w := w) r⟩
  | k :: ks, _, .cons r t, i + 1, v, h => by
    obtain ⟨k', h1, h2⟩ := keys_vals P w t i v (by simpa using h)
    exact ⟨k', by simpa using h1, h2⟩
def rSetJ (K : PySem.W.Frag) (w : World) : List V → Hp → VK → Prop := fun xs H Q => ∃ (l : Addr) (ks : List Key), xs = [V.ref l] ∧ SqL K H l (ks.map kV) ∧ ks.length ≤ 1000 ∧ ∀ a, H a = none → Q (.ref a) (upd H a (SetJ w a (uniK ks)))
theorem cr_setJ (hc : X.calm = true) : CallR X (.type "set") (rSetJ X.K X.w) := by
  intro pins s σ H xs us Q I r h
  obtain ⟨l, ks, rfl, hl, hf, q⟩ := h
  rw [Vals.ref1 r]
  obtain ⟨its, rv, pl, hz⟩ := I.list hl
  have hn : H s.heap.objs.size = none := I.hok.fresh (Nat.le_refl _)
  have hlen := rv.length
  rw [List.length_map] at hlen
  refine call_set_keys (P := X.prog) (w := X.w) ks (I.ok.hd hc) pl.isList (fun i v h => keys_vals X.prog X.w rv i v (by simpa using h)) (by simp [hlen]) (by unfold scanBound; omega) fun h' tk R k => ?_
  exact ⟨.ref s.heap.objs.size, upd H s.heap.objs.size (SetJ X.w s.heap.objs.size (uniK ks)), I.laid (t' := tk) k (Nat.le_refl _) (setJ_new R), rfl, q _ hn⟩
def rSortJ (w : World) : List V → Hp → VK → Prop := fun xs H Q => (∃ (a : Addr) (ss : List Str), xs = [V.ref a] ∧ H a = some (SetJ w a (ss.map Sum.inr)) ∧ ss.length ≤ 1000 ∧
    ∀ (ys : List Str) (p : Addr), ys.Perm ss → sortedS ys = true → H p = none → Q (.ref p) (upd H p (.lst (ys.map V.str)))) ∨
  (∃ (a : Addr) (ss : List Int), xs = [V.ref a] ∧ H a = some (SetJ w a (ss.map Sum.inl)) ∧ ss.length ≤ 1000 ∧
    ∀ (ys : List Int) (p : Addr), ys.Perm ss → ys.Pairwise (· ≤ ·) → H p = none → Q (.ref p) (upd H p (.lst (ys.map V.int))))
theorem cr_sortJ (hc : X.calm = true) : CallR X (.builtin "sorted") (rSortJ X.w) := by
  intro pins s σ H vs us Q I r h
  rcases h with ⟨a, ss, rfl, ha, hlen, q⟩ | ⟨a, ss, rfl, ha, hlen, q⟩
  · have R : KSet X.w s.heap a (ss.map Sum.inr) := (I.hok a _ ha).1
    rw [Vals.ref1 r]
    refine sorted_ksetS R (I.ok.hd hc) fun s' p out c ys k g o hp hg hi pm hs => ?_
    have hl : (ys.map V.str).length ≤ sizeLine := by rw [List.length_map, pm.length_eq, sizeLine_eq]; omega
    have hn : H p = none := I.hok.fresh hp
    have J : Inv X pins σ (upd H p (.lst (ys.map V.str))) { s with heap := s'.heap, gens := s'.gens, drawn := s'.drawn, toks := s'.toks } :=
      I.call (ch := []) (Un.laid k hp hn) (I.hok.laid k hp ⟨hl, out.toList, c, vals_of_strs hi, hg⟩) (by rw [g]; exact I.bare) (fun _ z => nomatch z)
    have e : s' = { s with heap := s'.heap, gens := s'.gens, drawn := s'.drawn, toks := s'.toks } := by
      cases s'
      cases s
      cases o
      rfl
    rw [e]
    exact ⟨.ref p, _, J, rfl, q ys p pm hs hn⟩
  · have R : KSet X.w s.heap a (ss.map Sum.inl) := (I.hok a _ ha).1
    rw [Vals.ref1 r]
    refine sorted_ksetI R (I.ok.hd hc) fun s' p out c ys k g o hp hg hi pm hs => ?_
    have hl : (ys.map V.int).length ≤ sizeLine := by rw [List.length_map, pm.length_eq, sizeLine_eq]; omega
    have hn : H p = none := I.hok.fresh hp
    have J : Inv X pins σ (upd H p (.lst (ys.map V.int))) { s with heap := s'.heap, gens := s'.gens, drawn := s'.drawn, toks := s'.toks } :=
      I.call (ch := []) (Un.laid k hp hn) (I.hok.laid k hp ⟨hl, out.toList, c, vals_of_ints hi, hg⟩) (by rw [g]; exact I.bare) (fun _ z => nomatch z)
    have e : s' = { s with heap := s'.heap, gens := s'.gens, drawn := s'.drawn, toks := s'.toks } := by
      cases s'
      cases s
      cases o
      rfl
    rw [e]
    exact ⟨.ref p, _, J, rfl, q ys p pm hs hn⟩
end
end MI
/-! # Mirrors: sorted(set(xs)), len(set(xs)), max, min and sum of a list, zip -/
namespace MI
open PySem PySem.Spec PyProof.Rows L2
/-- the members, each once, the last one first -/
def uni {α : Type} [DecidableEq α] (l : List α) : List α := l.foldl (fun a k => if (a.any fun j => decide (j = k)) = true then a else k :: a) []
theorem uniK_mapAux {α : Type} [DecidableEq α] (f : α → Key) (hf : ∀ a b, f a = f b → a = b) : ∀ (l acc : List α), (l.map f).foldl insK (acc.map f) = (l.foldl (fun a k => if (a.any fun j => decide (j = k)) = true then a else k :: a) acc).map f
  | [], acc => rfl
  | k :: l, acc => by
    rw [List.map_cons, List.foldl_cons, List.foldl_cons, ← uniK_mapAux f hf l]
    congr 1
    unfold insK
    have e : ((acc.map f).any fun j => decide (j = f k)) = acc.any fun j => decide (j = k) := by
      rw [List.any_map]
      congr 1
      funext j
      show decide (f j = f k) = decide (j = k)
      by_cases h : j = k
      · subst h; simp
      · have h2 : ¬ f j = f k := fun z => h (hf _ _ z)
        rw [decide_eq_false h, decide_eq_false h2]
    rw [e]
    split <;> simp
theorem uniK_str (l : List Str) : uniK (l.map Sum.inr) = (uni l).map Sum.inr := uniK_mapAux (fun x : Str => (Sum.inr x : Key)) (fun a b h => Sum.inr.inj h) l []
theorem uniK_int (l : List Int) : uniK (l.map Sum.inl) = (uni l).map Sum.inl := uniK_mapAux (fun x : Int => (Sum.inl x : Key)) (fun a b h => Sum.inl.inj h) l []
theorem uni_lenAux {α : Type} [DecidableEq α] : ∀ (l acc : List α), (l.foldl (fun a k => if (a.any fun j => decide (j = k)) = true then a else k :: a) acc).length ≤ acc.length + l.length
  | [], acc => by simp
  | k :: l, acc => by
    rw [List.foldl_cons]
    refine Nat.le_trans (uni_lenAux l _) ?_
    split <;> simp <;> omega
theorem uni_len {α : Type} [DecidableEq α] (l : List α) : (uni l).length ≤ l.length := by
  have := uni_lenAux l []
  rw [List.length_nil, Nat.zero_add] at this
  exact this
theorem uni_aux {α : Type} [DecidableEq α] : ∀ (l acc : List α), acc.Nodup → (l.foldl (fun a k => if (a.any fun j => decide (j = k)) = true then a else k :: a) acc).Nodup ∧
    ∀ x, x ∈ (l.foldl (fun a k => if (a.any fun j => decide (j = k)) = true then a else k :: a) acc) ↔ x ∈ acc ∨ x ∈ l
  | [], acc, h => ⟨h, fun x => by simp⟩
  | k :: l, acc, h => by
    rw [List.foldl_cons]
    by_cases hk : k ∈ acc
    · have e : (acc.any fun j => decide (j = k)) = true := List.any_eq_true.mpr ⟨k, hk, decide_eq_true rfl⟩
      rw [if_pos e]
      obtain ⟨h1, h2⟩ := uni_aux l acc h
      refine ⟨h1, fun x => (h2 x).trans ⟨fun z => z.imp id (List.mem_cons_of_mem _), fun z => z.elim .inl fun z => ?_⟩⟩
      rcases List.mem_cons.mp z with rfl | z
      · exact .inl hk
      · exact .inr z
    · have e : ¬ (acc.any fun j => decide (j = k)) = true := fun z => by
        obtain ⟨j, hj, q⟩ := List.any_eq_true.mp z
        rw [of_decide_eq_true q] at hj
        exact hk hj
      rw [if_neg e]
      obtain ⟨h1, h2⟩ := uni_aux l (k :: acc) (List.nodup_cons.mpr ⟨hk, h⟩)
      refine ⟨h1, fun x => (h2 x).trans ?_⟩
      rw [List.mem_cons, List.mem_cons]
      constructor
      · rintro ((z | z) | z)
        · exact .inr (.inl z)
        · exact .inl z
        · exact .inr (.inr z)
      · rintro (z | z | z)
        · exact .inl (.inr z)
        · exact .inl (.inl z)
        · exact .inr z
theorem uni_nodup {α : Type} [DecidableEq α] (l : List α) : (uni l).Nodup := (uni_aux l [] List.nodup_nil).1
theorem uni_mem {α : Type} [DecidableEq α] {l : List α} {x : α} : x ∈ uni l ↔ x ∈ l := ((uni_aux l [] List.nodup_nil).2 x).trans (by simp)
theorem uni_perm {α : Type} [DecidableEq α] {l : List α} (h : l.Nodup) : l.Perm (uni l) := (List.perm_ext_iff_of_nodup h (uni_nodup l)).mpr fun x => uni_mem.symm
def fSortedSet : S → RV → Res RV := fun s r => match asD s r with
  | some (.lst xs) => (match strsOf xs with
    | some ks => if ks.length ≤ 1000 then .ok (.new (.lst ((sortS (uni ks)).map .str))) s else .stuck
    | none => (match intsOf xs with
      | some is => if is.length ≤ 1000 then .ok (.new (.lst ((sortI (uni is)).map .int))) s else .stuck
      | none => .stuck))
  | _ => .stuck
def fLenSet : S → RV → Res RV := fun s r => match asD s r with
  | some (.lst xs) => (match strsOf xs with
    | some ks => if ks.length ≤ 1000 then .ok (.d (.int (uni ks).length)) s else .stuck
    | none => (match intsOf xs with
      | some is => if is.length ≤ 1000 then .ok (.d (.int (uni is).length)) s else .stuck
      | none => .stuck))
  | _ => .stuck
def maxL : List Int → Int
  | [] => 0
  | i :: is => is.foldl (fun a b => if a < b then b else a) i
def minL : List Int → Int
  | [] => 0
  | i :: is => is.foldl (fun a b => if b < a then b else a) i
theorem maxL_aux : ∀ (is : List Int) (i : Int), (is.foldl (fun a b => if a < b then b else a) i) ∈ i :: is ∧ ∀ j ∈ i :: is, j ≤ is.foldl (fun a b => if a < b then b else a) i
  | [], i => ⟨List.mem_cons_self, fun j m => by simp at m; simp [m]⟩
  | k :: is, i => by
    rw [List.foldl_cons]
    obtain ⟨h1, h2⟩ := maxL_aux is (if i < k then k else i)
    refine ⟨?_, fun j m => ?_⟩
    · rcases List.mem_cons.mp h1 with z | z
      · rw [z]
        split
        · exact List.mem_cons_of_mem _ List.mem_cons_self
        · exact List.mem_cons_self
      · exact List.mem_cons_of_mem _ (List.mem_cons_of_mem _ z)
    · have h3 := h2 _ List.mem_cons_self
      rcases List.mem_cons.mp m with rfl | m
      · refine Int.le_trans ?_ h3
        split <;> omega
      · rcases List.mem_cons.mp m with rfl | m
        · refine Int.le_trans ?_ h3
          split <;> omega
        · exact h2 j (List.mem_cons_of_mem _ m)
theorem minL_aux : ∀ (is : List Int) (i : Int), (is.foldl (fun a b => if b < a then b else a) i) ∈ i :: is ∧ ∀ j ∈ i :: is, is.foldl (fun a b => if b < a then b else a) i ≤ j
  | [], i => ⟨List.mem_cons_self, fun j m => by simp at m; simp [m]⟩
  | k :: is, i => by
    rw [List.foldl_cons]
    obtain ⟨h1, h2⟩ := minL_aux is (if k < i then k else i)
    refine ⟨?_, fun j m => ?_⟩
    · rcases List.mem_cons.mp h1 with z | z
      · rw [z]
        split
        · exact List.mem_cons_of_mem _ List.mem_cons_self
        · exact List.mem_cons_self
      · exact List.mem_cons_of_mem _ (List.mem_cons_of_mem _ z)
    · have h3 := h2 _ List.mem_cons_self
      rcases List.mem_cons.mp m with rfl | m
      · refine Int.le_trans h3 ?_
        split <;> omega
      · rcases List.mem_cons.mp m with rfl | m
        · refine Int.le_trans h3 ?_
          split <;> omega
        · exact h2 j (List.mem_cons_of_mem _ m)
theorem maxL_mem {l : List Int} (h : l ≠ []) : maxL l ∈ l := by
  cases l with
  | nil => exact absurd rfl h
  | cons i is => exact (maxL_aux is i).1
theorem maxL_le {l : List Int} : ∀ j ∈ l, j ≤ maxL l := by
  cases l with
  | nil => exact fun j m => (nomatch m)
  | cons i is => exact (maxL_aux is i).2
theorem minL_mem {l : List Int} (h : l ≠ []) : minL l ∈ l := by
  cases l with
  | nil => exact absurd rfl h
  | cons i is => exact (minL_aux is i).1
theorem minL_le {l : List Int} : ∀ j ∈ l, minL l ≤ j := by
  cases l with
  | nil => exact fun j m => (nomatch m)
  | cons i is => exact (minL_aux is i).2
theorem maxL_eq {l : List Int} {m : Int} (h : m ∈ l) (h2 : ∀ j ∈ l, j ≤ m) : maxL l = m := by
  have a := maxL_le m h
  have b := h2 _ (maxL_mem (l := l) (fun z => by rw [z] at h; cases h))
  omega
theorem minL_eq {l : List Int} {m : Int} (h : m ∈ l) (h2 : ∀ j ∈ l, m ≤ j) : minL l = m := by
  have a := minL_le m h
  have b := h2 _ (minL_mem (l := l) (fun z => by rw [z] at h; cases h))
  omega
def fFold (f : List Int → Int) (ne : Bool) : S → RV → Res RV := fun s r => match asD s r with
  | some (.lst xs) => (match intsOf xs with
    | some is => if ne && is.isEmpty then .stuck else .ok (.d (.int (f is))) s
    | none => .stuck)
  | _ => .stuck
section
variable {X : Cx} {W : WX} {a : Expr} {ma : M} {pos p p2 q : Pos}
theorem list_of {g : G} {s : S} {σ : L2.St} {H : Hp} {v : V} {rv : RV} {xs : List D} (ok : Ok X.K g s σ H) (rr : RepRV X.K g s H v rv) (e : asD s rv = some (.lst xs)) : ∃ b vs, v = .ref b ∧ SqL X.K H b vs ∧ ∃ g1 : G, RepL X.K g1 vs xs := by
  obtain ⟨g1, l, sb, rp⟩ := asD_ok ok (GLe.refl g) ok.sub rr e
  cases rp with
  | @lst b vs _ h1 r1 => exact ⟨b, vs, rfl, .of (sb.lst h1), g1, r1⟩
theorem cr_lenJ : CallR X (.builtin "len") (fun xs H Q => ∃ (a : Addr) (l : List Key), xs = [V.ref a] ∧ H a = some (SetJ X.w a l) ∧ l.length ≤ 1000 ∧ Q (.int l.length) H) := by
  intro pins s σ H vs us Q I r h
  obtain ⟨a, l, rfl, ha, hl, q⟩ := h
  have R : KSet X.w s.heap a l := (I.hok a _ ha).1
  rw [Vals.ref1 r]
  obtain ⟨o, es, ep, t, ho, hex, hd, g, pl, nl, hb, hf, hr, hl⟩ := R
  have hz : es.size = l.length := by rw [← Array.length_toList, ← pl.length_eq, List.length_map]
  exact call_len_set ho hex hd hf (by omega) ⟨.int l.length, H, I.tok _, ⟨_, by rw [hz]⟩, q⟩
theorem me_sortedSet (hc : X.calm = true) (ha : ME X W a ma) (hg : Gl X "sorted") (hm : X.mg "sorted" = none) (hg2 : Gl X "set") (hm2 : X.mg "set" = none)
    (hs : starEach [a] X.env = (false, eval a X.env) :: starEach [] X.env := by rfl)
    (hs2 : starEach [.Call (.Name "set" p2) [a] [] q] X.env = (false, eval (.Call (.Name "set" p2) [a] [] q) X.env) :: starEach [] X.env := by rfl) :
    ME X W (.Call (.Name "sorted" p) [.Call (.Name "set" p2) [a] [] q] [] pos) (mFn1 fSortedSet ma) := by
  refine pe_imp (pe_callB (cr_sortJ hc) hg hm (by decide +kernel) (pa_cons (pe_callTy (cr_setJ hc) hg2 hm2 boot_set (pa_cons ha pa_nil hs) (he := hs)) pa_nil hs2) (he := hs2)) fun σ H Q ⟨g, s, ok, h⟩ => ?_
  refine ma_one (r := fun vs H Q => rSetJ X.K X.w vs H fun x H1 => rSortJ X.w [x] H1 Q) (fun σ g s H Q v rv ok rr h => ?_) ok h
  unfold fSortedSet at h
  split at h
  · rename_i xs e
    obtain ⟨b, vs, rfl, hq, g1, r1⟩ := list_of ok rr e
    split at h
    · rename_i ks e2
      have ev := strsOf_ok r1 e2
      subst ev
      split at h
      · rename_i hl
        refine ⟨b, ks.map Sum.inr, rfl, ?_, by rw [List.length_map]; exact hl, fun a hn => ?_⟩
        · rw [List.map_map]; exact hq
        · rw [uniK_str]
          refine .inl ⟨a, uni ks, rfl, upd_same, Nat.le_trans (uni_len ks) hl, fun ys p hp hy hn2 => ?_⟩
          have := sortS_uniq hp hy
          subst this
          have ok1 := ok.grow (o := SetJ X.w a ((uni ks).map Sum.inr)) hn
          exact h g _ ((Step.grow ok hn).trans (Step.grow ok1 hn2)) (SlKeep.refl _) (ok1.grow hn2) _ ⟨p, rfl, ok1.fnone hn2, ok1.pnone hn2, ok1.lnone hn2, ⟨_, upd_same, repL_strs _⟩⟩
      · exact h.elim
    · split at h
      · rename_i is e2
        have ev := intsOf_ok r1 e2
        subst ev
        split at h
        · rename_i hl
          refine ⟨b, is.map Sum.inl, rfl, ?_, by rw [List.length_map]; exact hl, fun a hn => ?_⟩
          · rw [List.map_map]; exact hq
          · rw [uniK_int]
            refine .inr ⟨a, uni is, rfl, upd_same, Nat.le_trans (uni_len is) hl, fun ys p hp hy hn2 => ?_⟩
            have := sortI_uniq hp hy
            subst this
            have ok1 := ok.grow (o := SetJ X.w a ((uni is).map Sum.inl)) hn
            exact h g _ ((Step.grow ok hn).trans (Step.grow ok1 hn2)) (SlKeep.refl _) (ok1.grow hn2) _ ⟨p, rfl, ok1.fnone hn2, ok1.pnone hn2, ok1.lnone hn2, ⟨_, upd_same, repL_ints _⟩⟩
        · exact h.elim
      · exact h.elim
  · exact h.elim
theorem me_lenSet (hc : X.calm = true) (ha : ME X W a ma) (hg : Gl X "len") (hm : X.mg "len" = none) (hg2 : Gl X "set") (hm2 : X.mg "set" = none)
    (hs : starEach [a] X.env = (false, eval a X.env) :: starEach [] X.env := by rfl)
    (hs2 : starEach [.Call (.Name "set" p2) [a] [] q] X.env = (false, eval (.Call (.Name "set" p2) [a] [] q) X.env) :: starEach [] X.env := by rfl) :
    ME X W (.Call (.Name "len" p) [.Call (.Name "set" p2) [a] [] q] [] pos) (mFn1 fLenSet ma) := by
  refine pe_imp (pe_callB cr_lenJ hg hm PySem.boot_len (pa_cons (pe_callTy (cr_setJ hc) hg2 hm2 boot_set (pa_cons ha pa_nil hs) (he := hs)) pa_nil hs2) (he := hs2)) fun σ H Q ⟨g, s, ok, h⟩ => ?_
  refine ma_one (r := fun vs H Q => rSetJ X.K X.w vs H fun x H1 => ∃ (a : Addr) (l : List Key), [x] = [V.ref a] ∧ H1 a = some (SetJ X.w a l) ∧ l.length ≤ 1000 ∧ Q (.int l.length) H1) (fun σ g s H Q v rv ok rr h => ?_) ok h
  unfold fLenSet at h
  split at h
  · rename_i xs e
    obtain ⟨b, vs, rfl, hq, g1, r1⟩ := list_of ok rr e
    split at h
    · rename_i ks e2
      have ev := strsOf_ok r1 e2
      subst ev
      split at h
      · rename_i hl
        refine ⟨b, ks.map Sum.inr, rfl, ?_, by rw [List.length_map]; exact hl, fun a hn => ?_⟩
        · rw [List.map_map]; exact hq
        · rw [uniK_str]
          have ok1 := ok.grow (o := SetJ X.w a ((uni ks).map Sum.inr)) hn
          refine ⟨a, (uni ks).map Sum.inr, rfl, upd_same, by rw [List.length_map]; exact Nat.le_trans (uni_len ks) hl, ?_⟩
          rw [List.length_map]
          exact h g _ (Step.grow ok hn) (SlKeep.refl _) ok1 _ (.int _)
      · exact h.elim
    · split at h
      · rename_i is e2
        have ev := intsOf_ok r1 e2
        subst ev
        split at h
        · rename_i hl
          refine ⟨b, is.map Sum.inl, rfl, ?_, by rw [List.length_map]; exact hl, fun a hn => ?_⟩
          · rw [List.map_map]; exact hq
          · rw [uniK_int]
            have ok1 := ok.grow (o := SetJ X.w a ((uni is).map Sum.inl)) hn
            refine ⟨a, (uni is).map Sum.inl, rfl, upd_same, by rw [List.length_map]; exact Nat.le_trans (uni_len is) hl, ?_⟩
            rw [List.length_map]
            exact h g _ (Step.grow ok hn) (SlKeep.refl _) ok1 _ (.int _)
        · exact h.elim
      · exact h.elim
  · exact h.elim
theorem me_maxL (hc : X.calm = true) (ha : ME X W a ma) (hg : Gl X "max") (hm : X.mg "max" = none) (hs : starEach [a] X.env = (false, eval a X.env) :: starEach [] X.env := by rfl) : ME X W (.Call (.Name "max" p) [a] [] pos) (mFn1 (fFold maxL true) ma) := by
  refine pe_imp (pe_callB (cr_max hc) hg hm boot_max (pa_cons ha pa_nil hs) (he := hs)) fun σ H Q ⟨g, s, ok, h⟩ => ma_one (fun σ g s H Q v rv ok rr h => ?_) ok h
  unfold fFold at h
  split at h
  · rename_i xs e
    obtain ⟨b, vs, rfl, hq, g1, r1⟩ := list_of ok rr e
    split at h
    · rename_i is e2
      have ev := intsOf_ok r1 e2
      subst ev
      split at h
      · exact h.elim
      · rename_i hne
        refine ⟨b, is, rfl, hq, ?_, fun m h1 h2 => ?_⟩
        · cases is with
          | nil => exact absurd rfl hne
          | cons => exact Nat.succ_pos _
        · have := maxL_eq h1 h2
          subst this
          exact kE_d h ok (.int _)
    · exact h.elim
  · exact h.elim
theorem me_minL (hc : X.calm = true) (ha : ME X W a ma) (hg : Gl X "min") (hm : X.mg "min" = none) (hs : starEach [a] X.env = (false, eval a X.env) :: starEach [] X.env := by rfl) : ME X W (.Call (.Name "min" p) [a] [] pos) (mFn1 (fFold minL true) ma) := by
  refine pe_imp (pe_callB (cr_min hc) hg hm boot_min (pa_cons ha pa_nil hs) (he := hs)) fun σ H Q ⟨g, s, ok, h⟩ => ma_one (fun σ g s H Q v rv ok rr h => ?_) ok h
  unfold fFold at h
  split at h
  · rename_i xs e
    obtain ⟨b, vs, rfl, hq, g1, r1⟩ := list_of ok rr e
    split at h
    · rename_i is e2
      have ev := intsOf_ok r1 e2
      subst ev
      split at h
      · exact h.elim
      · rename_i hne
        refine ⟨b, is, rfl, hq, ?_, fun m h1 h2 => ?_⟩
        · cases is with
          | nil => exact absurd rfl hne
          | cons => exact Nat.succ_pos _
        · have := minL_eq h1 h2
          subst this
          exact kE_d h ok (.int _)
    · exact h.elim
  · exact h.elim
theorem me_sumL (hc : X.calm = true) (ha : ME X W a ma) (hg : Gl X "sum") (hm : X.mg "sum" = none) (hs : starEach [a] X.env = (false, eval a X.env) :: starEach [] X.env := by rfl) : ME X W (.Call (.Name "sum" p) [a] [] pos) (mFn1 (fFold List.sum false) ma) := by
  refine pe_imp (pe_callB (cr_sum hc) hg hm boot_sum (pa_cons ha pa_nil hs) (he := hs)) fun σ H Q ⟨g, s, ok, h⟩ => ma_one (fun σ g s H Q v rv ok rr h => ?_) ok h
  unfold fFold at h
  split at h
  · rename_i xs e
    obtain ⟨b, vs, rfl, hq, g1, r1⟩ := list_of ok rr e
    split at h
    · rename_i is e2
      have ev := intsOf_ok r1 e2
      subst ev
      split at h
      · exact h.elim
      · exact ⟨b, is, rfl, hq, kE_d h ok (.int _)⟩
    · exact h.elim
  · exact h.elim
end
/-! ### zip of two lists, of two tuples -/
def zipD : List D → List D → List D
  | x :: xs, y :: ys => .tup [x, y] :: zipD xs ys
  | _, _ => []
theorem zipD_get : ∀ (xs ys : List D) (i : Nat) (z : D), (zipD xs ys)[i]? = some z → ∃ x y, xs[i]? = some x ∧ ys[i]? = some y ∧ z = .tup [x, y]
  | [], _, _, _, h => by cases h
  | _ :: _, [], _, _, h => by cases h
  | x :: xs, y :: ys, 0, z, h => ⟨x, y, rfl, rfl, by simpa [zipD] using h.symm⟩
  | x :: xs, y :: ys, i + 1, z, h => by
    obtain ⟨x', y', h1, h2, h3⟩ := zipD_get xs ys i z (by simpa [zipD] using h)
    exact ⟨x', y', by simpa using h1, by simpa using h2, h3⟩
theorem zipD_len : ∀ (xs ys : List D), xs.length ≤ (zipD xs ys).length ∨ ys.length ≤ (zipD xs ys).length
  | [], _ => .inl (Nat.zero_le _)
  | _ :: _, [] => .inr (Nat.zero_le _)
  | x :: xs, y :: ys => by
    rcases zipD_len xs ys with h | h
    · exact .inl (by simp [zipD]; omega)
    · exact .inr (by simp [zipD]; omega)
def iZipM (m : S → Res (List D)) : S → Res (List D) := fun s => (m s).bind fun ds s1 => match ds with
  | [.lst xs, .lst ys] => .ok (zipD xs ys) s1
  | [.tup xs, .tup ys] => .ok (zipD xs ys) s1
  | _ => .stuck
theorem walk_zipL {K : PySem.W.Frag} {g : G} {H0 : Hp} {a b : Addr} {vs ws : List V} {xs ys : List D} (h : SqL K g.F a vs) (h' : SqL K g.F b ws) (r : RepL K g vs xs) (r' : RepL K g ws ys) : Walk K (Itz K a b) (zipD xs ys) g H0 := by
  intro g' s' σ' H' l _ ok
  have hq : SqL K H' a vs := sqL_mono (l.F.transH ok.sub) h
  have hq' : SqL K H' b ws := sqL_mono (l.F.transH ok.sub) h'
  refine ⟨⟨vs, ws, hq, hq', by rw [r.length, r'.length]; exact zipD_len xs ys⟩, fun i d e => ?_⟩
  obtain ⟨x, y, hx, hy, rfl⟩ := zipD_get xs ys i d e
  obtain ⟨v, hv, rv⟩ := r.get hx
  obtain ⟨w, hw, rw'⟩ := r'.get hy
  refine ⟨⟨vs, ws, v, w, hq, hq', hv, hw⟩, fun x H'' ⟨T, z1, z2, ex, hT, eH, e2, e3⟩ => ?_⟩
  subst ex eH
  have e4 := e2 vs hq
  rw [hv] at e4
  cases e4
  have e5 := e3 ws hq'
  rw [hw] at e5
  cases e5
  have k1 := ok.grow (o := .tup [v, w]) hT
  have k2 := k1.frz (o := .tup [v, w]) upd_same (ok.fnone hT) (ok.pnone hT) (ok.lnone hT)
  refine ⟨g'.frz T (.tup [v, w]), (Step.grow ok hT).trans (Step.frz (ok.fnone hT)), SlKeep.refl _, k2, ?_⟩
  exact .tup (.inl (.inl upd_same)) (.cons ((rv.mono l).mono (frz_le (ok.fnone hT))) (.cons ((rw'.mono l).mono (frz_le (ok.fnone hT))) .nil))
theorem walk_zipT {K : PySem.W.Frag} {g : G} {H0 : Hp} {a b : Addr} {vs ws : List V} {xs ys : List D} (h : SqT K g.F a vs) (h' : SqT K g.F b ws) (r : RepL K g vs xs) (r' : RepL K g ws ys) : Walk K (RZ.ItzT K a b) (zipD xs ys) g H0 := by
  intro g' s' σ' H' l _ ok
  have hq : SqT K H' a vs := sqT_mono (l.F.transH ok.sub) h
  have hq' : SqT K H' b ws := sqT_mono (l.F.transH ok.sub) h'
  refine ⟨⟨vs, ws, hq, hq', by rw [r.length, r'.length]; exact zipD_len xs ys⟩, fun i d e => ?_⟩
  obtain ⟨x, y, hx, hy, rfl⟩ := zipD_get xs ys i d e
  obtain ⟨v, hv, rv⟩ := r.get hx
  obtain ⟨w, hw, rw'⟩ := r'.get hy
  refine ⟨⟨vs, ws, v, w, hq, hq', hv, hw⟩, fun x H'' ⟨T, z1, z2, ex, hT, eH, e2, e3⟩ => ?_⟩
  subst ex eH
  have e4 := e2 vs hq
  rw [hv] at e4
  cases e4
  have e5 := e3 ws hq'
  rw [hw] at e5
  cases e5
  have k1 := ok.grow (o := .tup [v, w]) hT
  have k2 := k1.frz (o := .tup [v, w]) upd_same (ok.fnone hT) (ok.pnone hT) (ok.lnone hT)
  refine ⟨g'.frz T (.tup [v, w]), (Step.grow ok hT).trans (Step.frz (ok.fnone hT)), SlKeep.refl _, k2, ?_⟩
  exact .tup (.inl (.inl upd_same)) (.cons ((rv.mono l).mono (frz_le (ok.fnone hT))) (.cons ((rw'.mono l).mono (frz_le (ok.fnone hT))) .nil))
section
variable {X : Cx} {W : WX} {e e2 : Expr} {m : S → Res (List D)} {p pos tpos : Pos} {elts : List Expr} {kk : Nat}
theorem mi_zip (ha : MA X W [e, e2] m) (hg : Gl X "zip") (hm : X.mg "zip" = none) (hs : starEach [e, e2] X.env = (false, eval e X.env) :: starEach [e2] X.env := by rfl) (hpl : (backTo pos (starEach [e2] X.env)).any (·.1) = false := by rfl) :
    MIt X W (.Tuple elts kk tpos) (.Call (.Name "zip" p) [e, e2] [] pos) (iZipM m) := by
  refine pi_imp (RZ.pi_zipA hg hm ha hs hpl) fun σ H R h => ?_
  obtain ⟨g, s, ok, h⟩ := h
  refine ⟨g, s, ok, (PostE.bind h).mono fun ds g1 s1 H1 t1 k1 o1 h1 vs rs => ?_⟩
  split at h1
  · cases rs with
    | cons r1 rs =>
      cases rs with
      | cons r2 rs =>
        cases rs
        cases r1 with
        | lst hq r =>
          cases r2 with
          | lst hq' r' => exact ⟨_, _, _, _, rfl, .inl ⟨.of (o1.sub.lst hq), .of (o1.sub.lst hq'), PostE.done h1 o1 _ (walk_zipL (.of hq) (.of hq') r r')⟩⟩
  · cases rs with
    | cons r1 rs =>
      cases rs with
      | cons r2 rs =>
        cases rs
        cases r1 with
        | tup hq r =>
          cases r2 with
          | tup hq' r' => exact ⟨_, _, _, _, rfl, .inr ⟨sqT_mono o1.sub hq, sqT_mono o1.sub hq', PostE.done h1 o1 _ (walk_zipT hq hq' r r')⟩⟩
  · exact h1.elim
end
end MI
/-! # Sets made of a tuple, sorted -/
namespace MI
open PySem PySem.Spec PyProof.Rows L2
section
variable {P : Program} {w : World} {A : Around} {E : Value → Shared → Prop} {s : Shared} {a : Addr} {l : List Key}
/-- set of a tuple -/
theorem call_set_keysT {l : Addr} {items : Array Value} (ks : List Key) {Q : Value → Shared → Prop} (hh : A.handled = none) (hl : s.heap.IsTuple l items) (hit : ∀ (i : Nat) (v : Value), items[i]? = some v → ∃ k, ks[i]? = some k ∧ keyIs k v = true) (hsz : items.size = ks.length)
    (hb : ks.length + 1 < scanBound)
    (h : ∀ (h' : Heap) (tk : Nat), KSet w h' s.heap.objs.size (uniK ks) → (∀ b o, s.heap.get? b = some o → h'.get? b = some o) → Q (.ref s.heap.objs.size) { s with heap := h', toks := tk }) :
    wpAny (model P w) A (call (.type "set") [.ref l]) Q E s := by
  obtain ⟨c, tl, hmro⟩ := F.called_set.mro
  have hmade := F.called_set.made
  have hsub := F.called_set.sub
  refine wpAny_call (codeAny_of_tree ?_)
  show wpAny _ _ (callAny (.type "set") _) _ _ _
  refine wpAny_pure ⟨Code.quiet_builtin _ (by decide +kernel), codeAny_builtin F.entry_type_call ?_⟩
  rw [Around.under_plain (weight_type_call_type "set" [.ref l] []) rfl]
  have h1 := F.called_set.notType
  have h2 := F.called_set.canCreate
  have hct := F.typeCall_set_1 (.ref l)
  repeat (any_goals (first | assumption | wp_step))

  refine codeAny_mono (code_set_led1 (.ref l) (E := E) (Q₁ := fun obj s₁ => obj = .ref s.heap.objs.size ∧ s₁ = { s with heap := s.heap.push { cls := .type "set", dict := none, data := .set #[] 0 (.fresh 0 0 (!w.params.followText "set-order")) } }) ⟨rfl, rfl⟩) fun r s₁ hr => ?_
  cases r with
  | error e => exact hr
  | ok fl =>
    cases fl with
    | ret obj =>
      obtain ⟨rfl, rfl⟩ := hr
      have hS : (s.heap.push { cls := .type "set", dict := none, data := .set #[] 0 (.fresh 0 0 (!w.params.followText "set-order")) }).get? s.heap.objs.size = some { cls := .type "set", dict := none, data := .set #[] 0 (.fresh 0 0 (!w.params.followText "set-order")) } := Heap.get?_push_size _ rfl
      have hT : Shared.TypeIs { s with heap := s.heap.push { cls := .type "set", dict := none, data := .set #[] 0 (.fresh 0 0 (!w.params.followText "set-order")) } } (.ref s.heap.objs.size) "set" := ⟨_, hS, rfl⟩
      have hli := F.called_set.init.lookup
      have hbi := F.called_set.init.bind (.ref s.heap.objs.size)
      repeat (any_goals (first | assumption | wp_step))

      refine codeAny_mono (codeAny_call_builtin (R := wants (fun r s₂ => r = .none ∧ ∃ h' tk, s₂ = { s with heap := h', toks := tk } ∧ KSet w h' s.heap.objs.size (uniK ks) ∧
          (∀ b o, s.heap.get? b = some o → h'.get? b = some o)) E) F.called_set.init.plain F.entry_set_init (check_set_init_1 hT ?_)) fun r₂ s₂ hr₂ => ?_
      · obtain ⟨ol, hol, hcl, nl, hdl⟩ := hl
        obtain ⟨ocls, odict, odata, oslots⟩ := ol
        simp only at hcl hdl
        subst hcl; subst hdl
        have hol' : (s.heap.push { cls := .type "set", dict := none, data := .set #[] 0 (.fresh 0 0 (!w.params.followText "set-order")) }).get? l = some { cls := .type "tuple", dict := odict, data := .seq items nl, slots := oslots } := Heap.get?_push_of_some _ hol
        have hsls := F.sub_tuple_set
        have hslf := F.sub_tuple_frozenset
        have hne : (Value.type "tuple" == Value.type "dict") = false := by decide
        have hl1 : (s.heap.push { cls := .type "set", dict := none, data := .set #[] 0 (.fresh 0 0 (!w.params.followText "set-order")) }).IsTuple l items := ⟨_, hol', rfl, nl, rfl⟩
        unfold Builtin.«set.__init__» noKeywords Builtin.Frozenset.updateFrom
        generalize hPI : pyIter = PI
        wp_walk
        subst hPI

        refine wpAny_pyIter_tuple hl1 ?_
        refine wpAny_bind (wpAny_runValue ?_)
        have hlS : l < s.heap.objs.size := Heap.lt_size hol
        have hh3 : A.in1.in1.in1.handled = none := by simp [hh]
        have hneI : l ≠ (s.heap.push { cls := .type "set", dict := none, data := .set #[] 0 (.fresh 0 0 (!w.params.followText "set-order")) }).objs.size := by
          rw [Heap.size_push]; exact Nat.ne_of_lt (Nat.lt_succ_of_lt hlS)
        have hSf : s.heap.objs.size ∉ [(s.heap.push { cls := .type "set", dict := none, data := .set #[] 0 (.fresh 0 0 (!w.params.followText "set-order")) }).objs.size, l] := by
          rw [Heap.size_push]; simp only [List.mem_cons, List.mem_singleton, List.not_mem_nil, or_false, not_or]
          exact ⟨Nat.ne_of_lt (Nat.lt_succ_self _), Nat.ne_of_gt hlS⟩
        refine set_update_keys ((Walks.tuple hh3 _ l hneI items).toS) s.heap.objs.size
          hSf ks hsz hb hit (items.size - 0) 0 _ (by omega) (Nat.zero_le _)
          ⟨⟨_, Heap.get?_push_size _ rfl, rfl, rfl⟩, (hl1.push _)⟩ ?hS0 ?hR
        case hS0 =>
          have hget : ((s.heap.push { cls := .type "set", dict := none, data := .set #[] 0 (.fresh 0 0 (!w.params.followText "set-order")) }).push { cls := .type "tuple_iterator", data := .fields #[.ref l, .int 0 0] }).get? s.heap.objs.size
              = some { cls := .type "set", dict := none, data := .set #[] 0 (.fresh 0 0 (!w.params.followText "set-order")) } := Heap.get?_push_of_some _ hS
          exact kset_fresh hget
        case hR =>
          intro s' hm hS'
          obtain ⟨h', g', d', tk', os'⟩ := s'
          have eg : g' = s.gens := hm.gens
          have ed : d' = s.drawn := hm.drawn
          have eo : os' = s.os := hm.os
          subst eg; subst ed; subst eo
          show wpAny _ _ _ _ _ _
          refine wpAny_pure ?_
          show wpAny _ _ (ret Value.none) _ _ _
          refine wpAny_pure ⟨rfl, h', tk', rfl, hS', fun b o e => ?_⟩
          have hb' : b < s.heap.objs.size := Heap.lt_size e
          have hb1 : b ≠ s.heap.objs.size := Nat.ne_of_lt hb'
          have hb2 : b ≠ (s.heap.push { cls := .type "set", dict := none, data := .set #[] 0 (.fresh 0 0 (!w.params.followText "set-order")) }).objs.size := by
            rw [Heap.size_push]; exact Nat.ne_of_lt (Nat.lt_succ_of_lt hb')
          exact hm.heap b o (by simp only [List.mem_cons, List.mem_singleton, List.not_mem_nil, or_false, not_or]; exact ⟨hb1, hb2⟩) (Heap.get?_push_of_some _ (Heap.get?_push_of_some _ e))

      · cases r₂ with
        | error e => exact hr₂
        | ok fl₂ =>
          cases fl₂ with
          | ret r =>
            obtain ⟨rfl, h', tk, rfl, hS', hk'⟩ := hr₂
            repeat (any_goals (first | assumption | wp_step))
            exact h _ _ hS' hk'
          | _ => exact hr₂.elim
    | _ => exact hr.elim
end
section
variable {X : Cx}
def rSetT (K : PySem.W.Frag) (w : World) : List V → Hp → VK → Prop := fun xs H Q => ∃ (l : Addr) (ks : List Key), xs = [V.ref l] ∧ SqT K H l (ks.map kV) ∧ ks.length ≤ 1000 ∧ ∀ a, H a = none → Q (.ref a) (upd H a (SetJ w a (uniK ks)))
theorem cr_setT (hc : X.calm = true) : CallR X (.type "set") (rSetT X.K X.w) := by
  intro pins s σ H xs us Q I r h
  obtain ⟨l, ks, rfl, hl, hf, q⟩ := h
  rw [Vals.ref1 r]
  obtain ⟨its, rv, pl, hz⟩ := I.tuple hl
  have hn : H s.heap.objs.size = none := I.hok.fresh (Nat.le_refl _)
  have hlen := rv.length
  rw [List.length_map] at hlen
  refine call_set_keysT (P := X.prog) (w := X.w) ks (I.ok.hd hc) pl (fun i v h => keys_vals X.prog X.w rv i v (by simpa using h)) (by simp [hlen]) (by unfold scanBound; omega) fun h' tk R k => ?_
  exact ⟨.ref s.heap.objs.size, upd H s.heap.objs.size (SetJ X.w s.heap.objs.size (uniK ks)), I.laid (t' := tk) k (Nat.le_refl _) (setJ_new R), rfl, q _ hn⟩
end
def fSortedSetT : S → RV → Res RV := fun s r => match asD s r with
  | some (.tup xs) => (match strsOf xs with
    | some ks => if ks.length ≤ 1000 then .ok (.new (.lst ((sortS (uni ks)).map .str))) s else .stuck
    | none => (match intsOf xs with
      | some is => if is.length ≤ 1000 then .ok (.new (.lst ((sortI (uni is)).map .int))) s else .stuck
      | none => .stuck))
  | _ => .stuck
section
variable {X : Cx} {W : WX} {a : Expr} {ma : M} {pos p p2 q : Pos}
theorem tup_of {g : G} {s : S} {σ : L2.St} {H : Hp} {v : V} {rv : RV} {xs : List D} (ok : Ok X.K g s σ H) (rr : RepRV X.K g s H v rv) (e : asD s rv = some (.tup xs)) : ∃ b vs, v = .ref b ∧ SqT X.K H b vs ∧ ∃ g1 : G, RepL X.K g1 vs xs := by
  obtain ⟨g1, l, sb, rp⟩ := asD_ok ok (GLe.refl g) ok.sub rr e
  cases rp with
  | @tup b vs _ h1 r1 => exact ⟨b, vs, rfl, sqT_mono sb h1, g1, r1⟩
theorem me_sortedSetT (hc : X.calm = true) (ha : ME X W a ma) (hg : Gl X "sorted") (hm : X.mg "sorted" = none) (hg2 : Gl X "set") (hm2 : X.mg "set" = none)
    (hs : starEach [a] X.env = (false, eval a X.env) :: starEach [] X.env := by rfl)
    (hs2 : starEach [.Call (.Name "set" p2) [a] [] q] X.env = (false, eval (.Call (.Name "set" p2) [a] [] q) X.env) :: starEach [] X.env := by rfl) :
    ME X W (.Call (.Name "sorted" p) [.Call (.Name "set" p2) [a] [] q] [] pos) (mFn1 fSortedSetT ma) := by
  refine pe_imp (pe_callB (cr_sortJ hc) hg hm (by decide +kernel) (pa_cons (pe_callTy (cr_setT hc) hg2 hm2 boot_set (pa_cons ha pa_nil hs) (he := hs)) pa_nil hs2) (he := hs2)) fun σ H Q ⟨g, s, ok, h⟩ => ?_
  refine ma_one (r := fun vs H Q => rSetT X.K X.w vs H fun x H1 => rSortJ X.w [x] H1 Q) (fun σ g s H Q v rv ok rr h => ?_) ok h
  unfold fSortedSetT at h
  split at h
  · rename_i xs e
    obtain ⟨b, vs, rfl, hq, g1, r1⟩ := tup_of ok rr e
    split at h
    · rename_i ks e2
      have ev := strsOf_ok r1 e2
      subst ev
      split at h
      · rename_i hl
        refine ⟨b, ks.map Sum.inr, rfl, ?_, by rw [List.length_map]; exact hl, fun a hn => ?_⟩
        · rw [List.map_map]; exact hq
        · rw [uniK_str]
          refine .inl ⟨a, uni ks, rfl, upd_same, Nat.le_trans (uni_len ks) hl, fun ys p hp hy hn2 => ?_⟩
          have := sortS_uniq hp hy
          subst this
          have ok1 := ok.grow (o := SetJ X.w a ((uni ks).map Sum.inr)) hn
          exact h g _ ((Step.grow ok hn).trans (Step.grow ok1 hn2)) (SlKeep.refl _) (ok1.grow hn2) _ ⟨p, rfl, ok1.fnone hn2, ok1.pnone hn2, ok1.lnone hn2, ⟨_, upd_same, repL_strs _⟩⟩
      · exact h.elim
    · split at h
      · rename_i is e2
        have ev := intsOf_ok r1 e2
        subst ev
        split at h
        · rename_i hl
          refine ⟨b, is.map Sum.inl, rfl, ?_, by rw [List.length_map]; exact hl, fun a hn => ?_⟩
          · rw [List.map_map]; exact hq
          · rw [uniK_int]
            refine .inr ⟨a, uni is, rfl, upd_same, Nat.le_trans (uni_len is) hl, fun ys p hp hy hn2 => ?_⟩
            have := sortI_uniq hp hy
            subst this
            have ok1 := ok.grow (o := SetJ X.w a ((uni is).map Sum.inl)) hn
            exact h g _ ((Step.grow ok hn).trans (Step.grow ok1 hn2)) (SlKeep.refl _) (ok1.grow hn2) _ ⟨p, rfl, ok1.fnone hn2, ok1.pnone hn2, ok1.lnone hn2, ⟨_, upd_same, repL_ints _⟩⟩
        · exact h.elim
      · exact h.elim
  · exact h.elim
end
end MI
/-! # List comprehensions over two -/
namespace MI
open PySem L2
def compGo2 (vs vs1 : List Nat) (t : D → S → Option S) (c : S → Res Bool) (it1 : S → Res (List D)) (t1 : D → S → Option S) (c1 : S → Res Bool) (e : S → Res D) : List D → List D → S → Option (List D × S)
  | [], acc, s => some (acc, s)
  | d :: ds, acc, s => match t d s with
    | none => none
    | some s1 => match c s1 with
      | .ok b s2 => if b = true then (match it1 s2 with
          | .ok ds1 s3 => (match compGo vs1 t1 c1 e ds1 acc (wipeS s3 vs1) with
            | some (acc1, s4) => compGo2 vs vs1 t c it1 t1 c1 e ds acc1 (wipeS s4 vs)
            | none => none)
          | _ => none)
        else compGo2 vs vs1 t c it1 t1 c1 e ds acc (wipeS s2 vs)
      | _ => none
def mComp2 (vs vs1 : List Nat) (it : S → Res (List D)) (t : D → S → Option S) (c : S → Res Bool) (it1 : S → Res (List D)) (t1 : D → S → Option S) (c1 : S → Res Bool) (e : M) : M := fun s => (it s).bind fun ds s1 => if noOwn s1.env vs = true then (match compGo2 vs vs1 t c it1 t1 c1 (mLeak e) ds [] (wipeS s1 vs) with
  | some (acc, s2) => .ok (.new (.lst acc)) { s2 with env := restE s1.env s2.env vs }
  | none => .stuck) else .stuck
theorem wipe_in {σ : St} {vs vs1 : List Nat} (h : ∀ i ∈ vs1, i ∈ vs) : wipe (wipe σ vs1) vs = wipe σ vs := by
  apply List.ext_getElem?
  intro i
  rw [wipe_get (wipe σ vs1) vs i, wipe_get σ vs i]
  by_cases hi : i ∈ vs
  · rw [if_pos hi, if_pos hi, wipe_get]
    split
    · cases σ[i]? <;> rfl
    · rfl
  · rw [if_neg hi, if_neg hi, wipe_get, if_neg fun z => hi (h i z)]
section
variable {K : PySem.W.Frag}
/-- what has been kept so far in the list at D, begun at g0, H0 -/
structure Kp (K : PySem.W.Frag) (D : Addr) (g0 : G) (H0 : Hp) (g : G) (H : Hp) (acc : List MI.D) (avs : List V) : Prop where
  st : Step (g0.hold D) (upd H0 D (.lst [])) (g.wP (g0.hold D).P) (upd H D (.lst []))
  sk : SlKeep g0 g
  pp : g.P = (g0.hold D).P
  at_ : H D = some (.lst avs)
  rep : RepL K g avs acc
variable {D : Addr} {g0 g : G} {H0 H : Hp} {acc : List MI.D} {avs : List V}
theorem Kp.pD (k : Kp K D g0 H0 g H acc avs) : g.P D := by rw [k.pp]; exact .inr rfl
theorem Kp.fk (k : Kp K D g0 H0 g H acc avs) (n : g0.F D = none) : ∀ a u, g0.F a = some u → H a = H0 a := fun a u e => by
  have z : a ≠ D := fun z => by rw [z, n] at e; cases e
  have q := k.st.fk a u e
  rw [upd_ne z, upd_ne z] at q
  exact q
theorem Kp.fD (k : Kp K D g0 H0 g H acc avs) {s : S} {σ : St} (o : Ok K g s σ H) : g.F D = none := (o.prot D (by rw [k.pp]; exact .inr rfl)).2.1
theorem Kp.le (k : Kp K D g0 H0 g H acc avs) : GLe g0 g := ⟨k.st.le.F, k.st.le.ng, k.st.le.adr⟩
theorem Kp.step (k : Kp K D g0 H0 g H acc avs) {g3 : G} {H3 : Hp} (t : Step g H g3 H3) (sk : SlKeep g g3) : Kp K D g0 H0 g3 H3 acc avs := by
  have p3 : g3.P = (g0.hold D).P := t.P.trans k.pp
  refine ⟨⟨⟨k.st.le.F.trans t.le.F, Nat.le_trans k.st.le.ng t.le.ng, fun n hn => (t.le.adr n (Nat.lt_of_lt_of_le hn k.st.le.ng)).trans (k.st.le.adr n hn)⟩, rfl, fun b hb => ?_, fun b u hu => ?_⟩, fun j => (sk j).trans (k.sk j), p3, (t.keep D k.pD).trans k.at_, k.rep.mono t.le⟩
  by_cases hbD : b = D
  · rw [hbD, upd_same, upd_same]
  · have q := k.st.keep b hb
    rw [upd_ne hbD, upd_ne hbD] at q ⊢
    exact (t.keep b (by rw [k.pp]; exact hb)).trans q
  · by_cases hbD : b = D
    · rw [hbD, upd_same, upd_same]
    · have q := k.st.fk b u hu
      rw [upd_ne hbD, upd_ne hbD] at q ⊢
      exact (t.fk b u (k.st.le.F _ _ hu)).trans q
/-- the list at D grows: it is nobody's in the store -/
theorem Kp.grow (k : Kp K D g0 H0 g H acc avs) {s : S} {σ : St} (o : Ok K g s σ H) {v : V} {y : MI.D} (ry : Rep K g v y) : Kp K D g0 H0 g (upd H D (.lst (avs ++ [v]))) (acc ++ [y]) (avs ++ [v]) ∧ Ok K g s σ (upd H D (.lst (avs ++ [v]))) := by
  obtain ⟨_, f5, l5⟩ := o.prot D k.pD
  refine ⟨⟨by rw [upd_upd]; exact k.st, k.sk, k.pp, upd_same, k.rep.append (.one ry)⟩, ⟨o.sub.upH f5, fun l z e => ?_, o.inj, o.env, o.len, o.ng, fun b p => ?_⟩⟩
  · obtain ⟨f, r⟩ := o.cell l z e
    exact ⟨f, r.mono (GLe.refl _) (upd_ne fun q => l5 ⟨l, z, e, q⟩)⟩
  · obtain ⟨h1, h2, h3⟩ := o.prot b p
    refine ⟨?_, h2, h3⟩
    by_cases z : b = D
    · exact ⟨_, by rw [z]; exact upd_same⟩
    · rw [upd_ne z]; exact h1
/-- the inner loop -/
theorem loop_in {vs1 is1 : List Nat} {gt1 : TG} {t1 : MI.D → S → Option S} {mc1 : S → Res Bool} {me : M} {σ2 : St} (hgt : MGk K gt1 is1 t1) (hsub : ∀ i ∈ is1, i ∈ vs1) {J1 : It} {ds1 : List MI.D} {gA : G} (hJ : Walk K J1 ds1 gA H)
    {acc0 : List MI.D} {avs0 : List V} {sA s1f : S} {acc1 : List MI.D} (k0 : Kp K D g0 H0 gA H acc0 avs0) (oA : Ok K gA sA (wipe σ2 vs1) H) (hgo : compGo vs1 t1 mc1 (mLeak me) ds1 acc0 sA = some (acc1, s1f)) {Nx : Hp → Prop}
    (hN : ∀ g' H' avs, GLe gA g' → Kp K D g0 H0 g' H' acc1 avs → Ok K g' s1f (wipe σ2 vs1) H' → Nx H') :
    ∃ W1 : Nat → Nat → Hp → Prop, (∃ m, W1 0 m H) ∧ ∀ j k H, W1 j k H →
      (J1.stop j H ∧ Nx H) ∨ (J1.go j H ∧ ∃ Nx1 : Hp → Prop, (∀ H', Nx1 H' → ∃ k', k' < k ∧ W1 (j + 1) k' H') ∧ ∀ x H', J1.yld j H x H' → gt1 x (wipe σ2 vs1) H' fun σ3 H5 => wipe σ3 vs1 = wipe σ2 vs1 ∧ tMT K W0 mc1 σ3 H5 fun b H6 =>
        if b = true then tM K W0 me σ3 H6 fun y H7 => ∃ acc, H7 D = some (.lst acc) ∧ acc.length < sizeLine ∧ Nx1 (upd H7 D (.lst (acc ++ [y]))) else Nx1 H6) := by
  refine ⟨fun j k H' => k = ds1.length - j ∧ j ≤ ds1.length ∧ ∃ g' s' acc avs, GLe gA g' ∧ (∀ a u, gA.F a = some u → H' a = H a) ∧ Kp K D g0 H0 g' H' acc avs ∧ Ok K g' s' (wipe σ2 vs1) H' ∧ compGo vs1 t1 mc1 (mLeak me) (ds1.drop j) acc s' = some (acc1, s1f),
    ⟨ds1.length, by simp, Nat.zero_le _, gA, sA, acc0, avs0, GLe.refl _, fun _ _ _ => rfl, k0, oA, by simpa using hgo⟩, ?_⟩
  rintro j k H' ⟨rfl, hj, g', s', acc, avs, lg, fk0, kp, o', hg'⟩
  obtain ⟨stp, go⟩ := hJ g' s' _ H' lg fk0 o'
  by_cases hlt : j < ds1.length
  · obtain ⟨d, hd⟩ : ∃ d, ds1[j]? = some d := ⟨_, List.getElem?_eq_getElem hlt⟩
    have hdrop : ds1.drop j = d :: ds1.drop (j + 1) := by
      rw [List.drop_eq_getElem_cons hlt]
      congr 1
      rw [List.getElem?_eq_getElem hlt] at hd
      exact Option.some.inj hd
    obtain ⟨go1, yl⟩ := go j d hd
    refine .inr ⟨go1, fun H3 => ∃ g3 s3 acc avs, GLe gA g3 ∧ (∀ a u, gA.F a = some u → H3 a = H a) ∧ Kp K D g0 H0 g3 H3 acc avs ∧ Ok K g3 s3 (wipe σ2 vs1) H3 ∧ compGo vs1 t1 mc1 (mLeak me) (ds1.drop (j + 1)) acc s3 = some (acc1, s1f), fun H3 z => ⟨ds1.length - (j + 1), by omega, rfl, hlt, z⟩, fun x H2 y => ?_⟩
    obtain ⟨g2, t2, k2, o2, r2⟩ := yl x H2 y
    rw [hdrop] at hg'
    unfold compGo at hg'
    cases e : t1 d s' with
    | none => simp only [e] at hg'; cases hg'
    | some s2 =>
      simp only [e] at hg'
      obtain ⟨ws, o2', hQ⟩ := hgt g2 s' (wipe σ2 vs1) H2 x d s2 o2 r2 e
      have wq : wipe (setAll (wipe σ2 vs1) is1 ws) vs1 = wipe σ2 vs1 := wipe_setAll hsub
      refine hQ _ ⟨wq, g2, s2, o2', ?_⟩
      have kp2 := kp.step t2 k2
      have lg2 := lg.trans t2.le
      have fk2 : ∀ a u, gA.F a = some u → H2 a = H a := fun a u e => (t2.fk a u (lg.F _ _ e)).trans (fk0 a u e)
      cases e2 : mc1 s2 with
      | ok b s3 =>
        simp only [e2] at hg'
        intro g3 H3 t3 k3 o3
        show (if b = true then _ else _)
        cases b with
        | true =>
          rw [if_pos rfl] at hg'
          rw [if_pos rfl]
          unfold mLeak at hg'
          refine ⟨g3, s3, o3, ?_⟩
          cases e3 : me s3 with
          | ok r s4 =>
            simp only [e3, Res.bind_ok] at hg'
            intro g4 H4 t4 k4 o4 v rv
            cases e4 : leak r s4 with
            | none => simp only [e4] at hg'; cases hg'
            | some pr =>
              obtain ⟨y, s5⟩ := pr
              simp only [e4] at hg'
              obtain ⟨g5, t5, k5, o5, ry⟩ := leak_ok o4 rv e4
              have kp5 := kp2.step ((t3.trans t4).trans t5) ((k3.trans k4).trans k5)
              by_cases hz : acc.length < sizeLine
              · rw [if_pos hz] at hg'
                obtain ⟨kp6, o6⟩ := kp5.grow o5 ry
                have ow := o6.wipe (vs := vs1)
                rw [wq] at ow
                exact ⟨avs, kp5.at_, by rw [kp5.rep.length]; exact hz, g5, wipeS s5 vs1, acc ++ [y], avs ++ [v], lg2.trans ((t3.trans t4).trans t5).le, (fun a u e => by
                  have z : a ≠ D := fun z => by
                    have q := lg2.F _ _ e
                    rw [z, (o2.prot D kp2.pD).2.1] at q; cases q
                  rw [upd_ne z]
                  exact (((t3.trans t4).trans t5).fk a u (lg2.F _ _ e)).trans (fk2 a u e)), kp6, ow, hg'⟩
              · rw [if_neg hz] at hg'; cases hg'
          | exc c p s4 => simp only [e3, Res.bind_exc] at hg'; cases hg'
          | stuck => simp only [e3, Res.bind_stuck] at hg'; cases hg'
        | false =>
          rw [if_neg (by decide)] at hg'
          rw [if_neg (by decide)]
          have ow := o3.wipe (vs := vs1)
          rw [wq] at ow
          exact ⟨g3, wipeS s3 vs1, acc, avs, lg2.trans t3.le, (fun a u e => (t3.fk a u (lg2.F _ _ e)).trans (fk2 a u e)), kp2.step t3 k3, ow, hg'⟩
      | exc c p s3 => simp only [e2] at hg'; cases hg'
      | stuck => simp only [e2] at hg'; cases hg'
  · have e : j = ds1.length := by omega
    subst e
    refine .inl ⟨stp, ?_⟩
    rw [List.drop_length] at hg'
    cases hg'
    exact hN g' H' avs lg kp o'
end
section
variable {X : Cx} {W : WX}
theorem tLc2_of {vs vs1 is is1 : List Nat} {it it1 : S → Res (List D)} {gt gt1 : TG} {t t1 : D → S → Option S} {mc mc1 : S → Res Bool} {me : M} {σ : St} {H : Hp} {Q : VK} {g : G} {s : S}
    (hgt : MGk X.K gt is t) (hsub : ∀ i ∈ is, i ∈ vs) (hgt1 : MGk X.K gt1 is1 t1) (hsub1 : ∀ i ∈ is1, i ∈ vs1) (hv : ∀ i ∈ vs1, i ∈ vs)
    (ok : Ok X.K g s σ H) (h : PostE X.K W σ g s H (kE X.K Q) (mComp2 vs vs1 it t mc it1 t1 mc1 me s)) :
    tLc2 (tMI X.K W it) gt (tMT X.K W0 mc) (tMI X.K W0 it1) gt1 (tMT X.K W0 mc1) (tM X.K W0 me) vs vs1 σ H Q := by
  refine ⟨g, s, ok, (PostE.bind h).mono fun ds g1 s1 H1 tt1 k1 o1 h1 J hJ D hD => ?_⟩
  split at h1
  · rename_i hno
    split at h1
    · rename_i acc0 s0 hgo
      have ok2 := o1.grow (o := .lst []) hD
      have hold := ok2.hold (a := D) (u := .lst []) upd_same (o1.fnone hD) (o1.lnone hD)
      refine ⟨fun i m H' => m = ds.length - i ∧ i ≤ ds.length ∧ ∃ g' s' acc avs, Kp X.K D g1 H1 g' H' acc avs ∧ Ok X.K g' s' (wipe σ vs) H' ∧ compGo2 vs vs1 t mc it1 t1 mc1 (mLeak me) (ds.drop i) acc s' = some (acc0, s0),
        ⟨ds.length, by simp, Nat.zero_le _, g1.hold D, wipeS s1 vs, [], [], ⟨⟨⟨Sub.refl _, Nat.le_refl _, fun _ _ => rfl⟩, rfl, fun b _ => by rw [upd_upd], fun b _ _ => by rw [upd_upd]⟩, SlKeep.refl _, rfl, upd_same, .nil⟩, hold.wipe, by simpa using hgo⟩, ?_⟩
      rintro i m H' ⟨rfl, hi, g', s', acc, avs, kp, o', hg'⟩
      obtain ⟨stp, go⟩ := hJ g' s' _ H' kp.le (kp.fk (o1.fnone hD)) o'
      by_cases hlt : i < ds.length
      · obtain ⟨d, hd⟩ : ∃ d, ds[i]? = some d := ⟨_, List.getElem?_eq_getElem hlt⟩
        have hdrop : ds.drop i = d :: ds.drop (i + 1) := by
          rw [List.drop_eq_getElem_cons hlt]
          congr 1
          rw [List.getElem?_eq_getElem hlt] at hd
          exact Option.some.inj hd
        obtain ⟨go1, yl⟩ := go i d hd
        refine .inr ⟨go1, fun H3 => ∃ g3 s3 acc avs, Kp X.K D g1 H1 g3 H3 acc avs ∧ Ok X.K g3 s3 (wipe σ vs) H3 ∧ compGo2 vs vs1 t mc it1 t1 mc1 (mLeak me) (ds.drop (i + 1)) acc s3 = some (acc0, s0), fun H3 z => ⟨ds.length - (i + 1), by omega, rfl, hlt, z⟩, fun x H2 y => ?_⟩
        obtain ⟨g2, t2, k2, o2, r2⟩ := yl x H2 y
        rw [hdrop] at hg'
        unfold compGo2 at hg'
        cases e : t d s' with
        | none => simp only [e] at hg'; cases hg'
        | some s2 =>
          simp only [e] at hg'
          obtain ⟨ws, o2', hQ⟩ := hgt g2 s' (wipe σ vs) H2 x d s2 o2 r2 e
          have wq : wipe (setAll (wipe σ vs) is ws) vs = wipe σ vs := wipe_setAll hsub
          refine hQ _ ⟨wq, g2, s2, o2', ?_⟩
          have kp2 := kp.step t2 k2
          cases e2 : mc s2 with
          | ok b s3 =>
            simp only [e2] at hg'
            intro g3 H3 t3 k3 o3
            show (if b = true then _ else _)
            have kp3 := kp2.step t3 k3
            cases b with
            | true =>
              rw [if_pos rfl] at hg'
              rw [if_pos rfl]
              refine ⟨g3, s3, o3, ?_⟩
              cases e3 : it1 s3 with
              | ok ds1 s4 =>
                simp only [e3] at hg'
                intro g4 H4 t4 k4 o4 J1 hJ1
                have kp4 := kp3.step t4 k4
                split at hg'
                · rename_i acc1 s5 hin
                  refine loop_in hgt1 hsub1 hJ1 kp4 o4.wipe hin fun g6 H6 avs6 lg6 kp6 o6 => ?_
                  have ow := o6.wipe (vs := vs)
                  rw [wipe_in hv, wq] at ow
                  exact ⟨g6, wipeS s5 vs, acc1, avs6, kp6, ow, hg'⟩
                · cases hg'
              | exc c p s4 => simp only [e3] at hg'; cases hg'
              | stuck => simp only [e3] at hg'; cases hg'
            | false =>
              rw [if_neg (by decide)] at hg'
              rw [if_neg (by decide)]
              have ow := o3.wipe (vs := vs)
              rw [wq] at ow
              exact ⟨g3, wipeS s3 vs, acc, avs, kp3, ow, hg'⟩
          | exc c p s3 => simp only [e2] at hg'; cases hg'
          | stuck => simp only [e2] at hg'; cases hg'
      · have e : i = ds.length := by omega
        subst e
        refine .inl ⟨stp, ?_⟩
        rw [List.drop_length] at hg'
        cases hg'
        have ob := o'.unhold (g0 := g1) (a := D) kp.pp
        obtain ⟨_, fD, lD⟩ := o'.prot D kp.pD
        have npD : ¬ g1.P D := o1.pnone hD
        have lg := kp.le
        have obr := o1.rest hno ob (show GLe g1 (g'.wP g1.P) from ⟨lg.F, lg.ng, lg.adr⟩)
        refine h1 (g'.wP g1.P) H' ⟨⟨lg.F, lg.ng, lg.adr⟩, rfl, fun b hb => ?_, kp.fk (o1.fnone hD)⟩ kp.sk obr (.ref D) ⟨D, rfl, fD, npD, fun ⟨l, o, e, z⟩ => lD ?_, avs, kp.at_, kp.rep.mono wP_le⟩
        · have hbD : b ≠ D := fun z => npD (z ▸ hb)
          have q := kp.st.keep b (.inl hb)
          rw [upd_ne hbD, upd_ne hbD] at q
          exact q
        · cases l with
          | gl n => exact ⟨.gl n, o, e, z⟩
          | sl j =>
            have hl : s1.env.length = s0.env.length := by
              have h1 := o1.len
              have h2 := o'.len
              rw [wipe_length] at h2
              omega
            have e' : (match (restE s1.env s0.env vs)[j]? with | some (.own o) => some o | _ => none) = some o := e
            rw [restE_get _ _ hl] at e'
            by_cases hj : j ∈ vs
            · rw [if_pos hj] at e'
              split at e'
              · rename_i w q
                have := List.all_eq_true.mp hno j hj
                rw [q] at this
                cases this
              · cases e'
            · rw [if_neg hj] at e'
              exact ⟨.sl j, o, e', z⟩
    · exact h1.elim
  · exact h1.elim
variable {elt tg iter tg1 iter1 : Expr} {ifs ifs1 : List Expr} {scope : Scope} {own : List (Str × Nat)} {pos : Pos} {it it1 : S → Res (List D)} {gt gt1 : TG} {vs1 is is1 : List Nat} {t t1 : D → S → Option S} {mc mc1 : S → Res Bool} {me : M}
theorem me_comp2 (hc : X.calm = true) (hN : X.N.Nodup) (hi : MIt X W tg iter it) (ok : BlkOk X.N X.env.scope scope own) (hv : ∀ i ∈ vs1, i ∈ own.map (·.2)) (hgk : MGk X.K gt is t) (hsub : ∀ i ∈ is, i ∈ own.map (·.2)) (hgk1 : MGk X.K gt1 is1 t1) (hsub1 : ∀ i ∈ is1, i ∈ vs1)
    (hg : Blk X scope fun Y => PG Y tg gt) (ht : Blk X scope fun Y => MTs Y W0 ifs mc) (hi1 : Blk X scope fun Y => MIt Y W0 tg1 iter1 it1) (hg1 : Blk X scope fun Y => PG Y tg1 gt1) (ht1 : Blk X scope fun Y => MTs Y W0 ifs1 mc1) (he : Blk X scope fun Y => ME Y W0 elt me)
    (hs : ∀ x, foldedSetIterable iter X.env x = pure x := by intro _; rfl) (hs1 : ∀ env x, foldedSetIterable iter1 env x = pure x := by intro _ _; rfl) :
    ME X W (.ListComp elt [⟨tg, iter, ifs, 0⟩, ⟨tg1, iter1, ifs1, 0⟩] scope pos) (mComp2 (own.map (·.2)) vs1 it t mc it1 t1 mc1 me) := by
  have z := pe_lc2 (pos := pos) (tt := tMT X.K W0 mc) (tt1 := tMT X.K W0 mc1) (wi1 := tMI X.K W0 it1) (te := tM X.K W0 me) hc hN hi ok hv (fun s H C cl fp => hg s H C cl fp) (fun s H C cl fp => ht s H C cl fp) (fun s H C cl fp => hi1 s H C cl fp) (fun s H C cl fp => hg1 s H C cl fp) (fun s H C cl fp => ht1 s H C cl fp) (fun s H C cl fp => he s H C cl fp) hs hs1
  refine pe_imp z fun σ H Q h => ?_
  obtain ⟨g, s, o, h⟩ := h
  exact tLc2_of hgk hsub hgk1 hsub1 hv o h
theorem ms_setComp2 {i : Nat} {y : Str} {py spos : Pos} (hc : X.calm = true) (hN : X.N.Nodup) (hi : MIt X W tg iter it) (ok : BlkOk X.N X.env.scope scope own) (hv : ∀ i ∈ vs1, i ∈ own.map (·.2)) (hgk : MGk X.K gt is t) (hsub : ∀ i ∈ is, i ∈ own.map (·.2)) (hgk1 : MGk X.K gt1 is1 t1) (hsub1 : ∀ i ∈ is1, i ∈ vs1)
    (hg : Blk X scope fun Y => PG Y tg gt) (ht : Blk X scope fun Y => MTs Y W0 ifs mc) (hi1 : Blk X scope fun Y => MIt Y W0 tg1 iter1 it1) (hg1 : Blk X scope fun Y => PG Y tg1 gt1) (ht1 : Blk X scope fun Y => MTs Y W0 ifs1 mc1) (he : Blk X scope fun Y => ME Y W0 elt me) (hy : X.N[i]? = some y := by rfl) (hyl : X.env.scope.names.lookup y = some .local := by rfl)
    (hsw : swapsWith (.ListComp elt [⟨tg, iter, ifs, 0⟩, ⟨tg1, iter1, ifs1, 0⟩] scope pos) (some (.Name y py)) spos.line X.env = pure true := by exact sw_true rfl rfl rfl (by decide +kernel))
    (hs : ∀ x, foldedSetIterable iter X.env x = pure x := by intro _; rfl) (hs1 : ∀ env x, foldedSetIterable iter1 env x = pure x := by intro _ _; rfl) :
    MS X W (.Assign [.Name y py] (.ListComp elt [⟨tg, iter, ifs, 0⟩, ⟨tg1, iter1, ifs1, 0⟩] scope pos) spos) (mSet i (mComp2 (own.map (·.2)) vs1 it t mc it1 t1 mc1 me)) := by
  have z := ps_setLc2 (tt := tMT X.K W0 mc) (tt1 := tMT X.K W0 mc1) (wi1 := tMI X.K W0 it1) (te := tM X.K W0 me) hc hN hy hyl hsw hi ok hv (fun s H C cl fp => hg s H C cl fp) (fun s H C cl fp => ht s H C cl fp) (fun s H C cl fp => hi1 s H C cl fp) (fun s H C cl fp => hg1 s H C cl fp) (fun s H C cl fp => ht1 s H C cl fp) (fun s H C cl fp => he s H C cl fp) hs hs1
  refine ps_imp z fun D σ H h => ?_
  obtain ⟨g, s, o, h⟩ := h
  refine tLc2_of hgk hsub hgk1 hsub1 hv o ((PostS.bind h).mono fun r g1 s1 H1 t1 k1 o1 h1 v rv => ?_)
  show D.nx (σ.set i (some v)) H1
  split at h1
  · rename_i s2 e2
    obtain ⟨g2, t2, o2⟩ := assign_ok o1 rv e2
    exact h1 _ g2 H1 t2 o2
  · exact h1.elim
end
end MI
/-! # xs.extend(ys), ys a list that is shared -/
namespace MI
open PySem PySem.Spec PyProof.Rows L2
def itemsD (s : S) : D → Option (List D)
  | .lst ys => some ys
  | .tup ys => some ys
  | .ref n => match s.gl[n]? with
    | some (.lst ys) => some ys
    | _ => none
  | _ => none
def mExtX (o a : M) : M := fun s => (o s).bind fun r s1 => match locOf r with
  | some l => (match cellOf s1 l with
    | some (.lst _) => (mLeak a s1).bind fun d s2 => (match cellOf s2 l, itemsD s2 d with
      | some (.lst xs), some ys => if xs.length + ys.length ≤ sizeLine then .ok (.d .non) (setCell s2 l (.lst (xs ++ ys))) else .stuck
      | _, _ => .stuck)
    | _ => .stuck)
  | none => .stuck
section
variable {X : Cx} {W : WX} {o a : Expr} {mo ma : M} {apos cpos : Pos}
theorem me_extX (ho : ME X W o mo) (ha : ME X W a ma) (hbase : attributeBase o "extend" X.env (eval o X.env) = eval o X.env := by rfl)
    (hfew : ((backTo cpos (starEach [a] X.env)).all (fun x => !x.1) && (backToKw cpos (keywordEach [] X.env)).all (fun x => x.1.isSome)
      && decide ([a].length + ([] : List Keyword).length + (if ([] : List Keyword).isEmpty then 0 else 1) < 30)) = true := by rfl)
    (hline : (apos.endLine == cpos.line) = true := by rfl) (hs : starEach [a] X.env = (false, eval a X.env) :: starEach [] X.env := by rfl) :
    ME X W (.Call (.Attribute o "extend" apos) [a] [] cpos) (mExtX mo ma) := by
  have z := pe_bm PySem.F.plainAttrs_list PySem.F.slot_list_extend PySem.F.type_list_extend mt_extendA ho (pa_cons ha pa_nil hs) hbase hfew hline hs
  refine pe_imp z fun σ H Q h => ?_
  obtain ⟨g, s, ok, h⟩ := h
  refine ⟨g, s, ok, (PostE.bind h).mono fun rv g1 s1 H1 t1 k1 o1 h1 v rr => ?_⟩
  split at h1
  · rename_i l e1
    have hv := locOf_ok rr e1
    subst hv
    split at h1
    · rename_i zs e2
      obtain ⟨us, hu, _⟩ := cell_lst o1 e2
      refine ⟨.inl ⟨rfl, us, .of hu⟩, ?_⟩
      refine tM_leak o1 (PostE.bind h1) fun d g2 s2 H2 y t2 k2 o2 ry h2 => ?_
      have el := loc_held o1 e2 t2 k2
      split at h2
      · rename_i xs ys e3 e4
        split at h2
        · rename_i hz
          obtain ⟨vs, hvs, rvs⟩ := cell_lst o2 e3
          rw [← el]
          have fin : ∀ ws, RepL X.K g2 ws (xs ++ ys) → Q .non (upd H2 (g2.adr l) (.lst ws)) := fun ws rw' => kE_change (o' := .lst (xs ++ ys)) o2 e3 ⟨ws, upd_same, rw'⟩ .non h2
          cases d with
          | lst zs =>
            cases e4
            cases ry with
            | @lst b us _ hb rz => exact .inl ⟨_, b, vs, us, rfl, rfl, hvs, o2.sub.lst hb, by rw [rvs.length, rz.length]; exact hz, fin _ (rvs.append rz)⟩
          | tup zs =>
            cases e4
            cases ry with
            | @tup b us _ hb rz => exact .inr ⟨_, b, vs, us, rfl, rfl, hvs, sqT_mono o2.sub hb, by rw [rvs.length, rz.length]; exact hz, fin _ (rvs.append rz)⟩
          | ref n =>
            unfold itemsD at e4
            simp only at e4
            split at e4
            · rename_i zs e5
              cases e4
              obtain ⟨us, hus, rus⟩ := cell_lst o2 (l := .gl n) e5
              cases ry
              exact .inl ⟨_, _, vs, us, rfl, rfl, hvs, hus, by rw [rvs.length, rus.length]; exact hz, fin _ (rvs.append rus)⟩
            · cases e4
          | _ => cases e4
        · exact h2.elim
      · exact h2.elim
    · exact h1.elim
  · exact h1.elim
end
theorem ap_ExtX {o a : M} {s : S} : mExtX o a s = (o s).bind fun r s1 => match locOf r with
  | some l => (match cellOf s1 l with
    | some (.lst _) => (mLeak a s1).bind fun d s2 => (match cellOf s2 l, itemsD s2 d with
      | some (.lst xs), some ys => if xs.length + ys.length ≤ sizeLine then .ok (.d .non) (setCell s2 l (.lst (xs ++ ys))) else .stuck
      | _, _ => .stuck)
    | _ => .stuck)
  | none => .stuck := rfl
end MI
/-! # Comprehensions out of which an exception may go -/
namespace PySem
namespace HandSPX
section
variable {M : Model} {A : Around} {E : Value → Shared → Prop} {s : Shared} {Z : Obj → Prop} {base : Heap} {env : Env} {outer l : List Env} {L e : Addr}
/-- held by another frame: noted by this one -/
theorem looks_otherZ {L' : Addr} {Q : Unit → Shared → Prop} (hZ : Steady Z) (hfr : A.frames = some (env :: outer)) (hf : env.frame = some L) (hne : L' ≠ L) (hfl : HeldZ base (env :: outer) e Z L' s.heap)
    (hQ : ∀ h', HeldZ base (env :: outer) e Z L h' → s.heap.UpToSlots h' → Q () { s with heap := h' }) : wpAny M A (noteFrame (.ref e) env) Q E s := by
  obtain ⟨hkb, hen, hl, oe, vs, T, oT, ts, he, hz, hd, h1, hnT, hTe, hT, hdT, h3⟩ := hfl
  have hne' : (rawInt L' == rawInt L) = false := by
    refine beq_false_of_ne fun z => hne ?_
    unfold rawInt at z
    injection z with z _
    exact Int.ofNat.inj z
  unfold noteFrame
  simp only [hf]
  refine wpAny_bind (wpAny_field he hd h1 ?_)
  rw [if_pos (show (Value.ref T != Value.none) = true from by simp)]
  refine wpAny_bind (wpAny_field hT hdT h3 ?_)
  rw [if_neg (show ¬ ((rawInt L' == rawInt L) = true) from by rw [hne']; decide)]
  refine wpAny_bind (wpAny_setField hT hdT (Array.getElem?_eq_some_iff.mp h3).1 ?_)
  have other : ∀ b, b ≠ T → (s.heap.update T (Obj.mapFields (·.setIfInBounds 3 Value.none))).get? b = s.heap.get? b := fun b hb => Heap.get?_update_other _ _ (Ne.symm hb)
  have noRecord : ∀ b o, s.heap.get? b = some o → (∀ vs, o.data ≠ .fields vs) → b ≠ T := fun b o hb hnf q => by
    rw [q, hT] at hb; injection hb with hb; subst hb; exact hnf ts hdT
  refine wpAny_entryZ hZ hfr (hl.of_keeps fun b o hb hnf => ⟨o, (other b (noRecord b o hb hnf)).trans hb, rfl⟩) hf ((other e (Ne.symm hTe)).trans he)
    (fun b o hbo => (other b fun q => by rw [q, hnT] at hbo; cases hbo).trans (hkb b o hbo)) hen hd (Array.getElem?_eq_some_iff.mp h1).1 hz fun h' hN => ?_
  obtain ⟨x1, x2, x3, x4⟩ := hN
  exact hQ h' ⟨x1, hen, x2, x3⟩ fun b o hb hnf => x4 b o ((other b (noRecord b o hb hnf)).trans hb) hnf
end
end HandSPX
end PySem

namespace L2
open PySem PySem.Spec PyProof.Rows
/-- a block's context that lets exceptions out -/
abbrev Cx.blx (X : Cx) (s : Shared) (H : Hp) (scope : Scope) (ce : Env) (fp : List Addr) (xe : Value → Shared → Prop) : Cx := (X.blk s H scope ce fp).wish xe
/-- a block's exception, noted in the frame of the def around -/
def XN (X : Cx) (s : Shared) (H : Hp) (scope : Scope) (ce : Env) (fp : List Addr) (W : WX) (u : Value) (s' : Shared) : Prop :=
  ∃ (a : Addr) (B : Heap) (sI : Shared) (pins : List (Addr × Obj)) (σ : St) (H' : Hp) (cls : Value) (d : Option Addr),
    u = .ref a ∧ Inv (X.blk s H scope ce fp) pins σ H' sI ∧ (∀ b o, sI.heap.get? b = some o → b ∉ frs X.stack → B.get? b = some o) ∧ sI.heap.UpToSlots s'.heap ∧
      HandSPX.HeldZ B X.stack a (Zc cls d) X.env.locals s'.heap ∧ H' a = none ∧ s'.os = sI.os ∧ AllBare s'.gens ∧ W cls d σ H'
section
variable {X : Cx} {s3 s' : Shared} {H3 : Hp} {scope : Scope} {ce : Env} {fp : List Addr} {xe : Value → Shared → Prop} {W : WX} {u : Value} {E₁ : Value → Shared → Prop}
theorem noted1 (hs : X.stack = X.env :: X.outer) (hf : X.env.frame = some X.env.locals) (hfr : X.A.frames = some X.stack) (hce : ce.frame = X.env.frame) (x : XE (X.blx s3 H3 scope ce fp xe) W u s') :
    wpAny (model X.prog X.w) X.A (noteFrame u ce) (fun _ s'' => XN X s3 H3 scope ce fp W u s'') E₁ s' := by
  obtain ⟨a, B, sI, pins, σ, H, cls, d, rfl, I, nb, up, sky, na, os, ag, w⟩ := x
  rw [noteFrame_env _ hce]
  have fin : ∀ h', HandSPX.HeldZ B X.stack a (Zc cls d) X.env.locals h' → s'.heap.UpToSlots h' → XN X s3 H3 scope ce fp W (.ref a) { s' with heap := h' } := fun h' hh up' =>
    ⟨a, B, sI, pins, σ, H, cls, d, rfl, I.unwish, nb, up.trans up', hh, na, os, ag, w⟩
  have sky' : Sky B X.stack a (Zc cls d) ce.locals s'.heap := sky
  rw [hs] at sky' fin hfr
  rcases sky' with ⟨hB, hn, hl, oe, vs, he, hz, hd, h1⟩ | fl | hd
  · exact HandSPX.look_newZ Zc.steady hfr hl hf he hB hn hd h1 hz fin
  · exact HandSPX.looks_onZ Zc.steady hfr hf fl fin
  · by_cases hL : ce.locals = X.env.locals
    · rw [hL] at hd
      exact HandSPX.againZ hf hd.2.2.2 (fin s'.heap hd (Heap.UpToSlots.refl _))
    · exact HandSPX.looks_otherZ Zc.steady hfr hf hL hd fin
theorem noted2 (hf : X.env.frame = some X.env.locals) (hce : ce.frame = X.env.frame) (x : XN X s3 H3 scope ce fp W u s') :
    wpAny (model X.prog X.w) X.A (noteFrame u ce) (fun _ s'' => XN X s3 H3 scope ce fp W u s'') E₁ s' := by
  have x' := x
  obtain ⟨a, B, sI, pins, σ, H, cls, d, rfl, I, nb, up, hh, na, os, ag, w⟩ := x
  exact HandSPX.againZ (hce.trans hf) hh.2.2.2 x'
theorem cameBack (hf : X.env.frame = some X.env.locals) (hce : ce.frame = X.env.frame) (x : XN X s3 H3 scope ce fp W u s') {E : Value → Shared → Prop} (hE : ∀ s'', XN X s3 H3 scope ce fp W u s'' → E u s'') :
    cameBackBy (model X.prog X.w) X.A ce E u s' := by
  obtain ⟨a, B, sI, pins, σ, H, cls, d, rfl, I, nb, up, hh, na, os, ag, w⟩ := x
  obtain ⟨_, _, _, oe, vs, T, oT, ts, he, hz, hd, h1, hnT, hTe, hT, hdT, h3⟩ := id hh
  unfold cameBackBy
  refine wpAny_bind (wpAny_field he hd h1 ?_)
  rw [if_neg (show ¬ ((Value.ref T == Value.none) = true) from by simp)]
  rw [hce, hf]
  exact HandSPX.setFlight_onZ hh fun h₃ hh3 k3 => hE _ ⟨a, B, sI, pins, σ, H, cls, d, rfl, I, nb, up.trans k3, hh3, na, os, ag, w⟩
/-- out of the comprehension: the block is let go -/
theorem XN.fails {pins0 : List (Addr × Obj)} {σ0 : St} {W' : WX} (I3 : Inv X pins0 σ0 H3 s3) (f3 : ∀ b ∈ fp, FpOk X pins0 H3 b) (hL : ce.locals = s3.heap.objs.size) (hf : X.env.frame = some X.env.locals) (hce : ce.frame = X.env.frame)
    (tk : Takes X W') (hW : ∀ cls d σ H, W cls d σ H → W' cls d σ0 H) (x : XN X s3 H3 scope ce fp W u s') : CompFails (model X.prog X.w) X.A X.xe ce u s' := by
  obtain ⟨a, B, sI, pins, σ, H, cls, d, rfl, I, nb, up, hh, na, os, ag, w⟩ := x
  obtain ⟨m, hn, _⟩ := id I.loc
  have hn : sI.heap.Ns ce.locals m := hn
  have hn' : s'.heap.Ns ce.locals m := hn.upToSlots up
  refine ⟨m, hn', fun h₂ m₂ hn₂ hs₂ => ?_⟩
  have hC0 : H ce.locals = none := I.free
  obtain ⟨b1, b0, f1, oe, vs, T, oT, ts, he, hz, hd, h1, hnT, hTe, hT, hdT, h3⟩ := hh
  have sub : ∀ (h : Heap) b o, (PySem.W.hideAll h [ce.locals]).get? b = some o → h.get? b = some o ∧ b ≠ ce.locals := fun h b o e => by
    refine ⟨PySem.W.of_hideAll _ e, fun z => ?_⟩
    rw [z, PySem.W.hideAll_none _ List.mem_cons_self] at e
    cases e
  have get : ∀ (h : Heap) b o, h.get? b = some o → b ≠ ce.locals → (PySem.W.hideAll h [ce.locals]).get? b = some o := fun h b o e n => PySem.W.hideAll_get _ e (by simpa using n)
  have non : ∀ b, B.get? b = none → (PySem.W.hideAll B [ce.locals]).get? b = none := fun b e => by
    cases q : (PySem.W.hideAll B [ce.locals]).get? b with
    | none => rfl
    | some o => rw [(sub B b o q).1] at e; cases e
  have b2 : (PySem.W.hideAll B [ce.locals]).StaysIn h₂ := fun b o hb => (hs₂.2 b (sub B b o hb).2).trans (b1 b o (sub B b o hb).1)
  have f2 : h₂.FunFrames (PySem.W.hideAll B [ce.locals]) X.stack := Heap.FunFrames.sameBut hs₂ hn₂ (funFrames_none f1 fun L hL => non L (f1.mem hL).1)
  have nC : ∀ b o vs, s'.heap.get? b = some o → o.data = .fields vs → b ≠ ce.locals := fun b o vs e e2 z => by
    obtain ⟨oL, es, ep, hoL, hdL, r⟩ := hn'
    rw [z, hoL] at e
    cases e
    rw [hdL] at e2
    cases e2
  have he2 := (hs₂.2 a (nC a oe vs he hd)).trans he
  have t2 : HandSPX.TracedZ h₂ (PySem.W.hideAll B [ce.locals]) a (Zc cls d) (rawInt X.env.locals) := ⟨oe, vs, T, oT, ts, he2, hz, hd, h1, non T hnT, hTe, (hs₂.2 T (nC T oT ts hT hdT)).trans hT, hdT, h3⟩
  unfold PySem.passOn
  refine wpAny_bind (wpAny_field he2 hd h1 ?_)
  rw [if_neg (show ¬ ((Value.ref T == Value.none) = true) from by simp)]
  rw [hce, hf]
  refine wpAny_bind (HandSPX.setFlight_onZ ⟨b2, non a b0, f2, t2⟩ fun h₃ hh3 k3 => ?_)
  have base : Un (frs X.stack) fp H3 H s3.heap sI.heap := I.base
  have lt : ∀ b o, s3.heap.get? b = some o → b ≠ ce.locals := fun b o e z => Nat.lt_irrefl _ (by rw [z, hL] at e; exact Heap.lt_size e)
  have J : Inv X pins0 σ0 H { sI with heap := PySem.W.hideAll sI.heap [ce.locals] } := I3.call' (ch := fp) I.os
    ⟨fun b o e n hb hx => get _ b _ (base.keep b o e n hb hx) (lt b o e), fun b o e n hb hx => by
        obtain ⟨sl, q⟩ := base.slot b o e n hb hx
        exact ⟨sl, get _ b _ q (lt b o e)⟩, base.free, fun b o e hx => by
        obtain ⟨o', q⟩ := base.there b o e hx
        exact ⟨o', get _ b _ q (lt b o e)⟩, base.tups, base.frzs, base.tbls⟩
    (fun b o q => (I.hok b o q).stay (fun c v hc r => get _ c _ r fun z => by
        rcases hc with hc | hc
        · rw [← hc, z, hC0] at q; cases q
        · rw [z, hC0] at hc; cases hc) (fun _ r => r) fun _ _ r => r)
    I.bare fun b hb => ⟨(f3 b hb).2.2.2.1, (f3 b hb).2.1, (f3 b hb).2.2.2.2.1, (f3 b hb).2.2.2.2.2⟩
  refine wpAny_throw (tk _ _ ⟨a, PySem.W.hideAll B [ce.locals], { sI with heap := PySem.W.hideAll sI.heap [ce.locals] }, pins0, σ0, H, cls, d, rfl, J, fun b o e hb => ?_, fun b o e hnf => ?_, .inr (.inr hh3), na, os, ag, hW _ _ _ _ w⟩)
  · obtain ⟨e1, e2⟩ := sub _ b o e
    exact get _ b o (nb b o e1 hb) e2
  · obtain ⟨e1, e2⟩ := sub _ b o e
    obtain ⟨sl, q⟩ := up b o e1 hnf
    exact k3 b _ ((hs₂.2 b e2).trans q) hnf |>.imp fun sl' z => z
end
end L2
/-! # List comprehensions over two, out of which an exception may go -/
namespace L2
open PySem PySem.Spec PyProof.Rows
section
variable {prog : Program} {w : World} {A : Around} {R : Result → Shared → Prop} {s : Shared} {elt t0 i0 t1 i1 : Expr} {ifs0 ifs1 : List Expr} {scope : Scope} {pos : Pos} {it acc : Value} {env : Env}
/-- the loop of the first clause; an exception of the inner one goes on -/
theorem loopX_out (hs : ∀ x, foldedSetIterable i1 env x = pure x) (I : Nat → Shared → Prop)
    (turn : ∀ n s, I n s → wpAny (model prog w) A (pyNext it) (fun r s₁ => match r with
      | none => R (.ok .next) s₁
      | some v => wpAny (model prog w) A (letOwnedTupleGo t0 it v) (fun _ s₁' => wpAny (model prog w) A (assign t0 env v) (fun _ s₂ =>
          wpAny (model prog w) A (forIn ifs0 true fun c r => if r = true then do let ok ← isTrue c env (eval c env); pure (ForInStep.yield ok) else pure (ForInStep.yield r)) (fun ok s₃ =>
            if ok = true then wpAny (model prog w) A (eval i1 env) (fun x s₄ => wpAny (model prog w) A (pyIter x) (fun it1 s₅ =>
              codeAny (model prog w) A (.compStart (.ListComp elt [⟨t0, i0, ifs0, 0⟩, ⟨t1, i1, ifs1, 0⟩] scope pos) 1 it1 acc env) (fun r s' => match r with
                | .ok _ => ∃ m, m < n ∧ I m s'
                | .error e => cameBackBy (model prog w) A env (notedBy (model prog w) A env fun e s' => R (.error e) s') e s') s₅) (notedBy (model prog w) A env fun e s' => R (.error e) s') s₄) (notedBy (model prog w) A env fun e s' => R (.error e) s') s₃
            else ∃ m, m < n ∧ I m s₃) (notedBy (model prog w) A env fun e s' => R (.error e) s') s₂) (notedBy (model prog w) A env fun e s' => R (.error e) s') s₁') (notedBy (model prog w) A env fun e s' => R (.error e) s') s₁) (notedBy (model prog w) A env fun e s' => R (.error e) s') s)
    (n : Nat) (h : I n s) :
    codeAny (model prog w) A (.compLoop (.ListComp elt [⟨t0, i0, ifs0, 0⟩, ⟨t1, i1, ifs1, 0⟩] scope pos) 0 it acc env) R s := by
  refine codeAny_loop rfl I (fun n s hI => ?_) n h
  show wpAny _ A ((compTurn (.ListComp elt [⟨t0, i0, ifs0, 0⟩, ⟨t1, i1, ifs1, 0⟩] scope pos) 0 it acc env).onRaise (fun x => do noteFrame x env; theTreesLotGoes x)) _ _ s
  refine wpAny_noted ?_
  rw [compTurn2_out]
  refine wpAny_bind (wpAny_standAt (wpAny_bind (wpAny_mono (turn n s hI) (fun r s₁ h₁ => ?_) fun _ _ h' => h')))
  cases r with
  | none => exact wpAny_pure h₁
  | some v =>
    refine wpAny_bind (wpAny_mono h₁ (fun _ s₁' h₁' => ?_) fun _ _ h' => h')
    refine wpAny_bind (wpAny_mono h₁' (fun _ s₂ h₂ => wpAny_bind (wpAny_mono h₂ (fun ok s₃ h₃ => ?_) fun _ _ h' => h')) fun _ _ h' => h')
    cases ok with
    | false => exact wpAny_pure ⟨rfl, h₃⟩
    | true =>
      refine wpAny_bind (wpAny_mono h₃ (fun x s₄ h₄ => ?_) fun _ _ h' => h')
      refine wpAny_bind (wpAny_standAt (wpAny_bind (wpAny_of_eq (hs x) (wpAny_bind (wpAny_holding (wpAny_mono h₄ (fun it1 s₅ h₅ => ?_) fun _ _ h' => h'))))))
      refine wpAny_bind (wpAny_runOwn ?_)
      rw [Around.mark_none]
      refine codeAny_mono h₅ fun r s' hr => ?_
      cases r with
      | ok f =>
        first
          | exact wpAny_pure ⟨rfl, hr⟩
          | exact wpAny_bind (wpAny_pure (wpAny_pure ⟨rfl, hr⟩))
      | error e => exact hr
end
/-- the wish of a block at the slots σ -/
abbrev WB (W : WX) (σ : St) : WX := fun cls d _ H => W cls d σ H
/-- in each block of X that lets exceptions out -/
abbrev BlkX (X : Cx) (scope : Scope) (P : Cx → WX → Prop) : Prop := ∀ (W : WX) (xe : Value → Shared → Prop) (s : Shared) (H : Hp) (C : Addr) (cl : List (Str × Addr)) (fp : List Addr),
  Takes (X.blx s H scope (PySem.compEnvC scope cl C X.env) fp xe) W → P (X.blx s H scope (PySem.compEnvC scope cl C X.env) fp xe) W
section
variable {X : Cx}
theorem lcX_core {W : WX} {pins : List (Addr × Obj)} {s : Shared} {σ : St} {H : Hp} {Q : VK} {elt tg iter tg1 iter1 : Expr} {ifs ifs1 : List Expr} {scope : Scope} {own : List (Str × Nat)} {vs1 : List Nat} {pos pos' : Pos} {wi : TI} {wi1 : WX → TI} {g g1 : TG} {tt tt1 : WX → TT} {te : WX → TE} {use : Option (Value → Sem Unit)} {Qf : Value → Shared → Prop}
    (hc : X.calm = true) (hN : X.N.Nodup) (I : Inv X pins σ H s) (hst : X.stack = X.env :: X.outer) (hf : X.env.frame = some X.env.locals) (tk : Takes X W) (hi : PI X tg iter wi) (ok : BlkOk X.N X.env.scope scope own) (hv : ∀ i ∈ vs1, i ∈ own.map (·.2))
    (hg : BlkX X scope fun Y _ => PG Y tg g) (ht : BlkX X scope fun Y W' => PTs Y ifs (tt W')) (he : BlkX X scope fun Y W' => PE Y elt (te W')) (hs : ∀ x, foldedSetIterable iter X.env x = pure x)
    (hi1 : BlkX X scope fun Y W' => PI Y tg1 iter1 (wi1 W')) (hg1 : BlkX X scope fun Y _ => PG Y tg1 g1) (ht1 : BlkX X scope fun Y W' => PTs Y ifs1 (tt1 W')) (hs1 : ∀ env x, foldedSetIterable iter1 env x = pure x)
    (h : tLc2 wi g (tt (WB W σ)) (wi1 (WB W σ)) g1 (tt1 (WB W σ)) (te (WB W σ)) (own.map (·.2)) vs1 σ H Q)
    (hRR : ∀ D (ce : Env) s' m H', Inv X pins σ H' s' → Q (.ref D) H' → s'.heap.Ns ce.locals m → FpOk X pins H' ce.locals → compEnds (model X.prog X.w) X.A X.xe use Qf (.ref D) ce (.ok .next) s') :
    wpAny (model X.prog X.w) X.A (comprehension (.ListComp elt [⟨tg, iter, ifs, 0⟩, ⟨tg1, iter1, ifs1, 0⟩] scope pos) scope X.env pos' (newList []) false (eval iter X.env) use) Qf X.xe s := by
  have hfree : ∀ y ∈ scope.names, y.2 = .free → ∃ c, X.env.cells.lookup y.1 = some c := fun y hy e => by
    rcases ok.free y hy e with k | k
    · exact I.ok.has _ (.inl k)
    · exact I.ok.has _ (.inr k)
  refine comprehension_at (use := use) rfl hs (closure_ok hfree) ok.kind (fun y hy e => by rw [ok.uniq y hy, e])
    (thn (hi.run pins s σ H _ I h) fun xv s1 hx => thn hx fun itv s2 h2 => ?_)
  obtain ⟨it, fp, tn, J, H2, e, I2, T, st2, f2, q⟩ := h2
  subst e
  refine wpAny_newObj_type (newEnv_comp ?_) (by show 0 ≤ sizeLine; decide)
  generalize hD : s2.heap.objs.size = D
  have hDn : H2 D = none := I2.hok.fresh (Nat.le_of_eq hD)
  obtain ⟨Wf, ⟨m0, w0⟩, turn⟩ := q D hDn
  -- the new list
  generalize hs3 : ({ s2 with heap := s2.heap.push { cls := .type "list", data := .seq ([] : List Value).toArray } } : Shared) = s3
  have I3 : Inv X pins σ (upd H2 D (.lst [])) s3 := by
    rw [← hs3]
    refine I2.laid (t' := s2.toks) (fun b o e => Heap.get?_push_of_some _ e) (Nat.le_of_eq hD) ⟨Nat.zero_le _, [], 0, .nil, ?_⟩
    rw [← hD]
    exact Heap.get?_push_size _ rfl
  have h3 : s3.heap = s2.heap.push { cls := .type "list", data := .seq ([] : List Value).toArray } := by rw [← hs3]
  have sz : ∀ b ∈ fp, b < s2.heap.objs.size := fun b hb => by
    obtain ⟨o, e, _⟩ := T.obj _ _ st2 b hb
    exact Heap.lt_size e
  have f3 : ∀ b ∈ fp, FpOk X pins (upd H2 D (.lst [])) b ∧ b < s3.heap.objs.size := fun b hb => by
    have hlt := sz b hb
    refine ⟨⟨?_, (f2 b hb).2⟩, by rw [h3, Heap.size_push]; exact Nat.lt_succ_of_lt hlt⟩
    rw [upd_ne (by rw [← hD]; exact Nat.ne_of_lt hlt)]
    exact (f2 b hb).1
  have st3 : tn 0 s3.heap := T.keep _ _ _ st2 fun b _ o e => by rw [h3]; exact Heap.get?_push_of_some _ e
  have I4 := block_start I3 ok hN f3
  have nfp : ∀ b ∈ fp, (upd H2 D (.lst [])) b = none := fun b hb => (f3 b hb).1.1
  -- what a block lets out is taken
  generalize hce : compEnvC scope (cellsFrom (s3.heap.objs.size + 1) scope.names (cloFrom X.env.cells scope.names [])) s3.heap.objs.size X.env = ce
  have cL : ce.locals = s3.heap.objs.size := by subst hce; rfl
  have cF : ce.frame = X.env.frame := by subst hce; rfl
  generalize hH3 : upd H2 D (.lst []) = H3 at I3 I4 w0 nfp f3
  have fail : ∀ {u : Value} {s' : Shared}, XN X s3 H3 scope ce fp (WB W σ) u s' → CompFails (model X.prog X.w) X.A X.xe ce u s' := fun {u s'} x =>
    x.fails I3 (fun b hb => (f3 b hb).1) cL hf cF tk fun cls d _ H w => w
  obtain ⟨x1, hx1⟩ : ∃ x1 : Value → Shared → Prop, x1 = notedBy (model X.prog X.w) X.A ce (fun e s' => compEnds (model X.prog X.w) X.A X.xe use Qf (.ref D) ce (.error e) s') := ⟨_, rfl⟩
  obtain ⟨x2, hx2⟩ : ∃ x2 : Value → Shared → Prop, x2 = notedBy (model X.prog X.w) X.A ce (fun e s' => cameBackBy (model X.prog X.w) X.A ce x1 e s') := ⟨_, rfl⟩
  have n1 : ∀ {u : Value} {s' : Shared}, XN X s3 H3 scope ce fp (WB W σ) u s' → x1 u s' := fun {u s'} x => by
    rw [hx1]
    exact wpAny_mono (noted2 hf cF x) (fun _ _ x' => fail x') fun _ _ e => e
  have tk1 : Takes (X.blx s3 H3 scope ce fp x1) (WB W σ) := fun u s' x => by
    show x1 u s'
    rw [hx1]
    exact wpAny_mono (noted1 hst hf I.ok.frames cF x) (fun _ _ x' => fail x') fun _ _ e => e
  have tk2 : Takes (X.blx s3 H3 scope ce fp x2) (WB W σ) := fun u s' x => by
    show x2 u s'
    rw [hx2]
    exact wpAny_mono (noted1 hst hf I.ok.frames cF x) (fun _ _ x' => cameBack hf cF x' fun _ y => n1 y) fun _ _ e => e
  have pg : PG (X.blx s3 H3 scope ce fp x1) tg g := by subst hce; exact hg _ x1 s3 H3 _ _ fp tk1
  have pt : PTs (X.blx s3 H3 scope ce fp x1) ifs (tt (WB W σ)) := by subst hce; exact ht _ x1 s3 H3 _ _ fp tk1
  have pi1 : PI (X.blx s3 H3 scope ce fp x1) tg1 iter1 (wi1 (WB W σ)) := by subst hce; exact hi1 _ x1 s3 H3 _ _ fp tk1
  have pe : PE (X.blx s3 H3 scope ce fp x2) elt (te (WB W σ)) := by subst hce; exact he _ x2 s3 H3 _ _ fp tk2
  have pg1 : PG (X.blx s3 H3 scope ce fp x2) tg1 g1 := by subst hce; exact hg1 _ x2 s3 H3 _ _ fp tk2
  have pt1 : PTs (X.blx s3 H3 scope ce fp x2) ifs1 (tt1 (WB W σ)) := by subst hce; exact ht1 _ x2 s3 H3 _ _ fp tk2
  rw [hce] at I4
  have I4 : Inv (X.blx s3 H3 scope ce fp x1) [] (wipe σ (own.map (·.2))) H3 _ := I4.wish x1
  show codeAny _ _ (.compStart (.ListComp elt [⟨tg, iter, ifs, 0⟩, ⟨tg1, iter1, ifs1, 0⟩] scope pos) 0 (.ref it) (.ref D) (compEnvC scope (cellsFrom (s3.heap.objs.size + 1) scope.names (cloFrom X.env.cells scope.names [])) s3.heap.objs.size X.env)) (compEnds (model X.prog X.w) X.A X.xe use Qf (.ref D) (compEnvC scope (cellsFrom (s3.heap.objs.size + 1) scope.names (cloFrom X.env.cells scope.names [])) s3.heap.objs.size X.env)) { s3 with heap := pushCells (s3.heap.push { cls := .type "dict", data := .dict #[] }) scope.names }
  rw [hce]
  generalize hs4 : ({ s3 with heap := pushCells (s3.heap.push { cls := .type "dict", data := .dict #[] }) scope.names } : Shared) = s4 at I4 ⊢
  have st4 : tn 0 s4.heap := T.keep _ _ _ st3 fun b _ o e => by rw [← hs4]; exact pushCells_keeps _ _ _ _ (Heap.get?_push_of_some _ e)
  have stat : ∀ {σ' : St} {H' : Hp} {s' : Shared}, Inv (X.blx s3 H3 scope ce fp x1) [] σ' H' s' → (∀ b ∈ fp, H' b = none) → ∀ b ∈ fp, FpOk (X.blx s3 H3 scope ce fp x1) [] H' b := fun {σ' H' s'} I' hn b hb =>
    ⟨hn b hb, (I'.ok.exf b hb).1, I'.ok.exfs b hb, .inl hb, fun x c e => (I'.ok.exf b hb).2 x c e, fun p hp => absurd (show p ∈ ([] : List (Addr × Obj)) ++ [] from hp) (by simp)⟩
  have loop : codeAny (model X.prog X.w) X.A (.compLoop (.ListComp elt [⟨tg, iter, ifs, 0⟩, ⟨tg1, iter1, ifs1, 0⟩] scope pos) 0 (.ref it) (.ref D) ce) (compEnds (model X.prog X.w) X.A X.xe use Qf (.ref D) ce) s4 := by
    refine loopX_out (hs1 ce) (fun n s' => ∃ i H', Inv (X.blx s3 H3 scope ce fp x1) [] (wipe σ (own.map (·.2))) H' s' ∧ tn i s'.heap ∧ (∀ b ∈ fp, H' b = none) ∧ Wf i n H') ?_ m0 ⟨0, H3, I4, st4, nfp, w0⟩
    rw [← hx1]
    rintro n s5 ⟨i, H5, I5, st5, n5, w5⟩
    rcases turn i n H5 w5 with ⟨stop, qq⟩ | ⟨go, Nx, hNx, step⟩
    · have td := T.done (X.blx s3 H3 scope ce fp x1) rfl rfl rfl hc i [] s5 _ H5 (fun _ _ => False) I5 (stat I5 n5) st5 stop
      refine thnF td fun r s6 ⟨hr, I6⟩ => ?_
      subst hr
      -- back in the def's context
      have I7 : Inv X pins σ H5 s6 := I3.call' (ch := fp) I6.os I6.base I6.hok I6.bare fun b hb => ⟨(f3 b hb).1.2.2.2.1, (f3 b hb).1.2.1, (f3 b hb).1.2.2.2.2.1, (f3 b hb).1.2.2.2.2.2⟩
      have nC : H5 ce.locals = none := I6.free
      obtain ⟨m, hn, _⟩ := I6.loc
      have hn : s6.heap.Ns ce.locals m := hn
      exact hRR D ce s6 m H5 I7 qq hn (by rw [cL] at nC ⊢; exact I3.fpOk (Nat.le_refl _) nC)
    · have ti := T.item (X.blx s3 H3 scope ce fp x1) rfl rfl rfl hc i [] s5 _ H5 (fun _ _ => False) I5 (stat I5 n5) st5 go
      refine thnF ti fun r s6 ⟨u, hr, h6⟩ => ?_
      subst hr
      refine thnF h6 fun _ s7 ⟨x, H7, I7, r7, y7, st7, n7⟩ => ?_
      have I7' := I7.pinned (stat I7 n7) (T.obj _ _ st7)
      refine thn (pg.run _ s7 _ H7 x u _ I7' r7 (step x H7 y7)) fun _ s8 ⟨σ8, H8, I8, hw8, q8⟩ => ?_
      refine thn (pt.run _ s8 σ8 H8 _ I8 q8) fun b s9 ⟨H9, I9, q9⟩ => ?_
      -- the turn's end, from any slots that know what the block knew at its start
      have fin : ∀ {σ9 : St} {s' : Shared} {H' : Hp}, Inv (X.blx s3 H3 scope ce fp x1) ([] ++ pinsAt fp s7.heap) σ9 H' s' → (wipe σ (own.map (·.2))).length = σ9.length → (∀ (j : Nat) v, (wipe σ (own.map (·.2)))[j]? = some (some v) → σ9[j]? = some (some v)) → Nx H' →
          ∃ m, m < n ∧ ∃ i H', Inv (X.blx s3 H3 scope ce fp x1) [] (wipe σ (own.map (·.2))) H' s' ∧ tn i s'.heap ∧ (∀ b ∈ fp, H' b = none) ∧ Wf i m H' := fun {σ9 s' H'} I' hl hk nx => by
        obtain ⟨m', hm, w'⟩ := hNx H' nx
        have pin' : ∀ b ∈ fp, ∀ o, s7.heap.get? b = some o → s'.heap.get? b = some o ∧ H' b = none := fun b hb o e =>
          let z := I'.pin (b, o) (List.mem_append_right _ (List.mem_append_right _ (mem_pinsAt hb e)))
          ⟨z.1, z.2.1⟩
        refine ⟨m', hm, i + 1, H', (I'.unpinned (pins := [])).weak hl hk, T.keep _ _ _ st7 fun b hb o e => (pin' b hb o e).1, fun b hb => ?_, w'⟩
        obtain ⟨o, e, _⟩ := T.obj _ _ st7 b hb
        exact (pin' b hb o e).2
      have hl8 : (wipe σ (own.map (·.2))).length = σ8.length := by rw [← hw8, wipe_length]
      have hk8 : ∀ (j : Nat) v, (wipe σ (own.map (·.2)))[j]? = some (some v) → σ8[j]? = some (some v) := fun j v e => by
        rw [← hw8] at e
        exact (wipe_some e).1
      have hk9 : ∀ (j : Nat) v, (wipe σ (own.map (·.2)))[j]? = some (some v) → (wipe σ8 vs1)[j]? = some (some v) := fun j v e => by
        rw [← hw8] at e
        obtain ⟨e1, e2⟩ := wipe_some e
        rw [wipe_out fun z => e2 (hv j z)]
        exact e1
      cases b with
      | false =>
        simp only [Bool.false_eq_true, if_false] at q9 ⊢
        exact fin I9 hl8 hk8 q9
      | true =>
        simp only [if_true] at q9 ⊢
        refine thn (pi1.run _ s9 σ8 H9 _ I9 q9) fun xv s10 hx => thn hx fun itv s11 h11 => ?_
        obtain ⟨it1, fp1, tn1, J1, H11, e1, I11, T1, st11, f11, W1, ⟨m1, w1⟩, turn1⟩ := h11
        subst e1
        -- the inner loop
        have stat1 : ∀ {H' : Hp}, (∀ b ∈ fp1, H' b = none) → ∀ b ∈ fp1, FpOk (X.blx s3 H3 scope ce fp x2) ([] ++ pinsAt fp s7.heap) H' b := fun hn b hb => ⟨hn b hb, (f11 b hb).2⟩
        have I11' : Inv (X.blx s3 H3 scope ce fp x2) ([] ++ pinsAt fp s7.heap) σ8 H11 s11 := (I11.unwish).wish x2
        have loop1 : codeAny (model X.prog X.w) X.A (.compLoop (.ListComp elt [⟨tg, iter, ifs, 0⟩, ⟨tg1, iter1, ifs1, 0⟩] scope pos) 1 (.ref it1) (.ref D) ce)
            (fun r s' => match r with
              | .ok _ => ∃ m, m < n ∧ ∃ i H', Inv (X.blx s3 H3 scope ce fp x1) [] (wipe σ (own.map (·.2))) H' s' ∧ tn i s'.heap ∧ (∀ b ∈ fp, H' b = none) ∧ Wf i m H'
              | .error e => cameBackBy (model X.prog X.w) X.A ce x1 e s') s11 := by
          refine compLoop2_in (fun k s' => ∃ j H', Inv (X.blx s3 H3 scope ce fp x2) ([] ++ pinsAt fp s7.heap) (wipe σ8 vs1) H' s' ∧ tn1 j s'.heap ∧ (∀ b ∈ fp1, H' b = none) ∧ W1 j k H') ?_ m1 ⟨0, H11, I11'.weak (wipe_length _ _) (fun j v e => (wipe_some e).1), st11, fun b hb => (f11 b hb).1, w1⟩
          rw [← hx2]
          rintro k s12 ⟨j, H12, I12, st12, n12, w12⟩
          rcases turn1 j k H12 w12 with ⟨stop1, nx1⟩ | ⟨go1, Nx1, hNx1, step1⟩
          · refine thnF (T1.done (X.blx s3 H3 scope ce fp x2) rfl rfl rfl hc j _ s12 (wipe σ8 vs1) H12 (fun _ _ => False) I12 (stat1 n12) st12 stop1) fun r s13 ⟨hr, I13⟩ => ?_
            subst hr
            exact fin (I13.unwish.wish x1) (hl8.trans (wipe_length σ8 vs1).symm) hk9 nx1
          · refine thnF (T1.item (X.blx s3 H3 scope ce fp x2) rfl rfl rfl hc j _ s12 (wipe σ8 vs1) H12 (fun _ _ => False) I12 (stat1 n12) st12 go1) fun r s13 ⟨u1, hr, h13⟩ => ?_
            subst hr
            refine thnF h13 fun _ s14 ⟨x1v, H14, I14, r14, y14, st14, n14⟩ => ?_
            have I14' := I14.pinned (stat1 n14) (T1.obj _ _ st14)
            refine thn (pg1.run _ s14 (wipe σ8 vs1) H14 x1v u1 _ I14' r14 (step1 x1v H14 y14)) fun _ s15 ⟨σ15, H15, I15, hw15, q15⟩ => ?_
            refine thn (pt1.run _ s15 σ15 H15 _ I15 q15) fun b1 s16 ⟨H16, I16, q16⟩ => ?_
            have fin1 : ∀ {s' : Shared} {H' : Hp}, Inv (X.blx s3 H3 scope ce fp x2) (([] ++ pinsAt fp s7.heap) ++ pinsAt fp1 s14.heap) σ15 H' s' → Nx1 H' → ∃ m, m < k ∧ ∃ j H', Inv (X.blx s3 H3 scope ce fp x2) ([] ++ pinsAt fp s7.heap) (wipe σ8 vs1) H' s' ∧ tn1 j s'.heap ∧ (∀ b ∈ fp1, H' b = none) ∧ W1 j m H' := fun {s' H'} I' nx => by
              obtain ⟨m', hm, w'⟩ := hNx1 H' nx
              have pin' : ∀ b ∈ fp1, ∀ o, s14.heap.get? b = some o → s'.heap.get? b = some o ∧ H' b = none := fun b hb o e =>
                let z := I'.pin (b, o) (List.mem_append_right _ (List.mem_append_right _ (mem_pinsAt hb e)))
                ⟨z.1, z.2.1⟩
              refine ⟨m', hm, j + 1, H', I'.unpinned.weak (by rw [← hw15, wipe_length]) (fun j v e => by rw [← hw15] at e; exact (wipe_some e).1), T1.keep _ _ _ st14 fun b hb o e => (pin' b hb o e).1, fun b hb => ?_, w'⟩
              obtain ⟨o, e, _⟩ := T1.obj _ _ st14 b hb
              exact (pin' b hb o e).2
            cases b1 with
            | false =>
              simp only [Bool.false_eq_true, if_false] at q16 ⊢
              exact fin1 I16 q16
            | true =>
              simp only [if_true] at q16 ⊢
              refine thn (pe.run _ s16 σ15 H16 _ I16 q16) fun z s17 ⟨yv, H17, I17, r17, acc, hD17, hz17, nx⟩ => ?_
              exact app_ok (X := X.blx s3 H3 scope ce fp x2) I17 hD17 hz17 r17 fun s18 I18 => fin1 I18 nx
        exact compStart1_ok loop1 (T1.self X.A 0 _ _ _ st11 loop1)
  exact codeAny_compStart_list loop (T.self X.A 0 _ _ _ st4 loop)
/-- as a value -/
theorem pe_lcX {W : WX} {elt tg iter tg1 iter1 : Expr} {ifs ifs1 : List Expr} {scope : Scope} {own : List (Str × Nat)} {vs1 : List Nat} {pos : Pos} {wi : TI} {wi1 : WX → TI} {g g1 : TG} {tt tt1 : WX → TT} {te : WX → TE} (hc : X.calm = true) (hN : X.N.Nodup) (hst : X.stack = X.env :: X.outer) (hf : X.env.frame = some X.env.locals) (tk : Takes X W) (hi : PI X tg iter wi) (ok : BlkOk X.N X.env.scope scope own) (hv : ∀ i ∈ vs1, i ∈ own.map (·.2))
    (hg : BlkX X scope fun Y _ => PG Y tg g) (ht : BlkX X scope fun Y W' => PTs Y ifs (tt W')) (hi1 : BlkX X scope fun Y W' => PI Y tg1 iter1 (wi1 W')) (hg1 : BlkX X scope fun Y _ => PG Y tg1 g1) (ht1 : BlkX X scope fun Y W' => PTs Y ifs1 (tt1 W')) (he : BlkX X scope fun Y W' => PE Y elt (te W'))
    (hs : ∀ x, foldedSetIterable iter X.env x = pure x := by intro _; rfl) (hs1 : ∀ env x, foldedSetIterable iter1 env x = pure x := by intro _ _; rfl) :
    PE X (.ListComp elt [⟨tg, iter, ifs, 0⟩, ⟨tg1, iter1, ifs1, 0⟩] scope pos) (fun σ H Q => tLc2 wi g (tt (WB W σ)) (wi1 (WB W σ)) g1 (tt1 (WB W σ)) (te (WB W σ)) (own.map (·.2)) vs1 σ H Q) := by
  refine ⟨fun pins s σ H Q I h => ?_⟩
  rw [eval_ListComp]
  refine lcX_core hc hN I hst hf tk hi ok hv hg ht he hs hi1 hg1 ht1 hs1 h fun D ce s' m H' I' q hn f => ⟨m, hn, fun h'' sb => ?_⟩
  obtain ⟨f0, f1, f2, f3, f4, f5⟩ := f
  exact ⟨.ref D, H', I'.turned (t' := s'.toks) (fun b o hb e => (sb.2 b hb).trans e) f0 f1 f3 f4 f5, rfl, q⟩
end
end L2
/-! # Mirrors of comprehensions over two, out of which an exception may go -/
namespace MI
open PySem L2
def compGoX (vs : List Nat) (t : D → S → Option S) (c : S → Res Bool) (e : S → Res D) : List D → List D → S → Res (List D)
  | [], acc, s => .ok acc s
  | d :: ds, acc, s => match t d s with
    | none => .stuck
    | some s1 => (c s1).bind fun b s2 => if b = true then (e s2).bind fun y s3 => if acc.length < sizeLine then compGoX vs t c e ds (acc ++ [y]) (wipeS s3 vs) else .stuck
        else compGoX vs t c e ds acc (wipeS s2 vs)
def compGo2X (vs vs1 : List Nat) (t : D → S → Option S) (c : S → Res Bool) (it1 : S → Res (List D)) (t1 : D → S → Option S) (c1 : S → Res Bool) (e : S → Res D) : List D → List D → S → Res (List D)
  | [], acc, s => .ok acc s
  | d :: ds, acc, s => match t d s with
    | none => .stuck
    | some s1 => (c s1).bind fun b s2 => if b = true then (it1 s2).bind fun ds1 s3 => (compGoX vs1 t1 c1 e ds1 acc (wipeS s3 vs1)).bind fun acc1 s4 => compGo2X vs vs1 t c it1 t1 c1 e ds acc1 (wipeS s4 vs)
        else compGo2X vs vs1 t c it1 t1 c1 e ds acc (wipeS s2 vs)
def endX (vs : List Nat) (s1 : S) : Res (List D) → Res RV
  | .ok acc s2 => .ok (.new (.lst acc)) { s2 with env := restE s1.env s2.env vs }
  | .exc c p s2 => .exc c p { s2 with env := restE s1.env (wipeE s2.env vs) vs }
  | .stuck => .stuck
def mComp2X (vs vs1 : List Nat) (it : S → Res (List D)) (t : D → S → Option S) (c : S → Res Bool) (it1 : S → Res (List D)) (t1 : D → S → Option S) (c1 : S → Res Bool) (e : M) : M := fun s => (it s).bind fun ds s1 => if noOwn s1.env vs = true then endX vs s1 (compGo2X vs vs1 t c it1 t1 c1 (mLeak e) ds [] (wipeS s1 vs)) else .stuck
section
variable {K : PySem.W.Frag} {D : Addr} {g0 g : G} {H0 H : Hp} {acc : List MI.D} {avs : List V}
/-- the inner loop -/
theorem loop_inX {vs1 is1 : List Nat} {gt1 : TG} {t1 : MI.D → S → Option S} {mc1 : S → Res Bool} {me : M} {σ2 : St} {W' : WX} (hgt : MGk K gt1 is1 t1) (hsub : ∀ i ∈ is1, i ∈ vs1) {J1 : It} {ds1 : List MI.D} {gA : G} (hJ : Walk K J1 ds1 gA H)
    {acc0 : List MI.D} {avs0 : List V} {sA : S} {r1 : Res (List MI.D)} (k0 : Kp K D g0 H0 gA H acc0 avs0) (oA : Ok K gA sA (wipe σ2 vs1) H) (hgo : compGoX vs1 t1 mc1 (mLeak me) ds1 acc0 sA = r1) (hns : r1 ≠ .stuck) {Nx : Hp → Prop}
    (hN : ∀ acc1 s1f g' H' avs, r1 = .ok acc1 s1f → GLe gA g' → Kp K D g0 H0 g' H' acc1 avs → Ok K g' s1f (wipe σ2 vs1) H' → Nx H')
    (hE : ∀ c p s0 cls d g' H' acc avs σ', r1 = .exc c p s0 → Kp K D g0 H0 g' H' acc avs → Ok K g' s0 σ' H' → wipe σ' vs1 = wipe σ2 vs1 → ExcRep K g' H' cls d c p → W' cls d σ' H') :
    ∃ W1 : Nat → Nat → Hp → Prop, (∃ m, W1 0 m H) ∧ ∀ j k H, W1 j k H →
      (J1.stop j H ∧ Nx H) ∨ (J1.go j H ∧ ∃ Nx1 : Hp → Prop, (∀ H', Nx1 H' → ∃ k', k' < k ∧ W1 (j + 1) k' H') ∧ ∀ x H', J1.yld j H x H' → gt1 x (wipe σ2 vs1) H' fun σ3 H5 => wipe σ3 vs1 = wipe σ2 vs1 ∧ tMT K W' mc1 σ3 H5 fun b H6 =>
        if b = true then tM K W' me σ3 H6 fun y H7 => ∃ acc, H7 D = some (.lst acc) ∧ acc.length < sizeLine ∧ Nx1 (upd H7 D (.lst (acc ++ [y]))) else Nx1 H6) := by
  refine ⟨fun j k H' => k = ds1.length - j ∧ j ≤ ds1.length ∧ ∃ g' s' acc avs, GLe gA g' ∧ (∀ a u, gA.F a = some u → H' a = H a) ∧ Kp K D g0 H0 g' H' acc avs ∧ Ok K g' s' (wipe σ2 vs1) H' ∧ compGoX vs1 t1 mc1 (mLeak me) (ds1.drop j) acc s' = r1,
    ⟨ds1.length, by simp, Nat.zero_le _, gA, sA, acc0, avs0, GLe.refl _, fun _ _ _ => rfl, k0, oA, by simpa using hgo⟩, ?_⟩
  rintro j k H' ⟨rfl, hj, g', s', acc, avs, lg, fk0, kp, o', hg'⟩
  obtain ⟨stp, go⟩ := hJ g' s' _ H' lg fk0 o'
  by_cases hlt : j < ds1.length
  · obtain ⟨d, hd⟩ : ∃ d, ds1[j]? = some d := ⟨_, List.getElem?_eq_getElem hlt⟩
    have hdrop : ds1.drop j = d :: ds1.drop (j + 1) := by
      rw [List.drop_eq_getElem_cons hlt]
      congr 1
      rw [List.getElem?_eq_getElem hlt] at hd
      exact Option.some.inj hd
    obtain ⟨go1, yl⟩ := go j d hd
    refine .inr ⟨go1, fun H3 => ∃ g3 s3 acc avs, GLe gA g3 ∧ (∀ a u, gA.F a = some u → H3 a = H a) ∧ Kp K D g0 H0 g3 H3 acc avs ∧ Ok K g3 s3 (wipe σ2 vs1) H3 ∧ compGoX vs1 t1 mc1 (mLeak me) (ds1.drop (j + 1)) acc s3 = r1, fun H3 z => ⟨ds1.length - (j + 1), by omega, rfl, hlt, z⟩, fun x H2 y => ?_⟩
    obtain ⟨g2, t2, k2, o2, r2⟩ := yl x H2 y
    rw [hdrop] at hg'
    unfold compGoX at hg'
    cases e : t1 d s' with
    | none => simp only [e] at hg'; exact absurd hg'.symm hns
    | some s2 =>
      simp only [e] at hg'
      obtain ⟨ws, o2', hQ⟩ := hgt g2 s' (wipe σ2 vs1) H2 x d s2 o2 r2 e
      have wq : wipe (setAll (wipe σ2 vs1) is1 ws) vs1 = wipe σ2 vs1 := wipe_setAll hsub
      refine hQ _ ⟨wq, g2, s2, o2', ?_⟩
      have kp2 := kp.step t2 k2
      have lg2 := lg.trans t2.le
      have fk2 : ∀ a u, gA.F a = some u → H2 a = H a := fun a u e => (t2.fk a u (lg.F _ _ e)).trans (fk0 a u e)
      cases e2 : mc1 s2 with
      | ok b s3 =>
        simp only [e2, Res.bind_ok] at hg'
        intro g3 H3 t3 k3 o3
        show (if b = true then _ else _)
        cases b with
        | true =>
          rw [if_pos rfl] at hg'
          rw [if_pos rfl]
          unfold mLeak at hg'
          refine ⟨g3, s3, o3, ?_⟩
          cases e3 : me s3 with
          | ok r s4 =>
            simp only [e3, Res.bind_ok] at hg'
            intro g4 H4 t4 k4 o4 v rv
            cases e4 : leak r s4 with
            | none => simp only [e4, Res.bind_stuck] at hg'; exact absurd hg'.symm hns
            | some pr =>
              obtain ⟨y, s5⟩ := pr
              simp only [e4, Res.bind_ok] at hg'
              obtain ⟨g5, t5, k5, o5, ry⟩ := leak_ok o4 rv e4
              have kp5 := kp2.step ((t3.trans t4).trans t5) ((k3.trans k4).trans k5)
              by_cases hz : acc.length < sizeLine
              · rw [if_pos hz] at hg'
                obtain ⟨kp6, o6⟩ := kp5.grow o5 ry
                have ow := o6.wipe (vs := vs1)
                rw [wq] at ow
                exact ⟨avs, kp5.at_, by rw [kp5.rep.length]; exact hz, g5, wipeS s5 vs1, acc ++ [y], avs ++ [v], lg2.trans ((t3.trans t4).trans t5).le, (fun a u e => by
                  have z : a ≠ D := fun z => by
                    have q := lg2.F _ _ e
                    rw [z, (o2.prot D kp2.pD).2.1] at q; cases q
                  rw [upd_ne z]
                  exact (((t3.trans t4).trans t5).fk a u (lg2.F _ _ e)).trans (fk2 a u e)), kp6, ow, hg'⟩
              · rw [if_neg hz] at hg'; exact absurd hg'.symm hns
          | exc c p s4 =>
            simp only [e3, Res.bind_exc] at hg'
            intro cls d g4 H4 t4 k4 o4 x4
            exact hE c p s4 cls d g4 H4 acc avs _ hg'.symm (kp2.step (t3.trans t4) (k3.trans k4)) o4 wq x4
          | stuck => simp only [e3, Res.bind_stuck] at hg'; exact absurd hg'.symm hns
        | false =>
          rw [if_neg (by decide)] at hg'
          rw [if_neg (by decide)]
          have ow := o3.wipe (vs := vs1)
          rw [wq] at ow
          exact ⟨g3, wipeS s3 vs1, acc, avs, lg2.trans t3.le, (fun a u e => (t3.fk a u (lg2.F _ _ e)).trans (fk2 a u e)), kp2.step t3 k3, ow, hg'⟩
      | exc c p s3 =>
        simp only [e2, Res.bind_exc] at hg'
        intro cls d g4 H4 t4 k4 o4 x4
        exact hE c p s3 cls d g4 H4 acc avs _ hg'.symm (kp2.step t4 k4) o4 wq x4
      | stuck => simp only [e2, Res.bind_stuck] at hg'; exact absurd hg'.symm hns
  · have e : j = ds1.length := by omega
    subst e
    refine .inl ⟨stp, ?_⟩
    rw [List.drop_length] at hg'
    exact hN acc s' g' H' avs hg'.symm lg kp o'
end
section
variable {X : Cx} {W : WX}
theorem tLc2_ofX {vs vs1 is is1 : List Nat} {it it1 : S → Res (List D)} {gt gt1 : TG} {t t1 : D → S → Option S} {mc mc1 : S → Res Bool} {me : M} {σ : St} {H : Hp} {Q : VK} {g : G} {s : S}
    (hgt : MGk X.K gt is t) (hsub : ∀ i ∈ is, i ∈ vs) (hgt1 : MGk X.K gt1 is1 t1) (hsub1 : ∀ i ∈ is1, i ∈ vs1) (hv : ∀ i ∈ vs1, i ∈ vs)
    (ok : Ok X.K g s σ H) (h : PostE X.K W σ g s H (kE X.K Q) (mComp2X vs vs1 it t mc it1 t1 mc1 me s)) :
    tLc2 (tMI X.K W it) gt (tMT X.K (WB W σ) mc) (tMI X.K (WB W σ) it1) gt1 (tMT X.K (WB W σ) mc1) (tM X.K (WB W σ) me) vs vs1 σ H Q := by
  refine ⟨g, s, ok, (PostE.bind h).mono fun ds g1 s1 H1 tt1 k1 o1 h1 J hJ D hD => ?_⟩
  split at h1
  · rename_i hno
    obtain ⟨r, hr⟩ : ∃ r, compGo2X vs vs1 t mc it1 t1 mc1 (mLeak me) ds [] (wipeS s1 vs) = r := ⟨_, rfl⟩
    rw [hr] at h1
    have hns : r ≠ .stuck := fun z => by rw [z] at h1; exact h1
    have hexc : ∀ c p s0 cls d g' H' acc avs σ', r = .exc c p s0 → Kp X.K D g1 H1 g' H' acc avs → Ok X.K g' s0 σ' H' → wipe σ' vs = wipe σ vs → ExcRep X.K g' H' cls d c p → W cls d σ H' := by
      intro c p s0 cls d g' H' acc avs σ' er kp o' hw x
      rw [er] at h1
      have npD : ¬ g1.P D := o1.pnone hD
      have lg := kp.le
      have ow := o'.wipe (vs := vs)
      rw [hw] at ow
      have ob := ow.unhold (g0 := g1) (a := D) kp.pp
      have obr := o1.rest hno ob (show GLe g1 (g'.wP g1.P) from ⟨lg.F, lg.ng, lg.adr⟩)
      refine h1 cls d (g'.wP g1.P) H' ⟨⟨lg.F, lg.ng, lg.adr⟩, rfl, fun b hb => ?_, kp.fk (o1.fnone hD)⟩ kp.sk obr (x.mono wP_le)
      have hbD : b ≠ D := fun z => npD (z ▸ hb)
      have q := kp.st.keep b (.inl hb)
      rw [upd_ne hbD, upd_ne hbD] at q
      exact q
    have ok2 := o1.grow (o := .lst []) hD
    have hold := ok2.hold (a := D) (u := .lst []) upd_same (o1.fnone hD) (o1.lnone hD)
    refine ⟨fun i m H' => m = ds.length - i ∧ i ≤ ds.length ∧ ∃ g' s' acc avs, Kp X.K D g1 H1 g' H' acc avs ∧ Ok X.K g' s' (wipe σ vs) H' ∧ compGo2X vs vs1 t mc it1 t1 mc1 (mLeak me) (ds.drop i) acc s' = r,
      ⟨ds.length, by simp, Nat.zero_le _, g1.hold D, wipeS s1 vs, [], [], ⟨⟨⟨Sub.refl _, Nat.le_refl _, fun _ _ => rfl⟩, rfl, fun b _ => by rw [upd_upd], fun b _ _ => by rw [upd_upd]⟩, SlKeep.refl _, rfl, upd_same, .nil⟩, hold.wipe, by simpa using hr⟩, ?_⟩
    rintro i m H' ⟨rfl, hi, g', s', acc, avs, kp, o', hg'⟩
    obtain ⟨stp, go⟩ := hJ g' s' _ H' kp.le (kp.fk (o1.fnone hD)) o'
    by_cases hlt : i < ds.length
    · obtain ⟨d, hd⟩ : ∃ d, ds[i]? = some d := ⟨_, List.getElem?_eq_getElem hlt⟩
      have hdrop : ds.drop i = d :: ds.drop (i + 1) := by
        rw [List.drop_eq_getElem_cons hlt]
        congr 1
        rw [List.getElem?_eq_getElem hlt] at hd
        exact Option.some.inj hd
      obtain ⟨go1, yl⟩ := go i d hd
      refine .inr ⟨go1, fun H3 => ∃ g3 s3 acc avs, Kp X.K D g1 H1 g3 H3 acc avs ∧ Ok X.K g3 s3 (wipe σ vs) H3 ∧ compGo2X vs vs1 t mc it1 t1 mc1 (mLeak me) (ds.drop (i + 1)) acc s3 = r, fun H3 z => ⟨ds.length - (i + 1), by omega, rfl, hlt, z⟩, fun x H2 y => ?_⟩
      obtain ⟨g2, t2, k2, o2, r2⟩ := yl x H2 y
      rw [hdrop] at hg'
      unfold compGo2X at hg'
      cases e : t d s' with
      | none => simp only [e] at hg'; exact absurd hg'.symm hns
      | some s2 =>
        simp only [e] at hg'
        obtain ⟨ws, o2', hQ⟩ := hgt g2 s' (wipe σ vs) H2 x d s2 o2 r2 e
        have wq : wipe (setAll (wipe σ vs) is ws) vs = wipe σ vs := wipe_setAll hsub
        refine hQ _ ⟨wq, g2, s2, o2', ?_⟩
        have kp2 := kp.step t2 k2
        cases e2 : mc s2 with
        | ok b s3 =>
          simp only [e2, Res.bind_ok] at hg'
          intro g3 H3 t3 k3 o3
          show (if b = true then _ else _)
          have kp3 := kp2.step t3 k3
          cases b with
          | true =>
            rw [if_pos rfl] at hg'
            rw [if_pos rfl]
            refine ⟨g3, s3, o3, ?_⟩
            cases e3 : it1 s3 with
            | ok ds1 s4 =>
              simp only [e3, Res.bind_ok] at hg'
              intro g4 H4 t4 k4 o4 J1 hJ1
              have kp4 := kp3.step t4 k4
              refine loop_inX hgt1 hsub1 hJ1 kp4 o4.wipe rfl (fun z => by rw [z] at hg'; exact absurd hg'.symm hns) (fun acc1 s1f g6 H6 avs6 er lg6 kp6 o6 => ?_) fun c p s0 cls d g6 H6 acc6 avs6 σ6 er kp6 o6 hw6 x6 => ?_
              · have ow := o6.wipe (vs := vs)
                rw [wipe_in hv, wq] at ow
                rw [er] at hg'
                exact ⟨g6, wipeS s1f vs, acc1, avs6, kp6, ow, hg'⟩
              · rw [er] at hg'
                refine hexc c p s0 cls d g6 H6 acc6 avs6 σ6 hg'.symm kp6 o6 ?_ x6
                rw [← wipe_in (σ := σ6) hv, hw6, wipe_in hv, wq]
            | exc c p s4 =>
              simp only [e3, Res.bind_exc] at hg'
              intro cls d g4 H4 t4 k4 o4 x4
              exact hexc c p s4 cls d g4 H4 acc avs _ hg'.symm (kp3.step t4 k4) o4 wq x4
            | stuck => simp only [e3, Res.bind_stuck] at hg'; exact absurd hg'.symm hns
          | false =>
            rw [if_neg (by decide)] at hg'
            rw [if_neg (by decide)]
            have ow := o3.wipe (vs := vs)
            rw [wq] at ow
            exact ⟨g3, wipeS s3 vs, acc, avs, kp3, ow, hg'⟩
        | exc c p s3 =>
          simp only [e2, Res.bind_exc] at hg'
          intro cls d g4 H4 t4 k4 o4 x4
          exact hexc c p s3 cls d g4 H4 acc avs _ hg'.symm (kp2.step t4 k4) o4 wq x4
        | stuck => simp only [e2, Res.bind_stuck] at hg'; exact absurd hg'.symm hns
    · have e : i = ds.length := by omega
      subst e
      refine .inl ⟨stp, ?_⟩
      rw [List.drop_length] at hg'
      unfold compGo2X at hg'
      rw [← hg'] at h1
      have ob := o'.unhold (g0 := g1) (a := D) kp.pp
      obtain ⟨_, fD, lD⟩ := o'.prot D kp.pD
      have npD : ¬ g1.P D := o1.pnone hD
      have lg := kp.le
      have obr := o1.rest hno ob (show GLe g1 (g'.wP g1.P) from ⟨lg.F, lg.ng, lg.adr⟩)
      refine h1 (g'.wP g1.P) H' ⟨⟨lg.F, lg.ng, lg.adr⟩, rfl, fun b hb => ?_, kp.fk (o1.fnone hD)⟩ kp.sk obr (.ref D) ⟨D, rfl, fD, npD, fun ⟨l, o, e, z⟩ => lD ?_, avs, kp.at_, kp.rep.mono wP_le⟩
      · have hbD : b ≠ D := fun z => npD (z ▸ hb)
        have q := kp.st.keep b (.inl hb)
        rw [upd_ne hbD, upd_ne hbD] at q
        exact q
      · cases l with
        | gl n => exact ⟨.gl n, o, e, z⟩
        | sl j =>
          have hl : s1.env.length = s'.env.length := by
            have h1 := o1.len
            have h2 := o'.len
            rw [wipe_length] at h2
            omega
          have e' : (match (restE s1.env s'.env vs)[j]? with | some (.own o) => some o | _ => none) = some o := e
          rw [restE_get _ _ hl] at e'
          by_cases hj : j ∈ vs
          · rw [if_pos hj] at e'
            split at e'
            · rename_i w q
              have := List.all_eq_true.mp hno j hj
              rw [q] at this
              cases this
            · cases e'
          · rw [if_neg hj] at e'
            exact ⟨.sl j, o, e', z⟩
  · exact h1.elim
variable {elt tg iter tg1 iter1 : Expr} {ifs ifs1 : List Expr} {scope : Scope} {own : List (Str × Nat)} {pos : Pos} {it it1 : S → Res (List D)} {gt gt1 : TG} {vs1 is is1 : List Nat} {t t1 : D → S → Option S} {mc mc1 : S → Res Bool} {me : M}
theorem me_comp2X (hc : X.calm = true) (hN : X.N.Nodup) (hst : X.stack = X.env :: X.outer) (hf : X.env.frame = some X.env.locals) (tk : Takes X W) (hi : MIt X W tg iter it) (ok : BlkOk X.N X.env.scope scope own) (hv : ∀ i ∈ vs1, i ∈ own.map (·.2)) (hgk : MGk X.K gt is t) (hsub : ∀ i ∈ is, i ∈ own.map (·.2)) (hgk1 : MGk X.K gt1 is1 t1) (hsub1 : ∀ i ∈ is1, i ∈ vs1)
    (hg : BlkX X scope fun Y _ => PG Y tg gt) (ht : BlkX X scope fun Y W' => MTs Y W' ifs mc) (hi1 : BlkX X scope fun Y W' => MIt Y W' tg1 iter1 it1) (hg1 : BlkX X scope fun Y _ => PG Y tg1 gt1) (ht1 : BlkX X scope fun Y W' => MTs Y W' ifs1 mc1) (he : BlkX X scope fun Y W' => ME Y W' elt me)
    (hs : ∀ x, foldedSetIterable iter X.env x = pure x := by intro _; rfl) (hs1 : ∀ env x, foldedSetIterable iter1 env x = pure x := by intro _ _; rfl) :
    ME X W (.ListComp elt [⟨tg, iter, ifs, 0⟩, ⟨tg1, iter1, ifs1, 0⟩] scope pos) (mComp2X (own.map (·.2)) vs1 it t mc it1 t1 mc1 me) := by
  have z := pe_lcX (W := W) (pos := pos) (tt := fun W' => tMT X.K W' mc) (tt1 := fun W' => tMT X.K W' mc1) (wi1 := fun W' => tMI X.K W' it1) (te := fun W' => tM X.K W' me) hc hN hst hf tk hi ok hv hg ht hi1 hg1 ht1 he hs hs1
  refine pe_imp z fun σ H Q h => ?_
  obtain ⟨g, s, o, h⟩ := h
  exact tLc2_ofX hgk hsub hgk1 hsub1 hv o h
end
end MI
/-! # Own classes: fields, methods, making -/
namespace MI
open PySem PySem.Spec PyProof.Rows L2
/-- a field is set -/
def putD (f : Str) (d : D) : List (Str × D) → List (Str × D)
  | [] => [(f, d)]
  | (g, x) :: r => if g = f then (g, d) :: r else (g, x) :: putD f d r
section
variable {K : PySem.W.Frag} {g : G}
theorem RepF.put {f : Str} {v : V} {d : D} (h : Rep K g v d) : ∀ {vs : List (Str × V)} {ds : List (Str × D)}, RepF K g vs ds → RepF K g (putF f v vs) (putD f d ds)
  | _, _, .nil => .cons h .nil
  | _, _, .cons (k := k) a b => by
    unfold putF putD
    by_cases z : k = f
    · rw [if_pos z, if_pos z]; exact .cons h b
    · rw [if_neg z, if_neg z]; exact .cons a (RepF.put h b)
theorem RepF.look {f : Str} {d : D} : ∀ {vs : List (Str × V)} {ds : List (Str × D)}, RepF K g vs ds → ds.lookup f = some d → ∃ v, vs.lookup f = some v ∧ Rep K g v d
  | _, _, .nil, e => by simp at e
  | _, _, .cons (k := k) a b, e => by
    rw [List.lookup_cons] at e ⊢
    cases z : f == k with
    | true => rw [z] at e; cases e; exact ⟨_, rfl, a⟩
    | false => rw [z] at e; exact RepF.look b e
theorem RepF.lookN {f : Str} : ∀ {vs : List (Str × V)} {ds : List (Str × D)}, RepF K g vs ds → ds.lookup f = none → vs.lookup f = none
  | _, _, .nil, _ => rfl
  | _, _, .cons (k := k) a b, e => by
    rw [List.lookup_cons] at e ⊢
    cases z : f == k with
    | true => rw [z] at e; cases e
    | false => rw [z] at e; exact RepF.lookN b e
theorem RepF.length : ∀ {vs : List (Str × V)} {ds : List (Str × D)}, RepF K g vs ds → vs.length = ds.length
  | _, _, .nil => rfl
  | _, _, .cons _ b => by rw [List.length_cons, List.length_cons, RepF.length b]
end
/-- the fields of the object that r is, of the class c -/
def insOf (c : Str) (s : S) (l : Loc) : Option (List (Str × D)) := match cellOf s l with
  | some (.ins c' fs) => if c' = c then some fs else none
  | _ => none
theorem insOf_ok {c : Str} {s : S} {l : Loc} {fs : List (Str × D)} (e : insOf c s l = some fs) : cellOf s l = some (.ins c fs) := by
  unfold insOf at e
  split at e
  · rename_i c' fs' h
    split at e
    · rename_i z; cases e; rw [h, z]
    · cases e
  · cases e
/-- o.f -/
def mFld (c f : Str) (o : M) : M := fun s => (o s).bind fun r s1 => match locOf r with
  | some l => (match insOf c s1 l with
    | some fs => (match fs.lookup f with
      | some d => .ok (.d d) s1
      | none => .stuck)
    | none => .stuck)
  | none => .stuck
/-- o.f = e -/
def mSetFld (c f : Str) (o m : M) : S → Res Out := fun s => (mLeak m s).bind fun d s1 => (o s1).bind fun r s2 => match locOf r with
  | some l => (match insOf c s2 l with
    | some fs => if fs.length < 1000 then .ok .nx (setCell s2 l (.ins c (putD f d fs))) else .stuck
    | none => .stuck)
  | none => .stuck
/-- o.f += e, ints -/
def mAugFld (c f : Str) (op : Int → Int → Int) (o m : M) : S → Res Out := fun s => (o s).bind fun r s1 => match locOf r with
  | some l => (match insOf c s1 l with
    | some fs => (match fs.lookup f with
      | some (.int i) => (mLeak m s1).bind fun d s2 => (match d, insOf c s2 l with
        | .int j, some fs2 => if fs2.length < 1000 then .ok .nx (setCell s2 l (.ins c (putD f (.int (op i j)) fs2))) else .stuck
        | _, _ => .stuck)
      | _ => .stuck)
    | none => .stuck)
  | none => .stuck
section
variable {X : Cx} {W : WX} {o e : Expr} {mo me : M} {c f : Str} {pos pos' tpos : Pos}
theorem me_fld (hc : L2.Cls X.K (He.ga X.K c)) (hn : NoAttr X.K (He.ga X.K c) f) (ho : ME X W o mo) (hb : attributeBase o f X.env (eval o X.env) = eval o X.env := by rfl) : ME X W (.Attribute o f pos) (mFld c f mo) := by
  refine pe_imp (pe_fld ho hb) fun σ H Q ⟨g, s, ok, h⟩ => ?_
  refine ⟨g, s, ok, (PostE.bind h).mono fun r g1 s1 H1 t1 k1 o1 h1 v rv => ?_⟩
  split at h1
  · rename_i l el
    split at h1
    · rename_i fs efs
      split at h1
      · rename_i d ed
        have ev := locOf_ok rv el
        obtain ⟨_, dx, vs, eh, rf⟩ := o1.cell l _ (insOf_ok efs)
        obtain ⟨u, eu, ru⟩ := rf.look ed
        exact ⟨_, _, dx, vs, u, ev, eh, hc, hn, eu, PostE.done h1 o1 u ru⟩
      · exact h1.elim
    · exact h1.elim
  · exact h1.elim
theorem ms_setFld (hc : L2.Cls X.K (He.ga X.K c)) (hn : NoAttr X.K (He.ga X.K c) f) (ho : ME X W o mo) (he : ME X W e me) (hs : swapsWith e (some (.Attribute o f pos')) pos.line X.env = pure false := by rfl) : MS X W (.Assign [.Attribute o f pos'] e pos) (mSetFld c f mo me) := by
  refine ps_imp (ps_fld ho he hs) fun D σ H ⟨g, s, ok, h⟩ => ?_
  refine tM_leak ok (PostS.bind h) fun d g1 s1 H1 v t1 k1 o1 rv h1 => ?_
  refine ⟨g1, s1, o1, (PostS.bind h1).mono fun r g2 s2 H2 t2 k2 o2 h2 x rx => ?_⟩
  split at h2
  · rename_i l el
    split at h2
    · rename_i fs efs
      split at h2
      · rename_i hl
        have ev := locOf_ok rx el
        have ce := insOf_ok efs
        obtain ⟨_, dx, vs, eh, rf⟩ := o2.cell l _ ce
        obtain ⟨o3, t3⟩ := o2.change (o' := .ins c (putD f d fs)) (ho := .ins (He.ga X.K c) dx (putF f v vs)) ce ⟨dx, _, upd_same, rf.put (rv.mono t2.le)⟩
        exact ⟨_, _, dx, vs, ev, eh, hc, hn, by rw [rf.length]; exact hl, h2 _ g2 _ t3 o3⟩
      · exact h2.elim
    · exact h2.elim
  · exact h2.elim
theorem ms_augFld (hc : L2.Cls X.K (He.ga X.K c)) (hn : NoAttr X.K (He.ga X.K c) f) (ho : ME X W o mo) (he : ME X W e me) : MS X W (.AugAssign (.Attribute o f tpos) .Add e pos) (mAugFld c f (fun i j => i + j) mo me) := by
  refine ps_imp (ps_fldaug ho he in_add) fun D σ H ⟨g, s, ok, h⟩ => ?_
  refine ⟨g, s, ok, (PostS.bind h).mono fun r g1 s1 H1 t1 k1 o1 h1 x rx => ?_⟩
  split at h1
  · rename_i l el
    split at h1
    · rename_i fs efs
      split at h1
      · rename_i i ei
        have ev := locOf_ok rx el
        obtain ⟨_, dx, vs, eh, rf⟩ := o1.cell l _ (insOf_ok efs)
        obtain ⟨u, eu, ru⟩ := rf.look ei
        refine ⟨_, _, dx, vs, u, ev, eh, hc, hn, eu, ?_⟩
        refine tM_leak o1 (PostS.bind h1) fun d g2 s2 H2 v t2 k2 o2 rv h2 => ?_
        split at h2
        · rename_i j fs2 efs2
          split at h2
          · rename_i hl
            have ce := insOf_ok efs2
            obtain ⟨_, dx2, vs2, eh2, rf2⟩ := o2.cell l _ ce
            have ead : g2.adr l = g1.adr l := by
              cases l with
              | sl k => exact k2 k
              | gl n => exact t2.le.adr n (by rw [o1.ng]; exact gl_cell (insOf_ok efs))
            cases ru
            cases rv
            obtain ⟨o3, t3⟩ := o2.change (o' := .ins c (putD f (.int (i + j)) fs2)) (ho := .ins (He.ga X.K c) dx2 (putF f (.int (i + j)) vs2)) ce ⟨dx2, _, upd_same, rf2.put (.int _)⟩
            rw [ead] at eh2 o3 t3
            exact ⟨i, j, rfl, rfl, dx2, vs2, eh2, by rw [rf2.length]; exact hl, h2 _ g2 _ t3 o3⟩
          · exact h2.elim
        · exact h2.elim
      · exact h1.elim
    · exact h1.elim
  · exact h1.elim
end
end MI
/-! # Fields as targets; methods; making -/
namespace L2
open PySem PySem.Spec PyProof.Rows
section
variable {X : Cx} {o e : Expr} {f : Str} {pos : Pos} {ta : TE}
def gFld (K : PySem.W.Frag) (ta : TE) (f : Str) : TG := fun v σ H Q => ta σ H fun x H1 => ∃ a C dx fs, x = .ref a ∧ H1 a = some (.ins C dx fs) ∧ Cls K C ∧ NoAttr K C f ∧ fs.length < 1000 ∧ Q σ (upd H1 a (.ins C dx (putF f v fs)))
theorem pg_fldT (he : PE X o ta) : PG X (.Attribute o f pos) (gFld X.K ta f) := by
  refine ⟨fun pins s σ H v u Q I r h => ?_⟩
  rw [assign_Attribute]
  refine wpAny_bind (wpAny_holding (thn (he.run pins s σ H _ I h) fun ov s1 ⟨x, H1, I1, rx, a, C, dx, fs, ex, ea, c, n, l, q⟩ => ?_))
  subst ex
  obtain rfl : ov = Value.ref a := rx
  refine wpAny_bind (wpAny_standAt (wpAny_bind (wpAny_holding (setattr_ok I1 ea c n l r fun s2 I2 => ?_))))
  exact wpAny_release ⟨σ, _, I2, q⟩
end
section
variable {X : Cx} {CX : CXT} {k : Nat} {f C : Addr} {fd : FuncData} {ps : List Str} {sp : Sp} {E : St → XK} {x m : Str} {p pos apos : Pos} {e o : Expr} {es : List Expr} {ta : TE} {t : TA}
def tMethE (C : Addr) (m : Str) (sp : Sp) (E : St → XK) (ta : TE) (t : TA) : TE := fun σ H Q => ta σ H fun x H1 => ∃ a dx fs, x = .ref a ∧ H1 a = some (.ins C dx fs) ∧ fs.lookup m = none ∧
  t σ H1 fun vs H2 => sp (x :: vs) H2 Q (E σ)
theorem pe_methE {pl : Sem Bool} (he : PE X o ta) (c : Cls X.K C) (hm : Meth X.K C m f) (F : FnOk X.prog X.w X.K X.mg X.base CX k f fd ps sp) (hr : Room k X.A) (hb : Binds X.K fd ps []) (hx : ∀ σ, PassesAt CX X σ (E σ)) (ha : PA X (e :: es) t)
    (hst : starEach (e :: es) X.env = (false, eval e X.env) :: starEach es X.env := by rfl) (hpl : (backTo pos (starEach es X.env)).any (·.1) = false := by rfl)
    (ht : eval (.Call (.Attribute o m apos) (e :: es) [] pos) X.env = (do
      let ov ← eval o X.env
      standAt apos.atName
      let (f, first) ← holding [ov] (getMethod ov m pl)
      callWith pos f first (backTo pos (starEach (e :: es) X.env)) (backToKw pos (keywordEach [] X.env))) := by rfl) :
    PE X (.Call (.Attribute o m apos) (e :: es) [] pos) (tMethE C m sp E ta t) := by
  refine ⟨fun pins s σ H Q I h => ?_⟩
  refine PySem.W.methodCall_KW (pl := pl) (thn (he.run pins s σ H _ I h) fun u s1 ⟨x, H1, I1, rx, a, dx, fs, ex, ea, l, q⟩ => ?_) ht
  subst ex
  obtain rfl : u = Value.ref a := rx
  refine getmeth_ok I1 ea c hm l ?_
  refine PySem.W.callWith_K (first := [.ref a]) (h₀ := X.base) I.ok.mod.kin hm.kp (thn (ha.run pos pins s1 σ H1 _ I1 q) fun us s2 ⟨vs, H2, I2, r, q2⟩ => ⟨I2.kIn, ?_⟩) hst hpl
  exact run_fnS (us := .ref a :: us) (vs := .ref a :: vs) F hr hb (hx σ) I2 (.cons rfl r) q2
theorem pe_methE0 {pl : Sem Bool} (he : PE X o ta) (c : Cls X.K C) (hm : Meth X.K C m f) (F : FnOk X.prog X.w X.K X.mg X.base CX k f fd ps sp) (hr : Room k X.A) (hb : Binds X.K fd ps []) (hx : ∀ σ, PassesAt CX X σ (E σ))
    (ht : eval (.Call (.Attribute o m apos) [] [] pos) X.env = (do
      let ov ← eval o X.env
      standAt apos.atName
      let (f, first) ← holding [ov] (getMethod ov m pl)
      callWith pos f first (backTo pos (starEach [] X.env)) (backToKw pos (keywordEach [] X.env))) := by rfl) :
    PE X (.Call (.Attribute o m apos) [] [] pos) (tMethE C m sp E ta tNil) := by
  refine ⟨fun pins s σ H Q I h => ?_⟩
  refine PySem.W.methodCall_KW (pl := pl) (thn (he.run pins s σ H _ I h) fun u s1 ⟨x, H1, I1, rx, a, dx, fs, ex, ea, l, q⟩ => ?_) ht
  subst ex
  obtain rfl : u = Value.ref a := rx
  refine getmeth_ok I1 ea c hm l ?_
  obtain ⟨_, q⟩ : True ∧ sp [.ref a] H1 Q (E σ) := ⟨trivial, q⟩
  exact PySem.W.callWith_K0 (first := [.ref a]) I1.kIn hm.kp (run_fnS (us := [.ref a]) (vs := [.ref a]) F hr hb (hx σ) I1 (.cons rfl .nil) q)
def tMakeE (C : Addr) (sp : Sp) (E : St → XK) (t : TA) : TE := fun σ H Q => t σ H fun vs H1 => ∀ x dx, H1 x = none → H1 dx = none → dx ≠ x →
  sp (.ref x :: vs) (upd (upd H1 dx (.own x)) x (.ins C dx [])) (fun v H2 => v = .non ∧ Q (.ref x) H2) (E σ)
theorem pe_makeE (M : Mk X.K C f) (F : FnOk X.prog X.w X.K X.mg X.base CX k f fd ps sp) (hr : Room (k + 1) X.A) (hg : Gl X x) (hm : X.mg x = some (.ref C)) (hb : Binds X.K fd ps []) (hx : ∀ σ, PassesAt CX X σ (E σ))
    (ha : PA X (e :: es) t) (hdb : (x == ("__debug__" : Str)) = false := by decide) (he : starEach (e :: es) X.env = (false, eval e X.env) :: starEach es X.env := by rfl) (hpl : (backTo pos (starEach es X.env)).any (·.1) = false := by rfl) :
    PE X (.Call (.Name x p) (e :: es) [] pos) (tMakeE C sp E t) := by
  refine ⟨fun pins s σ H Q I h => ?_⟩
  refine wpAny_Call_Name_kw (ld_glob I hg hm ?_ hdb)
  refine PySem.W.callWith_K (h₀ := X.base) I.ok.mod.kin M.kp (thn (ha.run pos pins s σ H _ I h) fun us s1 ⟨vs, H1, I1, r, q⟩ => ⟨I1.kIn, ?_⟩) he hpl
  have hq := q (s1.heap.objs.size + 1) s1.heap.objs.size (I1.hok.fresh (Nat.le_succ _)) (I1.hok.fresh (Nat.le_refl _)) (Nat.ne_of_lt (Nat.lt_succ_self _))
  have I2 := Inv.made (C := C) I1
  have r2 : Vals (V.ref (s1.heap.objs.size + 1) :: vs) (Value.ref (s1.heap.objs.size + 1) :: us) := .cons rfl r
  have hl : (Value.ref (s1.heap.objs.size + 1) :: us).length = ps.length := by
    have e := r2.length
    rw [F.len _ _ _ _ hq] at e
    exact e.symm
  have bnd := hb { s1 with heap := (s1.heap.push PySem.W.emptyDict).push (PySem.W.instObj C s1.heap.objs.size) } (Value.ref (s1.heap.objs.size + 1) :: us) I2.kIn (by rw [List.append_nil]; exact hl)
  rw [List.append_nil] at bnd
  show wpAny _ _ (call (.ref C) us) _ _ _
  refine wpAny_call (make_map (f := f) I1.kIn M.makes M.init (beq_iff_eq.mp M.fn) (codeAny_mono (F.run _ X.stack _ _ ⟨Value.ref (s1.heap.objs.size + 1) :: us, []⟩ (Value.ref (s1.heap.objs.size + 1) :: us) _ _ (E σ) (hr.make C us [])
    (I2.env0.make C us []) bnd r2 hq) fun r s' hq' => ?_))
  cases r with
  | error e => exact hx σ pins _ _ e s' I2 hq'
  | ok fl =>
    cases fl with
    | ret u =>
      obtain ⟨v, H', I3, rv, ev, q3⟩ := I2.after hq'
      subst ev
      exact ⟨rv, ⟨V.ref (s1.heap.objs.size + 1), H', I3, rfl, q3⟩⟩
    | next => exact False.elim hq'
    | brk => exact False.elim hq'
    | cont => exact False.elim hq'
end
end L2
namespace MI
open PySem PySem.Spec PyProof.Rows L2
/-! ### targets -/
def MGFk (K : PySem.W.Frag) (gt : TG) (t : D → S → Option S) : Prop :=
  ∀ g s σ H v d s', Ok K g s σ H → Rep K g v d → t d s = some s' → ∀ Q : L2.St → Hp → Prop, (∀ g' σ' H', Step g H g' H' → Ok K g' s' σ' H' → Q σ' H') → gt v σ H Q
def MGFks (K : PySem.W.Frag) (gt : TGs) (t : List D → S → Option S) : Prop :=
  ∀ g s σ H vs ds s', Ok K g s σ H → RepL K g vs ds → t ds s = some s' → ∀ Q : L2.St → Hp → Prop, (∀ g' σ' H', Step g H g' H' → Ok K g' s' σ' H' → Q σ' H') → gt vs σ H Q
structure MGF (X : Cx) (tg : Expr) (gt : TG) (t : D → S → Option S) : Prop where
  pg : PG X tg gt
  ok : MGFk X.K gt t
structure MGFs (X : Cx) (es : List Expr) (n : Nat) (gt : TGs) (t : List D → S → Option S) : Prop where
  pg : PGs X es gt
  ok : MGFks X.K gt t
  len : ∀ ds s s', t ds s = some s' → ds.length = n
/-- x.f where x is the i-th name -/
def tgFld (c f : Str) (i : Nat) : D → S → Option S := fun d s => match s.env[i]? with
  | some (.val (.ref n)) => (match insOf c s (.gl n) with
    | some fs => if fs.length < 1000 then some (setCell s (.gl n) (.ins c (putD f d fs))) else none
    | none => none)
  | _ => none
section
variable {X : Cx} {W : WX} {e : Expr} {es : List Expr} {me : M} {pos : Pos} {gt : TG} {gts : TGs} {is : List Nat} {t : D → S → Option S} {ts : List D → S → Option S} {n : Nat} {c f : Str}
theorem mgf_name {i : Nat} {x : Str} (hN : X.N.Nodup) (hi : X.N[i]? = some x := by rfl) (hx : L2.Loc X.env.scope x := by first | exact Or.inl rfl | exact Or.inr rfl) (hf : X.fn x = true ∨ X.env.scope.names.lookup x = some .local := by first | exact .inl rfl | exact .inr rfl) :
    MGF X (.Name x pos) (gName i) (tgName i) := by
  have h := mg2_name (X := X) (pos := pos) hN hi hx hf
  refine ⟨h.pg, fun g s σ H v d s' ok r e Q hQ => ?_⟩
  obtain ⟨ws, _, o, q⟩ := h.ok g s σ H v d s' ok r e
  exact q Q (hQ g _ H (Step.refl _ _) o)
theorem mgf_fld {i : Nat} {x : Str} {p2 : Pos} (hc : L2.Cls X.K (He.ga X.K c)) (hn : NoAttr X.K (He.ga X.K c) f) (hv : ME X W0 (.Name x p2) (mVar i)) :
    MGF X (.Attribute (.Name x p2) f pos) (gFld X.K (tM X.K W0 (mVar i)) f) (tgFld c f i) := by
  refine ⟨pg_fldT hv, fun g s σ H v d s' ok r e Q hQ => ?_⟩
  unfold tgFld at e
  split at e
  · rename_i k ek
    split at e
    · rename_i fs efs
      split at e
      · rename_i hl
        cases e
        have ce := insOf_ok efs
        refine ⟨g, s, ok, ?_⟩
        have ev : mVar i s = .ok (.d (.ref k)) s := by unfold mVar; rw [ek]
        rw [ev]
        intro g' H' t' k' o' w rw'
        obtain ⟨_, dx, vs, eh, rf⟩ := o'.cell _ _ ce
        obtain ⟨o3, t3⟩ := o'.change (o' := .ins c (putD f d fs)) (ho := .ins (He.ga X.K c) dx (putF f v vs)) ce ⟨dx, _, upd_same, rf.put (r.mono t'.le)⟩
        cases (show Rep X.K g' w (.ref k) from rw')
        exact ⟨_, _, dx, vs, rfl, eh, hc, hn, by rw [rf.length]; exact hl, hQ g' σ _ (t'.trans t3) o3⟩
      · cases e
    · cases e
  · cases e
theorem mgfs_nil : MGFs X [] 0 gNil tgsNil := by
  refine ⟨pgs_nil, fun g s σ H vs ds s' ok r e Q hQ => ?_, fun ds s s' e => ?_⟩
  · cases r with
    | nil =>
      unfold tgsNil at e
      cases e
      exact ⟨rfl, hQ g σ H (Step.refl _ _) ok⟩
    | cons a b => cases e
  · cases ds with
    | nil => rfl
    | cons a b => cases e
theorem mgfs_cons (h1 : MGF X e gt t) (h2 : MGFs X es n gts ts) (hs : (assignEach (e :: es) X.env).map (·.2) = PySem.assign e X.env :: (assignEach es X.env).map (·.2) := by rfl) :
    MGFs X (e :: es) (n + 1) (gCons gt gts) (tgsCons t ts) := by
  refine ⟨pgs_cons h1.pg h2.pg hs, fun g s σ H vs ds s' ok r e Q hQ => ?_, fun ds s s' e => ?_⟩
  · cases r with
    | nil => cases e
    | @cons v vr d dr ra rb =>
      unfold tgsCons at e
      simp only at e
      cases q : t d s with
      | none => rw [q] at e; cases e
      | some s1 =>
        rw [q] at e
        simp only at e
        refine ⟨v, vr, rfl, h1.ok g s σ H v d s1 ok ra q _ fun g' σ' H' t' o' => ?_⟩
        exact h2.ok g' s1 σ' H' vr dr s' o' (rb.mono t'.le) e _ fun g2 σ2 H2 t2 o2 => hQ g2 σ2 H2 (t'.trans t2) o2
  · cases ds with
    | nil => cases e
    | cons d dr =>
      unfold tgsCons at e
      simp only at e
      cases q : t d s with
      | none => rw [q] at e; cases e
      | some s1 =>
        rw [q] at e
        simp only at e
        rw [List.length_cons, h2.len dr s1 s' e]
/-- (t1, .., tn) = e: names and fields -/
def mUnpF (t : List D → S → Option S) (m : M) : S → Res Out := fun s => (mLeak m s).bind fun d s1 => match d with
  | .tup ds => (match t ds s1 with
    | some s2 => .ok .nx s2
    | none => .stuck)
  | _ => .stuck
theorem ms_unpF {kt : Nat} {pt pos : Pos} (hc : X.calm = true) (he : ME X W e me) (h : MGFs X es n gts ts)
    (hn : (assignEach es X.env).length = n := by rfl) (hst : (assignEach es X.env).findIdx? (·.1) = none := by rfl)
    (hs : swapsWithSole [.Tuple es kt pt] e pos.line X.env = pure false := by rfl) (hw : swappedStores [.Tuple es kt pt] e X.env = pure none := by rfl)
    (h1 : (assignEach [.Tuple es kt pt] X.env).map (·.2) = [PySem.assign (.Tuple es kt pt) X.env] := by rfl) :
    MS X W (.Assign [.Tuple es kt pt] e pos) (mUnpF ts me) := by
  refine ps_imp (ps_asg he (pg_tup hc h.pg hn hst) hs hw h1) fun D σ H ⟨g, s, ok, hh⟩ => ?_
  refine tM_leak ok (PostS.bind hh) fun d g1 s1 H1 v t1 k1 o1 rv h1 => ?_
  split at h1
  · rename_i ds
    split at h1
    · rename_i s2 e2
      cases rv with
      | tup hq rl =>
        exact ⟨_, _, rfl, sqT_mono o1.sub hq, rl.length.trans (h.len _ _ _ e2), h.ok g1 s1 σ H1 _ ds s2 o1 rl e2 _ fun g' σ' H' t' o' => h1 σ' g' H' t' o'⟩
    · exact h1.elim
  · exact h1.elim
end
/-! ### methods -/
/-- the method m of the class c keeps fm's promise -/
structure MtM (P : Program) (w : World) (K : PySem.W.Frag) (mg : Str → Option Value) (base : Heap) (k : Nat) (c m : Str) (ps : List Str) (fm : Fm) : Prop where
  ex : ∃ f fd, FnOk P w K mg base (L2.CX P w) k f fd ps (spM K fm) ∧ Meth K (He.ga K c) m f ∧ Binds K fd ps []
/-- the class c is made by an __init__ that keeps fm's promise -/
structure MkM (P : Program) (w : World) (K : PySem.W.Frag) (mg : Str → Option Value) (base : Heap) (k : Nat) (c : Str) (ps : List Str) (fm : Fm) : Prop where
  ex : ∃ f fd, FnOk P w K mg base (L2.CX P w) k f fd ps (spM K fm) ∧ Mk K (He.ga K c) f ∧ Binds K fd ps [] ∧ mg c = some (.ref (He.ga K c))
def mMeth (c m : Str) (fm : Fm) (o : M) (a : S → Res (List D)) : M := fun s => (o s).bind fun r s1 => match r with
  | .d (.ref n) => (match insOf c s1 (.gl n) with
    | some fs => (match fs.lookup m with
      | none => (a s1).bind fun ds s2 => (match fm (.ref n :: ds) s2.gl with
        | .ok d gl => .ok (.d d) { s2 with gl := gl }
        | .exc x p gl => .exc x p { s2 with gl := gl }
        | .stuck => .stuck)
      | some _ => .stuck)
    | none => .stuck)
  | _ => .stuck
def mMake (c : Str) (fm : Fm) (a : S → Res (List D)) : M := fun s => (a s).bind fun ds s1 => match fm (.ref s1.gl.length :: ds) (s1.gl ++ [.ins c []]) with
  | .ok .non gl => .ok (.d (.ref s1.gl.length)) { s1 with gl := gl }
  | .exc x p gl => .exc x p { s1 with gl := gl }
  | _ => .stuck
section
variable {X : Cx} {W : WX} {o e : Expr} {es : List Expr} {mo : M} {ma : S → Res (List D)} {c m : Str} {p pos apos : Pos} {k j : Nat} {ps : List Str} {fm : Fm}
theorem meth_of {σ : L2.St} {H : Hp} {Q : VK} {t : TA} {C : Addr} (hC : C = He.ga X.K c) {g : G} {s : S} (ok : Ok X.K g s σ H) (hta : t = tMA X.K W ma)
    (h : PostE X.K W σ g s H (kE X.K Q) (mMeth c m fm mo ma s)) : tMethE C m (spM X.K fm) (WE W) (tM X.K W mo) t σ H Q := by
  subst hta hC
  refine ⟨g, s, ok, (PostE.bind h).mono fun r g1 s1 H1 t1 k1 o1 h1 v rv => ?_⟩
  split at h1
  · rename_i n
    split at h1
    · rename_i fs efs
      split at h1
      · rename_i el
        have ce := insOf_ok efs
        obtain ⟨_, dx, vs, eh, rf⟩ := o1.cell _ _ ce
        have rv : Rep X.K g1 v (.ref n) := rv
        cases rv with
        | ref _ hn =>
          refine ⟨_, dx, vs, rfl, eh, rf.lookN el, g1, s1, o1, (PostE.bind h1).mono fun ds g2 s2 H2 t2 k2 o2 h2 us ru => ?_⟩
          exact sp_call o2 (.cons ((Rep.ref n hn).mono t2.le) ru) h2 fun _ _ _ h => h
      · exact h1.elim
    · exact h1.elim
  · exact h1.elim
theorem me_meth {pl : Sem Bool} (F : MtM X.prog X.w X.K X.mg X.base k c m ps fm) (hr : Room j X.A) (hj : k ≤ j) (hc : L2.Cls X.K (He.ga X.K c)) (tk : Takes X W) (ho : ME X W o mo) (ha : MA X W (e :: es) ma)
    (hst : starEach (e :: es) X.env = (false, eval e X.env) :: starEach es X.env := by rfl) (hpl : (backTo pos (starEach es X.env)).any (·.1) = false := by rfl)
    (ht : eval (.Call (.Attribute o m apos) (e :: es) [] pos) X.env = (do
      let ov ← eval o X.env
      standAt apos.atName
      let (f, first) ← holding [ov] (getMethod ov m pl)
      callWith pos f first (backTo pos (starEach (e :: es) X.env)) (backToKw pos (keywordEach [] X.env))) := by rfl) :
    ME X W (.Call (.Attribute o m apos) (e :: es) [] pos) (mMeth c m fm mo ma) := by
  obtain ⟨f, fd, F1, hm, hb⟩ := F.ex
  refine pe_imp (pe_methE ho hc hm F1 (hr.mono hj) hb (fun σ => passAt tk σ) ha hst hpl ht) fun σ H Q ⟨g, s, ok, h⟩ => ?_
  exact meth_of rfl ok rfl h
theorem me_meth0 {pl : Sem Bool} (F : MtM X.prog X.w X.K X.mg X.base k c m ps fm) (hr : Room j X.A) (hj : k ≤ j) (hc : L2.Cls X.K (He.ga X.K c)) (tk : Takes X W) (ho : ME X W o mo)
    (ht : eval (.Call (.Attribute o m apos) [] [] pos) X.env = (do
      let ov ← eval o X.env
      standAt apos.atName
      let (f, first) ← holding [ov] (getMethod ov m pl)
      callWith pos f first (backTo pos (starEach [] X.env)) (backToKw pos (keywordEach [] X.env))) := by rfl) :
    ME X W (.Call (.Attribute o m apos) [] [] pos) (mMeth c m fm mo mANil) := by
  obtain ⟨f, fd, F1, hm, hb⟩ := F.ex
  refine pe_imp (pe_methE0 ho hc hm F1 (hr.mono hj) hb (fun σ => passAt tk σ) ht) fun σ H Q ⟨g, s, ok, h⟩ => ?_
  have z := meth_of (t := tMA X.K W mANil) rfl ok rfl h
  unfold tMethE at z ⊢
  refine (show TE from tM X.K W mo) |> fun _ => ?_
  obtain ⟨g0, s0, ok0, q⟩ := z
  refine ⟨g0, s0, ok0, q.mono fun r g1 s1 H1 t1 k1 o1 q1 v rv => ?_⟩
  obtain ⟨a, dx, fs, e1, e2, e3, g2, s2, o2, q2⟩ := q1 v rv
  exact ⟨a, dx, fs, e1, e2, e3, q2 g2 H1 (Step.refl _ _) (SlKeep.refl _) o2 [] .nil⟩
theorem me_make (F : MkM X.prog X.w X.K X.mg X.base k c ps fm) (hr : Room j X.A) (hj : k + 1 ≤ j) (hg : Gl X c) (tk : Takes X W) (ha : MA X W (e :: es) ma)
    (hdb : (c == ("__debug__" : Str)) = false := by decide) (he : starEach (e :: es) X.env = (false, eval e X.env) :: starEach es X.env := by rfl) (hpl : (backTo pos (starEach es X.env)).any (·.1) = false := by rfl) :
    ME X W (.Call (.Name c p) (e :: es) [] pos) (mMake c fm ma) := by
  obtain ⟨f, fd, F1, hmk, hb, hm⟩ := F.ex
  refine pe_imp (pe_makeE hmk F1 (hr.mono hj) hg hm hb (fun σ => passAt tk σ) ha hdb he hpl) fun σ H Q ⟨g, s, ok, h⟩ => ?_
  refine ⟨g, s, ok, (PostE.bind h).mono fun ds g1 s1 H1 t1 k1 o1 h1 vs ru x dx hx hdx hne => ?_⟩
  have oa := o1.grow (o := .own x) hdx
  have hx2 : (upd H1 dx (.own x)) x = none := by rw [upd_ne (Ne.symm hne)]; exact hx
  have ob := oa.grow (o := .ins (He.ga X.K c) dx []) hx2
  have ta := Step.grow (o := .own x) o1 hdx
  have tb := Step.grow (o := .ins (He.ga X.K c) dx []) oa hx2
  have oc := ob.add (a := x) (o := .ins c []) (o1.fnone hx) (o1.pnone hx) (o1.lnone hx) ⟨dx, [], upd_same, .nil⟩
  have sk : SlKeep g1 (g1.add x) := fun j => show (if Loc.sl j = Loc.gl g1.ng then x else g1.adr (.sl j)) = g1.adr (.sl j) from if_neg (by intro z; cases z)
  have tc : Step g1 (upd (upd H1 dx (.own x)) x (.ins (He.ga X.K c) dx [])) (g1.add x) (upd (upd H1 dx (.own x)) x (.ins (He.ga X.K c) dx [])) := ⟨add_le, rfl, fun _ _ => rfl, fun _ _ _ => rfl⟩
  have tt := (ta.trans tb).trans tc
  have adx : (g1.add x).adr (.gl s1.gl.length) = x := by rw [← o1.ng]; exact if_pos rfl
  have hng : s1.gl.length < (g1.add x).ng := by rw [← o1.ng]; exact Nat.lt_succ_self _
  have rx : Rep X.K (g1.add x) (.ref x) (.ref s1.gl.length) := by
    have := Rep.ref (K := X.K) (g := g1.add x) s1.gl.length hng
    rwa [adx] at this
  refine sp_call (s := { s1 with gl := s1.gl ++ [.ins c []] }) (W := W) oc (.cons rx (ru.mono tt.le)) ?_ fun _ _ _ h => h
  have h2 := h1.after tt sk (s' := { s1 with gl := s1.gl ++ [.ins c []] })
  cases q : fm (.ref s1.gl.length :: ds) (s1.gl ++ [.ins c []]) with
  | ok d gl =>
    rw [q] at h2
    cases d with
    | non =>
      intro g' H' t' k' o' v rv
      have rv : Rep X.K g' v .non := rv
      cases rv
      refine ⟨rfl, h2 g' H' t' k' o' (.ref x) ?_⟩
      have := (rx.mono t'.le)
      exact this
    | _ => exact h2.elim
  | exc a b gl => rw [q] at h2; exact h2
  | stuck => rw [q] at h2; exact h2.elim
end
end MI
/-! # Methods by name; what the head says of classes -/
namespace MI
open PySem PySem.Spec PyProof.Rows L2 PySem.W
def BindOk2 (x q : Str) (args : Arguments) (body : List Stmt) (scope : Scope) (ps : List Str) : Prop :=
  ∀ (kV doc pm : Value) (an : Option Addr) (cdv ct : Value) (us : List Value), us.length = ps.length → bindArgs (PySem.W.fnOf x q args body scope .none kV doc pm an cdv ct) ⟨us, []⟩ = pure (ps.zip us)
/-- what the head says of a method -/
def DefMt (K : Frag) (c m q : Str) (args : Arguments) (body : List Stmt) (scope : Scope) : Prop :=
  ∃ f fd, FunD K m q args body scope [] [] f fd ∧ Meth K (He.ga K c) m f
/-- what it says of an __init__ -/
def DefMk (K : Frag) (mg : Str → Option Value) (c q : Str) (args : Arguments) (body : List Stmt) (scope : Scope) : Prop :=
  ∃ f fd, FunD K "__init__" q args body scope [] [] f fd ∧ Mk K (He.ga K c) f ∧ mg c = some (.ref (He.ga K c))
section
variable {P : Program} {w : World} {K : Frag} {mg : Str → Option Value} {base : Heap} {c x q : Str} {args : Arguments} {body : List Stmt} {scope : Scope} {N ps : List Str} {k : Nat} {m : S → Res Out}
theorem mtM (F : DefMt K c x q args body scope) (Sc : FnScope N ps scope) (hN : ps.length ≤ N.length) (hB : BindOk2 x q args body scope ps)
    (hbody : ∀ (f : Addr) (cdv : Value) (A : Around) (outer : List Env) (s : Shared) (H : Hp) (E : XK), Room k (A.deeper (envOfC q scope s.heap.objs.size f cdv)) →
      MSs (cxOf (L2.CX P w) P w K mg base N q scope f cdv A outer s H E) (wx E) body m) :
    MtM P w K mg base (k + 1) c x ps (mDef ps.length N.length m) := by
  obtain ⟨f, fd, F1, hm⟩ := F
  exact ⟨f, fd, fn_mirror F1 Sc hN (fun cdv A outer s H E hr => hbody f cdv A outer s H E hr), hm, F1.bindsN hB⟩
theorem mkM (F : DefMk K mg c q args body scope) (Sc : FnScope N ps scope) (hN : ps.length ≤ N.length) (hB : BindOk2 "__init__" q args body scope ps)
    (hbody : ∀ (f : Addr) (cdv : Value) (A : Around) (outer : List Env) (s : Shared) (H : Hp) (E : XK), Room k (A.deeper (envOfC q scope s.heap.objs.size f cdv)) →
      MSs (cxOf (L2.CX P w) P w K mg base N q scope f cdv A outer s H E) (wx E) body m) :
    MkM P w K mg base (k + 1) c ps (mDef ps.length N.length m) := by
  obtain ⟨f, fd, F1, hm, hg⟩ := F
  exact ⟨f, fd, fn_mirror F1 Sc hN (fun cdv A outer s H E hr => hbody f cdv A outer s H E hr), hm, F1.bindsN hB, hg⟩
end
section
variable {d : HdX} {P : Program} {K : Frag} {h : Heap} {mg : Str → Option Value}
theorem HdX.says.cls (c : d.says K) (j : Nat) {x : Str} (e : d.fa[j]? = some (.cls x) := by rfl) : L2.Cls K (He.ga K x) := He.cls_ok (c.fact j e)
theorem HdX.says.noat (c : d.says K) (j : Nat) {x f : Str} (e : d.fa[j]? = some (.noat x f) := by rfl) : NoAttr K (He.ga K x) f := He.noat_ok (c.fact j e)
theorem HdX.says.fun_ (c : d.says K) (i : Nat) {D : He.DefD} (e : d.fn[i]? = some D) : ∃ fd, FunD K D.name D.qual D.params D.body D.scope (D.dvs K) (D.kws K) (He.fAd K D.at_) fd := by
  have c1 := (Bool.and_eq_true_iff.mp (Bool.and_eq_true_iff.mp c.ok).2).1
  have q : d.fn.map (fun f => He.fnW K f.at_) = d.fn.map He.DefD.val := congrArg (fun z : AlX => z.2.1) c
  have q2 : (d.fn.map fun f => He.fnW K f.at_)[i]? = (d.fn.map He.DefD.val)[i]? := by rw [q]
  rw [List.getElem?_map, List.getElem?_map, e] at q2
  exact He.DefD.funD (Option.some.inj q2) (List.all_eq_true.mp c1 _ (List.mem_of_getElem? e))
theorem HdX.says.mt_ (c : d.says K) (i j : Nat) {x m qual : Str} {params : Arguments} {body : List Stmt} {scope : Scope} (e : d.fn[i]? = some ⟨(x, some m), m, qual, params, body, scope, [], []⟩ := by rfl) (e2 : d.fa[j]? = some (.meth x m) := by rfl) :
    DefMt K x m qual params body scope := by
  obtain ⟨fd, F⟩ := c.fun_ i e
  exact ⟨_, fd, F, He.meth_ok (c.fact j e2)⟩
theorem HdX.says.mk_ (c : d.says K) (X : K.In h) (G : h.Ns mainGlobals mg) (i j l : Nat) {x qual : Str} {params : Arguments} {body : List Stmt} {scope : Scope} (e : d.fn[i]? = some ⟨(x, some "__init__"), "__init__", qual, params, body, scope, [], []⟩ := by rfl) (e2 : d.fa[j]? = some (.mkr x) := by rfl) (e3 : d.fa[l]? = some (.glo x) := by rfl) :
    DefMk K mg x qual params body scope := by
  obtain ⟨fd, F⟩ := c.fun_ i e
  exact ⟨_, fd, F, He.mkr_ok (c.fact j e2), He.glo_ok X G (c.fact l e3)⟩
end
end MI
/-! # Dict displays, dict(list(d.items())), is True -/
namespace MI
open PySem PySem.Spec PyProof.Rows L2
/-! ### is True -/
def opIsB (neg : Bool) : S → RV → RV → Res RV := fun s a b => match a, b with
  | .d (.bl x), .d (.bl y) => .ok (.d (.bl (decide (x = y) != neg))) s
  | _, _ => .stuck
section
variable {X : Cx} {W : WX} {a : Expr} {ma : M}
theorem os_isB : OpS X W (fun x y H Q => ∃ a b, x = .bl a ∧ y = .bl b ∧ Q (.bl (decide (a = b))) H) (opIsB false) := by
  intro σ g s H Q x y ra rb ok rx ry nn q
  unfold opIsB at q
  split at q
  · cases (show Rep _ _ _ _ from rx)
    cases (show Rep _ _ _ _ from ry)
    exact ⟨_, _, rfl, rfl, kE_d (by simpa using q) ok (.bl _)⟩
  · exact q.elim
theorem os_notB : OpS X W (fun x y H Q => ∃ a b, x = .bl a ∧ y = .bl b ∧ Q (.bl (!decide (a = b))) H) (opIsB true) := by
  intro σ g s H Q x y ra rb ok rx ry nn q
  unfold opIsB at q
  split at q
  · cases (show Rep _ _ _ _ from rx)
    cases (show Rep _ _ _ _ from ry)
    exact ⟨_, _, rfl, rfl, kE_d (by simpa using q) ok (.bl _)⟩
  · exact q.elim
theorem me_isB {b : Bool} {j p pos} (ha : ME X W a ma) : ME X W (.Compare a [.Is] [.Constant (.bool b) j p] pos) (mBin (opIsB false) ma (mC (.bl b))) := me_cmp op_is_bl os_isB ha me_bl (nomark _)
theorem me_notB {b : Bool} {j p pos} (ha : ME X W a ma) : ME X W (.Compare a [.IsNot] [.Constant (.bool b) j p] pos) (mBin (opIsB true) ma (mC (.bl b))) := me_cmp op_isnot_bl os_notB ha me_bl (nomark _)
end
/-! ### an object that nobody tracks is changed -/
section
variable {K : PySem.W.Frag} {σ : L2.St} {g : G} {s : S} {H : Hp}
theorem Ok.other {a : Addr} {o : HO} (ok : Ok K g s σ H) (n : g.F a = none) (np : ¬ g.P a) (nl : ¬ Live g s a) : Ok K g s σ (upd H a o) := by
  refine ⟨ok.sub.upH n, fun l u e => ?_, ok.inj, ok.env, ok.len, ok.ng, fun b p => ?_⟩
  · obtain ⟨f, r⟩ := ok.cell l u e
    exact ⟨f, r.mono (GLe.refl _) (upd_ne fun z => nl ⟨l, u, e, z⟩)⟩
  · obtain ⟨h1, h2, h3⟩ := ok.prot b p
    exact ⟨by rw [upd_ne (fun z => np (by rw [z] at p; exact p))]; exact h1, h2, h3⟩
theorem Step.other {a : Addr} {o : HO} (np : ¬ g.P a) (n : g.F a = none) : Step g H g (upd H a o) := ⟨GLe.refl _, rfl, fun b p => upd_ne fun z => np (by rw [z] at p; exact p), fun b u e => upd_ne fun z => by rw [z, n] at e; cases e⟩
/-- more objects, that nobody tracks -/
theorem Ok.more {H' : Hp} (ok : Ok K g s σ H) (h : ∀ b o, H b = some o → H' b = some o) : Ok K g s σ H' := by
  refine ⟨ok.sub.more h, fun l u e => ?_, ok.inj, ok.env, ok.len, ok.ng, fun b p => ?_⟩
  · obtain ⟨f, r⟩ := ok.cell l u e
    obtain ⟨w, hw⟩ := r.some
    exact ⟨f, r.mono (GLe.refl _) (by rw [hw]; exact h _ _ hw)⟩
  · obtain ⟨⟨u, e⟩, f, l⟩ := ok.prot b p
    exact ⟨⟨u, h _ _ e⟩, f, l⟩
theorem Step.more {H' : Hp} (ok : Ok K g s σ H) (h : ∀ b o, H b = some o → H' b = some o) : Step g H g H' := by
  refine ⟨GLe.refl _, rfl, fun b p => ?_, fun b u e => ?_⟩
  · obtain ⟨⟨u, e⟩, _⟩ := ok.prot b p
    rw [e]
    exact h _ _ e
  · obtain ⟨w, hw⟩ := ok.sub.ex e
    rw [hw]
    exact h _ _ hw
end
/-! ### displays -/
inductive RepPP (K : PySem.W.Frag) (g : G) : List (V × V) → List (D × D) → Prop
  | nil : RepPP K g [] []
  | cons {v w : V} {x y : D} {vs : List (V × V)} {ds : List (D × D)} : Rep K g v x → Rep K g w y → RepPP K g vs ds → RepPP K g ((v, w) :: vs) ((x, y) :: ds)
theorem RepPP.mono {K : PySem.W.Frag} {g g' : G} (t : GLe g g') {vs : List (V × V)} {ds : List (D × D)} (h : RepPP K g vs ds) : RepPP K g' vs ds := by
  induction h with
  | nil => exact .nil
  | cons a b _ ih => exact .cons (a.mono t) (b.mono t) ih
def kP (K : PySem.W.Frag) (Q : List (V × V) → Hp → Prop) : List (D × D) → G → S → Hp → Prop := fun ds g _ H => ∀ vs, RepPP K g vs ds → Q vs H
def tMP (K : PySem.W.Frag) (W : WX) (m : S → Res (List (D × D))) : L2.St → Hp → (List (V × V) → Hp → Prop) → Prop := fun σ H Q => ∃ g s, Ok K g s σ H ∧ PostE K W σ g s H (kP K Q) (m s)
def mPNil : S → Res (List (D × D)) := fun s => .ok [] s
def mPCons (k v : M) (r : S → Res (List (D × D))) : S → Res (List (D × D)) := fun s => (mLeak k s).bind fun x s1 => (mLeak v s1).bind fun y s2 => (r s2).bind fun ps s3 => .ok ((x, y) :: ps) s3
structure MP (X : Cx) (W : WX) (pos : Pos) (keys : List (Option Expr)) (values : List Expr) (m : S → Res (List (D × D))) : Prop where
  ex : ∃ trs, PPs X pos keys values trs ∧ ∀ σ H Q, tMP X.K W m σ H Q → tPairs trs σ H Q
def keysOf : List (D × D) → Option (List (Key × D))
  | [] => some []
  | (x, y) :: r => match keyOf x, keysOf r with
    | some k, some ks => some ((k, y) :: ks)
    | _, _ => none
theorem keysOf_ok {K : PySem.W.Frag} {g : G} : ∀ {vs : List (V × V)} {ds : List (D × D)} {ks : List (Key × D)}, RepPP K g vs ds → keysOf ds = some ks → ∃ kvs : List (Key × V), vs = kvs.map (fun kv => (kV kv.1, kv.2)) ∧ RepK K g kvs ks
  | _, _, ks, .nil, e => by cases e; exact ⟨[], rfl, .nil⟩
  | _, _, ks, .cons (x := x) (w := w) (ds := ds) a b c, e => by
    unfold keysOf at e
    split at e
    · rename_i k r e1 e2
      cases e
      obtain ⟨kvs, h1, h2⟩ := keysOf_ok c e2
      exact ⟨(k, w) :: kvs, by rw [List.map_cons, ← h1, keyOf_ok a e1], .cons b h2⟩
    · cases e
def mergeD (kvs more : List (Key × D)) : List (Key × D) := more.foldl (fun acc kv => dput acc kv.1 kv.2) kvs
theorem RepK.merge {K : PySem.W.Frag} {g : G} : ∀ {more : List (Key × V)} {moreD : List (Key × D)} {kvs : List (Key × V)} {ds : List (Key × D)}, RepK K g more moreD → RepK K g kvs ds → RepK K g (mergeK kvs more) (mergeD ds moreD)
  | _, _, _, _, .nil, h => h
  | _, _, _, _, .cons (k := k) (vs := vs) (ds := ds) a b, h => RepK.merge (more := vs) (moreD := ds) b (h.put k a)
theorem RepK.len {K : PySem.W.Frag} {g : G} : ∀ {vs : List (Key × V)} {ds : List (Key × D)}, RepK K g vs ds → vs.length = ds.length
  | _, _, .nil => rfl
  | _, _, .cons a b => by rw [List.length_cons, List.length_cons, RepK.len b]
def mDisp (m : S → Res (List (D × D))) : M := fun s => (m s).bind fun ps s1 => match keysOf ps with
  | some ks => if ks.length ≤ 15 then .ok (.new (.dic (mergeD [] ks))) s1 else .stuck
  | none => .stuck
/-- dict(list(d.items())) -/
def mDCopy (m : M) : M := fun s => (mSettle m s).bind fun r s1 => match asDic s1 r with
  | some ks => .ok (.new (.dic (mergeD [] ks))) s1
  | none => .stuck
section
variable {X : Cx} {W : WX} {k v e : Expr} {mk mv me : M} {keys : List (Option Expr)} {values : List Expr} {m : S → Res (List (D × D))} {pos p p2 q apos cpos : Pos}
theorem mp_nil : MP X W pos [] [] mPNil := ⟨[], pps_nil, fun σ H Q ⟨g, s, ok, h⟩ => PostE.done h ok _ .nil⟩
theorem mp_cons (hk : ME X W k mk) (hv : ME X W v mv) (hr : MP X W pos keys values m) : MP X W pos (some k :: keys) (v :: values) (mPCons mk mv m) := by
  obtain ⟨trs, P, hi⟩ := hr.ex
  refine ⟨(tM X.K W mk, tM X.K W mv) :: trs, pps_cons hk hv P, fun σ H Q ⟨g, s, ok, h⟩ => ?_⟩
  refine tM_leak ok (PostE.bind h) fun x g1 s1 H1 vx t1 k1 o1 rx h1 => ?_
  refine tM_leak o1 (PostE.bind h1) fun y g2 s2 H2 vy t2 k2 o2 ry h2 => ?_
  refine hi σ H2 _ ⟨g2, s2, o2, (PostE.bind h2).mono fun ps g3 s3 H3 t3 k3 o3 h3 vs rs => ?_⟩
  exact PostE.done h3 o3 _ (.cons (rx.mono (t2.trans t3).le) (ry.mono t3.le) rs)
theorem me_disp (h : MP X W pos keys values m) (hall : keys.all (·.isSome) = true := by rfl) (hl : keys.length = values.length := by rfl) (h0 : keys ≠ [] := by decide) (h15 : keys.length ≤ 15 := by decide) :
    ME X W (.Dict keys values pos) (mDisp m) := by
  obtain ⟨trs, P, hi⟩ := h.ex
  refine pe_imp (L2.pe_disp P hall hl h0 h15) fun σ H Q ⟨g, s, ok, h⟩ p hp => ?_
  have o1 := ok.grow (o := .dK []) hp
  have h1 := (PostE.bind h).after (s' := s) (Step.grow (o := .dK []) ok hp) (SlKeep.refl _)
  refine hi σ _ _ ⟨g.hold p, s, o1.hold upd_same (ok.fnone hp) (ok.lnone hp), (h1.hold (a := p)).mono fun ps g3 s3 H3 t3 k3 o3 ⟨h3, e3, f3, l3, p3, st3, sk3⟩ vs rs => ?_⟩
  refine ⟨by rw [e3, upd_same], ?_⟩
  split at h3
  · rename_i ks ek
    split at h3
    · rename_i hl
      obtain ⟨kvs, ev, rk⟩ := keysOf_ok (rs.mono (wP_le (P := g.P))) ek
      refine ⟨kvs, ev, by rw [rk.len]; exact hl, ?_⟩
      have np : ¬ (g3.wP g.P).P p := ok.pnone hp
      have nl : ¬ Live (g3.wP g.P) s3 p := l3
      have oo := (o3.unhold (g0 := g) (a := p) p3).other (o := .dK (mergeK [] kvs)) f3 np nl
      have rk' : RepK X.K (g3.wP g.P) (mergeK [] kvs) (mergeD [] ks) := rk.merge .nil
      exact h3 (g3.wP g.P) _ (Step.other np f3) (SlKeep.refl _) oo _ ⟨p, rfl, f3, np, nl, ⟨_, upd_same, rk'⟩⟩
    · exact h3.elim
  · exact h3.elim
/-! ### list(e.items()), the dict perhaps locked (after HandS.ListItems) -/
def tLiR (te : TE) : TE := fun σ H Q => te σ H fun x H1 => ∃ (d : Addr) (kvs : List (Key × V)), x = .ref d ∧ Rd H1 d (.dK kvs) ∧
  ∀ (H' : Hp) (p : Addr) (ts : List Addr), (∀ b o, H1 b = some o → H' b = some o) → H1 p = none → (∀ t ∈ ts, H1 t = none) → p ∉ ts →
    H' p = some (.lst (ts.map V.ref)) → Paired (fun (t : Addr) (q : Key × V) => H' t = some (.tup [kV q.1, q.2])) ts kvs → Q (.ref p) H'
theorem pe_liR {X : Cx} {e : Expr} {te : TE} {pos p apos cpos : Pos} (hc : X.calm = true) (he : PE X e te) (hg : Gl X "list") (hm : X.mg "list" = none) (hv : bootBuiltins "list" = some (.type "list"))
    (hbase : attributeBase e "items" X.env (eval e X.env) = eval e X.env) (hline : (apos.endLine == cpos.line) = true)
    (hs : starEach [.Call (.Attribute e "items" apos) [] [] cpos] X.env = (false, eval (.Call (.Attribute e "items" apos) [] [] cpos) X.env) :: starEach [] X.env) :
    PE X (.Call (.Name "list" p) [.Call (.Attribute e "items" apos) [] [] cpos] [] pos) (tLiR te) := by
  constructor
  intro pins s σ H Q I hq
  apply wpAny_Call_Name_kw
  apply ld_blt I hg hm hv
  apply PyProof.Rows.callWith_type1 _ hs rfl
  rw [hs]
  apply Calls.spliced_cons
  apply wpAny_Call_method (T := "dict") (id := "dict.items") hbase rfl hline F.plainAttrs_dict F.slot_dict_items F.type_dict_items
  apply thn (he.run pins s σ H _ I hq)
  rintro u s1 ⟨x, H1, I1, rx, d, kvs, rfl, hd, q⟩
  cases (show u = Value.ref d from rx)
  obtain ⟨hz, hs0, vs, kv, hdo⟩ := dk_rd I1.hok hd
  obtain ⟨ep, hat⟩ := hdo.dictAt
  have lk : kvs.length = vs.length := Paired.length kv
  refine ⟨hdo.typeIs, hdo.mapOf.noDict, ?_⟩
  refine method_meetsIn F.slot_dict_items F.entry_dict_items rfl (PySem.evalArgs_none ⟨rfl, hdo.typeIs, F.args_dict_items_1 _, _, meets_dict_items (mixKind X.prog X.w) d hs0, ⟨vs, hdo⟩, ?_⟩)
  apply Calls.spliced_nil
  refine PySem.W.kdx_call (knd := mixKind X.prog X.w) (kvs := vs) (ep := ep) (I1.ok.hd hc) ⟨_, Heap.get?_push_size _ rfl, rfl, rfl⟩ (hat.push _) (by omega) ?_
  intro h' tk acc c as hk hS hl hG hacc
  have I2 := I1.kept (t' := s1.toks) (h' := s1.heap.push { cls := .type "dict_items", data := .fields #[.ref d] }) fun b ob q => Heap.get?_push_of_some _ q
  obtain ⟨H', a1, a2, a3, a4, a5, a6, J⟩ := LiI.items_laid (tk := tk) I2 hz kv hk hS hl hG hacc
  exact ⟨.ref _, H', J, rfl, q H' _ as a1 a2 a3 a4 a5 a6⟩
theorem me_dcopy (hc : X.calm = true) (he : ME X W e me) (hg : Gl X "dict") (hm : X.mg "dict" = none) (hg2 : Gl X "list") (hm2 : X.mg "list" = none) (hbase : attributeBase e "items" X.env (eval e X.env) = eval e X.env := by rfl) (hline : (apos.endLine == cpos.line) = true := by rfl)
    (hs : starEach [.Call (.Attribute e "items" apos) [] [] cpos] X.env = (false, eval (.Call (.Attribute e "items" apos) [] [] cpos) X.env) :: starEach [] X.env := by rfl)
    (hs2 : starEach [.Call (.Name "list" p2) [.Call (.Attribute e "items" apos) [] [] cpos] [] q] X.env = (false, eval (.Call (.Name "list" p2) [.Call (.Attribute e "items" apos) [] [] cpos] [] q) X.env) :: starEach [] X.env := by rfl) :
    ME X W (.Call (.Name "dict" p) [.Call (.Name "list" p2) [.Call (.Attribute e "items" apos) [] [] cpos] [] q] [] pos) (mDCopy me) := by
  refine pe_imp (pe_callTy (call_dictP hc) hg hm (by decide +kernel) (pa_cons (pe_liR hc he hg2 hm2 (by decide +kernel) hbase hline hs) pa_nil hs2) (he := hs2)) fun σ H Q ⟨g, s, ok, h⟩ => ?_
  refine tM_settle ok (PostE.bind h) fun r g1 s1 H1 v t1 k1 o1 rv nn h1 => ?_
  split at h1
  · rename_i ks e1
    obtain ⟨a, vs, rfl, hq, rk⟩ := asDic_ok o1 rv e1
    refine ⟨a, vs, rfl, hq, fun H2 l ts hmore hl hts hlt el hp => ?_⟩
    refine ⟨l, ts, vs, rfl, .of el, ?_, fun p2 hp2 => ?_⟩
    · clear h1 hlt hts el rk hq e1
      induction hp with
      | nil => exact .nil
      | cons h t ih => exact .cons (.of h) (ih)
    · have o2 := o1.more hmore
      exact h1 g1 _ ((Step.more o1 hmore).trans (Step.grow o2 hp2)) (SlKeep.refl _) (o2.grow hp2) _ ⟨p2, rfl, o2.fnone hp2, o2.pnone hp2, o2.lnone hp2, ⟨_, upd_same, rk.merge .nil⟩⟩
  · exact h1.elim
end
end MI
/-! # for k in a dict -/
namespace MI
open PySem L2

def keyD : Key → D
  | .inl i => .int i
  | .inr x => .str x
/-- the keys of the dict that a name holds -/
def iKeys (i : Nat) : S → Res (List D) := fun s => match s.env[i]? with
  | some (.val (.dic kvs)) => .ok (kvs.map fun kv => keyD kv.1) s
  | _ => .stuck
theorem rep_key {K : PySem.W.Frag} {g : G} (k : Key) : Rep K g (kV k) (keyD k) := by
  cases k with
  | inl i => exact .int i
  | inr x => exact .str x
theorem walk_keys {K : PySem.W.Frag} {g : G} {H0 : Hp} {a : Addr} {od : Obj} {vs : List (Key × V)} {kvs : List (Key × D)} (hF : g.F a = some (.dK vs)) (h0 : H0 a = some (.frz od (.dK vs))) (r : RepK K g vs kvs) :
    Walk K (Itk a od vs) (kvs.map fun kv => keyD kv.1) g H0 := by
  intro g' s' σ' H' l fk ok
  have hq : H' a = some (.frz od (.dK vs)) := (fk a _ hF).trans h0
  have hl : vs.length = kvs.length := r.length
  refine ⟨⟨hq, by rw [List.length_map, hl]; exact Nat.le_refl _⟩, fun i d e => ?_⟩
  rw [List.getElem?_map] at e
  obtain ⟨kv, e1, rfl⟩ := Option.map_eq_some_iff.mp e
  have hi : i < vs.length := by rw [hl]; exact (List.getElem?_eq_some_iff.mp e1).1
  have hk := r.keys
  have e2 : (vs.map (·.1))[i]? = some kv.1 := by rw [hk, List.getElem?_map, e1]; rfl
  rw [List.getElem?_map] at e2
  obtain ⟨kw, e3, e4⟩ := Option.map_eq_some_iff.mp e2
  refine ⟨⟨hq, hi⟩, fun x H'' ⟨e5, k, v, e6, e7⟩ => ?_⟩
  rw [e3] at e6
  cases e6
  subst e5 e7
  refine ⟨g', Step.refl _ _, SlKeep.refl _, ok, ?_⟩
  have e4' : k = kv.1 := e4
  rw [e4']
  exact rep_key _
section
variable {X : Cx} {W : WX} {σ : L2.St} {H : Hp} {g : G} {s : S}
/-- the dict that a name holds: where it stands -/
theorem dic_at {K : PySem.W.Frag} {i : Nat} {kvs : List (Key × D)} (ok : Ok K g s σ H) (e : s.env[i]? = some (.val (.dic kvs))) :
    ∃ a vs, σ[i]? = some (some (.ref a)) ∧ g.F a = some (.dK vs) ∧ RepK K g vs kvs := by
  obtain ⟨v, e1, r⟩ := ok.env i _ e
  cases r with
  | @dic a vs _ h1 r1 => exact ⟨a, vs, e1, h1, r1⟩
theorem keys_locked {i : Nat} {R : It → Hp → Prop} {kvs : List (Key × D)} {a : Addr} {vs : List (Key × V)} {od : Obj} (ok : Ok X.K g s σ H) (e : s.env[i]? = some (.val (.dic kvs)))
    (ha : σ[i]? = some (some (.ref a))) (hF : g.F a = some (.dK vs)) (r : RepK X.K g vs kvs) (hH : H a = some (.frz od (.dK vs))) (h : PostE X.K W σ g s H (kI X.K R) (iKeys i s)) : L2.iKeys (tVar i) σ H R := by
  unfold iKeys at h
  simp only [e] at h
  exact ⟨_, ha, a, od, rfl, .inl ⟨vs, hH, PostE.done h ok _ (walk_keys hF hH r)⟩⟩
/-- a dict that stands for good is locked -/
theorem Ok.lockd {K : PySem.W.Frag} {a : Addr} {vs : List (Key × V)} {od : Obj} (ok : Ok K g s σ H) (hF : g.F a = some (.dK vs)) (hH : H a = some (.dK vs)) : Ok K g s σ (upd H a (.frz od (.dK vs))) := by
  refine ⟨fun b o e => ?_, fun l o e => ?_, ok.inj, ok.env, ok.len, ok.ng, fun b p => ?_⟩
  · by_cases z : b = a
    · subst z
      rw [hF] at e; cases e
      rw [upd_same]
      exact .inr ⟨vs, od, rfl, rfl⟩
    · rw [upd_ne z]; exact ok.sub b o e
  · obtain ⟨f, r⟩ := ok.cell l o e
    exact ⟨f, r.mono (GLe.refl _) (upd_ne fun z => by rw [z, hF] at f; cases f)⟩
  · obtain ⟨⟨u, h1⟩, h2, h3⟩ := ok.prot b p
    exact ⟨⟨u, by rw [upd_ne (fun z => by rw [z, hF] at h2; cases h2)]; exact h1⟩, h2, h3⟩
/-- .. and let go again -/
theorem Ok.freed {K : PySem.W.Frag} {a : Addr} {vs : List (Key × V)} (ok : Ok K g s σ H) (hF : g.F a = some (.dK vs)) : Ok K g s σ (upd H a (.dK vs)) := by
  refine ⟨fun b o e => ?_, fun l o e => ?_, ok.inj, ok.env, ok.len, ok.ng, fun b p => ?_⟩
  · by_cases z : b = a
    · subst z
      rw [hF] at e; cases e
      rw [upd_same]
      exact .inl rfl
    · rw [upd_ne z]; exact ok.sub b o e
  · obtain ⟨f, r⟩ := ok.cell l o e
    exact ⟨f, r.mono (GLe.refl _) (upd_ne fun z => by rw [z, hF] at f; cases f)⟩
  · obtain ⟨⟨u, h1⟩, h2, h3⟩ := ok.prot b p
    exact ⟨⟨u, by rw [upd_ne (fun z => by rw [z, hF] at h2; cases h2)]; exact h1⟩, h2, h3⟩
theorem Step.freed {g' : G} {H' : Hp} {K : PySem.W.Frag} {a : Addr} {vs : List (Key × V)} {od : Obj} (ok : Ok K g s σ H) (hF : g.F a = some (.dK vs)) (hH : H a = some (.dK vs)) (t : Step g (upd H a (.frz od (.dK vs))) g' H') : Step g H g' (upd H' a (.dK vs)) := by
  refine ⟨t.le, t.P, fun b p => ?_, fun b u e => ?_⟩
  · have z : b ≠ a := fun z => by
      have := (ok.prot b p).2.1
      rw [z, hF] at this; cases this
    rw [upd_ne z, t.keep b p, upd_ne z]
  · by_cases z : b = a
    · subst z; rw [upd_same, hH]
    · rw [upd_ne z, t.fk b u e, upd_ne z]
theorem RepRV.at_heap {K : PySem.W.Frag} {H' : Hp} {v : V} {r : RV} (h : RepRV K g s H v r) (e : ∀ a, g.F a = none → H' a = H a) : RepRV K g s H' v r := by
  cases r with
  | d x => exact h
  | «at» i => exact h
  | new o =>
    obtain ⟨a, h1, h2, h3, h4, h5⟩ := h
    exact ⟨a, h1, h2, h3, h4, h5.mono (GLe.refl _) (e a h2)⟩
def noExc {α : Type} : Res α → Prop
  | .exc _ _ _ => False
  | _ => True
theorem PostE.lockd {a : Addr} {vs : List (Key × V)} {od : Obj} {Q : VK} {r : Res RV} (ok : Ok X.K g s σ H) (hF : g.F a = some (.dK vs)) (hH : H a = some (.dK vs)) (ne : noExc r) (h : PostE X.K W σ g s H (kE X.K Q) r) :
    PostE X.K W σ g s (upd H a (.frz od (.dK vs))) (kE X.K fun v H' => H' a = some (.frz od (.dK vs)) ∧ Q v (upd H' a (.dK vs))) r := by
  cases r with
  | ok b s' =>
    intro g' H' t k o v rv
    have e1 : H' a = some (.frz od (.dK vs)) := by rw [t.fk a _ hF, upd_same]
    have hF' := t.le.F _ _ hF
    exact ⟨e1, h g' _ (Step.freed ok hF hH t) k (o.freed hF') v (rv.at_heap fun b n => upd_ne fun z => by rw [z, hF'] at n; cases n)⟩
  | exc c p s' => exact ne.elim
  | stuck => exact h
theorem comp_noExc {vs : List Nat} {i : Nat} {t : D → S → Option S} {mc : S → Res Bool} {me : M} : noExc (mComp vs (iKeys i) t mc me s) := by
  unfold mComp iKeys
  split
  · simp only [Res.bind_ok]
    split
    · split <;> trivial
    · trivial
  · trivial
variable {elt tg : Expr} {ifs : List Expr} {scope : Scope} {own : List (Str × Nat)} {pos npos : Pos} {gt : TG} {is : List Nat} {t : D → S → Option S} {mc : S → Res Bool} {me : M}
theorem pe_alt {e : Expr} {t t' : TE} (h : PE X e t) (h' : PE X e t') : PE X e (fun σ H Q => t σ H Q ∨ t' σ H Q) :=
  ⟨fun pins s σ H Q I q => q.elim (h.run pins s σ H Q I) (h'.run pins s σ H Q I)⟩
theorem tLc_keys {i : Nat} {kvs : List (Key × D)} {a : Addr} {vs : List (Key × V)} {od : Obj} {bl : List Nat} {Q : VK} (hgt : MGk X.K gt is t) (hsub : ∀ i ∈ is, i ∈ bl) (e : s.env[i]? = some (.val (.dic kvs))) (ha : σ[i]? = some (some (.ref a)))
    (hF : g.F a = some (.dK vs)) (hH : H a = some (.frz od (.dK vs))) (ok : Ok X.K g s σ H) (h : PostE X.K W σ g s H (kE X.K Q) (mComp bl (iKeys i) t mc me s)) :
    tLc (L2.iKeys (tVar i)) gt (tMT X.K W0 mc) (tM X.K W0 me) bl σ H Q := by
  obtain ⟨g2, s2, ok2, h2⟩ := tLc_of (W := W) hgt hsub ok h
  cases e2 : s2.env[i]? with
  | none => simp only [iKeys, e2] at h2; exact h2.elim
  | some w =>
    by_cases hd : ∃ kvs, w = .val (.dic kvs)
    · obtain ⟨kvs2, rfl⟩ := hd
      obtain ⟨a', vs', ha', hF', r⟩ := dic_at ok2 e2
      rw [ha] at ha'; cases ha'
      rcases ok2.sub a _ hF' with q | ⟨k, od', ez, q⟩
      · rw [hH] at q; cases q
      · cases ez
        rw [hH] at q; cases q
        exact keys_locked ok2 e2 ha hF' r hH h2
    · have : iKeys i s2 = .stuck := by
        unfold iKeys
        rw [e2]
        split
        · rename_i q; cases q; exact absurd ⟨_, rfl⟩ hd
        · rfl
      rw [this] at h2
      exact h2.elim
/-- [.. for k in d], d a name -/
theorem me_compK {i : Nat} {x : Str} (hc : X.calm = true) (hN : X.N.Nodup) (ok : BlkOk X.N X.env.scope scope own) (hgk : MGk X.K gt is t) (hsub : ∀ i ∈ is, i ∈ own.map (·.2))
    (hg : Blk X scope fun Y => PG Y tg gt) (ht : Blk X scope fun Y => MTs Y W0 ifs mc) (he : Blk X scope fun Y => ME Y W0 elt me)
    (hi : X.N[i]? = some x := by rfl) (hv : Vis X.env.scope x := by first | exact Or.inl rfl | exact Or.inr (Or.inl rfl) | exact Or.inr (Or.inr rfl)) (hd : (x == ("__debug__" : Str)) = false := by decide) (hcd : (x == ("__classdict__" : Str)) = false := by decide)
    (hs : ∀ y, foldedSetIterable (.Name x npos) X.env y = pure y := by intro _; rfl) :
    ME X W (.ListComp elt [⟨tg, .Name x npos, ifs, 0⟩] scope pos) (mComp (own.map (·.2)) (iKeys i) t mc me) := by
  have z := pe_lc (pos := pos) (tt := tMT X.K W0 mc) (te := tM X.K W0 me) hc hN (pi_keys (tg := tg) (pe_var (i := i) (pos := npos) hi hv hd hcd)) ok (fun s H C cl fp => hg s H C cl fp) (fun s H C cl fp => ht s H C cl fp) (fun s H C cl fp => he s H C cl fp) hs
  refine pe_imp (pe_alt z (pe_lock z)) fun σ H Q h => ?_
  obtain ⟨g, s, o, h⟩ := h
  cases e : s.env[i]? with
  | none => simp only [mComp, iKeys, e, Res.bind_stuck] at h; exact h.elim
  | some w =>
    by_cases hd : ∃ kvs, w = .val (.dic kvs)
    · obtain ⟨kvs, rfl⟩ := hd
      obtain ⟨a, vs, ha, hF, r⟩ := dic_at o e
      rcases o.sub a _ hF with hH | ⟨_, od, ez, hH⟩
      · refine .inr ⟨a, .dK vs, hH, trivial, fun od => ?_⟩
        have o1 := o.lockd (od := od) hF hH
        have h1 := PostE.lockd (od := od) o hF hH comp_noExc h
        exact tLc_keys hgk hsub e ha hF upd_same o1 h1
      · cases ez
        exact .inl (tLc_keys hgk hsub e ha hF hH o h)
    · have : iKeys i s = .stuck := by
        unfold iKeys
        rw [e]
        split
        · rename_i q; cases q; exact absurd ⟨_, rfl⟩ hd
        · rfl
      simp only [mComp, this, Res.bind_stuck] at h
      exact h.elim
end
end MI
/-! # for i, x in enumerate of a text, of a tuple -/
namespace MI
open PySem PySem.Spec PyProof.Rows L2

/-- what is drawn at a turn comes with its number in a new pair -/
structure Drawn (X : Cx) (s : Shared) (H : Hp) (en it : Addr) (go : Nat → Prop) (n : Nat) (item : Nat → V → Prop) (st : Nat → Heap → Prop) : Prop where
  ex : ∃ fp Pr St, Draws X.prog X.w X.A.in1 it fp n Pr St ∧ en ∉ fp ∧ (∀ i, st i s.heap → St i s.heap) ∧ (∀ i h, i ≤ n → (∀ b o, b ≠ en → b ≠ it → s.heap.get? b = some o → h.get? b = some o) → St i h → st i h) ∧ ∀ i u, Pr i u → ∃ v, item i v ∧ RelV v u
def ItG (go : Nat → Hp → Prop) (item : Nat → Hp → V → Prop) (stop : Nat → Hp → Prop) : It :=
  ⟨go, fun i H v H' => ∃ T x, v = .ref T ∧ H T = none ∧ H' = upd H T (.tup [.int (i : Nat), x]) ∧ item i H x, stop⟩
section
variable {P : Program} {w : World} {K : PySem.W.Frag} {elts : List Expr} {kk : Nat} {tpos : Pos}
theorem turn_enumG (en it : Addr) (go stop : Nat → Hp → Prop) (item : Nat → Hp → V → Prop) (st : Nat → Heap → Prop)
    (obj : ∀ i h, st i h → ∃ o, h.get? it = some o ∧ ∀ v, o.data ≠ .cell v) (keep : ∀ i h h', st i h → (∀ o, h.get? it = some o → h'.get? it = some o) → st i h')
    (step : ∀ (X : Cx), X.prog = P → X.w = w → X.K = K → X.calm = true → ∀ pins σ H s, Inv X pins σ H s → FpOk X pins H en → FpOk X pins H it → en ≠ it → ∀ i, go i H → ∃ n, i < n ∧ Drawn X s H en it (fun i => go i H) n (fun i v => item i H v) st)
    (fin : ∀ (X : Cx), X.prog = P → X.w = w → X.K = K → X.calm = true → ∀ pins σ H s, Inv X pins σ H s → FpOk X pins H en → FpOk X pins H it → ∀ i, stop i H → st i s.heap → ∃ fp n Pr St, Draws X.prog X.w X.A.in1 it fp n Pr St ∧ St n s.heap) :
    Turn P w K (.Tuple elts kk tpos) (ItG go item stop) [en, it] en (fun i h => (∃ old, IsEnum h en it ((i : Nat) : Int) old) ∧ st i h ∧ en ≠ it) := by
  refine ⟨by simp, ?_, ?_, ?_, ?_, ?_⟩
  · rintro i h ⟨⟨old, he⟩, hs, _⟩ b hb
    rcases List.mem_cons.mp hb with rfl | hb
    · exact ⟨_, he, fun v q => nomatch q⟩
    · rcases List.mem_cons.mp hb with rfl | hb
      · exact obj i h hs
      · cases hb
  · rintro i h h' ⟨⟨old, he⟩, hs, hne⟩ k
    exact ⟨⟨old, k en (by simp) _ he⟩, keep i h h' hs fun o q => k it (by simp) o q, hne⟩
  · rintro X hP hw hK hc i pins s σ H E I hf ⟨⟨old, he⟩, hs, hne⟩ hg
    obtain ⟨n, hn, ⟨fp, Pr, St, Dw, hfp, h1, h2, h3⟩⟩ := step X hP hw hK hc pins σ H s I (hf en (by simp)) (hf it (by simp)) hne i hg
    subst hP hw hK
    have l1 : en < s.heap.objs.size := Heap.lt_size he
    obtain ⟨o1, q1, _⟩ := obj i _ hs
    have l2 : it < s.heap.objs.size := Heap.lt_size q1
    refine wpAny_pyNext_enum_itemD Dw he (h1 i hs) hn hne hfp ?_
    intro u h' tk hp ho hst hT hsz hk
    refine ⟨_, rfl, ?_⟩
    refine wpAny_letOwnedTupleGo_enum (s := { s with heap := h', toks := tk + 1 }) ho ?_
    intro h'' he' sb
    obtain ⟨v, hv, rv⟩ := h3 i u hp
    have hT2 : h''.get? s.heap.objs.size = some { cls := .type "tuple", data := .seq #[.int i tk, u] } := by rw [sb.2 _ (Nat.ne_of_gt l1)]; exact hT
    have ob : ObjOk X.prog X.w (upd H s.heap.objs.size (.tup [.int (i : Nat), v])) h'' s.heap.objs.size (.tup [.int (i : Nat), v]) :=
      ⟨by show 2 ≤ sizeLine; decide, [.int i tk, u], .cons ⟨tk, rfl⟩ (.cons rv .nil), ⟨_, hT2, rfl, _, rfl⟩⟩
    have kp : ∀ b o, b ∉ [en, it] → s.heap.get? b = some o → h''.get? b = some o := fun b o hb q => by
      have z1 : b ≠ en := fun z => hb (by simp [z])
      have z2 : b ≠ it := fun z => hb (by simp [z])
      rw [sb.2 b z1]; exact hk b o z1 z2 q
    have I1 := I.turnedNew (t' := tk + 1) (ch := [en, it]) kp hf (Nat.le_refl _) ob
    refine ⟨.ref s.heap.objs.size, _, I1, rfl, ⟨_, v, rfl, I.hok.fresh (Nat.le_refl _), rfl, hv⟩, ⟨⟨u, ?_⟩, ?_, hne⟩, ?_⟩
    · have e1 : ((i + 1 : Nat) : Int) = (i : Int) + 1 := by omega
      rw [e1]; exact he'
    · refine keep (i + 1) h' h'' (h2 (i + 1) h' hn (fun b o z1 z2 q => hk b o z1 z2 q) hst) fun o q => ?_
      rw [sb.2 it (Ne.symm hne)]; exact q
    · intro b hb
      have lb : b < s.heap.objs.size := by
        rcases List.mem_cons.mp hb with rfl | hb
        · exact l1
        · rcases List.mem_cons.mp hb with rfl | hb
          · exact l2
          · cases hb
      rw [upd_ne (Nat.ne_of_lt lb)]
      exact (hf b hb).1
  · rintro X hP hw hK hc i pins s σ H E I hf ⟨⟨old, he⟩, hs, hne⟩ hg
    obtain ⟨fp, n, Pr, St, Dw, h1⟩ := fin X hP hw hK hc pins σ H s I (hf en (by simp)) (hf it (by simp)) i hg hs
    subst hP hw hK
    obtain ⟨f0, f1, f2, f3, f4, f5⟩ := hf it (by simp)
    exact wpAny_pyNext_enum_endD Dw he h1 fun h' eb => ⟨rfl, I.turned (t' := s.toks) (fun b o hb q => eb b o hb q) f0 f1 f3 f4 f5⟩
  · rintro A i s Q E ⟨⟨old, he⟩, _⟩ h
    exact wpAny_pyIter_enum he h
/-- the signs of a text, each with its place -/
def ItES (x : Str) : It := ItG (fun i _ => i < x.cps.size) (fun i _ v => ∃ c, x.cps[i]? = some c ∧ v = .str ⟨#[c]⟩) (fun i _ => x.cps.size ≤ i)
theorem turn_enumS (en it : Addr) (x : Str) (t : Tok) : Turn P w K (.Tuple elts kk tpos) (ItES x) [en, it] en (fun i h => (∃ old, IsEnum h en it ((i : Nat) : Int) old) ∧ (h.IsStrIter it (strIterType x) x t i ∧ i ≤ x.cps.size) ∧ en ≠ it) := by
  refine turn_enumG en it _ _ _ (fun i h => h.IsStrIter it (strIterType x) x t i ∧ i ≤ x.cps.size) ?_ ?_ ?_ ?_
  · rintro i h ⟨⟨o, ho, hc, hd⟩, _⟩
    exact ⟨o, ho, fun v q => by rw [hd] at q; cases q⟩
  · rintro i h h' ⟨⟨o, ho, r⟩, hl⟩ k
    exact ⟨⟨o, k o ho, r⟩, hl⟩
  · rintro X rfl rfl rfl hc pins σ H s I _ _ hne i hg
    refine ⟨x.cps.size, hg, ⟨[it], _, _, Draws.text (A := X.A.in1) (I.ok.hd hc) it x t, fun z => hne (List.mem_singleton.mp z), fun i h => h.1, fun i h hi _ q => ⟨q, hi⟩, ?_⟩⟩
    rintro i u ⟨c, tk, hc', rfl⟩
    exact ⟨.str ⟨#[c]⟩, ⟨c, hc', rfl⟩, ⟨tk, rfl⟩⟩
  · rintro X rfl rfl rfl hc pins σ H s I _ _ i hg ⟨hs, hi⟩
    have hg' : x.cps.size ≤ i := hg
    have e : i = x.cps.size := by omega
    subst e
    have Dw := Draws.text (prog := X.prog) (w := X.w) (A := X.A.in1) (I.ok.hd hc) it x t
    exact ⟨[it], _, _, _, Dw, hs⟩
/-- the items of a tuple, each with its place -/
def ItET (K : PySem.W.Frag) (a : Addr) : It := ItG (fun i H => ∃ (xs : List V), SqT K H a xs ∧ i < xs.length) (fun i H v => ∀ xs, SqT K H a xs → xs[i]? = some v) (fun i H => ∃ (xs : List V), SqT K H a xs ∧ xs.length ≤ i)
end
def iEnS (ta : TA) : TI := fun σ H R => ta σ H fun vs H1 => ∃ x, vs = [.str x] ∧ R (ItES x) H1
theorem pi_enumS {X : Cx} {e : Expr} {ta : TA} {p pos tpos : Pos} {elts : List Expr} {kk : Nat} (hg : Gl X "enumerate") (hm : X.mg "enumerate" = none) (ha : PA X [e] ta) (hs : starEach [e] X.env = [(false, eval e X.env)] := by rfl) :
    PI X (.Tuple elts kk tpos) (.Call (.Name "enumerate" p) [e] [] pos) (iEnS ta) := by
  constructor
  intro pins s σ H R I h
  refine Call_ (ld_blt I hg hm boot_enumerate (PyProof.Rows.callWith_type1 ?_ hs rfl))
  apply thn (ha.run pos pins s σ H _ I h)
  rintro us s1 ⟨vs, H1, I1, r1, x, rfl, q⟩
  cases r1 with
  | cons r rr =>
    cases rr
    obtain ⟨t, rfl⟩ := r
    refine call_enumerate_str fun h' he hit hsz hk => wpAny_pyIter_enum he ?_
    have I2 := I1.kept (t' := s1.toks) hk
    refine ⟨s1.heap.objs.size + 1, [s1.heap.objs.size + 1, s1.heap.objs.size], _, _, H1, rfl, I2, turn_enumS (s1.heap.objs.size + 1) s1.heap.objs.size x t, ⟨⟨.none, he⟩, ⟨hit, Nat.zero_le _⟩, Nat.succ_ne_self _⟩, ?_, q⟩
    intro b hb
    have hle : s1.heap.objs.size ≤ b := by
      rcases List.mem_cons.mp hb with rfl | hb
      · exact Nat.le_succ _
      · rw [List.mem_singleton.mp hb]; exact Nat.le_refl _
    exact I1.fpOk hle (I1.hok.fresh hle)
/-! ### mirrors -/
def iEnumT (m : S → Res (List D)) : S → Res (List D) := fun s => (m s).bind fun ds s1 => match ds with
  | [.str x] => .ok (enumD 0 (signs x)) s1
  | _ => .stuck
theorem signs_len (x : Str) : (signs x).length = x.cps.size := by simp [signs]
theorem walk_enumS {K : PySem.W.Frag} {g : G} {H0 : Hp} {x : Str} : Walk K (ItES x) (enumD 0 (signs x)) g H0 := by
  intro g' s' σ' H' l _ ok
  refine ⟨by show x.cps.size ≤ _; rw [enumD_len, signs_len]; exact Nat.le_refl _, fun i d e => ?_⟩
  obtain ⟨y, hy, rfl⟩ := enumD_get 0 _ i d e
  unfold signs at hy
  rw [List.getElem?_map] at hy
  obtain ⟨c, hc, rfl⟩ := Option.map_eq_some_iff.mp hy
  have hc' : x.cps[i]? = some c := by rw [← Array.getElem?_toList]; exact hc
  refine ⟨(Array.getElem?_eq_some_iff.mp hc').1, ?_⟩
  rintro z H'' ⟨T, v, rfl, hT, rfl, c', h', rfl⟩
  rw [hc'] at h'
  cases h'
  have k1 := ok.grow (o := .tup [.int (i : Nat), .str ⟨#[c]⟩]) hT
  have k2 := k1.frz (o := .tup [.int (i : Nat), .str ⟨#[c]⟩]) upd_same (ok.fnone hT) (ok.pnone hT) (ok.lnone hT)
  refine ⟨g'.frz T (.tup [.int (i : Nat), .str ⟨#[c]⟩]), (Step.grow ok hT).trans (Step.frz (ok.fnone hT)), SlKeep.refl _, k2, ?_⟩
  rw [Nat.zero_add]
  exact .tup (.inl (.inl upd_same)) (.cons (.int _) (.cons (.str _) .nil))
theorem mi_enumT {X : Cx} {W : WX} {a : Expr} {m : S → Res (List D)} {p pos tpos : Pos} {elts : List Expr} {kk : Nat} (ha : MA X W [a] m) (hg : Gl X "enumerate") (hm : X.mg "enumerate" = none) (hs : starEach [a] X.env = [(false, eval a X.env)] := by rfl) :
    MIt X W (.Tuple elts kk tpos) (.Call (.Name "enumerate" p) [a] [] pos) (iEnumT m) := by
  refine pi_imp (pi_enumS hg hm ha hs) fun σ H R h => ?_
  obtain ⟨g, s, ok, h⟩ := h
  refine ⟨g, s, ok, (PostE.bind h).mono fun ds g1 s1 H1 t1 k1 o1 h1 vs rs => ?_⟩
  split at h1
  · rename_i x
    cases rs with
    | cons r1 rs =>
      cases rs
      cases r1
      exact ⟨x, rfl, PostE.done h1 o1 _ walk_enumS⟩
  · exact h1.elim
end MI
/-! # Data compared, sorted, the greatest and the least of them -/
namespace MI
open PySem L2

mutual
def toP : D → Option PyData
  | .non => some .none
  | .bl b => some (.bool b)
  | .int i => some (.int i)
  | .str x => some (.str x)
  | .tup xs => (toPs xs).map .tuple
  | .lst xs => (toPs xs).map .list
  | .dic _ => none
  | .ref _ => none
  | .scr _ => none
def toPs : List D → Option (List PyData)
  | [] => some []
  | x :: xs => (toP x).bind fun p => (toPs xs).map (p :: ·)
end
mutual
def likeD : D → D → Bool
  | .non, .non => true
  | .bl _, .bl _ => true
  | .int _, .int _ => true
  | .str _, .str _ => true
  | .tup xs, .tup ys => likeDs xs ys
  | .lst xs, .lst ys => likeDs xs ys
  | _, _ => false
def likeDs : List D → List D → Bool
  | x :: xs, y :: ys => likeD x y && likeDs xs ys
  | [], _ => true
  | _ :: _, [] => true
end
mutual
def eqD : D → D → Bool
  | .non, .non => true
  | .bl a, .bl b => a == b
  | .int a, .int b => a == b
  | .str a, .str b => a == b
  | .tup xs, .tup ys => eqDs xs ys
  | .lst xs, .lst ys => eqDs xs ys
  | _, _ => false
def eqDs : List D → List D → Bool
  | x :: xs, y :: ys => eqD x y && eqDs xs ys
  | [], [] => true
  | _, _ => false
end
mutual
def ltD : D → D → Bool
  | .bl a, .bl b => !a && b
  | .int a, .int b => decide (a < b)
  | .str a, .str b => strLt a b
  | .tup xs, .tup ys => ltDs xs ys
  | .lst xs, .lst ys => ltDs xs ys
  | _, _ => false
def ltDs : List D → List D → Bool
  | x :: xs, y :: ys => if eqD x y = true then ltDs xs ys else ltD x y
  | [], _ :: _ => true
  | _, [] => false
end
mutual
def depD : D → Nat
  | .tup xs => depDs xs + 1
  | .lst xs => depDs xs + 1
  | _ => 0
def depDs : List D → Nat
  | [] => 0
  | x :: xs => max (depD x) (depDs xs)
end
/-- data that can be compared -/
def okD (x : D) : Bool := (toP x).isSome && decide (depD x ≤ 40) && (match x with | .non => false | _ => true)
def cmpD (x y : D) : Bool := okD x && okD y && likeD x y

mutual
theorem toP_like : ∀ {x y : D} {p q : PyData}, toP x = some p → toP y = some q → W.alike p q = likeD x y
  | .non, y, p, q, e, f => by cases e; cases y <;> simp only [toP, Option.map_eq_some_iff, Option.some.injEq, reduceCtorEq] at f <;> first | (subst f; rfl) | (obtain ⟨_, _, rfl⟩ := f; rfl) | cases f
  | .bl b, y, p, q, e, f => by cases e; cases y <;> simp only [toP, Option.map_eq_some_iff, Option.some.injEq, reduceCtorEq] at f <;> first | (subst f; rfl) | (obtain ⟨_, _, rfl⟩ := f; rfl) | cases f
  | .int b, y, p, q, e, f => by cases e; cases y <;> simp only [toP, Option.map_eq_some_iff, Option.some.injEq, reduceCtorEq] at f <;> first | (subst f; rfl) | (obtain ⟨_, _, rfl⟩ := f; rfl) | cases f
  | .str b, y, p, q, e, f => by cases e; cases y <;> simp only [toP, Option.map_eq_some_iff, Option.some.injEq, reduceCtorEq] at f <;> first | (subst f; rfl) | (obtain ⟨_, _, rfl⟩ := f; rfl) | cases f
  | .tup xs, y, p, q, e, f => by
    simp only [toP, Option.map_eq_some_iff] at e
    obtain ⟨ps, e1, rfl⟩ := e
    cases y with
    | tup ys =>
      simp only [toP, Option.map_eq_some_iff] at f
      obtain ⟨qs, f1, rfl⟩ := f
      simp only [W.alike, likeD]
      exact toPs_like e1 f1
    | _ => simp only [toP, Option.map_eq_some_iff, Option.some.injEq, reduceCtorEq] at f <;> first | (subst f; rfl) | (obtain ⟨_, _, rfl⟩ := f; rfl) | cases f
  | .lst xs, y, p, q, e, f => by
    simp only [toP, Option.map_eq_some_iff] at e
    obtain ⟨ps, e1, rfl⟩ := e
    cases y with
    | lst ys =>
      simp only [toP, Option.map_eq_some_iff] at f
      obtain ⟨qs, f1, rfl⟩ := f
      simp only [W.alike, likeD]
      exact toPs_like e1 f1
    | _ => simp only [toP, Option.map_eq_some_iff, Option.some.injEq, reduceCtorEq] at f <;> first | (subst f; rfl) | (obtain ⟨_, _, rfl⟩ := f; rfl) | cases f
  | .dic _, y, p, q, e, f => by cases e
  | .ref _, y, p, q, e, f => by cases e
  | .scr _, y, p, q, e, f => by cases e
theorem toPs_like : ∀ {xs ys : List D} {p q : List PyData}, toPs xs = some p → toPs ys = some q → W.alikeAll p q = likeDs xs ys
  | [], ys, p, q, e, f => by cases e; simp [W.alikeAll, likeDs]
  | x :: xs, [], p, q, e, f => by
    cases f
    simp only [toPs, Option.bind_eq_some_iff, Option.map_eq_some_iff] at e
    obtain ⟨a, _, b, _, rfl⟩ := e
    rfl
  | x :: xs, y :: ys, p, q, e, f => by
    simp only [toPs, Option.bind_eq_some_iff, Option.map_eq_some_iff] at e f
    obtain ⟨a, e1, b, e2, rfl⟩ := e
    obtain ⟨c, f1, d, f2, rfl⟩ := f
    simp only [W.alikeAll, likeDs]
    rw [toP_like e1 f1, toPs_like e2 f2]
end
mutual
theorem toP_eqv : ∀ {x y : D} {p q : PyData}, toP x = some p → toP y = some q → PyData.eqv p q = true → likeD x y = true → eqD x y = true
  | .non, y, p, q, e, f, h, l => by cases y <;> first | rfl | cases l
  | .bl b, y, p, q, e, f, h, l => by
    cases y <;> first | cases l | skip
    cases e; cases f; simpa [PyData.eqv, eqD] using h
  | .int b, y, p, q, e, f, h, l => by
    cases y <;> first | cases l | skip
    cases e; cases f; simpa [PyData.eqv, eqD] using h
  | .str b, y, p, q, e, f, h, l => by
    cases y <;> first | cases l | skip
    cases e; cases f; simpa [PyData.eqv, eqD] using h
  | .tup xs, y, p, q, e, f, h, l => by
    cases y <;> first | cases l | skip
    simp only [toP, Option.map_eq_some_iff] at e f
    obtain ⟨ps, e1, rfl⟩ := e
    obtain ⟨qs, f1, rfl⟩ := f
    exact toPs_eqv e1 f1 (by simpa [PyData.eqv] using h) (by simpa [likeD] using l)
  | .lst xs, y, p, q, e, f, h, l => by
    cases y <;> first | cases l | skip
    simp only [toP, Option.map_eq_some_iff] at e f
    obtain ⟨ps, e1, rfl⟩ := e
    obtain ⟨qs, f1, rfl⟩ := f
    exact toPs_eqv e1 f1 (by simpa [PyData.eqv] using h) (by simpa [likeD] using l)
  | .dic _, y, p, q, e, f, h, l => by cases e
  | .ref _, y, p, q, e, f, h, l => by cases e
  | .scr _, y, p, q, e, f, h, l => by cases e
theorem toPs_eqv : ∀ {xs ys : List D} {p q : List PyData}, toPs xs = some p → toPs ys = some q → PyData.eqvAll p q = true → likeDs xs ys = true → eqDs xs ys = true
  | [], [], p, q, e, f, h, l => rfl
  | [], y :: ys, p, q, e, f, h, l => by
    cases e
    simp only [toPs, Option.bind_eq_some_iff, Option.map_eq_some_iff] at f
    obtain ⟨c, f1, d, f2, rfl⟩ := f
    simp [PyData.eqvAll] at h
  | x :: xs, [], p, q, e, f, h, l => by
    cases f
    simp only [toPs, Option.bind_eq_some_iff, Option.map_eq_some_iff] at e
    obtain ⟨a, _, b, _, rfl⟩ := e
    simp [PyData.eqvAll] at h
  | x :: xs, y :: ys, p, q, e, f, h, l => by
    simp only [toPs, Option.bind_eq_some_iff, Option.map_eq_some_iff] at e f
    obtain ⟨a, e1, b, e2, rfl⟩ := e
    obtain ⟨c, f1, d, f2, rfl⟩ := f
    rw [W.eqv_all_cons, Bool.and_eq_true] at h
    simp only [likeDs, Bool.and_eq_true] at l
    simp only [eqDs, Bool.and_eq_true]
    exact ⟨toP_eqv e1 f1 h.1 l.1, toPs_eqv e2 f2 h.2 l.2⟩
end
mutual
theorem eqD_eq : ∀ {x y : D}, eqD x y = true → x = y
  | .non, y, h => by cases y <;> first | rfl | cases h
  | .bl b, y, h => by cases y <;> first | cases h | (simp [eqD] at h; rw [h])
  | .int b, y, h => by cases y <;> first | cases h | (simp [eqD] at h; rw [h])
  | .str b, y, h => by cases y <;> first | cases h | (simp [eqD] at h; rw [h])
  | .tup xs, y, h => by
    cases y <;> first | cases h | skip
    exact congrArg D.tup (eqDs_eq (by simpa [eqD] using h))
  | .lst xs, y, h => by
    cases y <;> first | cases h | skip
    exact congrArg D.lst (eqDs_eq (by simpa [eqD] using h))
  | .dic _, y, h => by cases y <;> cases h
  | .ref _, y, h => by cases y <;> cases h
  | .scr _, y, h => by cases y <;> cases h
theorem eqDs_eq : ∀ {x y : List D}, eqDs x y = true → x = y
  | [], [], _ => rfl
  | [], _ :: _, h => by cases h
  | _ :: _, [], h => by cases h
  | x :: xs, y :: ys, h => by
    simp only [eqDs, Bool.and_eq_true] at h
    rw [eqD_eq h.1, eqDs_eq h.2]
end
theorem toP_inj {x y : D} {p : PyData} (e : toP x = some p) (f : toP y = some p) (l : likeD x y = true) : x = y :=
  eqD_eq (toP_eqv e f (W.eqv_refl_alike p (by rw [toP_like e f]; exact l)) l)
mutual
theorem eqD_toP : ∀ {x y : D} {p q : PyData}, toP x = some p → toP y = some q → eqD x y = true → PyData.eqv p q = true
  | x, y, p, q, e, f, h => by
    have z := eqD_eq h
    subst z
    rw [e] at f; cases f
    exact W.eqv_refl_alike p (by
      rw [toP_like e e]
      exact eqD_like h)
theorem eqD_like : ∀ {x : D}, eqD x x = true → likeD x x = true
  | .non, _ => rfl
  | .bl _, _ => rfl
  | .int _, _ => rfl
  | .str _, _ => rfl
  | .tup xs, h => by simp only [likeD]; exact eqDs_like (by simpa [eqD] using h)
  | .lst xs, h => by simp only [likeD]; exact eqDs_like (by simpa [eqD] using h)
  | .dic _, h => by cases h
  | .ref _, h => by cases h
  | .scr _, h => by cases h
theorem eqDs_like : ∀ {x : List D}, eqDs x x = true → likeDs x x = true
  | [], _ => rfl
  | x :: xs, h => by
    simp only [eqDs, Bool.and_eq_true] at h
    simp only [likeDs, Bool.and_eq_true]
    exact ⟨eqD_like h.1, eqDs_like h.2⟩
end
theorem eqv_eqD {x y : D} {p q : PyData} (e : toP x = some p) (f : toP y = some q) (l : likeD x y = true) : PyData.eqv p q = eqD x y := by
  cases h : eqD x y with
  | true => exact eqD_toP e f h
  | false =>
    cases h2 : PyData.eqv p q with
    | false => rfl
    | true => rw [toP_eqv e f h2 l] at h; cases h
mutual
theorem lt_toP : ∀ {x y : D} {p q : PyData}, toP x = some p → toP y = some q → likeD x y = true → x ≠ .non → W.dataLt p q = ltD x y
  | .non, y, p, q, e, f, l, n => absurd rfl n
  | .bl b, y, p, q, e, f, l, _ => by
    cases y <;> first | cases l | skip
    rename_i c
    cases e; cases f
    rw [W.dataLt_bool]
    cases b <;> cases c <;> rfl
  | .int b, y, p, q, e, f, l, _ => by
    cases y <;> first | cases l | skip
    cases e; cases f
    rw [W.dataLt_int]; rfl
  | .str b, y, p, q, e, f, l, _ => by
    cases y <;> first | cases l | skip
    cases e; cases f
    rw [W.dataLt_str]; rfl
  | .tup xs, y, p, q, e, f, l, _ => by
    cases y <;> first | cases l | skip
    simp only [toP, Option.map_eq_some_iff] at e f
    obtain ⟨ps, e1, rfl⟩ := e
    obtain ⟨qs, f1, rfl⟩ := f
    rw [W.dataLt_tuple]
    exact lts_toP e1 f1 (by simpa [likeD] using l)
  | .lst xs, y, p, q, e, f, l, _ => by
    cases y <;> first | cases l | skip
    simp only [toP, Option.map_eq_some_iff] at e f
    obtain ⟨ps, e1, rfl⟩ := e
    obtain ⟨qs, f1, rfl⟩ := f
    rw [W.dataLt_list]
    exact lts_toP e1 f1 (by simpa [likeD] using l)
  | .dic _, y, p, q, e, f, l, _ => by cases e
  | .ref _, y, p, q, e, f, l, _ => by cases e
  | .scr _, y, p, q, e, f, l, _ => by cases e
theorem lts_toP : ∀ {xs ys : List D} {p q : List PyData}, toPs xs = some p → toPs ys = some q → likeDs xs ys = true → PyProof.Rows.lexLt PyProof.Rows.itemOrd (W.keyToksAll p) (W.keyToksAll q) = ltDs xs ys
  | [], [], p, q, e, f, l => by cases e; cases f; exact PyProof.Rows.lex_irrefl _
  | [], y :: ys, p, q, e, f, l => by
    cases e
    simp only [toPs, Option.bind_eq_some_iff, Option.map_eq_some_iff] at f
    obtain ⟨c, f1, d, f2, rfl⟩ := f
    rw [W.toks_all_cons]
    simp only [W.keyToksAll, ltDs]
    rw [W.lex_atom (by simp), W.lex_one]
    rfl
  | x :: xs, [], p, q, e, f, l => by
    cases f
    simp only [toPs, Option.bind_eq_some_iff, Option.map_eq_some_iff] at e
    obtain ⟨a, _, b, _, rfl⟩ := e
    rw [W.toks_all_cons]
    simp only [W.keyToksAll, ltDs]
    rw [W.lex_atom (by simp), W.lex_one]
    rfl
  | x :: xs, y :: ys, p, q, e, f, l => by
    simp only [toPs, Option.bind_eq_some_iff, Option.map_eq_some_iff] at e f
    obtain ⟨a, e1, b, e2, rfl⟩ := e
    obtain ⟨c, f1, d, f2, rfl⟩ := f
    simp only [likeDs, Bool.and_eq_true] at l
    rw [W.dataLt_cons (by rw [toP_like e1 f1]; exact l.1), eqv_eqD e1 f1 l.1, ltDs, lts_toP e2 f2 l.2]
    by_cases h : eqD x y = true
    · rw [if_pos h, if_pos h]
    · rw [if_neg h, if_neg h]
      refine lt_toP e1 f1 l.1 fun z => ?_
      subst z
      cases y <;> first | (exact h rfl) | (exact absurd l.1 (by simp [likeD]))
end
mutual
theorem dep_toP : ∀ {x : D} {p : PyData}, toP x = some p → p.depth = depD x
  | .non, p, e => by cases e; rfl
  | .bl b, p, e => by cases e; rfl
  | .int b, p, e => by cases e; rfl
  | .str b, p, e => by cases e; rfl
  | .tup xs, p, e => by
    simp only [toP, Option.map_eq_some_iff] at e
    obtain ⟨ps, e1, rfl⟩ := e
    simp only [PyData.depth, depD, deps_toP e1]
  | .lst xs, p, e => by
    simp only [toP, Option.map_eq_some_iff] at e
    obtain ⟨ps, e1, rfl⟩ := e
    simp only [PyData.depth, depD, deps_toP e1]
  | .dic _, p, e => by cases e
  | .ref _, p, e => by cases e
  | .scr _, p, e => by cases e
theorem deps_toP : ∀ {x : List D} {p : List PyData}, toPs x = some p → PyData.depthAll p = depDs x
  | [], p, e => by cases e; rfl
  | x :: xs, p, e => by
    simp only [toPs, Option.bind_eq_some_iff, Option.map_eq_some_iff] at e
    obtain ⟨a, e1, b, e2, rfl⟩ := e
    simp only [PyData.depthAll, depDs, dep_toP e1, deps_toP e2]
end
section
variable {X : Cx} {pins : List (Addr × Obj)} {σ : L2.St} {H : Hp} {s : Shared} {g : G}
mutual
theorem reads_of (I : Inv X pins σ H s) (sb : SubH g.F H) : ∀ {d : D} {p : PyData} {v : V} {u : Value}, toP d = some p → Rep X.K g v d → RelV v u → ∃ as, Reads s.heap u p as
  | .non, p, v, u, e, r, q => by cases e; cases r; cases (show u = Value.none from q); exact ⟨_, .none⟩
  | .bl b, p, v, u, e, r, q => by cases e; cases r; cases (show u = Value.bool b from q); exact ⟨_, .bool _⟩
  | .int b, p, v, u, e, r, q => by cases e; cases r; obtain ⟨t, z⟩ := (show ∃ t, u = Value.int b t from q); cases z; exact ⟨_, .int _ _⟩
  | .str b, p, v, u, e, r, q => by cases e; cases r; obtain ⟨t, z⟩ := (show ∃ t, u = Value.str b t from q); cases z; exact ⟨_, .str _ _⟩
  | .tup xs, p, v, u, e, r, q => by
    simp only [toP, Option.map_eq_some_iff] at e
    obtain ⟨ps, e1, rfl⟩ := e
    cases r with
    | tup h rl =>
      cases (show u = Value.ref _ from q)
      obtain ⟨its, rv, ⟨o, h1, h2, n, h3⟩, hz⟩ := I.tuple (sqT_mono sb h)
      obtain ⟨as, ra⟩ := readsL_of I sb e1 rl rv
      exact ⟨_, .tuple h1 h2 h3 (by simpa using ra)⟩
  | .lst xs, p, v, u, e, r, q => by
    simp only [toP, Option.map_eq_some_iff] at e
    obtain ⟨ps, e1, rfl⟩ := e
    cases r with
    | lst h rl =>
      cases (show u = Value.ref _ from q)
      obtain ⟨its, rv, ⟨o, n, h1, h2, hd, h3⟩, hz⟩ := I.list (.of (sb.lst h))
      obtain ⟨as, ra⟩ := readsL_of I sb e1 rl rv
      exact ⟨_, .list h1 h2 h3 (by simpa using ra)⟩
  | .dic _, p, v, u, e, r, q => by cases e
  | .ref _, p, v, u, e, r, q => by cases e
  | .scr _, p, v, u, e, r, q => by cases e
theorem readsL_of (I : Inv X pins σ H s) (sb : SubH g.F H) : ∀ {d : List D} {p : List PyData} {v : List V} {u : List Value}, toPs d = some p → RepL X.K g v d → Vals v u → ∃ as, ReadsAll s.heap u p as
  | [], p, v, u, e, r, q => by cases e; cases r; cases q; exact ⟨_, .nil⟩
  | x :: xs, p, v, u, e, r, q => by
    simp only [toPs, Option.bind_eq_some_iff, Option.map_eq_some_iff] at e
    obtain ⟨a, e1, b, e2, rfl⟩ := e
    cases r with
    | cons r1 r2 =>
      cases q with
      | cons q1 q2 =>
        obtain ⟨as, h1⟩ := reads_of I sb e1 r1 q1
        obtain ⟨bs, h2⟩ := readsL_of I sb e2 r2 q2
        exact ⟨_, .cons h1 h2⟩
end
end
/-! ### compared -/
def opCmpD (f : D → D → Bool) : S → RV → RV → Res RV := fun s a b => match a, b with
  | .d x, .d y => if cmpD x y = true then .ok (.d (.bl (f x y))) s else .stuck
  | _, _ => .stuck
def opLtX := orF opLt (opCmpD fun x y => ltD x y)
def opLeX := orF opLe (opCmpD fun x y => !ltD y x)
def opGtX := orF opGt (opCmpD fun x y => ltD y x)
def opGeX := orF opGe (opCmpD fun x y => !ltD x y)
def rCmpD (K : PySem.W.Frag) (f : D → D → Bool) : R2 := fun x y H Q => ∃ g dx dy, SubH g.F H ∧ Rep K g x dx ∧ Rep K g y dy ∧ cmpD dx dy = true ∧ Q (.bl (f dx dy)) H
section
variable {X : Cx} {W : WX} {a b : Expr} {ma mb : M} {pos : Pos}
theorem os_cmpD {f : D → D → Bool} : OpS X W (rCmpD X.K f) (opCmpD f) := by
  intro σ g s H Q x y ra rb ok rx ry nn q
  unfold opCmpD at q
  split at q
  · split at q
    · rename_i dx dy h
      exact ⟨g, dx, dy, ok.sub, rx, ry, h, kE_d q ok (.bl _)⟩
    · exact q.elim
  · exact q.elim
theorem cmpD_parts {x y : D} (h : cmpD x y = true) : ∃ p q, toP x = some p ∧ toP y = some q ∧ likeD x y = true ∧ x ≠ .non ∧ y ≠ .non ∧ depD x ≤ 40 ∧ depD y ≤ 40 := by
  simp only [cmpD, okD, Bool.and_eq_true, decide_eq_true_eq] at h
  obtain ⟨⟨⟨⟨a1, a2⟩, a3⟩, ⟨b1, b2⟩, b3⟩, l⟩ := h
  obtain ⟨p, hp⟩ := Option.isSome_iff_exists.mp a1
  obtain ⟨q, hq⟩ := Option.isSome_iff_exists.mp b1
  exact ⟨p, q, hp, hq, l, (fun z => by rw [z] at a3; cases a3), (fun z => by rw [z] at b3; cases b3), a2, b2⟩
theorem pne {x : D} {p : PyData} (e : toP x = some p) (n : x ≠ .non) : p ≠ .none := fun z => by
  subst z
  cases x <;> simp only [toP, Option.map_eq_some_iff, reduceCtorEq, Option.some.injEq] at e <;> first | exact n rfl | (obtain ⟨_, e⟩ := e; exact e.2.elim) | cases e
theorem op_ltD (hu : X.A.units + 64 < cLine) : OpR X (compareOp .Lt) (rCmpD X.K fun x y => ltD x y) := by
  intro pins s σ H x y v u Q I rx ry ⟨g, dx, dy, sb, h1, h2, h, q⟩
  obtain ⟨p, p', e1, e2, l, n1, n2, d1, d2⟩ := cmpD_parts h
  obtain ⟨as, r1⟩ := reads_of I sb e1 h1 rx
  obtain ⟨bs, r2⟩ := reads_of I sb e2 h2 ry
  refine W.lt_data r1 r2 (by rw [toP_like e1 e2]; exact l) (pne e1 n1) (by rw [dep_toP e1]; omega) ⟨.bl (W.dataLt p p'), H, I, rfl, ?_⟩
  rw [lt_toP e1 e2 l n1]; exact q
theorem likeD_comm {x y : D} {p q : PyData} (e : toP x = some p) (f : toP y = some q) (l : likeD x y = true) : likeD y x = true := by
  rw [← toP_like f e, W.alike_comm, toP_like e f]; exact l
theorem op_gtD (hu : X.A.units + 64 < cLine) : OpR X (compareOp .Gt) (rCmpD X.K fun x y => ltD y x) := by
  intro pins s σ H x y v u Q I rx ry ⟨g, dx, dy, sb, h1, h2, h, q⟩
  obtain ⟨p, p', e1, e2, l, n1, n2, d1, d2⟩ := cmpD_parts h
  obtain ⟨as, r1⟩ := reads_of I sb e1 h1 rx
  obtain ⟨bs, r2⟩ := reads_of I sb e2 h2 ry
  refine W.gt_data r1 r2 (by rw [toP_like e1 e2]; exact l) (pne e1 n1) (by rw [dep_toP e1]; omega) ⟨.bl (W.dataLt p' p), H, I, rfl, ?_⟩
  rw [lt_toP e2 e1 (likeD_comm e1 e2 l) n2]; exact q
theorem op_leD (hu : X.A.units + 64 < cLine) : OpR X (compareOp .LtE) (rCmpD X.K fun x y => !ltD y x) := by
  intro pins s σ H x y v u Q I rx ry ⟨g, dx, dy, sb, h1, h2, h, q⟩
  obtain ⟨p, p', e1, e2, l, n1, n2, d1, d2⟩ := cmpD_parts h
  obtain ⟨as, r1⟩ := reads_of I sb e1 h1 rx
  obtain ⟨bs, r2⟩ := reads_of I sb e2 h2 ry
  refine W.le_data r1 r2 (by rw [toP_like e1 e2]; exact l) (pne e1 n1) (by rw [dep_toP e1]; omega) ⟨.bl (!W.dataLt p' p), H, I, rfl, ?_⟩
  rw [lt_toP e2 e1 (likeD_comm e1 e2 l) n2]; exact q
theorem op_geD (hu : X.A.units + 64 < cLine) : OpR X (compareOp .GtE) (rCmpD X.K fun x y => !ltD x y) := by
  intro pins s σ H x y v u Q I rx ry ⟨g, dx, dy, sb, h1, h2, h, q⟩
  obtain ⟨p, p', e1, e2, l, n1, n2, d1, d2⟩ := cmpD_parts h
  obtain ⟨as, r1⟩ := reads_of I sb e1 h1 rx
  obtain ⟨bs, r2⟩ := reads_of I sb e2 h2 ry
  refine W.ge_data r1 r2 (by rw [toP_like e1 e2]; exact l) (pne e1 n1) (by rw [dep_toP e1]; omega) ⟨.bl (!W.dataLt p p'), H, I, rfl, ?_⟩
  rw [lt_toP e1 e2 l n1]; exact q
theorem me_ltX (hu : X.A.units + 64 < cLine) (ha : ME X W a ma) (hb : ME X W b mb) : ME X W (.Compare a [.Lt] [b] pos) (mBin opLtX ma mb) := me_cmp (or_lt.or (op_ltD hu)) (os_lt.or os_cmpD) ha hb (nomark _)
theorem me_leX (hu : X.A.units + 64 < cLine) (ha : ME X W a ma) (hb : ME X W b mb) : ME X W (.Compare a [.LtE] [b] pos) (mBin opLeX ma mb) := me_cmp (or_le.or (op_leD hu)) (os_le.or os_cmpD) ha hb (nomark _)
theorem me_gtX (hu : X.A.units + 64 < cLine) (ha : ME X W a ma) (hb : ME X W b mb) : ME X W (.Compare a [.Gt] [b] pos) (mBin opGtX ma mb) := me_cmp (or_gt.or (op_gtD hu)) (os_gt.or os_cmpD) ha hb (nomark _)
theorem me_geX (hu : X.A.units + 64 < cLine) (ha : ME X W a ma) (hb : ME X W b mb) : ME X W (.Compare a [.GtE] [b] pos) (mBin opGeX ma mb) := me_cmp (or_ge.or (op_geD hu)) (os_ge.or os_cmpD) ha hb (nomark _)
end
end MI
/-! # Data sorted, the greatest and the least of them -/
namespace MI
open PySem L2

def leD (x y : D) : Bool := !ltD y x
def sortD (l : List D) : List D := l.mergeSort leD
def tup1 : D → Bool
  | .tup (_ :: _) => true
  | _ => false
def noTup : D → Bool
  | .tup _ => false
  | _ => true
def allike (xs : List D) : Bool := xs.all okD && xs.all fun x => xs.all fun y => likeD x y
def sblD (xs : List D) : Bool := allike xs && (xs.all tup1 || xs.all noTup)
def maxDD (x : D) (xs : List D) : D := xs.foldl (fun a y => if ltD a y = true then y else a) x
def minDD (x : D) (xs : List D) : D := xs.foldl (fun a y => if ltD y a = true then y else a) x
def fSortD : S → RV → Res RV := fun s r => match asLst s r with
  | some xs => if sblD xs = true then .ok (.new (.lst (sortD xs))) s else .stuck
  | _ => .stuck
def fMaxD : S → RV → Res RV := fun s r => match asLst s r with
  | some (x :: xs) => if allike (x :: xs) = true then .ok (.d (maxDD x xs)) s else .stuck
  | _ => .stuck
def fMinD : S → RV → Res RV := fun s r => match asLst s r with
  | some (x :: xs) => if allike (x :: xs) = true then .ok (.d (minDD x xs)) s else .stuck
  | _ => .stuck
theorem okD_parts {x : D} (h : okD x = true) : ∃ p, toP x = some p ∧ x ≠ .non ∧ depD x ≤ 40 := by
  simp only [okD, Bool.and_eq_true, decide_eq_true_eq] at h
  obtain ⟨⟨a1, a2⟩, a3⟩ := h
  obtain ⟨p, hp⟩ := Option.isSome_iff_exists.mp a1
  exact ⟨p, hp, (fun z => by rw [z] at a3; cases a3), a2⟩
theorem allike_parts {xs : List D} (h : allike xs = true) : (∀ x ∈ xs, okD x = true) ∧ ∀ x ∈ xs, ∀ y ∈ xs, likeD x y = true := by
  simp only [allike, Bool.and_eq_true, List.all_eq_true] at h
  exact h
def encD (x : D) : PyData := (toP x).getD .none
theorem encD_eq {x : D} {p : PyData} (e : toP x = some p) : encD x = p := by simp [encD, e]
theorem enc_lt {x y : D} (hx : okD x = true) (hy : okD y = true) (l : likeD x y = true) : W.dataLt (encD x) (encD y) = ltD x y := by
  obtain ⟨p, e1, n1, _⟩ := okD_parts hx
  obtain ⟨q, e2, n2, _⟩ := okD_parts hy
  rw [encD_eq e1, encD_eq e2]; exact lt_toP e1 e2 l n1
theorem enc_like {x y : D} (hx : okD x = true) (hy : okD y = true) : W.alike (encD x) (encD y) = likeD x y := by
  obtain ⟨p, e1, n1, _⟩ := okD_parts hx
  obtain ⟨q, e2, n2, _⟩ := okD_parts hy
  rw [encD_eq e1, encD_eq e2]; exact toP_like e1 e2
theorem enc_ne {x : D} (hx : okD x = true) : encD x ≠ .none := by
  obtain ⟨p, e1, n1, _⟩ := okD_parts hx
  rw [encD_eq e1]; exact pne e1 n1
theorem enc_dep {x : D} (hx : okD x = true) : (encD x).depth ≤ 40 := by
  obtain ⟨p, e1, n1, d⟩ := okD_parts hx
  rw [encD_eq e1, dep_toP e1]; exact d
theorem toPs_enc : ∀ {xs : List D}, (∀ x ∈ xs, okD x = true) → toPs xs = some (xs.map encD)
  | [], _ => rfl
  | x :: xs, h => by
    obtain ⟨p, e1, n1, d⟩ := okD_parts (h x List.mem_cons_self)
    simp only [toPs, e1, Option.bind_some, toPs_enc (fun y m => h y (List.mem_cons_of_mem _ m)), Option.map_some, List.map_cons, encD_eq e1]
section
variable {X : Cx} {pins : List (Addr × Obj)} {σ : L2.St} {H : Hp} {s : Shared} {g : G}
theorem each_of {K : PySem.W.Frag} : ∀ {vs : List V} {ds : List D} {us : List Value}, RepL K g vs ds → Vals vs us → (∀ d ∈ ds, okD d = true) → W.EachIs (fun u (b : V × D) => RelV b.1 u ∧ Rep K g b.1 b.2 ∧ okD b.2 = true) us (vs.zip ds)
  | _, _, _, .nil, .nil, _ => .nil
  | _, _, _, .cons a r, .cons q t, h => .cons ⟨q, a, h _ List.mem_cons_self⟩ (each_of r t fun d m => h d (List.mem_cons_of_mem _ m))
theorem each_back {K : PySem.W.Frag} : ∀ {us : List Value} {bs : List (V × D)}, W.EachIs (fun u (b : V × D) => RelV b.1 u ∧ Rep K g b.1 b.2 ∧ okD b.2 = true) us bs → Vals (bs.map (·.1)) us ∧ RepL K g (bs.map (·.1)) (bs.map (·.2))
  | _, _, .nil => ⟨.nil, .nil⟩
  | _, _, .cons ⟨q, a, _⟩ r => by
    obtain ⟨h1, h2⟩ := each_back r
    exact ⟨.cons q h1, .cons a h2⟩
theorem zip_snd {vs : List V} {ds : List D} {K : PySem.W.Frag} (r : RepL K g vs ds) : (vs.zip ds).map (·.2) = ds := by
  rw [List.map_snd_zip]
  have := r.length
  omega
def rSortD (K : PySem.W.Frag) : List V → Hp → VK → Prop := fun xs H Q => ∃ (a : Addr) (g : G) (vs : List V) (ds : List D), xs = [V.ref a] ∧ SubH g.F H ∧ SqL K H a vs ∧ RepL K g vs ds ∧ sblD ds = true ∧
  ∀ ws p, RepL K g ws (sortD ds) → H p = none → Q (.ref p) (upd H p (.lst ws))
theorem cr_sortD (hu : X.A.units + 64 < cLine) : CallR X (.builtin "sorted") (rSortD X.K) := by
  intro pins s σ H xs us Q I r h
  obtain ⟨a, g, vs, ds, rfl, sb, hq, rl, hs, q⟩ := h
  simp only [sblD, Bool.and_eq_true, Bool.or_eq_true, List.all_eq_true] at hs
  obtain ⟨hal, hk⟩ := hs
  obtain ⟨hok, hlk⟩ := allike_parts hal
  obtain ⟨its, rv, hl, hz⟩ := I.list hq
  rw [Vals.ref1 r]
  have he := each_of rl rv hok
  have mem : ∀ b ∈ vs.zip ds, b.2 ∈ ds := fun b m => by
    have := List.mem_map_of_mem (f := Prod.snd) m
    rw [zip_snd rl] at this; exact this
  have hlen : (vs.zip ds).length = vs.length := by rw [List.length_zip, ← rl.length, Nat.min_self]
  have er : W.EachIs (fun u (b : V × D) => ∃ as, Reads s.heap u (encD b.2) as) its (vs.zip ds) := he.mono fun u b ⟨h1, h2, h3⟩ => by
    obtain ⟨p, e1, _, _⟩ := okD_parts h3
    rw [encD_eq e1]
    exact reads_of I sb e1 h2 h1
  refine W.sorted_data (enc := fun b : V × D => encD b.2) hl.isList he er (fun d hd d' hd' => ?_) ?_ (by rw [hlen]; exact hz) (fun b m => ?_) fun out ho eo => ?_
  · obtain ⟨b, m, rfl⟩ := List.mem_map.mp hd
    obtain ⟨b', m', rfl⟩ := List.mem_map.mp hd'
    show W.alike (encD b.2) (encD b'.2) = true
    rw [enc_like (hok _ (mem b m)) (hok _ (mem b' m'))]
    exact hlk _ (mem b m) _ (mem b' m')
  · rcases hk with hk | hk
    · refine .inl fun d hd => ?_
      obtain ⟨b, m, rfl⟩ := List.mem_map.mp hd
      have k1 := hk _ (mem b m)
      obtain ⟨p, e1, _, _⟩ := okD_parts (hok _ (mem b m))
      show ∃ x r, encD b.2 = _
      rw [encD_eq e1]
      generalize b.2 = z at e1 k1
      cases z <;> first | cases k1 | skip
      rename_i xs
      cases xs with
      | nil => cases k1
      | cons y ys =>
        simp only [toP, toPs, Option.map_eq_some_iff, Option.bind_eq_some_iff] at e1
        obtain ⟨ps, ⟨a, _, b, _, rfl⟩, rfl⟩ := e1
        exact ⟨_, _, rfl⟩
    · refine .inr fun d hd => ?_
      obtain ⟨b, m, rfl⟩ := List.mem_map.mp hd
      have k1 := hk _ (mem b m)
      refine ⟨enc_ne (hok _ (mem b m)), fun xs z => ?_⟩
      obtain ⟨p, e1, _, _⟩ := okD_parts (hok _ (mem b m))
      have z' : encD b.2 = .tuple xs := z
      rw [encD_eq e1] at z'
      subst z'
      generalize b.2 = z at e1 k1
      cases z <;> simp only [toP, Option.map_eq_some_iff, reduceCtorEq, Option.some.injEq] at e1 <;> first | (exact absurd k1 Bool.false_ne_true) | (obtain ⟨_, e⟩ := e1; exact e.2.elim)
  · have := enc_dep (hok _ (mem b m))
    show X.A.units + 2 + (encD b.2).depth < cLine
    omega
  · obtain ⟨h1, h2⟩ := each_back eo
    have em : ((vs.zip ds).mergeSort (W.dataLe false fun b : V × D => encD b.2)).map (·.2) = sortD ds := by
      rw [List.map_mergeSort (s := leD), zip_snd rl]
      · rfl
      · intro b m b' m'
        show (!W.dataLt (encD b'.2) (encD b.2)) = leD b.2 b'.2
        rw [enc_lt (hok _ (mem b' m')) (hok _ (mem b m)) (hlk _ (mem b' m') _ (mem b m))]
        rfl
    rw [em] at h2
    obtain ⟨ep, he'⟩ := PyProof.Rows.sortedAll_at s.heap its out.toArray
    have hL : ((((vs.zip ds).mergeSort (W.dataLe false fun b : V × D => encD b.2)).map (·.1))).length ≤ sizeLine := by rw [List.length_map, (List.mergeSort_perm _ _).length_eq, hlen]; exact hz
    exact ⟨.ref _, upd H (s.heap.objs.size + 1) (.lst _), I.laid (t' := s.toks) (fun _ _ => PyProof.Rows.sortedAll_old) (Nat.le_succ _) ⟨hL, out, ep, h1, he'⟩, rfl, q _ _ h2 (I.hok.fresh (Nat.le_succ _))⟩
def rMaxD (K : PySem.W.Frag) (f : D → List D → D) : List V → Hp → VK → Prop := fun xs H Q => ∃ (a : Addr) (g : G) (vs : List V) (d : D) (ds : List D), xs = [V.ref a] ∧ SubH g.F H ∧ SqL K H a vs ∧ RepL K g vs (d :: ds) ∧ allike (d :: ds) = true ∧
  ∀ w, Rep K g w (f d ds) → Q w H
theorem max_enc : ∀ {xs : List D} {x : D}, (∀ y ∈ x :: xs, okD y = true) → (∀ y ∈ x :: xs, ∀ z ∈ x :: xs, likeD y z = true) → maxDD x xs ∈ x :: xs ∧ PySem.W.maxD (encD x) (xs.map encD) = encD (maxDD x xs)
  | [], x, _, _ => ⟨List.mem_cons_self, rfl⟩
  | y :: xs, x, h, l => by
    unfold maxDD PySem.W.maxD
    rw [List.map_cons, List.foldl_cons, List.foldl_cons]
    rw [enc_lt (h _ List.mem_cons_self) (h y (by simp)) (l _ List.mem_cons_self y (by simp))]
    by_cases c : ltD x y = true
    · rw [if_pos c, if_pos c]
      obtain ⟨a, b⟩ := max_enc (xs := xs) (x := y) (fun z m => h z (List.mem_cons_of_mem _ m)) fun z m w m' => l z (List.mem_cons_of_mem _ m) w (List.mem_cons_of_mem _ m')
      exact ⟨List.mem_cons_of_mem _ a, b⟩
    · rw [if_neg c, if_neg c]
      have sub : ∀ z ∈ x :: xs, z ∈ x :: y :: xs := fun z m => by
        rcases List.mem_cons.mp m with rfl | m
        · exact List.mem_cons_self
        · exact List.mem_cons_of_mem _ (List.mem_cons_of_mem _ m)
      obtain ⟨a, b⟩ := max_enc (xs := xs) (x := x) (fun z m => h z (sub z m)) fun z m w m' => l z (sub z m) w (sub w m')
      exact ⟨sub _ a, b⟩
theorem min_enc : ∀ {xs : List D} {x : D}, (∀ y ∈ x :: xs, okD y = true) → (∀ y ∈ x :: xs, ∀ z ∈ x :: xs, likeD y z = true) → minDD x xs ∈ x :: xs ∧ PySem.W.minD (encD x) (xs.map encD) = encD (minDD x xs)
  | [], x, _, _ => ⟨List.mem_cons_self, rfl⟩
  | y :: xs, x, h, l => by
    unfold minDD PySem.W.minD
    rw [List.map_cons, List.foldl_cons, List.foldl_cons]
    rw [enc_lt (h y (by simp)) (h _ List.mem_cons_self) (l y (by simp) _ List.mem_cons_self)]
    by_cases c : ltD y x = true
    · rw [if_pos c, if_pos c]
      obtain ⟨a, b⟩ := min_enc (xs := xs) (x := y) (fun z m => h z (List.mem_cons_of_mem _ m)) fun z m w m' => l z (List.mem_cons_of_mem _ m) w (List.mem_cons_of_mem _ m')
      exact ⟨List.mem_cons_of_mem _ a, b⟩
    · rw [if_neg c, if_neg c]
      have sub : ∀ z ∈ x :: xs, z ∈ x :: y :: xs := fun z m => by
        rcases List.mem_cons.mp m with rfl | m
        · exact List.mem_cons_self
        · exact List.mem_cons_of_mem _ (List.mem_cons_of_mem _ m)
      obtain ⟨a, b⟩ := min_enc (xs := xs) (x := x) (fun z m => h z (sub z m)) fun z m w m' => l z (sub z m) w (sub w m')
      exact ⟨sub _ a, b⟩
/-- the item that reads as the data is that data -/
theorem pick_of {X : Cx} {pins : List (Addr × Obj)} {σ : L2.St} {H : Hp} {s : Shared} {g : G} (I : Inv X pins σ H s) (sb : SubH g.F H) {vs : List V} {ds : List D} {its : List Value} (rl : RepL X.K g vs ds) (rv : Vals vs its) (hok : ∀ y ∈ ds, okD y = true) (hlk : ∀ y ∈ ds, ∀ z ∈ ds, likeD y z = true)
    {m : D} (hm : m ∈ ds) {i : Nat} {v : Value} {h' : Heap} {bs : List Addr} (hi : its[i]? = some v) (hr : Reads h' v (encD m) bs) (kp : ∀ b o, s.heap.get? b = some o → h'.get? b = some o) : ∃ w, RelV w v ∧ Rep X.K g w m := by
  have hlt : i < its.length := (List.getElem?_eq_some_iff.mp hi).1
  have hv : i < vs.length := by rw [rv.length]; exact hlt
  obtain ⟨u, hu, ru⟩ := rv.get (List.getElem?_eq_getElem hv)
  rw [hi] at hu; cases hu
  obtain ⟨x, hx, rx⟩ := rl.get' (List.getElem?_eq_getElem hv)
  have mx : x ∈ ds := List.mem_of_getElem? hx
  obtain ⟨p, e1, n1, _⟩ := okD_parts (hok x mx)
  obtain ⟨as, r1⟩ := reads_of I sb e1 rx ru
  obtain ⟨q, e2, n2, _⟩ := okD_parts (hok m hm)
  rw [encD_eq e2] at hr
  have z := W.alike_unique p q v as bs (by rw [toP_like e1 e2]; exact hlk x mx m hm) (PyProof.Rows.Reads.keeps kp r1) hr
  subst z
  have := toP_inj e1 e2 (hlk x mx m hm)
  subst this
  exact ⟨_, ru, rx⟩
theorem cr_maxD (hc : X.calm = true) (hu : X.A.units + 64 < cLine) : CallR X (.builtin "max") (rMaxD X.K maxDD) := by
  intro pins s σ H xs us Q I r h
  obtain ⟨a, g, vs, d, ds, rfl, sb, hq, rl, hal, q⟩ := h
  obtain ⟨hok, hlk⟩ := allike_parts hal
  obtain ⟨its, rv, hl, hz⟩ := I.list hq
  rw [Vals.ref1 r]
  obtain ⟨as, ra⟩ := readsL_of I sb (toPs_enc hok) rl rv
  obtain ⟨m1, m2⟩ := max_enc hok hlk
  have hd : PyData.depthAll ((d :: ds).map encD) ≤ 40 := by
    have : ∀ l : List D, (∀ y ∈ l, okD y = true) → PyData.depthAll (l.map encD) ≤ 40 := by
      intro l
      induction l with
      | nil => intro _; exact Nat.zero_le _
      | cons y l ih =>
        intro hh
        have := enc_dep (hh y List.mem_cons_self)
        have := ih fun z m => hh z (List.mem_cons_of_mem _ m)
        simp only [List.map_cons, PyData.depthAll]
        omega
    exact this _ hok
  refine PySem.W.max_list_data (I.ok.hd hc) hl.isList (by simpa using ra) ⟨fun x hx y hy => ?_, fun x hx => ?_⟩ (by rw [List.map_cons] at hd; omega) fun i v h' tk bs hi hr kp => ?_
  · rw [← List.map_cons] at hx hy
    obtain ⟨x', mx, rfl⟩ := List.mem_map.mp hx
    obtain ⟨y', my, rfl⟩ := List.mem_map.mp hy
    rw [enc_like (hok _ mx) (hok _ my)]; exact hlk _ mx _ my
  · rw [← List.map_cons] at hx
    obtain ⟨x', mx, rfl⟩ := List.mem_map.mp hx
    exact enc_ne (hok _ mx)
  · rw [m2] at hr
    obtain ⟨w, rw', rp⟩ := pick_of I sb rl rv hok hlk m1 (by simpa using hi) hr kp
    exact ⟨w, H, I.kept kp, rw', q w rp⟩
theorem cr_minD (hc : X.calm = true) (hu : X.A.units + 64 < cLine) : CallR X (.builtin "min") (rMaxD X.K minDD) := by
  intro pins s σ H xs us Q I r h
  obtain ⟨a, g, vs, d, ds, rfl, sb, hq, rl, hal, q⟩ := h
  obtain ⟨hok, hlk⟩ := allike_parts hal
  obtain ⟨its, rv, hl, hz⟩ := I.list hq
  rw [Vals.ref1 r]
  obtain ⟨as, ra⟩ := readsL_of I sb (toPs_enc hok) rl rv
  obtain ⟨m1, m2⟩ := min_enc hok hlk
  have hd : PyData.depthAll ((d :: ds).map encD) ≤ 40 := by
    have : ∀ l : List D, (∀ y ∈ l, okD y = true) → PyData.depthAll (l.map encD) ≤ 40 := by
      intro l
      induction l with
      | nil => intro _; exact Nat.zero_le _
      | cons y l ih =>
        intro hh
        have := enc_dep (hh y List.mem_cons_self)
        have := ih fun z m => hh z (List.mem_cons_of_mem _ m)
        simp only [List.map_cons, PyData.depthAll]
        omega
    exact this _ hok
  refine PySem.W.min_list_data (I.ok.hd hc) hl.isList (by simpa using ra) ⟨fun x hx y hy => ?_, fun x hx => ?_⟩ (by rw [List.map_cons] at hd; omega) fun i v h' tk bs hi hr kp => ?_
  · rw [← List.map_cons] at hx hy
    obtain ⟨x', mx, rfl⟩ := List.mem_map.mp hx
    obtain ⟨y', my, rfl⟩ := List.mem_map.mp hy
    rw [enc_like (hok _ mx) (hok _ my)]; exact hlk _ mx _ my
  · rw [← List.map_cons] at hx
    obtain ⟨x', mx, rfl⟩ := List.mem_map.mp hx
    exact enc_ne (hok _ mx)
  · rw [m2] at hr
    obtain ⟨w, rw', rp⟩ := pick_of I sb rl rv hok hlk m1 (by simpa using hi) hr kp
    exact ⟨w, H, I.kept kp, rw', q w rp⟩
end
section
variable {X : Cx} {W : WX} {a : Expr} {ma : M} {pos p : Pos}
theorem me_sortedD (hu : X.A.units + 64 < cLine) (ha : ME X W a ma) (hg : Gl X "sorted") (hm : X.mg "sorted" = none) (hs : starEach [a] X.env = (false, eval a X.env) :: starEach [] X.env := by rfl) : ME X W (.Call (.Name "sorted" p) [a] [] pos) (mFn1 fSortD ma) := by
  refine pe_imp (pe_callB (cr_sortD hu) hg hm (by decide +kernel) (pa_cons ha pa_nil hs) (he := hs)) fun σ H Q ⟨g, s, ok, h⟩ => ma_one (fun σ g s H Q v rv ok rr h => ?_) ok h
  unfold fSortD at h
  split at h
  · rename_i xs e
    obtain ⟨b, vs, rfl, hq, r1⟩ := asLst_ok ok rr e
    split at h
    · rename_i hz
      exact ⟨b, g, vs, xs, rfl, ok.sub, .of hq, r1, hz, fun ws p rw' hn => kE_new h ok hn ⟨_, upd_same, rw'⟩⟩
    · exact h.elim
  · exact h.elim
theorem me_maxD (hc : X.calm = true) (hu : X.A.units + 64 < cLine) (ha : ME X W a ma) (hg : Gl X "max") (hm : X.mg "max" = none) (hs : starEach [a] X.env = (false, eval a X.env) :: starEach [] X.env := by rfl) : ME X W (.Call (.Name "max" p) [a] [] pos) (mFn1 fMaxD ma) := by
  refine pe_imp (pe_callB (cr_maxD hc hu) hg hm (by decide +kernel) (pa_cons ha pa_nil hs) (he := hs)) fun σ H Q ⟨g, s, ok, h⟩ => ma_one (fun σ g s H Q v rv ok rr h => ?_) ok h
  unfold fMaxD at h
  split at h
  · rename_i x xs e
    obtain ⟨b, vs, rfl, hq, r1⟩ := asLst_ok ok rr e
    split at h
    · rename_i hz
      exact ⟨b, g, vs, x, xs, rfl, ok.sub, .of hq, r1, hz, fun w rw' => kE_d h ok rw'⟩
    · exact h.elim
  · exact h.elim
theorem me_minD (hc : X.calm = true) (hu : X.A.units + 64 < cLine) (ha : ME X W a ma) (hg : Gl X "min") (hm : X.mg "min" = none) (hs : starEach [a] X.env = (false, eval a X.env) :: starEach [] X.env := by rfl) : ME X W (.Call (.Name "min" p) [a] [] pos) (mFn1 fMinD ma) := by
  refine pe_imp (pe_callB (cr_minD hc hu) hg hm (by decide +kernel) (pa_cons ha pa_nil hs) (he := hs)) fun σ H Q ⟨g, s, ok, h⟩ => ma_one (fun σ g s H Q v rv ok rr h => ?_) ok h
  unfold fMinD at h
  split at h
  · rename_i x xs e
    obtain ⟨b, vs, rfl, hq, r1⟩ := asLst_ok ok rr e
    split at h
    · rename_i hz
      exact ⟨b, g, vs, x, xs, rfl, ok.sub, .of hq, r1, hz, fun w rw' => kE_d h ok rw'⟩
    · exact h.elim
  · exact h.elim
end
end MI
/-! # x.split(y), x.partition(y); xs.index(x) of alike data -/
namespace MI
open PySem PySem.Spec PyProof.Rows L2
/-- a method of a text with a text, which makes a list or a tuple -/
def mSm2 (f : Str → Str → Option RV) (o a : M) : M := fun s => (mLeak o s).bind fun d s1 => match d with
  | .str x => (mLeak a s1).bind fun y s2 => (match y with
    | .str z => (match f x z with
      | some r => .ok r s2
      | none => .stuck)
    | _ => .stuck)
  | _ => .stuck
def fSplit : Str → Str → Option RV := fun x y => if (y.length == 0) = false ∧ x.length + 2 ≤ sizeLine then some (.new (.lst ((Txt.split x y).map .str))) else none
def fPartition : Str → Str → Option RV := fun x y => if (y.length == 0) = false ∧ x.length ≤ sizeLine then some (.d (.tup [.str (Txt.partition x y).1, .str (Txt.partition x y).2.1, .str (Txt.partition x y).2.2])) else none
section
variable {X : Cx} {W : WX} {o a : Expr} {mo ma : M} {apos cpos : Pos}
theorem mSm2_of {f : Str → Str → Option RV} {r : V → List V → Hp → VK → Prop}
    (hf : ∀ (σ : L2.St) (g : G) (s : S) (x y : Str) (z : RV) (H : Hp) (Q : VK), Ok X.K g s σ H → f x y = some z → PostE X.K W σ g s H (kE X.K Q) (.ok z s) → r (.str x) [.str y] H Q)
    {σ : L2.St} {H : Hp} {Q : VK} {g : G} {s : S} (ok : Ok X.K g s σ H) (h : PostE X.K W σ g s H (kE X.K Q) (mSm2 f mo ma s)) : tBM X.K "str" r (tM X.K W mo) (tCons (tM X.K W ma) tNil) σ H Q := by
  refine tM_leak ok (PostE.bind h) fun d g1 s1 H1 v t1 k1 o1 rv h1 => ?_
  split at h1
  · cases rv
    refine ⟨rfl, ?_⟩
    refine tM_leak o1 (PostE.bind h1) fun d g2 s2 H2 y t2 k2 o2 ry h2 => ?_
    split at h2
    · cases ry
      split at h2
      · rename_i z e
        exact hf σ g2 s2 _ _ z H2 Q o2 e h2
      · exact h2.elim
    · exact h2.elim
  · exact h1.elim
theorem me_split (ho : ME X W o mo) (ha : ME X W a ma) (hbase : attributeBase o "split" X.env (eval o X.env) = eval o X.env := by rfl)
    (hfew : ((backTo cpos (starEach [a] X.env)).all (fun x => !x.1) && (backToKw cpos (keywordEach [] X.env)).all (fun x => x.1.isSome)
      && decide ([a].length + ([] : List Keyword).length + (if ([] : List Keyword).isEmpty then 0 else 1) < 30)) = true := by rfl)
    (hline : (apos.endLine == cpos.line) = true := by rfl) (hs : starEach [a] X.env = (false, eval a X.env) :: starEach [] X.env := by rfl) :
    ME X W (.Call (.Attribute o "split" apos) [a] [] cpos) (mSm2 fSplit mo ma) := by
  refine pe_imp (pe_bm PySem.F.plainAttrs_str PySem.F.slot_str_split PySem.F.type_str_split mt_split ho (pa_cons ha pa_nil hs) hbase hfew hline hs) fun σ H Q h => ?_
  obtain ⟨g, s, ok, h⟩ := h
  refine mSm2_of (fun σ g s x y z H Q ok e h => ?_) ok h
  unfold fSplit at e
  split at e
  · rename_i hz
    cases e
    exact ⟨x, y, rfl, rfl, hz.1, hz.2, fun p hp => kE_new h ok hp ⟨_, upd_same, repL_strs _⟩⟩
  · cases e
theorem me_partition (ho : ME X W o mo) (ha : ME X W a ma) (hbase : attributeBase o "partition" X.env (eval o X.env) = eval o X.env := by rfl)
    (hfew : ((backTo cpos (starEach [a] X.env)).all (fun x => !x.1) && (backToKw cpos (keywordEach [] X.env)).all (fun x => x.1.isSome)
      && decide ([a].length + ([] : List Keyword).length + (if ([] : List Keyword).isEmpty then 0 else 1) < 30)) = true := by rfl)
    (hline : (apos.endLine == cpos.line) = true := by rfl) (hs : starEach [a] X.env = (false, eval a X.env) :: starEach [] X.env := by rfl) :
    ME X W (.Call (.Attribute o "partition" apos) [a] [] cpos) (mSm2 fPartition mo ma) := by
  refine pe_imp (pe_bm PySem.F.plainAttrs_str PySem.F.slot_str_partition PySem.F.type_str_partition mt_partition ho (pa_cons ha pa_nil hs) hbase hfew hline hs) fun σ H Q h => ?_
  obtain ⟨g, s, ok, h⟩ := h
  refine mSm2_of (fun σ g s x y z H Q ok e h => ?_) ok h
  unfold fPartition at e
  split at e
  · rename_i hz
    cases e
    exact ⟨x, y, rfl, rfl, hz.1, hz.2, fun p hp => kE_tup h ok hp (.cons (.str _) (.cons (.str _) (.cons (.str _) .nil)))⟩
  · cases e
end
/-! ### xs.index(x) -/
def idxD (xs : List D) (d : D) : Option Nat := xs.findIdx? fun y => eqD y d
def ixbl (xs : List D) (d : D) : Bool := allike (d :: xs) && (encD d).canLay0 && PyData.canLayAll0 (xs.map encD)
def rIxD (K : PySem.W.Frag) : V → List V → Hp → VK → Prop := fun x xs H Q => ∃ (a : Addr) (y : V) (g : G) (vs : List V) (ds : List D) (d : D) (j : Nat), x = V.ref a ∧ xs = [y] ∧ SubH g.F H ∧ SqL K H a vs ∧ RepL K g vs ds ∧ Rep K g y d ∧
  ixbl ds d = true ∧ idxD ds d = some j ∧ Q (.int (j : Nat)) H
theorem depAll_le {n : Nat} : ∀ {xs : List PyData}, (∀ x ∈ xs, x.depth ≤ n) → PyData.depthAll xs ≤ n
  | [], _ => by simp [PyData.depthAll]
  | x :: xs, h => by
    have := depAll_le (xs := xs) fun y m => h y (List.mem_cons_of_mem _ m)
    have := h x List.mem_cons_self
    simp only [PyData.depthAll]
    omega
theorem mt_ixD {X : Cx} (hu : X.A.units + 64 < cLine) : MtR X "list.index" (rIxD X.K) := by
  intro pins s σ H x xs v us Q I rx rxs h
  obtain ⟨a, y, g, vs, ds, d, j, rfl, rfl, sb, hq, rl, rd, hb, hj, q⟩ := h
  cases rx
  simp only [ixbl, Bool.and_eq_true] at hb
  obtain ⟨⟨hal, cd⟩, cl⟩ := hb
  obtain ⟨hok, hlk⟩ := allike_parts hal
  have okds : ∀ x ∈ ds, okD x = true := fun x m => hok x (List.mem_cons_of_mem _ m)
  cases rxs with
  | cons ry rt =>
    rename_i uy ut
    cases rt
    obtain ⟨p, ep, np, dp⟩ := okD_parts (hok d List.mem_cons_self)
    obtain ⟨bs, r1⟩ := reads_of I sb ep rd ry
    obtain ⟨its, rv, ⟨⟨cls, dd, data, sls⟩, n, ho, hc, hdn, hdt⟩, hlen⟩ := I.list hq
    simp only at hc hdt
    subst hc hdt
    obtain ⟨as, h4⟩ := readsL_of I sb (toPs_enc okds) rl rv
    have hmap : its.map (SeqAt.readOf s.heap) = ds.map encD := SeqAt.readsAll_map _ its as cl h4
    have hll : its.length = ds.length := by
      have := congrArg List.length hmap
      rwa [List.length_map, List.length_map] at this
    have hvl := rv.length
    have hsl := sizeLine_eq
    rw [encD_eq ep] at cd
    unfold idxD at hj
    obtain ⟨hjl, e1, e2⟩ := List.findIdx?_eq_some_iff_getElem.mp hj
    have hjt : j < its.toArray.size := by simpa using (by omega : j < its.length)
    have at_ : ∀ (m : Nat) (hm : m < its.toArray.size) (hd : m < ds.length), SeqAt.readOf s.heap its.toArray[m] = encD ds[m] := by
      intro m hm hd
      have hml : m < its.length := by simpa using hm
      have e0 : (its.map (SeqAt.readOf s.heap))[m]? = (ds.map encD)[m]? := by rw [hmap]
      rw [List.getElem?_map, List.getElem?_map, List.getElem?_eq_getElem hml, List.getElem?_eq_getElem hd] at e0
      have e1 : SeqAt.readOf s.heap its[m] = encD ds[m] := Option.some.inj e0
      simpa using e1
    have ev : ∀ z ∈ ds, PyData.eqv (encD z) p = eqD z d := fun z m => by
      obtain ⟨pz, ez, _, _⟩ := okD_parts (okds z m)
      rw [encD_eq ez]
      exact eqv_eqD ez ep (hlk z (List.mem_cons_of_mem _ m) d List.mem_cons_self)
    have hroom : X.A.units + 1 + min (PyData.depthAll (ds.map encD)) p.depth < cLine := by
      have : p.depth ≤ 40 := by rw [dep_toP ep]; exact dp
      omega
    refine call_meets PySem.F.slot_list_index ⟨_, ho, rfl⟩ PySem.F.entry_list_index (PySem.F.args_list_index_2 _ _)
      (SeqAt.list_indexAt a its.toArray n dd sls uy (fun u => PyData.eqv (SeqAt.readOf s.heap u) p) j hjt (by omega) ?_ ?_) ⟨ho, SeqAt.items_eqAt (vs := its.toArray) (show ReadsAll s.heap its.toArray.toList _ as from h4) r1 cl cd hroom, ?_⟩
    · show PyData.eqv (SeqAt.readOf s.heap its.toArray[j]) p = true
      rw [at_ j hjt hjl, ev _ (List.getElem_mem hjl)]
      exact e1
    · intro m hm hmj
      show PyData.eqv (SeqAt.readOf s.heap its.toArray[m]) p = false
      rw [at_ m hm (by omega), ev _ (List.getElem_mem _)]
      exact Bool.eq_false_iff.mpr (e2 m hmj)
    · exact ⟨.int (j : Nat), H, I.tok _, ⟨_, rfl⟩, q⟩
def fIxD : List D → D → Option (D × List D) := fun xs d => if ixbl xs d = true then (match idxD xs d with
  | some j => some (.int (j : Nat), xs)
  | none => none) else none
section
variable {X : Cx} {W : WX} {o a : Expr} {mo ma : M} {apos cpos : Pos}
theorem me_ixD (hu : X.A.units + 64 < cLine) (ho : ME X W o mo) (ha : ME X W a ma) (hbase : attributeBase o "index" X.env (eval o X.env) = eval o X.env := by rfl)
    (hfew : ((backTo cpos (starEach [a] X.env)).all (fun x => !x.1) && (backToKw cpos (keywordEach [] X.env)).all (fun x => x.1.isSome)
      && decide ([a].length + ([] : List Keyword).length + (if ([] : List Keyword).isEmpty then 0 else 1) < 30)) = true := by rfl)
    (hline : (apos.endLine == cpos.line) = true := by rfl) (hs : starEach [a] X.env = (false, eval a X.env) :: starEach [] X.env := by rfl) :
    ME X W (.Call (.Attribute o "index" apos) [a] [] cpos) (mLm1 fIxD mo ma) := by
  refine pe_imp (pe_bm PySem.F.plainAttrs_list PySem.F.slot_list_index PySem.F.type_list_index (mt_ixD hu) ho (pa_cons ha pa_nil hs) hbase hfew hline hs) fun σ H Q h => ?_
  obtain ⟨g, s, ok, h⟩ := h
  refine mLm1_ofF (fun g l vs xs y d x ys H Q sb rvs ry hl e q => ?_) ok h
  clear h
  unfold fIxD at e
  split at e
  · rename_i hb
    split at e
    · rename_i j hj
      cases e
      have q := q _ _ (.int _) rvs
      have es : upd H l (.lst vs) = H := by
        funext b
        unfold upd
        split
        · rename_i h; rw [h]; exact hl.symm
        · rfl
      rw [es] at q
      exact ⟨l, y, g, vs, _, d, j, rfl, rfl, sb, .of hl, rvs, ry, hb, hj, q⟩
    · cases e
  · cases e
end
end MI
/-! # Running mirrors: equations for simp -/
namespace MI
open PySem PySem.Spec PyProof.Rows L2

section
variable {s : S} {i j : Int} {x y : D} {e : List Slot} {gl : List MObj} {xs ys : List D}
theorem q_var_val {n : Nat} (h : e[n]? = some (.val x)) : mVar n ⟨e, gl⟩ = .ok (.d x) ⟨e, gl⟩ := by
  unfold mVar; simp only [h]
theorem q_var_own {n : Nat} {o : MObj} (h : e[n]? = some (.own o)) : mVar n ⟨e, gl⟩ = .ok (.at n) ⟨e, gl⟩ := by
  unfold mVar; simp only [h]
theorem q_c : mC x s = .ok (.d x) s := rfl
@[simp] theorem q_settle_d : settle (.d x) = some (.d x) := rfl
@[simp] theorem q_settle_at {n : Nat} : settle (.at n) = some (.at n) := rfl
@[simp] theorem q_settle_lst : settle (.new (.lst xs)) = some (.d (.lst xs)) := rfl
@[simp] theorem q_settle_dic {kvs : List (Key × D)} : settle (.new (.dic kvs)) = some (.d (.dic kvs)) := rfl
@[simp] theorem q_leak_d : leak (.d x) s = some (x, s) := rfl
@[simp] theorem q_leak_lst : leak (.new (.lst xs)) s = some (.lst xs, s) := rfl
@[simp] theorem q_leak_dic {kvs : List (Key × D)} : leak (.new (.dic kvs)) s = some (.dic kvs, s) := rfl
theorem q_leak_at {n : Nat} {o : MObj} {d : D} (h : e[n]? = some (.own o)) (hf : frzO o = some d) : leak (.at n) ⟨e, gl⟩ = some (d, ⟨e.set n (.val d), gl⟩) := by
  unfold leak; simp only [h, hf, Option.map_some]
@[simp] theorem q_frz_lst : frzO (.lst xs) = some (.lst xs) := rfl
@[simp] theorem q_frz_dic {kvs : List (Key × D)} : frzO (.dic kvs) = some (.dic kvs) := rfl
/- operations -/
@[simp] theorem q_add : opAdd s (.d (.int i)) (.d (.int j)) = .ok (.d (.int (i + j))) s := rfl
@[simp] theorem q_sub : opSub s (.d (.int i)) (.d (.int j)) = .ok (.d (.int (i - j))) s := rfl
theorem q_mul (h : cMul i j = true) : opMul s (.d (.int i)) (.d (.int j)) = .ok (.d (.int (i * j))) s := by
  unfold opMul orF opMulI fI asInt; simp only [h, if_true]
theorem q_mulR (h : j.natAbs < 2 ^ 64) : opMul s (.d (.int i)) (.d (.int j)) = .ok (.d (.int (i * j))) s := q_mul (by unfold cMul; simp only [decide_eq_true h, Bool.or_true, Bool.true_or])
theorem q_mulL (h : i.natAbs < 2 ^ 64) : opMul s (.d (.int i)) (.d (.int j)) = .ok (.d (.int (i * j))) s := q_mul (by unfold cMul; simp only [decide_eq_true h, Bool.or_true, Bool.true_or])
theorem q_mod (h : 0 < j) : opMod s (.d (.int i)) (.d (.int j)) = .ok (.d (.int (i % j))) s := by
  unfold opMod fI asInt cMod; simp only [decide_eq_true h, if_true]
theorem q_fdiv (h : 0 < j) (h2 : j < 1073741824) : opFdiv s (.d (.int i)) (.d (.int j)) = .ok (.d (.int (i / j))) s := by
  unfold opFdiv fI asInt cFdiv; simp only [decide_eq_true h, decide_eq_true h2, Bool.true_or, Bool.and_self, if_true]
theorem q_fdivW (h : 0 < j) (h2 : j.natAbs.log2 < 9000) : opFdiv s (.d (.int i)) (.d (.int j)) = .ok (.d (.int (i / j))) s := by
  unfold opFdiv fI asInt cFdiv; simp only [decide_eq_true h, decide_eq_true h2, Bool.or_true, Bool.and_self, if_true]
theorem q_addT (h : xs.length + ys.length ≤ sizeLine) : opAdd s (.d (.tup xs)) (.d (.tup ys)) = .ok (.d (.tup (xs ++ ys))) s := by
  unfold opAdd orF opAddI fI asInt opAddS asStr opAddT asTup; simp only [h, if_true]
theorem q_addL {a b : RV} (ha : asLst s a = some xs) (hb : asLst s b = some ys) (h : xs.length + ys.length ≤ sizeLine) : opAdd s a b = .ok (.new (.lst (xs ++ ys))) s := by
  have i1 : asInt a = none := by cases a with
    | d z => cases z <;> first | rfl | cases ha
    | «at» n => rfl
    | new o => rfl
  have i2 : asStr a = none := by cases a with
    | d z => cases z <;> first | rfl | cases ha
    | «at» n => rfl
    | new o => rfl
  have i3 : asTup a = none := by cases a with
    | d z => cases z <;> first | rfl | cases ha
    | «at» n => rfl
    | new o => rfl
  unfold opAdd orF opAddI fI opAddS opAddT opAddL
  simp only [i1, i2, i3, ha, hb, h, if_true]
theorem q_mulT1 : opMul s (.d (.tup xs)) (.d (.int 1)) = .ok (.d (.tup xs)) s := by
  have h : opMulT s (.d (.tup xs)) (.d (.int 1)) = .ok (.d (.tup xs)) s := by simp [opMulT, asTup, asInt]
  show (match opMulT s (.d (.tup xs)) (.d (.int 1)) with | .stuck => _ | r => r) = _
  rw [h]
theorem q_mulT {k : Int} (h0 : 2 ≤ k) (h1 : k ≤ 1000) (h2 : xs.length ≤ 1000) : opMul s (.d (.tup xs)) (.d (.int k)) = .ok (.d (.tup (List.replicate k.toNat xs).flatten)) s := by
  have h : opMulT s (.d (.tup xs)) (.d (.int k)) = .ok (.d (.tup (List.replicate k.toNat xs).flatten)) s := by
    by_cases hx : xs = []
    · subst hx
      have a1 : -(2 ^ 63) ≤ k := by omega
      have a2 : k < 2 ^ 63 := by omega
      have a3 : (List.replicate k.toNat ([] : List D)).flatten = [] := by simp
      rw [a3]
      simp only [opMulT, asTup, asInt, List.isEmpty_nil, Bool.true_or, if_true, a1, a2, and_self]
    · have e1 : xs.isEmpty = false := by cases xs with
        | nil => exact absurd rfl hx
        | cons _ _ => rfl
      have e2 : (k == 1) = false := by simp; omega
      simp only [opMulT, asTup, asInt, e1, e2, Bool.or_self, Bool.false_eq_true, if_false, h0, h1, h2, and_self, if_true]
  show (match opMulT s (.d (.tup xs)) (.d (.int k)) with | .stuck => _ | r => r) = _
  rw [h]
@[simp] theorem q_lt : opLt s (.d (.int i)) (.d (.int j)) = .ok (.d (.bl (decide (i < j)))) s := rfl
@[simp] theorem q_le : opLe s (.d (.int i)) (.d (.int j)) = .ok (.d (.bl (decide (i ≤ j)))) s := rfl
@[simp] theorem q_gt : opGt s (.d (.int i)) (.d (.int j)) = .ok (.d (.bl (decide (j < i)))) s := rfl
@[simp] theorem q_ge : opGe s (.d (.int i)) (.d (.int j)) = .ok (.d (.bl (decide (j ≤ i)))) s := rfl
theorem q_ixT {d : D} {zs : List D} (h : atI zs i = some d) : opIx s (.d (.tup zs)) (.d (.int i)) = .ok (.d d) s := by
  simp only [opIx, asInt, asTup, h]
theorem q_ixL {a : RV} {d : D} {zs : List D} (ha : asLst s a = some zs) (h : atI zs i = some d) : opIx s a (.d (.int i)) = .ok (.d d) s := by
  have h1 : asTup a = none := by cases a with
    | d z => cases z <;> first | rfl | cases ha
    | «at» n => rfl
    | new o => rfl
  simp only [opIx, asInt, h1, ha, h]
@[simp] theorem q_eqI {n : Bool} : opEq n s (.d (.int i)) (.d (.int j)) = .ok (.d (.bl ((i == j) != n))) s := rfl
theorem q_eq {n b : Bool} (hx : asD s (.d x) = some x) (hy : asD s (.d y) = some y) (h : eqvO 40 x y = some b) : opEq n s (.d x) (.d y) = .ok (.d (.bl (b != n))) s := by
  unfold opEq; simp only [hx, hy, h]
theorem eqAll_int {m : Nat} : ∀ (a b : List Int), eqAll (eqvO m) (a.map D.int) (b.map D.int) = some (decide (a = b))
  | [], [] => by simp [eqAll]
  | [], _ :: _ => by simp [eqAll]
  | _ :: _, [] => by simp [eqAll]
  | x :: xs, y :: ys => by
    have e : eqvO m (.int x) (.int y) = some (x == y) := by cases m <;> rfl
    simp only [List.map_cons, eqAll, e, eqAll_int xs ys, List.cons.injEq]
    by_cases h1 : x = y <;> by_cases h2 : xs = ys <;> simp [h1, h2]
@[simp] theorem q_eqT {n : Bool} {a b : List Int} : opEq n s (.d (.tup (a.map D.int))) (.d (.tup (b.map D.int))) = .ok (.d (.bl (decide (a = b) != n))) s :=
  q_eq rfl rfl (show eqAll (eqvO 39) (a.map D.int) (b.map D.int) = _ from eqAll_int a b)
@[simp] theorem q_lenT : fLen s (.d (.tup xs)) = .ok (.d (.int xs.length)) s := rfl
theorem q_lenL {a : RV} {zs : List D} (h : asD s a = some (.lst zs)) : fLen s a = .ok (.d (.int zs.length)) s := by
  unfold fLen; simp only [h, Option.bind_some, lenD]
@[simp] theorem q_int : fInt s (.d (.int i)) = .ok (.d (.int i)) s := rfl
@[simp] theorem q_neg : fNeg s (.d (.int i)) = .ok (.d (.int (-i))) s := rfl
end
/-! ### the combinators at a state -/
section
variable {s : S} {e : List Slot} {gl : List MObj} {i j k : Nat} {m a b c : M} {t u : S → Res Bool} {la : S → Res (List D)} {lr : S → Res (List RV)} {p q : S → Res Out} {f g : S → RV → RV → Res RV} {h : S → RV → Res RV} {x : D} {lo hi : S → Res (Option Int)}
@[simp] theorem ap_C : mC x s = .ok (.d x) s := rfl
@[simp] theorem ap_Var : mVar i ⟨e, gl⟩ = (match e[i]? with | some (.val x) => .ok (.d x) ⟨e, gl⟩ | some (.own _) => .ok (.at i) ⟨e, gl⟩ | _ => .stuck) := rfl
@[simp] theorem ap_Leak : mLeak m s = (m s).bind fun r s1 => match leak r s1 with | some (d, s2) => .ok d s2 | none => .stuck := rfl
@[simp] theorem ap_Settle : mSettle m s = (m s).bind fun r s1 => match settle r with | some r' => .ok r' s1 | none => .stuck := rfl
@[simp] theorem ap_Bin : mBin f a b s = (mSettle a s).bind fun x s1 => (b s1).bind fun y s2 => f s2 x y := rfl
@[simp] theorem ap_ANil : mANil s = .ok [] s := rfl
@[simp] theorem ap_ACons : mACons a la s = (mLeak a s).bind fun d s1 => (la s1).bind fun ds s2 => .ok (d :: ds) s2 := rfl
@[simp] theorem ap_Tup : mTup la s = (la s).bind fun ds s1 => if ds.length ≤ sizeLine then .ok (.d (.tup ds)) s1 else .stuck := rfl
@[simp] theorem ap_Lst : mLst la s = (la s).bind fun ds s1 => if ds.length ≤ sizeLine then .ok (.new (.lst ds)) s1 else .stuck := rfl
@[simp] theorem ap_Call {fm : Fm} : mCall fm la s = (la s).bind fun ds s1 => match fm ds s1.gl with | .ok d gl => .ok (.d d) { s1 with gl := gl } | .exc c p gl => .exc c p { s1 with gl := gl } | .stuck => .stuck := rfl
@[simp] theorem ap_Nx : mNx s = .ok .nx s := rfl
@[simp] theorem ap_Seq : mSeq p q s = (match p s with | .ok .nx s1 => q s1 | r => r) := rfl
@[simp] theorem ap_Expr : mExpr m s = (m s).bind fun _ s1 => .ok .nx s1 := rfl
@[simp] theorem ap_Ret : mRet m s = (mLeak m s).bind fun d s1 => .ok (.rt d) s1 := rfl
@[simp] theorem ap_RetN : mRetN s = .ok (.rt .non) s := rfl
@[simp] theorem ap_IfS : mIfS t p q s = (t s).bind fun c s1 => if c = true then p s1 else q s1 := rfl
@[simp] theorem ap_Set : mSet i m s = (m s).bind fun r s1 => match MI.assign i r s1 with | some s2 => .ok .nx s2 | none => .stuck := rfl
@[simp] theorem ap_Brk : mBrk s = .ok .bk s := rfl
@[simp] theorem ap_Cont : mCont s = .ok .ct s := rfl
@[simp] theorem ap_Hold : mHold a s = (a s).bind fun r s1 => match r with | .at i => (match leak (.at i) s1 with | some (d, s2) => .ok (.d d) s2 | none => .stuck) | r => .ok r s1 := by
  unfold mHold
  cases a s <;> rfl
@[simp] theorem ap_RNil : mRNil s = .ok [] s := rfl
@[simp] theorem ap_RCons : mRCons a lr s = (mHold a s).bind fun x s1 => (lr s1).bind fun xs s2 => .ok (x :: xs) s2 := rfl
@[simp] theorem ap_ParN {is : List Nat} : mParN is lr s = (lr s).bind fun rs s1 => match assignAll is rs s1 with | some s2 => .ok .nx s2 | none => .stuck := rfl
@[simp] theorem ap_Unp {is : List Nat} : mUnp is m s = (mLeak m s).bind fun d s1 => match d with | .tup ds => (match assignAll is (ds.map .d) s1 with | some s2 => .ok .nx s2 | none => .stuck) | _ => .stuck := by
  unfold mUnp
  cases mLeak m s <;> rfl
@[simp] theorem ap_NoPart : mNoPart s = .ok none s := rfl
@[simp] theorem ap_Part : mPart m s = (m s).bind fun r s1 => match asInt r with | some i => .ok (some i) s1 | none => .stuck := rfl
@[simp] theorem ap_Slice : mSlice a lo hi s = (mSettle a s).bind fun x s1 => (lo s1).bind fun l s2 => (hi s2).bind fun u s3 => opSl l u s3 x := rfl
@[simp] theorem ap_Fn1 : mFn1 h m s = (m s).bind fun r s1 => h s1 r := rfl
@[simp] theorem ap_Fn2 {o : Int → Int → Int} : mFn2 o la s = (la s).bind fun ds s1 => match ds with | [.int i, .int j] => .ok (.d (.int (o i j))) s1 | _ => .stuck := rfl
@[simp] theorem ap_Tru : mTru m s = (m s).bind fun r s1 => match (asD s1 r).bind truthD with | some b => .ok b s1 | none => .stuck := rfl
@[simp] theorem ap_NotT : mNotT t s = (t s).bind fun b s1 => .ok (!b) s1 := rfl
@[simp] theorem ap_AndT : mAndT t u s = (t s).bind fun c s1 => if c = true then u s1 else .ok false s1 := rfl
@[simp] theorem ap_OrT : mOrT t u s = (t s).bind fun c s1 => if c = true then .ok true s1 else u s1 := rfl
@[simp] theorem ap_If : mIf t a b s = (t s).bind fun c s1 => if c = true then a s1 else b s1 := rfl
@[simp] theorem ap_Bl : mBl m s = (m s).bind fun r s1 => match r with | .d (.bl b) => .ok b s1 | _ => .stuck := rfl
@[simp] theorem ap_AndV : mAndV a b s = (a s).bind fun r s1 => match r with | .d (.bl c) => if c = true then b s1 else .ok (.d (.bl false)) s1 | _ => .stuck := rfl
@[simp] theorem ap_OrV : mOrV a b s = (a s).bind fun r s1 => match r with | .d (.bl c) => if c = true then .ok (.d (.bl true)) s1 else b s1 | _ => .stuck := rfl
@[simp] theorem ap_NotV : mNotV a s = (a s).bind fun r s1 => match r with | .d (.bl c) => .ok (.d (.bl (!c))) s1 | _ => .stuck := rfl
@[simp] theorem ap_Chain : mChain f g a b c s = (mSettle a s).bind fun x s1 => (mSettle b s1).bind fun y s2 => (f s2 x y).bind fun z s3 => match z with | .d (.bl k) => if k = true then (c s3).bind fun w s4 => g s4 y w else .ok (.d (.bl false)) s3 | _ => .stuck := rfl
@[simp] theorem ap_Seqi : iSeq m s = (mLeak m s).bind fun d s1 => match d with | .lst xs => .ok xs s1 | .tup xs => .ok xs s1 | .scr xs => .ok xs s1 | _ => .stuck := rfl
theorem rng1_ok {j : Int} (h0 : 0 ≤ j) (h1 : j ≤ 1000000) : rng1 j = some (rangeD 0 j.toNat) := (rng1_eq j).trans (if_pos ⟨by omega, by omega⟩)
theorem rng1_nat {n : Nat} (h1 : n ≤ 1000000) : rng1 (n : Int) = some (rangeD 0 n) := rng1_ok (by omega) (by omega)
theorem rng2_ok {i j : Int} (h0 : -1000000 ≤ i) (h1 : i ≤ 1000000) (h2 : -1000000 ≤ j) (h3 : j ≤ 1000000) : rng2 i j = some (rangeD i (j - i).toNat) := (rng2_eq i j).trans (if_pos ⟨by omega, by omega, by omega, by omega⟩)
def optR {α : Type} (o : Option α) (s : S) : Res α := match o with
  | some l => .ok l s
  | none => .stuck
@[simp] theorem optR_some {α : Type} {l : α} : optR (some l) s = .ok l s := rfl
noncomputable def rngA (ds : List D) : Option (List D) := match ds with
  | [.int j] => rng1 j
  | _ => none
noncomputable def rngB (ds : List D) : Option (List D) := match ds with
  | [.int i, .int j] => rng2 i j
  | _ => none
@[simp] theorem rngA_1 {j : Int} : rngA [.int j] = rng1 j := Eq.trans rfl rfl
@[simp] theorem rngB_2 {i j : Int} : rngB [.int i, .int j] = rng2 i j := Eq.trans rfl rfl
@[simp] theorem ap_Range1 : iRange1 la s = (la s).bind fun ds s1 => optR (rngA ds) s1 := by
  unfold iRange1
  cases la s with
  | ok ds s1 =>
    simp only [Res.bind_ok]
    split
    · rename_i j
      rw [rngA_1]; unfold optR; cases rng1 j <;> rfl
    · rename_i h
      unfold rngA
      split
      · exact absurd rfl (h _)
      · rfl
  | exc c p s1 => rfl
  | stuck => rfl
@[simp] theorem ap_Range2 : iRange2 la s = (la s).bind fun ds s1 => optR (rngB ds) s1 := by
  unfold iRange2
  cases la s with
  | ok ds s1 =>
    simp only [Res.bind_ok]
    split
    · rename_i i j
      rw [rngB_2]; unfold optR; cases rng2 i j <;> rfl
    · rename_i h
      unfold rngB
      split
      · exact absurd rfl (h _ _)
      · rfl
  | exc c p s1 => rfl
  | stuck => rfl
@[simp] theorem ap_For {it : S → Res (List D)} {tg : D → S → Option S} : mFor it tg p s = (it s).bind fun ds s1 => forGo tg p ds s1 := rfl
@[simp] theorem ap_Yes : mYes s = .ok true s := rfl
@[simp] theorem ap_Alloc : mAlloc m s = (m s).bind fun r s1 => match r with | .new o => .ok (.d (.ref s1.gl.length)) { s1 with gl := s1.gl ++ [o] } | _ => .stuck := rfl
@[simp] theorem ap_Comp {vs : List Nat} {it : S → Res (List D)} {tg : D → S → Option S} : mComp vs it tg t m s = (it s).bind fun ds s1 => if noOwn s1.env vs = true then (match compGo vs tg t (mLeak m) ds [] (wipeS s1 vs) with
  | some (acc, s2) => .ok (.new (.lst acc)) { s2 with env := restE s1.env s2.env vs }
  | none => .stuck) else .stuck := rfl
@[simp] theorem ap_Raise {x f : Str} : mRaise x f m s = (mLeak m s).bind fun d s1 => match d with | .int i => if i.natAbs ≤ 1000000 then .exc x (.tup [.str f, .int i]) s1 else .stuck | _ => .stuck := rfl
@[simp] theorem ap_tgName : tgName i x s = MI.assign i (.d x) s := rfl
theorem as_d {x : D} (h : i < e.length) : MI.assign i (.d x) ⟨e, gl⟩ = some ⟨e.set i (.val x), gl⟩ := if_pos h
theorem as_new {o : MObj} (h : i < e.length) : MI.assign i (.new o) ⟨e, gl⟩ = some ⟨e.set i (.own o), gl⟩ := if_pos h
@[simp] theorem asA_nil : assignAll [] [] s = some s := rfl
@[simp] theorem asA_cons {r : RV} {is : List Nat} {rs : List RV} : assignAll (i :: is) (r :: rs) s = (match MI.assign i r s with | some s1 => assignAll is rs s1 | none => none) := rfl
@[simp] theorem ap_SetIx {v o ix : M} : mSetIx v o ix s = (mLeak v s).bind fun d s1 => (o s1).bind fun r s2 => match locOf r with
  | some l => (match cellOf s2 l with
    | some _ => (mLeak ix s2).bind fun k s3 => (match cellOf s3 l, k with
      | some (.lst xs), .int k => (match ixN xs.length k with
        | some j => .ok .nx (setCell s3 l (.lst (xs.set j d)))
        | none => .stuck)
      | _, _ => .stuck)
    | _ => .stuck)
  | none => .stuck := rfl
@[simp] theorem ap_Lm1 {fn : List D → D → Option (D × List D)} : mLm1 fn a b s = (a s).bind fun r s1 => match locOf r with
  | some l => (match cellOf s1 l with
    | some (.lst _) => (mLeak b s1).bind fun d s2 => (match cellOf s2 l with
      | some (.lst xs) => (match fn xs d with
        | some (x, ys) => .ok (.d x) (setCell s2 l (.lst ys))
        | none => .stuck)
      | _ => .stuck)
    | _ => .stuck)
  | none => .stuck := rfl
@[simp] theorem cell_gl {n : Nat} : cellOf ⟨e, gl⟩ (.gl n) = gl[n]? := rfl
@[simp] theorem cell_slot {n : Nat} : cellOf ⟨e, gl⟩ (.sl n) = (match e[n]? with | some (.own o) => some o | _ => none) := rfl
@[simp] theorem setCell_gl {n : Nat} {o : MObj} : setCell ⟨e, gl⟩ (.gl n) o = ⟨e, gl.set n o⟩ := rfl
@[simp] theorem setCell_sl {n : Nat} {o : MObj} : setCell ⟨e, gl⟩ (.sl n) o = ⟨e.set n (.own o), gl⟩ := rfl
end
@[simp] theorem forGo_nil {t : D → S → Option S} {p : S → Res Out} {s : S} : forGo t p [] s = .ok .nx s := rfl
theorem forGo_cons {t : D → S → Option S} {p : S → Res Out} {s : S} {d : D} {ds : List D} : forGo t p (d :: ds) s = (match t d s with
    | none => .stuck
    | some s1 => match p s1 with
      | .ok .nx s2 => forGo t p ds s2
      | .ok .ct s2 => forGo t p ds s2
      | .ok .bk s2 => .ok .nx s2
      | r => r) := rfl
theorem mDef_ok {n N : Nat} {body : S → Res Out} {ds : List D} {gl gl' : List MObj} {d : D} {e : List Slot} (hl : ds.length = n) (h : body ⟨ds.map Slot.val ++ List.replicate (N - n) Slot.none, gl⟩ = .ok (.rt d) ⟨e, gl'⟩) : mDef n N body ds gl = .ok d gl' := by
  unfold mDef
  rw [if_pos hl, h]
theorem mDef_exc {n N : Nat} {body : S → Res Out} {ds : List D} {gl gl' : List MObj} {c : Str} {p : D} {e : List Slot} (hl : ds.length = n) (h : body ⟨ds.map Slot.val ++ List.replicate (N - n) Slot.none, gl⟩ = .exc c p ⟨e, gl'⟩) : mDef n N body ds gl = .exc c p gl' := by
  unfold mDef
  rw [if_pos hl, h]
/-! ### lists of ints -/
abbrev IL (l : List Int) : List D := l.map D.int
theorem szN (n : Nat) (h : n ≤ 1000000) : n ≤ sizeLine := by rw [sizeLine_eq]; omega
@[simp] theorem sz0 : 0 ≤ sizeLine := Nat.zero_le _
@[simp] theorem sz1 : 1 ≤ sizeLine := szN _ (by omega)
@[simp] theorem sz1' : 1 < sizeLine := by rw [sizeLine_eq]; omega
@[simp] theorem sz2 : 2 ≤ sizeLine := szN _ (by omega)
@[simp] theorem sz3 : 3 ≤ sizeLine := szN _ (by omega)
@[simp] theorem sz4 : 4 ≤ sizeLine := szN _ (by omega)
@[simp] theorem sz5 : 5 ≤ sizeLine := szN _ (by omega)
@[simp] theorem sz6 : 6 ≤ sizeLine := szN _ (by omega)
section
variable {s : S} {a b : List Int} {i j : Int}
theorem q_addI (h : a.length + b.length ≤ 1000000) : opAdd s (.d (.tup (IL a))) (.d (.tup (IL b))) = .ok (.d (.tup (IL (a ++ b)))) s := by
  rw [q_addT (szN _ (by simpa using h))]
  simp
theorem q_addIL (h : a.length + b.length ≤ 1000000) {x y : RV} (hx : asLst s x = some (IL a)) (hy : asLst s y = some (IL b)) : opAdd s x y = .ok (.new (.lst (IL (a ++ b)))) s := by
  rw [q_addL hx hy (szN _ (by simpa using h))]
  simp
theorem q_shl (h : 0 ≤ j) (h1 : j ≤ 1000000) (h2 : i.natAbs < 2 ^ 64) : opShl s (.d (.int i)) (.d (.int j)) = .ok (.d (.int (i * 2 ^ j.toNat))) s := by
  have c : cPow i j = true := by
    unfold cPow
    rw [decide_eq_true h, decide_eq_true h1, decide_eq_true h2]
    rfl
  simp only [opShl, fI, asInt, c, if_true]
theorem atI_il {d : Int} (h0 : 0 ≤ i) (h : a[i.toNat]? = some d) : atI (IL a) i = some (.int d) := by
  have hl : i.toNat < a.length := (List.getElem?_eq_some_iff.mp h).1
  unfold atI ixN
  rw [if_pos h0, if_pos (by rw [List.length_map]; omega)]
  show (IL a)[i.toNat]? = _
  rw [List.getElem?_map, h]
  rfl
theorem cut_il {lo hi : Option Int} : cut (IL a) lo hi = IL (cut a lo hi) := by
  unfold cut
  rw [List.length_map, ← List.map_drop, ← List.map_take]
theorem q_slT {lo hi : Option Int} : opSl lo hi s (.d (.tup (IL a))) = .ok (.d (.tup (IL (cut a lo hi)))) s := by
  unfold opSl
  simp only [asTup, cut_il]
theorem cut_lo {α : Type} {xs : List α} {k : Nat} (h : k ≤ xs.length) : cut xs (some (k : Int)) none = xs.drop k := by
  unfold cut HT.sIx
  have e : ¬ ((k : Int) < 0) := by omega
  simp only [e, if_false, Int.toNat_natCast, Nat.min_eq_left h]
  rw [List.take_of_length_le]
  simp
theorem cut_hi {α : Type} {xs : List α} {k : Nat} (h : k ≤ xs.length) : cut xs none (some (k : Int)) = xs.take k := by
  unfold cut HT.sIx
  have e : ¬ ((k : Int) < 0) := by omega
  simp only [e, if_false, Int.toNat_natCast, Nat.min_eq_left h, List.drop_zero, Nat.sub_zero]
theorem cut_lohi {α : Type} {xs : List α} {k m : Nat} (h : k ≤ m) (h2 : m ≤ xs.length) : cut xs (some (k : Int)) (some (m : Int)) = (xs.drop k).take (m - k) := by
  unfold cut HT.sIx
  have e : ¬ ((k : Int) < 0) := by omega
  have e2 : ¬ ((m : Int) < 0) := by omega
  simp only [e, e2, if_false, Int.toNat_natCast, Nat.min_eq_left (Nat.le_trans h h2), Nat.min_eq_left h2]
end
@[simp] theorem sz0' : 0 < sizeLine := by rw [sizeLine_eq]; omega
@[simp] theorem sz2' : 2 < sizeLine := by rw [sizeLine_eq]; omega
@[simp] theorem sz3' : 3 < sizeLine := by rw [sizeLine_eq]; omega
@[simp] theorem sz4' : 4 < sizeLine := by rw [sizeLine_eq]; omega
@[simp] theorem sz5' : 5 < sizeLine := by rw [sizeLine_eq]; omega
/-! ### comprehensions over one name -/
inductive All2 {α β : Type} (R : α → β → Prop) : List α → List β → Prop
  | nil : All2 R [] []
  | cons {a : α} {b : β} {as : List α} {bs : List β} : R a b → All2 R as bs → All2 R (a :: as) (b :: bs)
section
variable {v : Nat} {e : M} {env : List Slot} {gl : List MObj}
theorem restE_one (hv : v < env.length) : restE env (env.set v .none) [v] = env := by
  show ((env.set v Slot.none).set v ((env[v]?).getD .none)) = env
  rw [List.set_set, List.getElem?_eq_getElem hv]
  simp
theorem set_none_set {x : Slot} : (env.set v x).set v .none = env.set v .none := List.set_set ..
theorem compGo_inv {P : List MObj → Prop} {R : D → D → Prop} (hv : v < env.length) : ∀ (ds acc : List D) (gl : List MObj), P gl → acc.length + ds.length ≤ sizeLine →
    (∀ d ∈ ds, ∀ gl, P gl → ∃ y gl', mLeak e ⟨env.set v (.val d), gl⟩ = .ok y ⟨env.set v (.val d), gl'⟩ ∧ P gl' ∧ R d y) →
    ∃ ys gl', compGo [v] (tgName v) mYes (mLeak e) ds acc ⟨env.set v .none, gl⟩ = some (acc ++ ys, ⟨env.set v .none, gl'⟩) ∧ P gl' ∧ All2 R ds ys
  | [], acc, gl, hP, _, _ => ⟨[], gl, by simp [compGo], hP, .nil⟩
  | d :: ds, acc, gl, hP, hl, he => by
    obtain ⟨y, gl1, e1, P1, R1⟩ := he d List.mem_cons_self gl hP
    have hl' : acc.length < sizeLine := by simp only [List.length_cons] at hl; omega
    obtain ⟨ys, gl2, e2, P2, R2⟩ := compGo_inv hv ds (acc ++ [y]) gl1 P1 (by simp only [List.length_append, List.length_cons, List.length_nil] at hl ⊢; omega) fun d' m => he d' (List.mem_cons_of_mem _ m)
    refine ⟨y :: ys, gl2, ?_, P2, .cons R1 R2⟩
    have ta : tgName v d ⟨env.set v .none, gl⟩ = some ⟨env.set v (.val d), gl⟩ := by
      rw [ap_tgName, as_d (by simpa using hv), List.set_set]
    unfold compGo
    rw [ta]
    simp only [ap_Yes, if_true, e1, hl']
    show compGo [v] (tgName v) mYes (mLeak e) ds (acc ++ [y]) ⟨(env.set v (.val d)).set v .none, gl1⟩ = _
    rw [List.set_set, e2]
    simp
theorem comp_inv {P : List MObj → Prop} {R : D → D → Prop} {it : S → Res (List D)} {s0 : S} {ds : List D} (hi : it s0 = .ok ds ⟨env, gl⟩) (hv : v < env.length) (ho : noOwn env [v] = true) (hP : P gl) (hl : ds.length ≤ sizeLine)
    (he : ∀ d ∈ ds, ∀ gl, P gl → ∃ y gl', mLeak e ⟨env.set v (.val d), gl⟩ = .ok y ⟨env.set v (.val d), gl'⟩ ∧ P gl' ∧ R d y) :
    ∃ ys gl', mComp [v] it (tgName v) mYes e s0 = .ok (.new (.lst ys)) ⟨env, gl'⟩ ∧ P gl' ∧ All2 R ds ys := by
  obtain ⟨ys, gl', h1, h2, h3⟩ := compGo_inv hv ds [] gl hP (by simpa using hl) he
  refine ⟨ys, gl', ?_, h2, h3⟩
  rw [ap_Comp, hi, Res.bind_ok, if_pos ho]
  show (match compGo [v] (tgName v) mYes (mLeak e) ds [] ⟨env.set v .none, gl⟩ with | some (acc, s2) => Res.ok (RV.new (.lst acc)) ⟨restE env s2.env [v], s2.gl⟩ | none => .stuck) = _
  rw [h1]
  show Res.ok (RV.new (.lst ([] ++ ys))) (⟨restE env (env.set v .none) [v], gl'⟩ : S) = _
  rw [restE_one hv, List.nil_append]
theorem forall2_map {g : D → D} : ∀ {ds ys : List D}, All2 (fun d y => y = g d) ds ys → ys = ds.map g
  | _, _, .nil => rfl
  | _, _, .cons h t => by rw [h, forall2_map t]; rfl
theorem comp_map {it : S → Res (List D)} {s0 : S} {ds : List D} {g : D → D} (hi : it s0 = .ok ds ⟨env, gl⟩) (hv : v < env.length) (ho : noOwn env [v] = true) (hl : ds.length ≤ sizeLine)
    (he : ∀ d ∈ ds, mLeak e ⟨env.set v (.val d), gl⟩ = .ok (g d) ⟨env.set v (.val d), gl⟩) :
    mComp [v] it (tgName v) mYes e s0 = .ok (.new (.lst (ds.map g))) ⟨env, gl⟩ := by
  obtain ⟨ys, gl', h1, h2, h3⟩ := comp_inv (P := fun z => z = gl) (R := fun d y => y = g d) hi hv ho rfl hl fun d m z hz => ⟨g d, gl, by rw [hz]; exact he d m, rfl, rfl⟩
  rw [h1, h2, forall2_map h3]
theorem rangeD_map (lo : Int) : ∀ n : Nat, rangeD lo n = (List.range n).map fun (k : Nat) => D.int (lo + (k : Int))
  | 0 => rfl
  | n + 1 => by
    rw [rangeD, rangeD_map (lo + 1) n, List.range_succ_eq_map, List.map_cons, List.map_map]
    have e0 : lo + ((0 : Nat) : Int) = lo := by omega
    rw [e0]
    congr 1
    refine List.map_congr_left fun k _ => ?_
    show D.int (lo + 1 + (k : Int)) = D.int (lo + ((k + 1 : Nat) : Int))
    congr 1
    omega
theorem rangeD_length (lo : Int) : ∀ n : Nat, (rangeD lo n).length = n
  | 0 => rfl
  | n + 1 => by rw [rangeD, List.length_cons, rangeD_length]
end
section
variable {s : S} {xs : List D} {n : Nat} {e : List Slot} {gl : List MObj}
@[simp] theorem q_listT : fList s (.d (.tup xs)) = .ok (.new (.lst xs)) s := rfl
@[simp] theorem q_listL : fList s (.d (.lst xs)) = .ok (.new (.lst xs)) s := rfl
@[simp] theorem q_listN : fList s (.new (.lst xs)) = .ok (.new (.lst xs)) s := rfl
@[simp] theorem q_tupT : fTuple s (.d (.tup xs)) = .ok (.d (.tup xs)) s := rfl
@[simp] theorem q_tupL : fTuple s (.d (.lst xs)) = .ok (.d (.tup xs)) s := rfl
@[simp] theorem q_tupN : fTuple s (.new (.lst xs)) = .ok (.d (.tup xs)) s := rfl
@[simp] theorem q_lenD : fLen s (.d (.lst xs)) = .ok (.d (.int xs.length)) s := rfl
@[simp] theorem q_lenN : fLen s (.new (.lst xs)) = .ok (.d (.int xs.length)) s := rfl
end
/-! ### loops by an invariant -/
theorem for_inv {t : D → S → Option S} {p : S → Res Out} {Inv : S → Prop} : ∀ (ds : List D) (s : S), Inv s → (∀ d ∈ ds, ∀ s, Inv s → ∃ s1 s2, t d s = some s1 ∧ p s1 = .ok .nx s2 ∧ Inv s2) → ∃ s', forGo t p ds s = .ok .nx s' ∧ Inv s'
  | [], s, h, _ => ⟨s, rfl, h⟩
  | d :: ds, s, h, hp => by
    obtain ⟨s1, s2, h1, h2, h3⟩ := hp d List.mem_cons_self s h
    obtain ⟨s', h4, h5⟩ := for_inv ds s2 h3 fun d' m => hp d' (List.mem_cons_of_mem _ m)
    exact ⟨s', by rw [forGo_cons, h1]; simp only [h2]; exact h4, h5⟩
theorem seq_nx {a b : S → Res Out} {s s1 : S} (h : a s = .ok .nx s1) : mSeq a b s = b s1 := by rw [ap_Seq, h]
theorem mem_rangeD {lo : Int} {n : Nat} {d : D} (h : d ∈ rangeD lo n) : ∃ k : Nat, k < n ∧ d = .int (lo + k) := by
  rw [rangeD_map] at h
  obtain ⟨k, hk, rfl⟩ := List.mem_map.mp h
  exact ⟨k, List.mem_range.mp hk, rfl⟩
theorem set_parts {α : Type} (l : List α) (k : Nat) (b : α) (h : k < l.length) : l.take k ++ [b] ++ l.drop (k + 1) = l.set k b := by
  rw [List.set_eq_take_append_cons_drop, if_pos h]
  simp
@[simp] theorem ap_TryX {x f : Str} {i j : Nat} {b : S → Res Out} {s : S} : mTryX x i j f b s = (match b s with
  | .exc c p s1 => (match tbOne x c with
    | some true => (match p with
      | .tup [.str f', q] => if f' = f ∧ i ≠ j ∧ i < s1.env.length then (match MI.assign j (.d q) { s1 with env := s1.env.set i .none } with
        | some s2 => .ok .nx s2
        | none => .stuck) else .stuck
      | _ => .stuck)
    | some false => .exc c p s1
    | none => .stuck)
  | r => r) := rfl
@[simp] theorem tb_same {x : Str} : tbOne x x = some true := if_pos rfl
end MI
/-! # More equations to run mirrors -/
namespace MI
open PySem L2
section
variable {e : List Slot} {gl : List MObj} {s : S} {o a m : M} {i : Nat}
@[simp] theorem ap_Lm0 {f : List D → Option (D × List D)} : mLm0 f o s = (o s).bind fun r s1 => match locOf r with
  | some l => (match cellOf s1 l with
    | some (.lst xs) => (match f xs with
      | some (x, ys) => .ok (.d x) (setCell s1 l (.lst ys))
      | none => .stuck)
    | _ => .stuck)
  | none => .stuck := rfl
@[simp] theorem ap_Sm1 {f : Str → D → Option D} : mSm1 f o a s = (mLeak o s).bind fun d s1 => match d with
  | .str x => (mLeak a s1).bind fun y s2 => (match f x y with
    | some z => .ok (.d z) s2
    | none => .stuck)
  | _ => .stuck := rfl
@[simp] theorem ap_Aug {f : Int → Int → Int} : mAug i f m s = (match s.env[i]? with
  | some (.val (.int a)) => (m s).bind fun r s1 => (match asInt r with
    | some b => (match MI.assign i (.d (.int (f a b))) s1 with
      | some s2 => .ok .nx s2
      | none => .stuck)
    | none => .stuck)
  | _ => .stuck) := rfl
@[simp] theorem ap_StrM : iStrM m s = (mLeak m s).bind fun d s1 => match d with
  | .str x => .ok (signs x) s1
  | _ => .stuck := rfl
end
@[simp] theorem lk_at {n : Nat} {e : List Slot} {gl : List MObj} : leak (.at n) ⟨e, gl⟩ = (match e[n]? with | some (.own o) => (frzO o).map fun d => (d, (⟨e.set n (.val d), gl⟩ : S)) | _ => none) := rfl
@[simp] theorem fPop_snoc (xs : List D) (x : D) : fPop (xs ++ [x]) = some (x, xs) := by
  unfold fPop
  rw [List.length_append, List.length_singleton, Nat.add_sub_cancel, List.getElem?_append_right (Nat.le_refl _)]
  simp
theorem fApp_ok (xs : List D) (x : D) (h : xs.length < 1000000) : fAppend xs x = some (.non, xs ++ [x]) := by
  unfold fAppend
  rw [if_pos (by rw [sizeLine_eq]; omega)]
theorem fExt_lst (xs ys : List D) (h : xs.length + ys.length ≤ 1000000) : fExtendA xs (.lst ys) = some (.non, xs ++ ys) := by
  unfold fExtendA
  simp only
  rw [if_pos (szN _ h)]
theorem fExt_tup (xs ys : List D) (h : xs.length + ys.length ≤ 1000000) : fExtendA xs (.tup ys) = some (.non, xs ++ ys) := by
  unfold fExtendA
  simp only
  rw [if_pos (szN _ h)]
/-- a while by its steps -/
theorem wh_stop {t : S → Res Bool} {l : S → Res Out} {s s' : S} (h : t s = .ok false s') : ∃ N, whileGo t l N s = .ok .nx s' := by
  refine ⟨1, ?_⟩
  unfold whileGo
  rw [h]
  simp
theorem wh_step {t : S → Res Bool} {l : S → Res Out} {s s1 s2 : S} {r : Res Out} (h : t s = .ok true s1) (h2 : l s1 = .ok .nx s2) (h3 : ∃ N, whileGo t l N s2 = r) : ∃ N, whileGo t l N s = r := by
  obtain ⟨N, h3⟩ := h3
  refine ⟨N + 1, ?_⟩
  unfold whileGo
  rw [h]
  simp only [Res.bind_ok, if_true, h2]
  exact h3
theorem wh_exc {t : S → Res Bool} {l : S → Res Out} {s s1 s2 : S} {c : Str} {p : D} (h : t s = .ok true s1) (h2 : l s1 = .exc c p s2) : ∃ N, whileGo t l N s = .exc c p s2 := by
  refine ⟨1, ?_⟩
  unfold whileGo
  rw [h]
  simp only [Res.bind_ok, if_true, h2]
theorem wh_done {t : S → Res Bool} {l : S → Res Out} {s : S} {r : Res Out} (h : ∃ N, whileGo t l N s = r) (hr : r ≠ .stuck) : mWhile t l s = r := by
  obtain ⟨N, h⟩ := h
  exact mWhile_eq h hr
end MI
namespace MI
open PySem L2
/-- a comprehension over l told by a, of the values b -/
theorem compGo_map {ι : Type} {v : Nat} {e : M} {env : List Slot} {gl : List MObj} (hv : v < env.length) (a b : ι → D) : ∀ (l : List ι) (acc : List D), acc.length + l.length ≤ sizeLine →
    (∀ i ∈ l, mLeak e ⟨env.set v (.val (a i)), gl⟩ = .ok (b i) ⟨env.set v (.val (a i)), gl⟩) →
    compGo [v] (tgName v) mYes (mLeak e) (l.map a) acc ⟨env.set v .none, gl⟩ = some (acc ++ l.map b, ⟨env.set v .none, gl⟩)
  | [], acc, _, _ => by simp [compGo]
  | i :: l, acc, hl, he => by
    have e1 := he i List.mem_cons_self
    have hl' : acc.length < sizeLine := by simp only [List.length_cons] at hl; omega
    have e2 := compGo_map hv a b l (acc ++ [b i]) (by simp only [List.length_append, List.length_cons, List.length_nil] at hl ⊢; omega) fun j m => he j (List.mem_cons_of_mem _ m)
    have ta : tgName v (a i) ⟨env.set v .none, gl⟩ = some ⟨env.set v (.val (a i)), gl⟩ := by
      rw [ap_tgName, as_d (by simpa using hv), List.set_set]
    rw [List.map_cons]
    unfold compGo
    rw [ta]
    simp only [ap_Yes, if_true, e1, hl']
    show compGo [v] (tgName v) mYes (mLeak e) (l.map a) (acc ++ [b i]) ⟨(env.set v (.val (a i))).set v .none, gl⟩ = _
    rw [List.set_set, e2]
    simp
theorem comp_mapI {ι : Type} {v : Nat} {e : M} {env : List Slot} {gl : List MObj} {it : S → Res (List D)} {s0 : S} (l : List ι) (a b : ι → D) (hi : it s0 = .ok (l.map a) ⟨env, gl⟩) (hv : v < env.length) (ho : noOwn env [v] = true) (hl : l.length ≤ 1000000)
    (he : ∀ i ∈ l, mLeak e ⟨env.set v (.val (a i)), gl⟩ = .ok (b i) ⟨env.set v (.val (a i)), gl⟩) :
    mComp [v] it (tgName v) mYes e s0 = .ok (.new (.lst (l.map b))) ⟨env, gl⟩ := by
  have h1 := compGo_map hv a b l [] (by rw [List.length_nil, Nat.zero_add]; exact szN _ hl) he
  rw [ap_Comp, hi, Res.bind_ok, if_pos ho]
  show (match compGo [v] (tgName v) mYes (mLeak e) (l.map a) [] ⟨env.set v .none, gl⟩ with | some (acc, s2) => Res.ok (RV.new (.lst acc)) ⟨restE env s2.env [v], s2.gl⟩ | none => .stuck) = _
  rw [h1]
  show Res.ok (RV.new (.lst ([] ++ l.map b))) (⟨restE env (env.set v .none) [v], gl⟩ : S) = _
  rw [restE_one hv, List.nil_append]
end MI
namespace MI
open PySem L2
section
variable {e : List Slot} {gl : List MObj} {s : S} {o a d k v m : M}
@[simp] theorem ap_UnpT {t : D → S → Option S} : mUnpT t m s = (mLeak m s).bind fun d s1 => match t d s1 with
  | some s2 => .ok .nx s2
  | none => .stuck := rfl
@[simp] theorem ap_DNew : mDNew s = .ok (.new (.dic [])) s := rfl
@[simp] theorem ap_DGet : mDGet d k s = (mSettle d s).bind fun r s1 => (mLeak k s1).bind fun y s2 => match asDic s2 r, keyOf y with
  | some kvs, some k => (match dval kvs k with
    | some x => .ok (.d x) s2
    | none => .stuck)
  | _, _ => .stuck := rfl
@[simp] theorem ap_DPut : mDPut v o k s = (mLeak v s).bind fun d s1 => (o s1).bind fun r s2 => match locOf r with
  | some l => (match cellOf s2 l with
    | some _ => (mLeak k s2).bind fun y s3 => (match cellOf s3 l, keyOf y with
      | some (.dic kvs), some k => if kvs.length < sizeLine then .ok .nx (setCell s3 l (.dic (dput kvs k d))) else .stuck
      | _, _ => .stuck)
    | _ => .stuck)
  | none => .stuck := rfl
@[simp] theorem ap_DGet2 {x : M} : mDGet2 d k x s = (mSettle d s).bind fun r s1 => match asDic s1 r with
  | some _ => (mLeak k s1).bind fun y s2 => (mLeak x s2).bind fun z s3 => (match asDic s3 r, keyOf y with
    | some kvs, some k => .ok (.d ((dval kvs k).getD z)) s3
    | _, _ => .stuck)
  | none => .stuck := rfl
noncomputable def rngC : List D → Option (List D)
  | [.int i, .int j, .int c] => rng3 i j c
  | _ => none
@[simp] theorem rngC_3 {i j c : Int} : rngC [.int i, .int j, .int c] = rng3 i j c := rfl
@[simp] theorem ap_Range3 {la : S → Res (List D)} : iRange3 la s = (la s).bind fun ds s1 => optR (rngC ds) s1 := by
  unfold iRange3
  cases la s with
  | ok ds s1 =>
    simp only [Res.bind_ok]
    split
    · rename_i i j c
      rw [rngC_3]; unfold optR; cases rng3 i j c <;> rfl
    · rename_i h
      unfold rngC
      split
      · exact absurd rfl (h _ _ _)
      · rfl
  | exc c p s1 => rfl
  | stuck => rfl
@[simp] theorem ap_tgT_tup {ts : List D → S → Option S} {ds : List D} : tgT ts (.tup ds) s = ts ds s := rfl
@[simp] theorem ap_tgT_lst {ts : List D → S → Option S} {ds : List D} : tgT ts (.lst ds) s = ts ds s := rfl
@[simp] theorem ap_tgs_nil : tgsNil [] s = some s := rfl
@[simp] theorem ap_tgs_cons {t : D → S → Option S} {ts : List D → S → Option S} {x : D} {ds : List D} : tgsCons t ts (x :: ds) s = (match t x s with
  | some s1 => ts ds s1
  | none => none) := rfl
@[simp] theorem ap_tgTup {is : List Nat} {ds : List D} : tgTup is (.tup ds) s = assignAll is (ds.map .d) s := rfl
@[simp] theorem ap_EnumM {la : S → Res (List D)} : iEnumM la s = (la s).bind fun ds s1 => match ds with
  | [.lst xs] => .ok (enumD 0 xs) s1
  | [.scr xs] => .ok (enumD 0 xs) s1
  | _ => .stuck := rfl
end
theorem cut_lohi' {α : Type} {xs : List α} {k m : Nat} (h : k ≤ m) : cut xs (some (k : Int)) (some (m : Int)) = (xs.drop k).take (m - k) := by
  unfold cut HT.sIx
  have e : ¬ ((k : Int) < 0) := by omega
  have e2 : ¬ ((m : Int) < 0) := by omega
  simp only [e, e2, if_false, Int.toNat_natCast]
  by_cases h1 : k ≤ xs.length
  · rw [Nat.min_eq_left h1]
    by_cases h2 : m ≤ xs.length
    · rw [Nat.min_eq_left h2]
    · rw [Nat.min_eq_right (by omega), List.take_of_length_le (by rw [List.length_drop]; omega), List.take_of_length_le (by rw [List.length_drop]; omega)]
  · rw [Nat.min_eq_right (by omega), Nat.min_eq_right (by omega), List.drop_eq_nil_of_le (Nat.le_refl _), List.drop_eq_nil_of_le (by omega)]
    simp
theorem cut_lo' {α : Type} {xs : List α} {k : Nat} : cut xs (some (k : Int)) none = xs.drop k := by
  unfold cut HT.sIx
  have e : ¬ ((k : Int) < 0) := by omega
  simp only [e, if_false, Int.toNat_natCast]
  by_cases h1 : k ≤ xs.length
  · rw [Nat.min_eq_left h1, List.take_of_length_le]
    rw [List.length_drop]
    omega
  · rw [Nat.min_eq_right (by omega), List.drop_eq_nil_of_le (Nat.le_refl _), List.drop_eq_nil_of_le (by omega)]
    simp
/-- a comprehension with a condition -/
theorem compGo_flt {ι : Type} {v : Nat} {e : M} {cond : S → Res Bool} {env : List Slot} {gl : List MObj} (hv : v < env.length) (a b : ι → D) (p : ι → Bool) : ∀ (l : List ι) (acc : List D), acc.length + l.length ≤ sizeLine →
    (∀ i ∈ l, cond ⟨env.set v (.val (a i)), gl⟩ = .ok (p i) ⟨env.set v (.val (a i)), gl⟩ ∧ (p i = true → mLeak e ⟨env.set v (.val (a i)), gl⟩ = .ok (b i) ⟨env.set v (.val (a i)), gl⟩)) →
    compGo [v] (tgName v) cond (mLeak e) (l.map a) acc ⟨env.set v .none, gl⟩ = some (acc ++ (l.filter p).map b, ⟨env.set v .none, gl⟩)
  | [], acc, _, _ => by simp [compGo]
  | i :: l, acc, hl, he => by
    obtain ⟨c1, e1⟩ := he i List.mem_cons_self
    have hl' : acc.length < sizeLine := by simp only [List.length_cons] at hl; omega
    have ta : tgName v (a i) ⟨env.set v .none, gl⟩ = some ⟨env.set v (.val (a i)), gl⟩ := by
      rw [ap_tgName, as_d (by simpa using hv), List.set_set]
    rw [List.map_cons]
    unfold compGo
    rw [ta]
    simp only [c1]
    by_cases h : p i = true
    · have e2 := compGo_flt hv a b p l (acc ++ [b i]) (by simp only [List.length_append, List.length_cons, List.length_nil] at hl ⊢; omega) fun j m => he j (List.mem_cons_of_mem _ m)
      simp only [h, if_true, e1 h, hl']
      show compGo [v] (tgName v) cond (mLeak e) (l.map a) (acc ++ [b i]) ⟨(env.set v (.val (a i))).set v .none, gl⟩ = _
      rw [List.set_set, e2, List.filter_cons_of_pos h]
      simp
    · have e2 := compGo_flt hv a b p l acc (by simp only [List.length_cons] at hl ⊢; omega) fun j m => he j (List.mem_cons_of_mem _ m)
      simp only [h, if_false]
      show compGo [v] (tgName v) cond (mLeak e) (l.map a) acc ⟨(env.set v (.val (a i))).set v .none, gl⟩ = _
      rw [List.set_set, e2, List.filter_cons_of_neg h]
theorem comp_flt {ι : Type} {v : Nat} {e : M} {cond : S → Res Bool} {env : List Slot} {gl : List MObj} {it : S → Res (List D)} {s0 : S} (l : List ι) (a b : ι → D) (p : ι → Bool) (hi : it s0 = .ok (l.map a) ⟨env, gl⟩) (hv : v < env.length) (ho : noOwn env [v] = true) (hl : l.length ≤ 1000000)
    (he : ∀ i ∈ l, cond ⟨env.set v (.val (a i)), gl⟩ = .ok (p i) ⟨env.set v (.val (a i)), gl⟩ ∧ (p i = true → mLeak e ⟨env.set v (.val (a i)), gl⟩ = .ok (b i) ⟨env.set v (.val (a i)), gl⟩)) :
    mComp [v] it (tgName v) cond e s0 = .ok (.new (.lst ((l.filter p).map b))) ⟨env, gl⟩ := by
  have h1 := compGo_flt hv a b p l [] (by rw [List.length_nil, Nat.zero_add]; exact szN _ hl) he
  rw [ap_Comp, hi, Res.bind_ok, if_pos ho]
  show (match compGo [v] (tgName v) cond (mLeak e) (l.map a) [] ⟨env.set v .none, gl⟩ with | some (acc, s2) => Res.ok (RV.new (.lst acc)) ⟨restE env s2.env [v], s2.gl⟩ | none => .stuck) = _
  rw [h1]
  show Res.ok (RV.new (.lst ([] ++ (l.filter p).map b))) (⟨restE env (env.set v .none) [v], gl⟩ : S) = _
  rw [restE_one hv, List.nil_append]
end MI
/-! # Equations to run mirrors of classes -/
namespace MI
open PySem PySem.Spec PyProof.Rows L2
section
variable {s : S} {e : List Slot} {gl : List MObj} {o m : M} {c f : Str} {n i : Nat} {fs : List (Str × D)}
@[simp] theorem insOf_gl : insOf c ⟨e, gl⟩ (.gl n) = (match gl[n]? with | some (.ins c' fs) => if c' = c then some fs else none | _ => none) := rfl
@[simp] theorem locOf_ref : locOf (.d (.ref n)) = some (.gl n) := rfl
@[simp] theorem ap_Fld : mFld c f o s = (o s).bind fun r s1 => match locOf r with
  | some l => (match insOf c s1 l with
    | some fs => (match fs.lookup f with
      | some d => .ok (.d d) s1
      | none => .stuck)
    | none => .stuck)
  | none => .stuck := rfl
@[simp] theorem ap_SetFld : mSetFld c f o m s = (mLeak m s).bind fun d s1 => (o s1).bind fun r s2 => match locOf r with
  | some l => (match insOf c s2 l with
    | some fs => if fs.length < 1000 then .ok .nx (setCell s2 l (.ins c (putD f d fs))) else .stuck
    | none => .stuck)
  | none => .stuck := rfl
@[simp] theorem ap_AugFld {op : Int → Int → Int} : mAugFld c f op o m s = (o s).bind fun r s1 => match locOf r with
  | some l => (match insOf c s1 l with
    | some fs => (match fs.lookup f with
      | some (.int i) => (mLeak m s1).bind fun d s2 => (match d, insOf c s2 l with
        | .int j, some fs2 => if fs2.length < 1000 then .ok .nx (setCell s2 l (.ins c (putD f (.int (op i j)) fs2))) else .stuck
        | _, _ => .stuck)
      | _ => .stuck)
    | none => .stuck)
  | none => .stuck := rfl
@[simp] theorem ap_UnpF {t : List D → S → Option S} : mUnpF t m s = (mLeak m s).bind fun d s1 => match d with
  | .tup ds => (match t ds s1 with
    | some s2 => .ok .nx s2
    | none => .stuck)
  | _ => .stuck := by
  unfold mUnpF
  cases mLeak m s <;> rfl
@[simp] theorem ap_tgFld {d : D} : tgFld c f i d ⟨e, gl⟩ = (match e[i]? with
  | some (.val (.ref n)) => (match insOf c ⟨e, gl⟩ (.gl n) with
    | some fs => if fs.length < 1000 then some (setCell ⟨e, gl⟩ (.gl n) (.ins c (putD f d fs))) else none
    | none => none)
  | _ => none) := rfl
@[simp] theorem ap_Meth {fm : Fm} {a : S → Res (List D)} {mm : Str} : mMeth c mm fm o a s = (o s).bind fun r s1 => match r with
  | .d (.ref n) => (match insOf c s1 (.gl n) with
    | some fs => (match fs.lookup mm with
      | none => (a s1).bind fun ds s2 => (match fm (.ref n :: ds) s2.gl with
        | .ok d gl => .ok (.d d) { s2 with gl := gl }
        | .exc x p gl => .exc x p { s2 with gl := gl }
        | .stuck => .stuck)
      | some _ => .stuck)
    | none => .stuck)
  | _ => .stuck := rfl
@[simp] theorem ap_Make {fm : Fm} {a : S → Res (List D)} : mMake c fm a s = (a s).bind fun ds s1 => match fm (.ref s1.gl.length :: ds) (s1.gl ++ [.ins c []]) with
  | .ok .non gl => .ok (.d (.ref s1.gl.length)) { s1 with gl := gl }
  | .exc x p gl => .exc x p { s1 with gl := gl }
  | _ => .stuck := rfl
end
theorem set_lt {gl : List MObj} {i : Nat} {o : MObj} (h : gl[i]? = some o) : i < gl.length := by
  rcases Nat.lt_or_ge i gl.length with z | z
  · exact z
  · rw [List.getElem?_eq_none z] at h; cases h
theorem set_at {gl : List MObj} {i : Nat} {o o' : MObj} (h : gl[i]? = some o) : (gl.set i o')[i]? = some o' := by
  rw [List.getElem?_set_self (set_lt h)]
theorem atI_get {xs : List D} {k : Nat} {x : D} (h : xs[k]? = some x) : atI xs (k : Int) = some x := by
  have hl := (List.getElem?_eq_some_iff.mp h).1
  unfold atI ixN
  rw [if_pos (by omega), if_pos (by omega)]
  simpa using h
end MI
namespace K82
open PySem PySem.Spec PyProof.Rows L2 MI
abbrev tp (i : Nat) : Stmt := PySem.Challenge.pw_postingstold_k82_whole_snippets.main.body.getD i (.Pass ⟨0, 0, 0, 0⟩)
abbrev mt (i j : Nat) : Stmt := inClass (tp i) j
structure Fx (P : Program) (K : PySem.W.Frag) (mg : Str → Option Value) : Prop where
  v_DIGITS : GStr mg "DIGITS" "0123456789"
  v_SMALL : GStr mg "SMALL" "abcdefghijklmnopqrstuvwxyz"
  d_is_word_sign : DefM K mg "is_word_sign" (defArgs (tp 3)) (defBody (tp 3)) (defScope (tp 3))
  g_len : mg "len" = none
  g_enumerate : mg "enumerate" = none
  d_spans_in : DefM K mg "spans_in" (defArgs (tp 4)) (defBody (tp 4)) (defScope (tp 4))
  d_words_in : DefM K mg "words_in" (defArgs (tp 5)) (defBody (tp 5)) (defScope (tp 5))
  d_turned_word : DefM K mg "turned_word" (defArgs (tp 7)) (defBody (tp 7)) (defScope (tp 7))
  d_term_of : DefM K mg "term_of" (defArgs (tp 8)) (defBody (tp 8)) (defScope (tp 8))
  d_terms_in : DefM K mg "terms_in" (defArgs (tp 9)) (defBody (tp 9)) (defScope (tp 9))
  g_sorted : mg "sorted" = none
  g_set : mg "set" = none
  g_tuple : mg "tuple" = none
  d_wish_terms : DefM K mg "wish_terms" (defArgs (tp 11)) (defBody (tp 11)) (defScope (tp 11))
  d_worth_in : DefM K mg "worth_in" (defArgs (tp 13)) (defBody (tp 13)) (defScope (tp 13))
  g_range : mg "range" = none
  g_min : mg "min" = none
  d_best_of_stretch : DefM K mg "best_of_stretch" (defArgs (tp 14)) (defBody (tp 14)) (defScope (tp 14))
  d_best_window : DefM K mg "best_window" (defArgs (tp 15)) (defBody (tp 15)) (defScope (tp 15))
  d_snippet_parts : DefM K mg "snippet_parts" (defArgs (tp 21)) (defBody (tp 21)) (defScope (tp 21))
  v_OPEN : GStr mg "OPEN" "["
  v_SHUT : GStr mg "SHUT" "]"
  d_told_parts : DefM K mg "told_parts" (defArgs (tp 22)) (defBody (tp 22)) (defScope (tp 22))
  v_AHEAD : GStr mg "AHEAD" ".. "
  v_BEHIND : GStr mg "BEHIND" " .."
  d_snippet : DefM K mg "snippet" (defArgs (tp 23)) (defBody (tp 23)) (defScope (tp 23))
  d_read_parts : DefM K mg "read_parts" (defArgs (tp 24)) (defBody (tp 24)) (defScope (tp 24))
  d_read_snippet : DefM K mg "read_snippet" (defArgs (tp 25)) (defBody (tp 25)) (defScope (tp 25))
  g_list : mg "list" = none
  d__law_box : DefM K mg "_law_box" (defArgs (tp 27)) (defBody (tp 27)) (defScope (tp 27))
  g_int : mg "int" = none
  d__law_load : DefM K mg "_law_load" (defArgs (tp 28)) (defBody (tp 28)) (defScope (tp 28))
  d__law_draw : DefM K mg "_law_draw" (defArgs (tp 29)) (defBody (tp 29)) (defScope (tp 29))
  g_isinstance : mg "isinstance" = none
  g_str : mg "str" = none
  g_bool : mg "bool" = none
  g_all : mg "all" = none
  d__law_same : DefM K mg "_law_same" (defArgs (tp 30)) (defBody (tp 30)) (defScope (tp 30))
  d__law_rules : DefM K mg "_law_rules" (defArgs (tp 31)) (defBody (tp 31)) (defScope (tp 31))
  d__law_word : DefM K mg "_law_word" (defArgs (tp 32)) (defBody (tp 32)) (defScope (tp 32))
  d__law_text : DefM K mg "_law_text" (defArgs (tp 33)) (defBody (tp 33)) (defScope (tp 33))
  d__law_pieces : DefM K mg "_law_pieces" (defArgs (tp 34)) (defBody (tp 34)) (defScope (tp 34))
  d__law_term : DefM K mg "_law_term" (defArgs (tp 35)) (defBody (tp 35)) (defScope (tp 35))
  d__law_terms : DefM K mg "_law_terms" (defArgs (tp 36)) (defBody (tp 36)) (defScope (tp 36))
  g_max : mg "max" = none
  d__law_snippet : DefM K mg "_law_snippet" (defArgs (tp 37)) (defBody (tp 37)) (defScope (tp 37))
  d__law_parts : DefM K mg "_law_parts" (defArgs (tp 38)) (defBody (tp 38)) (defScope (tp 38))
  d_law : DefM K mg "law" (defArgs (tp 39)) (defBody (tp 39)) (defScope (tp 39))
noncomputable section
variable {P : Program} {w : World} {K : PySem.W.Frag} {mg : Str → Option Value} {base : Heap}
theorem sc_is_word_sign : FnScope ["sign"] ["sign"] (defScope (tp 3)) := sc_of (by decide +kernel)
def b_is_word_sign : S → Res Out := (mRet (mOrV (mBin (opInC false) (mVar 0) (mC (.str "abcdefghijklmnopqrstuvwxyz"))) (mBin (opInC false) (mVar 0) (mC (.str "0123456789")))))
def f_is_word_sign : Fm := mDef 1 1 b_is_word_sign
theorem F_is_word_sign (c : Fx P K mg) : FnM P w K mg base 1 "is_word_sign" ["sign"] f_is_word_sign := by
  refine fnM (N := ["sign"]) (m := b_is_word_sign) c.d_is_word_sign sc_is_word_sign (by decide) (fun _ _ _ _ _ _ us hl => match us, hl with | [_], _ => rfl) fun f cdv A outer s H E hr => ?_
  have nd := (sc_is_word_sign).nd
  exact (mss_one (ms_ret (me_or (me_inC (me_var (i := 0)) (me_gstr c.v_SMALL (by rfl)) (by rfl)) (me_one (me_inC (me_var (i := 0)) (me_gstr c.v_DIGITS (by rfl)) (by rfl))))))
theorem sc_spans_in : FnScope ["text", "found", "first", "place", "sign"] ["text"] (defScope (tp 4)) := sc_of (by decide +kernel)
def l_spans_in_1 : S → Res Out := (mSeq (mIfS (mAndT (mTru (mCall f_is_word_sign (mACons (mVar 4) mANil))) (mBl (mBin (opIsN false) (mVar 2) (mC .non)))) (mSet 2 (mVar 3)) mNx) (mIfS (mAndT (mNotT (mTru (mCall f_is_word_sign (mACons (mVar 4) mANil)))) (mBl (mBin (opIsN true) (mVar 2) (mC .non)))) (mSeq (mExpr (mLm1 fAppend (mVar 1) (mTup (mACons (mVar 2) (mACons (mVar 3) mANil))))) (mSet 2 (mC .non))) mNx))
def b_spans_in : S → Res Out := (mSeq (mParN [1, 2] (mRCons (mLst mANil) (mRCons (mC .non) mRNil))) (mSeq (mFor (iEnumT (mACons (mVar 0) mANil)) (tgTup [3, 4]) l_spans_in_1) (mRet (mBin opAdd (mVar 1) (mIf (mBl (mBin (opIsN true) (mVar 2) (mC .non))) (mLst (mACons (mTup (mACons (mVar 2) (mACons (mFn1 fLen (mVar 0)) mANil))) mANil)) (mLst mANil))))))
def f_spans_in : Fm := mDef 1 5 b_spans_in
theorem F_spans_in (c : Fx P K mg) : FnM P w K mg base 2 "spans_in" ["text"] f_spans_in := by
  refine fnM (N := ["text", "found", "first", "place", "sign"]) (m := b_spans_in) c.d_spans_in sc_spans_in (by decide) (fun _ _ _ _ _ _ us hl => match us, hl with | [_], _ => rfl) fun f cdv A outer s H E hr => ?_
  have nd := (sc_spans_in).nd
  exact (mss_cons (ms_par (i := 1) (j := 2) (by rfl) nd (mr_cons (me_lst ma_nil) (mr_cons me_non mr_nil))) (mss_cons (ms_for owns (by rfl) (mi_enumT (ma_cons (me_var (i := 0)) ma_nil) (by rfl) c.g_enumerate) (mg_tup (by rfl) (mgs_cons (i := 3) (mgs_cons (i := 4) mgs_nil nd) nd)) (mss_cons (ms_if (mt_w (mw_and (mt_val (me_fn (F_is_word_sign c) hr (by decide) (by rfl) takesC (ma_cons (me_var (i := 4)) ma_nil))) (mw_and1 (mt_cmp op_isN os_isN (me_var (i := 2)) me_non (nomark _))))) (mss_one (ms_set (i := 2) (me_var (i := 3)) nd)) mss_nil) (mss_one (ms_if (mt_w (mw_and (mt_not (mt_val (me_fn (F_is_word_sign c) hr (by decide) (by rfl) takesC (ma_cons (me_var (i := 4)) ma_nil)))) (mw_and1 (mt_cmp op_notN os_notN (me_var (i := 2)) me_non (nomark _))))) (mss_cons (ms_expr (me_append (me_var (i := 1)) (me_tup (ma_cons (me_var (i := 2)) (ma_cons (me_var (i := 3)) ma_nil))))) (mss_one (ms_set (i := 2) me_non nd))) mss_nil)))) (mss_one (ms_ret (me_add (me_var (i := 1)) (me_if (mt_cmp op_notN os_notN (me_var (i := 2)) me_non (nomark _)) (me_lst (ma_cons (me_tup (ma_cons (me_var (i := 2)) (ma_cons (me_len (me_var (i := 0)) (by rfl) c.g_len) ma_nil))) ma_nil)) (me_lst ma_nil)))))))
theorem sc_words_in : FnScope ["text", "first", "last"] ["text"] (defScope (tp 5)) := sc_of (by decide +kernel)
def e_words_in_1 : M := (mSlice (mVar 0) (mPart (mVar 1)) (mPart (mVar 2)))
def b_words_in : S → Res Out := (mRet (mComp [1, 2] (iSeq (mCall f_spans_in (mACons (mVar 0) mANil))) (tgTup [1, 2]) mYes e_words_in_1))
def f_words_in : Fm := mDef 1 3 b_words_in
theorem F_words_in (c : Fx P K mg) : FnM P w K mg base 3 "words_in" ["text"] f_words_in := by
  refine fnM (N := ["text", "first", "last"]) (m := b_words_in) c.d_words_in sc_words_in (by decide) (fun _ _ _ _ _ _ us hl => match us, hl with | [_], _ => rfl) fun f cdv A outer s H E hr => ?_
  have nd := (sc_words_in).nd
  exact (mss_one (ms_ret (me_comp (by rfl) nd (mi_seq (me_fn (F_spans_in c) hr (by decide) (by rfl) takesC (ma_cons (me_var (i := 0)) ma_nil))) (blk_of (own := [("first", 1), ("last", 2)]) (by rfl)) mgk_tup (by decide) (fun _ _ _ _ _ => (mg_tup (by rfl) (mgs_cons (i := 1) (mgs_cons (i := 2) mgs_nil nd) nd)).pg) (fun _ _ _ _ _ => mts_nil) (fun _ _ _ _ _ => (me_slice (me_var (i := 0)) (mo_some (me_var (i := 1))) (mo_some (me_var (i := 2))))))))
theorem sc_turned_word : FnScope ["endings", "word", "ending", "other", "least", "stem"] ["endings", "word"] (defScope (tp 7)) := sc_of (by decide +kernel)
def l_turned_word_1 : S → Res Out := (mSeq (mSet 5 (mBin opSub (mFn1 fLen (mVar 1)) (mFn1 fLen (mVar 2)))) (mIfS (mAndT (mBl (mBin opGe (mVar 5) (mVar 4))) (mBl (mBin (opEq false) (mSlice (mVar 1) (mPart (mVar 5)) mNoPart) (mVar 2)))) (mRet (mBin opAdd (mSlice (mVar 1) mNoPart (mPart (mVar 5))) (mVar 3))) mNx))
def b_turned_word : S → Res Out := (mSeq (mFor (iSeq (mVar 0)) (tgTup [2, 3, 4]) l_turned_word_1) (mRet (mVar 1)))
def f_turned_word : Fm := mDef 2 6 b_turned_word
theorem F_turned_word (c : Fx P K mg) : FnM P w K mg base 1 "turned_word" ["endings", "word"] f_turned_word := by
  refine fnM (N := ["endings", "word", "ending", "other", "least", "stem"]) (m := b_turned_word) c.d_turned_word sc_turned_word (by decide) (fun _ _ _ _ _ _ us hl => match us, hl with | [_, _], _ => rfl) fun f cdv A outer s H E hr => ?_
  have nd := (sc_turned_word).nd
  exact (mss_cons (ms_for owns (by rfl) (mi_seq (me_var (i := 0))) (mg_tup (by rfl) (mgs_cons (i := 2) (mgs_cons (i := 3) (mgs_cons (i := 4) mgs_nil nd) nd) nd)) (mss_cons (ms_set (i := 5) (me_sub (me_len (me_var (i := 1)) (by rfl) c.g_len) (me_len (me_var (i := 2)) (by rfl) c.g_len)) nd) (mss_one (ms_if (mt_w (mw_and (mt_cmp or_ge os_ge (me_var (i := 5)) (me_var (i := 4)) (nomark _)) (mw_and1 (mt_cmp (op_eqM hr.units) os_eq (me_slice (me_var (i := 1)) (mo_some (me_var (i := 5))) mo_none) (me_var (i := 2)) (nomark _))))) (mss_one (ms_ret (me_add (me_slice (me_var (i := 1)) mo_none (mo_some (me_var (i := 5)))) (me_var (i := 3))))) mss_nil)))) (mss_one (ms_ret (me_var (i := 1)))))
theorem sc_term_of : FnScope ["rules", "word"] ["rules", "word"] (defScope (tp 8)) := sc_of (by decide +kernel)
def b_term_of : S → Res Out := (mRet (mIf (mBl (mBin (opIn false) (mVar 1) (mBin opIx (mVar 0) (mC (.int 0))))) (mC .non) (mCall f_turned_word (mACons (mBin opIx (mVar 0) (mC (.int 1))) (mACons (mVar 1) mANil)))))
def f_term_of : Fm := mDef 2 2 b_term_of
theorem F_term_of (c : Fx P K mg) : FnM P w K mg base 2 "term_of" ["rules", "word"] f_term_of := by
  refine fnM (N := ["rules", "word"]) (m := b_term_of) c.d_term_of sc_term_of (by decide) (fun _ _ _ _ _ _ us hl => match us, hl with | [_, _], _ => rfl) fun f cdv A outer s H E hr => ?_
  have nd := (sc_term_of).nd
  exact (mss_one (ms_ret (me_if (mt_cmp (op_inM hr.units) os_in (me_var (i := 1)) (me_ix (me_var (i := 0)) me_int) (by rfl)) me_non (me_fn (F_turned_word c) hr (by decide) (by rfl) takesC (ma_cons (me_ix (me_var (i := 0)) me_int) (ma_cons (me_var (i := 1)) ma_nil))))))
theorem sc_terms_in : FnScope ["rules", "text", "word"] ["rules", "text"] (defScope (tp 9)) := sc_of (by decide +kernel)
def e_terms_in_1 : M := (mCall f_term_of (mACons (mVar 0) (mACons (mVar 2) mANil)))
def b_terms_in : S → Res Out := (mRet (mComp [2] (iSeq (mCall f_words_in (mACons (mVar 1) mANil))) (tgName 2) mYes e_terms_in_1))
def f_terms_in : Fm := mDef 2 3 b_terms_in
theorem F_terms_in (c : Fx P K mg) : FnM P w K mg base 4 "terms_in" ["rules", "text"] f_terms_in := by
  refine fnM (N := ["rules", "text", "word"]) (m := b_terms_in) c.d_terms_in sc_terms_in (by decide) (fun _ _ _ _ _ _ us hl => match us, hl with | [_, _], _ => rfl) fun f cdv A outer s H E hr => ?_
  have nd := (sc_terms_in).nd
  exact (mss_one (ms_ret (me_comp (by rfl) nd (mi_seq (me_fn (F_words_in c) hr (by decide) (by rfl) takesC (ma_cons (me_var (i := 1)) ma_nil))) (blk_of (own := [("word", 2)]) (by rfl)) mgk_name (by decide) (fun _ _ _ _ _ => (mg_name nd).pg) (fun _ _ _ _ _ => mts_nil) (fun _ _ _ _ _ => (me_fn (F_term_of c) hr (by decide) (by rfl) takesB (ma_cons (me_var (i := 0)) (ma_cons (me_var (i := 2)) ma_nil)))))))
theorem sc_wish_terms : FnScope ["rules", "wishes", "terms", "word", "term"] ["rules", "wishes"] (defScope (tp 11)) := sc_of (by decide +kernel)
def c_wish_terms_1 : S → Res Bool := (mBl (mBin (opIsN true) (mVar 4) (mC .non)))
def e_wish_terms_2 : M := (mCall f_term_of (mACons (mVar 0) (mACons (mVar 3) mANil)))
def b_wish_terms : S → Res Out := (mSeq (mSet 2 (mComp [3] (iSeq (mVar 1)) (tgName 3) mYes e_wish_terms_2)) (mRet (mFn1 fTuple (mFn1 fSortedSet (mComp [4] (iSeq (mVar 2)) (tgName 4) c_wish_terms_1 (mVar 4))))))
def f_wish_terms : Fm := mDef 2 5 b_wish_terms
theorem F_wish_terms (c : Fx P K mg) : FnM P w K mg base 3 "wish_terms" ["rules", "wishes"] f_wish_terms := by
  refine fnM (N := ["rules", "wishes", "terms", "word", "term"]) (m := b_wish_terms) c.d_wish_terms sc_wish_terms (by decide) (fun _ _ _ _ _ _ us hl => match us, hl with | [_, _], _ => rfl) fun f cdv A outer s H E hr => ?_
  have nd := (sc_wish_terms).nd
  exact (mss_cons (ms_setComp (i := 2) (by rfl) nd (mi_seq (me_var (i := 1))) (blk_of (own := [("word", 3)]) (by rfl)) mgk_name (by decide) (fun _ _ _ _ _ => (mg_name nd).pg) (fun _ _ _ _ _ => mts_nil) (fun _ _ _ _ _ => (me_fn (F_term_of c) hr (by decide) (by rfl) takesB (ma_cons (me_var (i := 0)) (ma_cons (me_var (i := 3)) ma_nil))))) (mss_one (ms_ret (me_tuple (me_sortedSet (by rfl) (me_comp (by rfl) nd (mi_seq (me_var (i := 2))) (blk_of (own := [("term", 4)]) (by rfl)) mgk_name (by decide) (fun _ _ _ _ _ => (mg_name nd).pg) (fun _ _ _ _ _ => (mts_one (mt_cmp op_notN os_notN (me_var (i := 4)) me_non (nomark _)))) (fun _ _ _ _ _ => (me_var (i := 4)))) (by rfl) c.g_sorted (by rfl) c.g_set) (by rfl) c.g_tuple))))
theorem sc_worth_in : FnScope ["row", "terms", "there", "term"] ["row", "terms"] (defScope (tp 13)) := sc_of (by decide +kernel)
def c_worth_in_1 : S → Res Bool := (mBl (mBin (opIn false) (mVar 3) (mVar 1)))
def b_worth_in : S → Res Out := (mSeq (mSet 2 (mComp [3] (iSeq (mVar 0)) (tgName 3) c_worth_in_1 (mVar 3))) (mRet (mTup (mACons (mFn1 fLenSet (mVar 2)) (mACons (mFn1 fLen (mVar 2)) mANil)))))
def f_worth_in : Fm := mDef 2 4 b_worth_in
theorem F_worth_in (c : Fx P K mg) : FnM P w K mg base 1 "worth_in" ["row", "terms"] f_worth_in := by
  refine fnM (N := ["row", "terms", "there", "term"]) (m := b_worth_in) c.d_worth_in sc_worth_in (by decide) (fun _ _ _ _ _ _ us hl => match us, hl with | [_, _], _ => rfl) fun f cdv A outer s H E hr => ?_
  have nd := (sc_worth_in).nd
  exact (mss_cons (ms_setComp (i := 2) (by rfl) nd (mi_seq (me_var (i := 0))) (blk_of (own := [("term", 3)]) (by rfl)) mgk_name (by decide) (fun _ _ _ _ _ => (mg_name nd).pg) (fun _ _ _ _ _ => (mts_one (mt_cmp (op_inM hr.units) os_in (me_var (i := 3)) (me_var (i := 1)) (by rfl)))) (fun _ _ _ _ _ => (me_var (i := 3)))) (mss_one (ms_ret (me_tup (ma_cons (me_lenSet (by rfl) (me_var (i := 2)) (by rfl) c.g_len (by rfl) c.g_set) (ma_cons (me_len (me_var (i := 2)) (by rfl) c.g_len) ma_nil))))))
theorem sc_best_of_stretch : FnScope ["row", "terms", "stretch", "size", "first", "begin", "end", "width", "best", "worth"] ["row", "terms", "stretch", "size"] (defScope (tp 14)) := sc_of (by decide +kernel)
def l_best_of_stretch_1 : S → Res Out := (mSeq (mSet 9 (mCall f_worth_in (mACons (mSlice (mVar 0) (mPart (mVar 4)) (mPart (mBin opAdd (mVar 4) (mVar 7)))) (mACons (mVar 1) mANil)))) (mIfS (mOrT (mBl (mBin (opIsN false) (mVar 8) (mC .non))) (mBl (mBin opGtX (mVar 9) (mBin opIx (mVar 8) (mC (.int 0)))))) (mSet 8 (mTup (mACons (mVar 9) (mACons (mTup (mACons (mVar 4) (mACons (mBin opAdd (mVar 4) (mVar 7)) mANil))) mANil)))) mNx))
def b_best_of_stretch : S → Res Out := (mSeq (mUnp [5, 6] (mVar 2)) (mSeq (mParN [7, 8] (mRCons (mFn2 minI (mACons (mVar 3) (mACons (mBin opSub (mVar 6) (mVar 5)) mANil))) (mRCons (mC .non) mRNil))) (mSeq (mFor (iRange2 (mACons (mVar 5) (mACons (mBin opAdd (mBin opSub (mVar 6) (mVar 7)) (mC (.int 1))) mANil))) (tgName 4) l_best_of_stretch_1) (mRet (mVar 8)))))
def f_best_of_stretch : Fm := mDef 4 10 b_best_of_stretch
theorem F_best_of_stretch (c : Fx P K mg) : FnM P w K mg base 2 "best_of_stretch" ["row", "terms", "stretch", "size"] f_best_of_stretch := by
  refine fnM (N := ["row", "terms", "stretch", "size", "first", "begin", "end", "width", "best", "worth"]) (m := b_best_of_stretch) c.d_best_of_stretch sc_best_of_stretch (by decide) (fun _ _ _ _ _ _ us hl => match us, hl with | [_, _, _, _], _ => rfl) fun f cdv A outer s H E hr => ?_
  have nd := (sc_best_of_stretch).nd
  exact (mss_cons (ms_unp (by rfl) (me_var (i := 2)) (mgs_cons (i := 5) (mgs_cons (i := 6) mgs_nil nd) nd)) (mss_cons (ms_par (i := 7) (j := 8) (by rfl) nd (mr_cons (me_min2 (by rfl) (ma_cons (me_var (i := 3)) (ma_cons (me_sub (me_var (i := 6)) (me_var (i := 5))) ma_nil)) (by rfl) c.g_min) (mr_cons me_non mr_nil))) (mss_cons (ms_for owns (by rfl) (mi_range2 (ma_cons (me_var (i := 5)) (ma_cons (me_add (me_sub (me_var (i := 6)) (me_var (i := 7))) me_int) ma_nil)) (by rfl) c.g_range) (mg_name nd) (mss_cons (ms_set (i := 9) (me_fn (F_worth_in c) hr (by decide) (by rfl) takesC (ma_cons (me_slice (me_var (i := 0)) (mo_some (me_var (i := 4))) (mo_some (me_add (me_var (i := 4)) (me_var (i := 7))))) (ma_cons (me_var (i := 1)) ma_nil))) nd) (mss_one (ms_if (mt_w (mw_or (mt_cmp op_isN os_isN (me_var (i := 8)) me_non (nomark _)) (mw_or1 (mt_cmp (or_gt.or (op_gtD hr.units)) (os_gt.or os_cmpD) (me_var (i := 9)) (me_ix (me_var (i := 8)) me_int) (nomark _))))) (mss_one (ms_set (i := 8) (me_tup (ma_cons (me_var (i := 9)) (ma_cons (me_tup (ma_cons (me_var (i := 4)) (ma_cons (me_add (me_var (i := 4)) (me_var (i := 7))) ma_nil))) ma_nil))) nd)) mss_nil)))) (mss_one (ms_ret (me_var (i := 8)))))))
theorem sc_best_window : FnScope ["rules", "text", "terms", "size", "row"] ["rules", "text", "terms", "size"] (defScope (tp 15)) := sc_of (by decide +kernel)
def b_best_window : S → Res Out := (mSeq (mSet 4 (mCall f_terms_in (mACons (mVar 0) (mACons (mVar 1) mANil)))) (mRet (mIf (mTru (mVar 4)) (mBin opIx (mCall f_best_of_stretch (mACons (mVar 4) (mACons (mVar 2) (mACons (mTup (mACons (mC (.int 0)) (mACons (mFn1 fLen (mVar 4)) mANil))) (mACons (mVar 3) mANil))))) (mC (.int 1))) (mC .non))))
def f_best_window : Fm := mDef 4 5 b_best_window
theorem F_best_window (c : Fx P K mg) : FnM P w K mg base 5 "best_window" ["rules", "text", "terms", "size"] f_best_window := by
  refine fnM (N := ["rules", "text", "terms", "size", "row"]) (m := b_best_window) c.d_best_window sc_best_window (by decide) (fun _ _ _ _ _ _ us hl => match us, hl with | [_, _, _, _], _ => rfl) fun f cdv A outer s H E hr => ?_
  have nd := (sc_best_window).nd
  exact (mss_cons (ms_set (i := 4) (me_fn (F_terms_in c) hr (by decide) (by rfl) takesC (ma_cons (me_var (i := 0)) (ma_cons (me_var (i := 1)) ma_nil))) nd) (mss_one (ms_ret (me_if (mt_val (me_var (i := 4))) (me_ix (me_fn (F_best_of_stretch c) hr (by decide) (by rfl) takesC (ma_cons (me_var (i := 4)) (ma_cons (me_var (i := 2)) (ma_cons (me_tup (ma_cons me_int (ma_cons (me_len (me_var (i := 4)) (by rfl) c.g_len) ma_nil))) (ma_cons (me_var (i := 3)) ma_nil))))) me_int) me_non))))
theorem sc_snippet_parts : FnScope ["rules", "text", "terms", "window", "plain", "spans", "found", "first", "last", "part"] ["rules", "text", "terms", "window"] (defScope (tp 21)) := sc_of (by decide +kernel)
def c_snippet_parts_1 : S → Res Bool := (mBl (mBin (opEq true) (mBin opIx (mVar 9) (mC (.int 1))) (mC (.str ""))))
def l_snippet_parts_2 : S → Res Out := (mIfS (mBl (mBin (opIn false) (mCall f_term_of (mACons (mVar 0) (mACons (mSlice (mVar 1) (mPart (mVar 7)) (mPart (mVar 8))) mANil))) (mVar 2))) (mSeq (mExpr (mLm1 fExtendA (mVar 6) (mLst (mACons (mTup (mACons (mC (.bl false)) (mACons (mSlice (mVar 1) (mPart (mVar 4)) (mPart (mVar 7))) mANil))) (mACons (mTup (mACons (mC (.bl true)) (mACons (mSlice (mVar 1) (mPart (mVar 7)) (mPart (mVar 8))) mANil))) mANil))))) (mSet 4 (mVar 8))) mNx)
def b_snippet_parts : S → Res Out := (mSeq (mParN [5, 6] (mRCons (mSlice (mCall f_spans_in (mACons (mVar 1) mANil)) (mPart (mBin opIx (mVar 3) (mC (.int 0)))) (mPart (mBin opIx (mVar 3) (mC (.int 1))))) (mRCons (mLst mANil) mRNil))) (mSeq (mSet 4 (mBin opIx (mBin opIx (mVar 5) (mC (.int 0))) (mC (.int 0)))) (mSeq (mFor (iSeq (mVar 5)) (tgTup [7, 8]) l_snippet_parts_2) (mSeq (mExpr (mLm1 fAppend (mVar 6) (mTup (mACons (mC (.bl false)) (mACons (mSlice (mVar 1) (mPart (mVar 4)) (mPart (mBin opIx (mBin opIx (mVar 5) (mFn1 fNeg (mC (.int 1)))) (mC (.int 1))))) mANil))))) (mRet (mFn1 fTuple (mComp [9] (iSeq (mVar 6)) (tgName 9) c_snippet_parts_1 (mVar 9))))))))
def f_snippet_parts : Fm := mDef 4 10 b_snippet_parts
theorem F_snippet_parts (c : Fx P K mg) : FnM P w K mg base 3 "snippet_parts" ["rules", "text", "terms", "window"] f_snippet_parts := by
  refine fnM (N := ["rules", "text", "terms", "window", "plain", "spans", "found", "first", "last", "part"]) (m := b_snippet_parts) c.d_snippet_parts sc_snippet_parts (by decide) (fun _ _ _ _ _ _ us hl => match us, hl with | [_, _, _, _], _ => rfl) fun f cdv A outer s H E hr => ?_
  have nd := (sc_snippet_parts).nd
  exact (mss_cons (ms_par (i := 5) (j := 6) (by rfl) nd (mr_cons (me_slice (me_fn (F_spans_in c) hr (by decide) (by rfl) takesC (ma_cons (me_var (i := 1)) ma_nil)) (mo_some (me_ix (me_var (i := 3)) me_int)) (mo_some (me_ix (me_var (i := 3)) me_int))) (mr_cons (me_lst ma_nil) mr_nil))) (mss_cons (ms_set (i := 4) (me_ix (me_ix (me_var (i := 5)) me_int) me_int) nd) (mss_cons (ms_for owns (by rfl) (mi_seq (me_var (i := 5))) (mg_tup (by rfl) (mgs_cons (i := 7) (mgs_cons (i := 8) mgs_nil nd) nd)) (mss_one (ms_if (mt_cmp (op_inM hr.units) os_in (me_fn (F_term_of c) hr (by decide) (by rfl) takesC (ma_cons (me_var (i := 0)) (ma_cons (me_slice (me_var (i := 1)) (mo_some (me_var (i := 7))) (mo_some (me_var (i := 8)))) ma_nil))) (me_var (i := 2)) (by rfl)) (mss_cons (ms_expr (me_extendA (me_var (i := 6)) (me_lst (ma_cons (me_tup (ma_cons me_bl (ma_cons (me_slice (me_var (i := 1)) (mo_some (me_var (i := 4))) (mo_some (me_var (i := 7)))) ma_nil))) (ma_cons (me_tup (ma_cons me_bl (ma_cons (me_slice (me_var (i := 1)) (mo_some (me_var (i := 7))) (mo_some (me_var (i := 8)))) ma_nil))) ma_nil))))) (mss_one (ms_set (i := 4) (me_var (i := 8)) nd))) mss_nil))) (mss_cons (ms_expr (me_append (me_var (i := 6)) (me_tup (ma_cons me_bl (ma_cons (me_slice (me_var (i := 1)) (mo_some (me_var (i := 4))) (mo_some (me_ix (me_ix (me_var (i := 5)) (me_neg me_int)) me_int))) ma_nil))))) (mss_one (ms_ret (me_tuple (me_comp (by rfl) nd (mi_seq (me_var (i := 6))) (blk_of (own := [("part", 9)]) (by rfl)) mgk_name (by decide) (fun _ _ _ _ _ => (mg_name nd).pg) (fun _ _ _ _ _ => (mts_one (mt_cmp (op_neM hr.units) os_eq (me_ix (me_var (i := 9)) me_int) me_str (nomark _)))) (fun _ _ _ _ _ => (me_var (i := 9)))) (by rfl) c.g_tuple)))))))
theorem sc_told_parts : FnScope ["parts", "wished", "piece"] ["parts"] (defScope (tp 22)) := sc_of (by decide +kernel)
def e_told_parts_1 : M := (mIf (mTru (mVar 1)) (mBin opAdd (mBin opAdd (mC (.str "[")) (mVar 2)) (mC (.str "]"))) (mVar 2))
def b_told_parts : S → Res Out := (mRet (mSm1 fJoin (mC (.str "")) (mComp [1, 2] (iSeq (mVar 0)) (tgTup [1, 2]) mYes e_told_parts_1)))
def f_told_parts : Fm := mDef 1 3 b_told_parts
theorem F_told_parts (c : Fx P K mg) : FnM P w K mg base 1 "told_parts" ["parts"] f_told_parts := by
  refine fnM (N := ["parts", "wished", "piece"]) (m := b_told_parts) c.d_told_parts sc_told_parts (by decide) (fun _ _ _ _ _ _ us hl => match us, hl with | [_], _ => rfl) fun f cdv A outer s H E hr => ?_
  have nd := (sc_told_parts).nd
  exact (mss_one (ms_ret (me_join me_str (me_comp (by rfl) nd (mi_seq (me_var (i := 0))) (blk_of (own := [("wished", 1), ("piece", 2)]) (by rfl)) mgk_tup (by decide) (fun _ _ _ _ _ => (mg_tup (by rfl) (mgs_cons (i := 1) (mgs_cons (i := 2) mgs_nil nd) nd)).pg) (fun _ _ _ _ _ => mts_nil) (fun _ _ _ _ _ => (me_if (mt_val (me_var (i := 1))) (me_add (me_add (me_gstr c.v_OPEN (by rfl)) (me_var (i := 2))) (me_gstr c.v_SHUT (by rfl))) (me_var (i := 2))))))))
theorem sc_snippet : FnScope ["rules", "text", "wishes", "size", "terms", "window", "told"] ["rules", "text", "wishes", "size"] (defScope (tp 23)) := sc_of (by decide +kernel)
def b_snippet : S → Res Out := (mSeq (mSet 4 (mCall f_wish_terms (mACons (mVar 0) (mACons (mVar 2) mANil)))) (mSeq (mSet 5 (mCall f_best_window (mACons (mVar 0) (mACons (mVar 1) (mACons (mVar 4) (mACons (mVar 3) mANil)))))) (mSeq (mIfS (mBl (mBin (opIsN false) (mVar 5) (mC .non))) (mRet (mC (.str ""))) mNx) (mSeq (mSet 6 (mCall f_told_parts (mACons (mCall f_snippet_parts (mACons (mVar 0) (mACons (mVar 1) (mACons (mVar 4) (mACons (mVar 5) mANil))))) mANil))) (mRet (mBin opAdd (mBin opAdd (mIf (mBl (mBin opGt (mBin opIx (mVar 5) (mC (.int 0))) (mC (.int 0)))) (mC (.str ".. ")) (mC (.str ""))) (mVar 6)) (mIf (mBl (mBin opLt (mBin opIx (mVar 5) (mC (.int 1))) (mFn1 fLen (mCall f_spans_in (mACons (mVar 1) mANil))))) (mC (.str " ..")) (mC (.str "")))))))))
def f_snippet : Fm := mDef 4 7 b_snippet
theorem F_snippet (c : Fx P K mg) : FnM P w K mg base 6 "snippet" ["rules", "text", "wishes", "size"] f_snippet := by
  refine fnM (N := ["rules", "text", "wishes", "size", "terms", "window", "told"]) (m := b_snippet) c.d_snippet sc_snippet (by decide) (fun _ _ _ _ _ _ us hl => match us, hl with | [_, _, _, _], _ => rfl) fun f cdv A outer s H E hr => ?_
  have nd := (sc_snippet).nd
  exact (mss_cons (ms_set (i := 4) (me_fn (F_wish_terms c) hr (by decide) (by rfl) takesC (ma_cons (me_var (i := 0)) (ma_cons (me_var (i := 2)) ma_nil))) nd) (mss_cons (ms_set (i := 5) (me_fn (F_best_window c) hr (by decide) (by rfl) takesC (ma_cons (me_var (i := 0)) (ma_cons (me_var (i := 1)) (ma_cons (me_var (i := 4)) (ma_cons (me_var (i := 3)) ma_nil))))) nd) (mss_cons (ms_if (mt_cmp op_isN os_isN (me_var (i := 5)) me_non (nomark _)) (mss_one (ms_ret me_str)) mss_nil) (mss_cons (ms_set (i := 6) (me_fn (F_told_parts c) hr (by decide) (by rfl) takesC (ma_cons (me_fn (F_snippet_parts c) hr (by decide) (by rfl) takesC (ma_cons (me_var (i := 0)) (ma_cons (me_var (i := 1)) (ma_cons (me_var (i := 4)) (ma_cons (me_var (i := 5)) ma_nil))))) ma_nil)) nd) (mss_one (ms_ret (me_add (me_add (me_if (mt_cmp or_gt os_gt (me_ix (me_var (i := 5)) me_int) me_int (nomark _)) (me_gstr c.v_AHEAD (by rfl)) me_str) (me_var (i := 6))) (me_if (mt_cmp or_lt os_lt (me_ix (me_var (i := 5)) me_int) (me_len (me_fn (F_spans_in c) hr (by decide) (by rfl) takesC (ma_cons (me_var (i := 1)) ma_nil)) (by rfl) c.g_len) (nomark _)) (me_gstr c.v_BEHIND (by rfl)) me_str))))))))
theorem sc_read_parts : FnScope ["told", "found", "k", "piece", "wished", "_", "rest", "part"] ["told"] (defScope (tp 24)) := sc_of (by decide +kernel)
def c_read_parts_1 : S → Res Bool := (mBl (mBin (opEq true) (mBin opIx (mVar 7) (mC (.int 1))) (mC (.str ""))))
def l_read_parts_2 : S → Res Out := (mSeq (mUnp [4, 5, 6] (mIf (mBl (mBin opGt (mVar 2) (mC (.int 0)))) (mSm2 fPartition (mVar 3) (mC (.str "]"))) (mTup (mACons (mC (.str "")) (mACons (mC (.str "")) (mACons (mVar 3) mANil)))))) (mExpr (mLm1 fExtendA (mVar 1) (mLst (mACons (mTup (mACons (mC (.bl true)) (mACons (mVar 4) mANil))) (mACons (mTup (mACons (mC (.bl false)) (mACons (mVar 6) mANil))) mANil))))))
def b_read_parts : S → Res Out := (mSeq (mSet 1 (mLst mANil)) (mSeq (mFor (iEnumM (mACons (mSm2 fSplit (mVar 0) (mC (.str "["))) mANil)) (tgTup [2, 3]) l_read_parts_2) (mRet (mFn1 fTuple (mComp [7] (iSeq (mVar 1)) (tgName 7) c_read_parts_1 (mVar 7))))))
def f_read_parts : Fm := mDef 1 8 b_read_parts
theorem F_read_parts (c : Fx P K mg) : FnM P w K mg base 1 "read_parts" ["told"] f_read_parts := by
  refine fnM (N := ["told", "found", "k", "piece", "wished", "_", "rest", "part"]) (m := b_read_parts) c.d_read_parts sc_read_parts (by decide) (fun _ _ _ _ _ _ us hl => match us, hl with | [_], _ => rfl) fun f cdv A outer s H E hr => ?_
  have nd := (sc_read_parts).nd
  exact (mss_cons (ms_set (i := 1) (me_lst ma_nil) nd) (mss_cons (ms_for owns (by rfl) (mi_enum (ma_cons (me_split (me_var (i := 0)) (me_gstr c.v_OPEN (by rfl))) ma_nil) (by rfl) c.g_enumerate) (mg_tup (by rfl) (mgs_cons (i := 2) (mgs_cons (i := 3) mgs_nil nd) nd)) (mss_cons (ms_unp (by rfl) (me_if (mt_cmp or_gt os_gt (me_var (i := 2)) me_int (nomark _)) (me_partition (me_var (i := 3)) (me_gstr c.v_SHUT (by rfl))) (me_tup (ma_cons me_str (ma_cons me_str (ma_cons (me_var (i := 3)) ma_nil))))) (mgs_cons (i := 4) (mgs_cons (i := 5) (mgs_cons (i := 6) mgs_nil nd) nd) nd)) (mss_one (ms_expr (me_extendA (me_var (i := 1)) (me_lst (ma_cons (me_tup (ma_cons me_bl (ma_cons (me_var (i := 4)) ma_nil))) (ma_cons (me_tup (ma_cons me_bl (ma_cons (me_var (i := 6)) ma_nil))) ma_nil)))))))) (mss_one (ms_ret (me_tuple (me_comp (by rfl) nd (mi_seq (me_var (i := 1))) (blk_of (own := [("part", 7)]) (by rfl)) mgk_name (by decide) (fun _ _ _ _ _ => (mg_name nd).pg) (fun _ _ _ _ _ => (mts_one (mt_cmp (op_neM hr.units) os_eq (me_ix (me_var (i := 7)) me_int) me_str (nomark _)))) (fun _ _ _ _ _ => (me_var (i := 7)))) (by rfl) c.g_tuple)))))
theorem sc_read_snippet : FnScope ["told", "piece", "ahead", "behind"] ["told"] (defScope (tp 25)) := sc_of (by decide +kernel)
def b_read_snippet : S → Res Out := (mSeq (mParN [2, 3] (mRCons (mBin (opEq false) (mSlice (mVar 0) mNoPart (mPart (mFn1 fLen (mC (.str ".. "))))) (mC (.str ".. "))) (mRCons (mBin (opEq false) (mSlice (mVar 0) (mPart (mFn1 fNeg (mFn1 fLen (mC (.str " .."))))) mNoPart) (mC (.str " .."))) mRNil))) (mSeq (mSet 1 (mSlice (mVar 0) (mPart (mIf (mTru (mVar 2)) (mFn1 fLen (mC (.str ".. "))) (mC (.int 0)))) (mPart (mBin opSub (mFn1 fLen (mVar 0)) (mIf (mTru (mVar 3)) (mFn1 fLen (mC (.str " .."))) (mC (.int 0))))))) (mRet (mTup (mACons (mVar 2) (mACons (mCall f_read_parts (mACons (mVar 1) mANil)) (mACons (mVar 3) mANil)))))))
def f_read_snippet : Fm := mDef 1 4 b_read_snippet
theorem F_read_snippet (c : Fx P K mg) : FnM P w K mg base 2 "read_snippet" ["told"] f_read_snippet := by
  refine fnM (N := ["told", "piece", "ahead", "behind"]) (m := b_read_snippet) c.d_read_snippet sc_read_snippet (by decide) (fun _ _ _ _ _ _ us hl => match us, hl with | [_], _ => rfl) fun f cdv A outer s H E hr => ?_
  have nd := (sc_read_snippet).nd
  exact (mss_cons (ms_par (i := 2) (j := 3) (by rfl) nd (mr_cons (me_eq hr.units (me_slice (me_var (i := 0)) mo_none (mo_some (me_len (me_gstr c.v_AHEAD (by rfl)) (by rfl) c.g_len))) (me_gstr c.v_AHEAD (by rfl))) (mr_cons (me_eq hr.units (me_slice (me_var (i := 0)) (mo_some (me_neg (me_len (me_gstr c.v_BEHIND (by rfl)) (by rfl) c.g_len))) mo_none) (me_gstr c.v_BEHIND (by rfl))) mr_nil))) (mss_cons (ms_set (i := 1) (me_slice (me_var (i := 0)) (mo_some (me_if (mt_val (me_var (i := 2))) (me_len (me_gstr c.v_AHEAD (by rfl)) (by rfl) c.g_len) me_int)) (mo_some (me_sub (me_len (me_var (i := 0)) (by rfl) c.g_len) (me_if (mt_val (me_var (i := 3))) (me_len (me_gstr c.v_BEHIND (by rfl)) (by rfl) c.g_len) me_int)))) nd) (mss_one (ms_ret (me_tup (ma_cons (me_var (i := 2)) (ma_cons (me_fn (F_read_parts c) hr (by decide) (by rfl) takesC (ma_cons (me_var (i := 1)) ma_nil)) (ma_cons (me_var (i := 3)) ma_nil))))))))
theorem sc__law_box : FnScope ["script"] ["script"] (defScope (tp 27)) := sc_of (by decide +kernel)
def b__law_box : S → Res Out := (mRet (mAlloc (mLst (mACons (mAlloc (mFn1 fList (mSlice (mVar 0) mNoPart (mPart (mC (.int 63)))))) (mACons (mC (.int 0)) (mACons (mBin opAdd (mC (.int 4711)) (mFn1 fLen (mVar 0))) mANil))))))
def f__law_box : Fm := mDef 1 1 b__law_box
theorem F__law_box (c : Fx P K mg) : FnM P w K mg base 1 "_law_box" ["script"] f__law_box := by
  refine fnM (N := ["script"]) (m := b__law_box) c.d__law_box sc__law_box (by decide) (fun _ _ _ _ _ _ us hl => match us, hl with | [_], _ => rfl) fun f cdv A outer s H E hr => ?_
  have nd := (sc__law_box).nd
  exact (mss_one (ms_ret (me_alloc (me_lst (ma_cons (me_alloc (me_list (me_slice (me_var (i := 0)) mo_none (mo_some me_int)) (by rfl) c.g_list)) (ma_cons me_int (ma_cons (me_add me_int (me_len (me_var (i := 0)) (by rfl) c.g_len)) ma_nil)))))))
theorem sc__law_load : FnScope ["box", "cells", "first", "second", "cell", "size"] ["box"] (defScope (tp 28)) := sc_of (by decide +kernel)
def b__law_load : S → Res Out := (mSeq (mSet 1 (mBin opIx (mVar 0) (mC (.int 0)))) (mSeq (mIfS (mBl (mBin opGt (mFn1 fLen (mVar 1)) (mC (.int 0)))) (mSeq (mSet 4 (mFn1 fInt (mLm1 fPopAt (mVar 1) (mC (.int 0))))) (mSeq (mSet 5 (mIf (mBl (mBin opGe (mVar 4) (mC (.int 0)))) (mBin opMul (mC (.int 2)) (mVar 4)) (mBin opSub (mBin opMul (mFn1 fNeg (mC (.int 2))) (mVar 4)) (mC (.int 1))))) (mSeq (mIfS (mBl (mBin opGe (mVar 5) (mC (.int 1000000000000000000)))) (mRet (mVar 5)) mNx) (mSetIx (mBin opMod (mFn1 fInt (mBin opAdd (mBin opAdd (mBin opMul (mBin opIx (mVar 0) (mC (.int 2))) (mC (.int 69621))) (mBin opMul (mVar 5) (mC (.int 48271)))) (mC (.int 11)))) (mC (.int 2147483647))) (mVar 0) (mC (.int 2)))))) mNx) (mSeq (mSet 2 (mBin opMod (mFn1 fInt (mBin opAdd (mBin opMul (mBin opIx (mVar 0) (mC (.int 2))) (mC (.int 48271))) (mC (.int 17)))) (mC (.int 2147483629)))) (mSeq (mSet 3 (mBin opMod (mFn1 fInt (mBin opAdd (mBin opMul (mVar 2) (mC (.int 69621))) (mC (.int 5)))) (mC (.int 2147483587)))) (mSeq (mSetIx (mBin opMod (mFn1 fInt (mBin opAdd (mBin opMul (mVar 3) (mC (.int 40692))) (mC (.int 3)))) (mC (.int 2147483563))) (mVar 0) (mC (.int 2))) (mRet (mBin opAdd (mBin opAdd (mBin opMul (mVar 2) (mC (.int 4611686014132420609))) (mBin opMul (mVar 3) (mC (.int 2147483647)))) (mBin opIx (mVar 0) (mC (.int 2))))))))))
def f__law_load : Fm := mDef 1 6 b__law_load
theorem F__law_load (c : Fx P K mg) : FnM P w K mg base 1 "_law_load" ["box"] f__law_load := by
  refine fnM (N := ["box", "cells", "first", "second", "cell", "size"]) (m := b__law_load) c.d__law_load sc__law_load (by decide) (fun _ _ _ _ _ _ us hl => match us, hl with | [_], _ => rfl) fun f cdv A outer s H E hr => ?_
  have nd := (sc__law_load).nd
  exact (mss_cons (ms_set (i := 1) (me_ix (me_var (i := 0)) me_int) nd) (mss_cons (ms_if (mt_cmp or_gt os_gt (me_len (me_var (i := 1)) (by rfl) c.g_len) me_int (nomark _)) (mss_cons (ms_set (i := 4) (me_toInt (me_popAt (me_var (i := 1)) me_int) (by rfl) c.g_int) nd) (mss_cons (ms_set (i := 5) (me_if (mt_cmp or_ge os_ge (me_var (i := 4)) me_int (nomark _)) (me_mul me_int (me_var (i := 4))) (me_sub (me_mul (me_neg me_int) (me_var (i := 4))) me_int)) nd) (mss_cons (ms_if (mt_cmp or_ge os_ge (me_var (i := 5)) me_int (nomark _)) (mss_one (ms_ret (me_var (i := 5)))) mss_nil) (mss_one (ms_setIx (me_mod (me_toInt (me_add (me_add (me_mul (me_ix (me_var (i := 0)) me_int) me_int) (me_mul (me_var (i := 5)) me_int)) me_int) (by rfl) c.g_int) me_int) (me_var (i := 0)) me_int))))) mss_nil) (mss_cons (ms_set (i := 2) (me_mod (me_toInt (me_add (me_mul (me_ix (me_var (i := 0)) me_int) me_int) me_int) (by rfl) c.g_int) me_int) nd) (mss_cons (ms_set (i := 3) (me_mod (me_toInt (me_add (me_mul (me_var (i := 2)) me_int) me_int) (by rfl) c.g_int) me_int) nd) (mss_cons (ms_setIx (me_mod (me_toInt (me_add (me_mul (me_var (i := 3)) me_int) me_int) (by rfl) c.g_int) me_int) (me_var (i := 0)) me_int) (mss_one (ms_ret (me_add (me_add (me_mul (me_var (i := 2)) me_int) (me_mul (me_var (i := 3)) me_int)) (me_ix (me_var (i := 0)) me_int)))))))))
theorem sc__law_draw : FnScope ["box", "many", "digit"] ["box", "many"] (defScope (tp 29)) := sc_of (by decide +kernel)
def b__law_draw : S → Res Out := (mSeq (mIfS (mBl (mBin opLt (mBin opIx (mVar 0) (mC (.int 1))) (mVar 1))) (mSetIx (mCall f__law_load (mACons (mVar 0) mANil)) (mVar 0) (mC (.int 1))) mNx) (mSeq (mSet 2 (mBin opMod (mFn1 fInt (mBin opIx (mVar 0) (mC (.int 1)))) (mVar 1))) (mSeq (mSetIx (mBin opFdiv (mBin opIx (mVar 0) (mC (.int 1))) (mVar 1)) (mVar 0) (mC (.int 1))) (mRet (mVar 2)))))
def f__law_draw : Fm := mDef 2 3 b__law_draw
theorem F__law_draw (c : Fx P K mg) : FnM P w K mg base 2 "_law_draw" ["box", "many"] f__law_draw := by
  refine fnM (N := ["box", "many", "digit"]) (m := b__law_draw) c.d__law_draw sc__law_draw (by decide) (fun _ _ _ _ _ _ us hl => match us, hl with | [_, _], _ => rfl) fun f cdv A outer s H E hr => ?_
  have nd := (sc__law_draw).nd
  exact (mss_cons (ms_if (mt_cmp or_lt os_lt (me_ix (me_var (i := 0)) me_int) (me_var (i := 1)) (nomark _)) (mss_one (ms_setIx (me_fn (F__law_load c) hr (by decide) (by rfl) takesC (ma_cons (me_var (i := 0)) ma_nil)) (me_var (i := 0)) me_int)) mss_nil) (mss_cons (ms_set (i := 2) (me_mod (me_toInt (me_ix (me_var (i := 0)) me_int) (by rfl) c.g_int) (me_var (i := 1))) nd) (mss_cons (ms_setIx (me_fdiv (me_ix (me_var (i := 0)) me_int) (me_var (i := 1))) (me_var (i := 0)) me_int) (mss_one (ms_ret (me_var (i := 2)))))))
theorem sc__law_same : FnScope ["a", "b", "k"] ["a", "b"] (defScope (tp 30)) := sc_of (by decide +kernel)
def e__law_same_1 (fself : Fm) : M := (mCall fself (mACons (mBin opIx (mVar 0) (mVar 2)) (mACons (mBin opIx (mVar 1) (mVar 2)) mANil)))
def b__law_same (fself : Fm) : S → Res Out := (mSeq (mIfS (mOrT (mAndT (mTru (mFn1 (fIsi .tup) (mVar 0))) (mTru (mFn1 (fIsi .tup) (mVar 1)))) (mAndT (mTru (mFn1 (fIsi .lst) (mVar 0))) (mTru (mFn1 (fIsi .lst) (mVar 1))))) (mRet (mAndV (mBin (opEq false) (mFn1 fLen (mVar 0)) (mFn1 fLen (mVar 1))) (mFn1 fAll (mComp [2] (iRange1 (mACons (mFn1 fLen (mVar 0)) mANil)) (tgName 2) mYes (e__law_same_1 fself))))) mNx) (mSeq (mIfS (mOrT (mTru (mFn1 (fIsi .bool) (mVar 0))) (mTru (mFn1 (fIsi .bool) (mVar 1)))) (mRet (mAndV (mFn1 (fIsi .bool) (mVar 0)) (mAndV (mFn1 (fIsi .bool) (mVar 1)) (mBin (opEq false) (mVar 0) (mVar 1))))) mNx) (mSeq (mIfS (mOrT (mAndT (mTru (mFn1 (fIsi .int) (mVar 0))) (mTru (mFn1 (fIsi .int) (mVar 1)))) (mAndT (mTru (mFn1 (fIsi .str) (mVar 0))) (mTru (mFn1 (fIsi .str) (mVar 1))))) (mRet (mBin (opEq false) (mVar 0) (mVar 1))) mNx) (mRet (mAndV (mBin (opIsN false) (mVar 0) (mC .non)) (mBin (opIsN false) (mVar 1) (mC .non)))))))
def f__law_same : Nat → Fm
  | 0 => mDef 2 3 fun _ => .stuck
  | k + 1 => mDef 2 3 (b__law_same (f__law_same k))
theorem F__law_same (c : Fx P K mg) : ∀ k : Nat, FnM P w K mg base (1 + k) "_law_same" ["a", "b"] (f__law_same k)
  | 0 => fnM (N := ["a", "b", "k"]) (k := 0) c.d__law_same sc__law_same (by decide) (fun _ _ _ _ _ _ us hl => match us, hl with | [_, _], _ => rfl) fun f cdv A outer s H E hr => mss_stuck
  | k + 1 => by
    have Fself := F__law_same c k
    refine fnM (N := ["a", "b", "k"]) (k := 1 + k) (m := b__law_same (f__law_same k)) c.d__law_same sc__law_same (by decide) (fun _ _ _ _ _ _ us hl => match us, hl with | [_, _], _ => rfl) fun f cdv A outer s H E hr => ?_
    have nd := (sc__law_same).nd
    exact (mss_cons (ms_if (mt_w (mw_or (mt_w (mw_and (mt_val (me_isi (T := .tup) (me_var (i := 0)) (by rfl) c.g_isinstance (by rfl) c.g_tuple (by decide +kernel))) (mw_and1 (mt_val (me_isi (T := .tup) (me_var (i := 1)) (by rfl) c.g_isinstance (by rfl) c.g_tuple (by decide +kernel)))))) (mw_or1 (mt_w (mw_and (mt_val (me_isi (T := .lst) (me_var (i := 0)) (by rfl) c.g_isinstance (by rfl) c.g_list (by decide +kernel))) (mw_and1 (mt_val (me_isi (T := .lst) (me_var (i := 1)) (by rfl) c.g_isinstance (by rfl) c.g_list (by decide +kernel))))))))) (mss_one (ms_ret (me_and (me_eq hr.units (me_len (me_var (i := 0)) (by rfl) c.g_len) (me_len (me_var (i := 1)) (by rfl) c.g_len)) (me_one (me_all (by rfl) (me_comp (by rfl) nd (mi_range1 (ma_cons (me_len (me_var (i := 0)) (by rfl) c.g_len) ma_nil) (by rfl) c.g_range) (blk_of (own := [("k", 2)]) (by rfl)) mgk_name (by decide) (fun _ _ _ _ _ => (mg_name nd).pg) (fun _ _ _ _ _ => mts_nil) (fun _ _ _ _ _ => (me_fn Fself hr (by omega) (by rfl) takesB (ma_cons (me_ix (me_var (i := 0)) (me_var (i := 2))) (ma_cons (me_ix (me_var (i := 1)) (me_var (i := 2))) ma_nil))))) (by rfl) c.g_all))))) mss_nil) (mss_cons (ms_if (mt_w (mw_or (mt_val (me_isi (T := .bool) (me_var (i := 0)) (by rfl) c.g_isinstance (by rfl) c.g_bool (by decide +kernel))) (mw_or1 (mt_val (me_isi (T := .bool) (me_var (i := 1)) (by rfl) c.g_isinstance (by rfl) c.g_bool (by decide +kernel)))))) (mss_one (ms_ret (me_and (me_isi (T := .bool) (me_var (i := 0)) (by rfl) c.g_isinstance (by rfl) c.g_bool (by decide +kernel)) (me_and (me_isi (T := .bool) (me_var (i := 1)) (by rfl) c.g_isinstance (by rfl) c.g_bool (by decide +kernel)) (me_one (me_eq hr.units (me_var (i := 0)) (me_var (i := 1)))))))) mss_nil) (mss_cons (ms_if (mt_w (mw_or (mt_w (mw_and (mt_val (me_isi (T := .int) (me_var (i := 0)) (by rfl) c.g_isinstance (by rfl) c.g_int (by decide +kernel))) (mw_and1 (mt_val (me_isi (T := .int) (me_var (i := 1)) (by rfl) c.g_isinstance (by rfl) c.g_int (by decide +kernel)))))) (mw_or1 (mt_w (mw_and (mt_val (me_isi (T := .str) (me_var (i := 0)) (by rfl) c.g_isinstance (by rfl) c.g_str (by decide +kernel))) (mw_and1 (mt_val (me_isi (T := .str) (me_var (i := 1)) (by rfl) c.g_isinstance (by rfl) c.g_str (by decide +kernel))))))))) (mss_one (ms_ret (me_eq hr.units (me_var (i := 0)) (me_var (i := 1))))) mss_nil) (mss_one (ms_ret (me_and (me_isN (me_var (i := 0))) (me_one (me_isN (me_var (i := 1))))))))))
theorem sc__law_rules : FnScope ["box", "stops", "endings", "word", "one"] ["box"] (defScope (tp 31)) := sc_of (by decide +kernel)
def c__law_rules_1 : S → Res Bool := (mBl (mBin opGt (mCall f__law_draw (mACons (mVar 0) (mACons (mC (.int 3)) mANil))) (mC (.int 0))))
def c__law_rules_2 : S → Res Bool := (mBl (mBin (opEq false) (mCall f__law_draw (mACons (mVar 0) (mACons (mC (.int 2)) mANil))) (mC (.int 0))))
def b__law_rules : S → Res Out := (mSeq (mSet 1 (mFn1 fTuple (mComp [3] (iSeq (mTup (mACons (mC (.str "a1")) (mACons (mC (.str "and")) (mACons (mC (.str "the")) mANil))))) (tgName 3) c__law_rules_2 (mVar 3)))) (mSeq (mSet 2 (mFn1 fTuple (mComp [4] (iSeq (mTup (mACons (mTup (mACons (mC (.str "ies")) (mACons (mC (.str "y")) (mACons (mC (.int 1)) mANil)))) (mACons (mTup (mACons (mC (.str "s")) (mACons (mC (.str "")) (mACons (mC (.int 2)) mANil)))) (mACons (mTup (mACons (mC (.str "ch")) (mACons (mC (.str "")) (mACons (mC (.int 3)) mANil)))) mANil))))) (tgName 4) c__law_rules_1 (mVar 4)))) (mRet (mTup (mACons (mVar 1) (mACons (mVar 2) mANil))))))
def f__law_rules : Fm := mDef 1 5 b__law_rules
theorem F__law_rules (c : Fx P K mg) : FnM P w K mg base 3 "_law_rules" ["box"] f__law_rules := by
  refine fnM (N := ["box", "stops", "endings", "word", "one"]) (m := b__law_rules) c.d__law_rules sc__law_rules (by decide) (fun _ _ _ _ _ _ us hl => match us, hl with | [_], _ => rfl) fun f cdv A outer s H E hr => ?_
  have nd := (sc__law_rules).nd
  exact (mss_cons (ms_set (i := 1) (me_tuple (me_comp (by rfl) nd (mi_seq (me_tup (ma_cons me_str (ma_cons me_str (ma_cons me_str ma_nil))))) (blk_of (own := [("word", 3)]) (by rfl)) mgk_name (by decide) (fun _ _ _ _ _ => (mg_name nd).pg) (fun _ _ _ _ _ => (mts_one (mt_cmp (op_eqM hr.units) os_eq (me_fn (F__law_draw c) hr (by decide) (by rfl) takesB (ma_cons (me_var (i := 0)) (ma_cons me_int ma_nil))) me_int (nomark _)))) (fun _ _ _ _ _ => (me_var (i := 3)))) (by rfl) c.g_tuple) nd) (mss_cons (ms_set (i := 2) (me_tuple (me_comp (by rfl) nd (mi_seq (me_tup (ma_cons (me_tup (ma_cons me_str (ma_cons me_str (ma_cons me_int ma_nil)))) (ma_cons (me_tup (ma_cons me_str (ma_cons me_str (ma_cons me_int ma_nil)))) (ma_cons (me_tup (ma_cons me_str (ma_cons me_str (ma_cons me_int ma_nil)))) ma_nil))))) (blk_of (own := [("one", 4)]) (by rfl)) mgk_name (by decide) (fun _ _ _ _ _ => (mg_name nd).pg) (fun _ _ _ _ _ => (mts_one (mt_cmp or_gt os_gt (me_fn (F__law_draw c) hr (by decide) (by rfl) takesB (ma_cons (me_var (i := 0)) (ma_cons me_int ma_nil))) me_int (nomark _)))) (fun _ _ _ _ _ => (me_var (i := 4)))) (by rfl) c.g_tuple) nd) (mss_one (ms_ret (me_tup (ma_cons (me_var (i := 1)) (ma_cons (me_var (i := 2)) ma_nil)))))))
theorem sc__law_word : FnScope ["box"] ["box"] (defScope (tp 32)) := sc_of (by decide +kernel)
def b__law_word : S → Res Out := (mRet (mBin opIx (mLst (mACons (mC (.str "cat")) (mACons (mC (.str "cats")) (mACons (mC (.str "dog")) (mACons (mC (.str "the")) (mACons (mC (.str "red")) (mACons (mC (.str "a1")) (mACons (mC (.str "catch")) (mACons (mC (.str "dogs")) (mACons (mC (.str "cities")) (mACons (mC (.str "city")) (mACons (mC (.str "and")) (mACons (mC (.str "rod")) mANil))))))))))))) (mCall f__law_draw (mACons (mVar 0) (mACons (mC (.int 12)) mANil)))))
def f__law_word : Fm := mDef 1 1 b__law_word
theorem F__law_word (c : Fx P K mg) : FnM P w K mg base 3 "_law_word" ["box"] f__law_word := by
  refine fnM (N := ["box"]) (m := b__law_word) c.d__law_word sc__law_word (by decide) (fun _ _ _ _ _ _ us hl => match us, hl with | [_], _ => rfl) fun f cdv A outer s H E hr => ?_
  have nd := (sc__law_word).nd
  exact (mss_one (ms_ret (me_ix (me_lst (ma_cons me_str (ma_cons me_str (ma_cons me_str (ma_cons me_str (ma_cons me_str (ma_cons me_str (ma_cons me_str (ma_cons me_str (ma_cons me_str (ma_cons me_str (ma_cons me_str (ma_cons me_str ma_nil))))))))))))) (me_fn (F__law_draw c) hr (by decide) (by rfl) takesC (ma_cons (me_var (i := 0)) (ma_cons me_int ma_nil))))))
theorem sc__law_text : FnScope ["box", "most", "found", "k"] ["box", "most"] (defScope (tp 33)) := sc_of (by decide +kernel)
def l__law_text_1 : S → Res Out := (mSet 2 (mBin opAdd (mBin opAdd (mVar 2) (mBin opIx (mLst (mACons (mC (.str " ")) (mACons (mC (.str ", ")) (mACons (mC (.str "-")) (mACons (mC (.str ". ")) (mACons (mC (.str " ")) mANil)))))) (mCall f__law_draw (mACons (mVar 0) (mACons (mC (.int 5)) mANil))))) (mCall f__law_word (mACons (mVar 0) mANil))))
def b__law_text : S → Res Out := (mSeq (mSet 2 (mC (.str ""))) (mSeq (mFor (iRange1 (mACons (mCall f__law_draw (mACons (mVar 0) (mACons (mBin opAdd (mVar 1) (mC (.int 1))) mANil))) mANil)) (tgName 3) l__law_text_1) (mSeq (mSet 2 (mIf (mAndT (mBl (mBin (opEq false) (mSlice (mVar 2) mNoPart (mPart (mC (.int 1)))) (mC (.str " ")))) (mBl (mBin opGt (mCall f__law_draw (mACons (mVar 0) (mACons (mC (.int 3)) mANil))) (mC (.int 0))))) (mSlice (mVar 2) (mPart (mC (.int 1))) mNoPart) (mVar 2))) (mRet (mBin opAdd (mVar 2) (mIf (mBl (mBin (opEq true) (mVar 2) (mC (.str "")))) (mBin opIx (mLst (mACons (mC (.str "")) (mACons (mC (.str ".")) (mACons (mC (.str " ")) mANil)))) (mCall f__law_draw (mACons (mVar 0) (mACons (mC (.int 3)) mANil)))) (mC (.str ""))))))))
def f__law_text : Fm := mDef 2 4 b__law_text
theorem F__law_text (c : Fx P K mg) : FnM P w K mg base 4 "_law_text" ["box", "most"] f__law_text := by
  refine fnM (N := ["box", "most", "found", "k"]) (m := b__law_text) c.d__law_text sc__law_text (by decide) (fun _ _ _ _ _ _ us hl => match us, hl with | [_, _], _ => rfl) fun f cdv A outer s H E hr => ?_
  have nd := (sc__law_text).nd
  exact (mss_cons (ms_set (i := 2) me_str nd) (mss_cons (ms_for owns (by rfl) (mi_range1 (ma_cons (me_fn (F__law_draw c) hr (by decide) (by rfl) takesC (ma_cons (me_var (i := 0)) (ma_cons (me_add (me_var (i := 1)) me_int) ma_nil))) ma_nil) (by rfl) c.g_range) (mg_name nd) (mss_one (ms_set (i := 2) (me_add (me_add (me_var (i := 2)) (me_ix (me_lst (ma_cons me_str (ma_cons me_str (ma_cons me_str (ma_cons me_str (ma_cons me_str ma_nil)))))) (me_fn (F__law_draw c) hr (by decide) (by rfl) takesC (ma_cons (me_var (i := 0)) (ma_cons me_int ma_nil))))) (me_fn (F__law_word c) hr (by decide) (by rfl) takesC (ma_cons (me_var (i := 0)) ma_nil))) nd))) (mss_cons (ms_set (i := 2) (me_if (mt_w (mw_and (mt_cmp (op_eqM hr.units) os_eq (me_slice (me_var (i := 2)) mo_none (mo_some me_int)) me_str (nomark _)) (mw_and1 (mt_cmp or_gt os_gt (me_fn (F__law_draw c) hr (by decide) (by rfl) takesC (ma_cons (me_var (i := 0)) (ma_cons me_int ma_nil))) me_int (nomark _))))) (me_slice (me_var (i := 2)) (mo_some me_int) mo_none) (me_var (i := 2))) nd) (mss_one (ms_ret (me_add (me_var (i := 2)) (me_if (mt_cmp (op_neM hr.units) os_eq (me_var (i := 2)) me_str (nomark _)) (me_ix (me_lst (ma_cons me_str (ma_cons me_str (ma_cons me_str ma_nil)))) (me_fn (F__law_draw c) hr (by decide) (by rfl) takesC (ma_cons (me_var (i := 0)) (ma_cons me_int ma_nil)))) me_str)))))))
theorem sc__law_pieces : FnScope ["text", "k", "found", "here"] ["text"] (defScope (tp 34)) := sc_of (by decide +kernel)
def l__law_pieces_1 : S → Res Out := (mIfS (mAndT (mBl (mBin opLt (mVar 1) (mFn1 fLen (mVar 0)))) (mBl (mBin (opInC false) (mBin opIx (mVar 0) (mVar 1)) (mC (.str "0123456789abcdefghijklmnopqrstuvwxyz"))))) (mSet 3 (mBin opAdd (mVar 3) (mBin opIx (mVar 0) (mVar 1)))) (mIfS (mBl (mBin (opEq true) (mVar 3) (mC (.str "")))) (mSeq (mExpr (mLm1 fAppend (mVar 2) (mTup (mACons (mBin opSub (mVar 1) (mFn1 fLen (mVar 3))) (mACons (mVar 1) mANil))))) (mSet 3 (mC (.str "")))) mNx))
def b__law_pieces : S → Res Out := (mSeq (mParN [2, 3] (mRCons (mLst mANil) (mRCons (mC (.str "")) mRNil))) (mSeq (mFor (iRange1 (mACons (mBin opAdd (mFn1 fLen (mVar 0)) (mC (.int 1))) mANil)) (tgName 1) l__law_pieces_1) (mRet (mVar 2))))
def f__law_pieces : Fm := mDef 1 4 b__law_pieces
theorem F__law_pieces (c : Fx P K mg) : FnM P w K mg base 1 "_law_pieces" ["text"] f__law_pieces := by
  refine fnM (N := ["text", "k", "found", "here"]) (m := b__law_pieces) c.d__law_pieces sc__law_pieces (by decide) (fun _ _ _ _ _ _ us hl => match us, hl with | [_], _ => rfl) fun f cdv A outer s H E hr => ?_
  have nd := (sc__law_pieces).nd
  exact (mss_cons (ms_par (i := 2) (j := 3) (by rfl) nd (mr_cons (me_lst ma_nil) (mr_cons me_str mr_nil))) (mss_cons (ms_for owns (by rfl) (mi_range1 (ma_cons (me_add (me_len (me_var (i := 0)) (by rfl) c.g_len) me_int) ma_nil) (by rfl) c.g_range) (mg_name nd) (mss_one (ms_if (mt_w (mw_and (mt_cmp or_lt os_lt (me_var (i := 1)) (me_len (me_var (i := 0)) (by rfl) c.g_len) (nomark _)) (mw_and1 (mt_inC (me_ix (me_var (i := 0)) (me_var (i := 1))) me_str (by rfl))))) (mss_one (ms_set (i := 3) (me_add (me_var (i := 3)) (me_ix (me_var (i := 0)) (me_var (i := 1)))) nd)) (mss_one (ms_if (mt_cmp (op_neM hr.units) os_eq (me_var (i := 3)) me_str (nomark _)) (mss_cons (ms_expr (me_append (me_var (i := 2)) (me_tup (ma_cons (me_sub (me_var (i := 1)) (me_len (me_var (i := 3)) (by rfl) c.g_len)) (ma_cons (me_var (i := 1)) ma_nil))))) (mss_one (ms_set (i := 3) me_str nd))) mss_nil))))) (mss_one (ms_ret (me_var (i := 2))))))
theorem sc__law_term : FnScope ["rules", "word", "fits_here", "one"] ["rules", "word"] (defScope (tp 35)) := sc_of (by decide +kernel)
def c__law_term_1 : S → Res Bool := (mAndT (mBl (mBin opGe (mBin opSub (mFn1 fLen (mVar 1)) (mFn1 fLen (mBin opIx (mVar 3) (mC (.int 0))))) (mBin opIx (mVar 3) (mC (.int 2))))) (mBl (mBin (opEq false) (mSlice (mVar 1) (mPart (mBin opSub (mFn1 fLen (mVar 1)) (mFn1 fLen (mBin opIx (mVar 3) (mC (.int 0)))))) mNoPart) (mBin opIx (mVar 3) (mC (.int 0))))))
def b__law_term : S → Res Out := (mSeq (mIfS (mBl (mBin (opIn false) (mVar 1) (mBin opIx (mVar 0) (mC (.int 0))))) (mRet (mC .non)) mNx) (mSeq (mSet 2 (mComp [3] (iSeq (mBin opIx (mVar 0) (mC (.int 1)))) (tgName 3) c__law_term_1 (mVar 3))) (mRet (mIf (mBl (mBin (opEq false) (mVar 2) (mLst mANil))) (mVar 1) (mBin opAdd (mSlice (mVar 1) mNoPart (mPart (mBin opSub (mFn1 fLen (mVar 1)) (mFn1 fLen (mBin opIx (mBin opIx (mVar 2) (mC (.int 0))) (mC (.int 0))))))) (mBin opIx (mBin opIx (mVar 2) (mC (.int 0))) (mC (.int 1))))))))
def f__law_term : Fm := mDef 2 4 b__law_term
theorem F__law_term (c : Fx P K mg) : FnM P w K mg base 1 "_law_term" ["rules", "word"] f__law_term := by
  refine fnM (N := ["rules", "word", "fits_here", "one"]) (m := b__law_term) c.d__law_term sc__law_term (by decide) (fun _ _ _ _ _ _ us hl => match us, hl with | [_, _], _ => rfl) fun f cdv A outer s H E hr => ?_
  have nd := (sc__law_term).nd
  exact (mss_cons (ms_if (mt_cmp (op_inM hr.units) os_in (me_var (i := 1)) (me_ix (me_var (i := 0)) me_int) (by rfl)) (mss_one (ms_ret me_non)) mss_nil) (mss_cons (ms_setComp (i := 2) (by rfl) nd (mi_seq (me_ix (me_var (i := 0)) me_int)) (blk_of (own := [("one", 3)]) (by rfl)) mgk_name (by decide) (fun _ _ _ _ _ => (mg_name nd).pg) (fun _ _ _ _ _ => (mts_one (mt_w (mw_and (mt_cmp or_ge os_ge (me_sub (me_len (me_var (i := 1)) (by rfl) c.g_len) (me_len (me_ix (me_var (i := 3)) me_int) (by rfl) c.g_len)) (me_ix (me_var (i := 3)) me_int) (nomark _)) (mw_and1 (mt_cmp (op_eqM hr.units) os_eq (me_slice (me_var (i := 1)) (mo_some (me_sub (me_len (me_var (i := 1)) (by rfl) c.g_len) (me_len (me_ix (me_var (i := 3)) me_int) (by rfl) c.g_len))) mo_none) (me_ix (me_var (i := 3)) me_int) (nomark _))))))) (fun _ _ _ _ _ => (me_var (i := 3)))) (mss_one (ms_ret (me_if (mt_cmp (op_eqM hr.units) os_eq (me_var (i := 2)) (me_lst ma_nil) (nomark _)) (me_var (i := 1)) (me_add (me_slice (me_var (i := 1)) mo_none (mo_some (me_sub (me_len (me_var (i := 1)) (by rfl) c.g_len) (me_len (me_ix (me_ix (me_var (i := 2)) me_int) me_int) (by rfl) c.g_len)))) (me_ix (me_ix (me_var (i := 2)) me_int) me_int)))))))
theorem sc__law_terms : FnScope ["rules", "text", "first", "last"] ["rules", "text"] (defScope (tp 36)) := sc_of (by decide +kernel)
def e__law_terms_1 : M := (mCall f__law_term (mACons (mVar 0) (mACons (mSlice (mVar 1) (mPart (mVar 2)) (mPart (mVar 3))) mANil)))
def b__law_terms : S → Res Out := (mRet (mComp [2, 3] (iSeq (mCall f__law_pieces (mACons (mVar 1) mANil))) (tgTup [2, 3]) mYes e__law_terms_1))
def f__law_terms : Fm := mDef 2 4 b__law_terms
theorem F__law_terms (c : Fx P K mg) : FnM P w K mg base 2 "_law_terms" ["rules", "text"] f__law_terms := by
  refine fnM (N := ["rules", "text", "first", "last"]) (m := b__law_terms) c.d__law_terms sc__law_terms (by decide) (fun _ _ _ _ _ _ us hl => match us, hl with | [_, _], _ => rfl) fun f cdv A outer s H E hr => ?_
  have nd := (sc__law_terms).nd
  exact (mss_one (ms_ret (me_comp (by rfl) nd (mi_seq (me_fn (F__law_pieces c) hr (by decide) (by rfl) takesC (ma_cons (me_var (i := 1)) ma_nil))) (blk_of (own := [("first", 2), ("last", 3)]) (by rfl)) mgk_tup (by decide) (fun _ _ _ _ _ => (mg_tup (by rfl) (mgs_cons (i := 2) (mgs_cons (i := 3) mgs_nil nd) nd)).pg) (fun _ _ _ _ _ => mts_nil) (fun _ _ _ _ _ => (me_fn (F__law_term c) hr (by decide) (by rfl) takesB (ma_cons (me_var (i := 0)) (ma_cons (me_slice (me_var (i := 1)) (mo_some (me_var (i := 2))) (mo_some (me_var (i := 3)))) ma_nil)))))))
theorem sc__law_snippet : FnScope ["rules", "text", "wishes", "size", "terms", "first", "place", "row", "spans", "width", "worths", "there", "told", "last", "opens", "shuts", "word", "term", "k"] ["rules", "text", "wishes", "size"] (defScope (tp 37)) := sc_of (by decide +kernel)
def c__law_snippet_1 : S → Res Bool := (mAndT (mBl (mBin (opEq false) (mBin opIx (mBin opIx (mVar 8) (mVar 18)) (mC (.int 1))) (mBin opAdd (mVar 6) (mC (.int 1))))) (mBl (mBin (opIn false) (mBin opIx (mVar 7) (mVar 18)) (mVar 4))))
def c__law_snippet_2 : S → Res Bool := (mAndT (mBl (mBin (opEq false) (mBin opIx (mBin opIx (mVar 8) (mVar 18)) (mC (.int 0))) (mVar 6))) (mBl (mBin (opIn false) (mBin opIx (mVar 7) (mVar 18)) (mVar 4))))
def l__law_snippet_3 : S → Res Out := (mSeq (mSet 14 (mComp [18] (iRange2 (mACons (mVar 5) (mACons (mVar 13) mANil))) (tgName 18) c__law_snippet_2 (mVar 18))) (mSeq (mSet 15 (mComp [18] (iRange2 (mACons (mVar 5) (mACons (mVar 13) mANil))) (tgName 18) c__law_snippet_1 (mVar 18))) (mSet 12 (mBin opAdd (mBin opAdd (mBin opAdd (mVar 12) (mIf (mBl (mBin (opEq true) (mVar 14) (mLst mANil))) (mC (.str "[")) (mC (.str "")))) (mBin opIx (mVar 1) (mVar 6))) (mIf (mBl (mBin (opEq true) (mVar 15) (mLst mANil))) (mC (.str "]")) (mC (.str "")))))))
def c__law_snippet_4 : S → Res Bool := (mBl (mBin (opIn false) (mVar 17) (mVar 4)))
def l__law_snippet_5 : S → Res Out := (mSeq (mSet 11 (mComp [17] (iSeq (mSlice (mVar 7) (mPart (mVar 5)) (mPart (mBin opAdd (mVar 5) (mVar 9))))) (tgName 17) c__law_snippet_4 (mVar 17))) (mExpr (mLm1 fAppend (mVar 10) (mTup (mACons (mFn1 fLenSet (mVar 11)) (mACons (mFn1 fLen (mVar 11)) mANil))))))
def c__law_snippet_6 : S → Res Bool := (mBl (mBin (opIsN true) (mCall f__law_term (mACons (mVar 0) (mACons (mVar 16) mANil))) (mC .non)))
def e__law_snippet_7 : M := (mCall f__law_term (mACons (mVar 0) (mACons (mVar 16) mANil)))
def b__law_snippet : S → Res Out := (mSeq (mParN [7, 8] (mRCons (mCall f__law_terms (mACons (mVar 0) (mACons (mVar 1) mANil))) (mRCons (mCall f__law_pieces (mACons (mVar 1) mANil)) mRNil))) (mSeq (mSet 4 (mComp [16] (iSeq (mVar 2)) (tgName 16) c__law_snippet_6 e__law_snippet_7)) (mSeq (mIfS (mBl (mBin (opEq false) (mVar 7) (mLst mANil))) (mRet (mC (.str ""))) mNx) (mSeq (mParN [9, 10] (mRCons (mFn2 minI (mACons (mVar 3) (mACons (mFn1 fLen (mVar 7)) mANil))) (mRCons (mLst mANil) mRNil))) (mSeq (mFor (iRange1 (mACons (mBin opAdd (mBin opSub (mFn1 fLen (mVar 7)) (mVar 9)) (mC (.int 1))) mANil)) (tgName 5) l__law_snippet_5) (mSeq (mSet 5 (mLm1 fIxD (mVar 10) (mFn1 fMaxD (mVar 10)))) (mSeq (mParN [12, 13] (mRCons (mC (.str "")) (mRCons (mBin opAdd (mVar 5) (mVar 9)) mRNil))) (mSeq (mFor (iRange2 (mACons (mBin opIx (mBin opIx (mVar 8) (mVar 5)) (mC (.int 0))) (mACons (mBin opIx (mBin opIx (mVar 8) (mBin opSub (mVar 13) (mC (.int 1)))) (mC (.int 1))) mANil))) (tgName 6) l__law_snippet_3) (mRet (mBin opAdd (mBin opAdd (mIf (mBl (mBin opGt (mVar 5) (mC (.int 0)))) (mC (.str ".. ")) (mC (.str ""))) (mVar 12)) (mIf (mBl (mBin opLt (mVar 13) (mFn1 fLen (mVar 7)))) (mC (.str " ..")) (mC (.str "")))))))))))))
def f__law_snippet : Fm := mDef 4 19 b__law_snippet
theorem F__law_snippet (c : Fx P K mg) : FnM P w K mg base 3 "_law_snippet" ["rules", "text", "wishes", "size"] f__law_snippet := by
  refine fnM (N := ["rules", "text", "wishes", "size", "terms", "first", "place", "row", "spans", "width", "worths", "there", "told", "last", "opens", "shuts", "word", "term", "k"]) (m := b__law_snippet) c.d__law_snippet sc__law_snippet (by decide) (fun _ _ _ _ _ _ us hl => match us, hl with | [_, _, _, _], _ => rfl) fun f cdv A outer s H E hr => ?_
  have nd := (sc__law_snippet).nd
  exact (mss_cons (ms_tupN (by rfl) (mr_cons (me_fn (F__law_terms c) hr (by decide) (by rfl) takesC (ma_cons (me_var (i := 0)) (ma_cons (me_var (i := 1)) ma_nil))) (mr_cons (me_fn (F__law_pieces c) hr (by decide) (by rfl) takesC (ma_cons (me_var (i := 1)) ma_nil)) mr_nil)) (mgs_cons (i := 7) (mgs_cons (i := 8) mgs_nil nd) nd) (by decide)) (mss_cons (ms_set (i := 4) (me_comp (by rfl) nd (mi_seq (me_var (i := 2))) (blk_of (own := [("word", 16)]) (by rfl)) mgk_name (by decide) (fun _ _ _ _ _ => (mg_name nd).pg) (fun _ _ _ _ _ => (mts_one (mt_cmp op_notN os_notN (me_fn (F__law_term c) hr (by decide) (by rfl) takesB (ma_cons (me_var (i := 0)) (ma_cons (me_var (i := 16)) ma_nil))) me_non (nomark _)))) (fun _ _ _ _ _ => (me_fn (F__law_term c) hr (by decide) (by rfl) takesB (ma_cons (me_var (i := 0)) (ma_cons (me_var (i := 16)) ma_nil))))) nd) (mss_cons (ms_if (mt_cmp (op_eqM hr.units) os_eq (me_var (i := 7)) (me_lst ma_nil) (nomark _)) (mss_one (ms_ret me_str)) mss_nil) (mss_cons (ms_par (i := 9) (j := 10) (by rfl) nd (mr_cons (me_min2 (by rfl) (ma_cons (me_var (i := 3)) (ma_cons (me_len (me_var (i := 7)) (by rfl) c.g_len) ma_nil)) (by rfl) c.g_min) (mr_cons (me_lst ma_nil) mr_nil))) (mss_cons (ms_for owns (by rfl) (mi_range1 (ma_cons (me_add (me_sub (me_len (me_var (i := 7)) (by rfl) c.g_len) (me_var (i := 9))) me_int) ma_nil) (by rfl) c.g_range) (mg_name nd) (mss_cons (ms_setComp (i := 11) (by rfl) nd (mi_seq (me_slice (me_var (i := 7)) (mo_some (me_var (i := 5))) (mo_some (me_add (me_var (i := 5)) (me_var (i := 9)))))) (blk_of (own := [("term", 17)]) (by rfl)) mgk_name (by decide) (fun _ _ _ _ _ => (mg_name nd).pg) (fun _ _ _ _ _ => (mts_one (mt_cmp (op_inM hr.units) os_in (me_var (i := 17)) (me_var (i := 4)) (by rfl)))) (fun _ _ _ _ _ => (me_var (i := 17)))) (mss_one (ms_expr (me_append (me_var (i := 10)) (me_tup (ma_cons (me_lenSet (by rfl) (me_var (i := 11)) (by rfl) c.g_len (by rfl) c.g_set) (ma_cons (me_len (me_var (i := 11)) (by rfl) c.g_len) ma_nil)))))))) (mss_cons (ms_set (i := 5) (me_ixD hr.units (me_var (i := 10)) (me_maxD (by rfl) hr.units (me_var (i := 10)) (by rfl) c.g_max)) nd) (mss_cons (ms_par (i := 12) (j := 13) (by rfl) nd (mr_cons me_str (mr_cons (me_add (me_var (i := 5)) (me_var (i := 9))) mr_nil))) (mss_cons (ms_for owns (by rfl) (mi_range2 (ma_cons (me_ix (me_ix (me_var (i := 8)) (me_var (i := 5))) me_int) (ma_cons (me_ix (me_ix (me_var (i := 8)) (me_sub (me_var (i := 13)) me_int)) me_int) ma_nil)) (by rfl) c.g_range) (mg_name nd) (mss_cons (ms_setComp (i := 14) (by rfl) nd (mi_range2 (ma_cons (me_var (i := 5)) (ma_cons (me_var (i := 13)) ma_nil)) (by rfl) c.g_range) (blk_of (own := [("k", 18)]) (by rfl)) mgk_name (by decide) (fun _ _ _ _ _ => (mg_name nd).pg) (fun _ _ _ _ _ => (mts_one (mt_w (mw_and (mt_cmp (op_eqM hr.units) os_eq (me_ix (me_ix (me_var (i := 8)) (me_var (i := 18))) me_int) (me_var (i := 6)) (nomark _)) (mw_and1 (mt_cmp (op_inM hr.units) os_in (me_ix (me_var (i := 7)) (me_var (i := 18))) (me_var (i := 4)) (by rfl))))))) (fun _ _ _ _ _ => (me_var (i := 18)))) (mss_cons (ms_setComp (i := 15) (by rfl) nd (mi_range2 (ma_cons (me_var (i := 5)) (ma_cons (me_var (i := 13)) ma_nil)) (by rfl) c.g_range) (blk_of (own := [("k", 18)]) (by rfl)) mgk_name (by decide) (fun _ _ _ _ _ => (mg_name nd).pg) (fun _ _ _ _ _ => (mts_one (mt_w (mw_and (mt_cmp (op_eqM hr.units) os_eq (me_ix (me_ix (me_var (i := 8)) (me_var (i := 18))) me_int) (me_add (me_var (i := 6)) me_int) (nomark _)) (mw_and1 (mt_cmp (op_inM hr.units) os_in (me_ix (me_var (i := 7)) (me_var (i := 18))) (me_var (i := 4)) (by rfl))))))) (fun _ _ _ _ _ => (me_var (i := 18)))) (mss_one (ms_set (i := 12) (me_add (me_add (me_add (me_var (i := 12)) (me_if (mt_cmp (op_neM hr.units) os_eq (me_var (i := 14)) (me_lst ma_nil) (nomark _)) me_str me_str)) (me_ix (me_var (i := 1)) (me_var (i := 6)))) (me_if (mt_cmp (op_neM hr.units) os_eq (me_var (i := 15)) (me_lst ma_nil) (nomark _)) me_str me_str)) nd))))) (mss_one (ms_ret (me_add (me_add (me_if (mt_cmp or_gt os_gt (me_var (i := 5)) me_int (nomark _)) me_str me_str) (me_var (i := 12))) (me_if (mt_cmp or_lt os_lt (me_var (i := 13)) (me_len (me_var (i := 7)) (by rfl) c.g_len) (nomark _)) me_str me_str))))))))))))
theorem sc__law_parts : FnScope ["rules", "text", "terms", "window", "place", "spans", "found", "mine", "here", "span", "one"] ["rules", "text", "terms", "window"] (defScope (tp 38)) := sc_of (by decide +kernel)
def e__law_parts_1 : M := (mTup (mACons (mBin (opIsN true) (mBin opIx (mVar 10) (mC (.int 0))) (mC .non)) (mACons (mBin opIx (mVar 10) (mC (.int 1))) mANil)))
def c__law_parts_2 : S → Res Bool := (mBl (mChain opLe opLt (mBin opIx (mVar 9) (mC (.int 0))) (mVar 4) (mBin opIx (mVar 9) (mC (.int 1)))))
def l__law_parts_3 : S → Res Out := (mSeq (mSet 7 (mComp [9] (iSeq (mVar 5)) (tgName 9) c__law_parts_2 (mVar 9))) (mSeq (mSet 8 (mIf (mAndT (mBl (mBin (opEq true) (mVar 7) (mLst mANil))) (mBl (mBin (opIn false) (mCall f__law_term (mACons (mVar 0) (mACons (mSlice (mVar 1) (mPart (mBin opIx (mBin opIx (mVar 7) (mC (.int 0))) (mC (.int 0)))) (mPart (mBin opIx (mBin opIx (mVar 7) (mC (.int 0))) (mC (.int 1))))) mANil))) (mVar 2)))) (mBin opIx (mVar 7) (mC (.int 0))) (mC .non))) (mIfS (mAndT (mBl (mBin (opEq true) (mVar 6) (mLst mANil))) (mBl (mBin (opEq false) (mBin opIx (mBin opIx (mVar 6) (mFn1 fNeg (mC (.int 1)))) (mC (.int 0))) (mVar 8)))) (mSetIx (mTup (mACons (mVar 8) (mACons (mBin opAdd (mBin opIx (mBin opIx (mVar 6) (mFn1 fNeg (mC (.int 1)))) (mC (.int 1))) (mBin opIx (mVar 1) (mVar 4))) mANil))) (mVar 6) (mFn1 fNeg (mC (.int 1)))) (mExpr (mLm1 fAppend (mVar 6) (mTup (mACons (mVar 8) (mACons (mBin opIx (mVar 1) (mVar 4)) mANil))))))))
def b__law_parts : S → Res Out := (mSeq (mParN [5, 6] (mRCons (mSlice (mCall f__law_pieces (mACons (mVar 1) mANil)) (mPart (mBin opIx (mVar 3) (mC (.int 0)))) (mPart (mBin opIx (mVar 3) (mC (.int 1))))) (mRCons (mLst mANil) mRNil))) (mSeq (mFor (iRange2 (mACons (mBin opIx (mBin opIx (mVar 5) (mC (.int 0))) (mC (.int 0))) (mACons (mBin opIx (mBin opIx (mVar 5) (mFn1 fNeg (mC (.int 1)))) (mC (.int 1))) mANil))) (tgName 4) l__law_parts_3) (mRet (mFn1 fTuple (mComp [10] (iSeq (mVar 6)) (tgName 10) mYes e__law_parts_1)))))
def f__law_parts : Fm := mDef 4 11 b__law_parts
theorem F__law_parts (c : Fx P K mg) : FnM P w K mg base 2 "_law_parts" ["rules", "text", "terms", "window"] f__law_parts := by
  refine fnM (N := ["rules", "text", "terms", "window", "place", "spans", "found", "mine", "here", "span", "one"]) (m := b__law_parts) c.d__law_parts sc__law_parts (by decide) (fun _ _ _ _ _ _ us hl => match us, hl with | [_, _, _, _], _ => rfl) fun f cdv A outer s H E hr => ?_
  have nd := (sc__law_parts).nd
  exact (mss_cons (ms_par (i := 5) (j := 6) (by rfl) nd (mr_cons (me_slice (me_fn (F__law_pieces c) hr (by decide) (by rfl) takesC (ma_cons (me_var (i := 1)) ma_nil)) (mo_some (me_ix (me_var (i := 3)) me_int)) (mo_some (me_ix (me_var (i := 3)) me_int))) (mr_cons (me_lst ma_nil) mr_nil))) (mss_cons (ms_for owns (by rfl) (mi_range2 (ma_cons (me_ix (me_ix (me_var (i := 5)) me_int) me_int) (ma_cons (me_ix (me_ix (me_var (i := 5)) (me_neg me_int)) me_int) ma_nil)) (by rfl) c.g_range) (mg_name nd) (mss_cons (ms_setComp (i := 7) (by rfl) nd (mi_seq (me_var (i := 5))) (blk_of (own := [("span", 9)]) (by rfl)) mgk_name (by decide) (fun _ _ _ _ _ => (mg_name nd).pg) (fun _ _ _ _ _ => (mts_one (mt_chain or_le or_lt os_le os_lt (me_ix (me_var (i := 9)) me_int) (me_var (i := 4)) (me_ix (me_var (i := 9)) me_int)))) (fun _ _ _ _ _ => (me_var (i := 9)))) (mss_cons (ms_set (i := 8) (me_if (mt_w (mw_and (mt_cmp (op_neM hr.units) os_eq (me_var (i := 7)) (me_lst ma_nil) (nomark _)) (mw_and1 (mt_cmp (op_inM hr.units) os_in (me_fn (F__law_term c) hr (by decide) (by rfl) takesC (ma_cons (me_var (i := 0)) (ma_cons (me_slice (me_var (i := 1)) (mo_some (me_ix (me_ix (me_var (i := 7)) me_int) me_int)) (mo_some (me_ix (me_ix (me_var (i := 7)) me_int) me_int))) ma_nil))) (me_var (i := 2)) (by rfl))))) (me_ix (me_var (i := 7)) me_int) me_non) nd) (mss_one (ms_if (mt_w (mw_and (mt_cmp (op_neM hr.units) os_eq (me_var (i := 6)) (me_lst ma_nil) (nomark _)) (mw_and1 (mt_cmp (op_eqM hr.units) os_eq (me_ix (me_ix (me_var (i := 6)) (me_neg me_int)) me_int) (me_var (i := 8)) (nomark _))))) (mss_one (ms_setIx (me_tup (ma_cons (me_var (i := 8)) (ma_cons (me_add (me_ix (me_ix (me_var (i := 6)) (me_neg me_int)) me_int) (me_ix (me_var (i := 1)) (me_var (i := 4)))) ma_nil))) (me_var (i := 6)) (me_neg me_int))) (mss_one (ms_expr (me_append (me_var (i := 6)) (me_tup (ma_cons (me_var (i := 8)) (ma_cons (me_ix (me_var (i := 1)) (me_var (i := 4))) ma_nil))))))))))) (mss_one (ms_ret (me_tuple (me_comp (by rfl) nd (mi_seq (me_var (i := 6))) (blk_of (own := [("one", 10)]) (by rfl)) mgk_name (by decide) (fun _ _ _ _ _ => (mg_name nd).pg) (fun _ _ _ _ _ => mts_nil) (fun _ _ _ _ _ => (me_tup (ma_cons (me_notN (me_ix (me_var (i := 10)) me_int)) (ma_cons (me_ix (me_var (i := 10)) me_int) ma_nil))))) (by rfl) c.g_tuple)))))
theorem sc_law : FnScope ["script", "box", "turn", "known", "text", "row", "wishes", "terms", "size", "due", "rules", "window", "first", "other", "one", "told", "parts", "spans", "k", "word", "part"] ["script"] (defScope (tp 39)) := sc_of (by decide +kernel)
def e_law_1 : M := (mBin opIx (mVar 20) (mC (.int 1)))
def l_law_2 : S → Res Out := (mSeq (mSet 16 (mCall f__law_parts (mACons (mVar 10) (mACons (mVar 4) (mACons (mVar 7) (mACons (mVar 14) mANil)))))) (mSeq (mSet 17 (mCall f__law_pieces (mACons (mVar 4) mANil))) (mSeq (mIfS (mNotT (mTru (mCall (f__law_same 6) (mACons (mCall f_snippet_parts (mACons (mVar 10) (mACons (mVar 4) (mACons (mVar 7) (mACons (mVar 14) mANil))))) (mACons (mVar 16) mANil))))) (mRet (mC (.bl false))) mNx) (mIfS (mBl (mBin (opEq true) (mSm1 fJoin (mC (.str "")) (mComp [20] (iSeq (mVar 16)) (tgName 20) mYes e_law_1)) (mSlice (mVar 4) (mPart (mBin opIx (mBin opIx (mVar 17) (mBin opIx (mVar 14) (mC (.int 0)))) (mC (.int 0)))) (mPart (mBin opIx (mBin opIx (mVar 17) (mBin opSub (mBin opIx (mVar 14) (mC (.int 1))) (mC (.int 1)))) (mC (.int 1))))))) (mRet (mC (.bl false))) mNx))))
def c_law_3 : S → Res Bool := (mBl (mBin (opIsN true) (mCall f__law_term (mACons (mVar 10) (mACons (mVar 19) mANil))) (mC .non)))
def e_law_4 : M := (mCall f__law_term (mACons (mVar 10) (mACons (mVar 19) mANil)))
def e_law_5 : M := (mCall f__law_word (mACons (mVar 1) mANil))
def l_law_6 : S → Res Out := (mSeq (mParN [10, 4] (mRCons (mCall f__law_rules (mACons (mVar 1) mANil)) (mRCons (mCall f__law_text (mACons (mVar 1) (mACons (mC (.int 14)) mANil))) mRNil))) (mSeq (mSet 5 (mCall f__law_terms (mACons (mVar 10) (mACons (mVar 4) mANil)))) (mSeq (mSet 6 (mFn1 fTuple (mFn1 fSortedSet (mComp [18] (iRange1 (mACons (mCall f__law_draw (mACons (mVar 1) (mACons (mC (.int 5)) mANil))) mANil)) (tgName 18) mYes e_law_5)))) (mSeq (mSet 7 (mFn1 fTuple (mFn1 fSortedSet (mComp [19] (iSeq (mVar 6)) (tgName 19) c_law_3 e_law_4)))) (mSeq (mSet 8 (mBin opAdd (mC (.int 1)) (mCall f__law_draw (mACons (mVar 1) (mACons (mBin opIx (mLst (mACons (mC (.int 4)) (mACons (mC (.int 15)) mANil))) (mCall f__law_draw (mACons (mVar 1) (mACons (mC (.int 2)) mANil)))) mANil))))) (mSeq (mSet 9 (mCall f__law_snippet (mACons (mVar 10) (mACons (mVar 4) (mACons (mVar 6) (mACons (mVar 8) mANil)))))) (mSeq (mIfS (mNotT (mTru (mCall (f__law_same 6) (mACons (mTup (mACons (mCall f_snippet (mACons (mVar 10) (mACons (mVar 4) (mACons (mVar 6) (mACons (mVar 8) mANil))))) (mACons (mCall f_wish_terms (mACons (mVar 10) (mACons (mVar 6) mANil))) mANil))) (mACons (mTup (mACons (mVar 9) (mACons (mVar 7) mANil))) mANil))))) (mRet (mC (.bl false))) mNx) (mIfS (mBl (mBin (opEq true) (mVar 5) (mLst mANil))) (mSeq (mSet 11 (mCall f_best_window (mACons (mVar 10) (mACons (mVar 4) (mACons (mVar 7) (mACons (mVar 8) mANil)))))) (mSeq (mSet 12 (mCall f__law_draw (mACons (mVar 1) (mACons (mFn1 fLen (mVar 5)) mANil)))) (mSeq (mSet 13 (mTup (mACons (mVar 12) (mACons (mBin opAdd (mBin opAdd (mVar 12) (mC (.int 1))) (mCall f__law_draw (mACons (mVar 1) (mACons (mBin opSub (mFn1 fLen (mVar 5)) (mVar 12)) mANil)))) mANil)))) (mSeq (mFor (iSeq (mTup (mACons (mVar 11) (mACons (mVar 13) mANil)))) (tgName 14) l_law_2) (mSeq (mSet 15 (mTup (mACons (mBin opGt (mBin opIx (mVar 11) (mC (.int 0))) (mC (.int 0))) (mACons (mCall f__law_parts (mACons (mVar 10) (mACons (mVar 4) (mACons (mVar 7) (mACons (mVar 11) mANil))))) (mACons (mBin opLt (mBin opIx (mVar 11) (mC (.int 1))) (mFn1 fLen (mVar 5))) mANil))))) (mIfS (mNotT (mTru (mCall (f__law_same 6) (mACons (mCall f_read_snippet (mACons (mVar 9) mANil)) (mACons (mVar 15) mANil))))) (mRet (mC (.bl false))) mNx)))))) mNx))))))))
def b_law : S → Res Out := (mSeq (mSet 1 (mCall f__law_box (mACons (mVar 0) mANil))) (mSeq (mUnp [3, 4] (mTup (mACons (mTup (mACons (mTup (mACons (mC (.str "the")) mANil)) (mACons (mTup (mACons (mTup (mACons (mC (.str "s")) (mACons (mC (.str "")) (mACons (mC (.int 2)) mANil)))) mANil)) mANil))) (mACons (mC (.str "red cats, the red dog. dogs and cats")) mANil)))) (mSeq (mIfS (mNotT (mTru (mCall (f__law_same 6) (mACons (mTup (mACons (mCall f_snippet (mACons (mVar 3) (mACons (mVar 4) (mACons (mTup (mACons (mC (.str "cat")) (mACons (mC (.str "dog")) mANil))) (mACons (mC (.int 4)) mANil))))) (mACons (mCall f_snippet_parts (mACons (mVar 3) (mACons (mVar 4) (mACons (mTup (mACons (mC (.str "cat")) mANil)) (mACons (mTup (mACons (mC (.int 0)) (mACons (mC (.int 2)) mANil))) mANil))))) mANil))) (mACons (mTup (mACons (mC (.str ".. [dog]. [dogs] and [cats]")) (mACons (mTup (mACons (mTup (mACons (mC (.bl false)) (mACons (mC (.str "red ")) mANil))) (mACons (mTup (mACons (mC (.bl true)) (mACons (mC (.str "cats")) mANil))) mANil))) mANil))) mANil))))) (mRet (mC (.bl false))) mNx) (mSeq (mIfS (mNotT (mTru (mCall (f__law_same 6) (mACons (mCall f_read_snippet (mACons (mC (.str ".. [dog]. [dogs] ..")) mANil)) (mACons (mTup (mACons (mC (.bl true)) (mACons (mTup (mACons (mTup (mACons (mC (.bl true)) (mACons (mC (.str "dog")) mANil))) (mACons (mTup (mACons (mC (.bl false)) (mACons (mC (.str ". ")) mANil))) (mACons (mTup (mACons (mC (.bl true)) (mACons (mC (.str "dogs")) mANil))) mANil)))) (mACons (mC (.bl true)) mANil)))) mANil))))) (mRet (mC (.bl false))) mNx) (mSeq (mFor (iRange1 (mACons (mC (.int 4)) mANil)) (tgName 2) l_law_6) (mRet (mC (.bl true))))))))
def f_law : Fm := mDef 1 21 b_law
theorem F_law (c : Fx P K mg) : FnM P w K mg base 8 "law" ["script"] f_law := by
  refine fnM (N := ["script", "box", "turn", "known", "text", "row", "wishes", "terms", "size", "due", "rules", "window", "first", "other", "one", "told", "parts", "spans", "k", "word", "part"]) (m := b_law) c.d_law sc_law (by decide) (fun _ _ _ _ _ _ us hl => match us, hl with | [_], _ => rfl) fun f cdv A outer s H E hr => ?_
  have nd := (sc_law).nd
  exact (mss_cons (ms_set (i := 1) (me_fn (F__law_box c) hr (by decide) (by rfl) takesC (ma_cons (me_var (i := 0)) ma_nil)) nd) (mss_cons (ms_unp (by rfl) (me_tup (ma_cons (me_tup (ma_cons (me_tup (ma_cons me_str ma_nil)) (ma_cons (me_tup (ma_cons (me_tup (ma_cons me_str (ma_cons me_str (ma_cons me_int ma_nil)))) ma_nil)) ma_nil))) (ma_cons me_str ma_nil))) (mgs_cons (i := 3) (mgs_cons (i := 4) mgs_nil nd) nd)) (mss_cons (ms_if (mt_not (mt_val (me_fn (F__law_same c 6) hr (by decide) (by rfl) takesC (ma_cons (me_tup (ma_cons (me_fn (F_snippet c) hr (by decide) (by rfl) takesC (ma_cons (me_var (i := 3)) (ma_cons (me_var (i := 4)) (ma_cons (me_tup (ma_cons me_str (ma_cons me_str ma_nil))) (ma_cons me_int ma_nil))))) (ma_cons (me_fn (F_snippet_parts c) hr (by decide) (by rfl) takesC (ma_cons (me_var (i := 3)) (ma_cons (me_var (i := 4)) (ma_cons (me_tup (ma_cons me_str ma_nil)) (ma_cons (me_tup (ma_cons me_int (ma_cons me_int ma_nil))) ma_nil))))) ma_nil))) (ma_cons (me_tup (ma_cons me_str (ma_cons (me_tup (ma_cons (me_tup (ma_cons me_bl (ma_cons me_str ma_nil))) (ma_cons (me_tup (ma_cons me_bl (ma_cons me_str ma_nil))) ma_nil))) ma_nil))) ma_nil))))) (mss_one (ms_ret me_bl)) mss_nil) (mss_cons (ms_if (mt_not (mt_val (me_fn (F__law_same c 6) hr (by decide) (by rfl) takesC (ma_cons (me_fn (F_read_snippet c) hr (by decide) (by rfl) takesC (ma_cons me_str ma_nil)) (ma_cons (me_tup (ma_cons me_bl (ma_cons (me_tup (ma_cons (me_tup (ma_cons me_bl (ma_cons me_str ma_nil))) (ma_cons (me_tup (ma_cons me_bl (ma_cons me_str ma_nil))) (ma_cons (me_tup (ma_cons me_bl (ma_cons me_str ma_nil))) ma_nil)))) (ma_cons me_bl ma_nil)))) ma_nil))))) (mss_one (ms_ret me_bl)) mss_nil) (mss_cons (ms_for owns (by rfl) (mi_range1 (ma_cons me_int ma_nil) (by rfl) c.g_range) (mg_name nd) (mss_cons (ms_tupN (by rfl) (mr_cons (me_fn (F__law_rules c) hr (by decide) (by rfl) takesC (ma_cons (me_var (i := 1)) ma_nil)) (mr_cons (me_fn (F__law_text c) hr (by decide) (by rfl) takesC (ma_cons (me_var (i := 1)) (ma_cons me_int ma_nil))) mr_nil)) (mgs_cons (i := 10) (mgs_cons (i := 4) mgs_nil nd) nd) (by decide)) (mss_cons (ms_set (i := 5) (me_fn (F__law_terms c) hr (by decide) (by rfl) takesC (ma_cons (me_var (i := 10)) (ma_cons (me_var (i := 4)) ma_nil))) nd) (mss_cons (ms_set (i := 6) (me_tuple (me_sortedSet (by rfl) (me_comp (by rfl) nd (mi_range1 (ma_cons (me_fn (F__law_draw c) hr (by decide) (by rfl) takesC (ma_cons (me_var (i := 1)) (ma_cons me_int ma_nil))) ma_nil) (by rfl) c.g_range) (blk_of (own := [("k", 18)]) (by rfl)) mgk_name (by decide) (fun _ _ _ _ _ => (mg_name nd).pg) (fun _ _ _ _ _ => mts_nil) (fun _ _ _ _ _ => (me_fn (F__law_word c) hr (by decide) (by rfl) takesB (ma_cons (me_var (i := 1)) ma_nil)))) (by rfl) c.g_sorted (by rfl) c.g_set) (by rfl) c.g_tuple) nd) (mss_cons (ms_set (i := 7) (me_tuple (me_sortedSet (by rfl) (me_comp (by rfl) nd (mi_seq (me_var (i := 6))) (blk_of (own := [("word", 19)]) (by rfl)) mgk_name (by decide) (fun _ _ _ _ _ => (mg_name nd).pg) (fun _ _ _ _ _ => (mts_one (mt_cmp op_notN os_notN (me_fn (F__law_term c) hr (by decide) (by rfl) takesB (ma_cons (me_var (i := 10)) (ma_cons (me_var (i := 19)) ma_nil))) me_non (nomark _)))) (fun _ _ _ _ _ => (me_fn (F__law_term c) hr (by decide) (by rfl) takesB (ma_cons (me_var (i := 10)) (ma_cons (me_var (i := 19)) ma_nil))))) (by rfl) c.g_sorted (by rfl) c.g_set) (by rfl) c.g_tuple) nd) (mss_cons (ms_set (i := 8) (me_add me_int (me_fn (F__law_draw c) hr (by decide) (by rfl) takesC (ma_cons (me_var (i := 1)) (ma_cons (me_ix (me_lst (ma_cons me_int (ma_cons me_int ma_nil))) (me_fn (F__law_draw c) hr (by decide) (by rfl) takesC (ma_cons (me_var (i := 1)) (ma_cons me_int ma_nil)))) ma_nil)))) nd) (mss_cons (ms_set (i := 9) (me_fn (F__law_snippet c) hr (by decide) (by rfl) takesC (ma_cons (me_var (i := 10)) (ma_cons (me_var (i := 4)) (ma_cons (me_var (i := 6)) (ma_cons (me_var (i := 8)) ma_nil))))) nd) (mss_cons (ms_if (mt_not (mt_val (me_fn (F__law_same c 6) hr (by decide) (by rfl) takesC (ma_cons (me_tup (ma_cons (me_fn (F_snippet c) hr (by decide) (by rfl) takesC (ma_cons (me_var (i := 10)) (ma_cons (me_var (i := 4)) (ma_cons (me_var (i := 6)) (ma_cons (me_var (i := 8)) ma_nil))))) (ma_cons (me_fn (F_wish_terms c) hr (by decide) (by rfl) takesC (ma_cons (me_var (i := 10)) (ma_cons (me_var (i := 6)) ma_nil))) ma_nil))) (ma_cons (me_tup (ma_cons (me_var (i := 9)) (ma_cons (me_var (i := 7)) ma_nil))) ma_nil))))) (mss_one (ms_ret me_bl)) mss_nil) (mss_one (ms_if (mt_cmp (op_neM hr.units) os_eq (me_var (i := 5)) (me_lst ma_nil) (nomark _)) (mss_cons (ms_set (i := 11) (me_fn (F_best_window c) hr (by decide) (by rfl) takesC (ma_cons (me_var (i := 10)) (ma_cons (me_var (i := 4)) (ma_cons (me_var (i := 7)) (ma_cons (me_var (i := 8)) ma_nil))))) nd) (mss_cons (ms_set (i := 12) (me_fn (F__law_draw c) hr (by decide) (by rfl) takesC (ma_cons (me_var (i := 1)) (ma_cons (me_len (me_var (i := 5)) (by rfl) c.g_len) ma_nil))) nd) (mss_cons (ms_set (i := 13) (me_tup (ma_cons (me_var (i := 12)) (ma_cons (me_add (me_add (me_var (i := 12)) me_int) (me_fn (F__law_draw c) hr (by decide) (by rfl) takesC (ma_cons (me_var (i := 1)) (ma_cons (me_sub (me_len (me_var (i := 5)) (by rfl) c.g_len) (me_var (i := 12))) ma_nil)))) ma_nil))) nd) (mss_cons (ms_for owns (by rfl) (mi_seq (me_tup (ma_cons (me_var (i := 11)) (ma_cons (me_var (i := 13)) ma_nil)))) (mg_name nd) (mss_cons (ms_set (i := 16) (me_fn (F__law_parts c) hr (by decide) (by rfl) takesC (ma_cons (me_var (i := 10)) (ma_cons (me_var (i := 4)) (ma_cons (me_var (i := 7)) (ma_cons (me_var (i := 14)) ma_nil))))) nd) (mss_cons (ms_set (i := 17) (me_fn (F__law_pieces c) hr (by decide) (by rfl) takesC (ma_cons (me_var (i := 4)) ma_nil)) nd) (mss_cons (ms_if (mt_not (mt_val (me_fn (F__law_same c 6) hr (by decide) (by rfl) takesC (ma_cons (me_fn (F_snippet_parts c) hr (by decide) (by rfl) takesC (ma_cons (me_var (i := 10)) (ma_cons (me_var (i := 4)) (ma_cons (me_var (i := 7)) (ma_cons (me_var (i := 14)) ma_nil))))) (ma_cons (me_var (i := 16)) ma_nil))))) (mss_one (ms_ret me_bl)) mss_nil) (mss_one (ms_if (mt_cmp (op_neM hr.units) os_eq (me_join me_str (me_comp (by rfl) nd (mi_seq (me_var (i := 16))) (blk_of (own := [("part", 20)]) (by rfl)) mgk_name (by decide) (fun _ _ _ _ _ => (mg_name nd).pg) (fun _ _ _ _ _ => mts_nil) (fun _ _ _ _ _ => (me_ix (me_var (i := 20)) me_int)))) (me_slice (me_var (i := 4)) (mo_some (me_ix (me_ix (me_var (i := 17)) (me_ix (me_var (i := 14)) me_int)) me_int)) (mo_some (me_ix (me_ix (me_var (i := 17)) (me_sub (me_ix (me_var (i := 14)) me_int) me_int)) me_int))) (nomark _)) (mss_one (ms_ret me_bl)) mss_nil)))))) (mss_cons (ms_set (i := 15) (me_tup (ma_cons (me_gt (me_ix (me_var (i := 11)) me_int) me_int) (ma_cons (me_fn (F__law_parts c) hr (by decide) (by rfl) takesC (ma_cons (me_var (i := 10)) (ma_cons (me_var (i := 4)) (ma_cons (me_var (i := 7)) (ma_cons (me_var (i := 11)) ma_nil))))) (ma_cons (me_lt (me_ix (me_var (i := 11)) me_int) (me_len (me_var (i := 5)) (by rfl) c.g_len)) ma_nil)))) nd) (mss_one (ms_if (mt_not (mt_val (me_fn (F__law_same c 6) hr (by decide) (by rfl) takesC (ma_cons (me_fn (F_read_snippet c) hr (by decide) (by rfl) takesC (ma_cons (me_var (i := 9)) ma_nil)) (ma_cons (me_var (i := 15)) ma_nil))))) (mss_one (ms_ret me_bl)) mss_nil))))))) mss_nil)))))))))) (mss_one (ms_ret me_bl)))))))
end
end K82
/-! # k82: same, comprehensions (as in other laws' texts) -/
namespace MI
open PySem PySem.Spec PyProof.Rows L2
theorem rest_wipe (env : List Slot) (vs : List Nat) : restE env (wipeE env vs) vs = env := by
  apply List.ext_getElem?
  intro i
  rw [restE_get _ _ (by rw [wipeE_len]), wipeE_get]
  split <;> rfl
theorem compGo_G {ι : Type} {vs : List Nat} {t : D → S → Option S} {e : M} {env : List Slot} {gl : List MObj} (a b : ι → D) : ∀ (l : List ι) (acc : List D), acc.length + l.length ≤ sizeLine →
    (∀ i ∈ l, ∃ e1 e2, t (a i) ⟨wipeE env vs, gl⟩ = some ⟨e1, gl⟩ ∧ mLeak e ⟨e1, gl⟩ = .ok (b i) ⟨e2, gl⟩ ∧ wipeE e2 vs = wipeE env vs) →
    compGo vs t mYes (mLeak e) (l.map a) acc ⟨wipeE env vs, gl⟩ = some (acc ++ l.map b, ⟨wipeE env vs, gl⟩)
  | [], acc, _, _ => by simp [compGo]
  | i :: l, acc, hl, he => by
    obtain ⟨e1, e2, h1, h2, h3⟩ := he i List.mem_cons_self
    have hl' : acc.length < sizeLine := by simp only [List.length_cons] at hl; omega
    have ih := compGo_G a b l (acc ++ [b i]) (by simp only [List.length_append, List.length_cons, List.length_nil] at hl ⊢; omega) fun j m => he j (List.mem_cons_of_mem _ m)
    rw [List.map_cons]
    unfold compGo
    rw [h1]
    simp only [ap_Yes, if_true, h2, hl']
    show compGo vs t mYes (mLeak e) (l.map a) (acc ++ [b i]) ⟨wipeE e2 vs, gl⟩ = _
    rw [h3, ih]
    simp
/-- a comprehension whose target is any -/
theorem comp_mapG {ι : Type} {vs : List Nat} {t : D → S → Option S} {e : M} {env : List Slot} {gl : List MObj} {it : S → Res (List D)} {s0 : S} (l : List ι) (a b : ι → D) (hi : it s0 = .ok (l.map a) ⟨env, gl⟩) (ho : noOwn env vs = true) (hl : l.length ≤ 1000000)
    (he : ∀ i ∈ l, ∃ e1 e2, t (a i) ⟨wipeE env vs, gl⟩ = some ⟨e1, gl⟩ ∧ mLeak e ⟨e1, gl⟩ = .ok (b i) ⟨e2, gl⟩ ∧ wipeE e2 vs = wipeE env vs) :
    mComp vs it t mYes e s0 = .ok (.new (.lst (l.map b))) ⟨env, gl⟩ := by
  have h1 := compGo_G a b l [] (by rw [List.length_nil, Nat.zero_add]; exact szN _ hl) he
  rw [ap_Comp, hi, Res.bind_ok, if_pos ho]
  show (match compGo vs t mYes (mLeak e) (l.map a) [] ⟨wipeE env vs, gl⟩ with | some (acc, s2) => Res.ok (RV.new (.lst acc)) ⟨restE env s2.env vs, s2.gl⟩ | none => .stuck) = _
  rw [h1]
  show Res.ok (RV.new (.lst ([] ++ l.map b))) (⟨restE env (wipeE env vs) vs, gl⟩ : S) = _
  rw [rest_wipe, List.nil_append]
end MI
namespace K82
open PySem PySem.Spec PyProof.Rows L2 MI
/-- a slot that holds no list of its own -/
def NoO (c : Slot) : Prop := ∀ o, c ≠ .own o
theorem no_of {env : List Slot} {v : Nat} {c : Slot} (h : env[v]? = some c) (hc : NoO c) : noOwn env [v] = true := by
  cases c with
  | own o => exact absurd rfl (hc o)
  | none => simp [noOwn, h]
  | val x => simp [noOwn, h]
theorem no_of2 {env : List Slot} {v w : Nat} {c d : Slot} (h : env[v]? = some c) (h2 : env[w]? = some d) (hc : NoO c) (hd : NoO d) : noOwn env [v, w] = true := by
  cases c with
  | own o => exact absurd rfl (hc o)
  | none => cases d with
    | own o => exact absurd rfl (hd o)
    | none => simp [noOwn, h, h2]
    | val x => simp [noOwn, h, h2]
  | val y => cases d with
    | own o => exact absurd rfl (hd o)
    | none => simp [noOwn, h, h2]
    | val x => simp [noOwn, h, h2]
theorem no_val (x : D) : NoO (.val x) := fun o h => nomatch h
theorem no_none : NoO .none := fun o h => nomatch h
theorem blsOf_map : ∀ bs : List Bool, blsOf (bs.map D.bl) = some bs
  | [] => rfl
  | b :: bs => by
    show (blsOf (bs.map D.bl)).map _ = _
    rw [blsOf_map bs]
    rfl
theorem range_bools (bs : List Bool) : (List.range bs.length).map (fun k => D.bl (bs.getD k false)) = bs.map D.bl := by
  apply List.ext_getElem?
  intro i
  rw [List.getElem?_map, List.getElem?_map]
  by_cases h : i < bs.length
  · rw [List.getElem?_range h, List.getElem?_eq_getElem h, Option.map_some, Option.map_some, List.getD_eq_getElem?_getD, List.getElem?_eq_getElem h]
    rfl
  · rw [List.getElem?_eq_none (by rw [List.length_range]; omega), List.getElem?_eq_none (by omega)]
    rfl
theorem same_seq (n : Nat) (gl : List MObj) (xs ys : List D) (bs : List Bool) (h1 : xs.length = bs.length) (h2 : ys.length = bs.length) (hl : bs.length ≤ 100000) (x y : D) (hx : ∀ (i : Nat) (z : D), xs[i]? = some z → ∀ s, opIx s (.d x) (.d (.int i)) = .ok (.d z) s) (hy : ∀ (i : Nat) (z : D), ys[i]? = some z → ∀ s, opIx s (.d y) (.d (.int i)) = .ok (.d z) s)
    (lx : ∀ s, fLen s (.d x) = .ok (.d (.int xs.length)) s)
    (hb : ∀ (i : Nat) (a b : D) (q : Bool), xs[i]? = some a → ys[i]? = some b → bs[i]? = some q → f__law_same n [a, b] gl = .ok (.bl q) gl) :
    mComp [2] (iRange1 (mACons (mFn1 fLen (mVar 0)) mANil)) (tgName 2) mYes (e__law_same_1 (f__law_same n)) ⟨[.val x, .val y, .none], gl⟩ = .ok (.new (.lst (bs.map D.bl))) ⟨[.val x, .val y, .none], gl⟩ := by
  rw [← range_bools]
  refine comp_mapI (List.range bs.length) (fun k => .int ((k : Nat) : Int)) (fun k => D.bl (bs.getD k false)) ?_ (by simp) rfl (by rw [List.length_range]; omega) fun i hi => ?_
  · have e : rangeD 0 bs.length = (List.range bs.length).map fun k => D.int ((k : Nat) : Int) := by
      rw [rangeD_map]
      exact List.map_congr_left fun k _ => by rw [Int.zero_add]
    have hr : rng1 (bs.length : Int) = some (rangeD 0 bs.length) := rng1_nat (by omega)
    simp [lx, h1, hr, e]
  · have hi := List.mem_range.mp hi
    obtain ⟨a, ha⟩ : ∃ a, xs[i]? = some a := ⟨_, List.getElem?_eq_getElem (by omega)⟩
    obtain ⟨b, hb'⟩ : ∃ b, ys[i]? = some b := ⟨_, List.getElem?_eq_getElem (by omega)⟩
    have hq : bs[i]? = some (bs.getD i false) := by rw [List.getD_eq_getElem?_getD, List.getElem?_eq_getElem hi]; rfl
    have r := hb i a b _ ha hb' hq
    have i1 := hx i a ha
    have i2 := hy i b hb'
    simp [-List.getD_eq_getElem?_getD, e__law_same_1, i1, i2, r]
theorem ixT (xs : List D) (i : Nat) (z : D) (h : xs[i]? = some z) (s : S) : opIx s (.d (.tup xs)) (.d (.int i)) = .ok (.d z) s := by
  refine q_ixT ?_
  have hl := (List.getElem?_eq_some_iff.mp h).1
  unfold atI ixN
  rw [if_pos (by omega), if_pos (by omega)]
  simpa using h
theorem ixL (xs : List D) (i : Nat) (z : D) (h : xs[i]? = some z) (s : S) : opIx s (.d (.lst xs)) (.d (.int i)) = .ok (.d z) s := by
  refine q_ixL rfl ?_
  have hl := (List.getElem?_eq_some_iff.mp h).1
  unfold atI ixN
  rw [if_pos (by omega), if_pos (by omega)]
  simpa using h
theorem same_tup (n : Nat) (gl : List MObj) (xs ys : List D) (bs : List Bool) (h1 : xs.length = bs.length) (h2 : ys.length = bs.length) (hl : bs.length ≤ 100000)
    (hb : ∀ (i : Nat) (a b : D) (q : Bool), xs[i]? = some a → ys[i]? = some b → bs[i]? = some q → f__law_same n [a, b] gl = .ok (.bl q) gl) : f__law_same (n + 1) [.tup xs, .tup ys] gl = .ok (.bl (bs.all id)) gl := by
  have cm := same_seq n gl xs ys bs h1 h2 hl (.tup xs) (.tup ys) (ixT xs) (ixT ys) (fun s => rfl) hb
  have fa : ∀ s, fAll s (.new (.lst (bs.map D.bl))) = .ok (.d (.bl (bs.all id))) s := fun s => by
    unfold fAll
    simp only [asLst, Option.bind_some, blsOf_map]
  have hxy : xs.length = ys.length := h1.trans h2.symm
  simp [-ap_Comp, f__law_same, mDef, List.replicate, b__law_same, fIsi, asD, tyD, isTy, truthD, cm, fa, hxy]
theorem same_tupN (n : Nat) (gl : List MObj) (xs ys : List D) (h : xs.length ≠ ys.length) : f__law_same (n + 1) [.tup xs, .tup ys] gl = .ok (.bl false) gl := by
  have h' : ¬ ((xs.length : Int) = ys.length) := by omega
  simp [-ap_Comp, f__law_same, mDef, List.replicate, b__law_same, fIsi, asD, tyD, isTy, truthD, h']
theorem same_lst (n : Nat) (gl : List MObj) (xs ys : List D) (bs : List Bool) (h1 : xs.length = bs.length) (h2 : ys.length = bs.length) (hl : bs.length ≤ 100000)
    (hb : ∀ (i : Nat) (a b : D) (q : Bool), xs[i]? = some a → ys[i]? = some b → bs[i]? = some q → f__law_same n [a, b] gl = .ok (.bl q) gl) : f__law_same (n + 1) [.lst xs, .lst ys] gl = .ok (.bl (bs.all id)) gl := by
  have cm := same_seq n gl xs ys bs h1 h2 hl (.lst xs) (.lst ys) (ixL xs) (ixL ys) (fun s => rfl) hb
  have fa : ∀ s, fAll s (.new (.lst (bs.map D.bl))) = .ok (.d (.bl (bs.all id))) s := fun s => by
    unfold fAll
    simp only [asLst, Option.bind_some, blsOf_map]
  have hxy : xs.length = ys.length := h1.trans h2.symm
  simp [-ap_Comp, f__law_same, mDef, List.replicate, b__law_same, fIsi, asD, tyD, isTy, truthD, cm, fa, hxy]
mutual
inductive Pl : Nat → D → Prop
  | non (n : Nat) : Pl (n + 1) .non
  | bl (n : Nat) (b : Bool) : Pl (n + 1) (.bl b)
  | int (n : Nat) (i : Int) : Pl (n + 1) (.int i)
  | str (n : Nat) (x : Str) : Pl (n + 1) (.str x)
  | tup (n : Nat) (xs : List D) : xs.length ≤ 100000 → PlL n xs → Pl (n + 1) (.tup xs)
  | lst (n : Nat) (xs : List D) : xs.length ≤ 100000 → PlL n xs → Pl (n + 1) (.lst xs)
inductive PlL : Nat → List D → Prop
  | nil (n : Nat) : PlL n []
  | cons (n : Nat) (x : D) (xs : List D) : Pl n x → PlL n xs → PlL n (x :: xs)
end
theorem PlL.get {n : Nat} : ∀ {xs : List D} {k : Nat} {x : D}, PlL n xs → xs[k]? = some x → Pl n x
  | _, 0, _, .cons _ _ _ h _, e => by simp at e; subst e; exact h
  | _, k + 1, _, .cons _ _ _ _ t, e => PlL.get t (by simpa using e)
theorem all_true (n : Nat) : (List.replicate n true).all id = true := by
  rw [List.all_eq_true]
  intro b hb
  rw [(List.mem_replicate.mp hb).2]
  rfl
theorem same_refl (gl : List MObj) : ∀ (n : Nat) (x : D), Pl n x → f__law_same n [x, x] gl = .ok (.bl true) gl := by
  intro n
  induction n with
  | zero => intro x h; cases h
  | succ n ih =>
    intro x h
    have key : ∀ xs : List D, PlL n xs → ∀ (i : Nat) (a b : D) (q : Bool), xs[i]? = some a → xs[i]? = some b → (List.replicate xs.length true)[i]? = some q → f__law_same n [a, b] gl = .ok (.bl q) gl := fun xs hx i a b q ha hb hq => by
      rw [ha] at hb
      cases hb
      have : q = true := (List.mem_replicate.mp (List.mem_of_getElem? hq)).2
      rw [this]
      exact ih a (hx.get ha)
    cases h with
    | non => simp [f__law_same, mDef, List.replicate, b__law_same, fIsi, asD, tyD, isTy, truthD, opIsN, isNonRV]
    | bl _ b => simp [f__law_same, mDef, List.replicate, b__law_same, fIsi, asD, tyD, isTy, truthD, opIsN, isNonRV, opEq, eqvO, eqS]
    | int _ i => simp [f__law_same, mDef, List.replicate, b__law_same, fIsi, asD, tyD, isTy, truthD, opIsN, isNonRV, opEq, eqvO, eqS]
    | str _ z => simp [f__law_same, mDef, List.replicate, b__law_same, fIsi, asD, tyD, isTy, truthD, opIsN, isNonRV, opEq, eqvO, eqS]
    | tup _ xs hl hx =>
      rw [same_tup n gl xs xs (List.replicate xs.length true) (by simp) (by simp) (by simpa using hl) (key xs hx), all_true]
    | lst _ xs hl hx =>
      rw [same_lst n gl xs xs (List.replicate xs.length true) (by simp) (by simp) (by simpa using hl) (key xs hx), all_true]
theorem pl_int (n : Nat) (h : 0 < n) (i : Int) : Pl n (.int i) := by cases n with
  | zero => omega
  | succ n => exact .int n i
theorem pl_non (n : Nat) (h : 0 < n) : Pl n .non := by cases n with
  | zero => omega
  | succ n => exact .non n
theorem pl_il (n : Nat) (l : List Int) : PlL (n + 1) (IL l) := by
  induction l with
  | nil => exact .nil _
  | cons a l ih => exact .cons _ _ _ (.int _ _) ih
theorem pl_tupI (n : Nat) (l : List Int) (h : l.length ≤ 100000) : Pl (n + 2) (.tup (IL l)) := .tup _ _ (by simpa using h) (pl_il n l)
theorem pl_lstI (n : Nat) (l : List Int) (h : l.length ≤ 100000) : Pl (n + 2) (.lst (IL l)) := .lst _ _ (by simpa using h) (pl_il n l)
end K82
/-! # k82: the box (as in the k18 texts) -/
namespace K82
open PySem PySem.Spec PyProof.Rows L2 MI
def Bx (gl : List MObj) : Prop := ∃ (cs : List Int) (a b : Int) (rest : List MObj), gl = .lst (IL cs) :: .lst [.ref 0, .int a, .int b] :: rest ∧ 0 ≤ a ∧ 0 ≤ b
theorem box_spec (ns : List Int) : ∃ gl, f__law_box [.scr (ns.map D.int)] [] = .ok (.ref 1) gl ∧ Bx gl := by
  refine ⟨[.lst (IL (cut ns none (some 63))), .lst [.ref 0, .int 0, .int (4711 + ns.length)]], ?_, _, _, _, [], rfl, by omega, by omega⟩
  have e : cut (ns.map D.int) none (some 63) = IL (cut ns none (some 63)) := cut_il
  simp [f__law_box, mDef, b__law_box, opSl, asTup, asLst, asScr, asInt, e, fLen, asD, lenD]
def ld1 (b : Int) : Int := (b * 48271 + 17) % 2147483629
def ld2 (b : Int) : Int := (ld1 b * 69621 + 5) % 2147483587
def ld3 (b : Int) : Int := (ld2 b * 40692 + 3) % 2147483563
def ldr (b : Int) : Int := ld1 b * 4611686014132420609 + ld2 b * 2147483647 + ld3 b
theorem load_nil (a b : Int) (rest : List MObj) : f__law_load [.ref 1] (.lst [] :: .lst [.ref 0, .int a, .int b] :: rest) = .ok (.int (ldr b)) (.lst [] :: .lst [.ref 0, .int a, .int (ld3 b)] :: rest) := by
  simp [f__law_load, mDef, List.replicate, b__law_load, q_ixL, asLst, atI, ixN, fLen, asD, lenD, q_mulR, q_mulL, q_mod, as_d, ldr, ld1, ld2, ld3]
theorem load_cons (c : Int) (cs : List Int) (a b : Int) (rest : List MObj) : f__law_load [.ref 1] (.lst (.int c :: IL cs) :: .lst [.ref 0, .int a, .int b] :: rest) = (let z := if 0 ≤ c then 2 * c else -2 * c - 1
    if 1000000000000000000 ≤ z then .ok (.int z) (.lst (IL cs) :: .lst [.ref 0, .int a, .int b] :: rest) else
      let b' := (b * 69621 + z * 48271 + 11) % 2147483647
      .ok (.int (ldr b')) (.lst (IL cs) :: .lst [.ref 0, .int a, .int (ld3 b')] :: rest)) := by
  by_cases hc : 0 ≤ c
  · by_cases hz : 1000000000000000000 ≤ 2 * c
    · simp [f__law_load, mDef, List.replicate, b__law_load, q_ixL, asLst, atI, ixN, fLen, asD, lenD, q_mulR, q_mulL, q_mod, as_d, ldr, ld1, ld2, ld3, hc, hz, fPopAt, seqIndex?]
    · simp [f__law_load, mDef, List.replicate, b__law_load, q_ixL, asLst, atI, ixN, fLen, asD, lenD, q_mulR, q_mulL, q_mod, as_d, ldr, ld1, ld2, ld3, hc, hz, fPopAt, seqIndex?]
  · by_cases hz : 1000000000000000000 ≤ -2 * c - 1
    · simp [f__law_load, mDef, List.replicate, b__law_load, q_ixL, asLst, atI, ixN, fLen, asD, lenD, q_mulR, q_mulL, q_mod, as_d, ldr, ld1, ld2, ld3, hc, hz, fPopAt, seqIndex?]
    · simp [f__law_load, mDef, List.replicate, b__law_load, q_ixL, asLst, atI, ixN, fLen, asD, lenD, q_mulR, q_mulL, q_mod, as_d, ldr, ld1, ld2, ld3, hc, hz, fPopAt, seqIndex?]
theorem em_lo (x y : Int) (h : 0 < y) : 0 ≤ x % y := Int.emod_nonneg _ (by omega)
theorem ldr_nonneg (b : Int) : 0 ≤ ldr b ∧ 0 ≤ ld3 b := by
  have h1 := em_lo (b * 48271 + 17) 2147483629 (by omega)
  have h2 := em_lo (ld1 b * 69621 + 5) 2147483587 (by omega)
  have h3 := em_lo (ld2 b * 40692 + 3) 2147483563 (by omega)
  unfold ldr
  refine ⟨?_, h3⟩
  have e1 : 0 ≤ ld1 b := h1
  have e2 : 0 ≤ ld2 b := h2
  have e3 : 0 ≤ ld3 b := h3
  omega
theorem load_spec (cs : List Int) (a b : Int) (rest : List MObj) (hb : 0 ≤ b) : ∃ r cs' b', f__law_load [.ref 1] (.lst (IL cs) :: .lst [.ref 0, .int a, .int b] :: rest) = .ok (.int r) (.lst (IL cs') :: .lst [.ref 0, .int a, .int b'] :: rest) ∧ 0 ≤ r ∧ 0 ≤ b' := by
  cases cs with
  | nil => exact ⟨ldr b, [], ld3 b, load_nil a b rest, (ldr_nonneg b).1, (ldr_nonneg b).2⟩
  | cons c cs =>
    have e := load_cons c cs a b rest
    simp only at e
    split at e
    · split at e
      · rename_i hz
        exact ⟨_, cs, b, e, by omega, hb⟩
      · exact ⟨_, cs, _, e, (ldr_nonneg _).1, (ldr_nonneg _).2⟩
    · split at e
      · rename_i hz
        exact ⟨_, cs, b, e, by omega, hb⟩
      · exact ⟨_, cs, _, e, (ldr_nonneg _).1, (ldr_nonneg _).2⟩
theorem draw_spec (gl : List MObj) (m : Int) (h : Bx gl) (h0 : 0 < m) (h2 : m < 1073741824) : ∃ r gl', f__law_draw [.ref 1, .int m] gl = .ok (.int r) gl' ∧ 0 ≤ r ∧ r < m ∧ Bx gl' := by
  obtain ⟨cs, a, b, rest, rfl, ha, hb⟩ := h
  by_cases hm : a < m
  · obtain ⟨r, cs', b', e, r0, b0⟩ := load_spec cs a b rest hb
    refine ⟨r % m, .lst (IL cs') :: .lst [.ref 0, .int (r / m), .int b'] :: rest, ?_, em_lo _ _ h0, Int.emod_lt_of_pos _ h0, cs', r / m, b', rest, rfl, Int.ediv_nonneg r0 (by omega), b0⟩
    simp [f__law_draw, mDef, List.replicate, b__law_draw, q_ixL, asLst, atI, ixN, as_d, hm, e, q_mod, q_fdiv, h0, h2]
  · refine ⟨a % m, .lst (IL cs) :: .lst [.ref 0, .int (a / m), .int b] :: rest, ?_, em_lo _ _ h0, Int.emod_lt_of_pos _ h0, cs, a / m, b, rest, rfl, Int.ediv_nonneg ha (by omega), hb⟩
    simp [f__law_draw, mDef, List.replicate, b__law_draw, q_ixL, asLst, atI, ixN, as_d, hm, q_mod, q_fdiv, h0, h2]
/-! ### same -/
end K82
/-! # k82: words and wishes, of any value -/
namespace K82
open PySem PySem.Spec PyProof.Rows L2 MI
def SM : Str := "abcdefghijklmnopqrstuvwxyz"
def DG : Str := "0123456789"
def AN : Str := "abcdefghijklmnopqrstuvwxyz0123456789"
theorem an_eq : AN.cps.toList = SM.cps.toList ++ DG.cps.toList := by decide +kernel
def wsg (c : Nat) : Bool := decide (c ∈ AN.cps.toList)
theorem wsg_or (c : Nat) : wsg c = (decide (c ∈ SM.cps.toList) || decide (c ∈ DG.cps.toList)) := by
  unfold wsg
  rw [an_eq]
  by_cases h1 : c ∈ SM.cps.toList <;> by_cases h2 : c ∈ DG.cps.toList <;> simp [h1, h2]
/-- values that are asked -/
def Ok1 : D → Prop
  | .non => True
  | .bl _ => True
  | .int _ => True
  | .str x => x.length ≤ 1000
  | .tup xs => xs.length ≤ 1000
  | _ => False
def allW (x : Str) : Bool := x.cps.toList.all wsg
def isW : D → Bool
  | .str x => decide (1 ≤ x.length) && decide (x.length ≤ 20) && allW x
  | _ => false
theorem all_bls {ι : Type} (l : List ι) (f : ι → Bool) (s : S) : fAll s (.new (.lst (l.map fun i => D.bl (f i)))) = .ok (.d (.bl (l.all f))) s := by
  have e : (l.map fun i => D.bl (f i)) = (l.map f).map D.bl := by rw [List.map_map]; rfl
  have e2 : blsOf (l.map fun i => D.bl (f i)) = some (l.map f) := by rw [e, blsOf_map]
  unfold fAll
  show (match blsOf (l.map fun i => D.bl (f i)) with | some bs => _ | none => _) = _
  rw [e2]
  simp only [List.all_map]
  rfl
theorem opC_txt (c : Nat) (z : Str) (s : S) : opInC false s (.d (.str ⟨#[c]⟩)) (.d (.str z)) = .ok (.d (.bl (decide (c ∈ z.cps.toList)))) s := by
  unfold opInC
  simp [asStr]
theorem sign_spec (c : Nat) (gl : List MObj) : f_is_word_sign [.str ⟨#[c]⟩] gl = .ok (.bl (wsg c)) gl := by
  rw [wsg_or]
  have o1 : ∀ s, opInC false s (.d (.str ⟨#[c]⟩)) (.d (.str "abcdefghijklmnopqrstuvwxyz")) = .ok (.d (.bl (decide (c ∈ SM.cps.toList)))) s := fun s => opC_txt c SM s
  have o2 : ∀ s, opInC false s (.d (.str ⟨#[c]⟩)) (.d (.str "0123456789")) = .ok (.d (.bl (decide (c ∈ DG.cps.toList)))) s := fun s => opC_txt c DG s
  generalize decide (c ∈ SM.cps.toList) = b1 at *
  generalize decide (c ∈ DG.cps.toList) = b2 at *
  cases b1 <;> cases b2 <;> simp [f_is_word_sign, mDef, List.replicate, b_is_word_sign, o1, o2]
theorem isi_str (d : D) (h : Ok1 d) (s : S) : fIsi .str s (.d d) = .ok (.d (.bl (match d with | .str _ => true | _ => false))) s := by
  cases d <;> first | rfl | exact h.elim
theorem isi_tup (d : D) (h : Ok1 d) (s : S) : fIsi .tup s (.d d) = .ok (.d (.bl (match d with | .tup _ => true | _ => false))) s := by
  cases d <;> first | rfl | exact h.elim
theorem len_str (x : Str) (h : x.length ≤ 1000) (s : S) : fLen s (.d (.str x)) = .ok (.d (.int (x.length : Nat))) s := by
  unfold fLen
  simp only [asD, Option.bind_some, lenD]
  rw [if_pos (szN _ (by omega))]
theorem str_len (x : Str) : x.length = x.cps.toList.length := by unfold Str.length; simp
/-! ### ascending -/
theorem lt_le (x y : Str) : strLt x y = !leS y x := by unfold leS; simp
theorem lt_trans' {x y z : Str} (h : strLt x y = true) (h2 : strLt y z = true) : strLt x z = true := by
  rw [lt_le] at *
  simp only [Bool.not_eq_true'] at *
  by_cases q : leS z x = true
  · have t1 : leS y x = true := by
      have := leS_total y z
      rw [h2, Bool.or_false] at this
      exact leS_trans y z x this q
    rw [t1] at h
    cases h
  · simpa using q
theorem lt_irr (x : Str) : strLt x x = false := by
  rw [lt_le]
  have := leS_total x x
  rw [Bool.or_self] at this
  rw [this]
  rfl
theorem lt_of {x y : Str} (h : leS x y = true) (hn : x ≠ y) : strLt x y = true := by
  rw [lt_le]
  by_cases q : leS y x = true
  · exact absurd (leS_anti x y h q) hn
  · simpa using q
theorem le_of {x y : Str} (h : strLt x y = true) : leS x y = true := by
  have := leS_total x y
  rw [lt_le] at h
  simp only [Bool.not_eq_true'] at h
  rw [h, Bool.or_false] at this
  exact this
/-- neighbours ascend -/
def adj : List Str → Bool
  | [] => true
  | [_] => true
  | x :: y :: r => strLt x y && adj (y :: r)
theorem adj_pw : ∀ {l : List Str}, adj l = true → l.Pairwise fun x y => strLt x y = true
  | [], _ => .nil
  | [x], _ => List.pairwise_singleton _ _
  | x :: y :: r, h => by
    unfold adj at h
    obtain ⟨h1, h2⟩ := Bool.and_eq_true_iff.mp h
    have ih := adj_pw h2
    refine List.pairwise_cons.mpr ⟨fun z m => ?_, ih⟩
    rcases List.mem_cons.mp m with rfl | m
    · exact h1
    · exact lt_trans' h1 ((List.pairwise_cons.mp ih).1 z m)
theorem pw_adj : ∀ {l : List Str}, (l.Pairwise fun x y => strLt x y = true) → adj l = true
  | [], _ => rfl
  | [x], _ => rfl
  | x :: y :: r, h => by
    obtain ⟨h1, h2⟩ := List.pairwise_cons.mp h
    unfold adj
    rw [h1 y List.mem_cons_self, pw_adj h2]
    rfl
theorem pw_leS {l : List Str} (h : l.Pairwise fun x y => leS x y = true) (p : l.Perm m) : l = sortS m :=
  perm_sorted_eq (le := fun x y => leS x y = true) leS_anti (p.trans (sortS_perm m).symm) h (sortS_sorted m)
theorem adj_sort (l : List Str) : adj l = decide (l = sortS (uni l)) := by
  by_cases h : l = sortS (uni l)
  · rw [decide_eq_true h]
    have nd : l.Nodup := by
      have := (sortS_perm (uni l)).nodup_iff.mpr (uni_nodup l)
      rwa [← h] at this
    have pw : l.Pairwise fun x y => leS x y = true := by
      have := sortS_sorted (uni l)
      rwa [← h] at this
    refine pw_adj ?_
    have := List.Pairwise.and pw nd
    exact this.imp fun ⟨a, b⟩ => lt_of a b
  · rw [decide_eq_false h]
    by_cases q : adj l = true
    · exfalso
      have pw := adj_pw q
      have nd : l.Nodup := pw.imp fun {a b} z e => by rw [e, lt_irr] at z; cases z
      exact h (pw_leS (pw.imp fun z => le_of z) (uni_perm nd))
    · simpa using q
theorem adj_get : ∀ (l : List Str), adj l = ((List.range (l.length - 1)).all fun k => strLt (l.getD k "") (l.getD (k + 1) ""))
  | [] => rfl
  | [x] => rfl
  | x :: y :: r => by
    have ih := adj_get (y :: r)
    unfold adj
    rw [ih]
    have e : (x :: y :: r).length - 1 = (y :: r).length - 1 + 1 := by simp
    rw [e, List.range_succ_eq_map, List.all_cons, List.all_map]
    rfl
end K82
/-! # k82: wishes; terms -/
namespace K82
open PySem PySem.Spec PyProof.Rows L2 MI
/-- values that are asked, and their parts -/
def Ok2 : D → Prop
  | .tup xs => xs.length ≤ 1000 ∧ ∀ x ∈ xs, Ok1 x
  | d => Ok1 d
theorem ok21 {d : D} (h : Ok2 d) : Ok1 d := by
  cases d <;> first | exact h | exact h.1
/-- the texts of a tuple of texts -/
def txs : List D → List Str
  | [] => []
  | .str x :: r => x :: txs r
  | _ :: r => txs r
theorem strs_of : ∀ {xs : List D}, xs.all isW = true → xs = (txs xs).map .str
  | [], _ => rfl
  | x :: r, h => by
    rw [List.all_cons, Bool.and_eq_true] at h
    cases x with
    | str x =>
      show D.str x :: r = D.str x :: (txs r).map .str
      rw [← strs_of h.2]
    | _ => exact absurd h.1 (by simp [isW])
theorem strsOf_map : ∀ ws : List Str, strsOf (ws.map .str) = some ws
  | [] => rfl
  | w :: ws => by
    rw [List.map_cons]
    unfold strsOf
    rw [strsOf_map ws]
    rfl
def wish (d : D) : Bool := match d with
  | .tup xs => decide (xs.length ≤ 8) && xs.all isW && adj (txs xs)
  | _ => false
def fine (d : D) : Bool := match d with
  | .tup xs => decide (xs.length ≤ 8) && xs.all isW
  | _ => false
end K82
/-! # k82: what is a wish, by the law -/
namespace K82
open PySem PySem.Spec PyProof.Rows L2 MI
theorem fc_ok {t : D → S → Option S} {p : S → Res Out} {d : D} {ds : List D} {s s1 s2 : S} (h : t d s = some s1) (h2 : p s1 = .ok .nx s2) : forGo t p (d :: ds) s = forGo t p ds s2 := by
  rw [forGo_cons, h]
  simp only [h2]
theorem fc_ret {t : D → S → Option S} {p : S → Res Out} {d v : D} {ds : List D} {s s1 s2 : S} (h : t d s = some s1) (h2 : p s1 = .ok (.rt v) s2) : forGo t p (d :: ds) s = .ok (.rt v) s2 := by
  rw [forGo_cons, h]
  simp only [h2]
theorem eqAll_str {m : Nat} : ∀ (a b : List Str), eqAll (eqvO m) (a.map D.str) (b.map D.str) = some (decide (a = b))
  | [], [] => by simp [eqAll]
  | [], _ :: _ => by simp [eqAll]
  | _ :: _, [] => by simp [eqAll]
  | x :: xs, y :: ys => by
    have e : eqvO m (.str x) (.str y) = some (x == y) := by cases m <;> simp [eqvO, eqS]
    simp only [List.map_cons, eqAll, e, eqAll_str xs ys, List.cons.injEq]
    by_cases h1 : x = y <;> by_cases h2 : xs = ys <;> simp [h1, h2]
theorem q_eqLS {s : S} {a b : List Str} : opEq false s (.d (.lst (a.map D.str))) (.new (.lst (b.map D.str))) = .ok (.d (.bl (decide (a = b)))) s := by
  have h : eqvO 40 (.lst (a.map D.str)) (.lst (b.map D.str)) = some (decide (a = b)) := eqAll_str a b
  have e1 : asD s (.d (.lst (a.map D.str))) = some (.lst (a.map D.str)) := rfl
  have e2 : asD s (.new (.lst (b.map D.str))) = some (.lst (b.map D.str)) := rfl
  unfold opEq
  rw [e1, e2]
  simp only [h]
  simp
theorem ssT_at {ks : List Str} (hl : ks.length ≤ 1000) {s : S} : fSortedSetT s (.d (.tup (ks.map .str))) = .ok (.new (.lst ((sortS (uni ks)).map .str))) s := by
  have e1 : asD s (.d (.tup (ks.map D.str))) = some (.tup (ks.map .str)) := rfl
  unfold fSortedSetT
  rw [e1]
  simp only [strsOf_map]
  rw [if_pos hl]
theorem ss_at {ks : List Str} (hl : ks.length ≤ 1000) {s : S} : fSortedSet s (.new (.lst (ks.map .str))) = .ok (.new (.lst ((sortS (uni ks)).map .str))) s := by
  have e1 : asD s (.new (.lst (ks.map D.str))) = some (.lst (ks.map .str)) := rfl
  unfold fSortedSet
  rw [e1]
  simp only [strsOf_map]
  rw [if_pos hl]
/-! ### terms -/
structure En where
  a : Str
  o : Str
  l : Int
def enD (e : En) : D := .tup [.str e.a, .str e.o, .int e.l]
def EnOk (e : En) : Prop := e.a.length ≤ 1000 ∧ e.o.length ≤ 1000
def turnW (w : Str) : List En → Str
  | [] => w
  | e :: es => if e.l ≤ (w.length : Int) - e.a.length ∧ cutS w (some ((w.length : Int) - e.a.length)) none = e.a then cutS w none (some ((w.length : Int) - e.a.length)) ++ e.o else turnW w es
theorem cutS_len (z : Str) (lo hi : Option Int) : (cutS z lo hi).length ≤ z.length := by
  unfold cutS
  rw [str_len, str_len]
  simp only [List.length_take, List.length_drop]
  omega
theorem sl_str (z : Str) (h : z.length ≤ 1000) (lo hi : Option Int) (s : S) : opSl lo hi s (.d (.str z)) = .ok (.d (.str (cutS z lo hi))) s := by
  unfold opSl
  simp only [asTup, asLst, asScr, asStr]
  rw [if_pos (szN _ (by omega))]
theorem add_str (x y : Str) (h : x.length ≤ 1000) (h2 : y.length ≤ 1000) (s : S) : opAdd s (.d (.str x)) (.d (.str y)) = .ok (.d (.str (x ++ y))) s := by
  have h : x.length + y.length ≤ sizeLine := szN _ (by omega)
  simp only [opAdd, orF, opAddI, fI, asInt, opAddS, asStr, h, if_true]
theorem eq_str (x y : Str) (s : S) : opEq false s (.d (.str x)) (.d (.str y)) = .ok (.d (.bl (decide (x = y)))) s := by
  have : (x == y) = decide (x = y) := by by_cases h : x = y <;> simp [h]
  simp [opEq, asD, eqvO, eqS, this]
theorem turned_loop (w : Str) (hw : w.length ≤ 1000) (c0 : Slot) (gl : List MObj) : ∀ (es : List En) (c2 c3 c4 c5 : Slot), (∀ e ∈ es, EnOk e) →
    ∃ c2' c3' c4' c5' o, forGo (tgTup [2, 3, 4]) l_turned_word_1 (es.map enD) ⟨[c0, .val (.str w), c2, c3, c4, c5], gl⟩ = .ok o ⟨[c0, .val (.str w), c2', c3', c4', c5'], gl⟩ ∧ (o = .rt (.str (turnW w es)) ∨ (o = .nx ∧ turnW w es = w))
  | [], c2, c3, c4, c5, _ => ⟨c2, c3, c4, c5, .nx, rfl, .inr ⟨rfl, rfl⟩⟩
  | e :: es, c2, c3, c4, c5, h => by
    obtain ⟨h1, h2⟩ := h e List.mem_cons_self
    have l1 := len_str w hw
    have l2 := len_str e.a h1
    have sl := fun lo hi s => sl_str w hw lo hi s
    have eq := fun x s => eq_str x e.a s
    have cl := cutS_len w none (some ((w.length : Int) - e.a.length))
    have ad := add_str (cutS w none (some ((w.length : Int) - e.a.length))) e.o (by omega) h2
    have t1 : tgTup [2, 3, 4] (enD e) ⟨[c0, .val (.str w), c2, c3, c4, c5], gl⟩ = some ⟨[c0, .val (.str w), .val (.str e.a), .val (.str e.o), .val (.int e.l), c5], gl⟩ := by simp [enD, as_d]
    rw [List.map_cons]
    unfold turnW
    by_cases hc : e.l ≤ (w.length : Int) - e.a.length ∧ cutS w (some ((w.length : Int) - e.a.length)) none = e.a
    · refine ⟨_, _, _, _, _, fc_ret t1 (s2 := ⟨[c0, .val (.str w), .val (.str e.a), .val (.str e.o), .val (.int e.l), .val (.int ((w.length : Int) - e.a.length))], gl⟩) (v := .str (cutS w none (some ((w.length : Int) - e.a.length)) ++ e.o)) ?_, .inl (by rw [if_pos hc])⟩
      simp [l_turned_word_1, l1, l2, as_d, hc.1, hc.2, asInt, sl, eq, ad]
    · obtain ⟨d2, d3, d4, d5, o, w1, w2⟩ := turned_loop w hw c0 gl es (.val (.str e.a)) (.val (.str e.o)) (.val (.int e.l)) (.val (.int ((w.length : Int) - e.a.length))) (fun x m => h x (List.mem_cons_of_mem _ m))
      refine ⟨d2, d3, d4, d5, o, (fc_ok t1 ?_).trans w1, by rw [if_neg hc]; exact w2⟩
      by_cases q : e.l ≤ (w.length : Int) - e.a.length
      · have q2 : ¬ cutS w (some ((w.length : Int) - e.a.length)) none = e.a := fun z => hc ⟨q, z⟩
        simp [l_turned_word_1, l1, l2, as_d, q, q2, asInt, sl, eq]
      · simp [l_turned_word_1, l1, l2, as_d, q]
theorem anyO_str (k : Str) : ∀ l : List Str, anyO (fun y => eqvO 40 y (.str k)) (l.map .str) = some (decide (k ∈ l))
  | [] => rfl
  | a :: l => by
    show (match eqvO 40 (.str a) (.str k), anyO (fun y => eqvO 40 y (.str k)) (l.map .str) with | some a, some b => some (a || b) | _, _ => none) = _
    rw [anyO_str k l]
    have : eqvO 40 (.str a) (.str k) = some (a == k) := by simp [eqvO, eqS]
    rw [this]
    simp only [Option.some.injEq]
    by_cases h : a = k
    · subst h; simp
    · have h' : ¬ k = a := fun z => h z.symm
      simp [h, h']
theorem in_str (k : Str) (l : List Str) (s : S) : opIn false s (.d (.str k)) (.d (.tup (l.map .str))) = .ok (.d (.bl (decide (k ∈ l)))) s := by
  have h : asItems s (.d (.tup (l.map .str))) = some (l.map .str) := rfl
  have h2 : asD s (.d (.str k)) = some (.str k) := rfl
  unfold opIn
  rw [h, h2]
  show (match anyO (fun y => eqvO 40 y (.str k)) (l.map .str) with | some r => Res.ok (RV.d (.bl (r != false))) s | none => .stuck) = _
  rw [anyO_str]
  simp
structure Ru where
  st : List Str
  en : List En
def ruD (r : Ru) : D := .tup [.tup (r.st.map .str), .tup (r.en.map enD)]
def RuOk (r : Ru) : Prop := ∀ e ∈ r.en, EnOk e
def termO (r : Ru) (w : Str) : Option Str := if w ∈ r.st then none else some (turnW w r.en)
def oD : Option Str → D
  | none => .non
  | some x => .str x
theorem term_spec (r : Ru) (hr : RuOk r) (w : Str) (hw : w.length ≤ 1000) (gl : List MObj) : f_term_of [ruD r, .str w] gl = .ok (oD (termO r w)) gl := by
  have i0 : ∀ s, opIx s (.d (ruD r)) (.d (.int 0)) = .ok (.d (.tup (r.st.map .str))) s := fun s => q_ixT rfl
  have i1 : ∀ s, opIx s (.d (ruD r)) (.d (.int 1)) = .ok (.d (.tup (r.en.map enD))) s := fun s => q_ixT rfl
  have ins := in_str w r.st
  obtain ⟨d2, d3, d4, d5, o, w1, w2⟩ := turned_loop w hw (.val (.tup (r.en.map enD))) gl r.en .none .none .none .none hr
  have tw : f_turned_word [.tup (r.en.map enD), .str w] gl = .ok (.str (turnW w r.en)) gl := by
    generalize r.en.map enD = L at w1 ⊢
    rcases w2 with rfl | ⟨rfl, e⟩
    · simp [f_turned_word, mDef, List.replicate, b_turned_word, w1]
    · rw [e]
      simp [f_turned_word, mDef, List.replicate, b_turned_word, w1]
  unfold termO
  generalize ruD r = R at *
  generalize r.st.map D.str = L1 at *
  generalize r.en.map enD = L2 at *
  by_cases h : w ∈ r.st
  · simp [f_term_of, mDef, List.replicate, b_term_of, i0, ins, h, oD]
  · simp [f_term_of, mDef, List.replicate, b_term_of, i0, i1, ins, h, oD, tw]
end K82
/-! # k82: rules, words, wishes that are drawn; spoilt ones -/
namespace K82
open PySem PySem.Spec PyProof.Rows L2 MI
theorem pick_go {v : Nat} {cond : S → Res Bool} {env : List Slot} {P : List MObj → Prop} (hv : v < env.length) : ∀ (ds acc : List D) (gl : List MObj), P gl → acc.length + ds.length ≤ sizeLine →
    (∀ d ∈ ds, ∀ gl, P gl → ∃ b gl', cond ⟨env.set v (.val d), gl⟩ = .ok b ⟨env.set v (.val d), gl'⟩ ∧ P gl') →
    ∃ ys gl', compGo [v] (tgName v) cond (mLeak (mVar v)) ds acc ⟨env.set v .none, gl⟩ = some (acc ++ ys, ⟨env.set v .none, gl'⟩) ∧ P gl' ∧ ys.Sublist ds
  | [], acc, gl, hP, _, _ => ⟨[], gl, by simp [compGo], hP, .slnil⟩
  | d :: ds, acc, gl, hP, hl, he => by
    obtain ⟨b, gl1, c1, P1⟩ := he d List.mem_cons_self gl hP
    simp only [List.length_cons] at hl
    have hz : acc.length < sizeLine := by omega
    have ta : tgName v d ⟨env.set v .none, gl⟩ = some ⟨env.set v (.val d), gl⟩ := by
      rw [ap_tgName, as_d (by simpa using hv), List.set_set]
    have e1 : mLeak (mVar v) ⟨env.set v (.val d), gl1⟩ = .ok d ⟨env.set v (.val d), gl1⟩ := by
      rw [ap_Leak, q_var_val (by rw [List.getElem?_set_self hv])]
      rfl
    unfold compGo
    rw [ta]
    simp only [c1]
    cases b with
    | true =>
      obtain ⟨ys, gl', w, P', hs⟩ := pick_go hv ds (acc ++ [d]) gl1 P1 (by simp; omega) fun x m => he x (List.mem_cons_of_mem _ m)
      refine ⟨d :: ys, gl', ?_, P', .cons_cons _ hs⟩
      simp only [if_true, e1, hz]
      show compGo [v] (tgName v) cond (mLeak (mVar v)) ds (acc ++ [d]) ⟨(env.set v (.val d)).set v .none, gl1⟩ = _
      rw [List.set_set, w]
      simp
    | false =>
      obtain ⟨ys, gl', w, P', hs⟩ := pick_go hv ds acc gl1 P1 (by omega) fun x m => he x (List.mem_cons_of_mem _ m)
      refine ⟨ys, gl', ?_, P', .cons _ hs⟩
      simp only [Bool.false_eq_true, if_false]
      show compGo [v] (tgName v) cond (mLeak (mVar v)) ds acc ⟨(env.set v (.val d)).set v .none, gl1⟩ = _
      rw [List.set_set, w]
theorem comp_pick {v : Nat} {cond : S → Res Bool} {env : List Slot} {gl : List MObj} {P : List MObj → Prop} {it : S → Res (List D)} {s0 : S} {ds : List D} (hi : it s0 = .ok ds ⟨env, gl⟩) (hv : v < env.length) (ho : noOwn env [v] = true) (hP : P gl) (hl : ds.length ≤ 1000)
    (he : ∀ d ∈ ds, ∀ gl, P gl → ∃ b gl', cond ⟨env.set v (.val d), gl⟩ = .ok b ⟨env.set v (.val d), gl'⟩ ∧ P gl') :
    ∃ ys gl', mComp [v] it (tgName v) cond (mVar v) s0 = .ok (.new (.lst ys)) ⟨env, gl'⟩ ∧ P gl' ∧ ys.Sublist ds := by
  obtain ⟨ys, gl', h1, h2, h3⟩ := pick_go hv ds [] gl hP (by simpa using szN _ (by omega)) he
  refine ⟨ys, gl', ?_, h2, h3⟩
  rw [ap_Comp, hi, Res.bind_ok, if_pos ho]
  show (match compGo [v] (tgName v) cond (mLeak (mVar v)) ds [] ⟨env.set v .none, gl⟩ with | some (acc, s2) => Res.ok (RV.new (.lst acc)) ⟨restE env s2.env [v], s2.gl⟩ | none => .stuck) = _
  rw [h1]
  show Res.ok (RV.new (.lst ([] ++ ys))) (⟨restE env (env.set v .none) [v], gl'⟩ : S) = _
  rw [restE_one hv, List.nil_append]
/-! ### rules -/
theorem ft_new (l : List D) (s : S) : fTuple s (.new (.lst l)) = .ok (.d (.tup l)) s := rfl
/-! ### words -/
def WDS : List Str := ["cat", "cats", "dog", "dogs", "run", "a", "the", "x2"]
theorem words_of {ds ys : List D} (h : All2 (fun _ y => ∃ w : Str, y = .str w ∧ w.length ≤ 1000) ds ys) : ∃ ws : List Str, ys = ws.map .str ∧ ws.length = ds.length ∧ ∀ w ∈ ws, w.length ≤ 1000 := by
  induction h with
  | nil => exact ⟨[], rfl, rfl, fun w m => nomatch m⟩
  | cons r _ ih =>
    obtain ⟨w, rfl, hw⟩ := r
    obtain ⟨ws, rfl, hl, hm⟩ := ih
    refine ⟨w :: ws, rfl, by simp [hl], fun x m => ?_⟩
    rcases List.mem_cons.mp m with rfl | m
    · exact hw
    · exact hm x m
/-! ### spoilt -/
def baseL : List D := [.non, .tup [], .int 0, .int 1, .bl true, .bl false, .str "a", .int (-1), .tup [.int 0], .tup [.tup [.int 0, .int 0]]]
theorem base_ok : ∀ y ∈ baseL, Ok2 y := by
  intro y m
  unfold baseL at m
  simp only [List.mem_cons, List.not_mem_nil, or_false] at m
  rcases m with rfl | rfl | rfl | rfl | rfl | rfl | rfl | rfl | rfl | rfl
  · exact trivial
  · exact ⟨by simp, fun x m => nomatch m⟩
  · exact trivial
  · exact trivial
  · exact trivial
  · exact trivial
  · exact show Str.length "a" ≤ 1000 by decide
  · exact trivial
  · exact ⟨by simp, fun x m => by rw [List.mem_singleton.mp m]; exact trivial⟩
  · exact ⟨by simp, fun x m => by rw [List.mem_singleton.mp m]; exact show [_, _].length ≤ 1000 by simp⟩
theorem cut_mem {α : Type} {xs : List α} {lo hi : Option Int} {x : α} (h : x ∈ cut xs lo hi) : x ∈ xs := List.mem_of_mem_drop (List.mem_of_mem_take h)
theorem cut_len {α : Type} (xs : List α) (lo hi : Option Int) : (cut xs lo hi).length ≤ xs.length := by
  unfold cut
  rw [List.length_take, List.length_drop]
  omega
theorem addT (a b : List D) (h : a.length ≤ 2000) (h2 : b.length ≤ 2000) (s : S) : opAdd s (.d (.tup a)) (.d (.tup b)) = .ok (.d (.tup (a ++ b))) s := q_addT (szN _ (by omega))
end K82
/-! # k82: the words of a text -/
namespace K82
open PySem PySem.Spec PyProof.Rows L2 MI
abbrev sg (c : Nat) : D := .str ⟨#[c]⟩
def pD (p : Nat × Nat) : D := .tup [.int p.1, .int p.2]
def fD : Option Nat → D
  | none => .non
  | some a => .int a
theorem szN1 {n : Nat} (h : n ≤ 20000) : n < sizeLine := Nat.lt_of_succ_le (szN _ (by omega))
@[simp] theorem isn_n (b : Bool) (s : S) : opIsN b s (.d .non) (.d .non) = .ok (.d (.bl (!b))) s := by cases b <;> rfl
@[simp] theorem isn_i (b : Bool) (i : Int) (s : S) : opIsN b s (.d (.int i)) (.d .non) = .ok (.d (.bl b)) s := by cases b <;> rfl
@[simp] theorem isn_s (b : Bool) (i : Str) (s : S) : opIsN b s (.d (.str i)) (.d .non) = .ok (.d (.bl b)) s := by cases b <;> rfl
@[simp] theorem isn_t (b : Bool) (i : List D) (s : S) : opIsN b s (.d (.tup i)) (.d .non) = .ok (.d (.bl b)) s := by cases b <;> rfl
/-- the words gone by, and where one has begun -/
def spG (p : Nat) (f : Option Nat) : List Nat → List (Nat × Nat) × Option Nat
  | [] => ([], f)
  | c :: L => if wsg c = true then spG (p + 1) (some (f.getD p)) L else match f with
    | none => spG (p + 1) none L
    | some a => ((a, p) :: (spG (p + 1) none L).1, (spG (p + 1) none L).2)
def lastS (n : Nat) : Option Nat → List (Nat × Nat)
  | none => []
  | some a => [(a, n)]
def spansL (L : List Nat) : List (Nat × Nat) := (spG 0 none L).1 ++ lastS L.length (spG 0 none L).2
def spans (x : Str) : List (Nat × Nat) := spansL x.cps.toList
theorem spG_len : ∀ (L : List Nat) (p : Nat) (f : Option Nat), (spG p f L).1.length ≤ L.length
  | [], _, _ => Nat.le_refl _
  | c :: L, p, f => by
    unfold spG
    split
    · have := spG_len L (p + 1) (some (f.getD p)); simp only [List.length_cons]; omega
    · cases f with
      | none => have := spG_len L (p + 1) none; simp only [List.length_cons]; omega
      | some a => have := spG_len L (p + 1) none; simp only [List.length_cons]; omega
theorem spans_len (x : Str) : (spans x).length ≤ x.length + 1 := by
  have := spG_len x.cps.toList 0 none
  have h2 : ∀ o, (lastS x.cps.toList.length o).length ≤ 1 := fun o => by cases o <;> simp [lastS]
  have := h2 (spG 0 none x.cps.toList).2
  unfold spans spansL
  rw [List.length_append, str_len]
  omega
theorem is_sign (c : Nat) (gl : List MObj) : f_is_word_sign [sg c] gl = .ok (.bl (wsg c)) gl := sign_spec c gl
theorem spans_loop (x : Str) (gl : List MObj) : ∀ (L : List Nat) (p : Nat) (f : Option Nat) (acc : List D) (c3 c4 : Slot), acc.length + L.length ≤ 10000 →
    ∃ d3 d4, forGo (tgTup [3, 4]) l_spans_in_1 (enumD p (L.map sg)) ⟨[.val (.str x), .own (.lst acc), .val (fD f), c3, c4], gl⟩ =
      .ok .nx ⟨[.val (.str x), .own (.lst (acc ++ (spG p f L).1.map pD)), .val (fD (spG p f L).2), d3, d4], gl⟩
  | [], p, f, acc, c3, c4, _ => ⟨c3, c4, by simp [enumD, spG]⟩
  | c :: L, p, f, acc, c3, c4, hl => by
    simp only [List.length_cons] at hl
    have t1 : tgTup [3, 4] (.tup [.int ((p : Nat) : Int), sg c]) ⟨[.val (.str x), .own (.lst acc), .val (fD f), c3, c4], gl⟩ = some ⟨[.val (.str x), .own (.lst acc), .val (fD f), .val (.int (p : Nat)), .val (sg c)], gl⟩ := by simp [as_d]
    have w := is_sign c gl
    have sz : acc.length < sizeLine := szN1 (by omega)
    rw [List.map_cons]
    unfold enumD spG
    by_cases h : wsg c = true
    · rw [h] at w
      obtain ⟨d3, d4, e⟩ := spans_loop x gl L (p + 1) (some (f.getD p)) acc (.val (.int (p : Nat))) (.val (sg c)) (by omega)
      refine ⟨d3, d4, (fc_ok t1 ?_).trans (by rw [if_pos h]; exact e)⟩
      cases f with
      | none => simp [l_spans_in_1, w, asD, truthD, fD, as_d]
      | some a => simp [l_spans_in_1, w, asD, truthD, fD, as_d]
    · rw [if_neg h]
      have h' : wsg c = false := by simpa using h
      rw [h'] at w
      cases f with
      | none =>
        obtain ⟨d3, d4, e⟩ := spans_loop x gl L (p + 1) none acc (.val (.int (p : Nat))) (.val (sg c)) (by omega)
        refine ⟨d3, d4, (fc_ok t1 ?_).trans e⟩
        simp [l_spans_in_1, w, asD, truthD, fD, as_d]
      | some a =>
        obtain ⟨d3, d4, e⟩ := spans_loop x gl L (p + 1) none (acc ++ [pD (a, p)]) (.val (.int (p : Nat))) (.val (sg c)) (by simp; omega)
        refine ⟨d3, d4, (fc_ok t1 (s2 := ⟨[.val (.str x), .own (.lst (acc ++ [pD (a, p)])), .val (fD none), .val (.int (p : Nat)), .val (sg c)], gl⟩) ?_).trans (by rw [e]; simp)⟩
        simp [l_spans_in_1, w, asD, truthD, fD, as_d, sz, pD, fAppend]
theorem spans_spec (x : Str) (hx : x.length ≤ 1000) (gl : List MObj) : f_spans_in [.str x] gl = .ok (.lst ((spans x).map pD)) gl := by
  obtain ⟨d3, d4, e⟩ := spans_loop x gl x.cps.toList 0 none [] .none .none (by rw [← str_len]; simp; omega)
  have ln := len_str x hx
  have hl := spG_len x.cps.toList 0 none
  have e' : forGo (tgTup [3, 4]) l_spans_in_1 (enumD 0 (signs x)) ⟨[.val (.str x), .own (.lst []), .val .non, .none, .none], gl⟩ = _ := e
  have ex : x.length = x.cps.toList.length := str_len x
  unfold spans spansL
  rw [List.map_append]
  generalize hg : (spG 0 none x.cps.toList) = G at e' hl ⊢
  obtain ⟨G1, G2⟩ := G
  have sz : ∀ k, k ≤ 1 → (G1.map pD).length + k ≤ sizeLine := fun k hk => szN _ (by have h : G1.length ≤ x.cps.toList.length := hl; rw [List.length_map]; omega)
  cases G2 with
  | none =>
    have ad : ∀ s, asLst s (.at 1) = some (G1.map pD) → opAdd s (.at 1) (.new (.lst [])) = .ok (.new (.lst (G1.map pD ++ []))) s := fun s h => q_addL h rfl (by simpa using sz 0 (by omega))
    simp only [fD, List.nil_append] at e'
    generalize G1.map pD = M at *
    simp [-List.append_eq, f_spans_in, mDef, List.replicate, b_spans_in, iEnumT, as_new, as_d, sz1, e', lastS, ad, asLst]
  | some a =>
    have ad : ∀ s, asLst s (.at 1) = some (G1.map pD) → opAdd s (.at 1) (.new (.lst [.tup [.int a, .int x.cps.size]])) = .ok (.new (.lst (G1.map pD ++ [.tup [.int a, .int x.cps.size]]))) s := fun s h => q_addL h rfl (by simpa using sz 1 (by omega))
    simp only [fD, List.nil_append] at e'
    generalize G1.map pD = M at *
    simp [-List.append_eq, f_spans_in, mDef, List.replicate, b_spans_in, iEnumT, as_new, as_d, sz1, e', lastS, ad, asLst, ln, pD, ex]
end K82
/-! # k82: the law's words; terms of a text -/
namespace K82
open PySem PySem.Spec PyProof.Rows L2 MI
def AN2 : Str := "0123456789abcdefghijklmnopqrstuvwxyz"
theorem an2 (c : Nat) : decide (c ∈ AN2.cps.toList) = wsg c := by
  unfold wsg
  congr 1
  have h : ∀ a ∈ AN2.cps.toList, a ∈ AN.cps.toList := by decide +kernel
  have h' : ∀ a ∈ AN.cps.toList, a ∈ AN2.cps.toList := by decide +kernel
  exact propext ⟨h c, h' c⟩
/-- what has been gathered since the word began -/
def hereL (p : Nat) (here : Str) : Option Nat → Prop
  | none => here = ""
  | some a => a < p ∧ here.length = p - a
theorem here_ne {p a : Nat} {here : Str} (h : hereL p here (some a)) : here ≠ "" := fun z => by
  obtain ⟨h1, h2⟩ := h
  rw [z] at h2
  have : Str.length "" = 0 := by decide
  omega
theorem add_len (x : Str) (c : Nat) : (x ++ (⟨#[c]⟩ : Str)).length = x.length + 1 := by
  rw [str_len, str_len]
  show ((x.cps ++ #[c]).toList).length = _
  simp
theorem ne_str (x y : Str) (s : S) : opEq true s (.d (.str x)) (.d (.str y)) = .ok (.d (.bl (!decide (x = y)))) s := by
  have : (x == y) = decide (x = y) := by by_cases h : x = y <;> simp [h]
  simp [opEq, asD, eqvO, eqS, this]
theorem atI_getG {α : Type} {xs : List α} {k : Nat} {x : α} (h : xs[k]? = some x) : atI xs (k : Int) = some x := by
  have hk := (List.getElem?_eq_some_iff.mp h).1
  have e : ixN xs.length (k : Int) = some k := by
    unfold ixN
    rw [if_pos (by omega)]
    try rw [if_pos (by omega)]
    try simp
  unfold atI
  rw [e]
  exact h
theorem ix_str (x : Str) (hx : x.length ≤ 1000) (k c : Nat) (h : x.cps.toList[k]? = some c) (s : S) : opIx s (.d (.str x)) (.d (.int k)) = .ok (.d (sg c)) s := by
  have h1 : atI x.cps.toList (k : Int) = some c := atI_getG h
  have sz : x.length ≤ sizeLine := szN _ (by omega)
  unfold opIx
  simp only [asTup, asLst, asStr, asInt, h1, sz, if_true]
def outS (p : Nat) (f : Option Nat) (L : List Nat) : List (Nat × Nat) := (spG p f L).1 ++ lastS (p + L.length) (spG p f L).2
theorem pieces_loop (x : Str) (hx : x.length ≤ 1000) (gl : List MObj) : ∀ (L : List Nat) (p : Nat) (f : Option Nat) (here : Str) (acc : List D) (c1 : Slot), x.cps.toList.drop p = L → p + L.length = x.length → hereL p here f → acc.length + L.length ≤ 10000 → here.length ≤ 1000 →
    ∃ d1 here', forGo (tgName 1) l__law_pieces_1 (rangeD p (L.length + 1)) ⟨[.val (.str x), c1, .own (.lst acc), .val (.str here)], gl⟩ =
      .ok .nx ⟨[.val (.str x), d1, .own (.lst (acc ++ (outS p f L).map pD)), .val (.str here')], gl⟩
  | [], p, f, here, acc, c1, hd, hp, h, hl, hh => by
    have t1 : tgName 1 (.int (p : Nat)) ⟨[.val (.str x), c1, .own (.lst acc), .val (.str here)], gl⟩ = some ⟨[.val (.str x), .val (.int (p : Nat)), .own (.lst acc), .val (.str here)], gl⟩ := by simp [as_d]
    have ln := len_str x hx
    have lh := len_str here hh
    have hp' : p = x.length := by simpa using hp
    have lt : ∀ s, opLt s (.d (.int p)) (.d (.int x.length)) = .ok (.d (.bl false)) s := fun s => by rw [q_lt, decide_eq_false (by omega)]
    have sz : acc.length < sizeLine := szN1 (by simp at hl; omega)
    unfold outS spG
    cases f with
    | none =>
      have h' : here = "" := h
      subst h'
      have ne : ∀ s, opEq true s (.d (.str "")) (.d (.str "")) = .ok (.d (.bl false)) s := fun s => ne_str "" "" s
      refine ⟨.val (.int (p : Nat)), "", (fc_ok t1 (s2 := ⟨[.val (.str x), .val (.int (p : Nat)), .own (.lst acc), .val (.str "")], gl⟩) ?_).trans (by simp [rangeD, lastS])⟩
      simp [-q_lt, l__law_pieces_1, ln, lt, ne]
    | some a =>
      have nn := here_ne h
      obtain ⟨q1, q2⟩ := h
      have ne : ∀ s, opEq true s (.d (.str here)) (.d (.str "")) = .ok (.d (.bl true)) s := fun s => by rw [ne_str, decide_eq_false nn]; rfl
      have ei : (p : Int) - here.length = a := by omega
      refine ⟨.val (.int (p : Nat)), "", (fc_ok t1 (s2 := ⟨[.val (.str x), .val (.int (p : Nat)), .own (.lst (acc ++ [pD (a, p)])), .val (.str "")], gl⟩) ?_).trans (by simp [rangeD, lastS])⟩
      simp [-q_lt, l__law_pieces_1, ln, lt, ne, lh, ei, pD, fAppend, sz, as_d]
  | c :: L, p, f, here, acc, c1, hd, hp0, h, hl, hh => by
    simp only [List.length_cons] at hl
    have hc : x.cps.toList[p]? = some c := by
      have := congrArg (fun l => l[0]?) hd
      simpa using this
    have hp : p < x.length := by rw [str_len]; exact (List.getElem?_eq_some_iff.mp hc).1
    have hd' : x.cps.toList.drop (p + 1) = L := by rw [← List.drop_drop, hd]; rfl
    have t1 : tgName 1 (.int (p : Nat)) ⟨[.val (.str x), c1, .own (.lst acc), .val (.str here)], gl⟩ = some ⟨[.val (.str x), .val (.int (p : Nat)), .own (.lst acc), .val (.str here)], gl⟩ := by simp [as_d]
    have ln := len_str x hx
    have ix := ix_str x hx p c hc
    have oc : ∀ s, opInC false s (.d (sg c)) (.d (.str "0123456789abcdefghijklmnopqrstuvwxyz")) = .ok (.d (.bl (wsg c))) s := fun s => by rw [← an2]; exact opC_txt c AN2 s
    have lt : ∀ s, opLt s (.d (.int p)) (.d (.int x.length)) = .ok (.d (.bl true)) s := fun s => by rw [q_lt, decide_eq_true (by omega)]
    have sz : acc.length < sizeLine := szN1 (by omega)
    have lh := len_str here hh
    have hp1 : p + 1 + L.length = x.length := by simp at hp0; omega
    rw [List.length_cons]
    unfold rangeD outS spG
    rw [show ((p : Nat) : Int) + 1 = ((p + 1 : Nat) : Int) by omega, show p + (c :: L).length = p + 1 + L.length by simp; omega]
    by_cases hw : wsg c = true
    · rw [hw] at oc
      have hn : hereL (p + 1) (here ++ ⟨#[c]⟩) (some (f.getD p)) := by
        cases f with
        | none =>
          have h' : here = "" := h
          subst h'
          exact ⟨by simp, by rw [add_len]; simp; decide⟩
        | some a =>
          obtain ⟨q1, q2⟩ := h
          exact ⟨by simp; omega, by rw [add_len]; simp; omega⟩
      have hl2 : (here ++ (⟨#[c]⟩ : Str)).length ≤ 1000 := by
        have e := hn.2
        omega
      obtain ⟨d1, here', e⟩ := pieces_loop x hx gl L (p + 1) (some (f.getD p)) (here ++ ⟨#[c]⟩) acc (.val (.int (p : Nat))) hd' hp1 hn (by omega) hl2
      have ad := add_str here ⟨#[c]⟩ hh (by show Str.length ⟨#[c]⟩ ≤ 1000; simp [Str.length])
      rw [if_pos hw]
      refine ⟨d1, here', (fc_ok t1 ?_).trans e⟩
      simp [-q_lt, l__law_pieces_1, ln, lt, ix, oc, ad, as_d]
    · have hw' : wsg c = false := by simpa using hw
      rw [hw'] at oc
      rw [if_neg hw]
      cases f with
      | none =>
        have h' : here = "" := h
        subst h'
        obtain ⟨d1, here', e⟩ := pieces_loop x hx gl L (p + 1) none "" acc (.val (.int (p : Nat))) hd' hp1 rfl (by omega) hh
        have ne : ∀ s, opEq true s (.d (.str "")) (.d (.str "")) = .ok (.d (.bl false)) s := fun s => ne_str "" "" s
        refine ⟨d1, here', (fc_ok t1 ?_).trans e⟩
        simp [-q_lt, l__law_pieces_1, ln, lt, ix, oc, ne]
      | some a =>
        have nn := here_ne h
        obtain ⟨q1, q2⟩ := h
        have ne : ∀ s, opEq true s (.d (.str here)) (.d (.str "")) = .ok (.d (.bl true)) s := fun s => by rw [ne_str, decide_eq_false nn]; rfl
        have ei : (p : Int) - here.length = a := by omega
        obtain ⟨d1, here', e⟩ := pieces_loop x hx gl L (p + 1) none "" (acc ++ [pD (a, p)]) (.val (.int (p : Nat))) hd' hp1 rfl (by simp; omega) (by decide)
        refine ⟨d1, here', (fc_ok t1 (s2 := ⟨[.val (.str x), .val (.int (p : Nat)), .own (.lst (acc ++ [pD (a, p)])), .val (.str "")], gl⟩) ?_).trans (by rw [e]; simp [outS])⟩
        simp [-q_lt, l__law_pieces_1, ln, lt, ix, oc, ne, lh, ei, pD, fAppend, sz, as_d]
theorem pieces_spec (x : Str) (hx : x.length ≤ 1000) (gl : List MObj) : f__law_pieces [.str x] gl = .ok (.lst ((spans x).map pD)) gl := by
  have ex : x.length = x.cps.toList.length := str_len x
  obtain ⟨d1, here, e⟩ := pieces_loop x hx gl x.cps.toList 0 none "" [] .none rfl (by omega) rfl (by simp at ex ⊢; omega) (by decide)
  have ln := len_str x hx
  have r1 : rng1 ((x.length : Int) + 1) = some (rangeD 0 (x.length + 1)) := by
    rw [rng1_eq, if_pos (by constructor <;> omega)]
    congr 2
  have eo : outS 0 none x.cps.toList = spans x := by
    unfold outS spans spansL
    rw [Nat.zero_add]
  rw [eo, ← ex] at e
  generalize (spans x).map pD = M at *
  have e : forGo (tgName 1) l__law_pieces_1 (rangeD 0 (x.length + 1)) ⟨[.val (.str x), .none, .own (.lst []), .val (.str "")], gl⟩ = .ok .nx ⟨[.val (.str x), d1, .own (.lst M), .val (.str here)], gl⟩ := e
  simp [-List.append_eq, f__law_pieces, mDef, List.replicate, b__law_pieces, iRange1, as_new, as_d, ln, r1, e]
end K82
/-! # k82: terms of a text, by the program and by the law -/
namespace K82
open PySem PySem.Spec PyProof.Rows L2 MI
def wd (x : Str) (p : Nat × Nat) : Str := cutS x (some (p.1 : Int)) (some (p.2 : Int))
def rowS (r : Ru) (x : Str) : List (Option Str) := (spans x).map fun p => termO r (wd x p)
def rowD (r : Ru) (x : Str) : List D := (rowS r x).map oD
theorem wd_len (x : Str) (p : Nat × Nat) : (wd x p).length ≤ x.length := cutS_len _ _ _
theorem words_spec (x : Str) (hx : x.length ≤ 1000) (gl : List MObj) : f_words_in [.str x] gl = .ok (.lst ((spans x).map fun p => D.str (wd x p))) gl := by
  have sp := spans_spec x hx gl
  have sl := sl_str x hx
  have hl := spans_len x
  have cm : mComp [1, 2] (iSeq (mCall f_spans_in (mACons (mVar 0) mANil))) (tgTup [1, 2]) mYes e_words_in_1 ⟨[.val (.str x), .none, .none], gl⟩ = .ok (.new (.lst ((spans x).map fun p => D.str (wd x p)))) ⟨[.val (.str x), .none, .none], gl⟩ := by
    refine comp_mapG (spans x) pD _ (by simp [iSeq, sp]) rfl (by omega) fun p m => ⟨[.val (.str x), .val (.int p.1), .val (.int p.2)], [.val (.str x), .val (.int p.1), .val (.int p.2)], ?_, ?_, rfl⟩
    · simp [pD, as_d, wipeE]
    · simp [e_words_in_1, asInt, sl, wd]
  simp [-ap_Comp, f_words_in, mDef, List.replicate, b_words_in, cm]
theorem terms_spec (r : Ru) (hr : RuOk r) (x : Str) (hx : x.length ≤ 1000) (gl : List MObj) : f_terms_in [ruD r, .str x] gl = .ok (.lst (rowD r x)) gl := by
  have ws := words_spec x hx gl
  have hl := spans_len x
  have e0 : rowD r x = (spans x).map fun p => oD (termO r (wd x p)) := by unfold rowD rowS; rw [List.map_map]; rfl
  have cm : mComp [2] (iSeq (mCall f_words_in (mACons (mVar 1) mANil))) (tgName 2) mYes e_terms_in_1 ⟨[.val (ruD r), .val (.str x), .none], gl⟩ = .ok (.new (.lst (rowD r x))) ⟨[.val (ruD r), .val (.str x), .none], gl⟩ := by
    rw [e0]
    refine comp_mapI (spans x) (fun p => D.str (wd x p)) _ (by simp [iSeq, ws]) (by simp) rfl (by omega) fun p m => ?_
    have ts := fun gl => term_spec r hr (wd x p) (Nat.le_trans (wd_len x p) hx) gl
    generalize ruD r = R at *
    simp [e_terms_in_1, ts]
  generalize rowD r x = M at *
  generalize ruD r = R at *
  simp [-ap_Comp, f_terms_in, mDef, List.replicate, b_terms_in, cm]
/-! ### by the law -/
def fitsE (w : Str) (e : En) : Bool := decide (e.l ≤ (w.length : Int) - e.a.length) && decide (cutS w (some ((w.length : Int) - e.a.length)) none = e.a)
def headW (w : Str) : List En → Str
  | [] => w
  | e :: _ => cutS w none (some ((w.length : Int) - e.a.length)) ++ e.o
theorem turn_flt (w : Str) : ∀ es : List En, turnW w es = headW w (es.filter (fitsE w))
  | [] => rfl
  | e :: es => by
    unfold turnW
    rw [List.filter_cons]
    by_cases h : e.l ≤ (w.length : Int) - e.a.length ∧ cutS w (some ((w.length : Int) - e.a.length)) none = e.a
    · have : fitsE w e = true := by unfold fitsE; rw [decide_eq_true h.1, decide_eq_true h.2]; rfl
      rw [if_pos h, if_pos this]
      rfl
    · have : ¬ fitsE w e = true := fun z => h (by
        unfold fitsE at z
        rw [Bool.and_eq_true, decide_eq_true_eq, decide_eq_true_eq] at z
        exact z)
      rw [if_neg h, if_neg this]
      exact turn_flt w es
theorem law_term (r : Ru) (hr : RuOk r) (hn : r.en.length ≤ 1000) (w : Str) (hw : w.length ≤ 1000) (gl : List MObj) : f__law_term [ruD r, .str w] gl = .ok (oD (termO r w)) gl := by
  have i0 : ∀ s, opIx s (.d (ruD r)) (.d (.int 0)) = .ok (.d (.tup (r.st.map .str))) s := fun s => q_ixT rfl
  have i1 : ∀ s, opIx s (.d (ruD r)) (.d (.int 1)) = .ok (.d (.tup (r.en.map enD))) s := fun s => q_ixT rfl
  have ins := in_str w r.st
  have lw := len_str w hw
  have cm : ∀ c2 c3, NoO c3 → mComp [3] (iSeq (mBin opIx (mVar 0) (mC (.int 1)))) (tgName 3) c__law_term_1 (mVar 3) ⟨[.val (ruD r), .val (.str w), c2, c3], gl⟩ = .ok (.new (.lst ((r.en.filter (fitsE w)).map enD))) ⟨[.val (ruD r), .val (.str w), c2, c3], gl⟩ := by
    intro c2 c3 hc
    refine comp_flt r.en enD enD (fitsE w) (by simp [iSeq, i1]) (by simp) (no_of rfl hc) (by omega) (fun e m => ⟨?_, fun _ => ?_⟩)
    · obtain ⟨h1, h2⟩ := hr e m
      have le := len_str e.a h1
      have sl := sl_str w hw
      have eq := fun x s => eq_str x e.a s
      have j0 : ∀ s, opIx s (.d (enD e)) (.d (.int 0)) = .ok (.d (.str e.a)) s := fun s => q_ixT rfl
      have j2 : ∀ s, opIx s (.d (enD e)) (.d (.int 2)) = .ok (.d (.int e.l)) s := fun s => q_ixT rfl
      generalize enD e = Ed at *
      generalize ruD r = R at *
      have ge : ∀ s, opGe s (.d (.int ((w.length : Int) - e.a.length))) (.d (.int e.l)) = .ok (.d (.bl (decide (e.l ≤ (w.length : Int) - e.a.length)))) s := fun s => q_ge
      unfold fitsE
      by_cases q1 : e.l ≤ (w.length : Int) - e.a.length
      · rw [decide_eq_true q1] at ge ⊢
        simp [-q_ge, c__law_term_1, j0, j2, lw, le, ge, asInt, sl, eq]
      · rw [decide_eq_false q1] at ge ⊢
        simp [-q_ge, c__law_term_1, j0, j2, lw, le, ge]
    · generalize ruD r = R at *
      simp
  have cm := cm .none .none no_none
  unfold termO
  by_cases h : w ∈ r.st
  · rw [if_pos h]
    rw [decide_eq_true h] at ins
    generalize ruD r = R at *
    generalize r.st.map D.str = L1 at *
    simp [-ap_Comp, f__law_term, mDef, List.replicate, b__law_term, i0, ins, oD]
  · rw [if_neg h, turn_flt]
    rw [decide_eq_false h] at ins
    have sub : ∀ e ∈ r.en.filter (fitsE w), EnOk e := fun e m => hr e (List.mem_filter.mp m).1
    generalize ruD r = R at *
    generalize r.st.map D.str = L1 at *
    generalize hf : r.en.filter (fitsE w) = fs at *
    cases fs with
    | nil =>
      have eq : ∀ s, asD s (.at 2) = some (.lst []) → opEq false s (.at 2) (.new (.lst [])) = .ok (.d (.bl true)) s := fun s h => by
        have e2 : asD s (.new (.lst [])) = some (.lst []) := rfl
        unfold opEq
        rw [h, e2]
        rfl
      simp [-ap_Comp, f__law_term, mDef, List.replicate, b__law_term, i0, ins, oD, cm, as_new, eq, asD, headW]
    | cons e fs =>
      obtain ⟨h1, h2⟩ := sub e List.mem_cons_self
      have le := len_str e.a h1
      have sl := sl_str w hw
      have j0 : ∀ s, opIx s (.d (enD e)) (.d (.int 0)) = .ok (.d (.str e.a)) s := fun s => q_ixT rfl
      have j1 : ∀ s, opIx s (.d (enD e)) (.d (.int 1)) = .ok (.d (.str e.o)) s := fun s => q_ixT rfl
      have cl := cutS_len w none (some ((w.length : Int) - e.a.length))
      have ad := add_str (cutS w none (some ((w.length : Int) - e.a.length))) e.o (by omega) h2
      have eq : ∀ s, asD s (.at 2) = some (.lst (enD e :: fs.map enD)) → opEq false s (.at 2) (.new (.lst [])) = .ok (.d (.bl false)) s := fun s h => by
        have e2 : asD s (.new (.lst [])) = some (.lst []) := rfl
        unfold opEq
        rw [h, e2]
        rfl
      have ix : ∀ s, asLst s (.at 2) = some (enD e :: fs.map enD) → opIx s (.at 2) (.d (.int 0)) = .ok (.d (enD e)) s := fun s h => q_ixL h (atI_get (k := 0) rfl)
      rw [List.map_cons] at cm
      generalize fs.map enD = M at *
      generalize enD e = Ed at *
      simp [-ap_Comp, f__law_term, mDef, List.replicate, b__law_term, i0, ins, oD, cm, as_new, eq, asD, asLst, ix, j0, j1, lw, le, asInt, sl, ad, headW]
theorem law_terms (r : Ru) (hr : RuOk r) (hn : r.en.length ≤ 1000) (x : Str) (hx : x.length ≤ 1000) (gl : List MObj) : f__law_terms [ruD r, .str x] gl = .ok (.lst (rowD r x)) gl := by
  have ps := pieces_spec x hx gl
  have hl := spans_len x
  have sl := sl_str x hx
  have e0 : rowD r x = (spans x).map fun p => oD (termO r (wd x p)) := by unfold rowD rowS; rw [List.map_map]; rfl
  have cm : mComp [2, 3] (iSeq (mCall f__law_pieces (mACons (mVar 1) mANil))) (tgTup [2, 3]) mYes e__law_terms_1 ⟨[.val (ruD r), .val (.str x), .none, .none], gl⟩ = .ok (.new (.lst (rowD r x))) ⟨[.val (ruD r), .val (.str x), .none, .none], gl⟩ := by
    rw [e0]
    refine comp_mapG (spans x) pD _ (by simp [iSeq, ps]) rfl (by omega) fun p m => ⟨[.val (ruD r), .val (.str x), .val (.int p.1), .val (.int p.2)], [.val (ruD r), .val (.str x), .val (.int p.1), .val (.int p.2)], ?_, ?_, rfl⟩
    · simp [pD, as_d, wipeE]
    · have ts := fun gl => law_term r hr hn (wd x p) (Nat.le_trans (wd_len x p) hx) gl
      unfold wd at ts ⊢
      generalize ruD r = R at *
      simp [e__law_terms_1, asInt, sl, ts]
  generalize rowD r x = M at *
  generalize ruD r = R at *
  simp [-ap_Comp, f__law_terms, mDef, List.replicate, b__law_terms, cm]
end K82
/-! # k82: rules, words and texts that are drawn -/
namespace K82
open PySem PySem.Spec PyProof.Rows L2 MI
theorem ft_new' (l : List D) (s : S) : fTuple s (.new (.lst l)) = .ok (.d (.tup l)) s := rfl
theorem eqII (i j : Int) (s : S) : opEq false s (.d (.int i)) (.d (.int j)) = .ok (.d (.bl (i == j))) s := by simp [opEq, asD, eqvO, eqS]
theorem rules_spec (gl : List MObj) (hB : Bx gl) : ∃ r gl', f__law_rules [.ref 1] gl = .ok (ruD r) gl' ∧ Bx gl' ∧ RuOk r ∧ r.en.length ≤ 1000 := by
  obtain ⟨y1, gl1, w1, B1, s1⟩ := comp_pick (v := 3) (cond := c__law_rules_2) (env := [.val (.ref 1), .none, .none, .none, .none]) (gl := gl) (P := Bx) (it := iSeq (mTup (mACons (mC (.str "a1")) (mACons (mC (.str "and")) (mACons (mC (.str "the")) mANil))))) (s0 := ⟨[.val (.ref 1), .none, .none, .none, .none], gl⟩) (ds := (["a1", "and", "the"] : List Str).map D.str)
    (by simp [iSeq]) (by simp) rfl hB (by simp) (fun d m gl hB => by
      obtain ⟨r, gl', d1, r1, r2, B1⟩ := draw_spec gl 2 hB (by omega) (by omega)
      exact ⟨(r == 0), gl', by simp [c__law_rules_2, d1, eqII], B1⟩)
  have w1 : mComp [3] (iSeq (mTup (mACons (mC (.str "a1")) (mACons (mC (.str "and")) (mACons (mC (.str "the")) mANil))))) (tgName 3) c__law_rules_2 (mVar 3) ⟨[.val (.ref 1), .none, .none, .none, .none], gl⟩ = .ok (.new (.lst y1)) ⟨[.val (.ref 1), .none, .none, .none, .none], gl1⟩ := w1
  obtain ⟨y2, gl2, w2, B2, s2⟩ := comp_pick (v := 4) (cond := c__law_rules_1) (env := [.val (.ref 1), .val (.tup y1), .none, .none, .none]) (gl := gl1) (P := Bx) (it := iSeq (mTup (mACons (mTup (mACons (mC (.str "ies")) (mACons (mC (.str "y")) (mACons (mC (.int 1)) mANil)))) (mACons (mTup (mACons (mC (.str "s")) (mACons (mC (.str "")) (mACons (mC (.int 2)) mANil)))) (mACons (mTup (mACons (mC (.str "ch")) (mACons (mC (.str "")) (mACons (mC (.int 3)) mANil)))) mANil))))) (s0 := ⟨[.val (.ref 1), .val (.tup y1), .none, .none, .none], gl1⟩) (ds := ([⟨"ies", "y", 1⟩, ⟨"s", "", 2⟩, ⟨"ch", "", 3⟩] : List En).map enD)
    (by simp [iSeq, enD]) (by simp) rfl B1 (by simp) (fun d m gl hB => by
      obtain ⟨r, gl', d1, r1, r2, B1⟩ := draw_spec gl 3 hB (by omega) (by omega)
      exact ⟨decide (0 < r), gl', by simp [c__law_rules_1, d1], B1⟩)
  obtain ⟨st, hst, e1⟩ := List.sublist_map_iff.mp s1
  obtain ⟨en, hen, e2⟩ := List.sublist_map_iff.mp s2
  refine ⟨⟨st, en⟩, gl2, ?_, B2, fun e m => ?_, ?_⟩
  · show f__law_rules [.ref 1] gl = .ok (.tup [.tup (st.map D.str), .tup (en.map enD)]) gl2
    rw [← e1, ← e2]
    simp [-ap_Comp, f__law_rules, mDef, List.replicate, b__law_rules, w1, ft_new', as_d, w2]
  · have := hen.subset m
    simp only [List.mem_cons, List.not_mem_nil, or_false] at this
    rcases this with rfl | rfl | rfl <;> exact ⟨by decide, by decide⟩
  · have := hen.length_le
    simp at this
    show en.length ≤ 1000
    omega
/-- one of some texts -/
theorem ix_of (ws : List Str) (r : Int) (h0 : 0 ≤ r) (h1 : r < ws.length) : ∃ w ∈ ws, ∀ s, opIx s (.d (.lst (ws.map D.str))) (.d (.int r)) = .ok (.d (.str w)) s := by
  obtain ⟨k, rfl⟩ := Int.eq_ofNat_of_zero_le h0
  have hk : k < ws.length := by omega
  refine ⟨ws[k], List.getElem_mem hk, fun s => q_ixL rfl (atI_get ?_)⟩
  rw [List.getElem?_map, List.getElem?_eq_getElem hk]
  rfl
def WDK : List Str := ["cat", "cats", "dog", "the", "red", "a1", "catch", "dogs", "cities", "city", "and", "rod"]
/-- no brackets -/
def Cl (x : Str) : Bool := x.cps.toList.all fun c => decide (c ≠ 91) && decide (c ≠ 93)
theorem cl_app {x y : Str} (hx : Cl x = true) (hy : Cl y = true) : Cl (x ++ y) = true := by
  unfold Cl at *
  have : (x ++ y).cps.toList = x.cps.toList ++ y.cps.toList := by
    show (x.cps ++ y.cps).toList = _
    simp
  rw [this, List.all_append, hx, hy]
  rfl
theorem cl_cut {x : Str} (hx : Cl x = true) (lo hi : Option Int) : Cl (cutS x lo hi) = true := by
  unfold Cl cutS at *
  rw [List.all_eq_true] at *
  intro c m
  refine hx c ?_
  simp only at m
  exact List.mem_of_mem_drop (List.mem_of_mem_take m)
theorem word_spec (gl : List MObj) (hB : Bx gl) : ∃ w gl', f__law_word [.ref 1] gl = .ok (.str w) gl' ∧ Bx gl' ∧ w.length ≤ 6 ∧ Cl w = true := by
  obtain ⟨r, gl', d1, r1, r2, B1⟩ := draw_spec gl 12 hB (by omega) (by omega)
  obtain ⟨w, hw, ix⟩ := ix_of WDK r r1 (by show r < 12; exact r2)
  have sz12 : 12 ≤ sizeLine := szN _ (by omega)
  have ix : ∀ s, opIx s (.d (.lst [.str "cat", .str "cats", .str "dog", .str "the", .str "red", .str "a1", .str "catch", .str "dogs", .str "cities", .str "city", .str "and", .str "rod"])) (.d (.int r)) = .ok (.d (.str w)) s := ix
  refine ⟨w, gl', ?_, B1, ?_⟩
  · simp [f__law_word, mDef, List.replicate, b__law_word, sz12, d1, ix]
  · have : ∀ w ∈ WDK, w.length ≤ 6 ∧ Cl w = true := by decide +kernel
    exact this w hw
theorem app_len (x y : Str) : (x ++ y).length = x.length + y.length := by
  rw [str_len, str_len, str_len]
  show ((x.cps ++ y.cps).toList).length = _
  simp
theorem text_loop (c1 : Slot) : ∀ (n : Nat) (lo : Int) (x : Str) (c3 : Slot) (gl : List MObj), Bx gl → x.length + 8 * n ≤ 900 → Cl x = true → ∃ x' d3 gl', forGo (tgName 3) l__law_text_1 (rangeD lo n) ⟨[.val (.ref 1), c1, .val (.str x), c3], gl⟩ = .ok .nx ⟨[.val (.ref 1), c1, .val (.str x'), d3], gl'⟩ ∧ Bx gl' ∧ x'.length ≤ x.length + 8 * n ∧ Cl x' = true
  | 0, lo, x, c3, gl, hB, _, hc => ⟨x, c3, gl, rfl, hB, by omega, hc⟩
  | n + 1, lo, x, c3, gl, hB, hl, hc => by
    obtain ⟨r, g1, d1, r1, r2, B1⟩ := draw_spec gl 5 hB (by omega) (by omega)
    obtain ⟨w, hw, ix⟩ := ix_of [" ", ", ", "-", ". ", " "] r r1 (by show r < 5; exact r2)
    have ix : ∀ s, opIx s (.d (.lst [.str " ", .str ", ", .str "-", .str ". ", .str " "])) (.d (.int r)) = .ok (.d (.str w)) s := ix
    have lw : w.length ≤ 2 ∧ Cl w = true := by
      have : ∀ w ∈ ([" ", ", ", "-", ". ", " "] : List Str), w.length ≤ 2 ∧ Cl w = true := by decide +kernel
      exact this w hw
    obtain ⟨lw, cw⟩ := lw
    obtain ⟨v, g2, d2, B2, lv, cv⟩ := word_spec g1 B1
    have a1 := add_str x w (by omega) (by omega)
    have a2 := add_str (x ++ w) v (by rw [app_len]; omega) (by omega)
    have e1 : (x ++ w ++ v).length ≤ x.length + 8 := by rw [app_len, app_len]; omega
    obtain ⟨x', d3, gl', e, B', h', hc'⟩ := text_loop c1 n (lo + 1) (x ++ w ++ v) (.val (.int lo)) g2 B2 (by omega) (cl_app (cl_app hc cw) cv)
    have t1 : tgName 3 (.int lo) ⟨[.val (.ref 1), c1, .val (.str x), c3], gl⟩ = some ⟨[.val (.ref 1), c1, .val (.str x), .val (.int lo)], gl⟩ := by simp [as_d]
    have sz5 : 5 ≤ sizeLine := szN _ (by omega)
    refine ⟨x', d3, gl', ?_, B', by omega, hc'⟩
    rw [rangeD]
    refine (fc_ok t1 ?_).trans e
    simp [l__law_text_1, sz5, d1, ix, a1, d2, a2, as_d]
theorem text_spec (gl : List MObj) (hB : Bx gl) : ∃ x gl', f__law_text [.ref 1, .int 14] gl = .ok (.str x) gl' ∧ Bx gl' ∧ x.length ≤ 200 ∧ Cl x = true := by
  obtain ⟨n, g1, d1, r1, r2, B1⟩ := draw_spec gl 15 hB (by omega) (by omega)
  obtain ⟨k, rfl⟩ := Int.eq_ofNat_of_zero_le r1
  have rg : rng1 ((k : Nat) : Int) = some (rangeD 0 k) := by
    rw [rng1_eq, if_pos (by constructor <;> omega)]
    congr 2
  have l0 : Str.length "" = 0 := by decide
  obtain ⟨x, d3, g2, e, B2, hx, hcx⟩ := text_loop (.val (.int 14)) k 0 "" .none g1 B1 (by omega) (by decide +kernel)
  have hx' : x.length ≤ 112 := by omega
  have sl := sl_str x (by omega)
  have eq := fun y z s => eq_str y z s
  -- what stands behind the first sign is taken
  have cut : ∃ y g3, mIf (mAndT (mBl (mBin (opEq false) (mSlice (mVar 2) mNoPart (mPart (mC (.int 1)))) (mC (.str " ")))) (mBl (mBin opGt (mCall f__law_draw (mACons (mVar 0) (mACons (mC (.int 3)) mANil))) (mC (.int 0))))) (mSlice (mVar 2) (mPart (mC (.int 1))) mNoPart) (mVar 2) ⟨[.val (.ref 1), .val (.int 14), .val (.str x), d3], g2⟩ = .ok (.d (.str y)) ⟨[.val (.ref 1), .val (.int 14), .val (.str x), d3], g3⟩ ∧ Bx g3 ∧ y.length ≤ 112 ∧ Cl y = true := by
    by_cases h1 : cutS x none (some 1) = " "
    · obtain ⟨r, g3, d2, r1, r2, B3⟩ := draw_spec g2 3 B2 (by omega) (by omega)
      by_cases h2 : 0 < r
      · exact ⟨cutS x (some 1) none, g3, by simp [asInt, sl, eq, h1, d2, h2], B3, Nat.le_trans (cutS_len _ _ _) hx', cl_cut hcx _ _⟩
      · exact ⟨x, g3, by simp [asInt, sl, eq, h1, d2, h2], B3, hx', hcx⟩
    · exact ⟨x, g2, by simp [asInt, sl, eq, h1], B2, hx', hcx⟩
  obtain ⟨y, g3, e2, B3, hy, hcy⟩ := cut
  by_cases h : y = ""
  · have ne : ∀ s, opEq true s (.d (.str y)) (.d (.str "")) = .ok (.d (.bl false)) s := fun s => by rw [ne_str, decide_eq_true h]; rfl
    have ad := add_str y "" (by omega) (by decide)
    refine ⟨y ++ "", g3, ?_, B3, by rw [app_len]; omega, cl_app hcy (by decide +kernel)⟩
    simp [-ap_If, f__law_text, mDef, List.replicate, b__law_text, iRange1, as_d, d1, rg, e, e2, ne]
    simp [ne, ad]
  · have ne : ∀ s, opEq true s (.d (.str y)) (.d (.str "")) = .ok (.d (.bl true)) s := fun s => by rw [ne_str, decide_eq_false h]; rfl
    obtain ⟨r, g4, d4, r1, r2, B4⟩ := draw_spec g3 3 B3 (by omega) (by omega)
    obtain ⟨w, hw, ix⟩ := ix_of ["", ".", " "] r r1 (by show r < 3; exact r2)
    have ix : ∀ s, opIx s (.d (.lst [.str "", .str ".", .str " "])) (.d (.int r)) = .ok (.d (.str w)) s := ix
    have lw : w.length ≤ 1 ∧ Cl w = true := by
      have : ∀ w ∈ (["", ".", " "] : List Str), w.length ≤ 1 ∧ Cl w = true := by decide +kernel
      exact this w hw
    obtain ⟨lw, cw⟩ := lw
    have ad := add_str y w (by omega) (by omega)
    refine ⟨y ++ w, g4, ?_, B4, by rw [app_len]; omega, cl_app hcy cw⟩
    simp [-ap_If, f__law_text, mDef, List.replicate, b__law_text, iRange1, as_d, d1, rg, e, e2]
    simp [ne, ad, sz3, d4, ix]
end K82
/-! # k82: the words that somebody wishes who asks a query -/
namespace K82
open PySem PySem.Spec PyProof.Rows L2 MI
def Nul (h : Str) : Prop := h = "begins" ∨ h = "tag" ∨ h = "every" ∨ h = "between"
/-- a query of at most that depth; its words, and those of its opposite -/
def Ask : Nat → D → List Str → List Str → Prop
  | 0, _, _, _ => False
  | n + 1, d, u, v =>
    (∃ w, d = .tup (.str "word" :: [.str w]) ∧ u = [w] ∧ v = []) ∨
    (∃ h ps, Nul h ∧ d = .tup (.str h :: ps) ∧ u = [] ∧ v = []) ∨
    (∃ ws, d = .tup (.str "phrase" :: ws.map .str) ∧ u = ws ∧ v = []) ∨
    (∃ a b i, d = .tup (.str "near" :: [.str a, .str b, .int i]) ∧ u = [a, b] ∧ v = []) ∨
    (∃ d', d = .tup (.str "not" :: [d']) ∧ Ask n d' v u) ∨
    (∃ h, ∃ L : List (D × List Str × List Str), (h = "all" ∨ h = "any") ∧ d = .tup (.str h :: L.map (·.1)) ∧ u = (L.map (·.2.1)).flatten ∧ v = (L.map (·.2.2)).flatten ∧ (∀ x ∈ L, Ask n x.1 x.2.1 x.2.2) ∧ L.length ≤ 1000)
def sel (b : Bool) (u v : List Str) : List Str := if b = true then v else u
theorem flat_le {α β : Type} (f : α → List β) : ∀ {L : List α} {x : α}, x ∈ L → (f x).length ≤ ((L.map f).flatten).length
  | y :: L, x, m => by
    rw [List.map_cons, List.flatten_cons, List.length_append]
    rcases List.mem_cons.mp m with rfl | m
    · omega
    · have := flat_le f m; omega
theorem cut_tl {α : Type} (x : α) (xs : List α) : cut (x :: xs) (some 1) none = xs := by
  have h1 : HT.sIx (x :: xs).length 0 (some 1) = 1 := by
    show HT.sIx (x :: xs).length 0 (some ((1 : Nat) : Int)) = 1
    rw [HT.sIx_nat]; simp
  have h2 : HT.sIx (x :: xs).length (x :: xs).length none = (x :: xs).length := rfl
  unfold cut
  rw [h1, h2]
  simp
theorem in_strN (k : Str) (l : List Str) (s : S) : opIn true s (.d (.str k)) (.d (.tup (l.map .str))) = .ok (.d (.bl (!decide (k ∈ l)))) s := by
  have h : asItems s (.d (.tup (l.map .str))) = some (l.map .str) := rfl
  have h2 : asD s (.d (.str k)) = some (.str k) := rfl
  unfold opIn
  rw [h, h2]
  show (match anyO (fun y => eqvO 40 y (.str k)) (l.map .str) with | some r => Res.ok (RV.d (.bl (r != true))) s | none => .stuck) = _
  rw [anyO_str]
  cases decide (k ∈ l) <;> rfl
theorem fList_t (xs : List D) (s : S) : fList s (.d (.tup xs)) = .ok (.new (.lst xs)) s := rfl
theorem eqS_v {x y : Str} (v : Bool) (h : decide (x = y) = v) (s : S) : opEq false s (.d (.str x)) (.d (.str y)) = .ok (.d (.bl v)) s := by rw [eq_str, h]
theorem in2_v {k a b : Str} (v : Bool) (h : decide (k ∈ [a, b]) = v) (s : S) : opIn false s (.d (.str k)) (.d (.tup [.str a, .str b])) = .ok (.d (.bl v)) s := by
  have := in_str k [a, b] s
  rwa [h] at this
theorem in3n_v {k a b c : Str} (v : Bool) (h : decide (k ∈ [a, b, c]) = v) (s : S) : opIn true s (.d (.str k)) (.d (.tup [.str a, .str b, .str c])) = .ok (.d (.bl (!v))) s := by
  have := in_strN k [a, b, c] s
  rwa [h] at this
theorem in5_v {k a b c d e : Str} (v : Bool) (h : decide (k ∈ [a, b, c, d, e]) = v) (s : S) : opIn false s (.d (.str k)) (.d (.tup [.str a, .str b, .str c, .str d, .str e])) = .ok (.d (.bl v)) s := by
  have := in_str k [a, b, c, d, e] s
  rwa [h] at this
theorem ixH (x : D) (xs : List D) (s : S) : opIx s (.d (.tup (x :: xs))) (.d (.int 0)) = .ok (.d x) s := q_ixT (atI_get (k := 0) rfl)
theorem ixH1 (x y : D) (xs : List D) (s : S) : opIx s (.d (.tup (x :: y :: xs))) (.d (.int 1)) = .ok (.d y) s := q_ixT (atI_get (k := 1) rfl)
theorem slH (x : D) (xs : List D) (s : S) : opSl (some 1) none s (.d (.tup (x :: xs))) = .ok (.d (.tup xs)) s := by
  have := cut_tl x xs
  show Res.ok (RV.d (.tup (cut (x :: xs) (some 1) none))) s = _
  rw [this]
end K82
/-! # k82: queries that are drawn (printed by k82o.py) -/
namespace K82
open PySem PySem.Spec PyProof.Rows L2 MI
def KDS : List D := [.str "word", .str "begins", .str "tag", .str "phrase", .str "near", .str "every", .str "between", .str "all", .str "any", .str "not"]
theorem ft_tup (l : List D) (s : S) : fTuple s (.new (.lst l)) = .ok (.d (.tup l)) s := rfl
theorem rg1n (n : Nat) (h : n ≤ 1000) : rng1 ((n : Nat) : Int) = some (rangeD 0 n) := by
  rw [rng1_eq, if_pos (by constructor <;> omega)]
  congr 2
theorem pow_1 (j : Nat) : 1 ≤ 3 ^ j := Nat.pow_pos (by omega)
/-- parts that are drawn -/
def Good (j : Nat) (d : D) : Prop := ∃ u v, Ask (j + 1) d u v ∧ u.length ≤ 3 * 3 ^ j ∧ v.length ≤ 3 * 3 ^ j
theorem goods (j : Nat) : ∀ {ds ys : List D}, All2 (fun _ y => Good j y) ds ys → ∃ L : List (D × List Str × List Str), ys = L.map (·.1) ∧ L.length = ds.length ∧ (∀ x ∈ L, Ask (j + 1) x.1 x.2.1 x.2.2 ∧ x.2.1.length ≤ 3 * 3 ^ j ∧ x.2.2.length ≤ 3 * 3 ^ j)
  | _, _, .nil => ⟨[], rfl, rfl, fun x m => nomatch m⟩
  | _, _, .cons (b := d) ⟨u, v, h1, h2, h3⟩ t => by
    obtain ⟨L, e1, e2, e3⟩ := goods j t
    refine ⟨(d, u, v) :: L, by rw [e1]; rfl, by simp [e2], fun x m => ?_⟩
    rcases List.mem_cons.mp m with rfl | m
    · exact ⟨h1, h2, h3⟩
    · exact e3 x m
theorem flat_most {α : Type} (f : α → List Str) (B : Nat) : ∀ {L : List α}, (∀ x ∈ L, (f x).length ≤ B) → ((L.map f).flatten).length ≤ L.length * B
  | [], _ => by simp
  | x :: L, h => by
    have h1 := h x List.mem_cons_self
    have h2 := flat_most f B (L := L) fun y m => h y (List.mem_cons_of_mem _ m)
    rw [List.map_cons, List.flatten_cons, List.length_append, List.length_cons, Nat.succ_mul]
    omega
end K82
/-! # k82: the worth of windows -/
namespace K82
open PySem PySem.Spec PyProof.Rows L2 MI
abbrev Row := List (Option Str)
def rD (R : Row) : D := .lst (R.map oD)
def wis (T : List Str) : Option Str → Bool
  | none => false
  | some t => decide (t ∈ T)
def txO : Option Str → Str
  | none => ""
  | some t => t
/-- what is wished and stands there -/
def thereL (R : Row) (T : List Str) : List Str := (R.filter (wis T)).map txO
def worth (R : Row) (T : List Str) : Nat × Nat := ((uni (thereL R T)).length, (thereL R T).length)
def sliceR (R : Row) (a b : Nat) : Row := (R.drop a).take (b - a)
theorem there_len (R : Row) (T : List Str) : (thereL R T).length ≤ R.length := by
  unfold thereL
  rw [List.length_map]
  exact List.length_filter_le _ _
theorem there_D (R : Row) (T : List Str) : (R.filter (wis T)).map oD = (thereL R T).map .str := by
  unfold thereL
  rw [List.map_map]
  refine List.map_congr_left fun o m => ?_
  have := (List.mem_filter.mp m).2
  cases o with
  | none => cases this
  | some t => rfl
/-- terms as a tuple or a list -/
inductive Tm (T : List Str) : D → Prop
  | tup : Tm T (.tup (T.map .str))
  | lst : Tm T (.lst (T.map .str))
theorem tm_items {T : List Str} {d : D} (h : Tm T d) (s : S) : asItems s (.d d) = some (T.map .str) := by
  cases h <;> rfl
theorem anyO_opt (o : Option Str) : ∀ l : List Str, anyO (fun y => eqvO 40 y (oD o)) (l.map .str) = some (wis l o)
  | [] => by cases o <;> rfl
  | a :: l => by
    cases o with
    | some t => exact anyO_str t (a :: l)
    | none =>
      have ih := anyO_opt none l
      show (match eqvO 40 (.str a) .non, anyO (fun y => eqvO 40 y .non) (l.map .str) with | some a, some b => some (a || b) | _, _ => none) = _
      have ih : anyO (fun y => eqvO 40 y .non) (l.map .str) = some (wis l none) := ih
      rw [ih]
      rfl
theorem in_opt {T : List Str} {d : D} (h : Tm T d) (o : Option Str) (s : S) : opIn false s (.d (oD o)) (.d d) = .ok (.d (.bl (wis T o))) s := by
  have h2 : asD s (.d (oD o)) = some (oD o) := by cases o <;> rfl
  unfold opIn
  rw [tm_items h, h2]
  show (match anyO (fun y => eqvO 40 y (oD o)) (T.map .str) with | some r => Res.ok (RV.d (.bl (r != false))) s | none => .stuck) = _
  rw [anyO_opt]
  cases wis T o <;> rfl
theorem len_set {l : List Str} (hl : l.length ≤ 1000) {s : S} {r : RV} (h : asD s r = some (.lst (l.map .str))) : fLenSet s r = .ok (.d (.int (uni l).length)) s := by
  unfold fLenSet
  rw [h]
  simp only [strsOf_map]
  rw [if_pos hl]
def wD (w : Nat × Nat) : D := .tup [.int w.1, .int w.2]
theorem worth_in_spec {T : List Str} {d : D} (h : Tm T d) (R : Row) (hR : R.length ≤ 1000) (gl : List MObj) : f_worth_in [rD R, d] gl = .ok (wD (worth R T)) gl := by
  have io := in_opt h
  have cm : mComp [3] (iSeq (mVar 0)) (tgName 3) c_worth_in_1 (mVar 3) ⟨[.val (rD R), .val d, .none, .none], gl⟩ = .ok (.new (.lst ((thereL R T).map .str))) ⟨[.val (rD R), .val d, .none, .none], gl⟩ := by
    rw [← there_D]
    refine comp_flt R oD oD (wis T) (by simp [iSeq, rD]) (by simp) rfl (by omega) fun o m => ⟨?_, fun _ => ?_⟩
    · have io := io o
      generalize oD o = O at *
      generalize rD R = RR at *
      simp [c_worth_in_1, io]
    · generalize rD R = RR at *
      simp
  have hl := there_len R T
  have ls := fun s (h : asD s (.at 2) = some (.lst ((thereL R T).map .str))) => len_set (by omega) h
  have ll : ∀ s, asD s (.at 2) = some (.lst ((thereL R T).map .str)) → fLen s (.at 2) = .ok (.d (.int (thereL R T).length)) s := fun s h => by rw [q_lenL h, List.length_map]
  unfold worth wD
  generalize (thereL R T).map D.str = M at *
  generalize rD R = RR at *
  generalize (thereL R T).length = n1 at *
  generalize (uni (thereL R T)).length = n2 at *
  simp [-ap_Comp, f_worth_in, mDef, List.replicate, b_worth_in, cm, as_new, asD, ls, ll]
theorem rl_get (R : Row) (k : Nat) (h : k < R.length) (s : S) : opIx s (.d (rD R)) (.d (.int k)) = .ok (.d (oD (R.getD k none))) s := by
  refine q_ixL rfl (atI_get ?_)
  rw [List.getElem?_map, List.getElem?_eq_getElem h, List.getD_eq_getElem?_getD, List.getElem?_eq_getElem h]
  rfl
theorem range_slice (R : Row) (f n : Nat) (h : f + n ≤ R.length) : (List.range n).map (fun k => R.getD (f + k) none) = (R.drop f).take n := by
  apply List.ext_getElem?
  intro i
  rw [List.getElem?_map, List.getElem?_take]
  by_cases hi : i < n
  · rw [if_pos hi, List.getElem?_range hi, Option.map_some, List.getD_eq_getElem?_getD, List.getElem?_drop, List.getElem?_eq_getElem (by omega)]
    rfl
  · rw [if_neg hi, List.getElem?_eq_none (by simp; omega)]
    rfl
/-- row[a:b] -/
theorem cut_nat {α : Type} (xs : List α) (a b : Nat) : cut xs (some (a : Int)) (some (b : Int)) = (xs.drop a).take (b - a) := by
  unfold cut
  rw [HT.sIx_nat, HT.sIx_nat]
  rcases Nat.le_total a xs.length with h | h
  · rw [Nat.min_eq_left h]
    rcases Nat.le_total b xs.length with h2 | h2
    · rw [Nat.min_eq_left h2]
    · rw [Nat.min_eq_right h2, List.take_of_length_le (by simp), List.take_of_length_le (by simp; omega)]
  · rw [Nat.min_eq_right h, List.drop_length, List.drop_of_length_le h]
    simp
theorem slR (R : Row) (a b : Nat) (s : S) : opSl (some (a : Int)) (some (b : Int)) s (.d (rD R)) = .ok (.new (.lst ((sliceR R a b).map oD))) s := by
  have e : cut (R.map oD) (some (a : Int)) (some (b : Int)) = (sliceR R a b).map oD := by
    rw [cut_nat]
    unfold sliceR
    rw [List.map_take, List.map_drop]
  show Res.ok (RV.new (.lst (cut (R.map oD) (some (a : Int)) (some (b : Int))))) s = _
  rw [e]
end K82
/-! # k82: the best window of a stretch -/
namespace K82
open PySem PySem.Spec PyProof.Rows L2 MI
def lexlt (x y : Nat × Nat) : Bool := decide (x.1 < y.1 ∨ (x.1 = y.1 ∧ x.2 < y.2))
theorem ltD_w (x y : Nat × Nat) : ltD (wD x) (wD y) = lexlt x y := by
  obtain ⟨a, b⟩ := x
  obtain ⟨c, d⟩ := y
  simp only [wD, ltD, ltDs, eqD, lexlt]
  by_cases h1 : a = c
  · subst h1
    by_cases h2 : b = d
    · subst h2; simp
    · have : ((b : Int) == (d : Int)) = false := by simp; omega
      by_cases h3 : b < d
      · simp [this, h3]
      · simp [this, h3]
  · have : ((a : Int) == (c : Int)) = false := by simp; omega
    by_cases h3 : a < c
    · simp [this, h1, h3]
    · simp [this, h1, h3]
theorem cmpD_w (x y : Nat × Nat) : cmpD (wD x) (wD y) = true := by
  simp [cmpD, okD, wD, toP, toPs, depD, depDs, likeD, likeDs]
theorem gt_w (x y : Nat × Nat) (s : S) : opGtX s (.d (wD x)) (.d (wD y)) = .ok (.d (.bl (lexlt y x))) s := by
  show (if cmpD (wD x) (wD y) = true then Res.ok (RV.d (.bl (ltD (wD y) (wD x)))) s else .stuck) = _
  rw [if_pos (cmpD_w x y), ltD_w]
def bstep (W : Nat → Nat × Nat) (b : Option Nat) (f : Nat) : Option Nat := match b with
  | none => some f
  | some g => if lexlt (W g) (W f) = true then some f else some g
def wn (f n : Nat) : D := .tup [.int f, .int (f + n : Nat)]
def bestD (W : Nat → Nat × Nat) (n : Nat) : Option Nat → D
  | none => .non
  | some f => .tup [wD (W f), wn f n]
/-- worth of the window from f on -/
def wof (R : Row) (T : List Str) (n f : Nat) : Nat × Nat := worth (sliceR R f (f + n)) T
theorem best_loop {T : List Str} {d : D} (hT : Tm T d) (R : Row) (hR : R.length ≤ 1000) (n : Nat) (hn : n ≤ 1000) (c2 c3 c5 c6 : Slot) (gl : List MObj) : ∀ (k lo : Nat) (b : Option Nat) (c4 c9 : Slot), lo + k ≤ 2000 →
    ∃ d4 d9, forGo (tgName 4) l_best_of_stretch_1 (rangeD lo k) ⟨[.val (rD R), .val d, c2, c3, c4, c5, c6, .val (.int n), .val (bestD (wof R T n) n b), c9], gl⟩ =
      .ok .nx ⟨[.val (rD R), .val d, c2, c3, d4, c5, c6, .val (.int n), .val (bestD (wof R T n) n ((List.range' lo k).foldl (bstep (wof R T n)) b)), d9], gl⟩
  | 0, lo, b, c4, c9, _ => ⟨c4, c9, rfl⟩
  | k + 1, lo, b, c4, c9, hl => by
    obtain ⟨d4, d9, e⟩ := best_loop hT R hR n hn c2 c3 c5 c6 gl k (lo + 1) (bstep (wof R T n) b lo) (.val (.int lo)) (.val (wD (wof R T n lo))) (by omega)
    refine ⟨d4, d9, ?_⟩
    have t1 : tgName 4 (.int (lo : Nat)) ⟨[.val (rD R), .val d, c2, c3, c4, c5, c6, .val (.int n), .val (bestD (wof R T n) n b), c9], gl⟩ = some ⟨[.val (rD R), .val d, c2, c3, .val (.int lo), c5, c6, .val (.int n), .val (bestD (wof R T n) n b), c9], gl⟩ := by simp [as_d]
    have hs : (sliceR R lo (lo + n)).length ≤ 1000 := by unfold sliceR; rw [List.length_take, List.length_drop]; omega
    have wi := worth_in_spec hT (sliceR R lo (lo + n)) hs
    have sl := slR R lo (lo + n)
    unfold rD at wi
    have wi : ∀ gl, f_worth_in [.lst ((sliceR R lo (lo + n)).map oD), d] gl = .ok (wD (wof R T n lo)) gl := wi
    rw [rangeD, show ((lo : Nat) : Int) + 1 = ((lo + 1 : Nat) : Int) by omega]
    rw [List.range'_succ, List.foldl_cons]
    refine (fc_ok t1 ?_).trans e
    rw [show ((lo + n : Nat) : Int) = (lo : Int) + n by omega] at sl
    cases b with
    | none =>
      have eb : bestD (wof R T n) n (bstep (wof R T n) none lo) = .tup [wD (wof R T n lo), .tup [.int lo, .int ((lo : Int) + n)]] := by
        show D.tup [wD (wof R T n lo), .tup [.int lo, .int ((lo + n : Nat) : Int)]] = _
        rw [show ((lo + n : Nat) : Int) = (lo : Int) + n by omega]
      have eb0 : bestD (wof R T n) n none = .non := rfl
      rw [eb, eb0]
      generalize wD (wof R T n lo) = w at *
      generalize (sliceR R lo (lo + n)).map oD = M at *
      generalize rD R = RR at *
      simp [l_best_of_stretch_1, asInt, sl, wi, as_d]
    | some g =>
      have gt := gt_w (wof R T n lo) (wof R T n g)
      have i0 : ∀ s, opIx s (.d (bestD (wof R T n) n (some g))) (.d (.int 0)) = .ok (.d (wD (wof R T n g))) s := fun s => ixH _ _ s
      have eb : bestD (wof R T n) n (some lo) = .tup [wD (wof R T n lo), .tup [.int lo, .int ((lo : Int) + n)]] := by
        show D.tup [wD (wof R T n lo), .tup [.int lo, .int ((lo + n : Nat) : Int)]] = _
        rw [show ((lo + n : Nat) : Int) = (lo : Int) + n by omega]
      have nn : ∀ s, opIsN false s (.d (bestD (wof R T n) n (some g))) (.d .non) = .ok (.d (.bl false)) s := fun s => rfl
      show l_best_of_stretch_1 _ = .ok .nx ⟨[.val (rD R), .val d, c2, c3, .val (.int lo), c5, c6, .val (.int n), .val (bestD (wof R T n) n (if lexlt (wof R T n g) (wof R T n lo) = true then some lo else some g)), .val (wD (wof R T n lo))], gl⟩
      by_cases h : lexlt (wof R T n g) (wof R T n lo) = true
      · rw [if_pos h, eb]
        rw [h] at gt
        generalize bestD (wof R T n) n (some g) = B at *
        generalize wD (wof R T n lo) = w at *
        generalize wD (wof R T n g) = w' at *
        generalize (sliceR R lo (lo + n)).map oD = M at *
        generalize rD R = RR at *
        simp [l_best_of_stretch_1, asInt, sl, wi, as_d, nn, i0, gt]
      · rw [if_neg h]
        have h : lexlt (wof R T n g) (wof R T n lo) = false := by simpa using h
        rw [h] at gt
        generalize bestD (wof R T n) n (some g) = B at *
        generalize wD (wof R T n lo) = w at *
        generalize wD (wof R T n g) = w' at *
        generalize (sliceR R lo (lo + n)).map oD = M at *
        generalize rD R = RR at *
        simp [l_best_of_stretch_1, asInt, sl, wi, as_d, nn, i0, gt]
/-- f is the first of the best from lo on -/
structure BestAt (W : Nat → Nat × Nat) (lo k f : Nat) : Prop where
  low : lo ≤ f
  high : f < lo + k
  most : ∀ g, lo ≤ g → g < lo + k → lexlt (W f) (W g) = false
  first : ∀ g, lo ≤ g → g < lo + k → W g = W f → f ≤ g
theorem lexlt_iff {x y : Nat × Nat} : lexlt x y = true ↔ (x.1 < y.1 ∨ (x.1 = y.1 ∧ x.2 < y.2)) := by unfold lexlt; exact decide_eq_true_iff
theorem lexlt_not {x y : Nat × Nat} : lexlt x y = false ↔ ¬ (x.1 < y.1 ∨ (x.1 = y.1 ∧ x.2 < y.2)) := by unfold lexlt; exact decide_eq_false_iff_not
theorem fold_best (W : Nat → Nat × Nat) (lo : Nat) : ∀ (k m f : Nat), BestAt W lo m f → 0 < m → ∃ f', (List.range' (lo + m) k).foldl (bstep W) (some f) = some f' ∧ BestAt W lo (m + k) f'
  | 0, m, f, h, _ => ⟨f, rfl, h⟩
  | k + 1, m, f, h, hm => by
    rw [List.range'_succ, List.foldl_cons]
    have key : ∃ f1, bstep W (some f) (lo + m) = some f1 ∧ BestAt W lo (m + 1) f1 := by
      obtain ⟨h1, h2, h3, h4⟩ := h
      by_cases c : lexlt (W f) (W (lo + m)) = true
      · refine ⟨lo + m, if_pos c, by omega, by omega, fun g g1 g2 => ?_, fun g g1 g2 e => ?_⟩
        · by_cases q : g < lo + m
          · have := lexlt_not.mp (h3 g g1 q)
            have := lexlt_iff.mp c
            rw [lexlt_not]
            omega
          · have : g = lo + m := by omega
            subst this
            rw [lexlt_not]; omega
        · by_cases q : g < lo + m
          · have := lexlt_not.mp (h3 g g1 q)
            have := lexlt_iff.mp c
            rw [e] at *
            omega
          · omega
      · have c' : lexlt (W f) (W (lo + m)) = false := by simpa using c
        refine ⟨f, if_neg c, h1, by omega, fun g g1 g2 => ?_, fun g g1 g2 e => ?_⟩
        · by_cases q : g < lo + m
          · exact h3 g g1 q
          · have : g = lo + m := by omega
            subst this
            exact c'
        · by_cases q : g < lo + m
          · exact h4 g g1 q e
          · omega
    obtain ⟨f1, e1, b1⟩ := key
    rw [e1]
    obtain ⟨f', e2, b2⟩ := fold_best W lo k (m + 1) f1 b1 (by omega)
    exact ⟨f', by rw [← e2]; rfl, by rw [show m + (k + 1) = m + 1 + k by omega]; exact b2⟩
theorem best_ex (W : Nat → Nat × Nat) (lo k : Nat) (hk : 0 < k) : ∃ f, (List.range' lo k).foldl (bstep W) none = some f ∧ BestAt W lo k f := by
  cases k with
  | zero => omega
  | succ k =>
    rw [List.range'_succ, List.foldl_cons]
    have b1 : BestAt W lo 1 lo := ⟨Nat.le_refl _, by omega, fun g g1 g2 => by
      have : g = lo := by omega
      subst this
      rw [lexlt_not]; omega, fun g g1 g2 _ => g1⟩
    obtain ⟨f', e, b⟩ := fold_best W lo k 1 lo b1 (by omega)
    exact ⟨f', e, by rw [show k + 1 = 1 + k by omega]; exact b⟩
/-- the width of a stretch' windows -/
def wid (size : Nat) (p : Nat × Nat) : Nat := min size (p.2 - p.1)
theorem stretch_spec {T : List Str} {d : D} (hT : Tm T d) (R : Row) (hR : R.length ≤ 1000) (p : Nat × Nat) (h1 : p.1 < p.2) (h2 : p.2 ≤ R.length) (size : Nat) (hz : 0 < size) (hz2 : size ≤ 1000) (gl : List MObj) :
    ∃ f, f_best_of_stretch [rD R, d, pD p, .int size] gl = .ok (bestD (wof R T (wid size p)) (wid size p) (some f)) gl ∧ BestAt (wof R T (wid size p)) p.1 (p.2 - p.1 - wid size p + 1) f := by
  obtain ⟨f, ef, bf⟩ := best_ex (wof R T (wid size p)) p.1 (p.2 - p.1 - wid size p + 1) (by omega)
  have hw : wid size p ≤ 1000 := by unfold wid; omega
  have hw2 : wid size p ≤ p.2 - p.1 := by unfold wid; omega
  obtain ⟨d4, d9, e⟩ := best_loop hT R hR (wid size p) hw (.val (pD p)) (.val (.int size)) (.val (.int p.1)) (.val (.int p.2)) gl (p.2 - p.1 - wid size p + 1) p.1 none .none .none (by omega)
  rw [ef] at e
  refine ⟨f, ?_, bf⟩
  have mi : minI (size : Int) ((p.2 : Int) - p.1) = (wid size p : Nat) := by unfold minI wid; split <;> omega
  have rg : rng2 (p.1 : Int) ((p.2 : Int) - (wid size p : Nat) + 1) = some (rangeD p.1 (p.2 - p.1 - wid size p + 1)) := by
    rw [rng2_eq, if_pos (by refine ⟨?_, ?_, ?_, ?_⟩ <;> omega)]
    congr 2
    omega
  have e : forGo (tgName 4) l_best_of_stretch_1 (rangeD p.1 (p.2 - p.1 - wid size p + 1)) ⟨[.val (rD R), .val d, .val (pD p), .val (.int size), .none, .val (.int p.1), .val (.int p.2), .val (.int (wid size p : Nat)), .val .non, .none], gl⟩ = _ := e
  generalize bestD _ _ (some f) = B at *
  generalize rD R = RR at *
  simp [pD, f_best_of_stretch, mDef, List.replicate, b_best_of_stretch, iRange2, as_d, mi, rg] at e ⊢
  simp [e]
end K82
/-! # k82: the best of all windows, by the law -/
namespace K82
open PySem PySem.Spec PyProof.Rows L2 MI
/-- a window: its worth, where it begins, how many words -/
structure Cd where
  w : Nat × Nat
  f : Nat
  n : Nat
def cD (c : Cd) : D := .tup [wD c.w, .int (-(c.f : Int)), wn c.f c.n]
def better (c e : Cd) : Prop := lexlt c.w e.w = true ∨ (c.w = e.w ∧ e.f < c.f)
theorem okD_c (c : Cd) : okD (cD c) = true := by simp [okD, cD, wD, wn, toP, toPs, depD, depDs]
theorem like_c (c e : Cd) : likeD (cD c) (cD e) = true := by simp [cD, wD, wn, likeD, likeDs]
theorem eqD_w (x y : Nat × Nat) : eqD (wD x) (wD y) = decide (x = y) := by
  obtain ⟨a, b⟩ := x
  obtain ⟨c, d⟩ := y
  simp only [wD, eqD, eqDs, Bool.and_true]
  by_cases h : (a, b) = (c, d)
  · cases h; simp
  · rw [decide_eq_false h]
    simp only [Prod.mk.injEq] at h
    by_cases h1 : a = c
    · have : ((b : Int) == (d : Int)) = false := by simp; omega
      simp [this]
    · have : ((a : Int) == (c : Int)) = false := by simp; omega
      simp [this]
theorem lt_c {c e : Cd} (u : c.w = e.w → c.f = e.f → c = e) : ltD (cD c) (cD e) = true ↔ better c e := by
  show ltDs [wD c.w, .int (-(c.f : Int)), wn c.f c.n] [wD e.w, .int (-(e.f : Int)), wn e.f e.n] = true ↔ _
  unfold better
  simp only [ltDs, eqD_w, ltD_w, decide_eq_true_eq]
  by_cases h : c.w = e.w
  · rw [if_pos h]
    by_cases h2 : c.f = e.f
    · have := u h h2
      subst this
      have e1 : ∀ i : Int, eqD (.int i) (.int i) = true := fun i => by simp [eqD]
      have e2 : eqD (wn c.f c.n) (wn c.f c.n) = true := by simp [wn, eqD, eqDs]
      rw [if_pos (e1 _), if_pos e2]
      simp [lexlt]
    · have e1 : ¬ eqD (.int (-(c.f : Int))) (.int (-(e.f : Int))) = true := by simp [eqD]; omega
      rw [if_neg e1]
      have l0 : lexlt e.w e.w = false := by rw [lexlt_not]; omega
      rw [h, l0]
      show decide (-(c.f : Int) < -(e.f : Int)) = true ↔ _
      rw [decide_eq_true_iff]
      constructor
      · intro q; exact .inr ⟨rfl, by omega⟩
      · intro q
        rcases q with q | ⟨_, q⟩
        · cases q
        · omega
  · rw [if_neg h]
    simp [h]
theorem better_step {m c e y : Cd} (h1 : ¬ better m y) (h2 : better c m ∨ c = m) : ¬ better c y ∨ better c m ∨ c = m := .inr h2
theorem nb_trans {a b c : Cd} (h1 : better a b) (h2 : ¬ better c b → False) : better a c ∨ ¬ better a c := Classical.em _
theorem bt_trans {a b c : Cd} (h1 : better a b) (h2 : better b c) : better a c := by
  unfold better at *
  rw [lexlt_iff] at *
  rcases h1 with h1 | ⟨e1, h1⟩ <;> rcases h2 with h2 | ⟨e2, h2⟩
  · left; omega
  · rw [← e2]; left; omega
  · rw [e1]; left; omega
  · right; exact ⟨e1.trans e2, by omega⟩
theorem bt_neg {a b c : Cd} (h1 : ¬ better a b) (h2 : ¬ better b c) : ¬ better a c := by
  intro h3
  unfold better at *
  rw [lexlt_iff] at *
  obtain ⟨⟨a1, a2⟩, af, an⟩ := a
  obtain ⟨⟨b1, b2⟩, bf, bn⟩ := b
  obtain ⟨⟨c1, c2⟩, cf, cn⟩ := c
  simp only [Prod.mk.injEq] at *
  omega
theorem bt_irr (a : Cd) : ¬ better a a := by
  unfold better
  rw [lexlt_iff]
  omega
theorem bt_asym {a b : Cd} (h : better a b) : ¬ better b a := fun h2 => bt_irr a (bt_trans h h2)
theorem max_c : ∀ (L : List Cd) (c : Cd), (∀ x ∈ c :: L, ∀ y ∈ c :: L, x.w = y.w → x.f = y.f → x = y) →
    ∃ m, m ∈ c :: L ∧ maxDD (cD c) (L.map cD) = cD m ∧ ∀ y ∈ c :: L, ¬ better m y
  | [], c, _ => ⟨c, List.mem_cons_self, rfl, fun y m => by rw [List.mem_singleton.mp m]; exact bt_irr c⟩
  | e :: L, c, u => by
    have ul := lt_c (u c List.mem_cons_self e (by simp))
    unfold maxDD
    rw [List.map_cons, List.foldl_cons]
    by_cases h : ltD (cD c) (cD e) = true
    · rw [if_pos h]
      obtain ⟨m, m1, m2, m3⟩ := max_c L e fun x hx y hy => u x (List.mem_cons_of_mem _ hx) y (List.mem_cons_of_mem _ hy)
      refine ⟨m, List.mem_cons_of_mem _ m1, m2, fun y hy => ?_⟩
      rcases List.mem_cons.mp hy with rfl | hy
      · exact bt_neg (m3 e List.mem_cons_self) (bt_asym (ul.mp h))
      · exact m3 y hy
    · rw [if_neg h]
      have sub : ∀ z ∈ c :: L, z ∈ c :: e :: L := fun z hz => by
        rcases List.mem_cons.mp hz with rfl | hz
        · exact List.mem_cons_self
        · exact List.mem_cons_of_mem _ (List.mem_cons_of_mem _ hz)
      obtain ⟨m, m1, m2, m3⟩ := max_c L c fun x hx y hy => u x (sub x hx) y (sub y hy)
      refine ⟨m, sub m m1, m2, fun y hy => ?_⟩
      rcases List.mem_cons.mp hy with rfl | hy
      · exact m3 y List.mem_cons_self
      · rcases List.mem_cons.mp hy with rfl | hy
        · exact bt_neg (m3 c List.mem_cons_self) (fun z => h (ul.mpr z))
        · exact m3 y (List.mem_cons_of_mem _ hy)
def cands (R : Row) (T : List Str) (size : Nat) (p : Nat × Nat) : List Cd := (List.range' p.1 (p.2 - p.1 - wid size p + 1)).map fun f => ⟨wof R T (wid size p) f, f, wid size p⟩
/-- stretches within so many places -/
def In (n : Nat) (Ss : List (Nat × Nat)) : Prop := ∀ p ∈ Ss, p.1 < p.2 ∧ p.2 ≤ n
theorem cands_len (R : Row) (T : List Str) (size : Nat) (p : Nat × Nat) : (cands R T size p).length ≤ p.2 - p.1 + 1 := by
  unfold cands
  rw [List.length_map, List.length_range']
  omega
/-- places in two stretches: they are one -/
def Apart (Ss : List (Nat × Nat)) : Prop := ∀ p ∈ Ss, ∀ q ∈ Ss, ∀ k, p.1 ≤ k → k < p.2 → q.1 ≤ k → k < q.2 → p = q
theorem cand_mem {R : Row} {T : List Str} {size : Nat} {Ss : List (Nat × Nat)} {c : Cd} (hz : 0 < size) (h : In R.length Ss) (m : c ∈ Ss.flatMap (cands R T size)) : ∃ p ∈ Ss, c.n = wid size p ∧ c.w = wof R T (wid size p) c.f ∧ p.1 ≤ c.f ∧ c.f + wid size p ≤ p.2 ∧ 0 < wid size p := by
  obtain ⟨p, hp, hc⟩ := List.mem_flatMap.mp m
  obtain ⟨h1, h2⟩ := h p hp
  unfold cands at hc
  obtain ⟨f, hf, rfl⟩ := List.mem_map.mp hc
  obtain ⟨m1, m2⟩ := List.mem_range'_1.mp hf
  have hw2 : wid size p ≤ p.2 - p.1 := by unfold wid; omega
  have hw3 : 0 < wid size p := by unfold wid; omega
  exact ⟨p, hp, rfl, rfl, m1, by show f + wid size p ≤ p.2; omega, hw3⟩
theorem mem_cand {R : Row} {T : List Str} {size : Nat} {Ss : List (Nat × Nat)} {p : Nat × Nat} (h : In R.length Ss) (hp : p ∈ Ss) {f : Nat} (h1 : p.1 ≤ f) (h2 : f + wid size p ≤ p.2) : (⟨wof R T (wid size p) f, f, wid size p⟩ : Cd) ∈ Ss.flatMap (cands R T size) := by
  refine List.mem_flatMap.mpr ⟨p, hp, ?_⟩
  unfold cands
  refine List.mem_map.mpr ⟨f, List.mem_range'_1.mpr ⟨h1, by omega⟩, rfl⟩
end K82
/-! # k82: the best window of a text -/
namespace MI
open PySem PySem.Spec PyProof.Rows L2
theorem compGo_fltG {ι : Type} {vs : List Nat} {t : D → S → Option S} {c : S → Res Bool} {e : M} {env : List Slot} {gl : List MObj} (a b : ι → D) (p : ι → Bool) : ∀ (l : List ι) (acc : List D), acc.length + l.length ≤ sizeLine →
    (∀ i ∈ l, ∃ e1, t (a i) ⟨wipeE env vs, gl⟩ = some ⟨e1, gl⟩ ∧ c ⟨e1, gl⟩ = .ok (p i) ⟨e1, gl⟩ ∧ (p i = true → mLeak e ⟨e1, gl⟩ = .ok (b i) ⟨e1, gl⟩) ∧ wipeE e1 vs = wipeE env vs) →
    compGo vs t c (mLeak e) (l.map a) acc ⟨wipeE env vs, gl⟩ = some (acc ++ (l.filter p).map b, ⟨wipeE env vs, gl⟩)
  | [], acc, _, _ => by simp [compGo]
  | i :: l, acc, hl, he => by
    obtain ⟨e1, h1, h2, h3, h4⟩ := he i List.mem_cons_self
    have hl' : acc.length < sizeLine := by simp only [List.length_cons] at hl; omega
    rw [List.map_cons]
    unfold compGo
    rw [h1]
    simp only [h2]
    by_cases hp : p i = true
    · have ih := compGo_fltG a b p l (acc ++ [b i]) (by simp only [List.length_append, List.length_cons, List.length_nil] at hl ⊢; omega) fun j m => he j (List.mem_cons_of_mem _ m)
      simp only [hp, if_true, h3 hp, hl']
      show compGo vs t c (mLeak e) (l.map a) (acc ++ [b i]) ⟨wipeE e1 vs, gl⟩ = _
      rw [h4, ih, List.filter_cons_of_pos hp]
      simp
    · have ih := compGo_fltG a b p l acc (by simp only [List.length_cons] at hl; omega) fun j m => he j (List.mem_cons_of_mem _ m)
      simp only [hp, if_false]
      show compGo vs t c (mLeak e) (l.map a) acc ⟨wipeE e1 vs, gl⟩ = _
      rw [h4, ih, List.filter_cons_of_neg hp]
theorem comp_fltG {ι : Type} {vs : List Nat} {t : D → S → Option S} {c : S → Res Bool} {e : M} {env : List Slot} {gl : List MObj} {it : S → Res (List D)} {s0 : S} (l : List ι) (a b : ι → D) (p : ι → Bool) (hi : it s0 = .ok (l.map a) ⟨env, gl⟩) (ho : noOwn env vs = true) (hl : l.length ≤ 1000000)
    (he : ∀ i ∈ l, ∃ e1, t (a i) ⟨wipeE env vs, gl⟩ = some ⟨e1, gl⟩ ∧ c ⟨e1, gl⟩ = .ok (p i) ⟨e1, gl⟩ ∧ (p i = true → mLeak e ⟨e1, gl⟩ = .ok (b i) ⟨e1, gl⟩) ∧ wipeE e1 vs = wipeE env vs) :
    mComp vs it t c e s0 = .ok (.new (.lst ((l.filter p).map b))) ⟨env, gl⟩ := by
  have h1 := compGo_fltG a b p l [] (by rw [List.length_nil, Nat.zero_add]; exact szN _ hl) he
  rw [ap_Comp, hi, Res.bind_ok, if_pos ho]
  show (match compGo vs t c (mLeak e) (l.map a) [] ⟨wipeE env vs, gl⟩ with | some (acc, s2) => Res.ok (RV.new (.lst acc)) ⟨restE env s2.env vs, s2.gl⟩ | none => .stuck) = _
  rw [h1]
  show Res.ok (RV.new (.lst ([] ++ (l.filter p).map b))) (⟨restE env (wipeE env vs) vs, gl⟩ : S) = _
  rw [rest_wipe, List.nil_append]
end MI
namespace K82
open PySem PySem.Spec PyProof.Rows L2 MI
theorem row_len (r : Ru) (x : Str) : (rowS r x).length ≤ x.length + 1 := by unfold rowS; rw [List.length_map]; exact spans_len x
/-- the first of the best windows of a row -/
def dueD (R : Row) (T : List Str) (size f : Nat) : D := wn f (wid size (0, R.length))
theorem best_window_spec (r : Ru) (hr : RuOk r) (x : Str) (hx : x.length ≤ 200) {T : List Str} {d : D} (hT : Tm T d) (size : Nat) (hz : 0 < size) (hz2 : size ≤ 300) (gl : List MObj) :
    (rowS r x = [] ∧ f_best_window [ruD r, .str x, d, .int size] gl = .ok .non gl) ∨ (rowS r x ≠ [] ∧ ∃ f, f_best_window [ruD r, .str x, d, .int size] gl = .ok (dueD (rowS r x) T size f) gl ∧ BestAt (wof (rowS r x) T (wid size (0, (rowS r x).length))) 0 ((rowS r x).length - wid size (0, (rowS r x).length) + 1) f) := by
  have ts := terms_spec r hr x (by omega) gl
  have hl := row_len r x
  have ts : f_terms_in [ruD r, .str x] gl = .ok (.lst ((rowS r x).map oD)) gl := ts
  generalize rowS r x = R at *
  cases hR : R with
  | nil =>
    subst hR
    left
    refine ⟨rfl, ?_⟩
    have ts : f_terms_in [ruD r, .str x] gl = .ok (.lst []) gl := ts
    generalize ruD r = RR at *
    simp [f_best_window, mDef, List.replicate, b_best_window, ts, as_d, asD, truthD]
  | cons o R' =>
    right
    refine ⟨by simp, ?_⟩
    have h0 : 0 < R.length := by rw [hR]; simp
    obtain ⟨f, e, b⟩ := stretch_spec hT R (by omega) (0, R.length) h0 (Nat.le_refl _) size hz (by omega) gl
    rw [← hR]
    refine ⟨f, ?_, ?_⟩
    · have nz : (R.map oD).isEmpty = false := by rw [hR]; rfl
      have ln : ∀ s, fLen s (.d (.lst (R.map oD))) = .ok (.d (.int R.length)) s := fun s => by rw [← List.length_map (f := oD)]; rfl
      have ix : ∀ s, opIx s (.d (bestD (wof R T (wid size (0, R.length))) (wid size (0, R.length)) (some f))) (.d (.int 1)) = .ok (.d (dueD R T size f)) s := fun s => ixH1 _ _ _ s
      have e : f_best_of_stretch [.lst (R.map oD), d, .tup [.int 0, .int R.length], .int size] gl = .ok (bestD (wof R T (wid size (0, R.length))) (wid size (0, R.length)) (some f)) gl := e
      generalize bestD _ _ (some f) = B at *
      generalize dueD R T size f = DD at *
      generalize R.map oD = M at *
      generalize ruD r = RR at *
      simp [f_best_window, mDef, List.replicate, b_best_window, ts, as_d, asD, truthD, nz, ln, e, ix]
    · have : R.length - wid size (0, R.length) = (0, R.length).2 - (0, R.length).1 - wid size (0, R.length) := rfl
      rw [this]
      exact b
theorem apart_one (p : Nat × Nat) : Apart [p] := fun a ha b hb _ _ _ _ _ => by rw [List.mem_singleton.mp ha, List.mem_singleton.mp hb]
theorem lex_tri {x y : Nat × Nat} (h1 : lexlt x y = false) (h2 : lexlt y x = false) : x = y := by
  rw [lexlt_not] at h1 h2
  obtain ⟨a, b⟩ := x
  obtain ⟨c, d⟩ := y
  simp only [Prod.mk.injEq] at *
  omega
/-- the law's is that of the program -/
theorem due_same (R : Row) (hn : R ≠ []) (T : List Str) (size : Nat) (hz : 0 < size) (f : Nat) (b : BestAt (wof R T (wid size (0, R.length))) 0 (R.length - wid size (0, R.length) + 1) f) (m : Cd)
    (hm : m ∈ [(0, R.length)].flatMap (cands R T size)) (hb : ∀ y ∈ [(0, R.length)].flatMap (cands R T size), ¬ better m y) : cD m = .tup [wD (wof R T (wid size (0, R.length)) f), .int (-(f : Int)), dueD R T size f] := by
  have h0 : 0 < R.length := List.length_pos_iff.mpr hn
  have hS : In R.length [(0, R.length)] := fun p hp => by rw [List.mem_singleton.mp hp]; exact ⟨h0, Nat.le_refl _⟩
  obtain ⟨p, hp, a1, a2, a3, a4, a5⟩ := cand_mem hz hS hm
  rw [List.mem_singleton.mp hp] at a1 a2 a3 a4 a5
  have hw : wid size (0, R.length) ≤ R.length := by unfold wid; simp; omega
  obtain ⟨b1, b2, b3, b4⟩ := b
  have mf := hb _ (mem_cand (T := T) (size := size) hS (List.mem_singleton.mpr rfl) (f := f) (Nat.zero_le _) (by show f + wid size (0, R.length) ≤ R.length; omega))
  have a4 : m.f + wid size (0, R.length) ≤ R.length := a4
  have q1 := b3 m.f (Nat.zero_le _) (by omega)
  unfold better at mf
  rw [a2] at mf
  have q2 : lexlt (wof R T (wid size (0, R.length)) m.f) (wof R T (wid size (0, R.length)) f) = false := by
    cases h : lexlt (wof R T (wid size (0, R.length)) m.f) (wof R T (wid size (0, R.length)) f) with
    | false => rfl
    | true => exact absurd (.inl h) mf
  have e1 := lex_tri q1 q2
  have q3 := b4 m.f (Nat.zero_le _) (by omega) e1.symm
  have e2 : m.f = f := by
    have : ¬ f < m.f := fun z => mf (.inr ⟨e1.symm, z⟩)
    omega
  unfold cD dueD
  rw [a1, a2, e2]
end K82
/-! # k82: spans of words, texts as lists of signs -/
namespace K82
open PySem PySem.Spec PyProof.Rows L2 MI
theorem out_nil (p : Nat) (f : Option Nat) : outS p f [] = lastS p f := by unfold outS spG; simp
theorem out_word {c : Nat} (h : wsg c = true) (p : Nat) (f : Option Nat) (L : List Nat) : outS p f (c :: L) = outS (p + 1) (some (f.getD p)) L := by
  unfold outS
  rw [show p + (c :: L).length = p + 1 + L.length by rw [List.length_cons]; omega]
  have e : spG p f (c :: L) = spG (p + 1) (some (f.getD p)) L := by
    rw [spG.eq_def]
    exact if_pos h
  rw [e]
theorem out_gap {c : Nat} (h : ¬ wsg c = true) (p : Nat) (L : List Nat) : outS p none (c :: L) = outS (p + 1) none L := by
  unfold outS
  rw [show p + (c :: L).length = p + 1 + L.length by rw [List.length_cons]; omega]
  have e : spG p none (c :: L) = spG (p + 1) none L := by
    rw [spG.eq_def]
    exact if_neg h
  rw [e]
theorem out_end {c : Nat} (h : ¬ wsg c = true) (p a : Nat) (L : List Nat) : outS p (some a) (c :: L) = (a, p) :: outS (p + 1) none L := by
  unfold outS
  rw [show p + (c :: L).length = p + 1 + L.length by rw [List.length_cons]; omega]
  have e : spG p (some a) (c :: L) = ((a, p) :: (spG (p + 1) none L).1, (spG (p + 1) none L).2) := by
    rw [spG.eq_def]
    exact if_neg h
  rw [e]
  rfl
def Wd (M : List Nat) (a b : Nat) : Prop := ∀ k, a ≤ k → k < b → ∃ c, M[k]? = some c ∧ wsg c = true
theorem out_ok (M : List Nat) : ∀ (L : List Nat) (p : Nat) (f : Option Nat), M.drop p = L → p + L.length = M.length → (∀ a, f = some a → a < p ∧ Wd M a p) →
    (∀ s ∈ outS p f L, f.getD p ≤ s.1 ∧ s.1 < s.2 ∧ s.2 ≤ M.length ∧ Wd M s.1 s.2) ∧ (outS p f L).Pairwise fun s t => s.2 < t.1
  | [], p, f, hd, hl, hf => by
    rw [out_nil]
    cases f with
    | none => exact ⟨fun s m => (List.not_mem_nil m).elim, .nil⟩
    | some a =>
      obtain ⟨h1, h2⟩ := hf a rfl
      refine ⟨fun s m => ?_, List.pairwise_singleton _ _⟩
      rw [List.mem_singleton.mp m]
      simp only [List.length_nil] at hl
      exact ⟨Nat.le_refl _, h1, by show p ≤ _; omega, h2⟩
  | c :: L, p, f, hd, hl, hf => by
    simp only [List.length_cons] at hl
    have hk : M[p]? = some c := by
      have := congrArg (fun z => z[0]?) hd
      simpa using this
    have hd2 : M.drop (p + 1) = L := by
      have := congrArg (List.drop 1) hd
      rwa [List.drop_drop, List.drop_one, List.tail_cons] at this
    by_cases h : wsg c = true
    · rw [out_word h]
      have wl : ∀ a, a ≤ p → (∀ k, a ≤ k → k < p → ∃ c, M[k]? = some c ∧ wsg c = true) → Wd M a (p + 1) := fun a ha z k k1 k2 => by
        by_cases q : k < p
        · exact z k k1 q
        · have : k = p := by omega
          subst this
          exact ⟨c, hk, h⟩
      obtain ⟨h1, h2⟩ := out_ok M L (p + 1) (some (f.getD p)) hd2 (by omega) fun a ha => by
        cases ha
        cases f with
        | none => exact ⟨by show p < p + 1; omega, wl p (Nat.le_refl _) fun k _ _ => by omega⟩
        | some a =>
          obtain ⟨h1, h2⟩ := hf a rfl
          exact ⟨by show a < p + 1; omega, wl a (by omega) h2⟩
      exact ⟨h1, h2⟩
    · obtain ⟨h1, h2⟩ := out_ok M L (p + 1) none hd2 (by omega) fun a ha => nomatch ha
      have h1 : ∀ s ∈ outS (p + 1) none L, p + 1 ≤ s.1 ∧ s.1 < s.2 ∧ s.2 ≤ M.length ∧ Wd M s.1 s.2 := h1
      cases f with
      | none =>
        rw [out_gap h]
        exact ⟨fun s m => ⟨by have := (h1 s m).1; show p ≤ s.1; omega, (h1 s m).2⟩, h2⟩
      | some a =>
        rw [out_end h]
        obtain ⟨f1, f2⟩ := hf a rfl
        refine ⟨fun s m => ?_, List.pairwise_cons.mpr ⟨fun t m => by have := (h1 t m).1; show p < t.1; omega, h2⟩⟩
        rcases List.mem_cons.mp m with rfl | m
        · exact ⟨Nat.le_refl _, f1, by show p ≤ _; omega, f2⟩
        · have := h1 s m
          exact ⟨by show a ≤ s.1; omega, this.2⟩
/-- stretches that lie apart -/
structure SpOk (M : List Nat) (Ss : List (Nat × Nat)) : Prop where
  inn : ∀ s ∈ Ss, s.1 < s.2 ∧ s.2 ≤ M.length ∧ Wd M s.1 s.2
  asc : Ss.Pairwise fun s t => s.2 < t.1
theorem spans_ok (x : Str) : SpOk x.cps.toList (spans x) := by
  have e : spans x = outS 0 none x.cps.toList := by unfold spans spansL outS; rw [Nat.zero_add]
  obtain ⟨h1, h2⟩ := out_ok x.cps.toList x.cps.toList 0 none rfl (Nat.zero_add _) fun a h => nomatch h
  rw [e]
  exact ⟨fun s m => (h1 s m).2, h2⟩
theorem SpOk.sub {M : List Nat} {Ss Rs : List (Nat × Nat)} (h : SpOk M Ss) (s : Rs.Sublist Ss) : SpOk M Rs := ⟨fun p m => h.inn p (s.subset m), h.asc.sublist s⟩
theorem SpOk.tail {M : List Nat} {p : Nat × Nat} {Ss : List (Nat × Nat)} (h : SpOk M (p :: Ss)) : SpOk M Ss := h.sub (List.sublist_cons_self _ _)
theorem SpOk.le {M : List Nat} {p : Nat × Nat} {Ss : List (Nat × Nat)} (h : SpOk M (p :: Ss)) : ∀ q ∈ Ss, p.2 < q.1 := (List.pairwise_cons.mp h.asc).1
/-! ### texts -/
abbrev tS (l : List Nat) : Str := ⟨l.toArray⟩
theorem tS_len (a : List Nat) : (tS a).length = a.length := SX.S_len a
theorem tS_cat (a b : List Nat) : tS a ++ tS b = tS (a ++ b) := SX.S_cat a b
theorem tS_cps (x : Str) : tS x.cps.toList = x := SX.S_tl x
theorem tS_inj {a b : List Nat} : tS a = tS b ↔ a = b := ⟨SX.S_inj, fun h => by rw [h]⟩
/-- the signs from i to j -/
def sub (M : List Nat) (i j : Nat) : List Nat := (M.drop i).take (j - i)
theorem sub_len (M : List Nat) (i j : Nat) (h : j ≤ M.length) : (sub M i j).length = j - i := by unfold sub; simp; omega
theorem sub_self (M : List Nat) (i : Nat) : sub M i i = [] := by unfold sub; simp
theorem sub_cat (M : List Nat) (i j k : Nat) (h1 : i ≤ j) (h2 : j ≤ k) : sub M i j ++ sub M j k = sub M i k := by
  unfold sub
  rw [show k - i = (j - i) + (k - j) by omega, List.take_add, List.drop_drop, show i + (j - i) = j by omega]
theorem sub_nil {M : List Nat} {i j : Nat} (h : j ≤ M.length) : sub M i j = [] ↔ j ≤ i := by
  rw [← List.length_eq_zero_iff, sub_len M i j h]; omega
theorem cut_sub (x : Str) (i j : Nat) : cutS x (some (i : Int)) (some (j : Int)) = tS (sub x.cps.toList i j) := by
  unfold cutS
  have := cut_nat x.cps.toList i j
  unfold cut at this
  rw [← str_len] at this
  rw [this]
  rfl
theorem wd_sub (x : Str) (p : Nat × Nat) : wd x p = tS (sub x.cps.toList p.1 p.2) := cut_sub x p.1 p.2
theorem tS_lenb (x : Str) (i j : Nat) : (tS (sub x.cps.toList i j)).length ≤ x.length := by
  rw [← cut_sub]; exact cutS_len _ _ _
theorem eq_empty (l : List Nat) : (tS l = "") ↔ l = [] := by
  have e : ("" : Str) = tS [] := by decide +kernel
  rw [e]
  exact tS_inj
end K82
/-! # k82: parts of a window, by spans and by places -/
namespace K82
open PySem PySem.Spec PyProof.Rows L2 MI
section
variable (M : List Nat) (W : Nat × Nat → Bool)
/-- the plain text ahead, and the wished words with what stands behind -/
def blk (pl e : Nat) : List (Nat × Nat) → List Nat × List (List Nat × List Nat)
  | [] => (sub M pl e, [])
  | p :: R => if W p = true then (sub M pl p.1, (sub M p.1 p.2, (blk p.2 e R).1) :: (blk p.2 e R).2) else blk pl e R
end
def flatP (b : List Nat × List (List Nat × List Nat)) : List (Bool × List Nat) := (false, b.1) :: b.2.flatMap fun z => [(true, z.1), (false, z.2)]
def ne (z : Bool × List Nat) : Bool := !z.2.isEmpty
def PG (b : List Nat × List (List Nat × List Nat)) : List (Bool × List Nat) := (flatP b).filter ne
def told (b : List Nat × List (List Nat × List Nat)) : List Nat := b.1 ++ b.2.flatMap fun z => 91 :: (z.1 ++ 93 :: z.2)
def endS (i : Nat) : List (Nat × Nat) → Nat
  | [] => i
  | p :: R => endS p.2 R
abbrev K3 := Option (Nat × Nat)
def cv (z : K3 × List Nat) : Bool × List Nat := (z.1.isSome, z.2)
/-- one sign more -/
def stepP (acc : List (K3 × List Nat)) (κ : K3) (c : Nat) : List (K3 × List Nat) := match acc.getLast? with
  | some z => if z.1 = κ then acc.dropLast ++ [(κ, z.2 ++ [c])] else acc ++ [(κ, [c])]
  | none => acc ++ [(κ, [c])]
def runP (key : Nat → K3) (acc : List (K3 × List Nat)) (i : Nat) : List Nat → List (K3 × List Nat)
  | [] => acc
  | c :: cs => runP key (stepP acc (key i) c) (i + 1) cs
theorem runP_app (key : Nat → K3) : ∀ (a b : List Nat) (acc : List (K3 × List Nat)) (i : Nat), runP key acc i (a ++ b) = runP key (runP key acc i a) (i + a.length) b
  | [], b, acc, i => by simp [runP]
  | c :: a, b, acc, i => by
    rw [List.cons_append, runP, runP, runP_app key a b, List.length_cons]
    congr 1
    omega
theorem stepP_at (acc : List (K3 × List Nat)) (κ : K3) (t : List Nat) (c : Nat) : stepP (acc ++ [(κ, t)]) κ c = acc ++ [(κ, t ++ [c])] := by
  unfold stepP
  rw [List.getLast?_append]
  simp
theorem stepP_new (acc : List (K3 × List Nat)) (κ : K3) (c : Nat) (h : ∀ z, acc.getLast? = some z → z.1 ≠ κ) : stepP acc κ c = acc ++ [(κ, [c])] := by
  unfold stepP
  cases e : acc.getLast? with
  | none => rfl
  | some z => simp only; rw [if_neg (h z e)]
theorem runA (key : Nat → K3) (acc : List (K3 × List Nat)) (κ : K3) : ∀ (cs t : List Nat) (i : Nat), (∀ k, i ≤ k → k < i + cs.length → key k = κ) → runP key (acc ++ [(κ, t)]) i cs = acc ++ [(κ, t ++ cs)]
  | [], t, i, _ => by simp [runP]
  | c :: cs, t, i, h => by
    rw [runP, h i (Nat.le_refl _) (by rw [List.length_cons]; omega), stepP_at, runA key acc κ cs (t ++ [c]) (i + 1) fun k a b => h k (by omega) (by rw [List.length_cons]; omega), List.append_assoc]
    rfl
theorem runB (key : Nat → K3) (acc : List (K3 × List Nat)) (κ : K3) (cs : List Nat) (hc : cs ≠ []) (i : Nat) (h : ∀ k, i ≤ k → k < i + cs.length → key k = κ) (hl : ∀ z, acc.getLast? = some z → z.1 ≠ κ) : runP key acc i cs = acc ++ [(κ, cs)] := by
  cases cs with
  | nil => exact absurd rfl hc
  | cons c cs =>
    rw [runP, h i (Nat.le_refl _) (by rw [List.length_cons]; omega), stepP_new _ _ _ hl, runA key acc κ cs [c] (i + 1) fun k a b => h k (by omega) (by rw [List.length_cons]; omega)]
    rfl
def st (acc : List (K3 × List Nat)) (t : List Nat) : List (K3 × List Nat) := if t = [] then acc else acc ++ [(none, t)]
theorem runN (key : Nat → K3) (acc : List (K3 × List Nat)) (t cs : List Nat) (i : Nat) (h : ∀ k, i ≤ k → k < i + cs.length → key k = none) (hl : ∀ z, acc.getLast? = some z → z.1 ≠ none) : runP key (st acc t) i cs = st acc (t ++ cs) := by
  by_cases hc : cs = []
  · subst hc; rw [List.append_nil]; rfl
  · unfold st
    rw [if_neg (by simp [hc] : ¬ t ++ cs = [])]
    by_cases ht : t = []
    · rw [if_pos ht, runB key acc none cs hc i h hl, ht]; rfl
    · rw [if_neg ht, runA key acc none cs t i h]
theorem st_map (acc : List (K3 × List Nat)) (t : List Nat) : (st acc t).map cv = acc.map cv ++ [(false, t)].filter ne := by
  unfold st
  by_cases ht : t = []
  · rw [if_pos ht, ht]; simp [ne]
  · rw [if_neg ht, List.map_append]
    have : ne (false, t) = true := by cases t with | nil => exact absurd rfl ht | cons => rfl
    rw [List.filter_cons_of_pos this]
    rfl
theorem st_last {acc : List (K3 × List Nat)} {t : List Nat} {z : K3 × List Nat} (h : (st acc t).getLast? = some z) : z.1 = none ∨ acc.getLast? = some z := by
  unfold st at h
  by_cases ht : t = []
  · rw [if_pos ht] at h; exact .inr h
  · rw [if_neg ht, List.getLast?_append] at h
    simp at h
    left
    rw [← h]
section
variable {M : List Nat} {W : Nat × Nat → Bool}
theorem endS_le {M : List Nat} : ∀ {R : List (Nat × Nat)} {i : Nat}, SpOk M R → (∀ p ∈ R, i ≤ p.1) → i ≤ M.length → i ≤ endS i R ∧ endS i R ≤ M.length
  | [], i, _, _, h => ⟨Nat.le_refl _, h⟩
  | p :: R, i, h, hi, _ => by
    have hp := h.inn p List.mem_cons_self
    obtain ⟨a, b⟩ := endS_le (R := R) (i := p.2) h.tail (fun q m => by have := h.le q m; omega) hp.2.1
    have := hi p List.mem_cons_self
    exact ⟨by show i ≤ endS p.2 R; omega, b⟩
/-- by places: the same parts -/
theorem places_parts (key : Nat → K3) (e : Nat) : ∀ (R : List (Nat × Nat)) (i pl : Nat) (acc : List (K3 × List Nat)), SpOk M R → (∀ p ∈ R, i ≤ p.1) → i ≤ M.length → pl ≤ i → e = endS i R →
    (∀ p ∈ R, ∀ k, p.1 ≤ k → k < p.2 → key k = if W p = true then some p else none) → (∀ k, i ≤ k → k < e → (∀ p ∈ R, ¬ (p.1 ≤ k ∧ k < p.2)) → key k = none) →
    (∀ z, acc.getLast? = some z → ∃ q : Nat × Nat, z.1 = some q ∧ q.2 ≤ pl) → (runP key (st acc (sub M pl i)) i (sub M i e)).map cv = acc.map cv ++ PG (blk M W pl e R)
  | [], i, pl, acc, h, hi, hM, hpl, he, hk, hn, hl => by
    have he : e = i := he
    subst he
    rw [sub_self]
    show (st acc (sub M pl e)).map cv = _
    rw [st_map]
    rfl
  | p :: R, i, pl, acc, h, hi, hM, hpl, he, hk, hn, hl => by
    have hp := h.inn p List.mem_cons_self
    have hi1 := hi p List.mem_cons_self
    have he : e = endS p.2 R := he
    obtain ⟨e1, e2⟩ := endS_le (R := R) (i := p.2) h.tail (fun q m => by have := h.le q m; omega) hp.2.1
    rw [← he] at e1 e2
    rw [← sub_cat M i p.1 e hi1 (by omega), ← sub_cat M p.1 p.2 e (by omega) e1]
    rw [runP_app, runN key acc _ _ i (fun k a b => hn k a (by rw [sub_len M _ _ (by omega)] at b; omega) fun q m => by
      rw [sub_len M _ _ (by omega)] at b
      rcases List.mem_cons.mp m with rfl | m
      · omega
      · have := h.le q m; omega) (fun z hz => by obtain ⟨q, hq, _⟩ := hl z hz; rw [hq]; simp)]
    rw [sub_cat M pl i p.1 hpl hi1, sub_len M i p.1 (by omega), show i + (p.1 - i) = p.1 by omega, runP_app, sub_len M p.1 p.2 (by omega), show p.1 + (p.2 - p.1) = p.2 by omega]
    have ih := fun pl acc hpl hl => places_parts key e R p.2 pl acc h.tail (fun q m => by have := h.le q m; omega) hp.2.1 hpl he (fun q m => hk q (List.mem_cons_of_mem _ m)) (fun k a b c => hn k (by omega) b fun q m => by
      rcases List.mem_cons.mp m with rfl | m
      · omega
      · exact c q m) hl
    have cne : sub M p.1 p.2 ≠ [] := fun z => by rw [sub_nil hp.2.1] at z; omega
    by_cases hw : W p = true
    · rw [runB key (st acc (sub M pl p.1)) (some p) (sub M p.1 p.2) cne p.1 (fun k a b => by
        rw [sub_len M _ _ (by omega)] at b
        rw [hk p List.mem_cons_self k a (by omega), if_pos hw]) (fun z hz => by
          rcases st_last hz with h0 | h0
          · rw [h0]; simp
          · obtain ⟨q, hq, hq2⟩ := hl z h0
            rw [hq]
            intro z
            cases z
            omega)]
      have := ih p.2 (st acc (sub M pl p.1) ++ [(some p, sub M p.1 p.2)]) (Nat.le_refl _) (fun z hz => by
        rw [List.getLast?_append] at hz
        simp at hz
        exact ⟨p, by rw [← hz], Nat.le_refl _⟩)
      rw [sub_self] at this
      have e0 : st (st acc (sub M pl p.1) ++ [(some p, sub M p.1 p.2)]) [] = st acc (sub M pl p.1) ++ [(some p, sub M p.1 p.2)] := if_pos rfl
      rw [e0] at this
      rw [this, List.map_append, st_map]
      have eb : blk M W pl e (p :: R) = (sub M pl p.1, (sub M p.1 p.2, (blk M W p.2 e R).1) :: (blk M W p.2 e R).2) := if_pos hw
      rw [eb]
      have en : ne (true, sub M p.1 p.2) = true := by
        cases hs : sub M p.1 p.2 with
        | nil => exact absurd hs cne
        | cons => rfl
      have : PG (sub M pl p.1, (sub M p.1 p.2, (blk M W p.2 e R).1) :: (blk M W p.2 e R).2) = [(false, sub M pl p.1)].filter ne ++ ((true, sub M p.1 p.2) :: PG (blk M W p.2 e R)) := by
        unfold PG flatP
        rw [List.flatMap_cons]
        show ([(false, sub M pl p.1)] ++ ((true, sub M p.1 p.2) :: ((false, (blk M W p.2 e R).1) :: (blk M W p.2 e R).2.flatMap fun z => [(true, z.1), (false, z.2)]))).filter ne = _
        rw [List.filter_append, List.filter_cons_of_pos en]
      rw [this]
      simp [cv]
    · rw [runN key acc _ _ p.1 (fun k a b => by
        rw [sub_len M _ _ (by omega)] at b
        rw [hk p List.mem_cons_self k a (by omega), if_neg hw]) (fun z hz => by obtain ⟨q, hq, _⟩ := hl z hz; rw [hq]; simp), sub_cat M pl p.1 p.2 (by omega) (by omega)]
      have eb : blk M W pl e (p :: R) = blk M W pl e R := if_neg hw
      rw [eb]
      exact ih pl acc (by omega) hl
end
/-! ### told by places -/
def runT (op sh : Nat → List Nat) (i : Nat) : List Nat → List Nat
  | [] => []
  | c :: cs => op i ++ c :: (sh i ++ runT op sh (i + 1) cs)
theorem runT_app (op sh : Nat → List Nat) : ∀ (a b : List Nat) (i : Nat), runT op sh i (a ++ b) = runT op sh i a ++ runT op sh (i + a.length) b
  | [], b, i => by simp [runT]
  | c :: a, b, i => by
    rw [List.cons_append, runT, runT, runT_app op sh a b, List.length_cons, show i + 1 + a.length = i + (a.length + 1) by omega]
    simp
theorem runT_no (op sh : Nat → List Nat) : ∀ (cs : List Nat) (i : Nat), (∀ k, i ≤ k → k < i + cs.length → op k = [] ∧ sh k = []) → runT op sh i cs = cs
  | [], i, _ => rfl
  | c :: cs, i, h => by
    obtain ⟨a, b⟩ := h i (Nat.le_refl _) (by rw [List.length_cons]; omega)
    rw [runT, a, b, runT_no op sh cs (i + 1) fun k k1 k2 => h k (by omega) (by rw [List.length_cons]; omega)]
    rfl
theorem runT_sh (op sh : Nat → List Nat) : ∀ (cs : List Nat) (i : Nat), cs ≠ [] → (∀ k, i ≤ k → k < i + cs.length → op k = [] ∧ sh k = if k + 1 = i + cs.length then [93] else []) → runT op sh i cs = cs ++ [93]
  | [], i, h, _ => absurd rfl h
  | [c], i, _, h => by
    obtain ⟨a, b⟩ := h i (Nat.le_refl _) (by simp)
    rw [runT, a, b]
    simp [runT]
  | c :: d :: cs, i, _, h => by
    obtain ⟨a, b⟩ := h i (Nat.le_refl _) (by simp)
    rw [runT, a, b, if_neg (by simp), runT_sh op sh (d :: cs) (i + 1) (by simp) fun k k1 k2 => by
      obtain ⟨x, y⟩ := h k (by omega) (by simp at *; omega)
      refine ⟨x, ?_⟩
      rw [y]
      congr 1
      simp
      omega]
    simp
theorem runT_word (op sh : Nat → List Nat) (cs : List Nat) (i : Nat) (hc : cs ≠ []) (h : ∀ k, i ≤ k → k < i + cs.length → (op k = if k = i then [91] else []) ∧ sh k = if k + 1 = i + cs.length then [93] else []) : runT op sh i cs = 91 :: (cs ++ [93]) := by
  cases cs with
  | nil => exact absurd rfl hc
  | cons c cs =>
    obtain ⟨a, b⟩ := h i (Nat.le_refl _) (by simp)
    rw [if_pos rfl] at a
    cases cs with
    | nil => rw [runT, a, b]; simp [runT]
    | cons d cs =>
      rw [runT, a, b, if_neg (by simp), runT_sh op sh (d :: cs) (i + 1) (by simp) fun k k1 k2 => by
        obtain ⟨x, y⟩ := h k (by omega) (by simp at *; omega)
        rw [x, y]
        refine ⟨if_neg (by omega), ?_⟩
        congr 1
        simp
        omega]
      simp
section
variable {M : List Nat} {W : Nat × Nat → Bool}
theorem places_told (op sh : Nat → List Nat) (e : Nat) : ∀ (R : List (Nat × Nat)) (i pl : Nat), SpOk M R → (∀ p ∈ R, i ≤ p.1) → i ≤ M.length → pl ≤ i → e = endS i R →
    (∀ k, i ≤ k → k < e → op k = if (∃ p ∈ R, p.1 = k ∧ W p = true) then [91] else []) → (∀ k, i ≤ k → k < e → sh k = if (∃ p ∈ R, p.2 = k + 1 ∧ W p = true) then [93] else []) →
    sub M pl i ++ runT op sh i (sub M i e) = told (blk M W pl e R)
  | [], i, pl, h, hi, hM, hpl, he, ho, hs => by
    have he : e = i := he
    subst he
    rw [sub_self]
    simp [runT, blk, told]
  | p :: R, i, pl, h, hi, hM, hpl, he, ho, hs => by
    have hp := h.inn p List.mem_cons_self
    have hi1 := hi p List.mem_cons_self
    have he : e = endS p.2 R := he
    obtain ⟨e1, e2⟩ := endS_le (R := R) (i := p.2) h.tail (fun q m => by have := h.le q m; omega) hp.2.1
    rw [← he] at e1 e2
    have hR : ∀ q ∈ R, p.2 < q.1 ∧ q.1 < q.2 := fun q m => ⟨h.le q m, (h.tail.inn q m).1⟩
    have ih := fun pl hpl => places_told op sh e R p.2 pl h.tail (fun q m => by have := h.le q m; omega) hp.2.1 hpl he (fun k a b => by
        rw [ho k (by omega) b]
        congr 1
        refine propext ⟨?_, ?_⟩
        · rintro ⟨q, m, q1, q2⟩
          rcases List.mem_cons.mp m with rfl | m
          · omega
          · exact ⟨q, m, q1, q2⟩
        · rintro ⟨q, m, q1, q2⟩
          exact ⟨q, List.mem_cons_of_mem _ m, q1, q2⟩) (fun k a b => by
        rw [hs k (by omega) b]
        congr 1
        refine propext ⟨?_, ?_⟩
        · rintro ⟨q, m, q1, q2⟩
          rcases List.mem_cons.mp m with rfl | m
          · omega
          · exact ⟨q, m, q1, q2⟩
        · rintro ⟨q, m, q1, q2⟩
          exact ⟨q, List.mem_cons_of_mem _ m, q1, q2⟩)
    rw [← sub_cat M i p.1 e hi1 (by omega), ← sub_cat M p.1 p.2 e (by omega) e1, runT_app, runT_app, sub_len M i p.1 (by omega), show i + (p.1 - i) = p.1 by omega, sub_len M p.1 p.2 (by omega), show p.1 + (p.2 - p.1) = p.2 by omega]
    rw [runT_no op sh (sub M i p.1) i fun k a b => by
      rw [sub_len M _ _ (by omega)] at b
      rw [ho k a (by omega), hs k a (by omega)]
      refine ⟨if_neg ?_, if_neg ?_⟩
      · rintro ⟨q, m, q1, q2⟩
        rcases List.mem_cons.mp m with rfl | m
        · omega
        · have := hR q m; omega
      · rintro ⟨q, m, q1, q2⟩
        rcases List.mem_cons.mp m with rfl | m
        · omega
        · have := hR q m; omega]
    have cne : sub M p.1 p.2 ≠ [] := fun z => by rw [sub_nil hp.2.1] at z; omega
    by_cases hw : W p = true
    · rw [runT_word op sh (sub M p.1 p.2) p.1 cne fun k a b => by
        rw [sub_len M _ _ (by omega)] at b ⊢
        rw [ho k (by omega) (by omega), hs k (by omega) (by omega)]
        constructor
        · by_cases q : k = p.1
          · rw [if_pos q, if_pos ⟨p, List.mem_cons_self, q.symm, hw⟩]
          · rw [if_neg q, if_neg]
            rintro ⟨q', m, q1, q2⟩
            rcases List.mem_cons.mp m with rfl | m
            · omega
            · have := hR q' m; omega
        · by_cases q : k + 1 = p.1 + (p.2 - p.1)
          · rw [if_pos q, if_pos ⟨p, List.mem_cons_self, by omega, hw⟩]
          · rw [if_neg q, if_neg]
            rintro ⟨q', m, q1, q2⟩
            rcases List.mem_cons.mp m with rfl | m
            · omega
            · have := hR q' m; omega]
      have eb : blk M W pl e (p :: R) = (sub M pl p.1, (sub M p.1 p.2, (blk M W p.2 e R).1) :: (blk M W p.2 e R).2) := if_pos hw
      have := ih p.2 (Nat.le_refl _)
      rw [sub_self, List.nil_append] at this
      rw [eb, this]
      unfold told
      rw [List.flatMap_cons, ← List.append_assoc, sub_cat M pl i p.1 hpl hi1]
      simp
    · rw [runT_no op sh (sub M p.1 p.2) p.1 fun k a b => by
        rw [sub_len M _ _ (by omega)] at b
        rw [ho k (by omega) (by omega), hs k (by omega) (by omega)]
        refine ⟨if_neg ?_, if_neg ?_⟩
        · rintro ⟨q, m, q1, q2⟩
          rcases List.mem_cons.mp m with rfl | m
          · exact hw q2
          · have := hR q m; omega
        · rintro ⟨q, m, q1, q2⟩
          rcases List.mem_cons.mp m with rfl | m
          · exact hw q2
          · have := hR q m; omega]
      have eb : blk M W pl e (p :: R) = blk M W pl e R := if_neg hw
      rw [eb, ← ih pl (by omega), ← List.append_assoc, ← List.append_assoc, sub_cat M pl i p.1 hpl hi1, sub_cat M pl p.1 p.2 (by omega) (by omega)]
end
end K82
/-! # k82: what is told, and read again -/
namespace K82
open PySem PySem.Spec PyProof.Rows L2 MI
abbrev Blk := List Nat × List (List Nat × List Nat)
def toldP (ps : List (Bool × List Nat)) : List Nat := ps.flatMap fun z => if z.1 = true then 91 :: (z.2 ++ [93]) else z.2
theorem toldP_filter : ∀ ps : List (Bool × List Nat), (∀ z ∈ ps, z.1 = true → z.2 ≠ []) → toldP (ps.filter ne) = toldP ps
  | [], _ => rfl
  | z :: ps, h => by
    have ih := toldP_filter ps fun y m => h y (List.mem_cons_of_mem _ m)
    by_cases hz : ne z = true
    · rw [List.filter_cons_of_pos hz]
      unfold toldP at *
      rw [List.flatMap_cons, List.flatMap_cons, ih]
    · rw [List.filter_cons_of_neg hz, ih]
      obtain ⟨b, l⟩ := z
      have hl : l = [] := by cases l with | nil => rfl | cons => exact absurd rfl hz
      subst hl
      cases b with
      | true => exact absurd rfl (h (true, []) List.mem_cons_self rfl)
      | false => rfl
/-- the words are not empty -/
def BOk (b : Blk) : Prop := ∀ z ∈ b.2, z.1 ≠ []
theorem toldP_PG {b : Blk} (h : BOk b) : toldP (PG b) = told b := by
  unfold PG
  rw [toldP_filter]
  · unfold toldP flatP told
    rw [List.flatMap_cons]
    congr 1
    rw [List.flatMap_assoc]
    congr 1
    funext z
    simp
  · intro z m
    unfold flatP at m
    rcases List.mem_cons.mp m with rfl | m
    · intro h; cases h
    · obtain ⟨y, my, hz⟩ := List.mem_flatMap.mp m
      simp only [List.mem_cons, List.not_mem_nil, or_false] at hz
      rcases hz with rfl | rfl
      · exact fun _ => h y my
      · intro h; cases h
theorem cat_filter : ∀ ps : List (Bool × List Nat), (ps.filter ne).flatMap (·.2) = ps.flatMap (·.2)
  | [] => rfl
  | z :: ps => by
    have ih := cat_filter ps
    by_cases hz : ne z = true
    · rw [List.filter_cons_of_pos hz, List.flatMap_cons, List.flatMap_cons, ih]
    · rw [List.filter_cons_of_neg hz, List.flatMap_cons, ih]
      have : z.2 = [] := by
        obtain ⟨b, l⟩ := z
        cases l with | nil => rfl | cons => exact absurd rfl hz
      rw [this]
      rfl
section
variable {M : List Nat} {W : Nat × Nat → Bool}
theorem blk_ok : ∀ (R : List (Nat × Nat)) (pl e : Nat), SpOk M R → BOk (blk M W pl e R)
  | [], pl, e, _ => fun z m => (List.not_mem_nil m).elim
  | p :: R, pl, e, h => by
    have hp := h.inn p List.mem_cons_self
    unfold blk
    split
    · intro z m
      rcases List.mem_cons.mp m with rfl | m
      · show sub M p.1 p.2 ≠ []
        rw [Ne, sub_nil hp.2.1]
        omega
      · exact blk_ok R p.2 e h.tail z m
    · exact blk_ok R pl e h.tail
/-- put together: what stands in the text -/
theorem blk_cat : ∀ (R : List (Nat × Nat)) (pl i e : Nat), SpOk M R → (∀ p ∈ R, i ≤ p.1) → i ≤ M.length → pl ≤ i → e = endS i R → (flatP (blk M W pl e R)).flatMap (·.2) = sub M pl e
  | [], pl, i, e, _, _, _, _, _ => by simp [flatP, blk]
  | p :: R, pl, i, e, h, hi, hM, hpl, he => by
    have hp := h.inn p List.mem_cons_self
    have hi1 := hi p List.mem_cons_self
    have he : e = endS p.2 R := he
    obtain ⟨e1, e2⟩ := endS_le (R := R) (i := p.2) h.tail (fun q m => by have := h.le q m; omega) hp.2.1
    rw [← he] at e1 e2
    have ih := fun pl hpl => blk_cat R pl p.2 e h.tail (fun q m => by have := h.le q m; omega) hp.2.1 hpl he
    by_cases hw : W p = true
    · have eb : blk M W pl e (p :: R) = (sub M pl p.1, (sub M p.1 p.2, (blk M W p.2 e R).1) :: (blk M W p.2 e R).2) := if_pos hw
      have i2 := ih p.2 (Nat.le_refl _)
      rw [eb]
      unfold flatP at i2 ⊢
      rw [List.flatMap_cons] at i2
      rw [List.flatMap_cons, List.flatMap_cons, List.flatMap_append, List.flatMap_cons, List.flatMap_cons, List.flatMap_nil, List.append_nil, List.append_assoc, i2, sub_cat M p.1 p.2 e (by omega) e1]
      show sub M pl p.1 ++ sub M p.1 e = _
      exact sub_cat M pl p.1 e (by omega) (by omega)
    · have eb : blk M W pl e (p :: R) = blk M W pl e R := if_neg hw
      rw [eb]
      exact ih pl (by omega)
end
theorem mem_flat {b : Blk} {c : Nat} : (c ∈ b.1 ∨ ∃ z ∈ b.2, c ∈ z.1 ∨ c ∈ z.2) ↔ c ∈ (flatP b).flatMap (·.2) := by
  unfold flatP
  rw [List.flatMap_cons, List.mem_append, List.flatMap_assoc, List.mem_flatMap]
  simp
/-- free of brackets -/
def Fr (b : Blk) : Prop := ∀ c, c ∈ (flatP b).flatMap (·.2) → c ≠ 91 ∧ c ≠ 93
theorem spl_told {b : Blk} (h : Fr b) : TL.spl [91] 0 [] (told b) = b.1 :: b.2.map fun z => z.1 ++ 93 :: z.2 := by
  obtain ⟨t0, bs⟩ := b
  have h0 : 91 ∉ t0 := fun m => (h 91 (mem_flat.mp (.inl m))).1 rfl
  have hb : ∀ z ∈ bs, 91 ∉ z.1 ++ 93 :: z.2 := fun z mz m => by
    rcases List.mem_append.mp m with m | m
    · exact (h 91 (mem_flat.mp (.inr ⟨z, mz, .inl m⟩))).1 rfl
    · rcases List.mem_cons.mp m with m | m
      · cases m
      · exact (h 91 (mem_flat.mp (.inr ⟨z, mz, .inr m⟩))).1 rfl
  clear h
  show TL.spl [91] 0 [] (t0 ++ bs.flatMap fun z => 91 :: (z.1 ++ 93 :: z.2)) = t0 :: bs.map fun z => z.1 ++ 93 :: z.2
  induction bs generalizing t0 with
  | nil => rw [List.flatMap_nil, List.append_nil, TL.spl_last1 h0]; rfl
  | cons z bs ih =>
    rw [List.flatMap_cons]
    have : t0 ++ (91 :: (z.1 ++ 93 :: z.2) ++ bs.flatMap fun z => 91 :: (z.1 ++ 93 :: z.2)) = t0 ++ ([91] ++ ((z.1 ++ 93 :: z.2) ++ bs.flatMap fun z => 91 :: (z.1 ++ 93 :: z.2))) := by simp
    rw [this, TL.spl_part1 h0, List.nil_append, ih _ (hb z List.mem_cons_self) fun y m => hb y (List.mem_cons_of_mem _ m)]
    rfl
theorem par_told {w t : List Nat} (h : 93 ∉ w) : TL.par [93] [] (w ++ 93 :: t) = some (w, t) := by
  have := TL.par_part1 (s := 93) (S := []) (p := w) (rest := t) (acc := []) h
  rw [List.nil_append] at this
  exact this
end K82
/-! # k82: the program's parts of a window -/
namespace K82
open PySem PySem.Spec PyProof.Rows L2 MI
def partD (z : Bool × List Nat) : D := .tup [.bl z.1, .str (tS z.2)]
/-- a span is wished -/
def WW (r : Ru) (x : Str) (T : List Str) (p : Nat × Nat) : Bool := wis T (termO r (wd x p))
/-- the spans of a window -/
def seg (x : Str) (a b : Nat) : List (Nat × Nat) := ((spans x).drop a).take (b - a)
theorem seg_ok (x : Str) (a b : Nat) : SpOk x.cps.toList (seg x a b) := (spans_ok x).sub ((List.take_sublist _ _).trans (List.drop_sublist _ _))
theorem seg_len (x : Str) (a b : Nat) : (seg x a b).length ≤ x.length + 1 := by
  have := spans_len x
  unfold seg
  rw [List.length_take, List.length_drop]
  omega
theorem seg_ne {x : Str} {a b : Nat} (h : a < b) (hb : b ≤ (spans x).length) : seg x a b ≠ [] := fun z => by
  have := congrArg List.length z
  unfold seg at this
  rw [List.length_take, List.length_drop, List.length_nil] at this
  omega
theorem slSeg (x : Str) (a b : Nat) (s : S) : opSl (some (a : Int)) (some (b : Int)) s (.d (.lst ((spans x).map pD))) = .ok (.new (.lst ((seg x a b).map pD))) s := by
  have e : cut ((spans x).map pD) (some (a : Int)) (some (b : Int)) = (seg x a b).map pD := by
    rw [cut_nat]
    unfold seg
    rw [List.map_take, List.map_drop]
  show Res.ok (RV.new (.lst (cut ((spans x).map pD) (some (a : Int)) (some (b : Int))))) s = _
  rw [e]
section
variable (M : List Nat) (W : Nat × Nat → Bool)
def pgL (pl : Nat) : List (Nat × Nat) → List (Bool × List Nat) × Nat
  | [] => ([], pl)
  | p :: R => if W p = true then ((false, sub M pl p.1) :: (true, sub M p.1 p.2) :: (pgL p.2 R).1, (pgL p.2 R).2) else pgL pl R
theorem pgL_flat (e : Nat) : ∀ (R : List (Nat × Nat)) (pl : Nat), flatP (blk M W pl e R) = (pgL M W pl R).1 ++ [(false, sub M (pgL M W pl R).2 e)]
  | [], pl => by simp [flatP, blk, pgL]
  | p :: R, pl => by
    unfold blk pgL
    by_cases h : W p = true
    · rw [if_pos h, if_pos h]
      have := pgL_flat e R p.2
      unfold flatP at this ⊢
      rw [List.flatMap_cons]
      simp only [List.cons_append, List.nil_append] at this ⊢
      rw [this]
    · rw [if_neg h, if_neg h]
      exact pgL_flat e R pl
theorem pgL_len : ∀ (R : List (Nat × Nat)) (pl : Nat), (pgL M W pl R).1.length ≤ 2 * R.length
  | [], pl => by simp [pgL]
  | p :: R, pl => by
    unfold pgL
    split
    · have := pgL_len R p.2
      simp only [List.length_cons]
      omega
    · have := pgL_len R pl
      rw [List.length_cons]
      omega
end
theorem termW (r : Ru) (hr : RuOk r) (x : Str) (hx : x.length ≤ 1000) (p : Nat × Nat) (gl : List MObj) : f_term_of [ruD r, .str (wd x p)] gl = .ok (oD (termO r (wd x p))) gl := term_spec r hr _ (by have := wd_len x p; omega) gl
theorem slW (x : Str) (hx : x.length ≤ 1000) (i j : Nat) (s : S) : opSl (some (i : Int)) (some (j : Int)) s (.d (.str x)) = .ok (.d (.str (tS (sub x.cps.toList i j)))) s := by rw [sl_str x hx, cut_sub]
theorem snip_loop (r : Ru) (hr : RuOk r) (x : Str) (hx : x.length ≤ 300) {T : List Str} {d : D} (hT : Tm T d) (c3 c9 : Slot) (gl : List MObj) (SD : D) : ∀ (R : List (Nat × Nat)) (pl : Nat) (acc : List (Bool × List Nat)) (c7 c8 : Slot), acc.length + 2 * R.length ≤ 2000 →
    ∃ d7 d8, forGo (tgTup [7, 8]) l_snippet_parts_2 (R.map pD) ⟨[.val (ruD r), .val (.str x), .val d, c3, .val (.int pl), .val SD, .own (.lst (acc.map partD)), c7, c8, c9], gl⟩ =
      .ok .nx ⟨[.val (ruD r), .val (.str x), .val d, c3, .val (.int (pgL x.cps.toList (WW r x T) pl R).2), .val SD, .own (.lst ((acc ++ (pgL x.cps.toList (WW r x T) pl R).1).map partD)), d7, d8, c9], gl⟩
  | [], pl, acc, c7, c8, _ => ⟨c7, c8, by simp [pgL]⟩
  | p :: R, pl, acc, c7, c8, hl => by
    rw [List.length_cons] at hl
    have t1 : tgTup [7, 8] (pD p) ⟨[.val (ruD r), .val (.str x), .val d, c3, .val (.int pl), .val SD, .own (.lst (acc.map partD)), c7, c8, c9], gl⟩ = some ⟨[.val (ruD r), .val (.str x), .val d, c3, .val (.int pl), .val SD, .own (.lst (acc.map partD)), .val (.int p.1), .val (.int p.2), c9], gl⟩ := by
      unfold pD
      generalize ruD r = RR
      simp [as_d]
    have tw := termW r hr x (by omega) p gl
    have io := in_opt hT (termO r (wd x p))
    have s1 := slW x (by omega) pl p.1
    have s2 := slW x (by omega) p.1 p.2
    rw [wd_sub] at tw
    rw [List.map_cons]
    by_cases hw : WW r x T p = true
    · have io : ∀ s, opIn false s (.d (oD (termO r (wd x p)))) (.d d) = .ok (.d (.bl true)) s := fun s => by rw [io s]; exact congrArg (fun z => Res.ok (RV.d (.bl z)) s) hw
      rw [wd_sub] at io
      have ep : pgL x.cps.toList (WW r x T) pl (p :: R) = ((false, sub x.cps.toList pl p.1) :: (true, sub x.cps.toList p.1 p.2) :: (pgL x.cps.toList (WW r x T) p.2 R).1, (pgL x.cps.toList (WW r x T) p.2 R).2) := if_pos hw
      obtain ⟨d7, d8, e⟩ := snip_loop r hr x hx hT c3 c9 gl SD R p.2 (acc ++ [(false, sub x.cps.toList pl p.1), (true, sub x.cps.toList p.1 p.2)]) (.val (.int p.1)) (.val (.int p.2)) (by simp; omega)
      refine ⟨d7, d8, ?_⟩
      rw [ep]
      rw [show acc ++ ((false, sub x.cps.toList pl p.1) :: (true, sub x.cps.toList p.1 p.2) :: (pgL x.cps.toList (WW r x T) p.2 R).1) = (acc ++ [(false, sub x.cps.toList pl p.1), (true, sub x.cps.toList p.1 p.2)]) ++ (pgL x.cps.toList (WW r x T) p.2 R).1 by simp]
      refine (fc_ok t1 ?_).trans e
      rw [List.map_append]
      have el : List.map partD [(false, sub x.cps.toList pl p.1), (true, sub x.cps.toList p.1 p.2)] = [.tup [.bl false, .str (tS (sub x.cps.toList pl p.1))], .tup [.bl true, .str (tS (sub x.cps.toList p.1 p.2))]] := rfl
      rw [el]
      have sz : (acc.map partD).length + 2 ≤ sizeLine := szN _ (by rw [List.length_map]; omega)
      have fe : ∀ a b : D, fExtendA (acc.map partD) (.lst [a, b]) = some (.non, acc.map partD ++ [a, b]) := fun a b => by
        unfold fExtendA
        simp only [List.length_cons, List.length_nil]
        rw [if_pos (by omega)]
      generalize acc.map partD = A at *
      generalize tS (sub x.cps.toList p.1 p.2) = s2' at *
      generalize tS (sub x.cps.toList pl p.1) = s1' at *
      generalize oD (termO r s2') = O at *
      generalize ruD r = RR at *
      simp [l_snippet_parts_2, asInt, s1, s2, tw, io, fe, as_d]
    · have hw' : WW r x T p = false := by simpa using hw
      have io : ∀ s, opIn false s (.d (oD (termO r (wd x p)))) (.d d) = .ok (.d (.bl false)) s := fun s => by rw [io s]; exact congrArg (fun z => Res.ok (RV.d (.bl z)) s) hw'
      rw [wd_sub] at io
      have ep : pgL x.cps.toList (WW r x T) pl (p :: R) = pgL x.cps.toList (WW r x T) pl R := if_neg hw
      obtain ⟨d7, d8, e⟩ := snip_loop r hr x hx hT c3 c9 gl SD R pl acc (.val (.int p.1)) (.val (.int p.2)) (by omega)
      refine ⟨d7, d8, ?_⟩
      rw [ep]
      refine (fc_ok t1 ?_).trans e
      generalize acc.map partD = A at *
      generalize tS (sub x.cps.toList p.1 p.2) = s2' at *
      generalize oD (termO r s2') = O at *
      generalize ruD r = RR at *
      simp [l_snippet_parts_2, asInt, s2, tw, io]
theorem endS_last : ∀ {R : List (Nat × Nat)} {i : Nat}, R ≠ [] → ∃ q, R[R.length - 1]? = some q ∧ q.2 = endS i R
  | [], _, h => absurd rfl h
  | [p], i, _ => ⟨p, rfl, rfl⟩
  | p :: q :: R, i, _ => by
    obtain ⟨z, h1, h2⟩ := endS_last (R := q :: R) (i := p.2) (by simp)
    exact ⟨z, by simpa using h1, h2⟩
theorem atI_last {α : Type} {l : List α} {x : α} (h : l[l.length - 1]? = some x) : atI l (-1) = some x := by
  have h0 : 0 < l.length := by
    cases l with
    | nil => cases h
    | cons => simp
  have e : ixN l.length (-1) = some (l.length - 1) := by
    unfold ixN
    rw [if_neg (by omega)]
    rw [if_pos (by omega)]
    congr 1
    omega
  unfold atI
  rw [e]
  exact h
def s0 (R : List (Nat × Nat)) : Nat := match R with
  | [] => 0
  | p :: _ => p.1
/-- the parts of a window -/
def Bk (r : Ru) (x : Str) (T : List Str) (a b : Nat) : Blk := blk x.cps.toList (WW r x T) (s0 (seg x a b)) (endS 0 (seg x a b)) (seg x a b)
theorem ne_D (z : Bool × List Nat) (s : S) : opEq true s (.d (.str (tS z.2))) (.d (.str "")) = .ok (.d (.bl (ne z))) s := by
  rw [ne_str]
  congr 3
  unfold ne
  congr 1
  rw [Bool.eq_iff_iff, decide_eq_true_iff, eq_empty, List.isEmpty_iff]
theorem snip_spec (r : Ru) (hr : RuOk r) (x : Str) (hx : x.length ≤ 300) {T : List Str} {d : D} (hT : Tm T d) (a b : Nat) (h1 : a < b) (h2 : b ≤ (spans x).length) (gl : List MObj) :
    f_snippet_parts [ruD r, .str x, d, pD (a, b)] gl = .ok (.tup ((PG (Bk r x T a b)).map partD)) gl := by
  have sn := seg_ne h1 h2
  have sl := slSeg x a b
  have sp := spans_spec x (by omega) gl
  have lg := seg_len x a b
  unfold Bk
  generalize hR : seg x a b = R at *
  obtain ⟨q, q1, q2⟩ := endS_last (i := 0) sn
  cases hR0 : R with
  | nil => exact absurd hR0 sn
  | cons p R' =>
    rw [← hR0]
    have e0 : s0 R = p.1 := by rw [hR0]; rfl
    rw [e0]
    obtain ⟨d7, d8, lp⟩ := snip_loop r hr x hx hT (.val (pD (a, b))) .none gl (.lst (R.map pD)) R p.1 [] .none .none (by simp; omega)
    rw [List.map_nil, List.nil_append] at lp
    have fl := pgL_flat x.cps.toList (WW r x T) (endS 0 R) R p.1
    have pn := pgL_len x.cps.toList (WW r x T) R p.1
    have i0 : ∀ s, opIx s (.d (pD (a, b))) (.d (.int 0)) = .ok (.d (.int a)) s := fun s => ixH _ _ s
    have i1 : ∀ s, opIx s (.d (pD (a, b))) (.d (.int 1)) = .ok (.d (.int b)) s := fun s => ixH1 _ _ _ s
    have j0 : ∀ s, asLst s (.at 5) = some (R.map pD) → opIx s (.at 5) (.d (.int 0)) = .ok (.d (pD p)) s := fun s h => q_ixL h (by rw [hR0]; exact atI_get (k := 0) rfl)
    have j1 : ∀ s, opIx s (.d (pD p)) (.d (.int 0)) = .ok (.d (.int p.1)) s := fun s => ixH _ _ s
    have k0 : ∀ s, opIx s (.d (.lst (R.map pD))) (.d (.int (-1))) = .ok (.d (pD q)) s := fun s => q_ixL rfl (atI_last (by rw [List.length_map, List.getElem?_map, q1]; rfl))
    have k1 : ∀ s, opIx s (.d (pD q)) (.d (.int 1)) = .ok (.d (.int (endS 0 R))) s := fun s => by rw [← q2]; exact ixH1 _ _ _ s
    have ng : ∀ s, fNeg s (.d (.int 1)) = .ok (.d (.int (-1))) s := fun s => rfl
    have s9 := slW x (by omega) (pgL x.cps.toList (WW r x T) p.1 R).2 (endS 0 R)
    unfold PG
    rw [fl]
    generalize pgL x.cps.toList (WW r x T) p.1 R = Z at *
    obtain ⟨zs, z2⟩ := Z
    simp only at *
    have sz : (zs.map partD).length < sizeLine := szN1 (by rw [List.length_map]; omega)
    have fa : ∀ y : D, fAppend (zs.map partD) y = some (.non, zs.map partD ++ [y]) := fun y => by unfold fAppend; simp only [sz, if_true]
    have c : ∀ c3 c5, mComp [9] (iSeq (mVar 6)) (tgName 9) c_snippet_parts_1 (mVar 9) ⟨[.val (ruD r), .val (.str x), .val d, c3, .val (.int z2), c5, .own (.lst ((zs ++ [(false, sub x.cps.toList z2 (endS 0 R))]).map partD)), d7, d8, .none], gl⟩ = .ok (.new (.lst (((zs ++ [(false, sub x.cps.toList z2 (endS 0 R))]).filter ne).map partD))) ⟨[.val (ruD r), .val (.str x), .val d, c3, .val (.int z2), c5, .val (.lst ((zs ++ [(false, sub x.cps.toList z2 (endS 0 R))]).map partD)), d7, d8, .none], gl⟩ := by
      intro c3 c5
      refine comp_flt (zs ++ [(false, sub x.cps.toList z2 (endS 0 R))]) partD partD ne ?_ (by simp) rfl (by simp; omega) fun z m => ⟨?_, fun _ => ?_⟩
      · generalize (zs ++ [(false, sub x.cps.toList z2 (endS 0 R))]).map partD = PP
        generalize ruD r = RR
        simp [iSeq]
      · have i := ne_D z
        have ix : ∀ s, opIx s (.d (partD z)) (.d (.int 1)) = .ok (.d (.str (tS z.2))) s := fun s => ixH1 _ _ _ s
        generalize partD z = PZ at *
        generalize ne z = nz at *
        generalize tS z.2 = tz at *
        generalize (zs ++ [(false, sub x.cps.toList z2 (endS 0 R))]).map partD = PP
        generalize ruD r = RR
        simp [c_snippet_parts_1, ix, i]
      · generalize (zs ++ [(false, sub x.cps.toList z2 (endS 0 R))]).map partD = PP
        generalize partD z = PZ at *
        generalize ruD r = RR
        simp
    have el : (zs ++ [(false, sub x.cps.toList z2 (endS 0 R))]).map partD = zs.map partD ++ [.tup [.bl false, .str (tS (sub x.cps.toList z2 (endS 0 R)))]] := by rw [List.map_append]; rfl
    rw [el] at c
    generalize ((zs ++ [(false, sub x.cps.toList z2 (endS 0 R))]).filter ne).map partD = FF at *
    generalize tS (sub x.cps.toList z2 (endS 0 R)) = lst9 at *
    generalize zs.map partD = ZZ at *
    generalize pD (a, b) = Pd at *
    generalize pD p = Pp at *
    generalize pD q = Pq at *
    generalize (spans x).map pD = SS at *
    generalize R.map pD = RP at *
    generalize ruD r = RR at *
    generalize ((endS 0 R : Nat) : Int) = ee at *
    simp [-ap_Comp, f_snippet_parts, mDef, List.replicate, b_snippet_parts, sp, i0, i1, asInt, sl, as_new, as_d, j0, j1, asLst, iSeq, lp, ng, k0, k1, s9, fa, c, ft_tup]
end K82
/-! # k82: the law's parts of a window -/
namespace K82
open PySem PySem.Spec PyProof.Rows L2 MI
def kD : K3 → D
  | none => .non
  | some p => pD p
def accD (z : K3 × List Nat) : D := .tup [kD z.1, .str (tS z.2)]
/-- to which wished span a place belongs -/
def minS (R : List (Nat × Nat)) (k : Nat) : List (Nat × Nat) := R.filter fun p => decide (p.1 ≤ k) && decide (k < p.2)
def keyS (r : Ru) (x : Str) (T : List Str) (R : List (Nat × Nat)) (k : Nat) : K3 := match minS R k with
  | [] => none
  | q :: _ => if WW r x T q = true then some q else none
theorem eq_k (a b : K3) (s : S) : opEq false s (.d (kD a)) (.d (kD b)) = .ok (.d (.bl (decide (a = b)))) s := by
  cases a with
  | none => cases b with
    | none => rfl
    | some q => rfl
  | some p => cases b with
    | none => rfl
    | some q =>
      obtain ⟨p1, p2⟩ := p
      obtain ⟨q1, q2⟩ := q
      have e : opEq false s (.d (kD (some (p1, p2)))) (.d (kD (some (q1, q2)))) = .ok (.d (.bl (decide (p1 = q1) && decide (p2 = q2)))) s := by
        simp [opEq, asD, kD, pD, eqvO, eqAll, eqS]
        by_cases h : p1 = q1
        · subst h; by_cases h2 : p2 = q2 <;> simp [h2] <;> omega
        · have : ¬ (p1 : Int) = q1 := by omega
          simp [h, this]
      rw [e]
      congr 3
      rw [Bool.eq_iff_iff, Bool.and_eq_true, decide_eq_true_iff, decide_eq_true_iff, decide_eq_true_iff]
      simp
theorem stepP_two (init : List (K3 × List Nat)) (κ' κ : K3) (t : List Nat) (c : Nat) : stepP (init ++ [(κ', t)]) κ c = if κ' = κ then init ++ [(κ, t ++ [c])] else (init ++ [(κ', t)]) ++ [(κ, [c])] := by
  by_cases h : κ' = κ
  · subst h; rw [if_pos rfl, stepP_at]
  · rw [if_neg h, stepP_new]
    intro z hz
    rw [List.getLast?_append] at hz
    simp at hz
    rw [← hz]
    exact h
def AccOk (n : Nat) (acc : List (K3 × List Nat)) : Prop := acc.length ≤ n ∧ ∀ z ∈ acc, z.2.length ≤ n
theorem acc_step {n : Nat} {acc : List (K3 × List Nat)} (h : AccOk n acc) (κ : K3) (c : Nat) : AccOk (n + 1) (stepP acc κ c) := by
  have base : AccOk (n + 1) (acc ++ [(κ, [c])]) := by
    refine ⟨by rw [List.length_append]; have := h.1; simp; omega, fun z m => ?_⟩
    rcases List.mem_append.mp m with m | m
    · have := h.2 z m; omega
    · rw [List.mem_singleton.mp m]; simp
  rcases List.eq_nil_or_concat acc with rfl | ⟨init, ⟨κ', t⟩, rfl⟩
  · exact base
  · rw [List.concat_eq_append, stepP_two] at *
    split
    · refine ⟨by have := h.1; simp at *; omega, fun z m => ?_⟩
      rcases List.mem_append.mp m with m | m
      · have := h.2 z (List.mem_append.mpr (.inl m)); omega
      · rw [List.mem_singleton.mp m]
        have := h.2 (κ', t) (List.mem_append.mpr (.inr (List.mem_singleton.mpr rfl)))
        simp at *
        omega
    · exact base
theorem mine_comp (R : List (Nat × Nat)) (hR : R.length ≤ 1000) (k : Nat) (c0 c1 c2 c3 c5 c6 c7 c8 c10 : Slot) (h5 : c5 = .own (.lst (R.map pD)) ∨ c5 = .val (.lst (R.map pD))) (gl : List MObj) :
    mComp [9] (iSeq (mVar 5)) (tgName 9) c__law_parts_2 (mVar 9) ⟨[c0, c1, c2, c3, .val (.int (k : Nat)), c5, c6, c7, c8, .none, c10], gl⟩ = .ok (.new (.lst ((minS R k).map pD))) ⟨[c0, c1, c2, c3, .val (.int (k : Nat)), .val (.lst (R.map pD)), c6, c7, c8, .none, c10], gl⟩ := by
  unfold minS
  refine comp_flt R pD pD (fun p => decide (p.1 ≤ k) && decide (k < p.2)) ?_ (by simp) rfl (by omega) fun p m => ⟨?_, fun _ => ?_⟩
  · generalize R.map pD = RP at *
    rcases h5 with rfl | rfl <;> simp [iSeq]
  · have i0 : ∀ s, opIx s (.d (pD p)) (.d (.int 0)) = .ok (.d (.int p.1)) s := fun s => ixH _ _ s
    have i1 : ∀ s, opIx s (.d (pD p)) (.d (.int 1)) = .ok (.d (.int p.2)) s := fun s => ixH1 _ _ _ s
    generalize pD p = P at *
    generalize R.map pD = RP at *
    by_cases h1 : p.1 ≤ k
    · have : ((p.1 : Nat) : Int) ≤ (k : Nat) := by omega
      by_cases h2 : k < p.2
      · have h3 : ((k : Nat) : Int) < (p.2 : Nat) := by omega
        simp [c__law_parts_2, i0, i1, h1, h2, this, h3]
      · have h3 : ¬ ((k : Nat) : Int) < (p.2 : Nat) := by omega
        simp [c__law_parts_2, i0, i1, h1, h2, this, h3]
    · have : ¬ ((p.1 : Nat) : Int) ≤ (k : Nat) := by omega
      simp [c__law_parts_2, i0, i1, h1, this]
  · generalize R.map pD = RP at *
    generalize pD p = P at *
    simp
theorem ne_at (l : List D) (v : Nat) (s : S) (h : asD s (.at v) = some (.lst l)) : opEq true s (.at v) (.new (.lst [])) = .ok (.d (.bl (!l.isEmpty))) s := by
  have e2 : asD s (.new (.lst [])) = some (.lst []) := rfl
  unfold opEq
  rw [h, e2]
  cases l <;> rfl
def key8 : M := mIf (mAndT (mBl (mBin (opEq true) (mVar 7) (mLst mANil))) (mBl (mBin (opIn false) (mCall f__law_term (mACons (mVar 0) (mACons (mSlice (mVar 1) (mPart (mBin opIx (mBin opIx (mVar 7) (mC (.int 0))) (mC (.int 0)))) (mPart (mBin opIx (mBin opIx (mVar 7) (mC (.int 0))) (mC (.int 1))))) mANil))) (mVar 2)))) (mBin opIx (mVar 7) (mC (.int 0))) (mC .non)
theorem key_comp (r : Ru) (hr : RuOk r) (hn : r.en.length ≤ 1000) (x : Str) (hx : x.length ≤ 300) {T : List Str} {d : D} (hT : Tm T d) (R : List (Nat × Nat)) (k : Nat) (c3 c4 c5 c6 c8 c9 c10 : Slot) (gl : List MObj) :
    key8 ⟨[.val (ruD r), .val (.str x), .val d, c3, c4, c5, c6, .own (.lst ((minS R k).map pD)), c8, c9, c10], gl⟩ = .ok (.d (kD (keyS r x T R k))) ⟨[.val (ruD r), .val (.str x), .val d, c3, c4, c5, c6, .own (.lst ((minS R k).map pD)), c8, c9, c10], gl⟩ := by
  unfold keyS
  cases hm : minS R k with
  | nil =>
    have ne := ne_at [] 7
    rw [List.map_nil]
    generalize ruD r = RR at *
    simp [key8, ne, asD, kD]
  | cons q rest =>
    rw [List.map_cons]
    have ne := ne_at (pD q :: rest.map pD) 7
    have i0 : ∀ s, asLst s (.at 7) = some (pD q :: rest.map pD) → opIx s (.at 7) (.d (.int 0)) = .ok (.d (pD q)) s := fun s h => q_ixL h (atI_get (k := 0) rfl)
    have j0 : ∀ s, opIx s (.d (pD q)) (.d (.int 0)) = .ok (.d (.int q.1)) s := fun s => ixH _ _ s
    have j1 : ∀ s, opIx s (.d (pD q)) (.d (.int 1)) = .ok (.d (.int q.2)) s := fun s => ixH1 _ _ _ s
    have sl := slW x (by omega) q.1 q.2
    rw [← wd_sub] at sl
    have lt := law_term r hr hn (wd x q) (by have := wd_len x q; omega) gl
    have io := in_opt hT (termO r (wd x q))
    have io : ∀ s, opIn false s (.d (oD (termO r (wd x q)))) (.d d) = .ok (.d (.bl (WW r x T q))) s := io
    have ek : kD (some q) = pD q := rfl
    have ek0 : kD none = .non := rfl
    simp only
    generalize rest.map pD = RM at *
    generalize oD (termO r (wd x q)) = O at *
    generalize wd x q = wq at *
    generalize hpq : pD q = P at *
    generalize ruD r = RR at *
    generalize hW : WW r x T q = W at *
    cases W <;> simp [key8, ne, asD, asLst, i0, j0, j1, asInt, sl, lt, io, ek, ek0]
def tail3 : S → Res Out := mIfS (mAndT (mBl (mBin (opEq true) (mVar 6) (mLst mANil))) (mBl (mBin (opEq false) (mBin opIx (mBin opIx (mVar 6) (mFn1 fNeg (mC (.int 1)))) (mC (.int 0))) (mVar 8)))) (mSetIx (mTup (mACons (mVar 8) (mACons (mBin opAdd (mBin opIx (mBin opIx (mVar 6) (mFn1 fNeg (mC (.int 1)))) (mC (.int 1))) (mBin opIx (mVar 1) (mVar 4))) mANil))) (mVar 6) (mFn1 fNeg (mC (.int 1)))) (mExpr (mLm1 fAppend (mVar 6) (mTup (mACons (mVar 8) (mACons (mBin opIx (mVar 1) (mVar 4)) mANil)))))
theorem parts3_eq : l__law_parts_3 = mSeq (mSet 7 (mComp [9] (iSeq (mVar 5)) (tgName 9) c__law_parts_2 (mVar 9))) (mSeq (mSet 8 key8) tail3) := rfl
theorem tail_spec (x : Str) (hx : x.length ≤ 300) (k c : Nat) (hc : x.cps.toList[k]? = some c) (κ : K3) (acc : List (K3 × List Nat)) (n : Nat) (ha : AccOk n acc) (hn : n ≤ 500) (c0 c2 c3 c5 c7 c9 c10 : Slot) (gl : List MObj) :
    tail3 ⟨[c0, .val (.str x), c2, c3, .val (.int (k : Nat)), c5, .own (.lst (acc.map accD)), c7, .val (kD κ), c9, c10], gl⟩ = .ok .nx ⟨[c0, .val (.str x), c2, c3, .val (.int (k : Nat)), c5, .own (.lst ((stepP acc κ c).map accD)), c7, .val (kD κ), c9, c10], gl⟩ := by
  have ix := ix_str x (by omega) k c hc
  have ng : ∀ s, fNeg s (.d (.int 1)) = .ok (.d (.int (-1))) s := fun s => rfl
  have app : stepP acc κ c = acc ++ [(κ, [c])] → (acc = [] ∨ ∃ init z, acc = init ++ [z] ∧ z.1 ≠ κ) → tail3 ⟨[c0, .val (.str x), c2, c3, .val (.int (k : Nat)), c5, .own (.lst (acc.map accD)), c7, .val (kD κ), c9, c10], gl⟩ = .ok .nx ⟨[c0, .val (.str x), c2, c3, .val (.int (k : Nat)), c5, .own (.lst ((stepP acc κ c).map accD)), c7, .val (kD κ), c9, c10], gl⟩ := by
    intro e h
    rw [e, List.map_append]
    have el : List.map accD [(κ, [c])] = [.tup [kD κ, sg c]] := rfl
    rw [el]
    have sz : (acc.map accD).length < sizeLine := szN1 (by rw [List.length_map]; have := ha.1; omega)
    have fa : ∀ y : D, fAppend (acc.map accD) y = some (.non, acc.map accD ++ [y]) := fun y => by unfold fAppend; simp only [sz, if_true]
    have ne := ne_at (acc.map accD) 6
    rcases h with rfl | ⟨init, z, rfl, hz⟩
    · rw [List.map_nil] at *
      generalize kD κ = KK at *
      generalize sg c = CC at *
      simp [tail3, ne, asD, ix, fa]
    · have em : ((init ++ [z]).map accD).isEmpty = false := by simp
      rw [em] at ne
      have i0 : ∀ s, asLst s (.at 6) = some ((init ++ [z]).map accD) → opIx s (.at 6) (.d (.int (-1))) = .ok (.d (accD z)) s := fun s h => q_ixL h (atI_last (by rw [List.length_map, List.getElem?_map]; simp))
      have i1 : ∀ s, opIx s (.d (accD z)) (.d (.int 0)) = .ok (.d (kD z.1)) s := fun s => ixH _ _ s
      have eq := eq_k z.1 κ
      rw [decide_eq_false hz] at eq
      generalize (init ++ [z]).map accD = A at *
      generalize accD z = Z at *
      generalize kD z.1 = KZ at *
      generalize kD κ = KK at *
      generalize sg c = CC at *
      simp [tail3, ne, asD, asLst, ng, i0, i1, eq, ix, fa]
  rcases List.eq_nil_or_concat acc with rfl | ⟨init, ⟨κ', t⟩, rfl⟩
  · exact app rfl (.inl rfl)
  · rw [List.concat_eq_append] at *
    by_cases hk : κ' = κ
    · subst hk
      have e : stepP (init ++ [(κ', t)]) κ' c = init ++ [(κ', t ++ [c])] := stepP_at _ _ _ _
      rw [e]
      have lt := ha.2 (κ', t) (List.mem_append.mpr (.inr (List.mem_singleton.mpr rfl)))
      have ne := ne_at ((init ++ [(κ', t)]).map accD) 6
      have em : ((init ++ [(κ', t)]).map accD).isEmpty = false := by simp
      rw [em] at ne
      have i0 : ∀ s, asLst s (.at 6) = some ((init ++ [(κ', t)]).map accD) → opIx s (.at 6) (.d (.int (-1))) = .ok (.d (accD (κ', t))) s := fun s h => q_ixL h (atI_last (by rw [List.length_map, List.getElem?_map]; simp))
      have i1 : ∀ s, opIx s (.d (accD (κ', t))) (.d (.int 0)) = .ok (.d (kD κ')) s := fun s => ixH _ _ s
      have i2 : ∀ s, opIx s (.d (accD (κ', t))) (.d (.int 1)) = .ok (.d (.str (tS t))) s := fun s => ixH1 _ _ _ s
      have eq := eq_k κ' κ'
      rw [decide_eq_true rfl] at eq
      have ad := add_str (tS t) ⟨#[c]⟩ (by rw [tS_len]; simp only at lt; omega) (by show (1 : Nat) ≤ 1000; omega)
      have ec : tS t ++ (⟨#[c]⟩ : Str) = tS (t ++ [c]) := tS_cat t [c]
      rw [ec] at ad
      have ll : ((init ++ [(κ', t)]).map accD).length = init.length + 1 := by simp
      have xn : ixN ((init ++ [(κ', t)]).map accD).length (-1) = some init.length := by
        rw [ll]
        unfold ixN
        rw [if_neg (by omega)]
        rw [if_pos (by omega)]
        congr 1
        omega
      have se : ∀ y : D, ((init ++ [(κ', t)]).map accD).set init.length y = init.map accD ++ [y] := fun y => by
        rw [List.map_append]
        have : init.length = (init.map accD).length := by simp
        rw [this, List.set_append_right _ _ (Nat.le_refl _)]
        simp
      have el : (init ++ [(κ', t ++ [c])]).map accD = init.map accD ++ [.tup [kD κ', .str (tS (t ++ [c]))]] := by rw [List.map_append]; rfl
      rw [el]
      generalize (init ++ [(κ', t)]).map accD = A at *
      generalize accD (κ', t) = Z at *
      generalize kD κ' = KK at *
      generalize tS (t ++ [c]) = TC at *
      generalize tS t = TT at *
      simp [tail3, ne, asD, asLst, ng, i0, i1, i2, eq, ix, ad, xn, se]
    · refine app ?_ (.inr ⟨init, _, rfl, hk⟩)
      rw [stepP_two, if_neg hk]
theorem parts_step (r : Ru) (hr : RuOk r) (hn : r.en.length ≤ 1000) (x : Str) (hx : x.length ≤ 300) {T : List Str} {d : D} (hT : Tm T d) (R : List (Nat × Nat)) (hR : R.length ≤ 1000) (k c : Nat) (hc : x.cps.toList[k]? = some c) (acc : List (K3 × List Nat)) (n : Nat) (ha : AccOk n acc) (hn2 : n ≤ 500) (c3 c5 c7 c8 c10 : Slot) (h5 : c5 = .own (.lst (R.map pD)) ∨ c5 = .val (.lst (R.map pD))) (gl : List MObj) :
    ∃ d7 d8, l__law_parts_3 ⟨[.val (ruD r), .val (.str x), .val d, c3, .val (.int (k : Nat)), c5, .own (.lst (acc.map accD)), c7, c8, .none, c10], gl⟩ =
      .ok .nx ⟨[.val (ruD r), .val (.str x), .val d, c3, .val (.int (k : Nat)), .val (.lst (R.map pD)), .own (.lst ((stepP acc (keyS r x T R k) c).map accD)), d7, d8, .none, c10], gl⟩ := by
  have m := mine_comp R hR k (.val (ruD r)) (.val (.str x)) (.val d) c3 c5 (.own (.lst (acc.map accD))) c7 c8 c10 h5 gl
  have kc := key_comp r hr hn x hx hT R k c3 (.val (.int (k : Nat))) (.val (.lst (R.map pD))) (.own (.lst (acc.map accD))) c8 .none c10 gl
  have ts := tail_spec x hx k c hc (keyS r x T R k) acc n ha hn2 (.val (ruD r)) (.val d) c3 (.val (.lst (R.map pD))) (.own (.lst ((minS R k).map pD))) .none c10 gl
  refine ⟨.own (.lst ((minS R k).map pD)), .val (kD (keyS r x T R k)), ?_⟩
  rw [parts3_eq]
  generalize (stepP acc (keyS r x T R k) c).map accD = AS at *
  generalize acc.map accD = A at *
  generalize kD (keyS r x T R k) = KK at *
  generalize (minS R k).map pD = MM at *
  generalize R.map pD = RP at *
  generalize ruD r = RR at *
  generalize key8 = k8 at *
  generalize tail3 = t3 at *
  simp [-ap_Comp, m, kc, ts, as_new, as_d]
theorem sub_cons {M : List Nat} {i n c : Nat} (h : M[i]? = some c) : sub M i (i + (n + 1)) = c :: sub M (i + 1) (i + 1 + n) := by
  obtain ⟨hk, e⟩ := List.getElem?_eq_some_iff.mp h
  unfold sub
  rw [List.drop_eq_getElem_cons hk, show i + (n + 1) - i = n + 1 by omega, List.take_succ_cons, e, show i + 1 + n - (i + 1) = n by omega]
theorem parts_loop (r : Ru) (hr : RuOk r) (hn : r.en.length ≤ 1000) (x : Str) (hx : x.length ≤ 300) {T : List Str} {d : D} (hT : Tm T d) (R : List (Nat × Nat)) (hR : R.length ≤ 1000) (c3 c10 : Slot) (gl : List MObj) :
    ∀ (n i m : Nat) (acc : List (K3 × List Nat)), AccOk m acc → m + n ≤ 500 → i + n ≤ x.length → ∀ (c4 c5 c7 c8 : Slot), (c5 = .own (.lst (R.map pD)) ∨ c5 = .val (.lst (R.map pD))) →
      ∃ d4 d5 d7 d8, forGo (tgName 4) l__law_parts_3 (rangeD (i : Nat) n) ⟨[.val (ruD r), .val (.str x), .val d, c3, c4, c5, .own (.lst (acc.map accD)), c7, c8, .none, c10], gl⟩ =
        .ok .nx ⟨[.val (ruD r), .val (.str x), .val d, c3, d4, d5, .own (.lst ((runP (keyS r x T R) acc i (sub x.cps.toList i (i + n))).map accD)), d7, d8, .none, c10], gl⟩
  | 0, i, m, acc, _, _, _, c4, c5, c7, c8, _ => ⟨c4, c5, c7, c8, by rw [Nat.add_zero, sub_self]; rfl⟩
  | n + 1, i, m, acc, ha, hm, hi, c4, c5, c7, c8, h5 => by
    have hlt : i < x.cps.toList.length := by rw [← str_len]; omega
    have hc : x.cps.toList[i]? = some x.cps.toList[i] := List.getElem?_eq_getElem hlt
    generalize x.cps.toList[i] = c at hc
    obtain ⟨d7, d8, e1⟩ := parts_step r hr hn x hx hT R hR i c hc acc m ha (by omega) c3 c5 c7 c8 c10 h5 gl
    obtain ⟨f4, f5, f7, f8, e2⟩ := parts_loop r hr hn x hx hT R hR c3 c10 gl n (i + 1) (m + 1) (stepP acc (keyS r x T R i) c) (acc_step ha _ _) (by omega) (by omega) (.val (.int (i : Nat))) (.val (.lst (R.map pD))) d7 d8 (.inr rfl)
    refine ⟨f4, f5, f7, f8, ?_⟩
    rw [sub_cons hc]
    show forGo (tgName 4) l__law_parts_3 (D.int (i : Nat) :: rangeD ((i : Int) + 1) n) _ = Res.ok Out.nx ⟨[.val (ruD r), .val (.str x), .val d, c3, f4, f5, .own (.lst ((runP (keyS r x T R) (stepP acc (keyS r x T R i) c) (i + 1) (sub x.cps.toList (i + 1) (i + 1 + n))).map accD)), f7, f8, .none, c10], gl⟩
    refine (fc_ok ?_ e1).trans e2
    generalize acc.map accD = A
    generalize ruD r = RR
    simp [as_d]
end K82
/-! # k82: the law's parts are the program's; parts told and read -/
namespace K82
open PySem PySem.Spec PyProof.Rows L2 MI
theorem SpOk.one {M : List Nat} : ∀ {R : List (Nat × Nat)}, SpOk M R → ∀ {p q : Nat × Nat} {k : Nat}, p ∈ R → q ∈ R → p.1 ≤ k → k < p.2 → q.1 ≤ k → k < q.2 → p = q
  | [], _, p, q, k, hp, _, _, _, _, _ => nomatch hp
  | z :: R, h, p, q, k, hp, hq, p1, p2, q1, q2 => by
    rcases List.mem_cons.mp hp with ep | hp'
    · rcases List.mem_cons.mp hq with eq | hq'
      · rw [ep, eq]
      · have := h.le q hq'; rw [← ep] at this; omega
    · rcases List.mem_cons.mp hq with eq | hq'
      · have := h.le p hp'; rw [← eq] at this; omega
      · exact SpOk.one h.tail hp' hq' p1 p2 q1 q2
theorem key_in (r : Ru) (x : Str) (T : List Str) {M : List Nat} {R : List (Nat × Nat)} (h : SpOk M R) : ∀ p ∈ R, ∀ k, p.1 ≤ k → k < p.2 → keyS r x T R k = if WW r x T p = true then some p else none := by
  intro p hp k k1 k2
  unfold keyS
  have mp : p ∈ minS R k := List.mem_filter.mpr ⟨hp, by simp [k1, k2]⟩
  cases hm : minS R k with
  | nil => rw [hm] at mp; cases mp
  | cons q rest =>
    have mq : q ∈ minS R k := by rw [hm]; exact List.mem_cons_self
    obtain ⟨q1, q2⟩ := List.mem_filter.mp mq
    simp only [Bool.and_eq_true, decide_eq_true_eq] at q2
    rw [h.one hp q1 k1 k2 q2.1 q2.2]
theorem key_out (r : Ru) (x : Str) (T : List Str) {R : List (Nat × Nat)} (k : Nat) (h : ∀ p ∈ R, ¬ (p.1 ≤ k ∧ k < p.2)) : keyS r x T R k = none := by
  unfold keyS
  have : minS R k = [] := by
    unfold minS
    rw [List.filter_eq_nil_iff]
    intro p hp
    have := h p hp
    simp only [Bool.and_eq_true, decide_eq_true_eq]
    exact this
  rw [this]
theorem first_le {M : List Nat} : ∀ {R : List (Nat × Nat)}, SpOk M R → ∀ p ∈ R, s0 R ≤ p.1
  | [], _, p, m => nomatch m
  | z :: R, h, p, m => by
    rcases List.mem_cons.mp m with rfl | m
    · exact Nat.le_refl _
    · have := h.le p m
      have := (h.inn z List.mem_cons_self).1
      show z.1 ≤ p.1
      omega
theorem endS_any {R : List (Nat × Nat)} (h : R ≠ []) (i j : Nat) : endS i R = endS j R := by
  cases R with
  | nil => exact absurd rfl h
  | cons p R => rfl
theorem s0_le {M : List Nat} {R : List (Nat × Nat)} (h : SpOk M R) (hn : R ≠ []) : s0 R ≤ endS 0 R ∧ endS 0 R ≤ M.length ∧ s0 R ≤ M.length := by
  cases R with
  | nil => exact absurd rfl hn
  | cons p R =>
    have hp := h.inn p List.mem_cons_self
    obtain ⟨a, b⟩ := endS_le (i := p.1) h (first_le h) (by omega)
    rw [endS_any hn p.1 0] at a b
    exact ⟨a, b, by show p.1 ≤ _; omega⟩
theorem law_parts_spec (r : Ru) (hr : RuOk r) (hn : r.en.length ≤ 1000) (x : Str) (hx : x.length ≤ 300) {T : List Str} {d : D} (hT : Tm T d) (a b : Nat) (h1 : a < b) (h2 : b ≤ (spans x).length) (gl : List MObj) :
    f__law_parts [ruD r, .str x, d, pD (a, b)] gl = .ok (.tup ((PG (Bk r x T a b)).map partD)) gl := by
  have sn := seg_ne h1 h2
  have sl := slSeg x a b
  have sp := pieces_spec x (by omega) gl
  have lg := seg_len x a b
  have ok := seg_ok x a b
  unfold Bk
  generalize hR : seg x a b = R at *
  obtain ⟨q, q1, q2⟩ := endS_last (i := 0) sn
  obtain ⟨b1, b2, b3⟩ := s0_le ok sn
  have b2' : endS 0 R ≤ x.length := by rw [str_len]; exact b2
  cases hR0 : R with
  | nil => exact absurd hR0 sn
  | cons p R' =>
    rw [← hR0]
    have e0 : s0 R = p.1 := by rw [hR0]; rfl
    have pp := places_parts (W := WW r x T) (keyS r x T R) (endS 0 R) R (s0 R) (s0 R) [] ok (first_le ok) b3 (Nat.le_refl _) (endS_any sn 0 _) (key_in r x T ok) (fun k _ _ h => key_out r x T k h) (fun z hz => by cases hz)
    rw [sub_self] at pp
    have pp : (runP (keyS r x T R) [] (s0 R) (sub x.cps.toList (s0 R) (endS 0 R))).map cv = PG (blk x.cps.toList (WW r x T) (s0 R) (endS 0 R) R) := pp
    obtain ⟨d4, d5, d7, d8, lp⟩ := parts_loop r hr hn x hx hT R (by omega) (.val (pD (a, b))) .none gl (endS 0 R - s0 R) (s0 R) 0 [] ⟨by simp, fun z m => nomatch m⟩ (by omega) (by omega) .none (.own (.lst (R.map pD))) .none .none (.inl rfl)
    rw [show s0 R + (endS 0 R - s0 R) = endS 0 R by omega, List.map_nil] at lp
    have rg : rng2 (s0 R : Int) (endS 0 R : Int) = some (rangeD (s0 R : Nat) (endS 0 R - s0 R)) := by
      rw [rng2_eq, if_pos (by refine ⟨?_, ?_, ?_, ?_⟩ <;> omega)]
      congr 2
      omega
    have i0 : ∀ s, opIx s (.d (pD (a, b))) (.d (.int 0)) = .ok (.d (.int a)) s := fun s => ixH _ _ s
    have i1 : ∀ s, opIx s (.d (pD (a, b))) (.d (.int 1)) = .ok (.d (.int b)) s := fun s => ixH1 _ _ _ s
    have j0 : ∀ s, asLst s (.at 5) = some (R.map pD) → opIx s (.at 5) (.d (.int 0)) = .ok (.d (pD p)) s := fun s h => q_ixL h (by rw [hR0]; exact atI_get (k := 0) rfl)
    have j1 : ∀ s, opIx s (.d (pD p)) (.d (.int 0)) = .ok (.d (.int (s0 R))) s := fun s => by rw [e0]; exact ixH _ _ s
    have k0 : ∀ s, asLst s (.at 5) = some (R.map pD) → opIx s (.at 5) (.d (.int (-1))) = .ok (.d (pD q)) s := fun s h => q_ixL h (atI_last (by rw [List.length_map, List.getElem?_map, q1]; rfl))
    have k1 : ∀ s, opIx s (.d (pD q)) (.d (.int 1)) = .ok (.d (.int (endS 0 R))) s := fun s => by rw [← q2]; exact ixH1 _ _ _ s
    have ng : ∀ s, fNeg s (.d (.int 1)) = .ok (.d (.int (-1))) s := fun s => rfl
    rw [← pp]
    have lr : (runP (keyS r x T R) [] (s0 R) (sub x.cps.toList (s0 R) (endS 0 R))).length ≤ 1000 := by
      have : ∀ (cs : List Nat) (n i : Nat) (acc : List (K3 × List Nat)), AccOk n acc → AccOk (n + cs.length) (runP (keyS r x T R) acc i cs) := by
        intro cs
        induction cs with
        | nil => exact fun n i acc h => h
        | cons c cs ih =>
          intro n i acc h
          have := ih (n + 1) (i + 1) _ (acc_step h (keyS r x T R i) c)
          rw [List.length_cons, show n + (cs.length + 1) = n + 1 + cs.length by omega]
          exact this
      have := (this (sub x.cps.toList (s0 R) (endS 0 R)) 0 (s0 R) [] ⟨by simp, fun z m => nomatch m⟩).1
      rw [sub_len _ _ _ b2] at this
      omega
    generalize hacc : runP (keyS r x T R) [] (s0 R) (sub x.cps.toList (s0 R) (endS 0 R)) = acc at *
    have c : mComp [10] (iSeq (mVar 6)) (tgName 10) mYes e__law_parts_1 ⟨[.val (ruD r), .val (.str x), .val d, .val (pD (a, b)), d4, d5, .own (.lst (acc.map accD)), d7, d8, .none, .none], gl⟩ = .ok (.new (.lst ((acc.map cv).map partD))) ⟨[.val (ruD r), .val (.str x), .val d, .val (pD (a, b)), d4, d5, .val (.lst (acc.map accD)), d7, d8, .none, .none], gl⟩ := by
      rw [List.map_map]
      refine comp_mapI acc accD _ ?_ (by simp) rfl (by omega) fun z m => ?_
      · generalize acc.map accD = A
        generalize pD (a, b) = PP
        generalize ruD r = RR
        simp [iSeq]
      · have i0 : ∀ s, opIx s (.d (accD z)) (.d (.int 0)) = .ok (.d (kD z.1)) s := fun s => ixH _ _ s
        have i1 : ∀ s, opIx s (.d (accD z)) (.d (.int 1)) = .ok (.d (.str (tS z.2))) s := fun s => ixH1 _ _ _ s
        have isn : ∀ s, opIsN true s (.d (kD z.1)) (.d .non) = .ok (.d (.bl z.1.isSome)) s := fun s => by cases z.1 <;> rfl
        show _ = Res.ok (D.tup [.bl z.1.isSome, .str (tS z.2)]) _
        generalize accD z = Z at *
        generalize acc.map accD = A at *
        generalize pD (a, b) = PP at *
        generalize ruD r = RR at *
        generalize kD z.1 = KZ at *
        generalize z.1.isSome = bz at *
        generalize tS z.2 = tz at *
        simp [e__law_parts_1, i0, i1, isn]
    generalize (acc.map cv).map partD = FF at *
    generalize acc.map accD = A at *
    generalize pD (a, b) = Pd at *
    generalize pD p = Pp at *
    generalize pD q = Pq at *
    generalize (spans x).map pD = SS at *
    generalize R.map pD = RP at *
    generalize ruD r = RR at *
    generalize ((endS 0 R : Nat) : Int) = ee at *
    generalize ((s0 R : Nat) : Int) = ss at *
    simp [-ap_Comp, f__law_parts, mDef, List.replicate, b__law_parts, sp, i0, i1, asInt, sl, as_new, asLst, j0, j1, ng, k0, k1, iRange2, rg, lp, c, ft_tup]
/-! ### told -/
theorem join_tS (ys : List (List Nat)) : Txt.join "" (ys.map tS) = tS ys.flatten := by
  have e : ("" : Str) = tS [] := by decide +kernel
  rw [e, SX.join_S]
  congr 1
  have : ∀ l : List (List Nat), TL.joinL [] l = l.flatten := by
    intro l
    induction l with
    | nil => rfl
    | cons p l ih =>
      cases l with
      | nil => simp [TL.joinL]
      | cons q r => show p ++ ([] ++ TL.joinL [] (q :: r)) = _; rw [ih]; rfl
  rw [this]
theorem join_map (ys : List (List Nat)) (h : (ys.map List.length).sum ≤ 10000) : fJoin "" (.lst (ys.map fun l => D.str (tS l))) = some (.str (tS ys.flatten)) := by
  have e : (ys.map fun l => D.str (tS l)) = (ys.map tS).map .str := by rw [List.map_map]; rfl
  have l0 : Str.length "" = 0 := by decide
  have el : ((ys.map tS).map (·.length)).sum = (ys.map List.length).sum := by
    congr 1
    rw [List.map_map]
    refine List.map_congr_left fun l _ => tS_len l
  show joinD "" _ = _
  unfold joinD
  rw [e, strsOf_map]
  simp only
  rw [el, l0, if_pos (by omega), join_tS]
theorem len_sum {α : Type} (f : α → List Nat) : ∀ l : List α, ((l.map f).map List.length).sum = (l.flatMap f).length
  | [] => rfl
  | z :: l => by
    have := len_sum f l
    rw [List.map_cons, List.map_cons, List.sum_cons, List.flatMap_cons, List.length_append, this]
theorem told_spec (ps : List (Bool × List Nat)) (h : (toldP ps).length ≤ 1000) (hp : ps.length ≤ 5000) (gl : List MObj) : f_told_parts [.tup (ps.map partD)] gl = .ok (.str (tS (toldP ps))) gl := by
  have each : ∀ z ∈ ps, z.2.length ≤ 1000 := fun z m => by
    have := flat_le (fun z : Bool × List Nat => if z.1 = true then 91 :: (z.2 ++ [93]) else z.2) m
    rw [← List.flatMap_def] at this
    have h2 : (ps.flatMap fun z => if z.1 = true then 91 :: (z.2 ++ [93]) else z.2).length ≤ 1000 := h
    have h3 : z.2.length ≤ (if z.1 = true then 91 :: (z.2 ++ [93]) else z.2).length := by split <;> simp; omega
    omega
  have c : mComp [1, 2] (iSeq (mVar 0)) (tgTup [1, 2]) mYes e_told_parts_1 ⟨[.val (.tup (ps.map partD)), .none, .none], gl⟩ = .ok (.new (.lst (ps.map fun z => D.str (tS (if z.1 = true then 91 :: (z.2 ++ [93]) else z.2))))) ⟨[.val (.tup (ps.map partD)), .none, .none], gl⟩ := by
    refine comp_mapG ps partD _ ?_ rfl (by omega) fun z m => ⟨[.val (.tup (ps.map partD)), .val (.bl z.1), .val (.str (tS z.2))], [.val (.tup (ps.map partD)), .val (.bl z.1), .val (.str (tS z.2))], ?_, ?_, rfl⟩
    · generalize ps.map partD = P
      simp [iSeq]
    · unfold partD
      generalize ps.map _ = P
      simp [wipeE, as_d]
    · have a1 := add_str "[" (tS z.2) (by decide) (by rw [tS_len]; exact each z m)
      have a2 := fun h => add_str ("[" ++ tS z.2) "]" h (by decide)
      have e1 : ("[" : Str) = tS [91] := by decide +kernel
      have e2 : ("]" : Str) = tS [93] := by decide +kernel
      have e3 : ("[" : Str) ++ tS z.2 = tS (91 :: z.2) := by rw [e1, tS_cat]; rfl
      have e4 : tS (91 :: z.2) ++ ("]" : Str) = tS (91 :: (z.2 ++ [93])) := by rw [e2, tS_cat]; rfl
      rw [e3, e4] at a2
      rw [e3] at a1
      obtain ⟨b, l⟩ := z
      cases b with
      | false =>
        show _ = Res.ok (D.str (tS l)) _
        generalize ps.map partD = P
        simp [e_told_parts_1, truthD, asD]
      | true =>
        have hz : 91 :: (l ++ [93]) = (if true = true then 91 :: (l ++ [93]) else l) := rfl
        have a2 := a2 (by
          rw [tS_len]
          have := flat_le (fun z : Bool × List Nat => if z.1 = true then 91 :: (z.2 ++ [93]) else z.2) m
          rw [← List.flatMap_def] at this
          have h2 : (ps.flatMap fun z => if z.1 = true then 91 :: (z.2 ++ [93]) else z.2).length ≤ 1000 := h
          simp at this ⊢
          simp at h2
          omega)
        show _ = Res.ok (D.str (tS (91 :: (l ++ [93])))) _
        simp only at a1 a2
        generalize tS (91 :: (l ++ [93])) = X1 at *
        generalize tS (91 :: l) = X2 at *
        generalize tS l = X3 at *
        generalize ps.map partD = P
        simp [e_told_parts_1, truthD, asD, a1, a2]
  have jn := join_map (ps.map fun z => if z.1 = true then 91 :: (z.2 ++ [93]) else z.2) (by rw [len_sum]; have : (ps.flatMap fun z => if z.1 = true then 91 :: (z.2 ++ [93]) else z.2).length ≤ 1000 := h; omega)
  rw [List.map_map, ← List.flatMap_def] at jn
  have jn : fJoin "" (.lst (ps.map fun z => D.str (tS (if z.1 = true then 91 :: (z.2 ++ [93]) else z.2)))) = some (.str (tS (toldP ps))) := jn
  generalize (ps.map fun z => D.str (tS (if z.1 = true then 91 :: (z.2 ++ [93]) else z.2))) = Q at *
  generalize tS (toldP ps) = TT at *
  generalize ps.map partD = P at *
  simp [-ap_Comp, f_told_parts, mDef, List.replicate, b_told_parts, mSm1, c, jn]
end K82
/-! # k82: parts and snippets read -/
namespace K82
open PySem PySem.Spec PyProof.Rows L2 MI
theorem e_mt : ("" : Str) = tS [] := by decide +kernel
theorem e_op : ("[" : Str) = tS [91] := by decide +kernel
theorem e_sh : ("]" : Str) = tS [93] := by decide +kernel
theorem split_told {b : Blk} (h : Fr b) (hl : (told b).length ≤ 1000) : fSplit (tS (told b)) "[" = some (.new (.lst ((b.1 :: b.2.map fun z => z.1 ++ 93 :: z.2).map fun l => D.str (tS l)))) := by
  have sp : Txt.split (tS (told b)) "[" = (TL.spl [91] 0 [] (told b)).map tS := by rw [e_op]; exact SX.split_S (by simp) (by decide)
  unfold fSplit
  rw [if_pos ⟨by decide, szN _ (by rw [tS_len]; omega)⟩, sp, spl_told h, List.map_map]
  rfl
theorem part_told {w t : List Nat} (h : 93 ∉ w) (hl : (w ++ 93 :: t).length ≤ 2000) : fPartition (tS (w ++ 93 :: t)) "]" = some (.d (.tup [.str (tS w), .str (tS [93]), .str (tS t)])) := by
  have sp : Txt.partition (tS (w ++ 93 :: t)) "]" = (tS w, tS [93], tS t) := by rw [e_sh]; exact SX.partition_some (by simp) (par_told h)
  unfold fPartition
  rw [if_pos ⟨by decide, szN _ (by rw [tS_len]; omega)⟩, sp]
theorem ap_Sm2 {f : Str → Str → Option RV} {o a : M} {s : S} : mSm2 f o a s = (mLeak o s).bind fun d s1 => match d with
  | .str x => (mLeak a s1).bind fun y s2 => (match y with
    | .str z => (match f x z with
      | some r => .ok r s2
      | none => .stuck)
    | _ => .stuck)
  | _ => .stuck := rfl
theorem read_step (w t : List Nat) (h : 93 ∉ w) (hl : (w ++ 93 :: t).length ≤ 2000) (k : Nat) (hk : 0 < k) (acc : List (Bool × List Nat)) (ha : acc.length ≤ 5000) (c0 c4 c5 c6 c7 : Slot) (gl : List MObj) :
    l_read_parts_2 ⟨[c0, .own (.lst (acc.map partD)), .val (.int (k : Nat)), .val (.str (tS (w ++ 93 :: t))), c4, c5, c6, c7], gl⟩ = .ok .nx ⟨[c0, .own (.lst ((acc ++ [(true, w), (false, t)]).map partD)), .val (.int (k : Nat)), .val (.str (tS (w ++ 93 :: t))), .val (.str (tS w)), .val (.str (tS [93])), .val (.str (tS t)), c7], gl⟩ := by
  have pt := part_told h hl
  have gt : ∀ s, opGt s (.d (.int (k : Nat))) (.d (.int 0)) = .ok (.d (.bl true)) s := fun s => by rw [q_gt, decide_eq_true (by omega)]
  have sz : (acc.map partD).length + 2 ≤ sizeLine := szN _ (by rw [List.length_map]; omega)
  have fe : ∀ a b : D, fExtendA (acc.map partD) (.lst [a, b]) = some (.non, acc.map partD ++ [a, b]) := fun a b => by
    unfold fExtendA
    simp only [List.length_cons, List.length_nil]
    rw [if_pos (by omega)]
  have el : (acc ++ [(true, w), (false, t)]).map partD = acc.map partD ++ [.tup [.bl true, .str (tS w)], .tup [.bl false, .str (tS t)]] := by rw [List.map_append]; rfl
  rw [el]
  generalize acc.map partD = A at *
  generalize tS (w ++ 93 :: t) = WT at *
  generalize tS [93] = S93 at *
  generalize tS w = W1 at *
  generalize tS t = T1 at *
  generalize ((k : Nat) : Int) = kk at *
  simp [-q_gt, l_read_parts_2, ap_Sm2, gt, pt, as_d, fe]
theorem read_loop (c0 c7 : Slot) (gl : List MObj) : ∀ (bs : List (List Nat × List Nat)) (k : Nat) (acc : List (Bool × List Nat)) (c2 c3 c4 c5 c6 : Slot), 0 < k → (∀ z ∈ bs, 93 ∉ z.1 ∧ (z.1 ++ 93 :: z.2).length ≤ 2000) → acc.length + 2 * bs.length ≤ 5000 →
    ∃ d2 d3 d4 d5 d6, forGo (tgTup [2, 3]) l_read_parts_2 (enumD k ((bs.map fun z => z.1 ++ 93 :: z.2).map fun l => D.str (tS l))) ⟨[c0, .own (.lst (acc.map partD)), c2, c3, c4, c5, c6, c7], gl⟩ =
      .ok .nx ⟨[c0, .own (.lst ((acc ++ bs.flatMap fun z => [(true, z.1), (false, z.2)]).map partD)), d2, d3, d4, d5, d6, c7], gl⟩
  | [], k, acc, c2, c3, c4, c5, c6, _, _, _ => ⟨c2, c3, c4, c5, c6, by simp [enumD]⟩
  | z :: bs, k, acc, c2, c3, c4, c5, c6, hk, hb, hl => by
    rw [List.length_cons] at hl
    obtain ⟨h1, h2⟩ := hb z List.mem_cons_self
    have e1 := read_step z.1 z.2 h1 h2 k hk acc (by omega) c0 c4 c5 c6 c7 gl
    obtain ⟨d2, d3, d4, d5, d6, e2⟩ := read_loop c0 c7 gl bs (k + 1) (acc ++ [(true, z.1), (false, z.2)]) (.val (.int (k : Nat))) (.val (.str (tS (z.1 ++ 93 :: z.2)))) (.val (.str (tS z.1))) (.val (.str (tS [93]))) (.val (.str (tS z.2))) (by omega) (fun y m => hb y (List.mem_cons_of_mem _ m)) (by simp; omega)
    refine ⟨d2, d3, d4, d5, d6, ?_⟩
    rw [List.map_cons, List.map_cons, enumD, List.flatMap_cons, ← List.append_assoc]
    refine (fc_ok ?_ e1).trans e2
    generalize acc.map partD = A
    generalize tS (z.1 ++ 93 :: z.2) = Z
    simp [as_d]
theorem read_parts_spec {b : Blk} (h : Fr b) (hl : (told b).length ≤ 1000) (gl : List MObj) : f_read_parts [.str (tS (told b))] gl = .ok (.tup ((PG b).map partD)) gl := by
  have st := split_told h hl
  obtain ⟨t0, bs⟩ := b
  have ll : t0.length + (bs.flatMap fun z => 91 :: (z.1 ++ 93 :: z.2)).length ≤ 1000 := by
    have : (t0 ++ bs.flatMap fun z => 91 :: (z.1 ++ 93 :: z.2)).length ≤ 1000 := hl
    rwa [List.length_append] at this
  have lb : ∀ z ∈ bs, (z.1 ++ 93 :: z.2).length ≤ 2000 := fun z m => by
    have := flat_le (fun z : List Nat × List Nat => 91 :: (z.1 ++ 93 :: z.2)) m
    rw [← List.flatMap_def] at this
    rw [List.length_cons] at this
    omega
  have nb : bs.length ≤ (bs.flatMap fun z => 91 :: (z.1 ++ 93 :: z.2)).length := by
    clear st h hl ll lb
    induction bs with
    | nil => simp
    | cons z bs ih => rw [List.flatMap_cons, List.length_append, List.length_cons, List.length_cons]; omega
  have f93 : ∀ z ∈ bs, 93 ∉ z.1 := fun z mz m => (h 93 (mem_flat.mp (.inr ⟨z, mz, .inl m⟩))).2 rfl
  obtain ⟨d2, d3, d4, d5, d6, lp⟩ := read_loop (.val (.str (tS (told (t0, bs))))) .none gl bs 1 [(true, []), (false, t0)] (.val (.int 0)) (.val (.str (tS t0))) (.val (.str "")) (.val (.str "")) (.val (.str (tS t0))) (by omega) (fun z m => ⟨f93 z m, lb z m⟩) (by simp; omega)
  have pg : ((([(true, []), (false, t0)] : List (Bool × List Nat)) ++ bs.flatMap fun z => [(true, z.1), (false, z.2)]).filter ne) = PG (t0, bs) := rfl
  have c : ∀ L : List (Bool × List Nat), L.length ≤ 10000 → mComp [7] (iSeq (mVar 1)) (tgName 7) c_read_parts_1 (mVar 7) ⟨[.val (.str (tS (told (t0, bs)))), .own (.lst (L.map partD)), d2, d3, d4, d5, d6, .none], gl⟩ = .ok (.new (.lst ((L.filter ne).map partD))) ⟨[.val (.str (tS (told (t0, bs)))), .val (.lst (L.map partD)), d2, d3, d4, d5, d6, .none], gl⟩ := by
    intro L hL
    refine comp_flt L partD partD ne ?_ (by simp) rfl (by omega) fun z m => ⟨?_, fun _ => ?_⟩
    · generalize tS (told (t0, bs)) = TT
      generalize L.map partD = LL
      simp [iSeq]
    · have i := ne_D z
      have ix : ∀ s, opIx s (.d (partD z)) (.d (.int 1)) = .ok (.d (.str (tS z.2))) s := fun s => ixH1 _ _ _ s
      generalize partD z = PZ at *
      generalize ne z = nz at *
      generalize tS z.2 = tz at *
      generalize tS (told (t0, bs)) = TT at *
      generalize L.map partD = LL at *
      simp [c_read_parts_1, ix, i]
    · generalize tS (told (t0, bs)) = TT
      generalize L.map partD = LL
      generalize partD z = PZ at *
      simp
  have c := c ([(true, []), (false, t0)] ++ bs.flatMap fun z => [(true, z.1), (false, z.2)]) (by
    have : ∀ bs : List (List Nat × List Nat), (bs.flatMap fun z => [(true, z.1), (false, z.2)]).length = 2 * bs.length := by
      intro bs
      induction bs with
      | nil => rfl
      | cons z bs ih => rw [List.flatMap_cons, List.length_append, ih]; simp; omega
    rw [List.length_append, this]
    simp
    omega)
  rw [pg] at c
  have first : l_read_parts_2 ⟨[.val (.str (tS (told (t0, bs)))), .own (.lst []), .val (.int 0), .val (.str (tS t0)), .none, .none, .none, .none], gl⟩ = .ok .nx ⟨[.val (.str (tS (told (t0, bs)))), .own (.lst (([(true, []), (false, t0)] : List (Bool × List Nat)).map partD)), .val (.int 0), .val (.str (tS t0)), .val (.str ""), .val (.str ""), .val (.str (tS t0)), .none], gl⟩ := by
    have el : ([(true, []), (false, t0)] : List (Bool × List Nat)).map partD = [.tup [.bl true, .str ""], .tup [.bl false, .str (tS t0)]] := by rw [e_mt]; rfl
    rw [el]
    have sz : 2 ≤ sizeLine := szN _ (by omega)
    have fe : ∀ a b : D, fExtendA [] (.lst [a, b]) = some (.non, [a, b]) := fun a b => by
      unfold fExtendA
      simp only [List.length_cons, List.length_nil]
      rw [if_pos (by omega)]
      rfl
    generalize tS (told (t0, bs)) = TT
    generalize tS t0 = T0
    simp [l_read_parts_2, as_d, fe]
  have t1 : tgTup [2, 3] (.tup [.int 0, .str (tS t0)]) ⟨[.val (.str (tS (told (t0, bs)))), .own (.lst []), .none, .none, .none, .none, .none, .none], gl⟩ = some ⟨[.val (.str (tS (told (t0, bs)))), .own (.lst []), .val (.int 0), .val (.str (tS t0)), .none, .none, .none, .none], gl⟩ := by
    generalize tS (told (t0, bs)) = TT
    generalize tS t0 = T0
    simp [as_d]
  have lp2 := (fc_ok t1 first).trans lp
  have ee : enumD 0 (((t0, bs).1 :: (t0, bs).2.map fun z => z.1 ++ 93 :: z.2).map fun l => D.str (tS l)) = .tup [.int 0, .str (tS t0)] :: enumD 1 ((bs.map fun z => z.1 ++ 93 :: z.2).map fun l => D.str (tS l)) := rfl
  rw [← ee] at lp2
  generalize ((t0, bs).1 :: (t0, bs).2.map fun z => z.1 ++ 93 :: z.2).map (fun l => D.str (tS l)) = ML at *
  generalize ([(true, []), (false, t0)] ++ bs.flatMap fun z => [(true, z.1), (false, z.2)] : List (Bool × List Nat)).map partD = MM at *
  generalize (PG (t0, bs)).map partD = PP at *
  generalize tS (told (t0, bs)) = TT at *
  simp [-ap_Comp, f_read_parts, mDef, List.replicate, b_read_parts, as_new, ap_Sm2, ap_EnumM, st, lp2, c, ft_tup]
end K82
/-! # k82: snippets -/
namespace K82
open PySem PySem.Spec PyProof.Rows L2 MI
/-! ### both ends of what is told -/
theorem runT_head (op sh : Nat → List Nat) (i c : Nat) (cs : List Nat) (h : op i = [] ∨ op i = [91]) : ∃ d rest, runT op sh i (c :: cs) = d :: rest ∧ (d = 91 ∨ d = c) := by
  rw [runT]
  rcases h with h | h
  · rw [h]; exact ⟨c, _, rfl, .inr rfl⟩
  · rw [h]; exact ⟨91, _, rfl, .inl rfl⟩
theorem runT_last (op sh : Nat → List Nat) : ∀ (cs : List Nat) (i : Nat), cs ≠ [] → (∀ k, sh k = [] ∨ sh k = [93]) → ∃ init d, runT op sh i cs = init ++ [d] ∧ (d = 93 ∨ cs.getLast? = some d)
  | [], _, h, _ => absurd rfl h
  | [c], i, _, h => by
    rw [runT]
    rcases h i with h | h
    · rw [h]; exact ⟨op i, c, by simp [runT], .inr rfl⟩
    · rw [h]; exact ⟨op i ++ [c], 93, by simp [runT], .inl rfl⟩
  | c :: d :: cs, i, _, h => by
    obtain ⟨init, z, e, hz⟩ := runT_last op sh (d :: cs) (i + 1) (by simp) h
    rw [runT, e]
    exact ⟨op i ++ c :: (sh i ++ init), z, by simp, by
      rcases hz with hz | hz
      · exact .inl hz
      · right; rw [List.getLast?_cons_cons]; exact hz⟩
section
variable (r : Ru) (x : Str) (T : List Str) (a b : Nat)
def opB (k : Nat) : List Nat := if (∃ p ∈ seg x a b, p.1 = k ∧ WW r x T p = true) then [91] else []
def shB (k : Nat) : List Nat := if (∃ p ∈ seg x a b, p.2 = k + 1 ∧ WW r x T p = true) then [93] else []
end
theorem told_places (r : Ru) (x : Str) (T : List Str) (a b : Nat) (h1 : a < b) (h2 : b ≤ (spans x).length) : runT (opB r x T a b) (shB r x T a b) (s0 (seg x a b)) (sub x.cps.toList (s0 (seg x a b)) (endS 0 (seg x a b))) = told (Bk r x T a b) := by
  have sn := seg_ne h1 h2
  have ok := seg_ok x a b
  obtain ⟨b1, b2, b3⟩ := s0_le ok sn
  have := places_told (W := WW r x T) (opB r x T a b) (shB r x T a b) (endS 0 (seg x a b)) (seg x a b) (s0 (seg x a b)) (s0 (seg x a b)) ok (first_le ok) b3 (Nat.le_refl _) (endS_any sn 0 _) (fun k _ _ => rfl) (fun k _ _ => rfl)
  rw [sub_self, List.nil_append] at this
  exact this
theorem w46 : wsg 46 = false := by decide +kernel
theorem told_ends (r : Ru) (x : Str) (T : List Str) (a b : Nat) (h1 : a < b) (h2 : b ≤ (spans x).length) : (∃ c rest, told (Bk r x T a b) = c :: rest ∧ c ≠ 46) ∧ ∃ init c, told (Bk r x T a b) = init ++ [c] ∧ c ≠ 46 := by
  have sn := seg_ne h1 h2
  have ok := seg_ok x a b
  obtain ⟨b1, b2, b3⟩ := s0_le ok sn
  have tp := told_places r x T a b h1 h2
  have ho : ∀ k, opB r x T a b k = [] ∨ opB r x T a b k = [91] := fun k => by unfold opB; split; exact .inr rfl; exact .inl rfl
  have hs : ∀ k, shB r x T a b k = [] ∨ shB r x T a b k = [93] := fun k => by unfold shB; split; exact .inr rfl; exact .inl rfl
  generalize opB r x T a b = op at *
  generalize shB r x T a b = sh at *
  rw [← tp]
  generalize hR : seg x a b = R at *
  obtain ⟨q, q1, q2⟩ := endS_last (i := 0) sn
  have hq := ok.inn q (List.mem_of_getElem? q1)
  cases hR0 : R with
  | nil => exact absurd hR0 sn
  | cons p R' =>
    have hp := ok.inn p (by rw [hR0]; exact List.mem_cons_self)
    have e0 : s0 R = p.1 := by rw [hR0]; rfl
    rw [← hR0, e0]
    rw [e0] at b1 b3
    have pe : p.2 ≤ endS 0 R := by
      have := (endS_le (i := p.2) (by rw [hR0] at ok; exact ok.tail : SpOk x.cps.toList R') (fun z m => by rw [hR0] at ok; have := ok.le z m; omega) hp.2.1).1
      rw [hR0]
      exact this
    have sl := sub_len x.cps.toList p.1 (endS 0 R) b2
    -- the first sign
    obtain ⟨c, hc, wc⟩ := hp.2.2 p.1 (Nat.le_refl _) hp.1
    have hc1 := sub_cons (n := endS 0 R - p.1 - 1) hc
    rw [show p.1 + (endS 0 R - p.1 - 1 + 1) = endS 0 R by omega, show p.1 + 1 + (endS 0 R - p.1 - 1) = endS 0 R by omega] at hc1
    -- the last one
    obtain ⟨d, hd, wd⟩ := hq.2.2 (q.2 - 1) (by omega) (by omega)
    have hlast : (sub x.cps.toList p.1 (endS 0 R)).getLast? = some d := by
      rw [List.getLast?_eq_getElem?, sl]
      unfold sub
      rw [List.getElem?_take, if_pos (by omega), List.getElem?_drop, ← hd]
      congr 1
      omega
    constructor
    · rw [hc1]
      obtain ⟨z, rest, e, hz⟩ := runT_head op sh p.1 c (sub x.cps.toList (p.1 + 1) (endS 0 R)) (ho p.1)
      refine ⟨z, rest, e, ?_⟩
      rcases hz with rfl | rfl
      · decide
      · intro h; subst h; rw [w46] at wc; cases wc
    · obtain ⟨init, z, e, hz⟩ := runT_last op sh (sub x.cps.toList p.1 (endS 0 R)) p.1 (by rw [hc1]; simp) hs
      refine ⟨init, z, e, ?_⟩
      rcases hz with rfl | hz
      · decide
      · rw [hlast] at hz
        cases hz
        intro h; subst h; rw [w46] at wd; cases wd
/-! ### a snippet read -/
def AH (h : Bool) : List Nat := if h = true then [46, 46, 32] else []
def BH (h : Bool) : List Nat := if h = true then [32, 46, 46] else []
theorem e_ah : (".. " : Str) = tS [46, 46, 32] := by decide +kernel
theorem e_bh : (" .." : Str) = tS [32, 46, 46] := by decide +kernel
theorem cut_head (L : List Nat) : cutS (tS L) none (some 3) = tS (L.take 3) := by
  unfold cutS
  show tS ((L.drop (HT.sIx (tS L).length 0 none)).take (HT.sIx (tS L).length (tS L).length (some ((3 : Nat) : Int)) - HT.sIx (tS L).length 0 none)) = _
  rw [HT.sIx_none, HT.sIx_nat, tS_len, List.drop_zero, Nat.sub_zero]
  congr 1
  rcases Nat.le_total 3 L.length with h | h
  · rw [Nat.min_eq_left h]
  · rw [Nat.min_eq_right h, List.take_of_length_le (Nat.le_refl _), List.take_of_length_le h]
theorem cut_tail (L : List Nat) : cutS (tS L) (some (-3)) none = tS (L.drop (L.length - 3)) := by
  unfold cutS
  show tS ((L.drop (HT.sIx (tS L).length 0 (some (-3)))).take (HT.sIx (tS L).length (tS L).length none - HT.sIx (tS L).length 0 (some (-3)))) = _
  have e : HT.sIx (tS L).length 0 (some (-3)) = L.length - 3 := by
    show (if (-3 : Int) < 0 then ((-3 : Int) + ((tS L).length : Int)).toNat else min (-3 : Int).toNat (tS L).length) = _
    rw [if_pos (by omega), tS_len]
    omega
  rw [e, HT.sIx_none, tS_len, List.take_of_length_le (by rw [List.length_drop]; omega)]
theorem head_is (h : Bool) {Z B : List Nat} {c : Nat} {rest : List Nat} (e : Z = c :: rest) (hc : c ≠ 46) : ((AH h ++ (Z ++ B)).take 3 = [46, 46, 32]) ↔ h = true := by
  subst e
  cases h with
  | true => simp [AH]
  | false =>
    show ((c :: (rest ++ B)).take 3 = [46, 46, 32]) ↔ _
    rw [List.take_succ_cons]
    constructor
    · intro z; injection z with z1 z2; exact absurd z1 hc
    · intro z; cases z
theorem tail_is (h : Bool) {Z A : List Nat} {c : Nat} {init : List Nat} (e : Z = init ++ [c]) (hc : c ≠ 46) : ((A ++ Z ++ BH h).drop ((A ++ Z ++ BH h).length - 3) = [32, 46, 46]) ↔ h = true := by
  subst e
  cases h with
  | true =>
    have : (A ++ (init ++ [c]) ++ BH true).length - 3 = (A ++ (init ++ [c])).length := by
      rw [List.length_append]
      show _ + 3 - 3 = _
      omega
    rw [this, List.drop_left]
    simp [BH]
  | false =>
    show ((A ++ (init ++ [c]) ++ []).drop ((A ++ (init ++ [c]) ++ []).length - 3) = [32, 46, 46]) ↔ _
    rw [List.append_nil, ← List.append_assoc]
    constructor
    · intro z
      have hl : ((A ++ init) ++ [c]).getLast? = some c := by simp
      have : (((A ++ init) ++ [c]).drop (((A ++ init) ++ [c]).length - 3)).getLast? = some c := by
        rw [List.getLast?_drop, if_neg (by simp; omega), hl]
      rw [z] at this
      simp at this
      exact absurd this.symm hc
    · intro z; cases z
theorem read_snip {b : Blk} (h : Fr b) (hl : (told b).length ≤ 900) (h1 : ∃ c rest, told b = c :: rest ∧ c ≠ 46) (h2 : ∃ init c, told b = init ++ [c] ∧ c ≠ 46) (A B : Bool) (gl : List MObj) :
    f_read_snippet [.str (tS (AH A ++ (told b ++ BH B)))] gl = .ok (.tup [.bl A, .tup ((PG b).map partD), .bl B]) gl := by
  obtain ⟨c, rest, e1, hc⟩ := h1
  obtain ⟨init, d, e2, hd⟩ := h2
  have la : (AH A).length = if A = true then 3 else 0 := by cases A <;> rfl
  have lb : (BH B).length = if B = true then 3 else 0 := by cases B <;> rfl
  have lz : (tS (AH A ++ (told b ++ BH B))).length = (AH A).length + ((told b).length + (BH B).length) := by rw [tS_len, List.length_append, List.length_append]
  have lz2 : (tS (AH A ++ (told b ++ BH B))).length ≤ 1000 := by rw [lz, la, lb]; split <;> split <;> omega
  have sl := sl_str (tS (AH A ++ (told b ++ BH B))) lz2
  have s1 : ∀ s, opSl none (some 3) s (.d (.str (tS (AH A ++ (told b ++ BH B))))) = .ok (.d (.str (tS ((AH A ++ (told b ++ BH B)).take 3)))) s := fun s => by rw [sl, cut_head]
  have s2 : ∀ s, opSl (some (-3)) none s (.d (.str (tS (AH A ++ (told b ++ BH B))))) = .ok (.d (.str (tS ((AH A ++ (told b ++ BH B)).drop ((AH A ++ (told b ++ BH B)).length - 3))))) s := fun s => by rw [sl, cut_tail]
  have q1 : ∀ s, opEq false s (.d (.str (tS ((AH A ++ (told b ++ BH B)).take 3)))) (.d (.str ".. ")) = .ok (.d (.bl A)) s := fun s => by
    rw [eq_str]
    congr 3
    rw [Bool.eq_iff_iff, decide_eq_true_iff, e_ah, tS_inj]
    exact head_is A e1 hc
  have q2 : ∀ s, opEq false s (.d (.str (tS ((AH A ++ (told b ++ BH B)).drop ((AH A ++ (told b ++ BH B)).length - 3))))) (.d (.str " ..")) = .ok (.d (.bl B)) s := fun s => by
    rw [eq_str]
    congr 3
    rw [Bool.eq_iff_iff, decide_eq_true_iff, e_bh, tS_inj, ← List.append_assoc]
    exact tail_is B e2 hd
  have l1 : ∀ s, fLen s (.d (.str ".. ")) = .ok (.d (.int 3)) s := fun s => len_str ".. " (by decide) s
  have l2 : ∀ s, fLen s (.d (.str " ..")) = .ok (.d (.int 3)) s := fun s => len_str " .." (by decide) s
  have l3 : ∀ s, fLen s (.d (.str (tS (AH A ++ (told b ++ BH B))))) = .ok (.d (.int (((AH A).length + ((told b).length + (BH B).length) : Nat) : Int))) s := fun s => by rw [len_str _ lz2, lz]
  have ng : ∀ s, fNeg s (.d (.int 3)) = .ok (.d (.int (-3))) s := fun s => rfl
  have s3 : ∀ s, opSl (some ((if A = true then 3 else 0 : Nat) : Int)) (some ((((AH A).length + ((told b).length + (BH B).length) : Nat) : Int) - ((if B = true then 3 else 0 : Nat) : Int))) s (.d (.str (tS (AH A ++ (told b ++ BH B))))) = .ok (.d (.str (tS (told b)))) s := fun s => by
    rw [sl]
    congr 3
    have ei : (((AH A).length + ((told b).length + (BH B).length) : Nat) : Int) - ((if B = true then 3 else 0 : Nat) : Int) = (((AH A).length + (told b).length : Nat) : Int) := by rw [lb]; omega
    rw [ei, ← la, cut_sub]
    congr 1
    show sub (AH A ++ (told b ++ BH B)) (AH A).length ((AH A).length + (told b).length) = told b
    unfold sub
    rw [List.drop_left, show (AH A).length + (told b).length - (AH A).length = (told b).length by omega, List.take_left]
  have rp := read_parts_spec h (by omega) gl
  generalize (PG b).map partD = PP at *
  generalize tS ((AH A ++ (told b ++ BH B)).take 3) = X1 at *
  generalize tS ((AH A ++ (told b ++ BH B)).drop ((AH A ++ (told b ++ BH B)).length - 3)) = X2 at *
  generalize tS (AH A ++ (told b ++ BH B)) = X0 at *
  generalize tS (told b) = X3 at *
  generalize (((AH A).length + ((told b).length + (BH B).length) : Nat) : Int) = NN at *
  cases A <;> cases B <;> simp at s3 <;> simp [f_read_snippet, mDef, List.replicate, b_read_snippet, l1, l2, l3, ng, s1, s2, q1, q2, asInt, s3, rp, as_d, truthD, asD]
end K82
/-! # k82: the law's snippet -/
namespace K82
open PySem PySem.Spec PyProof.Rows L2 MI
theorem in_any {T : List Str} (o : Option Str) (s : S) (r : RV) (h : asItems s r = some (T.map .str)) : opIn false s (.d (oD o)) r = .ok (.d (.bl (wis T o))) s := by
  have h2 : asD s (.d (oD o)) = some (oD o) := by cases o <;> rfl
  unfold opIn
  rw [h, h2]
  show (match anyO (fun y => eqvO 40 y (oD o)) (T.map .str) with | some r => Res.ok (RV.d (.bl (r != false))) s | none => .stuck) = _
  rw [anyO_opt]
  cases wis T o <;> rfl
theorem wis_same {T T' : List Str} (h : ∀ t, t ∈ T ↔ t ∈ T') : wis T = wis T' := by
  funext o
  cases o with
  | none => rfl
  | some t => show decide (t ∈ T) = decide (t ∈ T'); rw [decide_eq_decide]; exact h t
/-! ### the greatest worth, and where it first stands -/
theorem ltD_w' (x y : Nat × Nat) : ltD (wD x) (wD y) = lexlt x y := ltD_w x y
theorem max_w : ∀ (L : List (Nat × Nat)) (c : Nat × Nat), ∃ m ∈ c :: L, maxDD (wD c) (L.map wD) = wD m ∧ ∀ y ∈ c :: L, lexlt m y = false
  | [], c => ⟨c, List.mem_cons_self, rfl, fun y m => by rw [List.mem_singleton.mp m]; exact lexlt_not.mpr (by omega)⟩
  | e :: L, c => by
    unfold maxDD
    rw [List.map_cons, List.foldl_cons, ltD_w']
    by_cases h : lexlt c e = true
    · rw [if_pos h]
      obtain ⟨m, m1, m2, m3⟩ := max_w L e
      refine ⟨m, List.mem_cons_of_mem _ m1, m2, fun y hy => ?_⟩
      rcases List.mem_cons.mp hy with rfl | hy
      · have := m3 e List.mem_cons_self
        rw [lexlt_not] at this ⊢
        rw [lexlt_iff] at h
        omega
      · exact m3 y hy
    · rw [if_neg h]
      obtain ⟨m, m1, m2, m3⟩ := max_w L c
      refine ⟨m, ?_, m2, fun y hy => ?_⟩
      · rcases List.mem_cons.mp m1 with rfl | m1
        · exact List.mem_cons_self
        · exact List.mem_cons_of_mem _ (List.mem_cons_of_mem _ m1)
      · rcases List.mem_cons.mp hy with rfl | hy
        · exact m3 y List.mem_cons_self
        · rcases List.mem_cons.mp hy with rfl | hy
          · have := m3 c List.mem_cons_self
            have h : lexlt c y = false := by simpa using h
            rw [lexlt_not] at this h ⊢
            omega
          · exact m3 y (List.mem_cons_of_mem _ hy)
theorem okD_w (x : Nat × Nat) : okD (wD x) = true := by simp [okD, wD, toP, toPs, depD, depDs]
theorem like_w (x y : Nat × Nat) : likeD (wD x) (wD y) = true := by simp [wD, likeD, likeDs]
theorem allike_w (L : List (Nat × Nat)) : allike (L.map wD) = true := by
  unfold allike
  simp only [Bool.and_eq_true, List.all_eq_true, List.mem_map]
  exact ⟨fun _ ⟨x, _, e⟩ => e ▸ okD_w x, fun _ ⟨x, _, e⟩ _ ⟨y, _, e2⟩ => e ▸ e2 ▸ like_w x y⟩
theorem enc_w (x : Nat × Nat) : encD (wD x) = .tuple [.int x.1, .int x.2] := encD_eq (by simp [wD, toP, toPs])
theorem lay_w (L : List (Nat × Nat)) : PyData.canLayAll0 ((L.map wD).map encD) = true := by
  induction L with
  | nil => rfl
  | cons x L ih =>
    rw [List.map_cons, List.map_cons, enc_w]
    simp only [PyData.canLayAll0, PyData.canLay0, Bool.and_self, Bool.true_and, Bool.and_true]
    exact ih
theorem ixbl_w (L : List (Nat × Nat)) (m : Nat × Nat) : ixbl (L.map wD) (wD m) = true := by
  unfold ixbl
  rw [lay_w, enc_w]
  have := allike_w (m :: L)
  rw [List.map_cons] at this
  rw [this]
  simp [PyData.canLay0, PyData.canLayAll0]
theorem eqD_wd (x y : Nat × Nat) : eqD (wD x) (wD y) = decide (x = y) := eqD_w x y
/-- the first of the greatest -/
theorem first_max (W : Nat → Nat × Nat) (k : Nat) (hk : 0 < k) (s : S) (v : Nat) (h : asLst s (.at v) = some (((List.range k).map W).map wD)) : ∃ m f, fMaxD s (.at v) = .ok (.d (wD m)) s ∧ fIxD (((List.range k).map W).map wD) (wD m) = some (.int (f : Nat), ((List.range k).map W).map wD) ∧ BestAt W 0 k f := by
  cases hL : (List.range k).map W with
  | nil =>
    have := congrArg List.length hL
    simp at this
    omega
  | cons c L =>
    obtain ⟨m, m1, m2, m3⟩ := max_w L c
    rw [← hL] at m1 m3
    obtain ⟨f0, hf0, e0⟩ := List.mem_map.mp m1
    have hf0 := List.mem_range.mp hf0
    have ex : ∃ f, idxD (((List.range k).map W).map wD) (wD m) = some f := by
      cases hi : idxD (((List.range k).map W).map wD) (wD m) with
      | some f => exact ⟨f, rfl⟩
      | none =>
        unfold idxD at hi
        rw [List.findIdx?_eq_none_iff] at hi
        have := hi (wD m) (List.mem_map.mpr ⟨m, m1, rfl⟩)
        rw [eqD_wd, decide_eq_true rfl] at this
        cases this
    obtain ⟨f, hf⟩ := ex
    have hf' := hf
    unfold idxD at hf
    obtain ⟨l1, l2, l3⟩ := List.findIdx?_eq_some_iff_getElem.mp hf
    have lk : f < k := by simpa using l1
    have at_ : ∀ g (hg : g < (((List.range k).map W).map wD).length), (((List.range k).map W).map wD)[g] = wD (W g) := fun g hg => by simp
    have e1 : W f = m := by
      have := l2
      rw [at_ f l1, eqD_wd, decide_eq_true_iff] at this
      exact this
    refine ⟨m, f, ?_, ?_, Nat.zero_le _, by omega, fun g _ hg => ?_, fun g _ hg e => ?_⟩
    · unfold fMaxD
      rw [h, hL, List.map_cons]
      simp only
      have := allike_w (c :: L)
      rw [List.map_cons] at this
      rw [if_pos this, m2]
    · rw [← hL]
      unfold fIxD
      rw [if_pos (ixbl_w _ _), hf']
    · rw [e1]
      exact m3 (W g) (List.mem_map.mpr ⟨g, List.mem_range.mpr (by omega), rfl⟩)
    · refine Decidable.byContradiction fun z => ?_
      have := l3 g (by omega)
      rw [at_ g (by simp; omega), eqD_wd, e, e1, decide_eq_true rfl] at this
      exact this rfl
/-! ### worths -/
theorem s5_step (R : Row) (hR : R.length ≤ 400) (T : List Str) (f n : Nat) (hf : f + n ≤ R.length) (acc : List (Nat × Nat)) (ha : acc.length ≤ 5000) (c0 c1 c2 c3 c6 c8 c12 c13 c14 c15 c16 c18 : Slot) (c11 : Slot) (gl : List MObj) :
    l__law_snippet_5 ⟨[c0, c1, c2, c3, .own (.lst (T.map .str)), .val (.int (f : Nat)), c6, .val (rD R), c8, .val (.int (n : Nat)), .own (.lst (acc.map wD)), c11, c12, c13, c14, c15, c16, .none, c18], gl⟩ = .ok .nx ⟨[c0, c1, c2, c3, .own (.lst (T.map .str)), .val (.int (f : Nat)), c6, .val (rD R), c8, .val (.int (n : Nat)), .own (.lst ((acc ++ [wof R T n f]).map wD)), .own (.lst ((thereL (sliceR R f (f + n)) T).map .str)), c12, c13, c14, c15, c16, .none, c18], gl⟩ := by
  have sl := slR R f (f + n)
  have ei : ((f + n : Nat) : Int) = (f : Int) + (n : Nat) := by omega
  rw [ei] at sl
  have sll : (sliceR R f (f + n)).length ≤ R.length := by unfold sliceR; rw [List.length_take, List.length_drop]; omega
  have tl := there_len (sliceR R f (f + n)) T
  have c : mComp [17] (iSeq (mSlice (mVar 7) (mPart (mVar 5)) (mPart (mBin opAdd (mVar 5) (mVar 9))))) (tgName 17) c__law_snippet_4 (mVar 17) ⟨[c0, c1, c2, c3, .own (.lst (T.map .str)), .val (.int (f : Nat)), c6, .val (rD R), c8, .val (.int (n : Nat)), .own (.lst (acc.map wD)), c11, c12, c13, c14, c15, c16, .none, c18], gl⟩ = .ok (.new (.lst ((thereL (sliceR R f (f + n)) T).map .str))) ⟨[c0, c1, c2, c3, .own (.lst (T.map .str)), .val (.int (f : Nat)), c6, .val (rD R), c8, .val (.int (n : Nat)), .own (.lst (acc.map wD)), c11, c12, c13, c14, c15, c16, .none, c18], gl⟩ := by
    rw [← there_D]
    refine comp_flt (sliceR R f (f + n)) oD oD (wis T) ?_ (by simp) rfl (by omega) fun o m => ⟨?_, fun _ => ?_⟩
    · generalize (sliceR R f (f + n)).map oD = SR at *
      generalize rD R = RR at *
      generalize acc.map wD = A at *
      generalize T.map D.str = TM at *
      simp [iSeq, asInt, sl]
    · have io := in_any (T := T) o
      generalize oD o = O at *
      generalize wis T o = wo at *
      generalize rD R = RR at *
      generalize acc.map wD = A at *
      generalize T.map D.str = TM at *
      simp [c__law_snippet_4, io, asItems, asTup, asLst]
    · generalize oD o = O at *
      generalize rD R = RR at *
      generalize acc.map wD = A at *
      generalize T.map D.str = TM at *
      simp
  have ls := fun s (h : asD s (.at 11) = some (.lst ((thereL (sliceR R f (f + n)) T).map .str))) => len_set (s := s) (r := .at 11) (show (thereL (sliceR R f (f + n)) T).length ≤ 1000 by omega) h
  have ll : ∀ s, asD s (.at 11) = some (.lst ((thereL (sliceR R f (f + n)) T).map .str)) → fLen s (.at 11) = .ok (.d (.int (thereL (sliceR R f (f + n)) T).length)) s := fun s h => by rw [q_lenL h, List.length_map]
  have sz : (acc.map wD).length < sizeLine := szN1 (by rw [List.length_map]; omega)
  have fa : ∀ y : D, fAppend (acc.map wD) y = some (.non, acc.map wD ++ [y]) := fun y => by unfold fAppend; simp only [sz, if_true]
  have el : (acc ++ [wof R T n f]).map wD = acc.map wD ++ [.tup [.int (uni (thereL (sliceR R f (f + n)) T)).length, .int (thereL (sliceR R f (f + n)) T).length]] := by rw [List.map_append]; rfl
  rw [el]
  generalize hu : (((uni (thereL (sliceR R f (f + n)) T)).length : Nat) : Int) = u1 at *
  generalize hv : (((thereL (sliceR R f (f + n)) T).length : Nat) : Int) = u2 at *
  generalize (thereL (sliceR R f (f + n)) T).map D.str = TH at *
  generalize acc.map wD = A at *
  generalize T.map D.str = TM at *
  generalize rD R = RR at *
  simp [-ap_Comp, l__law_snippet_5, c, as_new, ls, ll, asD, fa]
theorem s5_loop (R : Row) (hR : R.length ≤ 400) (T : List Str) (n : Nat) (c0 c1 c2 c3 c6 c8 c12 c13 c14 c15 c16 c18 : Slot) (gl : List MObj) : ∀ (k lo : Nat) (acc : List (Nat × Nat)) (c5 c11 : Slot), acc.length + k ≤ 5000 → (k = 0 ∨ lo + k - 1 + n ≤ R.length) →
    ∃ d5 d11, forGo (tgName 5) l__law_snippet_5 (rangeD (lo : Nat) k) ⟨[c0, c1, c2, c3, .own (.lst (T.map .str)), c5, c6, .val (rD R), c8, .val (.int (n : Nat)), .own (.lst (acc.map wD)), c11, c12, c13, c14, c15, c16, .none, c18], gl⟩ = .ok .nx ⟨[c0, c1, c2, c3, .own (.lst (T.map .str)), d5, c6, .val (rD R), c8, .val (.int (n : Nat)), .own (.lst ((acc ++ (List.range' lo k).map (wof R T n)).map wD)), d11, c12, c13, c14, c15, c16, .none, c18], gl⟩
  | 0, lo, acc, c5, c11, _, _ => ⟨c5, c11, by simp [rangeD]⟩
  | k + 1, lo, acc, c5, c11, hl, hk => by
    have e1 := s5_step R hR T lo n (by omega) acc (by omega) c0 c1 c2 c3 c6 c8 c12 c13 c14 c15 c16 c18 c11 gl
    obtain ⟨d5, d11, e2⟩ := s5_loop R hR T n c0 c1 c2 c3 c6 c8 c12 c13 c14 c15 c16 c18 gl k (lo + 1) (acc ++ [wof R T n lo]) (.val (.int (lo : Nat))) (.own (.lst ((thereL (sliceR R lo (lo + n)) T).map .str))) (by simp; omega) (by omega)
    refine ⟨d5, d11, ?_⟩
    rw [List.range'_succ, List.map_cons, show acc ++ (wof R T n lo :: (List.range' (lo + 1) k).map (wof R T n)) = acc ++ [wof R T n lo] ++ (List.range' (lo + 1) k).map (wof R T n) by simp]
    show forGo (tgName 5) l__law_snippet_5 (D.int (lo : Nat) :: rangeD ((lo : Int) + 1) k) _ = _
    refine (fc_ok ?_ e1).trans e2
    generalize acc.map wD = A at *
    generalize T.map D.str = TM at *
    generalize rD R = RR at *
    simp [as_d]
/-! ### told place by place -/
def opsL (r : Ru) (x : Str) (T : List Str) (f l k : Nat) : List Nat := (List.range' f (l - f)).filter fun j => decide (((spans x).getD j (0, 0)).1 = k) && wis T ((rowS r x).getD j none)
def shsL (r : Ru) (x : Str) (T : List Str) (f l k : Nat) : List Nat := (List.range' f (l - f)).filter fun j => decide (((spans x).getD j (0, 0)).2 = k + 1) && wis T ((rowS r x).getD j none)
theorem sp_get (x : Str) (j : Nat) (h : j < (spans x).length) (s : S) : opIx s (.d (.lst ((spans x).map pD))) (.d (.int (j : Nat))) = .ok (.d (pD ((spans x).getD j (0, 0)))) s := q_ixL rfl (by
  rw [atI_get (k := j) (x := pD ((spans x).getD j (0, 0)))]
  rw [List.getElem?_map, List.getElem?_eq_getElem h, List.getD_eq_getElem?_getD, List.getElem?_eq_getElem h]
  rfl)
theorem row_len' (r : Ru) (x : Str) : (rowS r x).length = (spans x).length := by unfold rowS; rw [List.length_map]
theorem row_get (r : Ru) (x : Str) (T : List Str) (j : Nat) (h : j < (spans x).length) : wis T ((rowS r x).getD j none) = WW r x T ((spans x).getD j (0, 0)) := by
  unfold rowS WW
  rw [List.getD_eq_getElem?_getD, List.getElem?_map, List.getElem?_eq_getElem h, List.getD_eq_getElem?_getD, List.getElem?_eq_getElem h]
  rfl
theorem int_map (L : List Nat) : (L.map fun j => D.int (j : Nat)).isEmpty = L.isEmpty := by cases L <;> rfl
theorem seg_ex (x : Str) (f l : Nat) (hl : l ≤ (spans x).length) (P : Nat × Nat → Prop) : (∃ p ∈ seg x f l, P p) ↔ ∃ j, f ≤ j ∧ j < l ∧ P ((spans x).getD j (0, 0)) := by
  unfold seg
  constructor
  · rintro ⟨p, hp, h⟩
    obtain ⟨i, hi, e⟩ := List.getElem_of_mem hp
    rw [List.length_take, List.length_drop] at hi
    refine ⟨f + i, by omega, by omega, ?_⟩
    rw [List.getElem_take, List.getElem_drop] at e
    rw [List.getD_eq_getElem?_getD, List.getElem?_eq_getElem (by omega : f + i < (spans x).length)]
    show P (spans x)[f + i]
    rw [e]
    exact h
  · rintro ⟨j, h1, h2, h⟩
    rw [List.getD_eq_getElem?_getD, List.getElem?_eq_getElem (by omega : j < (spans x).length)] at h
    refine ⟨(spans x)[j], ?_, h⟩
    rw [List.mem_take_iff_getElem]
    refine ⟨j - f, by rw [List.length_drop]; omega, ?_⟩
    rw [List.getElem_drop]
    congr 1
    omega
theorem ops_B (r : Ru) (x : Str) (T : List Str) (f l k : Nat) (hl : l ≤ (spans x).length) : (if (!(opsL r x T f l k).isEmpty) = true then [91] else []) = opB r x T f l k := by
  unfold opB
  congr 1
  rw [seg_ex x f l hl fun p => p.1 = k ∧ WW r x T p = true]
  refine propext ⟨fun h => ?_, fun ⟨j, h1, h2, h3, h4⟩ => ?_⟩
  · cases ho : opsL r x T f l k with
    | nil => rw [ho] at h; cases h
    | cons j rest =>
      have m : j ∈ opsL r x T f l k := by rw [ho]; exact List.mem_cons_self
      obtain ⟨m1, m2⟩ := List.mem_filter.mp m
      obtain ⟨a, b⟩ := List.mem_range'_1.mp m1
      rw [Bool.and_eq_true, decide_eq_true_iff, row_get r x T j (by omega)] at m2
      exact ⟨j, a, by omega, m2⟩
  · have m : j ∈ opsL r x T f l k := List.mem_filter.mpr ⟨List.mem_range'_1.mpr ⟨h1, by omega⟩, by rw [Bool.and_eq_true, decide_eq_true_iff, row_get r x T j (by omega)]; exact ⟨h3, h4⟩⟩
    cases ho : opsL r x T f l k with
    | nil => rw [ho] at m; cases m
    | cons => rfl
theorem shs_B (r : Ru) (x : Str) (T : List Str) (f l k : Nat) (hl : l ≤ (spans x).length) : (if (!(shsL r x T f l k).isEmpty) = true then [93] else []) = shB r x T f l k := by
  unfold shB
  congr 1
  rw [seg_ex x f l hl fun p => p.2 = k + 1 ∧ WW r x T p = true]
  refine propext ⟨fun h => ?_, fun ⟨j, h1, h2, h3, h4⟩ => ?_⟩
  · cases ho : shsL r x T f l k with
    | nil => rw [ho] at h; cases h
    | cons j rest =>
      have m : j ∈ shsL r x T f l k := by rw [ho]; exact List.mem_cons_self
      obtain ⟨m1, m2⟩ := List.mem_filter.mp m
      obtain ⟨a, b⟩ := List.mem_range'_1.mp m1
      rw [Bool.and_eq_true, decide_eq_true_iff, row_get r x T j (by omega)] at m2
      exact ⟨j, a, by omega, m2⟩
  · have m : j ∈ shsL r x T f l k := List.mem_filter.mpr ⟨List.mem_range'_1.mpr ⟨h1, by omega⟩, by rw [Bool.and_eq_true, decide_eq_true_iff, row_get r x T j (by omega)]; exact ⟨h3, h4⟩⟩
    cases ho : shsL r x T f l k with
    | nil => rw [ho] at m; cases m
    | cons => rfl
theorem ops_comp (r : Ru) (x : Str) (hx : x.length ≤ 300) (T : List Str) (f l k : Nat) (hf : f ≤ l) (hl : l ≤ (spans x).length) (c0 c2 c3 c9 c10 c11 c16 c17 c12 c14 c15 : Slot) (gl : List MObj) :
    mComp [18] (iRange2 (mACons (mVar 5) (mACons (mVar 13) mANil))) (tgName 18) c__law_snippet_2 (mVar 18) ⟨[c0, .val (.str x), c2, c3, .own (.lst (T.map .str)), .val (.int (f : Nat)), .val (.int (k : Nat)), .val (rD (rowS r x)), .val (.lst ((spans x).map pD)), c9, c10, c11, c12, .val (.int (l : Nat)), c14, c15, c16, c17, .none], gl⟩ = .ok (.new (.lst ((opsL r x T f l k).map fun j => D.int (j : Nat)))) ⟨[c0, .val (.str x), c2, c3, .own (.lst (T.map .str)), .val (.int (f : Nat)), .val (.int (k : Nat)), .val (rD (rowS r x)), .val (.lst ((spans x).map pD)), c9, c10, c11, c12, .val (.int (l : Nat)), c14, c15, c16, c17, .none], gl⟩ := by
  have sl := spans_len x
  have rg : rng2 (f : Int) (l : Int) = some (rangeD f (l - f)) := by
    rw [rng2_eq, if_pos (by refine ⟨?_, ?_, ?_, ?_⟩ <;> omega)]
    congr 2
    omega
  have rm : rangeD (f : Int) (l - f) = (List.range' f (l - f)).map fun j => D.int (j : Nat) := by
    rw [rangeD_map, List.range'_eq_map_range, List.map_map]
    refine List.map_congr_left fun k m => ?_
    show D.int ((f : Int) + (k : Int)) = D.int ((f + k : Nat) : Int)
    congr 1
  unfold opsL
  refine comp_flt (List.range' f (l - f)) (fun j => D.int (j : Nat)) (fun j => D.int (j : Nat)) _ ?_ (by simp) rfl (by simp; omega) fun j m => ⟨?_, fun _ => ?_⟩
  · rw [← rm]
    generalize (spans x).map pD = SS at *
    generalize rD (rowS r x) = RR at *
    generalize T.map D.str = TM at *
    simp [iRange2, rg]
  · obtain ⟨m1, m2⟩ := List.mem_range'_1.mp m
    have i1 := sp_get x j (by omega)
    have i2 : ∀ s, opIx s (.d (pD ((spans x).getD j (0, 0)))) (.d (.int 0)) = .ok (.d (.int (((spans x).getD j (0, 0)).1 : Nat))) s := fun s => ixH _ _ s
    have i3 := rl_get (rowS r x) j (by rw [row_len']; omega)
    have io := in_any (T := T) ((rowS r x).getD j none)
    have eq : ∀ s, opEq false s (.d (.int (((spans x).getD j (0, 0)).1 : Nat))) (.d (.int (k : Nat))) = .ok (.d (.bl (decide (((spans x).getD j (0, 0)).1 = k)))) s := fun s => by
      rw [eqII]
      congr 3
      rw [Bool.eq_iff_iff, beq_iff_eq, decide_eq_true_iff]
      omega
    show _ = Res.ok (decide (((spans x).getD j (0, 0)).1 = k) && wis T ((rowS r x).getD j none)) _
    generalize decide (((spans x).getD j (0, 0)).1 = k) = de at *
    generalize wis T ((rowS r x).getD j none) = wo at *
    generalize oD ((rowS r x).getD j none) = O at *
    generalize ((((spans x).getD j (0, 0)).1 : Nat) : Int) = v at *
    generalize pD ((spans x).getD j (0, 0)) = P at *
    generalize (spans x).map pD = SS at *
    generalize rD (rowS r x) = RR at *
    generalize T.map D.str = TM at *
    cases de <;> simp [-q_eqI, c__law_snippet_2, i1, i2, i3, eq, io, asItems, asTup, asLst]
  · generalize (spans x).map pD = SS at *
    generalize rD (rowS r x) = RR at *
    generalize T.map D.str = TM at *
    simp
theorem shs_comp (r : Ru) (x : Str) (hx : x.length ≤ 300) (T : List Str) (f l k : Nat) (hf : f ≤ l) (hl : l ≤ (spans x).length) (c0 c2 c3 c9 c10 c11 c16 c17 c12 c14 c15 : Slot) (gl : List MObj) :
    mComp [18] (iRange2 (mACons (mVar 5) (mACons (mVar 13) mANil))) (tgName 18) c__law_snippet_1 (mVar 18) ⟨[c0, .val (.str x), c2, c3, .own (.lst (T.map .str)), .val (.int (f : Nat)), .val (.int (k : Nat)), .val (rD (rowS r x)), .val (.lst ((spans x).map pD)), c9, c10, c11, c12, .val (.int (l : Nat)), c14, c15, c16, c17, .none], gl⟩ = .ok (.new (.lst ((shsL r x T f l k).map fun j => D.int (j : Nat)))) ⟨[c0, .val (.str x), c2, c3, .own (.lst (T.map .str)), .val (.int (f : Nat)), .val (.int (k : Nat)), .val (rD (rowS r x)), .val (.lst ((spans x).map pD)), c9, c10, c11, c12, .val (.int (l : Nat)), c14, c15, c16, c17, .none], gl⟩ := by
  have sl := spans_len x
  have rg : rng2 (f : Int) (l : Int) = some (rangeD f (l - f)) := by
    rw [rng2_eq, if_pos (by refine ⟨?_, ?_, ?_, ?_⟩ <;> omega)]
    congr 2
    omega
  have rm : rangeD (f : Int) (l - f) = (List.range' f (l - f)).map fun j => D.int (j : Nat) := by
    rw [rangeD_map, List.range'_eq_map_range, List.map_map]
    refine List.map_congr_left fun k m => ?_
    show D.int ((f : Int) + (k : Int)) = D.int ((f + k : Nat) : Int)
    congr 1
  unfold shsL
  refine comp_flt (List.range' f (l - f)) (fun j => D.int (j : Nat)) (fun j => D.int (j : Nat)) _ ?_ (by simp) rfl (by simp; omega) fun j m => ⟨?_, fun _ => ?_⟩
  · rw [← rm]
    generalize (spans x).map pD = SS at *
    generalize rD (rowS r x) = RR at *
    generalize T.map D.str = TM at *
    simp [iRange2, rg]
  · obtain ⟨m1, m2⟩ := List.mem_range'_1.mp m
    have i1 := sp_get x j (by omega)
    have i2 : ∀ s, opIx s (.d (pD ((spans x).getD j (0, 0)))) (.d (.int 1)) = .ok (.d (.int (((spans x).getD j (0, 0)).2 : Nat))) s := fun s => ixH1 _ _ _ s
    have i3 := rl_get (rowS r x) j (by rw [row_len']; omega)
    have io := in_any (T := T) ((rowS r x).getD j none)
    have eq : ∀ s, opEq false s (.d (.int (((spans x).getD j (0, 0)).2 : Nat))) (.d (.int ((k : Int) + 1))) = .ok (.d (.bl (decide (((spans x).getD j (0, 0)).2 = k + 1)))) s := fun s => by
      rw [eqII]
      congr 3
      rw [Bool.eq_iff_iff, beq_iff_eq, decide_eq_true_iff]
      omega
    show _ = Res.ok (decide (((spans x).getD j (0, 0)).2 = k + 1) && wis T ((rowS r x).getD j none)) _
    generalize decide (((spans x).getD j (0, 0)).2 = k + 1) = de at *
    generalize wis T ((rowS r x).getD j none) = wo at *
    generalize oD ((rowS r x).getD j none) = O at *
    generalize ((((spans x).getD j (0, 0)).2 : Nat) : Int) = v at *
    generalize pD ((spans x).getD j (0, 0)) = P at *
    generalize (spans x).map pD = SS at *
    generalize rD (rowS r x) = RR at *
    generalize T.map D.str = TM at *
    cases de <;> simp [-q_eqI, c__law_snippet_1, i1, i2, i3, eq, io, asItems, asTup, asLst]
  · generalize (spans x).map pD = SS at *
    generalize rD (rowS r x) = RR at *
    generalize T.map D.str = TM at *
    simp
theorem s3_step (r : Ru) (x : Str) (hx : x.length ≤ 300) (T : List Str) (f l k c : Nat) (hf : f ≤ l) (hl : l ≤ (spans x).length) (hc : x.cps.toList[k]? = some c) (t : List Nat) (ht : t.length ≤ 990) (c0 c2 c3 c9 c10 c11 c16 c17 c14 c15 : Slot) (gl : List MObj) :
    ∃ d14 d15, l__law_snippet_3 ⟨[c0, .val (.str x), c2, c3, .own (.lst (T.map .str)), .val (.int (f : Nat)), .val (.int (k : Nat)), .val (rD (rowS r x)), .val (.lst ((spans x).map pD)), c9, c10, c11, .val (.str (tS t)), .val (.int (l : Nat)), c14, c15, c16, c17, .none], gl⟩ = .ok .nx ⟨[c0, .val (.str x), c2, c3, .own (.lst (T.map .str)), .val (.int (f : Nat)), .val (.int (k : Nat)), .val (rD (rowS r x)), .val (.lst ((spans x).map pD)), c9, c10, c11, .val (.str (tS (t ++ (opB r x T f l k ++ c :: shB r x T f l k)))), .val (.int (l : Nat)), d14, d15, c16, c17, .none], gl⟩ := by
  have m1 := ops_comp r x hx T f l k hf hl c0 c2 c3 c9 c10 c11 c16 c17 (.val (.str (tS t))) c14 c15 gl
  have m2 := shs_comp r x hx T f l k hf hl c0 c2 c3 c9 c10 c11 c16 c17 (.val (.str (tS t))) (.own (.lst ((opsL r x T f l k).map fun j => D.int (j : Nat)))) c15 gl
  have ix : ∀ s, opIx s (.d (.str x)) (.d (.int (k : Nat))) = .ok (.d (.str ⟨#[c]⟩)) s := ix_str x (by omega) k c hc
  have n1 := ne_at ((opsL r x T f l k).map fun j => D.int (j : Nat)) 14
  have n2 := ne_at ((shsL r x T f l k).map fun j => D.int (j : Nat)) 15
  rw [int_map] at n1 n2
  rw [← ops_B r x T f l k hl, ← shs_B r x T f l k hl]
  refine ⟨.own (.lst ((opsL r x T f l k).map fun j => D.int (j : Nat))), .own (.lst ((shsL r x T f l k).map fun j => D.int (j : Nat))), ?_⟩
  have a1 := add_str (tS t) "[" (by rw [tS_len]; omega) (by decide)
  have a1' := add_str (tS t) "" (by rw [tS_len]; omega) (by decide)
  have a2 := fun b : List Nat => fun h : b.length ≤ 1 => add_str (tS (t ++ b)) ⟨#[c]⟩ (by rw [tS_len, List.length_append]; omega) (by show (1 : Nat) ≤ 1000; omega)
  have a3 := fun b : List Nat => fun h : b.length ≤ 1 => add_str (tS (t ++ b ++ [c])) "]" (by rw [tS_len, List.length_append, List.length_append]; simp; omega) (by decide)
  have a3' := fun b : List Nat => fun h : b.length ≤ 1 => add_str (tS (t ++ b ++ [c])) "" (by rw [tS_len, List.length_append, List.length_append]; simp; omega) (by decide)
  have ec : ∀ b : List Nat, tS (t ++ b) ++ (⟨#[c]⟩ : Str) = tS (t ++ b ++ [c]) := fun b => tS_cat (t ++ b) [c]
  have e1 : tS t ++ ("[" : Str) = tS (t ++ [91]) := by rw [e_op]; exact tS_cat t [91]
  have e1' : tS t ++ ("" : Str) = tS (t ++ []) := by rw [e_mt]; exact tS_cat t []
  have e3 : ∀ b : List Nat, tS (t ++ b ++ [c]) ++ ("]" : Str) = tS (t ++ b ++ [c] ++ [93]) := fun b => by rw [e_sh]; exact tS_cat (t ++ b ++ [c]) [93]
  have e3' : ∀ b : List Nat, tS (t ++ b ++ [c]) ++ ("" : Str) = tS (t ++ b ++ [c] ++ []) := fun b => by rw [e_mt]; exact tS_cat (t ++ b ++ [c]) []
  simp only [ec, e1, e1', e3, e3'] at a1 a1' a2 a3 a3'
  have p1 := a2 [91] (by simp)
  have p2 := a2 [] (by simp)
  have p3 := a3 [91] (by simp)
  have p4 := a3 [] (by simp)
  have p5 := a3' [91] (by simp)
  have p6 := a3' [] (by simp)
  generalize (!(opsL r x T f l k).isEmpty) = o1 at *
  generalize (!(shsL r x T f l k).isEmpty) = o2 at *
  generalize ((opsL r x T f l k).map fun j => D.int (j : Nat)) = OP at *
  generalize ((shsL r x T f l k).map fun j => D.int (j : Nat)) = SHL at *
  have f1 : t ++ ((if true = true then [91] else []) ++ c :: (if true = true then [93] else [])) = t ++ [91] ++ [c] ++ [93] := by simp
  have f2 : t ++ ((if true = true then [91] else []) ++ c :: (if false = true then [93] else [])) = t ++ [91] ++ [c] ++ [] := by simp
  have f3 : t ++ ((if false = true then [91] else []) ++ c :: (if true = true then [93] else [])) = t ++ [] ++ [c] ++ [93] := by simp
  have f4 : t ++ ((if false = true then [91] else []) ++ c :: (if false = true then [93] else [])) = t ++ [] ++ [c] ++ [] := by simp
  clear a2 a3 a3' ec e3 e3'
  cases o1 <;> cases o2
  · rw [f4]
    generalize tS (t ++ [] ++ [c] ++ []) = Z1 at *
    generalize tS (t ++ [] ++ [c]) = Z2 at *
    generalize tS (t ++ []) = Z3 at *
    generalize tS t = Z4 at *
    generalize (spans x).map pD = SS at *
    generalize rD (rowS r x) = RR at *
    generalize T.map D.str = TM at *
    generalize (⟨#[c]⟩ : Str) = CC at *
    simp [-ap_Comp, l__law_snippet_3, m1, m2, as_new, n1, n2, asD, ix, as_d, a1, a1', p1, p2, p3, p4, p5, p6]
  · rw [f3]
    generalize tS (t ++ [] ++ [c] ++ [93]) = Z1 at *
    generalize tS (t ++ [] ++ [c]) = Z2 at *
    generalize tS (t ++ []) = Z3 at *
    generalize tS t = Z4 at *
    generalize (spans x).map pD = SS at *
    generalize rD (rowS r x) = RR at *
    generalize T.map D.str = TM at *
    generalize (⟨#[c]⟩ : Str) = CC at *
    simp [-ap_Comp, l__law_snippet_3, m1, m2, as_new, n1, n2, asD, ix, as_d, a1, a1', p1, p2, p3, p4, p5, p6]
  · rw [f2]
    generalize tS (t ++ [91] ++ [c] ++ []) = Z1 at *
    generalize tS (t ++ [91] ++ [c]) = Z2 at *
    generalize tS (t ++ [91]) = Z3 at *
    generalize tS t = Z4 at *
    generalize (spans x).map pD = SS at *
    generalize rD (rowS r x) = RR at *
    generalize T.map D.str = TM at *
    generalize (⟨#[c]⟩ : Str) = CC at *
    simp [-ap_Comp, l__law_snippet_3, m1, m2, as_new, n1, n2, asD, ix, as_d, a1, a1', p1, p2, p3, p4, p5, p6]
  · rw [f1]
    generalize tS (t ++ [91] ++ [c] ++ [93]) = Z1 at *
    generalize tS (t ++ [91] ++ [c]) = Z2 at *
    generalize tS (t ++ [91]) = Z3 at *
    generalize tS t = Z4 at *
    generalize (spans x).map pD = SS at *
    generalize rD (rowS r x) = RR at *
    generalize T.map D.str = TM at *
    generalize (⟨#[c]⟩ : Str) = CC at *
    simp [-ap_Comp, l__law_snippet_3, m1, m2, as_new, n1, n2, asD, ix, as_d, a1, a1', p1, p2, p3, p4, p5, p6]
end K82
/-! # k82: the two snippets -/
namespace K82
open PySem PySem.Spec PyProof.Rows L2 MI
theorem runT_len (op sh : Nat → List Nat) (h : ∀ k, (op k).length ≤ 1 ∧ (sh k).length ≤ 1) : ∀ (cs : List Nat) (i : Nat), (runT op sh i cs).length ≤ 3 * cs.length
  | [], i => by simp [runT]
  | c :: cs, i => by
    have := runT_len op sh h cs (i + 1)
    have := h i
    rw [runT, List.length_append, List.length_cons, List.length_append, List.length_cons]
    omega
theorem opsh_len (r : Ru) (x : Str) (T : List Str) (f l : Nat) : ∀ k, (opB r x T f l k).length ≤ 1 ∧ (shB r x T f l k).length ≤ 1 := fun k => by
  unfold opB shB
  constructor <;> split <;> simp
theorem s3_loop (r : Ru) (x : Str) (hx : x.length ≤ 300) (T : List Str) (f l : Nat) (hf : f ≤ l) (hl : l ≤ (spans x).length) (c0 c2 c3 c9 c10 c11 c16 c17 : Slot) (gl : List MObj) : ∀ (n k : Nat) (t : List Nat) (c6 c14 c15 : Slot), k + n ≤ x.length → t.length + 3 * n ≤ 990 →
    ∃ d6 d14 d15, forGo (tgName 6) l__law_snippet_3 (rangeD (k : Nat) n) ⟨[c0, .val (.str x), c2, c3, .own (.lst (T.map .str)), .val (.int (f : Nat)), c6, .val (rD (rowS r x)), .val (.lst ((spans x).map pD)), c9, c10, c11, .val (.str (tS t)), .val (.int (l : Nat)), c14, c15, c16, c17, .none], gl⟩ = .ok .nx ⟨[c0, .val (.str x), c2, c3, .own (.lst (T.map .str)), .val (.int (f : Nat)), d6, .val (rD (rowS r x)), .val (.lst ((spans x).map pD)), c9, c10, c11, .val (.str (tS (t ++ runT (opB r x T f l) (shB r x T f l) k (sub x.cps.toList k (k + n))))), .val (.int (l : Nat)), d14, d15, c16, c17, .none], gl⟩
  | 0, k, t, c6, c14, c15, _, _ => ⟨c6, c14, c15, by rw [Nat.add_zero, sub_self]; simp [rangeD, runT]⟩
  | n + 1, k, t, c6, c14, c15, hk, ht => by
    have hlt : k < x.cps.toList.length := by rw [← str_len]; omega
    have hc : x.cps.toList[k]? = some x.cps.toList[k] := List.getElem?_eq_getElem hlt
    generalize x.cps.toList[k] = c at hc
    obtain ⟨d14, d15, e1⟩ := s3_step r x hx T f l k c hf hl hc t (by omega) c0 c2 c3 c9 c10 c11 c16 c17 c14 c15 gl
    have ol := opsh_len r x T f l k
    obtain ⟨e6, e14, e15, e2⟩ := s3_loop r x hx T f l hf hl c0 c2 c3 c9 c10 c11 c16 c17 gl n (k + 1) (t ++ (opB r x T f l k ++ c :: shB r x T f l k)) (.val (.int (k : Nat))) d14 d15 (by omega) (by simp; omega)
    refine ⟨e6, e14, e15, ?_⟩
    rw [sub_cons hc, runT, show t ++ (opB r x T f l k ++ c :: (shB r x T f l k ++ runT (opB r x T f l) (shB r x T f l) (k + 1) (sub x.cps.toList (k + 1) (k + 1 + n)))) = t ++ (opB r x T f l k ++ c :: shB r x T f l k) ++ runT (opB r x T f l) (shB r x T f l) (k + 1) (sub x.cps.toList (k + 1) (k + 1 + n)) by simp]
    show forGo (tgName 6) l__law_snippet_3 (D.int (k : Nat) :: rangeD ((k : Int) + 1) n) _ = _
    refine (fc_ok ?_ e1).trans e2
    generalize tS t = TT
    generalize T.map D.str = TM at *
    generalize rD (rowS r x) = RR at *
    generalize (spans x).map pD = SS at *
    simp [as_d]
theorem seg_s0 (x : Str) (f l : Nat) (h : f < l) (hl : l ≤ (spans x).length) : s0 (seg x f l) = ((spans x).getD f (0, 0)).1 := by
  unfold seg
  rw [List.drop_eq_getElem_cons (by omega : f < (spans x).length), show l - f = (l - f - 1) + 1 by omega, List.take_succ_cons, List.getD_eq_getElem?_getD, List.getElem?_eq_getElem (by omega : f < (spans x).length)]
  rfl
theorem seg_end (x : Str) (f l : Nat) (h : f < l) (hl : l ≤ (spans x).length) : endS 0 (seg x f l) = ((spans x).getD (l - 1) (0, 0)).2 := by
  obtain ⟨q, q1, q2⟩ := endS_last (i := 0) (seg_ne h hl)
  rw [← q2]
  have e : (seg x f l).length = l - f := by unfold seg; rw [List.length_take, List.length_drop]; omega
  rw [e] at q1
  unfold seg at q1
  rw [List.getElem?_take, if_pos (by omega), List.getElem?_drop, show f + (l - f - 1) = l - 1 by omega] at q1
  rw [List.getD_eq_getElem?_getD, q1]
  rfl
/-! ### terms of wishes -/
def tws (r : Ru) (ws : List Str) : List Str := (ws.filter fun v => (termO r v).isSome).map fun v => txO (termO r v)
def TT (r : Ru) (ws : List Str) : List Str := sortS (uni (tws r ws))
theorem tws_len (r : Ru) (ws : List Str) : (tws r ws).length ≤ ws.length := by unfold tws; rw [List.length_map]; exact List.length_filter_le _ _
theorem tt_mem (r : Ru) (ws : List Str) (t : Str) : t ∈ TT r ws ↔ t ∈ tws r ws := by unfold TT; rw [(sortS_perm _).mem_iff, uni_mem]
theorem tt_len (r : Ru) (ws : List Str) : (TT r ws).length ≤ ws.length := by
  unfold TT
  rw [(sortS_perm _).length_eq]
  have := uni_len (tws r ws)
  have := tws_len r ws
  omega
theorem tws_D (r : Ru) (ws : List Str) : ((ws.map (termO r)).filter (·.isSome)).map oD = (tws r ws).map .str := by
  unfold tws
  rw [List.filter_map, List.map_map, List.map_map]
  refine List.map_congr_left fun v h => ?_
  have h := (List.mem_filter.mp h).2
  show oD (termO r v) = D.str (txO (termO r v))
  cases ho : termO r v with
  | none => simp only [Function.comp, ho] at h; cases h
  | some t => rfl
theorem isn_o (o : Option Str) (s : S) : opIsN true s (.d (oD o)) (.d .non) = .ok (.d (.bl o.isSome)) s := by cases o <;> rfl
theorem ss_new {ks : List Str} (hl : ks.length ≤ 1000) {s : S} : fSortedSet s (.new (.lst (ks.map .str))) = .ok (.new (.lst ((sortS (uni ks)).map .str))) s := by
  have e1 : asD s (.new (.lst (ks.map D.str))) = some (.lst (ks.map .str)) := rfl
  unfold fSortedSet
  rw [e1]
  simp only [strsOf_map]
  rw [if_pos hl]
theorem wish_spec (r : Ru) (hr : RuOk r) (ws : List Str) (hw : ws.length ≤ 100) (hl : ∀ v ∈ ws, v.length ≤ 1000) (gl : List MObj) : f_wish_terms [ruD r, .tup (ws.map .str)] gl = .ok (.tup ((TT r ws).map .str)) gl := by
  have c1 : mComp [3] (iSeq (mVar 1)) (tgName 3) mYes e_wish_terms_2 ⟨[.val (ruD r), .val (.tup (ws.map .str)), .none, .none, .none], gl⟩ = .ok (.new (.lst ((ws.map (termO r)).map oD))) ⟨[.val (ruD r), .val (.tup (ws.map .str)), .none, .none, .none], gl⟩ := by
    rw [List.map_map]
    refine comp_mapI ws D.str _ ?_ (by simp) rfl (by omega) fun v m => ?_
    · generalize ws.map D.str = WS
      generalize ruD r = RR
      simp [iSeq]
    · have ts := term_spec r hr v (hl v m) gl
      show _ = Res.ok (oD (termO r v)) _
      generalize oD (termO r v) = O at *
      generalize ws.map D.str = WS at *
      generalize ruD r = RR at *
      simp [e_wish_terms_2, ts]
  have c2 : mComp [4] (iSeq (mVar 2)) (tgName 4) c_wish_terms_1 (mVar 4) ⟨[.val (ruD r), .val (.tup (ws.map .str)), .own (.lst ((ws.map (termO r)).map oD)), .none, .none], gl⟩ = .ok (.new (.lst ((tws r ws).map .str))) ⟨[.val (ruD r), .val (.tup (ws.map .str)), .val (.lst ((ws.map (termO r)).map oD)), .none, .none], gl⟩ := by
    rw [← tws_D]
    refine comp_flt (ws.map (termO r)) oD oD (·.isSome) ?_ (by simp) rfl (by simp; omega) fun o m => ⟨?_, fun _ => ?_⟩
    · generalize (ws.map (termO r)).map oD = OO
      generalize ws.map D.str = WS at *
      generalize ruD r = RR at *
      simp [iSeq]
    · have i := isn_o o
      generalize oD o = O at *
      generalize (ws.map (termO r)).map oD = OO at *
      generalize ws.map D.str = WS at *
      generalize ruD r = RR at *
      simp [c_wish_terms_1, i]
    · generalize oD o = O at *
      generalize (ws.map (termO r)).map oD = OO at *
      generalize ws.map D.str = WS at *
      generalize ruD r = RR at *
      simp
  have tl := tws_len r ws
  have ss := fun s => ss_new (ks := tws r ws) (by omega) (s := s)
  have ss : ∀ s, fSortedSet s (.new (.lst ((tws r ws).map .str))) = .ok (.new (.lst ((TT r ws).map .str))) s := ss
  generalize (TT r ws).map D.str = M1 at *
  generalize (tws r ws).map D.str = M2 at *
  generalize (ws.map (termO r)).map oD = OO at *
  generalize ws.map D.str = WS at *
  generalize ruD r = RR at *
  simp [-ap_Comp, f_wish_terms, mDef, List.replicate, b_wish_terms, c1, as_new, c2, ss, ft_tup]
/-! ### the snippets -/
def snipL (r : Ru) (x : Str) (T : List Str) (f n : Nat) : List Nat := AH (decide (0 < f)) ++ (told (Bk r x T f (f + n)) ++ BH (decide (f + n < (spans x).length)))
theorem told_len (r : Ru) (x : Str) (hx : x.length ≤ 200) (T : List Str) (a b : Nat) (h1 : a < b) (h2 : b ≤ (spans x).length) : (told (Bk r x T a b)).length ≤ 600 := by
  rw [← told_places r x T a b h1 h2]
  have := runT_len _ _ (opsh_len r x T a b) (sub x.cps.toList (s0 (seg x a b)) (endS 0 (seg x a b))) (s0 (seg x a b))
  obtain ⟨b1, b2, b3⟩ := s0_le (seg_ok x a b) (seg_ne h1 h2)
  rw [sub_len _ _ _ b2] at this
  rw [← str_len] at b2
  omega
theorem bk_same (r : Ru) (x : Str) {T T' : List Str} (h : ∀ t, t ∈ T ↔ t ∈ T') (a b : Nat) : Bk r x T a b = Bk r x T' a b := by
  have : WW r x T = WW r x T' := by funext p; unfold WW; rw [wis_same h]
  unfold Bk
  rw [this]
theorem wof_same (R : Row) {T T' : List Str} (h : ∀ t, t ∈ T ↔ t ∈ T') (n : Nat) : wof R T n = wof R T' n := by
  funext f
  unfold wof worth thereL
  rw [wis_same h]
theorem glue (A B : Bool) (t : List Nat) (ht : t.length ≤ 900) : (∀ s, opAdd s (.d (.str (if A = true then ".. " else ""))) (.d (.str (tS t))) = .ok (.d (.str (tS (AH A ++ t)))) s) ∧ (∀ s, opAdd s (.d (.str (tS (AH A ++ t)))) (.d (.str (if B = true then " .." else ""))) = .ok (.d (.str (tS (AH A ++ (t ++ BH B))))) s) := by
  have eA : (if A = true then (".. " : Str) else "") = tS (AH A) := by cases A; exact e_mt; exact e_ah
  have eB : (if B = true then (" .." : Str) else "") = tS (BH B) := by cases B; exact e_mt; exact e_bh
  have lA : (AH A).length ≤ 3 := by cases A <;> simp [AH]
  have lB : (BH B).length ≤ 3 := by cases B <;> simp [BH]
  constructor
  · intro s
    rw [eA, add_str _ _ (by rw [tS_len]; omega) (by rw [tS_len]; omega), tS_cat]
  · intro s
    rw [eB, add_str _ _ (by rw [tS_len, List.length_append]; omega) (by rw [tS_len]; omega), tS_cat, List.append_assoc]
theorem snip_known (r : Ru) (hr : RuOk r) (x : Str) (hx : x.length ≤ 200) (ws : List Str) (hw : ws.length ≤ 100) (hl : ∀ v ∈ ws, v.length ≤ 1000) (size : Nat) (hz : 0 < size) (hz2 : size ≤ 300) (gl : List MObj) :
    (rowS r x = [] → f_snippet [ruD r, .str x, .tup (ws.map .str), .int size] gl = .ok (.str "") gl) ∧
    (rowS r x ≠ [] → ∃ f, f_snippet [ruD r, .str x, .tup (ws.map .str), .int size] gl = .ok (.str (tS (snipL r x (TT r ws) f (wid size (0, (rowS r x).length))))) gl ∧ f_best_window [ruD r, .str x, .tup ((TT r ws).map .str), .int size] gl = .ok (pD (f, f + wid size (0, (rowS r x).length))) gl ∧ BestAt (wof (rowS r x) (TT r ws) (wid size (0, (rowS r x).length))) 0 ((rowS r x).length - wid size (0, (rowS r x).length) + 1) f) := by
  have wt := wish_spec r hr ws hw hl gl
  have bw := best_window_spec r hr x hx (.tup : Tm (TT r ws) _) size hz hz2 gl
  have sp := spans_spec x (by omega) gl
  rcases bw with ⟨h, e⟩ | ⟨h, f, e, bb⟩
  · refine ⟨fun _ => ?_, fun z => absurd h z⟩
    generalize (TT r ws).map D.str = M1 at *
    generalize ws.map D.str = WS at *
    generalize ruD r = RR at *
    have i : ∀ s, opIsN false s (.d .non) (.d .non) = .ok (.d (.bl true)) s := fun s => rfl
    simp [f_snippet, mDef, List.replicate, b_snippet, wt, as_d, e, i]
  · refine ⟨fun z => absurd z h, fun _ => ⟨f, ?_, e, bb⟩⟩
    have rl := row_len' r x
    have e : f_best_window [ruD r, .str x, .tup ((TT r ws).map .str), .int size] gl = .ok (pD (f, f + wid size (0, (rowS r x).length))) gl := e
    have hR0 : 0 < (rowS r x).length := List.length_pos_iff.mpr h
    have hw0 : 0 < wid size (0, (rowS r x).length) := by unfold wid; simp; omega
    have hw1 : wid size (0, (rowS r x).length) ≤ (rowS r x).length := by unfold wid; simp; omega
    have hf := bb.high
    clear bb
    generalize wid size (0, (rowS r x).length) = n at *
    rw [rl] at *
    have sn := snip_spec r hr x (by omega) (.tup : Tm (TT r ws) _) f (f + n) (by omega) (by omega) gl
    have tl := told_len r x hx (TT r ws) f (f + n) (by omega) (by omega)
    have tp : toldP (PG (Bk r x (TT r ws) f (f + n))) = told (Bk r x (TT r ws) f (f + n)) := toldP_PG (blk_ok _ _ _ (seg_ok x f (f + n)))
    have ts := told_spec (PG (Bk r x (TT r ws) f (f + n))) (by rw [tp]; omega) (by
      have sl := spans_len x
      have : ∀ (R : List (Nat × Nat)) (pl e : Nat), (blk x.cps.toList (WW r x (TT r ws)) pl e R).2.length ≤ R.length := by
        intro R
        induction R with
        | nil => intro pl e; simp [blk]
        | cons p R ih =>
          intro pl e
          unfold blk
          split
          · have := ih p.2 e; simp; omega
          · have := ih pl e; simp; omega
      have h1 := this (seg x f (f + n)) (s0 (seg x f (f + n))) (endS 0 (seg x f (f + n)))
      have h2 := seg_len x f (f + n)
      have h3 : ∀ bs : List (List Nat × List Nat), (bs.flatMap fun z => [(true, z.1), (false, z.2)]).length = 2 * bs.length := by
        intro bs
        induction bs with
        | nil => rfl
        | cons z bs ih => rw [List.flatMap_cons, List.length_append, ih]; simp; omega
      unfold PG
      refine Nat.le_trans (List.length_filter_le _ _) ?_
      unfold flatP
      rw [List.length_cons, h3]
      unfold Bk
      omega) gl
    rw [tp] at ts
    have i0 : ∀ s, opIx s (.d (pD (f, f + n))) (.d (.int 0)) = .ok (.d (.int (f : Nat))) s := fun s => ixH _ _ s
    have i1 : ∀ s, opIx s (.d (pD (f, f + n))) (.d (.int 1)) = .ok (.d (.int (f + n : Nat))) s := fun s => ixH1 _ _ _ s
    have isn : ∀ s, opIsN false s (.d (pD (f, f + n))) (.d .non) = .ok (.d (.bl false)) s := fun s => rfl
    have ln : ∀ s, fLen s (.d (.lst ((spans x).map pD))) = .ok (.d (.int (spans x).length)) s := fun s => by rw [q_lenL rfl, List.length_map]
    have g1 : ∀ s, opGt s (.d (.int (f : Nat))) (.d (.int 0)) = .ok (.d (.bl (decide (0 < f)))) s := fun s => by rw [q_gt]; congr 3; simp
    have g2 : ∀ s, opLt s (.d (.int (f + n : Nat))) (.d (.int (spans x).length)) = .ok (.d (.bl (decide (f + n < (spans x).length)))) s := fun s => by rw [q_lt]; congr 3; rw [decide_eq_decide]; omega
    obtain ⟨p1, p2o⟩ := glue (decide (0 < f)) (decide (f + n < (spans x).length)) (told (Bk r x (TT r ws) f (f + n))) (by omega)
    have p2 : ∀ s, opAdd s (.d (.str (tS (AH (decide (0 < f)) ++ told (Bk r x (TT r ws) f (f + n)))))) (.d (.str (if decide (f + n < (spans x).length) = true then " .." else ""))) = .ok (.d (.str (tS (snipL r x (TT r ws) f n)))) s := p2o
    clear p2o
    generalize tS (AH (decide (0 < f)) ++ told (Bk r x (TT r ws) f (f + n))) = YY at *
    generalize tS (snipL r x (TT r ws) f n) = ZZ at *
    generalize tS (told (Bk r x (TT r ws) f (f + n))) = TD at *
    generalize (PG (Bk r x (TT r ws) f (f + n))).map partD = PP at *
    generalize decide (0 < f) = A at *
    generalize decide (f + n < (spans x).length) = B at *
    generalize pD (f, f + n) = Pd at *
    generalize (spans x).map pD = SS at *
    generalize (TT r ws).map D.str = M1 at *
    generalize ws.map D.str = WS at *
    generalize ruD r = RR at *
    generalize ((f + n : Nat) : Int) = fn at *
    generalize ((f : Nat) : Int) = ff at *
    generalize (((spans x).length : Nat) : Int) = sn2 at *
    cases A <;> cases B <;> simp only [if_true, Bool.false_eq_true, if_false] at p1 p2 <;> simp [-q_gt, -q_lt, f_snippet, mDef, List.replicate, b_snippet, wt, as_d, e, isn, sn, ts, i0, i1, g1, g2, sp, ln, p1, p2]
end K82
/-! # k82: the law's snippet, whole -/
namespace K82
open PySem PySem.Spec PyProof.Rows L2 MI
theorem len_row (R : Row) (s : S) : fLen s (.d (rD R)) = .ok (.d (.int (R.length : Nat))) s := by
  unfold rD
  rw [q_lenL rfl, List.length_map]
theorem eq_lf (l : List D) (s : S) : opEq false s (.d (.lst l)) (.new (.lst [])) = .ok (.d (.bl l.isEmpty)) s := by cases l <;> rfl
theorem v_a (r : Ru) (hr : RuOk r) (hn : r.en.length ≤ 1000) (x : Str) (hx : x.length ≤ 200) (ws : List Str) (hw : ws.length ≤ 100) (hl : ∀ v ∈ ws, v.length ≤ 1000) (size : Nat) (gl : List MObj) : (mParN [7, 8] (mRCons (mCall f__law_terms (mACons (mVar 0) (mACons (mVar 1) mANil))) (mRCons (mCall f__law_pieces (mACons (mVar 1) mANil)) mRNil))) ⟨[.val (ruD r), .val (.str x), .val (.tup (ws.map .str)), .val (.int (size : Nat)), .none, .none, .none, .none, .none, .none, .none, .none, .none, .none, .none, .none, .none, .none, .none], gl⟩ = .ok .nx ⟨[.val (ruD r), .val (.str x), .val (.tup (ws.map .str)), .val (.int (size : Nat)), .none, .none, .none, .val (rD (rowS r x)), .val (.lst ((spans x).map pD)), .none, .none, .none, .none, .none, .none, .none, .none, .none, .none], gl⟩ := by
  have lt := law_terms r hr hn x (by omega) gl
  have lp := pieces_spec x (by omega) gl
  have lt : f__law_terms [ruD r, .str x] gl = .ok (rD (rowS r x)) gl := lt
  generalize rD (rowS r x) = RL at *
  generalize (spans x).map pD = SS at *
  generalize ruD r = RR at *
  generalize ws.map D.str = WS at *
  simp [lt, lp, as_d]
theorem v_b (r : Ru) (hr : RuOk r) (hn : r.en.length ≤ 1000) (x : Str) (hx : x.length ≤ 200) (ws : List Str) (hw : ws.length ≤ 100) (hl : ∀ v ∈ ws, v.length ≤ 1000) (size : Nat) (gl : List MObj) : (mSet 4 (mComp [16] (iSeq (mVar 2)) (tgName 16) c__law_snippet_6 e__law_snippet_7)) ⟨[.val (ruD r), .val (.str x), .val (.tup (ws.map .str)), .val (.int (size : Nat)), .none, .none, .none, .val (rD (rowS r x)), .val (.lst ((spans x).map pD)), .none, .none, .none, .none, .none, .none, .none, .none, .none, .none], gl⟩ = .ok .nx ⟨[.val (ruD r), .val (.str x), .val (.tup (ws.map .str)), .val (.int (size : Nat)), .own (.lst ((tws r ws).map .str)), .none, .none, .val (rD (rowS r x)), .val (.lst ((spans x).map pD)), .none, .none, .none, .none, .none, .none, .none, .none, .none, .none], gl⟩ := by
  have c : mComp [16] (iSeq (mVar 2)) (tgName 16) c__law_snippet_6 e__law_snippet_7 ⟨[.val (ruD r), .val (.str x), .val (.tup (ws.map .str)), .val (.int (size : Nat)), .none, .none, .none, .val (rD (rowS r x)), .val (.lst ((spans x).map pD)), .none, .none, .none, .none, .none, .none, .none, .none, .none, .none], gl⟩ = .ok (.new (.lst ((tws r ws).map .str))) ⟨[.val (ruD r), .val (.str x), .val (.tup (ws.map .str)), .val (.int (size : Nat)), .none, .none, .none, .val (rD (rowS r x)), .val (.lst ((spans x).map pD)), .none, .none, .none, .none, .none, .none, .none, .none, .none, .none], gl⟩ := by
    unfold tws
    rw [List.map_map]
    refine comp_flt ws D.str _ (fun v => (termO r v).isSome) ?_ (by simp) rfl (by omega) fun v m => ⟨?_, fun h => ?_⟩
    · generalize rD (rowS r x) = RL at *
      generalize (spans x).map pD = SS at *
      generalize ruD r = RR at *
      generalize ws.map D.str = WS at *
      simp [iSeq]
    · have lt := law_term r hr hn v (hl v m) gl
      have i := isn_o (termO r v)
      generalize oD (termO r v) = O at *
      generalize (termO r v).isSome = so at *
      generalize rD (rowS r x) = RL at *
      generalize (spans x).map pD = SS at *
      generalize ruD r = RR at *
      generalize ws.map D.str = WS at *
      simp [c__law_snippet_6, lt, i]
    · have lt := law_term r hr hn v (hl v m) gl
      have e : oD (termO r v) = .str (txO (termO r v)) := by
        cases ho : termO r v with
        | none => rw [ho] at h; cases h
        | some t => rfl
      rw [e] at lt
      show _ = Res.ok (D.str (txO (termO r v))) _
      generalize txO (termO r v) = tx at *
      generalize rD (rowS r x) = RL at *
      generalize (spans x).map pD = SS at *
      generalize ruD r = RR at *
      generalize ws.map D.str = WS at *
      simp [e__law_snippet_7, lt]
  generalize (tws r ws).map D.str = TW at *
  generalize rD (rowS r x) = RL at *
  generalize (spans x).map pD = SS at *
  generalize ruD r = RR at *
  generalize ws.map D.str = WS at *
  simp [-ap_Comp, c, as_new]
theorem v_c (r : Ru) (hr : RuOk r) (hn : r.en.length ≤ 1000) (x : Str) (hx : x.length ≤ 200) (ws : List Str) (hw : ws.length ≤ 100) (hl : ∀ v ∈ ws, v.length ≤ 1000) (size : Nat) (gl : List MObj) : (mIfS (mBl (mBin (opEq false) (mVar 7) (mLst mANil))) (mRet (mC (.str ""))) mNx) ⟨[.val (ruD r), .val (.str x), .val (.tup (ws.map .str)), .val (.int (size : Nat)), .own (.lst ((tws r ws).map .str)), .none, .none, .val (rD (rowS r x)), .val (.lst ((spans x).map pD)), .none, .none, .none, .none, .none, .none, .none, .none, .none, .none], gl⟩ = if rowS r x = [] then .ok (.rt (.str "")) ⟨[.val (ruD r), .val (.str x), .val (.tup (ws.map .str)), .val (.int (size : Nat)), .own (.lst ((tws r ws).map .str)), .none, .none, .val (rD (rowS r x)), .val (.lst ((spans x).map pD)), .none, .none, .none, .none, .none, .none, .none, .none, .none, .none], gl⟩ else .ok .nx ⟨[.val (ruD r), .val (.str x), .val (.tup (ws.map .str)), .val (.int (size : Nat)), .own (.lst ((tws r ws).map .str)), .none, .none, .val (rD (rowS r x)), .val (.lst ((spans x).map pD)), .none, .none, .none, .none, .none, .none, .none, .none, .none, .none], gl⟩ := by
  have e := eq_lf ((rowS r x).map oD)
  have e : ∀ s, opEq false s (.d (rD (rowS r x))) (.new (.lst [])) = .ok (.d (.bl ((rowS r x).map oD).isEmpty)) s := e
  by_cases h : rowS r x = []
  · rw [if_pos h]
    have em : ((rowS r x).map oD).isEmpty = true := by rw [h]; rfl
    rw [em] at e
    generalize (tws r ws).map D.str = TW at *
    generalize rD (rowS r x) = RL at *
    generalize (spans x).map pD = SS at *
    generalize ruD r = RR at *
    generalize ws.map D.str = WS at *
    simp [e]
  · rw [if_neg h]
    have em : ((rowS r x).map oD).isEmpty = false := by
      cases hh : rowS r x with
      | nil => exact absurd hh h
      | cons => rfl
    rw [em] at e
    generalize (tws r ws).map D.str = TW at *
    generalize rD (rowS r x) = RL at *
    generalize (spans x).map pD = SS at *
    generalize ruD r = RR at *
    generalize ws.map D.str = WS at *
    simp [e]
theorem v_d (r : Ru) (hr : RuOk r) (hn : r.en.length ≤ 1000) (x : Str) (hx : x.length ≤ 200) (ws : List Str) (hw : ws.length ≤ 100) (hl : ∀ v ∈ ws, v.length ≤ 1000) (size : Nat) (gl : List MObj) : (mParN [9, 10] (mRCons (mFn2 minI (mACons (mVar 3) (mACons (mFn1 fLen (mVar 7)) mANil))) (mRCons (mLst mANil) mRNil))) ⟨[.val (ruD r), .val (.str x), .val (.tup (ws.map .str)), .val (.int (size : Nat)), .own (.lst ((tws r ws).map .str)), .none, .none, .val (rD (rowS r x)), .val (.lst ((spans x).map pD)), .none, .none, .none, .none, .none, .none, .none, .none, .none, .none], gl⟩ = .ok .nx ⟨[.val (ruD r), .val (.str x), .val (.tup (ws.map .str)), .val (.int (size : Nat)), .own (.lst ((tws r ws).map .str)), .none, .none, .val (rD (rowS r x)), .val (.lst ((spans x).map pD)), .val (.int (wid size (0, (rowS r x).length) : Nat)), .own (.lst []), .none, .none, .none, .none, .none, .none, .none, .none], gl⟩ := by
  have ln := len_row (rowS r x)
  have mi : minI (size : Int) ((rowS r x).length : Nat) = (wid size (0, (rowS r x).length) : Nat) := by unfold minI wid; simp; split <;> omega
  generalize (tws r ws).map D.str = TW at *
  generalize rD (rowS r x) = RL at *
  generalize (((rowS r x).length : Nat) : Int) = nn at *
  generalize (spans x).map pD = SS at *
  generalize ruD r = RR at *
  generalize ws.map D.str = WS at *
  simp [ln, mi, as_d, as_new]
theorem v_e (r : Ru) (hr : RuOk r) (hn : r.en.length ≤ 1000) (x : Str) (hx : x.length ≤ 200) (ws : List Str) (hw : ws.length ≤ 100) (hl : ∀ v ∈ ws, v.length ≤ 1000) (size : Nat) (gl : List MObj) (h : rowS r x ≠ []) : ∃ d5 d11, (mFor (iRange1 (mACons (mBin opAdd (mBin opSub (mFn1 fLen (mVar 7)) (mVar 9)) (mC (.int 1))) mANil)) (tgName 5) l__law_snippet_5) ⟨[.val (ruD r), .val (.str x), .val (.tup (ws.map .str)), .val (.int (size : Nat)), .own (.lst ((tws r ws).map .str)), .none, .none, .val (rD (rowS r x)), .val (.lst ((spans x).map pD)), .val (.int (wid size (0, (rowS r x).length) : Nat)), .own (.lst []), .none, .none, .none, .none, .none, .none, .none, .none], gl⟩ = .ok .nx ⟨[.val (ruD r), .val (.str x), .val (.tup (ws.map .str)), .val (.int (size : Nat)), .own (.lst ((tws r ws).map .str)), d5, .none, .val (rD (rowS r x)), .val (.lst ((spans x).map pD)), .val (.int (wid size (0, (rowS r x).length) : Nat)), .own (.lst (((List.range ((rowS r x).length - wid size (0, (rowS r x).length) + 1)).map (wof (rowS r x) (tws r ws) (wid size (0, (rowS r x).length)))).map wD)), d11, .none, .none, .none, .none, .none, .none, .none], gl⟩ := by
  have ln := len_row (rowS r x)
  have rl := row_len r x
  have hw1 : wid size (0, (rowS r x).length) ≤ (rowS r x).length := by unfold wid; simp; omega
  obtain ⟨d5, d11, e⟩ := s5_loop (rowS r x) (by omega) (tws r ws) (wid size (0, (rowS r x).length)) (.val (ruD r)) (.val (.str x)) (.val (.tup (ws.map .str))) (.val (.int (size : Nat))) .none (.val (.lst ((spans x).map pD))) .none .none .none .none .none .none gl ((rowS r x).length - wid size (0, (rowS r x).length) + 1) 0 [] .none .none (by simp; omega) (by omega)
  rw [List.nil_append, ← List.range_eq_range'] at e
  have e : ∀ z, z = rangeD 0 ((rowS r x).length - wid size (0, (rowS r x).length) + 1) → forGo (tgName 5) l__law_snippet_5 z ⟨[.val (ruD r), .val (.str x), .val (.tup (ws.map .str)), .val (.int (size : Nat)), .own (.lst ((tws r ws).map .str)), .none, .none, .val (rD (rowS r x)), .val (.lst ((spans x).map pD)), .val (.int (wid size (0, (rowS r x).length) : Nat)), .own (.lst []), .none, .none, .none, .none, .none, .none, .none, .none], gl⟩ = .ok .nx ⟨[.val (ruD r), .val (.str x), .val (.tup (ws.map .str)), .val (.int (size : Nat)), .own (.lst ((tws r ws).map .str)), d5, .none, .val (rD (rowS r x)), .val (.lst ((spans x).map pD)), .val (.int (wid size (0, (rowS r x).length) : Nat)), .own (.lst (((List.range ((rowS r x).length - wid size (0, (rowS r x).length) + 1)).map (wof (rowS r x) (tws r ws) (wid size (0, (rowS r x).length)))).map wD)), d11, .none, .none, .none, .none, .none, .none, .none], gl⟩ := fun z hz => by rw [hz]; exact e
  refine ⟨d5, d11, ?_⟩
  have rg : rng1 (((rowS r x).length : Nat) - (wid size (0, (rowS r x).length) : Nat) + 1 : Int) = some (rangeD 0 ((rowS r x).length - wid size (0, (rowS r x).length) + 1)) := by
    rw [rng1_eq, if_pos (by constructor <;> omega)]
    congr 2
    omega
  have e := e _ rfl
  generalize rangeD 0 ((rowS r x).length - wid size (0, (rowS r x).length) + 1) = RG at *
  generalize ((List.range ((rowS r x).length - wid size (0, (rowS r x).length) + 1)).map (wof (rowS r x) (tws r ws) (wid size (0, (rowS r x).length)))).map wD = WW at *
  generalize ((wid size (0, (rowS r x).length) : Nat) : Int) = wi at *
  generalize (tws r ws).map D.str = TW at *
  generalize rD (rowS r x) = RL at *
  generalize (((rowS r x).length : Nat) : Int) = nn at *
  generalize (spans x).map pD = SS at *
  generalize ruD r = RR at *
  generalize ws.map D.str = WS at *
  simp [iRange1, ln, rg, e]
theorem v_f (r : Ru) (hr : RuOk r) (hn : r.en.length ≤ 1000) (x : Str) (hx : x.length ≤ 200) (ws : List Str) (hw : ws.length ≤ 100) (hl : ∀ v ∈ ws, v.length ≤ 1000) (size : Nat) (gl : List MObj) (h : rowS r x ≠ []) (d5 d11 : Slot) : ∃ f, BestAt (wof (rowS r x) (tws r ws) (wid size (0, (rowS r x).length))) 0 ((rowS r x).length - wid size (0, (rowS r x).length) + 1) f ∧ (mSet 5 (mLm1 fIxD (mVar 10) (mFn1 fMaxD (mVar 10)))) ⟨[.val (ruD r), .val (.str x), .val (.tup (ws.map .str)), .val (.int (size : Nat)), .own (.lst ((tws r ws).map .str)), d5, .none, .val (rD (rowS r x)), .val (.lst ((spans x).map pD)), .val (.int (wid size (0, (rowS r x).length) : Nat)), .own (.lst (((List.range ((rowS r x).length - wid size (0, (rowS r x).length) + 1)).map (wof (rowS r x) (tws r ws) (wid size (0, (rowS r x).length)))).map wD)), d11, .none, .none, .none, .none, .none, .none, .none], gl⟩ = .ok .nx ⟨[.val (ruD r), .val (.str x), .val (.tup (ws.map .str)), .val (.int (size : Nat)), .own (.lst ((tws r ws).map .str)), .val (.int (f : Nat)), .none, .val (rD (rowS r x)), .val (.lst ((spans x).map pD)), .val (.int (wid size (0, (rowS r x).length) : Nat)), .own (.lst (((List.range ((rowS r x).length - wid size (0, (rowS r x).length) + 1)).map (wof (rowS r x) (tws r ws) (wid size (0, (rowS r x).length)))).map wD)), d11, .none, .none, .none, .none, .none, .none, .none], gl⟩ := by
  obtain ⟨m, f, m1, m2, bb⟩ := first_max (wof (rowS r x) (tws r ws) (wid size (0, (rowS r x).length))) ((rowS r x).length - wid size (0, (rowS r x).length) + 1) (by omega) ⟨[.val (ruD r), .val (.str x), .val (.tup (ws.map .str)), .val (.int (size : Nat)), .own (.lst ((tws r ws).map .str)), d5, .none, .val (rD (rowS r x)), .val (.lst ((spans x).map pD)), .val (.int (wid size (0, (rowS r x).length) : Nat)), .own (.lst (((List.range ((rowS r x).length - wid size (0, (rowS r x).length) + 1)).map (wof (rowS r x) (tws r ws) (wid size (0, (rowS r x).length)))).map wD)), d11, .none, .none, .none, .none, .none, .none, .none], gl⟩ 10 rfl
  refine ⟨f, bb, ?_⟩
  generalize ((List.range ((rowS r x).length - wid size (0, (rowS r x).length) + 1)).map (wof (rowS r x) (tws r ws) (wid size (0, (rowS r x).length)))).map wD = WW at *
  generalize ((wid size (0, (rowS r x).length) : Nat) : Int) = wi at *
  generalize wD m = M at *
  generalize (tws r ws).map D.str = TW at *
  generalize rD (rowS r x) = RL at *
  generalize (spans x).map pD = SS at *
  generalize ruD r = RR at *
  generalize ws.map D.str = WS at *
  simp [m1, m2, as_d]
theorem v_g (r : Ru) (hr : RuOk r) (hn : r.en.length ≤ 1000) (x : Str) (hx : x.length ≤ 200) (ws : List Str) (hw : ws.length ≤ 100) (hl : ∀ v ∈ ws, v.length ≤ 1000) (size : Nat) (gl : List MObj) (f : Nat) (d11 : Slot) (c10 : MObj) : (mParN [12, 13] (mRCons (mC (.str "")) (mRCons (mBin opAdd (mVar 5) (mVar 9)) mRNil))) ⟨[.val (ruD r), .val (.str x), .val (.tup (ws.map .str)), .val (.int (size : Nat)), .own (.lst ((tws r ws).map .str)), .val (.int (f : Nat)), .none, .val (rD (rowS r x)), .val (.lst ((spans x).map pD)), .val (.int (wid size (0, (rowS r x).length) : Nat)), .own c10, d11, .none, .none, .none, .none, .none, .none, .none], gl⟩ = .ok .nx ⟨[.val (ruD r), .val (.str x), .val (.tup (ws.map .str)), .val (.int (size : Nat)), .own (.lst ((tws r ws).map .str)), .val (.int (f : Nat)), .none, .val (rD (rowS r x)), .val (.lst ((spans x).map pD)), .val (.int (wid size (0, (rowS r x).length) : Nat)), .own c10, d11, .val (.str ""), .val (.int (f + wid size (0, (rowS r x).length) : Nat)), .none, .none, .none, .none, .none], gl⟩ := by
  have ei : ((f + wid size (0, (rowS r x).length) : Nat) : Int) = (f : Int) + (wid size (0, (rowS r x).length) : Nat) := by omega
  rw [ei]
  generalize ((wid size (0, (rowS r x).length) : Nat) : Int) = wi at *
  generalize (tws r ws).map D.str = TW at *
  generalize rD (rowS r x) = RL at *
  generalize (spans x).map pD = SS at *
  generalize ruD r = RR at *
  generalize ws.map D.str = WS at *
  simp [as_d]
theorem v_h (r : Ru) (hr : RuOk r) (hn : r.en.length ≤ 1000) (x : Str) (hx : x.length ≤ 200) (ws : List Str) (hw : ws.length ≤ 100) (hl : ∀ v ∈ ws, v.length ≤ 1000) (size : Nat) (gl : List MObj) (f l : Nat) (h1 : f < l) (h2 : l ≤ (spans x).length) (c9 c10 c11 : Slot) : ∃ d6 d14 d15, (mFor (iRange2 (mACons (mBin opIx (mBin opIx (mVar 8) (mVar 5)) (mC (.int 0))) (mACons (mBin opIx (mBin opIx (mVar 8) (mBin opSub (mVar 13) (mC (.int 1)))) (mC (.int 1))) mANil))) (tgName 6) l__law_snippet_3) ⟨[.val (ruD r), .val (.str x), .val (.tup (ws.map .str)), .val (.int (size : Nat)), .own (.lst ((tws r ws).map .str)), .val (.int (f : Nat)), .none, .val (rD (rowS r x)), .val (.lst ((spans x).map pD)), c9, c10, c11, .val (.str ""), .val (.int (l : Nat)), .none, .none, .none, .none, .none], gl⟩ = .ok .nx ⟨[.val (ruD r), .val (.str x), .val (.tup (ws.map .str)), .val (.int (size : Nat)), .own (.lst ((tws r ws).map .str)), .val (.int (f : Nat)), d6, .val (rD (rowS r x)), .val (.lst ((spans x).map pD)), c9, c10, c11, .val (.str (tS (told (Bk r x (tws r ws) f l)))), .val (.int (l : Nat)), d14, d15, .none, .none, .none], gl⟩ := by
  obtain ⟨b1, b2, b3⟩ := s0_le (seg_ok x f l) (seg_ne h1 h2)
  rw [← str_len] at b2 b3
  obtain ⟨d6, d14, d15, e⟩ := s3_loop r x (by omega) (tws r ws) f l (by omega) h2 (.val (ruD r)) (.val (.tup (ws.map .str))) (.val (.int (size : Nat))) c9 c10 c11 .none .none gl (endS 0 (seg x f l) - s0 (seg x f l)) (s0 (seg x f l)) [] .none .none .none (by omega) (by simp; omega)
  rw [List.nil_append, show s0 (seg x f l) + (endS 0 (seg x f l) - s0 (seg x f l)) = endS 0 (seg x f l) by omega, told_places r x (tws r ws) f l h1 h2, ← e_mt] at e
  refine ⟨d6, d14, d15, ?_⟩
  have i1 := sp_get x f (by omega)
  have i2 := sp_get x (l - 1) (by omega)
  have el : ((l - 1 : Nat) : Int) = (l : Int) - 1 := by omega
  rw [el] at i2
  have j1 : ∀ s, opIx s (.d (pD ((spans x).getD f (0, 0)))) (.d (.int 0)) = .ok (.d (.int (s0 (seg x f l)))) s := fun s => by rw [seg_s0 x f l h1 h2]; exact ixH _ _ s
  have j2 : ∀ s, opIx s (.d (pD ((spans x).getD (l - 1) (0, 0)))) (.d (.int 1)) = .ok (.d (.int (endS 0 (seg x f l)))) s := fun s => by rw [seg_end x f l h1 h2]; exact ixH1 _ _ _ s
  have rg : rng2 (s0 (seg x f l) : Int) (endS 0 (seg x f l) : Int) = some (rangeD (s0 (seg x f l) : Nat) (endS 0 (seg x f l) - s0 (seg x f l))) := by
    rw [rng2_eq, if_pos (by refine ⟨?_, ?_, ?_, ?_⟩ <;> omega)]
    congr 2
    omega
  generalize rangeD (s0 (seg x f l) : Nat) (endS 0 (seg x f l) - s0 (seg x f l)) = RG at *
  generalize ((s0 (seg x f l) : Nat) : Int) = sx at *
  generalize ((endS 0 (seg x f l) : Nat) : Int) = ex at *
  generalize tS (told (Bk r x (tws r ws) f l)) = TD at *
  generalize pD ((spans x).getD f (0, 0)) = P1 at *
  generalize pD ((spans x).getD (l - 1) (0, 0)) = P2 at *
  generalize (tws r ws).map D.str = TW at *
  generalize rD (rowS r x) = RL at *
  generalize (spans x).map pD = SS at *
  generalize ruD r = RR at *
  generalize ws.map D.str = WS at *
  simp [iRange2, i1, i2, j1, j2, rg, e]
theorem v_r (r : Ru) (hr : RuOk r) (hn : r.en.length ≤ 1000) (x : Str) (hx : x.length ≤ 200) (ws : List Str) (hw : ws.length ≤ 100) (hl : ∀ v ∈ ws, v.length ≤ 1000) (size : Nat) (gl : List MObj) (f l : Nat) (h1 : f < l) (h2 : l ≤ (spans x).length) (c9 c10 c11 d6 d14 d15 : Slot) : (mRet (mBin opAdd (mBin opAdd (mIf (mBl (mBin opGt (mVar 5) (mC (.int 0)))) (mC (.str ".. ")) (mC (.str ""))) (mVar 12)) (mIf (mBl (mBin opLt (mVar 13) (mFn1 fLen (mVar 7)))) (mC (.str " ..")) (mC (.str ""))))) ⟨[.val (ruD r), .val (.str x), .val (.tup (ws.map .str)), .val (.int (size : Nat)), .own (.lst ((tws r ws).map .str)), .val (.int (f : Nat)), d6, .val (rD (rowS r x)), .val (.lst ((spans x).map pD)), c9, c10, c11, .val (.str (tS (told (Bk r x (tws r ws) f l)))), .val (.int (l : Nat)), d14, d15, .none, .none, .none], gl⟩ = .ok (.rt (.str (tS (AH (decide (0 < f)) ++ (told (Bk r x (tws r ws) f l) ++ BH (decide (l < (spans x).length))))))) ⟨[.val (ruD r), .val (.str x), .val (.tup (ws.map .str)), .val (.int (size : Nat)), .own (.lst ((tws r ws).map .str)), .val (.int (f : Nat)), d6, .val (rD (rowS r x)), .val (.lst ((spans x).map pD)), c9, c10, c11, .val (.str (tS (told (Bk r x (tws r ws) f l)))), .val (.int (l : Nat)), d14, d15, .none, .none, .none], gl⟩ := by
  have tl := told_len r x hx (tws r ws) f l h1 h2
  obtain ⟨p1, p2⟩ := glue (decide (0 < f)) (decide (l < (spans x).length)) (told (Bk r x (tws r ws) f l)) (by omega)
  have ln := len_row (rowS r x)
  rw [row_len' r x] at ln
  have g1 : ∀ s, opGt s (.d (.int (f : Nat))) (.d (.int 0)) = .ok (.d (.bl (decide (0 < f)))) s := fun s => by rw [q_gt]; congr 3; simp
  have g2 : ∀ s, opLt s (.d (.int (l : Nat))) (.d (.int (spans x).length)) = .ok (.d (.bl (decide (l < (spans x).length)))) s := fun s => by rw [q_lt]; congr 3; rw [decide_eq_decide]; omega
  generalize tS (AH (decide (0 < f)) ++ (told (Bk r x (tws r ws) f l) ++ BH (decide (l < (spans x).length)))) = ZZ at *
  generalize tS (AH (decide (0 < f)) ++ told (Bk r x (tws r ws) f l)) = YY at *
  generalize tS (told (Bk r x (tws r ws) f l)) = TD at *
  generalize decide (0 < f) = A at *
  generalize decide (l < (spans x).length) = B at *
  generalize (((spans x).length : Nat) : Int) = nn at *
  generalize (tws r ws).map D.str = TW at *
  generalize rD (rowS r x) = RL at *
  generalize (spans x).map pD = SS at *
  generalize ruD r = RR at *
  generalize ws.map D.str = WS at *
  cases A <;> cases B <;> simp only [if_true, Bool.false_eq_true, if_false] at p1 p2 <;> simp [-q_gt, -q_lt, g1, g2, ln, p1, p2]
theorem law_snip (r : Ru) (hr : RuOk r) (hn : r.en.length ≤ 1000) (x : Str) (hx : x.length ≤ 200) (ws : List Str) (hw : ws.length ≤ 100) (hl : ∀ v ∈ ws, v.length ≤ 1000) (size : Nat) (hz : 0 < size) (gl : List MObj) :
    (rowS r x = [] → f__law_snippet [ruD r, .str x, .tup (ws.map .str), .int size] gl = .ok (.str "") gl) ∧
    (rowS r x ≠ [] → ∃ f, f__law_snippet [ruD r, .str x, .tup (ws.map .str), .int size] gl = .ok (.str (tS (snipL r x (tws r ws) f (wid size (0, (rowS r x).length))))) gl ∧ BestAt (wof (rowS r x) (tws r ws) (wid size (0, (rowS r x).length))) 0 ((rowS r x).length - wid size (0, (rowS r x).length) + 1) f) := by
  have a := v_a r hr hn x hx ws hw hl size gl
  have b := v_b r hr hn x hx ws hw hl size gl
  have c := v_c r hr hn x hx ws hw hl size gl
  constructor
  · intro h
    rw [if_pos h] at c
    have e : b__law_snippet ⟨[.val (ruD r), .val (.str x), .val (.tup (ws.map .str)), .val (.int (size : Nat)), .none, .none, .none, .none, .none, .none, .none, .none, .none, .none, .none, .none, .none, .none, .none], gl⟩ = .ok (.rt (.str "")) ⟨[.val (ruD r), .val (.str x), .val (.tup (ws.map .str)), .val (.int (size : Nat)), .own (.lst ((tws r ws).map .str)), .none, .none, .val (rD (rowS r x)), .val (.lst ((spans x).map pD)), .none, .none, .none, .none, .none, .none, .none, .none, .none, .none], gl⟩ := by
      unfold b__law_snippet
      refine (seq_nx a).trans ((seq_nx b).trans ?_)
      rw [ap_Seq, c]
    generalize (tws r ws).map D.str = TW at *
    generalize rD (rowS r x) = RL at *
    generalize (spans x).map pD = SS at *
    generalize ruD r = RR at *
    generalize ws.map D.str = WS at *
    simp [f__law_snippet, mDef, List.replicate, e]
  · intro h
    rw [if_neg h] at c
    have rl := row_len' r x
    have hR0 : 0 < (rowS r x).length := List.length_pos_iff.mpr h
    have hw0 : 0 < wid size (0, (rowS r x).length) := by unfold wid; simp; omega
    have hw1 : wid size (0, (rowS r x).length) ≤ (rowS r x).length := by unfold wid; simp; omega
    have d := v_d r hr hn x hx ws hw hl size gl
    obtain ⟨d5, d11, e⟩ := v_e r hr hn x hx ws hw hl size gl h
    obtain ⟨f, bb, ff⟩ := v_f r hr hn x hx ws hw hl size gl h d5 d11
    have hf := bb.high
    have g := v_g r hr hn x hx ws hw hl size gl f d11 (.lst (((List.range ((rowS r x).length - wid size (0, (rowS r x).length) + 1)).map (wof (rowS r x) (tws r ws) (wid size (0, (rowS r x).length)))).map wD))
    obtain ⟨d6, d14, d15, hh⟩ := v_h r hr hn x hx ws hw hl size gl f (f + wid size (0, (rowS r x).length)) (by omega) (by omega) (.val (.int (wid size (0, (rowS r x).length) : Nat))) (.own (.lst (((List.range ((rowS r x).length - wid size (0, (rowS r x).length) + 1)).map (wof (rowS r x) (tws r ws) (wid size (0, (rowS r x).length)))).map wD))) d11
    have rr := v_r r hr hn x hx ws hw hl size gl f (f + wid size (0, (rowS r x).length)) (by omega) (by omega) (.val (.int (wid size (0, (rowS r x).length) : Nat))) (.own (.lst (((List.range ((rowS r x).length - wid size (0, (rowS r x).length) + 1)).map (wof (rowS r x) (tws r ws) (wid size (0, (rowS r x).length)))).map wD))) d11 d6 d14 d15
    refine ⟨f, ?_, bb⟩
    have z : ∃ s', b__law_snippet ⟨[.val (ruD r), .val (.str x), .val (.tup (ws.map .str)), .val (.int (size : Nat)), .none, .none, .none, .none, .none, .none, .none, .none, .none, .none, .none, .none, .none, .none, .none], gl⟩ = .ok (.rt (.str (tS (snipL r x (tws r ws) f (wid size (0, (rowS r x).length)))))) s' ∧ s'.gl = gl := by
      have q := (seq_nx a).trans ((seq_nx b).trans ((seq_nx c).trans ((seq_nx d).trans ((seq_nx e).trans ((seq_nx ff).trans ((seq_nx g).trans ((seq_nx hh).trans rr)))))))
      exact ⟨_, q, rfl⟩
    obtain ⟨s', z1, z2⟩ := z
    generalize tS (snipL r x (tws r ws) f (wid size (0, (rowS r x).length))) = Z at *
    generalize ruD r = RR at *
    generalize ws.map D.str = WS at *
    simp [f__law_snippet, mDef, List.replicate, z1, z2]
end K82
/-! # k82: pieces of a turn -/
namespace K82
open PySem PySem.Spec PyProof.Rows L2 MI
theorem due_one {W : Nat → Nat × Nat} {k f g : Nat} (h : BestAt W 0 k f) (h2 : BestAt W 0 k g) : f = g := by
  have a := h.most g h2.low h2.high
  have b := h2.most f h.low h.high
  have e := lex_tri a b
  have := h.first g h2.low h2.high e.symm
  have := h2.first f h.low h.high e
  omega
theorem pll_of (n : Nat) : ∀ {l : List D}, (∀ x ∈ l, Pl n x) → PlL n l
  | [], _ => .nil _
  | x :: l, h => .cons _ _ _ (h x List.mem_cons_self) (pll_of n fun y m => h y (List.mem_cons_of_mem _ m))
theorem pl_parts (ps : List (Bool × List Nat)) (h : ps.length ≤ 10000) : Pl 4 (.tup (ps.map partD)) := by
  refine .tup _ _ (by rw [List.length_map]; omega) (pll_of 3 fun x m => ?_)
  obtain ⟨p, _, rfl⟩ := List.mem_map.mp m
  exact .tup _ _ (by simp) (.cons _ _ _ (.bl _ _) (.cons _ _ _ (.str _ _) (.nil _)))
theorem pl_texts (n : Nat) (T : List Str) (h : T.length ≤ 10000) : Pl (n + 2) (.tup (T.map .str)) := by
  refine .tup _ _ (by rw [List.length_map]; omega) (pll_of (n + 1) fun x m => ?_)
  obtain ⟨p, _, rfl⟩ := List.mem_map.mp m
  exact .str _ _
theorem two_ixd (r : Int) (h0 : 0 ≤ r) (h1 : r < 2) : ∃ m : Int, 0 < m ∧ m ≤ 15 ∧ ∀ s, opIx s (.d (.lst [.int 4, .int 15])) (.d (.int r)) = .ok (.d (.int m)) s := by
  have : r = 0 ∨ r = 1 := by omega
  rcases this with rfl | rfl
  · exact ⟨4, by omega, by omega, fun s => q_ixL rfl rfl⟩
  · exact ⟨15, by omega, by omega, fun s => q_ixL rfl rfl⟩
theorem pg_len (r : Ru) (x : Str) (hx : x.length ≤ 200) (T : List Str) (a b : Nat) : (PG (Bk r x T a b)).length ≤ 1000 := by
  have : ∀ (R : List (Nat × Nat)) (pl e : Nat), (blk x.cps.toList (WW r x T) pl e R).2.length ≤ R.length := by
    intro R
    induction R with
    | nil => intro pl e; simp [blk]
    | cons p R ih =>
      intro pl e
      unfold blk
      split
      · have := ih p.2 e; simp; omega
      · have := ih pl e; simp; omega
  have h1 := this (seg x a b) (s0 (seg x a b)) (endS 0 (seg x a b))
  have h2 := seg_len x a b
  have h3 : ∀ bs : List (List Nat × List Nat), (bs.flatMap fun z => [(true, z.1), (false, z.2)]).length = 2 * bs.length := by
    intro bs
    induction bs with
    | nil => rfl
    | cons z bs ih => rw [List.flatMap_cons, List.length_append, ih]; simp; omega
  unfold PG
  refine Nat.le_trans (List.length_filter_le _ _) ?_
  unfold flatP
  rw [List.length_cons, h3]
  unfold Bk
  omega
theorem bk_free (r : Ru) (x : Str) (hc : Cl x = true) (T : List Str) (a b : Nat) (h1 : a < b) (h2 : b ≤ (spans x).length) : Fr (Bk r x T a b) := by
  intro c hm
  have ok := seg_ok x a b
  obtain ⟨b1, b2, b3⟩ := s0_le ok (seg_ne h1 h2)
  have bc := blk_cat (W := WW r x T) (seg x a b) (s0 (seg x a b)) (s0 (seg x a b)) (endS 0 (seg x a b)) ok (first_le ok) b3 (Nat.le_refl _) (endS_any (seg_ne h1 h2) _ _)
  have hm : c ∈ sub x.cps.toList (s0 (seg x a b)) (endS 0 (seg x a b)) := by rw [← bc]; exact hm
  have hm : c ∈ x.cps.toList := List.mem_of_mem_drop (List.mem_of_mem_take hm)
  unfold Cl at hc
  rw [List.all_eq_true] at hc
  have := hc c hm
  simp only [Bool.and_eq_true, decide_eq_true_eq] at this
  exact this
theorem pg_cat (r : Ru) (x : Str) (T : List Str) (a b : Nat) (h1 : a < b) (h2 : b ≤ (spans x).length) : ((PG (Bk r x T a b)).map (·.2)).flatten = sub x.cps.toList (s0 (seg x a b)) (endS 0 (seg x a b)) := by
  have ok := seg_ok x a b
  obtain ⟨b1, b2, b3⟩ := s0_le ok (seg_ne h1 h2)
  have bc := blk_cat (W := WW r x T) (seg x a b) (s0 (seg x a b)) (s0 (seg x a b)) (endS 0 (seg x a b)) ok (first_le ok) b3 (Nat.le_refl _) (endS_any (seg_ne h1 h2) _ _)
  rw [← List.flatMap_def]
  unfold PG
  rw [cat_filter]
  exact bc
theorem s_a (gl : List MObj) (c0 c2 c3 c5 c6 c7 c8 c9 c11 c12 c13 c14 c15 c16 c17 : Slot) {r : Ru} {x : Str} {g1 g2 : List MObj} (e1 : f__law_rules [.ref 1] gl = .ok (ruD r) g1) (e2 : f__law_text [.ref 1, .int 14] g1 = .ok (.str x) g2) (c4 c10 : Slot) :
    (mParN [10, 4] (mRCons (mCall f__law_rules (mACons (mVar 1) mANil)) (mRCons (mCall f__law_text (mACons (mVar 1) (mACons (mC (.int 14)) mANil))) mRNil))) ⟨[c0, .val (.ref 1), c2, c3, c4, c5, c6, c7, c8, c9, c10, c11, c12, c13, c14, c15, c16, c17, .none, .none, .none], gl⟩ = .ok .nx ⟨[c0, .val (.ref 1), c2, c3, .val (.str x), c5, c6, c7, c8, c9, .val (ruD r), c11, c12, c13, c14, c15, c16, c17, .none, .none, .none], g2⟩ := by
  generalize ruD r = RR at *
  simp [as_d, e1, e2]
theorem s_b (gl : List MObj) (r : Ru) (hr : RuOk r) (hn : r.en.length ≤ 1000) (x : Str) (hx : x.length ≤ 200) (c0 c2 c3 c5 c6 c7 c8 c9 c11 c12 c13 c14 c15 c16 c17 : Slot) :
    (mSet 5 (mCall f__law_terms (mACons (mVar 10) (mACons (mVar 4) mANil)))) ⟨[c0, .val (.ref 1), c2, c3, .val (.str x), c5, c6, c7, c8, c9, .val (ruD r), c11, c12, c13, c14, c15, c16, c17, .none, .none, .none], gl⟩ = .ok .nx ⟨[c0, .val (.ref 1), c2, c3, .val (.str x), .val (rD (rowS r x)), c6, c7, c8, c9, .val (ruD r), c11, c12, c13, c14, c15, c16, c17, .none, .none, .none], gl⟩ := by
  have e := law_terms r hr hn x (by omega) gl
  have e : f__law_terms [ruD r, .str x] gl = .ok (rD (rowS r x)) gl := e
  generalize rD (rowS r x) = RL at *
  generalize ruD r = RR at *
  simp [as_d, e]
theorem s_c (gl : List MObj) (hB : Bx gl) (RU0 TX0 RR : D) (c0 c2 c3 c6 c7 c8 c9 c11 c12 c13 c14 c15 c16 c17 : Slot) : ∃ (ws : List Str) (g1 : List MObj), (mSet 6 (mFn1 fTuple (mFn1 fSortedSet (mComp [18] (iRange1 (mACons (mCall f__law_draw (mACons (mVar 1) (mACons (mC (.int 5)) mANil))) mANil)) (tgName 18) mYes e_law_5)))) ⟨[c0, .val (.ref 1), c2, c3, .val TX0, .val RR, c6, c7, c8, c9, .val RU0, c11, c12, c13, c14, c15, c16, c17, .none, .none, .none], gl⟩ = .ok .nx ⟨[c0, .val (.ref 1), c2, c3, .val TX0, .val RR, .val (.tup (ws.map .str)), c7, c8, c9, .val RU0, c11, c12, c13, c14, c15, c16, c17, .none, .none, .none], g1⟩ ∧ Bx g1 ∧ ws.length ≤ 4 ∧ ∀ v ∈ ws, v.length ≤ 6 := by
  obtain ⟨n, g0, d1, n1, n2, B0⟩ := draw_spec gl 5 hB (by omega) (by omega)
  obtain ⟨k, rfl⟩ := Int.eq_ofNat_of_zero_le n1
  have rg : rng1 ((k : Nat) : Int) = some (rangeD 0 k) := rg1n k (by omega)
  obtain ⟨ys, g1, e, B1, al⟩ := comp_inv (P := Bx) (R := fun _ y => ∃ v : Str, y = .str v ∧ v.length ≤ 6) (e := e_law_5) (v := 18) (env := [c0, .val (.ref 1), c2, c3, .val TX0, .val RR, c6, c7, c8, c9, .val RU0, c11, c12, c13, c14, c15, c16, c17, .none, .none, .none]) (gl := g0) (it := iRange1 (mACons (mCall f__law_draw (mACons (mVar 1) (mACons (mC (.int 5)) mANil))) mANil)) (s0 := ⟨[c0, .val (.ref 1), c2, c3, .val TX0, .val RR, c6, c7, c8, c9, .val RU0, c11, c12, c13, c14, c15, c16, c17, .none, .none, .none], gl⟩) (ds := rangeD 0 k)
    (by simp [iRange1, d1, rg]) (by simp) rfl B0 (szN _ (by rw [rangeD_len]; omega)) fun d m gl hB => by
    obtain ⟨v, g1, d1, B1, lv, _⟩ := word_spec gl hB
    exact ⟨.str v, g1, by simp [e_law_5, d1], B1, v, rfl, lv⟩
  have : ∃ us : List Str, ys = us.map .str ∧ us.length = k ∧ ∀ v ∈ us, v.length ≤ 6 := by
    clear e
    have hl : (rangeD 0 k).length = k := rangeD_len _ _
    rw [← hl]
    generalize rangeD 0 k = ds at al
    clear hl rg d1 n1 n2
    induction al with
    | nil => exact ⟨[], rfl, rfl, fun p m => nomatch m⟩
    | cons h _ ih =>
      obtain ⟨v, rfl, hv⟩ := h
      obtain ⟨us, rfl, hl, hu⟩ := ih
      exact ⟨v :: us, rfl, by simp [hl], fun q m => by
        rcases List.mem_cons.mp m with rfl | m
        · exact hv
        · exact hu q m⟩
  obtain ⟨us, rfl, ul, uv⟩ := this
  have ss := fun s => ss_new (ks := us) (by omega) (s := s)
  have um := uni_len us
  refine ⟨sortS (uni us), g1, ?_, B1, by rw [(sortS_perm _).length_eq]; omega, fun v m => uv v (uni_mem.mp ((sortS_perm _).mem_iff.mp m))⟩
  generalize (sortS (uni us)).map D.str = M at *
  generalize us.map D.str = U at *
  simp [-ap_Comp, e, ss, ft_tup, as_d]
theorem s_d (gl : List MObj) (r : Ru) (hr : RuOk r) (hn : r.en.length ≤ 1000) (ws : List Str) (hw : ws.length ≤ 4) (hl : ∀ v ∈ ws, v.length ≤ 6) (TX0 RR : D) (c0 c2 c3 c7 c8 c9 c11 c12 c13 c14 c15 c16 c17 : Slot) :
    (mSet 7 (mFn1 fTuple (mFn1 fSortedSet (mComp [19] (iSeq (mVar 6)) (tgName 19) c_law_3 e_law_4)))) ⟨[c0, .val (.ref 1), c2, c3, .val TX0, .val RR, .val (.tup (ws.map .str)), c7, c8, c9, .val (ruD r), c11, c12, c13, c14, c15, c16, c17, .none, .none, .none], gl⟩ = .ok .nx ⟨[c0, .val (.ref 1), c2, c3, .val TX0, .val RR, .val (.tup (ws.map .str)), .val (.tup ((TT r ws).map .str)), c8, c9, .val (ruD r), c11, c12, c13, c14, c15, c16, c17, .none, .none, .none], gl⟩ := by
  have c : mComp [19] (iSeq (mVar 6)) (tgName 19) c_law_3 e_law_4 ⟨[c0, .val (.ref 1), c2, c3, .val TX0, .val RR, .val (.tup (ws.map .str)), c7, c8, c9, .val (ruD r), c11, c12, c13, c14, c15, c16, c17, .none, .none, .none], gl⟩ = .ok (.new (.lst ((tws r ws).map .str))) ⟨[c0, .val (.ref 1), c2, c3, .val TX0, .val RR, .val (.tup (ws.map .str)), c7, c8, c9, .val (ruD r), c11, c12, c13, c14, c15, c16, c17, .none, .none, .none], gl⟩ := by
    unfold tws
    rw [List.map_map]
    refine comp_flt ws D.str _ (fun v => (termO r v).isSome) ?_ (by simp) rfl (by omega) fun v m => ⟨?_, fun h => ?_⟩
    · generalize ruD r = RU0 at *
      generalize ws.map D.str = WS at *
      simp [iSeq]
    · have lt := law_term r hr hn v (by have := hl v m; omega) gl
      have i := isn_o (termO r v)
      generalize oD (termO r v) = O at *
      generalize (termO r v).isSome = so at *
      generalize ruD r = RU0 at *
      generalize ws.map D.str = WS at *
      simp [c_law_3, lt, i]
    · have lt := law_term r hr hn v (by have := hl v m; omega) gl
      have e : oD (termO r v) = .str (txO (termO r v)) := by
        cases ho : termO r v with
        | none => rw [ho] at h; cases h
        | some t => rfl
      rw [e] at lt
      show _ = Res.ok (D.str (txO (termO r v))) _
      generalize txO (termO r v) = tx at *
      generalize ruD r = RU0 at *
      generalize ws.map D.str = WS at *
      simp [e_law_4, lt]
  have tl := tws_len r ws
  have ss := fun s => ss_new (ks := tws r ws) (by omega) (s := s)
  have ss : ∀ s, fSortedSet s (.new (.lst ((tws r ws).map .str))) = .ok (.new (.lst ((TT r ws).map .str))) s := ss
  generalize (TT r ws).map D.str = M1 at *
  generalize (tws r ws).map D.str = M2 at *
  generalize ruD r = RU0 at *
  generalize ws.map D.str = WS at *
  simp [-ap_Comp, c, ss, ft_tup, as_d]
theorem s_e (gl : List MObj) (hB : Bx gl) (RU0 TX0 RR WS TT0 : D) (c0 c2 c3 c8 c9 c11 c12 c13 c14 c15 c16 c17 : Slot) : ∃ (size : Nat) (g1 : List MObj), (mSet 8 (mBin opAdd (mC (.int 1)) (mCall f__law_draw (mACons (mVar 1) (mACons (mBin opIx (mLst (mACons (mC (.int 4)) (mACons (mC (.int 15)) mANil))) (mCall f__law_draw (mACons (mVar 1) (mACons (mC (.int 2)) mANil)))) mANil))))) ⟨[c0, .val (.ref 1), c2, c3, .val TX0, .val RR, .val WS, .val TT0, c8, c9, .val RU0, c11, c12, c13, c14, c15, c16, c17, .none, .none, .none], gl⟩ = .ok .nx ⟨[c0, .val (.ref 1), c2, c3, .val TX0, .val RR, .val WS, .val TT0, .val (.int (size : Nat)), c9, .val RU0, c11, c12, c13, c14, c15, c16, c17, .none, .none, .none], g1⟩ ∧ Bx g1 ∧ 0 < size ∧ size ≤ 16 := by
  obtain ⟨r, g1, d1, r1, r2, B1⟩ := draw_spec gl 2 hB (by omega) (by omega)
  obtain ⟨m, m0, m1, ix⟩ := two_ixd r r1 r2
  obtain ⟨k, g2, d2, k1, k2, B2⟩ := draw_spec g1 m B1 m0 (by omega)
  obtain ⟨k, rfl⟩ := Int.eq_ofNat_of_zero_le k1
  refine ⟨1 + k, g2, ?_, B2, by omega, by omega⟩
  have ei : ((1 + k : Nat) : Int) = 1 + (k : Int) := by omega
  simp [d1, d2, ix, as_d, ei]
theorem s_f (gl : List MObj) (RU0 TX0 RR WS TT0 SZ due : D) (c0 c2 c3 c9 c11 c12 c13 c14 c15 c16 c17 : Slot) (e : f__law_snippet [RU0, TX0, WS, SZ] gl = .ok due gl) : (mSet 9 (mCall f__law_snippet (mACons (mVar 10) (mACons (mVar 4) (mACons (mVar 6) (mACons (mVar 8) mANil)))))) ⟨[c0, .val (.ref 1), c2, c3, .val TX0, .val RR, .val WS, .val TT0, .val SZ, c9, .val RU0, c11, c12, c13, c14, c15, c16, c17, .none, .none, .none], gl⟩ = .ok .nx ⟨[c0, .val (.ref 1), c2, c3, .val TX0, .val RR, .val WS, .val TT0, .val SZ, .val due, .val RU0, c11, c12, c13, c14, c15, c16, c17, .none, .none, .none], gl⟩ := by
  simp [e, as_d]
theorem s_g (gl : List MObj) (RU0 TX0 RR WS TT0 SZ due : D) (c0 c2 c3 c11 c12 c13 c14 c15 c16 c17 : Slot) (e : f_snippet [RU0, TX0, WS, SZ] gl = .ok due gl) (e2 : f_wish_terms [RU0, WS] gl = .ok TT0 gl) (pl : Pl 6 (.tup [due, TT0])) : (mIfS (mNotT (mTru (mCall (f__law_same 6) (mACons (mTup (mACons (mCall f_snippet (mACons (mVar 10) (mACons (mVar 4) (mACons (mVar 6) (mACons (mVar 8) mANil))))) (mACons (mCall f_wish_terms (mACons (mVar 10) (mACons (mVar 6) mANil))) mANil))) (mACons (mTup (mACons (mVar 9) (mACons (mVar 7) mANil))) mANil))))) (mRet (mC (.bl false))) mNx) ⟨[c0, .val (.ref 1), c2, c3, .val TX0, .val RR, .val WS, .val TT0, .val SZ, .val due, .val RU0, c11, c12, c13, c14, c15, c16, c17, .none, .none, .none], gl⟩ = .ok .nx ⟨[c0, .val (.ref 1), c2, c3, .val TX0, .val RR, .val WS, .val TT0, .val SZ, .val due, .val RU0, c11, c12, c13, c14, c15, c16, c17, .none, .none, .none], gl⟩ := by
  have sr := same_refl gl 6 _ pl
  simp [e, e2, sr, truthD, asD]
theorem s_h1 (gl : List MObj) (RU0 TX0 RR WS TT0 SZ due win : D) (c0 c2 c3 c11 c12 c13 c14 c15 c16 c17 : Slot) (e : f_best_window [RU0, TX0, TT0, SZ] gl = .ok win gl) : (mSet 11 (mCall f_best_window (mACons (mVar 10) (mACons (mVar 4) (mACons (mVar 7) (mACons (mVar 8) mANil)))))) ⟨[c0, .val (.ref 1), c2, c3, .val TX0, .val RR, .val WS, .val TT0, .val SZ, .val due, .val RU0, c11, c12, c13, c14, c15, c16, c17, .none, .none, .none], gl⟩ = .ok .nx ⟨[c0, .val (.ref 1), c2, c3, .val TX0, .val RR, .val WS, .val TT0, .val SZ, .val due, .val RU0, .val win, c12, c13, c14, c15, c16, c17, .none, .none, .none], gl⟩ := by
  simp [e, as_d]
theorem s_h2 (gl : List MObj) (hB : Bx gl) (RU0 TX0 WS TT0 SZ due win : D) (R : Row) (hR : R ≠ []) (hl : R.length ≤ 1000) (c0 c2 c3 c12 c13 c14 c15 c16 c17 : Slot) : ∃ (k : Nat) (g1 : List MObj), (mSet 12 (mCall f__law_draw (mACons (mVar 1) (mACons (mFn1 fLen (mVar 5)) mANil)))) ⟨[c0, .val (.ref 1), c2, c3, .val TX0, .val (rD R), .val WS, .val TT0, .val SZ, .val due, .val RU0, .val win, c12, c13, c14, c15, c16, c17, .none, .none, .none], gl⟩ = .ok .nx ⟨[c0, .val (.ref 1), c2, c3, .val TX0, .val (rD R), .val WS, .val TT0, .val SZ, .val due, .val RU0, .val win, .val (.int (k : Nat)), c13, c14, c15, c16, c17, .none, .none, .none], g1⟩ ∧ Bx g1 ∧ k < R.length := by
  have ln := len_row R
  have h0 : 0 < R.length := List.length_pos_iff.mpr hR
  obtain ⟨r, g1, d1, r1, r2, B1⟩ := draw_spec gl (R.length : Nat) hB (by omega) (by omega)
  obtain ⟨k, rfl⟩ := Int.eq_ofNat_of_zero_le r1
  refine ⟨k, g1, ?_, B1, by omega⟩
  generalize rD R = RR at *
  generalize ((R.length : Nat) : Int) = n at *
  simp [ln, d1, as_d]
theorem s_h3 (gl : List MObj) (hB : Bx gl) (RU0 TX0 WS TT0 SZ due win : D) (R : Row) (hl : R.length ≤ 1000) (k : Nat) (hk : k < R.length) (c0 c2 c3 c13 c14 c15 c16 c17 : Slot) : ∃ (l : Nat) (g1 : List MObj), (mSet 13 (mTup (mACons (mVar 12) (mACons (mBin opAdd (mBin opAdd (mVar 12) (mC (.int 1))) (mCall f__law_draw (mACons (mVar 1) (mACons (mBin opSub (mFn1 fLen (mVar 5)) (mVar 12)) mANil)))) mANil)))) ⟨[c0, .val (.ref 1), c2, c3, .val TX0, .val (rD R), .val WS, .val TT0, .val SZ, .val due, .val RU0, .val win, .val (.int (k : Nat)), c13, c14, c15, c16, c17, .none, .none, .none], gl⟩ = .ok .nx ⟨[c0, .val (.ref 1), c2, c3, .val TX0, .val (rD R), .val WS, .val TT0, .val SZ, .val due, .val RU0, .val win, .val (.int (k : Nat)), .val (pD (k, l)), c14, c15, c16, c17, .none, .none, .none], g1⟩ ∧ Bx g1 ∧ k < l ∧ l ≤ R.length := by
  have ln := len_row R
  obtain ⟨r, g1, d1, r1, r2, B1⟩ := draw_spec gl ((R.length : Nat) - (k : Nat)) hB (by omega) (by omega)
  obtain ⟨q, rfl⟩ := Int.eq_ofNat_of_zero_le r1
  refine ⟨k + 1 + q, g1, ?_, B1, by omega, by omega⟩
  have ep : pD (k, k + 1 + q) = .tup [.int (k : Nat), .int ((k : Int) + 1 + (q : Nat))] := by
    show D.tup [.int (k : Nat), .int ((k + 1 + q : Nat) : Int)] = _
    rw [show ((k + 1 + q : Nat) : Int) = (k : Int) + 1 + (q : Nat) by omega]
  rw [ep]
  generalize rD R = RR at *
  generalize ((R.length : Nat) : Int) = n at *
  simp [ln, d1, as_d]
theorem s_one (r : Ru) (hr : RuOk r) (hn : r.en.length ≤ 1000) (x : Str) (hx : x.length ≤ 200) (T : List Str) (a b : Nat) (h1 : a < b) (h2 : b ≤ (spans x).length) (gl : List MObj) (c0 c2 c3 c5 c6 c8 c9 c11 c12 c13 c15 : Slot) (c16 c17 : Slot) :
    l_law_2 ⟨[c0, .val (.ref 1), c2, c3, .val (.str x), c5, c6, .val (.tup (T.map .str)), c8, c9, .val (ruD r), c11, c12, c13, .val (pD (a, b)), c15, c16, c17, .none, .none, .none], gl⟩ = .ok .nx ⟨[c0, .val (.ref 1), c2, c3, .val (.str x), c5, c6, .val (.tup (T.map .str)), c8, c9, .val (ruD r), c11, c12, c13, .val (pD (a, b)), c15, .val (.tup ((PG (Bk r x T a b)).map partD)), .val (.lst ((spans x).map pD)), .none, .none, .none], gl⟩ := by
  have lp := law_parts_spec r hr hn x (by omega) (.tup : Tm T _) a b h1 h2 gl
  have sp := snip_spec r hr x (by omega) (.tup : Tm T _) a b h1 h2 gl
  have pc := pieces_spec x (by omega) gl
  have pn := pg_len r x hx T a b
  have sr := same_refl gl 6 _ (show Pl 6 (.tup ((PG (Bk r x T a b)).map partD)) from by
    refine .tup _ _ (by rw [List.length_map]; omega) (pll_of 5 fun x m => ?_)
    obtain ⟨p, _, rfl⟩ := List.mem_map.mp m
    exact .tup _ _ (by simp) (.cons _ _ _ (.bl _ _) (.cons _ _ _ (.str _ _) (.nil _))))
  have cat := pg_cat r x T a b h1 h2
  obtain ⟨b1, b2, b3⟩ := s0_le (seg_ok x a b) (seg_ne h1 h2)
  have jn := join_map ((PG (Bk r x T a b)).map (·.2)) (by
    rw [len_sum, List.flatMap_def, cat, sub_len _ _ _ b2]
    rw [← str_len] at b2
    omega)
  rw [cat, List.map_map] at jn
  have c : mComp [20] (iSeq (mVar 16)) (tgName 20) mYes e_law_1 ⟨[c0, .val (.ref 1), c2, c3, .val (.str x), c5, c6, .val (.tup (T.map .str)), c8, c9, .val (ruD r), c11, c12, c13, .val (pD (a, b)), c15, .val (.tup ((PG (Bk r x T a b)).map partD)), .val (.lst ((spans x).map pD)), .none, .none, .none], gl⟩ = .ok (.new (.lst ((PG (Bk r x T a b)).map ((fun l => D.str (tS l)) ∘ (·.2))))) ⟨[c0, .val (.ref 1), c2, c3, .val (.str x), c5, c6, .val (.tup (T.map .str)), c8, c9, .val (ruD r), c11, c12, c13, .val (pD (a, b)), c15, .val (.tup ((PG (Bk r x T a b)).map partD)), .val (.lst ((spans x).map pD)), .none, .none, .none], gl⟩ := by
    refine comp_mapI (PG (Bk r x T a b)) partD _ ?_ (by simp) rfl (by omega) fun z m => ?_
    · generalize (PG (Bk r x T a b)).map partD = PP at *
      generalize (spans x).map pD = SS at *
      generalize pD (a, b) = Pd at *
      generalize T.map D.str = TM at *
      generalize ruD r = RR at *
      simp [iSeq]
    · have ix : ∀ s, opIx s (.d (partD z)) (.d (.int 1)) = .ok (.d (.str (tS z.2))) s := fun s => ixH1 _ _ _ s
      show _ = Res.ok (D.str (tS z.2)) _
      generalize partD z = PZ at *
      generalize tS z.2 = tz at *
      generalize (PG (Bk r x T a b)).map partD = PP at *
      generalize (spans x).map pD = SS at *
      generalize pD (a, b) = Pd at *
      generalize T.map D.str = TM at *
      generalize ruD r = RR at *
      simp [e_law_1, ix]
  have i0 : ∀ s, opIx s (.d (pD (a, b))) (.d (.int 0)) = .ok (.d (.int (a : Nat))) s := fun s => ixH _ _ s
  have i1 : ∀ s, opIx s (.d (pD (a, b))) (.d (.int 1)) = .ok (.d (.int (b : Nat))) s := fun s => ixH1 _ _ _ s
  have k1 := sp_get x a (by omega)
  have k2 := sp_get x (b - 1) (by omega)
  have el : ((b - 1 : Nat) : Int) = (b : Int) - 1 := by omega
  rw [el] at k2
  have j1 : ∀ s, opIx s (.d (pD ((spans x).getD a (0, 0)))) (.d (.int 0)) = .ok (.d (.int (s0 (seg x a b)))) s := fun s => by rw [seg_s0 x a b h1 h2]; exact ixH _ _ s
  have j2 : ∀ s, opIx s (.d (pD ((spans x).getD (b - 1) (0, 0)))) (.d (.int 1)) = .ok (.d (.int (endS 0 (seg x a b)))) s := fun s => by rw [seg_end x a b h1 h2]; exact ixH1 _ _ _ s
  have sl := slW x (by omega) (s0 (seg x a b)) (endS 0 (seg x a b))
  have ne : ∀ z : Str, ∀ s, opEq true s (.d (.str z)) (.d (.str z)) = .ok (.d (.bl false)) s := fun z s => by rw [ne_str, decide_eq_true rfl]; rfl
  have ne := ne (tS (sub x.cps.toList (s0 (seg x a b)) (endS 0 (seg x a b))))
  generalize tS (sub x.cps.toList (s0 (seg x a b)) (endS 0 (seg x a b))) = ZZ at *
  generalize (PG (Bk r x T a b)).map ((fun l => D.str (tS l)) ∘ (·.2)) = QQ at *
  generalize (PG (Bk r x T a b)).map partD = PP at *
  generalize pD ((spans x).getD a (0, 0)) = P1 at *
  generalize pD ((spans x).getD (b - 1) (0, 0)) = P2 at *
  generalize (spans x).map pD = SS at *
  generalize pD (a, b) = Pd at *
  generalize T.map D.str = TM at *
  generalize ruD r = RR at *
  generalize ((s0 (seg x a b) : Nat) : Int) = z0 at *
  generalize ((endS 0 (seg x a b) : Nat) : Int) = z1 at *
  simp [-ap_Comp, l_law_2, lp, as_d, pc, sp, sr, truthD, asD, mSm1, c, jn, i0, i1, k1, k2, j1, j2, asInt, sl, ne]
theorem s_h4 (r : Ru) (hr : RuOk r) (hn : r.en.length ≤ 1000) (x : Str) (hx : x.length ≤ 200) (T : List Str) (a b k l : Nat) (h1 : a < b) (h2 : b ≤ (spans x).length) (h3 : k < l) (h4 : l ≤ (spans x).length) (gl : List MObj) (c0 c2 c3 c5 c6 c8 c9 c12 c14 c15 c16 c17 : Slot) :
    ∃ d16 d17, (mFor (iSeq (mTup (mACons (mVar 11) (mACons (mVar 13) mANil)))) (tgName 14) l_law_2) ⟨[c0, .val (.ref 1), c2, c3, .val (.str x), c5, c6, .val (.tup (T.map .str)), c8, c9, .val (ruD r), .val (pD (a, b)), c12, .val (pD (k, l)), c14, c15, c16, c17, .none, .none, .none], gl⟩ = .ok .nx ⟨[c0, .val (.ref 1), c2, c3, .val (.str x), c5, c6, .val (.tup (T.map .str)), c8, c9, .val (ruD r), .val (pD (a, b)), c12, .val (pD (k, l)), .val (pD (k, l)), c15, d16, d17, .none, .none, .none], gl⟩ := by
  have e1 := s_one r hr hn x hx T a b h1 h2 gl c0 c2 c3 c5 c6 c8 c9 (.val (pD (a, b))) c12 (.val (pD (k, l))) c15 c16 c17
  have e2 := s_one r hr hn x hx T k l h3 h4 gl c0 c2 c3 c5 c6 c8 c9 (.val (pD (a, b))) c12 (.val (pD (k, l))) c15 (.val (.tup ((PG (Bk r x T a b)).map partD))) (.val (.lst ((spans x).map pD)))
  refine ⟨.val (.tup ((PG (Bk r x T k l)).map partD)), .val (.lst ((spans x).map pD)), ?_⟩
  generalize (PG (Bk r x T a b)).map partD = PP at *
  generalize (PG (Bk r x T k l)).map partD = PP2 at *
  generalize (spans x).map pD = SS at *
  generalize pD (a, b) = P1 at *
  generalize pD (k, l) = P2 at *
  generalize T.map D.str = TM at *
  generalize ruD r = RR at *
  have lp : forGo (tgName 14) l_law_2 [P1, P2] ⟨[c0, .val (.ref 1), c2, c3, .val (.str x), c5, c6, .val (.tup TM), c8, c9, .val RR, .val P1, c12, .val P2, c14, c15, c16, c17, .none, .none, .none], gl⟩ = .ok .nx ⟨[c0, .val (.ref 1), c2, c3, .val (.str x), c5, c6, .val (.tup TM), c8, c9, .val RR, .val P1, c12, .val P2, .val P2, c15, .val (.tup PP2), .val (.lst SS), .none, .none, .none], gl⟩ := by
    refine (fc_ok (by rw [ap_tgName, as_d (by simp)]; rfl) e1).trans ?_
    refine (fc_ok (by rw [ap_tgName, as_d (by simp)]; rfl) e2).trans ?_
    rfl
  simp [iSeq, lp]
theorem s_h5 (r : Ru) (hr : RuOk r) (hn : r.en.length ≤ 1000) (x : Str) (hx : x.length ≤ 200) (T : List Str) (a b : Nat) (h1 : a < b) (h2 : b ≤ (spans x).length) (due : D) (gl : List MObj) (c0 c2 c3 c6 c8 c12 c13 c14 c15 c16 c17 : Slot) :
    (mSet 15 (mTup (mACons (mBin opGt (mBin opIx (mVar 11) (mC (.int 0))) (mC (.int 0))) (mACons (mCall f__law_parts (mACons (mVar 10) (mACons (mVar 4) (mACons (mVar 7) (mACons (mVar 11) mANil))))) (mACons (mBin opLt (mBin opIx (mVar 11) (mC (.int 1))) (mFn1 fLen (mVar 5))) mANil))))) ⟨[c0, .val (.ref 1), c2, c3, .val (.str x), .val (rD (rowS r x)), c6, .val (.tup (T.map .str)), c8, .val due, .val (ruD r), .val (pD (a, b)), c12, c13, c14, c15, c16, c17, .none, .none, .none], gl⟩ = .ok .nx ⟨[c0, .val (.ref 1), c2, c3, .val (.str x), .val (rD (rowS r x)), c6, .val (.tup (T.map .str)), c8, .val due, .val (ruD r), .val (pD (a, b)), c12, c13, c14, .val (.tup [.bl (decide (0 < a)), .tup ((PG (Bk r x T a b)).map partD), .bl (decide (b < (spans x).length))]), c16, c17, .none, .none, .none], gl⟩ := by
  have lp := law_parts_spec r hr hn x (by omega) (.tup : Tm T _) a b h1 h2 gl
  have ln := len_row (rowS r x)
  rw [row_len' r x] at ln
  have i0 : ∀ s, opIx s (.d (pD (a, b))) (.d (.int 0)) = .ok (.d (.int (a : Nat))) s := fun s => ixH _ _ s
  have i1 : ∀ s, opIx s (.d (pD (a, b))) (.d (.int 1)) = .ok (.d (.int (b : Nat))) s := fun s => ixH1 _ _ _ s
  have g1 : ∀ s, opGt s (.d (.int (a : Nat))) (.d (.int 0)) = .ok (.d (.bl (decide (0 < a)))) s := fun s => by rw [q_gt]; congr 3; simp
  have g2 : ∀ s, opLt s (.d (.int (b : Nat))) (.d (.int (spans x).length)) = .ok (.d (.bl (decide (b < (spans x).length)))) s := fun s => by rw [q_lt]; congr 3; rw [decide_eq_decide]; omega
  generalize (PG (Bk r x T a b)).map partD = PP at *
  generalize decide (0 < a) = A at *
  generalize decide (b < (spans x).length) = B at *
  generalize rD (rowS r x) = RL at *
  generalize pD (a, b) = P1 at *
  generalize T.map D.str = TM at *
  generalize ruD r = RR at *
  simp [-q_gt, -q_lt, i0, i1, g1, g2, lp, ln, as_d]
theorem s_h6 (gl : List MObj) (due TD : D) (c0 c2 c3 c4 c5 c6 c7 c8 c10 c11 c12 c13 c14 c16 c17 : Slot) (e : f_read_snippet [due] gl = .ok TD gl) (pl : Pl 6 TD) : (mIfS (mNotT (mTru (mCall (f__law_same 6) (mACons (mCall f_read_snippet (mACons (mVar 9) mANil)) (mACons (mVar 15) mANil))))) (mRet (mC (.bl false))) mNx) ⟨[c0, .val (.ref 1), c2, c3, c4, c5, c6, c7, c8, .val due, c10, c11, c12, c13, c14, .val TD, c16, c17, .none, .none, .none], gl⟩ = .ok .nx ⟨[c0, .val (.ref 1), c2, c3, c4, c5, c6, c7, c8, .val due, c10, c11, c12, c13, c14, .val TD, c16, c17, .none, .none, .none], gl⟩ := by
  have sr := same_refl gl 6 _ pl
  simp [e, sr, truthD, asD]
theorem s_t (gl : List MObj) (R : Row) (c0 c2 c3 c4 c6 c7 c8 c9 c10 c11 c12 c13 c14 c15 c16 c17 : Slot) : (mBl (mBin (opEq true) (mVar 5) (mLst mANil))) ⟨[c0, .val (.ref 1), c2, c3, c4, .val (rD R), c6, c7, c8, c9, c10, c11, c12, c13, c14, c15, c16, c17, .none, .none, .none], gl⟩ = .ok (!R.isEmpty) ⟨[c0, .val (.ref 1), c2, c3, c4, .val (rD R), c6, c7, c8, c9, c10, c11, c12, c13, c14, c15, c16, c17, .none, .none, .none], gl⟩ := by
  have e : ∀ s, opEq true s (.d (rD R)) (.new (.lst [])) = .ok (.d (.bl (!R.isEmpty))) s := fun s => by cases R <;> rfl
  generalize rD R = RR at *
  generalize (!R.isEmpty) = b at *
  simp [e]
end K82
/-! # k82: the law -/
namespace K82
open PySem PySem.Spec PyProof.Rows L2 MI
theorem turn (gl : List MObj) (hB : Bx gl) (c0 c2 c3 c4 c5 c6 c7 c8 c9 c10 c11 c12 c13 c14 c15 c16 c17 : Slot) : ∃ d4 d5 d6 d7 d8 d9 d10 d11 d12 d13 d14 d15 d16 d17 gl', l_law_6 ⟨[c0, .val (.ref 1), c2, c3, c4, c5, c6, c7, c8, c9, c10, c11, c12, c13, c14, c15, c16, c17, .none, .none, .none], gl⟩ = .ok .nx ⟨[c0, .val (.ref 1), c2, c3, d4, d5, d6, d7, d8, d9, d10, d11, d12, d13, d14, d15, d16, d17, .none, .none, .none], gl'⟩ ∧ Bx gl' := by
  obtain ⟨r, g1, e1, B1, hr, hn⟩ := rules_spec gl hB
  obtain ⟨x, g2, e2, B2, hx, hc⟩ := text_spec g1 B1
  have rl := row_len' r x
  have sl := spans_len x
  obtain ⟨ws, g3, e3, B3, wl, wv⟩ := s_c g2 B2 (ruD r) (.str x) (rD (rowS r x)) c0 c2 c3 c6 c7 c8 c9 c11 c12 c13 c14 c15 c16 c17
  obtain ⟨size, g4, e4, B4, z0, z1⟩ := s_e g3 B3 (ruD r) (.str x) (rD (rowS r x)) (.tup (ws.map .str)) (.tup ((TT r ws).map .str)) c0 c2 c3 c8 c9 c11 c12 c13 c14 c15 c16 c17
  obtain ⟨k1, k2⟩ := snip_known r hr x hx ws (by omega) (fun v m => by have := wv v m; omega) size z0 (by omega) g4
  obtain ⟨l1, l2⟩ := law_snip r hr hn x hx ws (by omega) (fun v m => by have := wv v m; omega) size z0 g4
  have wt := wish_spec r hr ws (by omega) (fun v m => by have := wv v m; omega) g4
  have ttl := tt_len r ws
  have plT : ∀ z : Str, Pl 6 (.tup [.str z, .tup ((TT r ws).map .str)]) := fun z => .tup _ _ (by simp) (.cons _ _ _ (.str _ _) (.cons _ _ _ (pl_texts 3 _ (by omega)) (.nil _)))
  unfold l_law_6
  by_cases h : rowS r x = []
  · have t := s_t g4 (rowS r x) c0 c2 c3 (.val (.str x)) (.val (.tup (ws.map .str))) (.val (.tup ((TT r ws).map .str))) (.val (.int (size : Nat))) (.val (.str "")) (.val (ruD r)) c11 c12 c13 c14 c15 c16 c17
    have em : (!(rowS r x).isEmpty) = false := by rw [h]; rfl
    rw [em] at t
    refine ⟨.val (.str x), .val (rD (rowS r x)), .val (.tup (ws.map .str)), .val (.tup ((TT r ws).map .str)), .val (.int (size : Nat)), .val (.str ""), .val (ruD r), c11, c12, c13, c14, c15, c16, c17, g4, ?_, B4⟩
    refine (seq_nx (s_a gl c0 c2 c3 c5 c6 c7 c8 c9 c11 c12 c13 c14 c15 c16 c17 e1 e2 c4 c10)).trans ?_
    refine (seq_nx (s_b g2 r hr hn x hx c0 c2 c3 c5 c6 c7 c8 c9 c11 c12 c13 c14 c15 c16 c17)).trans ?_
    refine (seq_nx (e3)).trans ?_
    refine (seq_nx (s_d g3 r hr hn ws wl wv (.str x) (rD (rowS r x)) c0 c2 c3 c7 c8 c9 c11 c12 c13 c14 c15 c16 c17)).trans ?_
    refine (seq_nx (e4)).trans ?_
    refine (seq_nx (s_f g4 (ruD r) (.str x) (rD (rowS r x)) (.tup (ws.map .str)) (.tup ((TT r ws).map .str)) (.int (size : Nat)) (.str "") c0 c2 c3 c9 c11 c12 c13 c14 c15 c16 c17 (l1 h))).trans ?_
    refine (seq_nx (s_g g4 (ruD r) (.str x) (rD (rowS r x)) (.tup (ws.map .str)) (.tup ((TT r ws).map .str)) (.int (size : Nat)) (.str "") c0 c2 c3 c11 c12 c13 c14 c15 c16 c17 (k1 h) wt (plT ""))).trans ?_
    rw [ap_IfS, t]
    rfl
  · obtain ⟨f, kf, bw, bb⟩ := k2 h
    obtain ⟨f', lf, bb'⟩ := l2 h
    rw [← wof_same (rowS r x) (tt_mem r ws)] at bb'
    have ef := due_one bb bb'
    subst ef
    have es : snipL r x (tws r ws) f (wid size (0, (rowS r x).length)) = snipL r x (TT r ws) f (wid size (0, (rowS r x).length)) := by unfold snipL; rw [bk_same r x (tt_mem r ws)]
    rw [es] at lf
    have hR0 : 0 < (rowS r x).length := List.length_pos_iff.mpr h
    have hw0 : 0 < wid size (0, (rowS r x).length) := by unfold wid; simp; omega
    have hw1 : wid size (0, (rowS r x).length) ≤ (rowS r x).length := by unfold wid; simp; omega
    have hf := bb.high
    clear bb bb' l1 l2 k1 k2
    generalize wid size (0, (rowS r x).length) = n at *
    have h1 : f < f + n := by omega
    have h2 : f + n ≤ (spans x).length := by omega
    have tl := told_len r x hx (TT r ws) f (f + n) h1 h2
    obtain ⟨u1, u2⟩ := told_ends r x (TT r ws) f (f + n) h1 h2
    have rs := read_snip (bk_free r x hc (TT r ws) f (f + n) h1 h2) (by omega) u1 u2 (decide (0 < f)) (decide (f + n < (spans x).length))
    have pgl := pg_len r x hx (TT r ws) f (f + n)
    have t := s_t g4 (rowS r x) c0 c2 c3 (.val (.str x)) (.val (.tup (ws.map .str))) (.val (.tup ((TT r ws).map .str))) (.val (.int (size : Nat))) (.val (.str (tS (snipL r x (TT r ws) f n)))) (.val (ruD r)) c11 c12 c13 c14 c15 c16 c17
    have em : (!(rowS r x).isEmpty) = true := by
      cases hh : rowS r x with
      | nil => exact absurd hh h
      | cons => rfl
    rw [em] at t
    obtain ⟨k, g5, e5, B5, hk⟩ := s_h2 g4 B4 (ruD r) (.str x) (.tup (ws.map .str)) (.tup ((TT r ws).map .str)) (.int (size : Nat)) (.str (tS (snipL r x (TT r ws) f n))) (pD (f, f + n)) (rowS r x) h (by omega) c0 c2 c3 c12 c13 c14 c15 c16 c17
    obtain ⟨l, g6, e6, B6, hkl, hl⟩ := s_h3 g5 B5 (ruD r) (.str x) (.tup (ws.map .str)) (.tup ((TT r ws).map .str)) (.int (size : Nat)) (.str (tS (snipL r x (TT r ws) f n))) (pD (f, f + n)) (rowS r x) (by omega) k hk c0 c2 c3 c13 c14 c15 c16 c17
    obtain ⟨d16, d17, e7⟩ := s_h4 r hr hn x hx (TT r ws) f (f + n) k l h1 h2 hkl (by omega) g6 c0 c2 c3 (.val (rD (rowS r x))) (.val (.tup (ws.map .str))) (.val (.int (size : Nat))) (.val (.str (tS (snipL r x (TT r ws) f n)))) (.val (.int (k : Nat))) c14 c15 c16 c17
    refine ⟨.val (.str x), .val (rD (rowS r x)), .val (.tup (ws.map .str)), .val (.tup ((TT r ws).map .str)), .val (.int (size : Nat)), .val (.str (tS (snipL r x (TT r ws) f n))), .val (ruD r), .val (pD (f, f + n)), .val (.int (k : Nat)), .val (pD (k, l)), .val (pD (k, l)), .val (.tup [.bl (decide (0 < f)), .tup ((PG (Bk r x (TT r ws) f (f + n))).map partD), .bl (decide (f + n < (spans x).length))]), d16, d17, g6, ?_, B6⟩
    refine (seq_nx (s_a gl c0 c2 c3 c5 c6 c7 c8 c9 c11 c12 c13 c14 c15 c16 c17 e1 e2 c4 c10)).trans ?_
    refine (seq_nx (s_b g2 r hr hn x hx c0 c2 c3 c5 c6 c7 c8 c9 c11 c12 c13 c14 c15 c16 c17)).trans ?_
    refine (seq_nx (e3)).trans ?_
    refine (seq_nx (s_d g3 r hr hn ws wl wv (.str x) (rD (rowS r x)) c0 c2 c3 c7 c8 c9 c11 c12 c13 c14 c15 c16 c17)).trans ?_
    refine (seq_nx (e4)).trans ?_
    refine (seq_nx (s_f g4 (ruD r) (.str x) (rD (rowS r x)) (.tup (ws.map .str)) (.tup ((TT r ws).map .str)) (.int (size : Nat)) (.str (tS (snipL r x (TT r ws) f n))) c0 c2 c3 c9 c11 c12 c13 c14 c15 c16 c17 lf)).trans ?_
    refine (seq_nx (s_g g4 (ruD r) (.str x) (rD (rowS r x)) (.tup (ws.map .str)) (.tup ((TT r ws).map .str)) (.int (size : Nat)) (.str (tS (snipL r x (TT r ws) f n))) c0 c2 c3 c11 c12 c13 c14 c15 c16 c17 kf wt (plT _))).trans ?_
    rw [ap_IfS, t]
    simp only [Res.bind_ok, if_true]
    refine (seq_nx (s_h1 g4 (ruD r) (.str x) (rD (rowS r x)) (.tup (ws.map .str)) (.tup ((TT r ws).map .str)) (.int (size : Nat)) (.str (tS (snipL r x (TT r ws) f n))) (pD (f, f + n)) c0 c2 c3 c11 c12 c13 c14 c15 c16 c17 bw)).trans ?_
    refine (seq_nx (e5)).trans ?_
    refine (seq_nx (e6)).trans ?_
    refine (seq_nx (e7)).trans ?_
    refine (seq_nx (s_h5 r hr hn x hx (TT r ws) f (f + n) h1 h2 (.str (tS (snipL r x (TT r ws) f n))) g6 c0 c2 c3 (.val (.tup (ws.map .str))) (.val (.int (size : Nat))) (.val (.int (k : Nat))) (.val (pD (k, l))) (.val (pD (k, l))) c15 d16 d17)).trans ?_
    exact s_h6 g6 (.str (tS (snipL r x (TT r ws) f n))) (.tup [.bl (decide (0 < f)), .tup ((PG (Bk r x (TT r ws) f (f + n))).map partD), .bl (decide (f + n < (spans x).length))]) c0 c2 c3 (.val (.str x)) (.val (rD (rowS r x))) (.val (.tup (ws.map .str))) (.val (.tup ((TT r ws).map .str))) (.val (.int (size : Nat))) (.val (ruD r)) (.val (pD (f, f + n))) (.val (.int (k : Nat))) (.val (pD (k, l))) (.val (pD (k, l))) d16 d17 (rs g6) (.tup _ _ (by simp) (.cons _ _ _ (.bl _ _) (.cons _ _ _ (.tup _ _ (by rw [List.length_map]; omega) (pll_of 4 fun y m => by obtain ⟨p, _, rfl⟩ := List.mem_map.mp m; exact .tup _ _ (by simp) (.cons _ _ _ (.bl _ _) (.cons _ _ _ (.str _ _) (.nil _))))) (.cons _ _ _ (.bl _ _) (.nil _)))))
theorem turns_loop (c0 : Slot) : ∀ (L : List D) (gl : List MObj) (c2 c3 c4 c5 c6 c7 c8 c9 c10 c11 c12 c13 c14 c15 c16 c17 : Slot), Bx gl →
    ∃ d2 d3 d4 d5 d6 d7 d8 d9 d10 d11 d12 d13 d14 d15 d16 d17 gl', forGo (tgName 2) l_law_6 L ⟨[c0, .val (.ref 1), c2, c3, c4, c5, c6, c7, c8, c9, c10, c11, c12, c13, c14, c15, c16, c17, .none, .none, .none], gl⟩ = .ok .nx ⟨[c0, .val (.ref 1), d2, d3, d4, d5, d6, d7, d8, d9, d10, d11, d12, d13, d14, d15, d16, d17, .none, .none, .none], gl'⟩ ∧ Bx gl'
  | [], gl, c2, c3, c4, c5, c6, c7, c8, c9, c10, c11, c12, c13, c14, c15, c16, c17, hB => ⟨c2, c3, c4, c5, c6, c7, c8, c9, c10, c11, c12, c13, c14, c15, c16, c17, gl, rfl, hB⟩
  | d :: L, gl, c2, c3, c4, c5, c6, c7, c8, c9, c10, c11, c12, c13, c14, c15, c16, c17, hB => by
    obtain ⟨g4, g5, g6, g7, g8, g9, g10, g11, g12, g13, g14, g15, g16, g17, gl1, st, B1⟩ := turn gl hB c0 (.val d) c3 c4 c5 c6 c7 c8 c9 c10 c11 c12 c13 c14 c15 c16 c17
    obtain ⟨h2, h3, h4, h5, h6, h7, h8, h9, h10, h11, h12, h13, h14, h15, h16, h17, gl', w, B'⟩ := turns_loop c0 L gl1 (.val d) c3 g4 g5 g6 g7 g8 g9 g10 g11 g12 g13 g14 g15 g16 g17 B1
    refine ⟨h2, h3, h4, h5, h6, h7, h8, h9, h10, h11, h12, h13, h14, h15, h16, h17, gl', ?_, B'⟩
    exact (fc_ok (by rw [ap_tgName, as_d (by simp)]; rfl) st).trans w
/-! ### what is known -/
def rK : Ru := ⟨["the"], [⟨"s", "", 2⟩]⟩
def tK : Str := "red cats, the red dog. dogs and cats"
def RK : Row := [some "red", some "cat", none, some "red", some "dog", some "dog", some "and", some "cat"]
def CD : List Str := ["cat", "dog"]
def CA : List Str := ["cat"]
theorem rowK : rowS rK tK = RK := by decide +kernel
theorem bK1 : ∀ g, g < 5 → lexlt (wof RK CD 4 4) (wof RK CD 4 g) = false := by decide +kernel
theorem bK2 : ∀ g, g < 5 → wof RK CD 4 g = wof RK CD 4 4 → 4 ≤ g := by decide +kernel
theorem okK : RuOk rK := fun e m => by
  have m : e ∈ ([⟨"s", "", 2⟩] : List En) := m
  rw [List.mem_singleton.mp m]
  exact ⟨by decide, by decide⟩
theorem twK : tws rK CD = CD := by decide +kernel
theorem snK : tS (snipL rK tK CD 4 4) = ".. [dog]. [dogs] and [cats]" := by decide +kernel
theorem pgK : (PG (Bk rK tK CA 0 2)) = [(false, [114, 101, 100, 32]), (true, [99, 97, 116, 115])] := by decide +kernel
theorem sK1 : tS [114, 101, 100, 32] = "red " := by decide +kernel
theorem sK2 : tS [99, 97, 116, 115] = "cats" := by decide +kernel
theorem k_snip (gl : List MObj) : f_snippet [ruD rK, .str tK, .tup (CD.map .str), .int 4] gl = .ok (.str ".. [dog]. [dogs] and [cats]") gl := by
  obtain ⟨f, e, _, b⟩ := (snip_known rK okK tK (by decide) CD (by decide) (by decide) 4 (by omega) (by omega) gl).2 (by rw [rowK]; exact List.cons_ne_nil _ _)
  have mm : ∀ t, t ∈ TT rK CD ↔ t ∈ CD := fun t => by rw [tt_mem, twK]
  rw [rowK, wof_same RK mm] at b
  rw [rowK] at e
  have hw : wid 4 (0, RK.length) = 4 := by decide
  have b4 : BestAt (wof RK CD (wid 4 (0, RK.length))) 0 (RK.length - wid 4 (0, RK.length) + 1) 4 := by
    rw [hw]
    exact ⟨by omega, by decide, fun g _ h => bK1 g h, fun g _ h => bK2 g h⟩
  rw [due_one b b4, hw] at e
  have es : snipL rK tK (TT rK CD) 4 4 = snipL rK tK CD 4 4 := by unfold snipL; rw [bk_same rK tK mm]
  rw [es, snK] at e
  exact e
theorem k_parts (gl : List MObj) : f_snippet_parts [ruD rK, .str tK, .tup (CA.map .str), .tup [.int 0, .int 2]] gl = .ok (.tup [.tup [.bl false, .str "red "], .tup [.bl true, .str "cats"]]) gl := by
  have e := snip_spec rK okK tK (by decide) (.tup : Tm CA _) 0 2 (by omega) (by decide +kernel) gl
  rw [pgK] at e
  have el : List.map partD [(false, [114, 101, 100, 32]), (true, [99, 97, 116, 115])] = [.tup [.bl false, .str (tS [114, 101, 100, 32])], .tup [.bl true, .str (tS [99, 97, 116, 115])]] := rfl
  rw [el, sK1, sK2] at e
  exact e
def bK : Blk := ([], [([100, 111, 103], [46, 32]), ([100, 111, 103, 115], [])])
theorem frK : Fr bK := fun c m => by
  have h : ((flatP bK).flatMap (·.2)).all (fun c => decide (c ≠ 91 ∧ c ≠ 93)) = true := by decide +kernel
  have := (List.all_eq_true.mp h) c m
  simpa using this
theorem toK : tS (AH true ++ (told bK ++ BH true)) = ".. [dog]. [dogs] .." := by decide +kernel
theorem pbK : PG bK = [(true, [100, 111, 103]), (false, [46, 32]), (true, [100, 111, 103, 115])] := by decide +kernel
theorem sK3 : tS [100, 111, 103] = "dog" := by decide +kernel
theorem sK4 : tS [46, 32] = ". " := by decide +kernel
theorem sK5 : tS [100, 111, 103, 115] = "dogs" := by decide +kernel
theorem k_read (gl : List MObj) : f_read_snippet [.str ".. [dog]. [dogs] .."] gl = .ok (.tup [.bl true, .tup [.tup [.bl true, .str "dog"], .tup [.bl false, .str ". "], .tup [.bl true, .str "dogs"]], .bl true]) gl := by
  have e := read_snip frK (by decide) ⟨91, _, rfl, by decide⟩ ⟨[91, 100, 111, 103, 93, 46, 32, 91, 100, 111, 103, 115], 93, rfl, by decide⟩ true true gl
  rw [toK, pbK] at e
  have el : List.map partD [(true, [100, 111, 103]), (false, [46, 32]), (true, [100, 111, 103, 115])] = [.tup [.bl true, .str (tS [100, 111, 103])], .tup [.bl false, .str (tS [46, 32])], .tup [.bl true, .str (tS [100, 111, 103, 115])]] := rfl
  rw [el, sK3, sK4, sK5] at e
  exact e
theorem plain : ∀ ns : List Int, ns.length ≤ 63 → ∃ gl, f_law [.scr (ns.map D.int)] [] = .ok (.bl true) gl := by
  intro ns hns
  obtain ⟨gl, hb, hB⟩ := box_spec ns
  obtain ⟨h2, h3, h4, h5, h6, h7, h8, h9, h10, h11, h12, h13, h14, h15, h16, h17, gl1, lp, B1⟩ := turns_loop (.val (.scr (ns.map D.int))) (rangeD 0 4) gl .none (.val (ruD rK)) (.val (.str tK)) .none .none .none .none .none .none .none .none .none .none .none .none .none hB
  have hr : rng1 4 = some (rangeD 0 4) := rng1_ok (by omega) (by omega)
  have k1 := k_snip gl
  have k2 := k_parts gl
  have k3 := k_read gl
  have p2 : ∀ (n : Nat) (b : Bool) (z : Str), Pl (n + 2) (.tup [.bl b, .str z]) := fun n b z => .tup _ _ (by simp) (.cons _ _ _ (.bl _ _) (.cons _ _ _ (.str _ _) (.nil _)))
  have s1 := same_refl gl 6 (.tup [.str ".. [dog]. [dogs] and [cats]", .tup [.tup [.bl false, .str "red "], .tup [.bl true, .str "cats"]]]) (.tup _ _ (by simp) (.cons _ _ _ (.str _ _) (.cons _ _ _ (.tup _ _ (by simp) (.cons _ _ _ (p2 2 _ _) (.cons _ _ _ (p2 2 _ _) (.nil _)))) (.nil _))))
  have s2 := same_refl gl 6 (.tup [.bl true, .tup [.tup [.bl true, .str "dog"], .tup [.bl false, .str ". "], .tup [.bl true, .str "dogs"]], .bl true]) (.tup _ _ (by simp) (.cons _ _ _ (.bl _ _) (.cons _ _ _ (.tup _ _ (by simp) (.cons _ _ _ (p2 2 _ _) (.cons _ _ _ (p2 2 _ _) (.cons _ _ _ (p2 2 _ _) (.nil _))))) (.cons _ _ _ (.bl _ _) (.nil _)))))
  have eR : (D.tup [.tup [.str "the"], .tup [.tup [.str "s", .str "", .int 2]]]) = ruD rK := rfl
  have eT : D.str "red cats, the red dog. dogs and cats" = .str tK := rfl
  have eCD : CD.map D.str = [.str "cat", .str "dog"] := rfl
  have eCA : CA.map D.str = [.str "cat"] := rfl
  rw [eCD] at k1
  rw [eCA] at k2
  refine ⟨gl1, ?_⟩
  generalize hRK : ruD rK = RRK at *
  generalize hTK : D.str tK = TTK at *
  generalize ns.map D.int = NS at *
  simp [f_law, mDef, List.replicate, b_law, as_d, hb, eR, eT, k1, k2, k3, s1, s2, truthD, asD, iRange1, hr, lp]
end K82
namespace K82
open PySem PySem.Spec PyProof.Rows L2 MI
def hdFa : List He.Fa := [.str "DIGITS" "0123456789", .str "SMALL" "abcdefghijklmnopqrstuvwxyz", .glo "is_word_sign", .free "len", .free "enumerate", .glo "spans_in", .glo "words_in", .glo "turned_word", .glo "term_of", .glo "terms_in", .free "sorted", .free "set", .free "tuple", .glo "wish_terms", .glo "worth_in", .free "range", .free "min", .glo "best_of_stretch", .glo "best_window", .glo "snippet_parts", .str "OPEN" "[", .str "SHUT" "]", .glo "told_parts", .str "AHEAD" ".. ", .str "BEHIND" " ..", .glo "snippet", .glo "read_parts", .glo "read_snippet", .free "list", .glo "_law_box", .free "int", .glo "_law_load", .glo "_law_draw", .free "isinstance", .free "str", .free "bool", .free "all", .glo "_law_same", .glo "_law_rules", .glo "_law_word", .glo "_law_text", .glo "_law_pieces", .glo "_law_term", .glo "_law_terms", .free "max", .glo "_law_snippet", .glo "_law_parts", .glo "law"]
def hdFn : List He.DefD := [⟨("is_word_sign", none), "is_word_sign", "is_word_sign", defArgs (tp 3), defBody (tp 3), defScope (tp 3), [], []⟩, ⟨("spans_in", none), "spans_in", "spans_in", defArgs (tp 4), defBody (tp 4), defScope (tp 4), [], []⟩, ⟨("words_in", none), "words_in", "words_in", defArgs (tp 5), defBody (tp 5), defScope (tp 5), [], []⟩, ⟨("turned_word", none), "turned_word", "turned_word", defArgs (tp 7), defBody (tp 7), defScope (tp 7), [], []⟩, ⟨("term_of", none), "term_of", "term_of", defArgs (tp 8), defBody (tp 8), defScope (tp 8), [], []⟩, ⟨("terms_in", none), "terms_in", "terms_in", defArgs (tp 9), defBody (tp 9), defScope (tp 9), [], []⟩, ⟨("wish_terms", none), "wish_terms", "wish_terms", defArgs (tp 11), defBody (tp 11), defScope (tp 11), [], []⟩, ⟨("worth_in", none), "worth_in", "worth_in", defArgs (tp 13), defBody (tp 13), defScope (tp 13), [], []⟩, ⟨("best_of_stretch", none), "best_of_stretch", "best_of_stretch", defArgs (tp 14), defBody (tp 14), defScope (tp 14), [], []⟩, ⟨("best_window", none), "best_window", "best_window", defArgs (tp 15), defBody (tp 15), defScope (tp 15), [], []⟩, ⟨("snippet_parts", none), "snippet_parts", "snippet_parts", defArgs (tp 21), defBody (tp 21), defScope (tp 21), [], []⟩, ⟨("told_parts", none), "told_parts", "told_parts", defArgs (tp 22), defBody (tp 22), defScope (tp 22), [], []⟩, ⟨("snippet", none), "snippet", "snippet", defArgs (tp 23), defBody (tp 23), defScope (tp 23), [], []⟩, ⟨("read_parts", none), "read_parts", "read_parts", defArgs (tp 24), defBody (tp 24), defScope (tp 24), [], []⟩, ⟨("read_snippet", none), "read_snippet", "read_snippet", defArgs (tp 25), defBody (tp 25), defScope (tp 25), [], []⟩, ⟨("_law_box", none), "_law_box", "_law_box", defArgs (tp 27), defBody (tp 27), defScope (tp 27), [], []⟩, ⟨("_law_load", none), "_law_load", "_law_load", defArgs (tp 28), defBody (tp 28), defScope (tp 28), [], []⟩, ⟨("_law_draw", none), "_law_draw", "_law_draw", defArgs (tp 29), defBody (tp 29), defScope (tp 29), [], []⟩, ⟨("_law_same", none), "_law_same", "_law_same", defArgs (tp 30), defBody (tp 30), defScope (tp 30), [], []⟩, ⟨("_law_rules", none), "_law_rules", "_law_rules", defArgs (tp 31), defBody (tp 31), defScope (tp 31), [], []⟩, ⟨("_law_word", none), "_law_word", "_law_word", defArgs (tp 32), defBody (tp 32), defScope (tp 32), [], []⟩, ⟨("_law_text", none), "_law_text", "_law_text", defArgs (tp 33), defBody (tp 33), defScope (tp 33), [], []⟩, ⟨("_law_pieces", none), "_law_pieces", "_law_pieces", defArgs (tp 34), defBody (tp 34), defScope (tp 34), [], []⟩, ⟨("_law_term", none), "_law_term", "_law_term", defArgs (tp 35), defBody (tp 35), defScope (tp 35), [], []⟩, ⟨("_law_terms", none), "_law_terms", "_law_terms", defArgs (tp 36), defBody (tp 36), defScope (tp 36), [], []⟩, ⟨("_law_snippet", none), "_law_snippet", "_law_snippet", defArgs (tp 37), defBody (tp 37), defScope (tp 37), [], []⟩, ⟨("_law_parts", none), "_law_parts", "_law_parts", defArgs (tp 38), defBody (tp 38), defScope (tp 38), [], []⟩, ⟨("law", none), "law", "law", defArgs (tp 39), defBody (tp 39), defScope (tp 39), [], []⟩]
def hdIn : List InD := []
def hdTu : List (Str × List He.Dv) := []
def hd : HdX := ⟨4, PySem.Challenge.pw_postingstold_k82_whole_snippets.main.file, hdFa, hdFn, hdIn, hdTu⟩
def loose0 : List Str := ["SMALL", "DIGITS", "OPEN", "SHUT", "AHEAD", "BEHIND", "is_word_sign", "spans_in", "words_in", "turned_word", "term_of", "terms_in", "wish_terms", "worth_in", "best_of_stretch", "best_window", "snippet_parts", "told_parts", "snippet", "read_parts", "read_snippet", "_law_box", "_law_load", "_law_draw", "_law_same", "_law_rules", "_law_word", "_law_text", "_law_pieces", "_law_term"]
def loose1 : List Str := ["_law_terms", "_law_snippet", "_law_parts"]
def loose : List Str := loose0 ++ loose1
abbrev R : PySem.W.OpenRow := PySem.W.OpenLaw.row PySem.Challenge.rw_postingstold_k82_whole_snippets
theorem run (w : World) : HandSHeadRun.RunEq R (PySem.W.view R.prog [39]) hd.hook hd.ob 4000 loose w := by
  intro os
  kernel_rfl
theorem facts {K : PySem.W.Frag} {h : Heap} {mg : Str → Option Value} (X : K.In h) (G : h.Ns mainGlobals mg) (c : hd.says K) : Fx PySem.Challenge.pw_postingstold_k82_whole_snippets K mg where
  v_DIGITS := c.gstr X G 0
  v_SMALL := c.gstr X G 1
  d_is_word_sign := c.def_ X G 0 2
  g_len := c.free X G 3
  g_enumerate := c.free X G 4
  d_spans_in := c.def_ X G 1 5
  d_words_in := c.def_ X G 2 6
  d_turned_word := c.def_ X G 3 7
  d_term_of := c.def_ X G 4 8
  d_terms_in := c.def_ X G 5 9
  g_sorted := c.free X G 10
  g_set := c.free X G 11
  g_tuple := c.free X G 12
  d_wish_terms := c.def_ X G 6 13
  d_worth_in := c.def_ X G 7 14
  g_range := c.free X G 15
  g_min := c.free X G 16
  d_best_of_stretch := c.def_ X G 8 17
  d_best_window := c.def_ X G 9 18
  d_snippet_parts := c.def_ X G 10 19
  v_OPEN := c.gstr X G 20
  v_SHUT := c.gstr X G 21
  d_told_parts := c.def_ X G 11 22
  v_AHEAD := c.gstr X G 23
  v_BEHIND := c.gstr X G 24
  d_snippet := c.def_ X G 12 25
  d_read_parts := c.def_ X G 13 26
  d_read_snippet := c.def_ X G 14 27
  g_list := c.free X G 28
  d__law_box := c.def_ X G 15 29
  g_int := c.free X G 30
  d__law_load := c.def_ X G 16 31
  d__law_draw := c.def_ X G 17 32
  g_isinstance := c.free X G 33
  g_str := c.free X G 34
  g_bool := c.free X G 35
  g_all := c.free X G 36
  d__law_same := c.def_ X G 18 37
  d__law_rules := c.def_ X G 19 38
  d__law_word := c.def_ X G 20 39
  d__law_text := c.def_ X G 21 40
  d__law_pieces := c.def_ X G 22 41
  d__law_term := c.def_ X G 23 42
  d__law_terms := c.def_ X G 24 43
  g_max := c.free X G 44
  d__law_snippet := c.def_ X G 25 45
  d__law_parts := c.def_ X G 26 46
  d_law := c.def_ X G 27 47
end K82
open PySem PySem.W PySem.Calls PyProof.Rows MI in
theorem PySem.Challenge.cw_postingstold_k82_whole_snippets_holds : PySem.Challenge.rw_postingstold_k82_whole_snippets.Holds := by
  w_on; o_law
  refine HandSHeadRun.head_any (r := K82.R) (q := view K82.R.prog [39]) (H := K82.hd.hook) (ob := K82.hd.ob) (M := 4000) (loose := K82.loose) (d := HandSHeadRun.topDef K82.R.prog 39) (kwd := []) K82.hd.ob_eq
    (by kernel_rfl) (fun s => by kernel_rfl) K82.run (by kernel_rfl) (by kernel_rfl) (by kernel_rfl) (by rfl) (by first | assumption | decide +kernel) (by decide +kernel) ⟨rfl, rfl, rfl, rfl, rfl, by decide +kernel⟩ ?hw ?hc
  case hw => w_witness2
  case hc =>
    refine L2.walk_ofE (l := PySem.Challenge.rw_postingstold_k82_whole_snippets) (n := 63) (k := 8) (x := "script") (CX := CXw PySem.Challenge.pw_postingstold_k82_whole_snippets) rfl (by decide) (by kernel_rfl) ⟨rfl, by decide, by decide⟩ ?F law_out
    intro w mg fa h Y G hmg0
    obtain ⟨K, KX, c⟩ := Y
    have hmg : mg ("law" : PySem.Str) = some (.ref fa) := by
      have e : (HandSHeadRun.topDef K82.R.prog 39).name = ("law" : PySem.Str) := by kernel_rfl
      rw [← e]
      exact hmg0
    exact law_end KX hmg (fun base => K82.F_law (K82.facts KX G c)) K82.plain
