import PyProof.Rows.All
import Wide.All
import OpenK.AllK
import Wide.FinOn
import KE.KStateDown
import Lean
import HandS.Base
import HandS.Call
import HandS.List
import HandS.Comp
import HandS.Ends
import HandS.More
import HandS.Exc
import HandS.ExcOwn
import HandS.Words
import HandS.WordsExc
import HandS.Defaults
import HandS.Wide
import HandS.Flow
import HandS.TupAny
import HandS.WideBits
import HandS.Deep
import HandS.Text
import HandS.SortInts
import HandS.Conv
import HandS.Style
import HandS.Zip
import HandS.HeadEnd
import HandS.Head0
import HandS.Head1
import HandS.Head2
import HandS.HeadHook1
import HandS.HeadHook2
import HandS.IsInst
import HandS.HeadHook3
import HandS.HeadHook4
import PySem.Challenge.RW_squaretimes_k78_whole_centres
set_option Elab.async false
set_option linter.all false
set_option maxRecDepth 100000
set_option maxHeartbeats 4000000
/-! Aw: every construct of a body read as a plain function over data (the mirror), shown once. -/
namespace AW
open PySem PySem.Spec L2
/-- data: what a value is worth. ref: a cell that may change; val: a thing that is only handed on -/
inductive D where
  | non | bl (b : Bool) | int (i : Int) | str (x : Str)
  | tup (xs : List D) | lst (xs : List D) | seq (xs : List D)
  | ref (i : Nat) | val (v : V)
inductive Cell where
  | lst (xs : List D)
abbrev G := List Cell
/-- frozen objects, where the cells lie, and what is set aside meanwhile -/
structure Md where
  F : Hp
  r : Nat → Option Addr
  hid : Hp
mutual
inductive Den (K : PySem.W.Frag) (m : Md) : D → V → Prop
  | non : Den K m .non .non
  | bl {b : Bool} : Den K m (.bl b) (.bl b)
  | int {i : Int} : Den K m (.int i) (.int i)
  | str {x : Str} : Den K m (.str x) (.str x)
  | tup {a : Addr} {xs : List D} {vs : List V} : SqT K m.F a vs → Dens K m xs vs → Den K m (.tup xs) (.ref a)
  | lst {a : Addr} {xs : List D} {vs : List V} : m.F a = some (.lst vs) → Dens K m xs vs → Den K m (.lst xs) (.ref a)
  | seq {a : Addr} {xs : List D} {vs : List V} : SqL K m.F a vs → Dens K m xs vs → Den K m (.seq xs) (.ref a)
  | ref {i : Nat} {a : Addr} : m.r i = some a → Den K m (.ref i) (.ref a)
  | val {v : V} : Den K m (.val v) v
inductive Dens (K : PySem.W.Frag) (m : Md) : List D → List V → Prop
  | nil : Dens K m [] []
  | cons {d : D} {ds : List D} {v : V} {vs : List V} : Den K m d v → Dens K m ds vs → Dens K m (d :: ds) (v :: vs)
end
structure Le (m m' : Md) : Prop where
  F : ∀ a o, m.F a = some o → m'.F a = some o
  r : ∀ i a, m.r i = some a → m'.r i = some a
  hid : ∀ a o, m.hid a = some o → m'.hid a = some o
theorem Le.refl (m : Md) : Le m m := ⟨fun _ _ h => h, fun _ _ h => h, fun _ _ h => h⟩
theorem Le.trans {a b c : Md} (x : Le a b) (y : Le b c) : Le a c := ⟨fun p o h => y.F p o (x.F p o h), fun i p h => y.r i p (x.r i p h), fun p o h => y.hid p o (x.hid p o h)⟩
section
variable {K : PySem.W.Frag} {m m' : Md}
theorem rd_le {H H' : Hp} (e : ∀ a o, H a = some o → H' a = some o) {a : Addr} {u : HO} (h : Rd H a u) : Rd H' a u := by
  rcases h with h | ⟨o, h⟩
  · exact Or.inl (e a _ h)
  · exact Or.inr ⟨o, e a _ h⟩
theorem sqL_le {H H' : Hp} (e : ∀ a o, H a = some o → H' a = some o) {a : Addr} {xs : List V} (h : SqL K H a xs) : SqL K H' a xs := by
  rcases h with h | h
  · exact Or.inl (rd_le e h)
  · exact Or.inr h
theorem sqT_le {H H' : Hp} (e : ∀ a o, H a = some o → H' a = some o) {a : Addr} {xs : List V} (h : SqT K H a xs) : SqT K H' a xs := by
  rcases h with h | h
  · exact Or.inl (rd_le e h)
  · exact Or.inr h
mutual
theorem Den.mono (e : Le m m') : ∀ {d : D} {v : V}, Den K m d v → Den K m' d v
  | _, _, .non => .non
  | _, _, .bl => .bl
  | _, _, .int => .int
  | _, _, .str => .str
  | _, _, .tup h ds => .tup (sqT_le e.F h) (Dens.mono e ds)
  | _, _, .lst h ds => .lst (e.F _ _ h) (Dens.mono e ds)
  | _, _, .seq h ds => .seq (sqL_le e.F h) (Dens.mono e ds)
  | _, _, .ref h => .ref (e.r _ _ h)
  | _, _, .val => .val
theorem Dens.mono (e : Le m m') : ∀ {ds : List D} {vs : List V}, Dens K m ds vs → Dens K m' ds vs
  | _, _, .nil => .nil
  | _, _, .cons h t => .cons (Den.mono e h) (Dens.mono e t)
end
theorem Dens.length : ∀ {ds : List D} {vs : List V}, Dens K m ds vs → ds.length = vs.length
  | _, _, .nil => rfl
  | _, _, .cons _ t => congrArg Nat.succ (Dens.length t)
theorem Dens.append : ∀ {ds es : List D} {vs ws : List V}, Dens K m ds vs → Dens K m es ws → Dens K m (ds ++ es) (vs ++ ws)
  | _, _, _, _, .nil, h => h
  | _, _, _, _, .cons a t, h => .cons a (Dens.append t h)
theorem Dens.get : ∀ {ds : List D} {vs : List V} {i : Nat} {d : D}, Dens K m ds vs → ds[i]? = some d → ∃ v, vs[i]? = some v ∧ Den K m d v
  | _, _, _, _, .nil, e => by simp at e
  | _, _, 0, _, .cons a t, e => by simp at e; subst e; exact ⟨_, rfl, a⟩
  | _, _, i + 1, _, .cons a t, e => by
    obtain ⟨v, h1, h2⟩ := Dens.get (i := i) t (by simpa using e)
    exact ⟨v, by simpa using h1, h2⟩
theorem Dens.get' : ∀ {ds : List D} {vs : List V} {i : Nat} {v : V}, Dens K m ds vs → vs[i]? = some v → ∃ d, ds[i]? = some d ∧ Den K m d v
  | _, _, _, _, .nil, e => by simp at e
  | _, _, 0, _, .cons a t, e => by simp at e; subst e; exact ⟨_, rfl, a⟩
  | _, _, i + 1, _, .cons a t, e => by
    obtain ⟨v, h1, h2⟩ := Dens.get' (i := i) t (by simpa using e)
    exact ⟨v, by simpa using h1, h2⟩
theorem Dens.set {d : D} {v : V} (h : Den K m d v) : ∀ {ds : List D} {vs : List V} (i : Nat), Dens K m ds vs → Dens K m (ds.set i d) (vs.set i v)
  | _, _, _, .nil => .nil
  | _, _, 0, .cons _ t => .cons h t
  | _, _, i + 1, .cons a t => .cons a (Dens.set h i t)
theorem Dens.take : ∀ {ds : List D} {vs : List V} (n : Nat), Dens K m ds vs → Dens K m (ds.take n) (vs.take n)
  | _, _, 0, _ => by simp only [List.take_zero]; exact .nil
  | _, _, _ + 1, .nil => .nil
  | _, _, n + 1, .cons a t => .cons a (Dens.take n t)
theorem Dens.drop : ∀ {ds : List D} {vs : List V} (n : Nat), Dens K m ds vs → Dens K m (ds.drop n) (vs.drop n)
  | _, _, 0, h => h
  | _, _, _ + 1, .nil => .nil
  | _, _, n + 1, .cons a t => Dens.drop n t
theorem Dens.dropLast : ∀ {ds : List D} {vs : List V}, Dens K m ds vs → Dens K m ds.dropLast vs.dropLast
  | _, _, .nil => .nil
  | _, _, .cons _ .nil => .nil
  | _, _, .cons a (.cons b t) => .cons a (Dens.dropLast (.cons b t))
theorem Dens.reverse : ∀ {ds : List D} {vs : List V}, Dens K m ds vs → Dens K m ds.reverse vs.reverse
  | _, _, .nil => .nil
  | _, _, .cons a t => by
    rw [List.reverse_cons, List.reverse_cons]
    exact Dens.append (Dens.reverse t) (.cons a .nil)
theorem Dens.nilV {vs : List V} (h : Dens K m [] vs) : vs = [] := by cases h; rfl
theorem Dens.consV {d : D} {ds : List D} {vs : List V} (h : Dens K m (d :: ds) vs) : ∃ v ws, vs = v :: ws ∧ Den K m d v ∧ Dens K m ds ws := by
  cases h with
  | cons a t => exact ⟨_, _, rfl, a, t⟩
end
/-- a cell and its object -/
def CellOk (K : PySem.W.Frag) (m : Md) : Cell → HO → Prop
  | .lst xs, o => ∃ vs, o = .lst vs ∧ Dens K m xs vs
theorem CellOk.mono {K : PySem.W.Frag} {m m' : Md} (e : Le m m') {c : Cell} {o : HO} (h : CellOk K m c o) : CellOk K m' c o := by
  cases c with
  | lst xs => obtain ⟨vs, e1, h⟩ := h; exact ⟨vs, e1, h.mono e⟩
structure Rel (K : PySem.W.Frag) (m : Md) (g : G) (H : Hp) : Prop where
  ex : ∀ a o, m.F a = some o → H a = some o
  cell : ∀ i c, g[i]? = some c → ∃ a, m.r i = some a ∧ m.F a = none ∧ ∃ o, H a = some o ∧ CellOk K m c o
  dom : ∀ i a, m.r i = some a → i < g.length
  inj : ∀ i j a, m.r i = some a → m.r j = some a → i = j
  hid : ∀ a o, m.hid a = some o → H a = some o ∧ m.F a = none ∧ ∀ i, m.r i ≠ some a
def Slots (K : PySem.W.Frag) (m : Md) (σ : List (Option D)) (σv : St) : Prop := ∀ (i : Nat) (d : D), σ[i]? = some (some d) → ∃ v, σv[i]? = some (some v) ∧ Den K m d v
theorem Slots.mono {K : PySem.W.Frag} {m m' : Md} (e : Le m m') {σ : List (Option D)} {σv : St} (h : Slots K m σ σv) : Slots K m' σ σv := fun i d q => by
  obtain ⟨v, h1, h2⟩ := h i d q
  exact ⟨v, h1, h2.mono e⟩
theorem Slots.set {K : PySem.W.Frag} {m : Md} {σ : List (Option D)} {σv : St} (h : Slots K m σ σv) (hl : σ.length ≤ σv.length) {i : Nat} {d : D} {v : V} (hd : Den K m d v) : Slots K m (σ.set i (some d)) (σv.set i (some v)) := fun j e q => by
  by_cases hj : i = j
  · subst hj
    by_cases hi : i < σ.length
    · rw [List.getElem?_set_self hi] at q
      have q' : d = e := Option.some.inj (Option.some.inj q)
      subst q'
      exact ⟨v, List.getElem?_set_self (by omega), hd⟩
    · rw [List.getElem?_eq_none (by simp; omega)] at q
      cases q
  · rw [List.getElem?_set_ne hj] at q
    obtain ⟨w, h1, h2⟩ := h j e q
    exact ⟨w, by rw [List.getElem?_set_ne hj]; exact h1, h2⟩
/-- an exception: its class (a value of the text), its fields -/
structure Exn where
  cls : V
  fs : List (Str × D)
def ExnOk (K : PySem.W.Frag) (m : Md) (e : Exn) (cv : Value) (dd : Option Addr) : Prop :=
  ∃ C, e.cls = .ref C ∧ cv = .ref C ∧ ((e.fs = [] ∧ dd = none) ∨ (e.fs ≠ [] ∧ ∃ d fv, dd = some d ∧ m.F d = some (.xd fv) ∧ fv.map (·.1) = e.fs.map (·.1) ∧ Dens K m (e.fs.map (·.2)) (fv.map (·.2))))
theorem ExnOk.mono {K : PySem.W.Frag} {m m' : Md} (l : Le m m') {e : Exn} {cv : Value} {dd : Option Addr} (h : ExnOk K m e cv dd) : ExnOk K m' e cv dd := by
  obtain ⟨C, h1, h2, h⟩ := h
  refine ⟨C, h1, h2, ?_⟩
  rcases h with h | ⟨h0, d, fv, h3, h4, h5, h6⟩
  · exact .inl h
  · exact .inr ⟨h0, d, fv, h3, l.F _ _ h4, h5, h6.mono l⟩
inductive Res (α : Type) where
  | ok (a : α) (g : G)
  | ex (e : Exn) (g : G)
  | no
@[reducible] def Res.bind {α β : Type} (r : Res α) (f : α → G → Res β) : Res β := match r with
  | .ok a g => f a g
  | .ex e g => .ex e g
  | .no => .no
abbrev Sg := List (Option D)
abbrev Ev := Sg → G → Res D
abbrev Tv := Sg → G → Res Bool
abbrev Av := Sg → G → Res (List D)
/-- what is wanted behind -/
def Post {α β : Type} (K : PySem.W.Frag) (W : WX) (σv : St) (R : Md → α → β → Prop) (r : Res α) (m : Md) (Q : β → Hp → Prop) : Prop := match r with
  | .ok d g' => ∀ m' H' v, Le m m' → Rel K m' g' H' → R m' d v → Q v H'
  | .ex e g' => ∀ m' H' cv dd, Le m m' → Rel K m' g' H' → ExnOk K m' e cv dd → W cv dd σv H'
  | .no => False
theorem Post.mono {α β : Type} {K : PySem.W.Frag} {W : WX} {σv : St} {R : Md → α → β → Prop} {r : Res α} {m m' : Md} {Q : β → Hp → Prop} (l : Le m m') (h : Post K W σv R r m Q) : Post K W σv R r m' Q := by
  cases r with
  | ok d g => exact fun m2 H v l2 r d => h m2 H v (l.trans l2) r d
  | ex e g => exact fun m2 H cv dd l2 r d => h m2 H cv dd (l.trans l2) r d
  | no => exact h
theorem Post.imp {α β : Type} {K : PySem.W.Frag} {W : WX} {σv : St} {R : Md → α → β → Prop} {r : Res α} {m : Md} {Q Q' : β → Hp → Prop} (h : Post K W σv R r m Q) (q : ∀ v H, Q v H → Q' v H) : Post K W σv R r m Q' := by
  cases r with
  | ok d g => exact fun m2 H v l2 r d => q _ _ (h m2 H v l2 r d)
  | ex e g => exact fun m2 H cv dd l2 r d => h m2 H cv dd l2 r d
  | no => exact h
/-- the first part's end, from the whole's -/
theorem Post.bind {α β γ δ : Type} {K : PySem.W.Frag} {W : WX} {σv : St} {R : Md → α → β → Prop} {R' : Md → γ → δ → Prop} {r : Res α} {f : α → G → Res γ} {m : Md} {Q : δ → Hp → Prop} {P : β → Hp → Prop}
    (h : Post K W σv R' (r.bind f) m Q) (k : ∀ d g m' H v, Le m m' → Rel K m' g H → R m' d v → Post K W σv R' (f d g) m' Q → P v H) : Post K W σv R r m P := by
  cases r with
  | ok d g => exact fun m' H v l rl rd => k d g m' H v l rl rd (Post.mono l h)
  | ex e g => exact h
  | no => exact h
def tE (K : PySem.W.Frag) (W : WX) (ev : Ev) : TE := fun σv H Q => ∃ m σ g, Rel K m g H ∧ Slots K m σ σv ∧ σ.length ≤ σv.length ∧ Post K W σv (Den K) (ev σ g) m Q
def tT (K : PySem.W.Frag) (W : WX) (ev : Tv) : TT := fun σv H Q => ∃ m σ g, Rel K m g H ∧ Slots K m σ σv ∧ σ.length ≤ σv.length ∧ Post K W σv (fun _ a b => a = b) (ev σ g) m Q
def tA (K : PySem.W.Frag) (W : WX) (ev : Av) : TA := fun σv H Q => ∃ m σ g, Rel K m g H ∧ Slots K m σ σv ∧ σ.length ≤ σv.length ∧ Post K W σv (Dens K) (ev σ g) m Q
theorem PE.imp {X : Cx} {e : Expr} {t t' : TE} (h : PE X e t) (k : ∀ σ H Q, t' σ H Q → t σ H Q) : PE X e t' := ⟨fun pins s σ H Q I q => h.run pins s σ H Q I (k _ _ _ q)⟩
theorem PT.imp {X : Cx} {e : Expr} {t t' : TT} (h : PT X e t) (k : ∀ σ H Q, t' σ H Q → t σ H Q) : PT X e t' := ⟨fun pins s σ H Q I q => h.run pins s σ H Q I (k _ _ _ q)⟩
theorem PA.imp {X : Cx} {e : List Expr} {t t' : TA} (h : PA X e t) (k : ∀ σ H Q, t' σ H Q → t σ H Q) : PA X e t' := ⟨fun pos pins s σ H Q I q => h.run pos pins s σ H Q I (k _ _ _ q)⟩
theorem PS.imp {X : Cx} {e : Stmt} {t t' : TS} (h : PS X e t) (k : ∀ D σ H, t' D σ H → t D σ H) : PS X e t' := ⟨fun pins s σ H D I q => h.run pins s σ H D I (k _ _ _ q)⟩
theorem PSs.imp {X : Cx} {e : List Stmt} {t t' : TS} (h : PSs X e t) (k : ∀ D σ H, t' D σ H → t D σ H) : PSs X e t' := ⟨fun pins s σ H D I q => h.run pins s σ H D I (k _ _ _ q)⟩
/-! ### names, constants -/
def eVar (i : Nat) : Ev := fun σ g => match σ[i]? with
  | some (some d) => .ok d g
  | _ => .no
def eC (d : D) : Ev := fun _ g => .ok d g
section
variable {X : Cx} {W : WX} {e : Expr}
theorem x_var {i : Nat} (h : PE X e (tVar i)) : PE X e (tE X.K W (eVar i)) := PE.imp h fun σ H Q q => by
  obtain ⟨m, σ', g, r, sl, _, p⟩ := q
  unfold eVar at p
  split at p
  · rename_i d hd
    obtain ⟨v, h1, h2⟩ := sl i d hd
    exact ⟨v, h1, p m H v (Le.refl m) r h2⟩
  · exact p.elim
theorem x_c {d : D} {v : V} (h : PE X e (tC v)) (hd : ∀ m, Den X.K m d v) : PE X e (tE X.K W (eC d)) := PE.imp h fun σ H Q q => by
  obtain ⟨m, σ', g, r, sl, _, p⟩ := q
  exact p m H v (Le.refl m) r (hd m)
theorem x_int {i j pos} : PE X (.Constant (.int i) j pos) (tE X.K W (eC (.int i))) := x_c pe_int fun _ => .int
theorem x_bl {i j pos} : PE X (.Constant (.bool i) j pos) (tE X.K W (eC (.bl i))) := x_c pe_bl fun _ => .bl
theorem x_str {i j pos} : PE X (.Constant (.str i) j pos) (tE X.K W (eC (.str i))) := x_c pe_str fun _ => .str
theorem x_non {j pos} : PE X (.Constant .none j pos) (tE X.K W (eC .non)) := x_c pe_non fun _ => .non
end
/-! ### operators -/
abbrev Op2 := D → D → G → Res D
abbrev Op1 := D → G → Res D
def eOp (f : Op2) (a b : Ev) : Ev := fun σ g => (a σ g).bind fun x g1 => (b σ g1).bind fun y g2 => f x y g2
def eUn (f : Op1) (a : Ev) : Ev := fun σ g => (a σ g).bind fun x g1 => f x g1
/-- a rule by values and its function -/
def OpS (K : PySem.W.Frag) (W : WX) (r : R2) (f : Op2) : Prop := ∀ (σv : St) (m : Md) (g : G) (H : Hp) (d e : D) (x y : V) (Q : VK), Rel K m g H → Den K m d x → Den K m e y → Post K W σv (Den K) (f d e g) m Q → r x y H Q
def UnS (K : PySem.W.Frag) (W : WX) (r : V → Hp → VK → Prop) (f : Op1) : Prop := ∀ (σv : St) (m : Md) (g : G) (H : Hp) (d : D) (x : V) (Q : VK), Rel K m g H → Den K m d x → Post K W σv (Den K) (f d g) m Q → r x H Q
section
variable {X : Cx} {W : WX} {a b : Expr} {ea eb : Ev} {pos : Pos}
theorem tOp_of {K : PySem.W.Frag} {r : R2} {f : Op2} (hs : OpS K W r f) {σ : St} {H : Hp} {Q : VK} (h : tE K W (eOp f ea eb) σ H Q) : tOp r (tE K W ea) (tE K W eb) σ H Q := by
  obtain ⟨m, σ', g, rl, sl, hl, p⟩ := h
  refine ⟨m, σ', g, rl, sl, hl, Post.bind p fun d g1 m1 H1 x l1 r1 d1 p1 => ?_⟩
  refine ⟨m1, σ', g1, r1, sl.mono l1, hl, Post.bind p1 fun e g2 m2 H2 y l2 r2 d2 p2 => ?_⟩
  exact hs σ m2 g2 H2 d e x y Q r2 (d1.mono l2) d2 p2
theorem x_op {op : Operator} {r : R2} {f : Op2} (ho : OpR X (binaryOp op) r) (hs : OpS X.K W r f) (ha : PE X a (tE X.K W ea)) (hb : PE X b (tE X.K W eb)) : PE X (.BinOp a op b pos) (tE X.K W (eOp f ea eb)) :=
  PE.imp (pe_op ho ha hb) fun _ _ _ h => tOp_of hs h
theorem x_un {op : UnaryOp} {r : V → Hp → VK → Prop} {f : Op1} (ho : UnR X (unaryOp op) r) (hs : UnS X.K W r f) (ha : PE X a (tE X.K W ea)) : PE X (.UnaryOp op a pos) (tE X.K W (eUn f ea)) := PE.imp (pe_un ho ha) fun σ H Q h => by
  obtain ⟨m, σ', g, rl, sl, hl, p⟩ := h
  refine ⟨m, σ', g, rl, sl, hl, Post.bind p fun d g1 m1 H1 x l1 r1 d1 p1 => ?_⟩
  exact hs σ m1 g1 H1 d x Q r1 d1 p1
theorem opR_or {f : Value → Value → Sem Value} {r r' : R2} (h : OpR X f r) (h' : OpR X f r') : OpR X f (fun x y H Q => r x y H Q ∨ r' x y H Q) := fun pins s σ H x y v u Q I rx ry q =>
  q.elim (fun q => h pins s σ H x y v u Q I rx ry q) (fun q => h' pins s σ H x y v u Q I rx ry q)
end
/-- an arithmetic rule of two ints -/
def oI (C : Int → Int → Bool) (f : Int → Int → Int) : Op2 := fun x y g => match x, y with
  | .int i, .int j => if C i j = true then .ok (.int (f i j)) g else .no
  | _, _ => .no
theorem oI_s {K : PySem.W.Frag} {W : WX} {C : Int → Int → Prop} {c : Int → Int → Bool} {f : Int → Int → Int} (hc : ∀ i j, c i j = true → C i j) : OpS K W (rI C fun i j => .int (f i j)) (oI c f) := fun σv m g H d e x y Q rl hd he p => by
  cases d with
  | int i =>
    cases e with
    | int j =>
      cases hd
      cases he
      have p' : Post K W σv (Den K) (if c i j = true then .ok (.int (f i j)) g else .no) m Q := p
      by_cases h : c i j = true
      · rw [if_pos h] at p'
        exact ⟨i, j, rfl, rfl, hc i j h, p' m H _ (Le.refl m) rl .int⟩
      · rw [if_neg h] at p'
        exact p'.elim
    | _ => exact p.elim
  | _ => exact p.elim
end AW
namespace AW
open PySem PySem.Spec L2
/-! ### arithmetic -/
theorem Rel.seqT {K : PySem.W.Frag} {m : Md} {g : G} {H : Hp} (r : Rel K m g H) {a : Addr} {vs : List V} (h : SqT K m.F a vs) : SqT K H a vs := sqT_le r.ex h
theorem Rel.seqL {K : PySem.W.Frag} {m : Md} {g : G} {H : Hp} (r : Rel K m g H) {a : Addr} {vs : List V} (h : SqL K m.F a vs) : SqL K H a vs := sqL_le r.ex h
/-- a new frozen object -/
def Md.put (m : Md) (p : Addr) (o : HO) : Md := ⟨upd m.F p o, m.r, m.hid⟩
theorem Rel.free {K : PySem.W.Frag} {m : Md} {g : G} {H : Hp} (r : Rel K m g H) {p : Addr} (h : H p = none) : m.F p = none := by
  cases q : m.F p with
  | none => rfl
  | some o => rw [r.ex p o q] at h; cases h
theorem le_put {m : Md} {p : Addr} {o : HO} (h : m.F p = none) : Le m (m.put p o) := ⟨fun a u e => by
  show upd m.F p o a = some u
  rw [upd_ne (ne_of_none e h)]
  exact e, fun _ _ h => h, fun _ _ h => h⟩
theorem Rel.put {K : PySem.W.Frag} {m : Md} {g : G} {H : Hp} (r : Rel K m g H) {p : Addr} {o : HO} (h : H p = none) : Rel K (m.put p o) g (upd H p o) where
  ex := fun a u e => by
    by_cases ha : a = p
    · subst ha
      have e' : upd m.F a o a = some u := e
      rw [upd_same] at e' ⊢
      exact e'
    · have e' : upd m.F p o a = some u := e
      rw [upd_ne ha] at e' ⊢
      exact r.ex a u e'
  cell := fun i c hc => by
    obtain ⟨a, h1, h2, u, h3, h4⟩ := r.cell i c hc
    have ha : a ≠ p := ne_of_none h3 h
    refine ⟨a, h1, ?_, u, by rw [upd_ne ha]; exact h3, h4.mono (le_put (r.free h))⟩
    show upd m.F p o a = none
    rw [upd_ne ha]
    exact h2
  dom := r.dom
  inj := r.inj
  hid := fun a u e => by
    obtain ⟨h1, h2, h3⟩ := r.hid a u e
    have ha : a ≠ p := ne_of_none h1 h
    refine ⟨by rw [upd_ne ha]; exact h1, ?_, h3⟩
    show upd m.F p o a = none
    rw [upd_ne ha]
    exact h2
theorem put_tup {K : PySem.W.Frag} {m : Md} {p : Addr} {ds : List D} {vs : List V} (h : m.F p = none) (d : Dens K m ds vs) : Den K (m.put p (.tup vs)) (.tup ds) (.ref p) :=
  .tup (.inl (.inl (by show upd m.F p _ p = _; exact upd_same))) (d.mono (le_put h))
theorem put_lst {K : PySem.W.Frag} {m : Md} {p : Addr} {ds : List D} {vs : List V} (h : m.F p = none) (d : Dens K m ds vs) : Den K (m.put p (.lst vs)) (.lst ds) (.ref p) :=
  .lst (by show upd m.F p _ p = _; exact upd_same) (d.mono (le_put h))
/-- the end: a new tuple, a new list -/
theorem fin_tup {K : PySem.W.Frag} {W : WX} {σv : L2.St} {m : Md} {g : G} {H : Hp} {ds : List D} {vs : List V} {Q : VK} (r : Rel K m g H) (d : Dens K m ds vs) (p : Post K W σv (Den K) (.ok (.tup ds) g) m Q) : ∀ a, H a = none → Q (.ref a) (upd H a (.tup vs)) := fun a h =>
  p _ _ _ (le_put (r.free h)) (r.put h) (put_tup (r.free h) d)
theorem fin_lst {K : PySem.W.Frag} {W : WX} {σv : L2.St} {m : Md} {g : G} {H : Hp} {ds : List D} {vs : List V} {Q : VK} (r : Rel K m g H) (d : Dens K m ds vs) (p : Post K W σv (Den K) (.ok (.lst ds) g) m Q) : ∀ a, H a = none → Q (.ref a) (upd H a (.lst vs)) := fun a h =>
  p _ _ _ (le_put (r.free h)) (r.put h) (put_lst (r.free h) d)
theorem fin_ok {α β : Type} {K : PySem.W.Frag} {W : WX} {σv : L2.St} {R : Md → α → β → Prop} {m : Md} {g : G} {H : Hp} {d : α} {v : β} {Q : β → Hp → Prop} (r : Rel K m g H) (h : R m d v) (p : Post K W σv R (.ok d g) m Q) : Q v H := p m H v (Le.refl m) r h
def small (xs : List D) : Bool := decide (xs.length ≤ 100000)
theorem small_line {xs : List D} {vs : List V} {K : PySem.W.Frag} {m : Md} (h : small xs = true) (d : Dens K m xs vs) : vs.length ≤ sizeLine := by
  rw [← d.length, sizeLine_eq]
  have := of_decide_eq_true h
  omega
def okIf {α : Type} (c : Bool) (d : α) (g : G) : Res α := match c with
  | true => .ok d g
  | false => .no
theorem okIf_post {α β : Type} {K : PySem.W.Frag} {W : WX} {σv : L2.St} {R : Md → α → β → Prop} {m : Md} {g : G} {d : α} {Q : β → Hp → Prop} {c : Bool} (p : Post K W σv R (okIf c d g) m Q) : c = true ∧ Post K W σv R (.ok d g) m Q := by
  cases c with
  | true => exact ⟨rfl, p⟩
  | false => exact p.elim
/-- the items of a list that stands in the heap -/
def lsOf (g : G) : D → Option (List D)
  | .lst xs => some xs
  | .ref i => match g[i]? with
    | some (.lst xs) => some xs
    | _ => none
  | _ => none
theorem lsOf_s {K : PySem.W.Frag} {m : Md} {g : G} {H : Hp} {d : D} {v : V} {xs : List D} (r : Rel K m g H) (h : Den K m d v) (e : lsOf g d = some xs) : ∃ p vs, v = .ref p ∧ H p = some (.lst vs) ∧ Dens K m xs vs := by
  cases h with
  | lst h1 h2 =>
    cases e
    exact ⟨_, _, rfl, r.ex _ _ h1, h2⟩
  | ref h1 =>
    rename_i i a
    have e' : (match g[i]? with | some (.lst xs) => some xs | _ => none) = some xs := e
    split at e'
    · rename_i ys hy
      cases e'
      obtain ⟨a', h2, _, o, h3, vs, h4, h5⟩ := r.cell _ _ hy
      rw [h1] at h2
      cases h2
      subst h4
      exact ⟨_, _, rfl, h3, h5⟩
    · cases e'
  | _ => cases e
/-- the items of anything that is read as a list -/
def lqOf (g : G) : D → Option (List D)
  | .seq xs => some xs
  | d => lsOf g d
theorem lqOf_s {K : PySem.W.Frag} {m : Md} {g : G} {H : Hp} {d : D} {v : V} {xs : List D} (r : Rel K m g H) (h : Den K m d v) (e : lqOf g d = some xs) : ∃ p vs, v = .ref p ∧ SqL K H p vs ∧ Dens K m xs vs := by
  cases d with
  | seq ys =>
    cases e
    cases h with
    | seq h1 h2 => exact ⟨_, _, rfl, r.seqL h1, h2⟩
  | _ =>
    obtain ⟨p, vs, h1, h2, h3⟩ := lsOf_s r h e
    exact ⟨p, vs, h1, SqL.of h2, h3⟩
/-- the items of a list or a tuple -/
def sqOf (g : G) : D → Option (List D)
  | .tup xs => some xs
  | d => lqOf g d
theorem sqOf_s {K : PySem.W.Frag} {m : Md} {g : G} {H : Hp} {d : D} {v : V} {xs : List D} (r : Rel K m g H) (h : Den K m d v) (e : sqOf g d = some xs) : ∃ p vs, v = .ref p ∧ (SqL K H p vs ∨ SqT K H p vs) ∧ Dens K m xs vs := by
  cases d with
  | tup ys =>
    cases e
    cases h with
    | tup h1 h2 => exact ⟨_, _, rfl, .inr (r.seqT h1), h2⟩
  | _ =>
    obtain ⟨p, vs, h1, h2, h3⟩ := lqOf_s r h e
    exact ⟨p, vs, h1, .inl h2, h3⟩
/-- + -/
def oAddL (g : G) (x y : D) : Res D := match lsOf g x, lsOf g y with
  | some xs, some ys => okIf (small (xs ++ ys)) (.lst (xs ++ ys)) g
  | _, _ => .no
def oAdd : Op2 := fun x y g => match x, y with
  | .int i, .int j => .ok (.int (i + j)) g
  | .int i, .bl k => .ok (.int (i + PyProof.Rows.b2i k)) g
  | .str a, .str b => okIf (decide (a.length + b.length ≤ 100000)) (.str (a ++ b)) g
  | .tup xs, .tup ys => okIf (small (xs ++ ys)) (.tup (xs ++ ys)) g
  | x, y => oAddL g x y
def rAdd1 (K : PySem.W.Frag) : R2 := fun x y H Q => (rI0 (fun i j => .int (i + j)) x y H Q ∨ (∃ i k, x = .int i ∧ y = .bl k ∧ Q (.int (i + PyProof.Rows.b2i k)) H)) ∨ ((∃ i j, x = .str i ∧ y = .str j ∧ i.length + j.length ≤ sizeLine ∧ Q (.str (i ++ j)) H) ∨ (rCatA K x y H Q ∨ rCat x y H Q))
theorem op_add1 {X : Cx} : OpR X (binaryOp .Add) (rAdd1 X.K) := opR_or (opR_or op_add op_add_ib) (opR_or op_add_str (opR_or op_catA op_cat))
theorem line5 {n : Nat} (h : n ≤ 100000) : n ≤ sizeLine := by rw [sizeLine_eq]; omega
theorem small_app {K : PySem.W.Frag} {m : Md} {xs ys : List D} {vs ws : List V} (h : small (xs ++ ys) = true) (a : Dens K m xs vs) (b : Dens K m ys ws) : vs.length + ws.length ≤ sizeLine := by
  have := small_line h (a.append b)
  rw [List.length_append] at this
  exact this
theorem oAddL_s {K : PySem.W.Frag} {W : WX} {σv : L2.St} {m : Md} {g : G} {H : Hp} {d e : D} {x y : V} {Q : VK} (rl : Rel K m g H) (hd : Den K m d x) (he : Den K m e y) (p : Post K W σv (Den K) (oAddL g d e) m Q) : rAdd1 K x y H Q := by
  unfold oAddL at p
  split at p
  · rename_i xs ys e1 e2
    obtain ⟨c, p⟩ := okIf_post p
    obtain ⟨a, vs, rfl, ha, da⟩ := lsOf_s rl hd e1
    obtain ⟨b, ws, rfl, hb, db⟩ := lsOf_s rl he e2
    exact .inr (.inr (.inr ⟨a, b, vs, ws, rfl, rfl, ha, hb, small_app c da db, fin_lst rl (da.append db) p⟩))
  · exact p.elim
theorem oAdd_s {K : PySem.W.Frag} {W : WX} : OpS K W (rAdd1 K) oAdd := fun σv m g H d e x y Q rl hd he p => by
  unfold oAdd at p
  split at p
  · cases hd; cases he
    exact .inl (.inl ⟨_, _, rfl, rfl, fin_ok rl .int p⟩)
  · cases hd; cases he
    exact .inl (.inr ⟨_, _, rfl, rfl, fin_ok rl .int p⟩)
  · cases hd; cases he
    obtain ⟨c, p⟩ := okIf_post p
    exact .inr (.inl ⟨_, _, rfl, rfl, line5 (of_decide_eq_true c), fin_ok rl .str p⟩)
  · obtain ⟨c, p⟩ := okIf_post p
    cases hd with
    | tup h1 d1 =>
      cases he with
      | tup h2 d2 =>
        rename_i xs ys a vs b ws
        refine .inr (.inr (.inl ⟨a, b, vs, ws, rfl, rfl, rl.seqT h1, rl.seqT h2, small_app c d1 d2, fun z => ?_, fun _ z => ?_, fun _ _ => fin_tup rl (d1.append d2) p⟩))
        · subst z
          cases d1
          exact fin_ok rl (.tup h2 d2) p
        · subst z
          cases d2
          rw [List.append_nil] at p
          exact fin_ok rl (.tup h1 d1) p
  · exact oAddL_s rl hd he p
def oSub : Op2 := oI (fun _ _ => true) (· - ·)
theorem op_sub1 {X : Cx} : OpR X (binaryOp .Sub) (rI (fun _ _ => True) fun i j => .int (i - j)) := opI fun _ _ _ _ _ _ _ _ q => PyProof.Rows.sub_int q
theorem oSub_s {K : PySem.W.Frag} {W : WX} : OpS K W (rI (fun _ _ => True) fun i j => .int (i - j)) oSub := oI_s fun _ _ _ => trivial
def cMul (i j : Int) : Bool := decide (i.natAbs.log2 + j.natAbs.log2 < 1000000)
theorem cMul_ok {i j : Int} (h : cMul i j = true) : CMulW i j := by
  have h' : i.natAbs.log2 + j.natAbs.log2 < 1000000 := of_decide_eq_true h
  exact h'
/-- * -/
def oMulL (g : G) (x : D) (k : Int) : Res D := match lsOf g x with
  | some xs => okIf (decide (-1000 ≤ k) && decide (k ≤ 100000) && decide (xs.length * k.toNat ≤ 100000)) (.lst (List.replicate k.toNat xs).flatten) g
  | _ => .no
def oMul : Op2 := fun x y g => match x, y with
  | .int i, .int j => okIf (cMul i j) (.int (i * j)) g
  | x, .int k => oMulL g x k
  | _, _ => .no
def rMul1 : R2 := fun x y H Q => rI CMulW (fun i j => .int (i * j)) x y H Q ∨ rRep x y H Q
theorem op_mul1 {X : Cx} : OpR X (binaryOp .Mult) rMul1 := opR_or op_mulW op_rep
theorem Dens.rep {K : PySem.W.Frag} {m : Md} {xs : List D} {vs : List V} (h : Dens K m xs vs) : ∀ n : Nat, Dens K m (List.replicate n xs).flatten (List.replicate n vs).flatten
  | 0 => .nil
  | n + 1 => by
    rw [List.replicate_succ, List.replicate_succ, List.flatten_cons, List.flatten_cons]
    exact h.append (Dens.rep h n)
theorem oMul_s {K : PySem.W.Frag} {W : WX} : OpS K W rMul1 oMul := fun σv m g H d e x y Q rl hd he p => by
  unfold oMul at p
  split at p
  · cases hd; cases he
    obtain ⟨c, p⟩ := okIf_post p
    exact .inl ⟨_, _, rfl, rfl, cMul_ok c, fin_ok rl .int p⟩
  · cases he
    unfold oMulL at p
    split at p
    · rename_i xs e1
      obtain ⟨c, p⟩ := okIf_post p
      rw [Bool.and_eq_true, Bool.and_eq_true] at c
      obtain ⟨⟨c1, c2⟩, c3⟩ := c
      have c1 := of_decide_eq_true c1
      have c2 := of_decide_eq_true c2
      have c3 := of_decide_eq_true c3
      obtain ⟨a, vs, rfl, ha, da⟩ := lsOf_s rl hd e1
      exact .inr ⟨a, _, vs, rfl, rfl, ha, by omega, by omega, by rw [← da.length]; exact line5 c3, fin_lst rl (da.rep _) p⟩
    · exact p.elim
  · exact p.elim
/-- // and % by any divisor but 0 (// below 2 ^ 9000) -/
def cDiv (_ j : Int) : Bool := decide (j ≠ 0) && decide (j.natAbs.log2 < 9000)
def oFdiv : Op2 := oI cDiv Int.fdiv
theorem op_fdiv1 {X : Cx} : OpR X (binaryOp .FloorDiv) (rI (fun _ j => j ≠ 0 ∧ j.natAbs.log2 < 9000) fun i j => .int (i.fdiv j)) := opI fun i j _ _ _ _ _ hc q =>
  PyProof.Rows.floordiv_int hc.1 q (.inl (PyProof.noPylong_of_log2 hc.2))
theorem iop_fdiv1 {X : Cx} : OpR X (inplaceOp .FloorDiv) (rI (fun _ j => j ≠ 0 ∧ j.natAbs.log2 < 9000) fun i j => .int (i.fdiv j)) := opI fun i j _ _ _ _ _ hc q =>
  PyProof.Rows.ifloordiv_int hc.1 q (.inl (PyProof.noPylong_of_log2 hc.2))
theorem oFdiv_s {K : PySem.W.Frag} {W : WX} : OpS K W (rI (fun _ j => j ≠ 0 ∧ j.natAbs.log2 < 9000) fun i j => .int (i.fdiv j)) oFdiv := oI_s fun i j h => by
  unfold cDiv at h
  rw [Bool.and_eq_true] at h
  exact ⟨of_decide_eq_true h.1, of_decide_eq_true h.2⟩
def oMod : Op2 := oI (fun _ j => decide (j ≠ 0)) Int.fmod
theorem oMod_s {K : PySem.W.Frag} {W : WX} : OpS K W (rI (fun _ j => j ≠ 0) fun i j => .int (i.fmod j)) oMod := oI_s fun i j h => of_decide_eq_true h
def cPow (i j : Int) : Bool := decide (0 ≤ j) && decide (((i.natAbs.log2 : Int) + 1) * j ≤ 1000000)
def oPow : Op2 := oI cPow fun i j => i ^ j.toNat
theorem op_pow1 {X : Cx} : OpR X (binaryOp .Pow) (rI (fun i j => cPow i j = true) fun i j => .int (i ^ j.toNat)) := opI fun i j _ _ _ _ _ hc q => by
  unfold cPow at hc
  rw [Bool.and_eq_true] at hc
  have h1 := of_decide_eq_true hc.1
  have h2 := of_decide_eq_true hc.2
  refine PyProof.Rows.pow_int h1 ?_ q
  have b : Builtin.Int.intBits i ≤ i.natAbs.log2 + 1 := by
    unfold Builtin.Int.intBits
    split <;> omega
  have b2 : (Builtin.Int.intBits i : Int) * j ≤ ((i.natAbs.log2 : Int) + 1) * j := Int.mul_le_mul_of_nonneg_right (by omega) h1
  have e : (2 : Int) ^ 27 = 134217728 := by decide
  rw [e]
  omega
theorem oPow_s {K : PySem.W.Frag} {W : WX} : OpS K W (rI (fun i j => cPow i j = true) fun i j => .int (i ^ j.toNat)) oPow := oI_s fun i j h => h
def cShl (i j : Int) : Bool := decide (0 ≤ j) && decide ((i.natAbs.log2 : Int) + j ≤ 1000000)
def oShl : Op2 := oI cShl fun i j => i * 2 ^ j.toNat
theorem cShl_ok {i j : Int} (h : cShl i j = true) : CShl i j := by
  unfold cShl at h
  rw [Bool.and_eq_true] at h
  have h1 := of_decide_eq_true h.1
  have h2 := of_decide_eq_true h.2
  have b : Builtin.Int.intBits i ≤ i.natAbs.log2 + 1 := by
    unfold Builtin.Int.intBits
    split <;> omega
  have e : (2 : Int) ^ 27 = 134217728 := by decide
  refine ⟨h1, ?_⟩
  rw [e]
  omega
theorem oShl_s {K : PySem.W.Frag} {W : WX} : OpS K W (rI CShl fun i j => .int (i * 2 ^ j.toNat)) oShl := oI_s fun i j h => cShl_ok h
def oShr : Op2 := oI (fun _ j => decide (0 ≤ j)) fun i j => i / 2 ^ j.toNat
theorem oShr_s {K : PySem.W.Frag} {W : WX} : OpS K W (rI (fun _ j => 0 ≤ j) fun i j => .int (i / 2 ^ j.toNat)) oShr := oI_s fun i j h => of_decide_eq_true h
def oI0 (f : Int → Int → Int) : Op2 := fun x y g => match x, y with
  | .int i, .int j => .ok (.int (f i j)) g
  | _, _ => .no
def oB0 (f : Int → Int → Bool) : Op2 := fun x y g => match x, y with
  | .int i, .int j => .ok (.bl (f i j)) g
  | _, _ => .no
theorem oI0_s {K : PySem.W.Frag} {W : WX} {f : Int → Int → Int} : OpS K W (rI0 fun i j => .int (f i j)) (oI0 f) := fun σv m g H d e x y Q rl hd he p => by
  unfold oI0 at p
  split at p
  · cases hd; cases he
    exact ⟨_, _, rfl, rfl, fin_ok rl .int p⟩
  · exact p.elim
theorem oB0_s {K : PySem.W.Frag} {W : WX} {f : Int → Int → Bool} : OpS K W (rI0 fun i j => .bl (f i j)) (oB0 f) := fun σv m g H d e x y Q rl hd he p => by
  unfold oB0 at p
  split at p
  · cases hd; cases he
    exact ⟨_, _, rfl, rfl, fin_ok rl .bl p⟩
  · exact p.elim
abbrev oAnd : Op2 := oI0 Builtin.bitAnd
abbrev oOr : Op2 := oI0 Builtin.bitOr
abbrev oXor : Op2 := oI0 Builtin.bitXor
section
variable {X : Cx} {W : WX} {a b : Expr} {ea eb : Ev} {pos : Pos}
theorem x_add (ha : PE X a (tE X.K W ea)) (hb : PE X b (tE X.K W eb)) : PE X (.BinOp a .Add b pos) (tE X.K W (eOp oAdd ea eb)) := x_op op_add1 oAdd_s ha hb
theorem x_sub (ha : PE X a (tE X.K W ea)) (hb : PE X b (tE X.K W eb)) : PE X (.BinOp a .Sub b pos) (tE X.K W (eOp oSub ea eb)) := x_op op_sub1 oSub_s ha hb
theorem x_mul (ha : PE X a (tE X.K W ea)) (hb : PE X b (tE X.K W eb)) : PE X (.BinOp a .Mult b pos) (tE X.K W (eOp oMul ea eb)) := x_op op_mul1 oMul_s ha hb
theorem x_fdiv (ha : PE X a (tE X.K W ea)) (hb : PE X b (tE X.K W eb)) : PE X (.BinOp a .FloorDiv b pos) (tE X.K W (eOp oFdiv ea eb)) := x_op op_fdiv1 oFdiv_s ha hb
theorem x_mod (ha : PE X a (tE X.K W ea)) (hb : PE X b (tE X.K W eb)) : PE X (.BinOp a .Mod b pos) (tE X.K W (eOp oMod ea eb)) := x_op op_modN oMod_s ha hb
theorem x_pow (ha : PE X a (tE X.K W ea)) (hb : PE X b (tE X.K W eb)) : PE X (.BinOp a .Pow b pos) (tE X.K W (eOp oPow ea eb)) := x_op op_pow1 oPow_s ha hb
theorem x_shl (ha : PE X a (tE X.K W ea)) (hb : PE X b (tE X.K W eb)) : PE X (.BinOp a .LShift b pos) (tE X.K W (eOp oShl ea eb)) := x_op op_shlW oShl_s ha hb
theorem x_shr (ha : PE X a (tE X.K W ea)) (hb : PE X b (tE X.K W eb)) : PE X (.BinOp a .RShift b pos) (tE X.K W (eOp oShr ea eb)) := x_op op_shr oShr_s ha hb
theorem x_bitand (ha : PE X a (tE X.K W ea)) (hb : PE X b (tE X.K W eb)) : PE X (.BinOp a .BitAnd b pos) (tE X.K W (eOp oAnd ea eb)) := x_op op_and oI0_s ha hb
theorem x_bitor (ha : PE X a (tE X.K W ea)) (hb : PE X b (tE X.K W eb)) : PE X (.BinOp a .BitOr b pos) (tE X.K W (eOp oOr ea eb)) := x_op op_or oI0_s ha hb
theorem x_bitxor (ha : PE X a (tE X.K W ea)) (hb : PE X b (tE X.K W eb)) : PE X (.BinOp a .BitXor b pos) (tE X.K W (eOp oXor ea eb)) := x_op op_xor oI0_s ha hb
end
/-- -x -/
def oNeg : Op1 := fun x g => match x with
  | .int i => .ok (.int (-i)) g
  | _ => .no
theorem oNeg_s {K : PySem.W.Frag} {W : WX} : UnS K W (rU fun i => .int (-i)) oNeg := fun σv m g H d x Q rl hd p => by
  unfold oNeg at p
  split at p
  · cases hd
    exact ⟨_, rfl, fin_ok rl .int p⟩
  · exact p.elim
theorem x_neg {X : Cx} {W : WX} {a : Expr} {ea : Ev} {pos : Pos} (ha : PE X a (tE X.K W ea)) : PE X (.UnaryOp .USub a pos) (tE X.K W (eUn oNeg ea)) := x_un un_neg oNeg_s ha
/-! ### truth -/
def truth (g : G) : D → Option Bool
  | .non => some false
  | .bl b => some b
  | .int i => some (i != 0)
  | .str y => if y.length ≤ 100000 then some ((y.length : Int) != 0) else none
  | d => match sqOf g d with
    | some xs => some (!xs.isEmpty)
    | none => none
theorem dens_empty {K : PySem.W.Frag} {m : Md} {xs : List D} {vs : List V} (h : Dens K m xs vs) : (!xs.isEmpty) = !vs.isEmpty := by
  cases h <;> rfl
theorem truth_s {K : PySem.W.Frag} {m : Md} {g : G} {H : Hp} {d : D} {v : V} {b : Bool} (r : Rel K m g H) (h : Den K m d v) (e : truth g d = some b) : TruV K v H b := by
  unfold truth at e
  split at e
  · cases h; cases e; rfl
  · cases h; cases e; rfl
  · cases h; cases e; rfl
  · cases h
    split at e
    · cases e
      rename_i hl
      exact ⟨line5 hl, rfl⟩
    · cases e
  · split at e
    · rename_i xs hx
      cases e
      obtain ⟨p, vs, rfl, h1, h2⟩ := sqOf_s r h hx
      rcases h1 with h1 | h1
      · exact .inl ⟨vs, h1, dens_empty h2⟩
      · exact .inr (.inl ⟨vs, h1, dens_empty h2⟩)
    · cases e
def trR (g : G) (d : D) : Res Bool := match truth g d with
  | some b => .ok b g
  | none => .no
def eTru (a : Ev) : Tv := fun σ g => (a σ g).bind fun d g1 => trR g1 d
section
variable {X : Cx} {W : WX} {a b : Expr} {ea eb : Ev} {ta tb : Tv} {rest : List Expr} {pos : Pos}
theorem trR_s {K : PySem.W.Frag} {σv : L2.St} {m : Md} {g : G} {H : Hp} {d : D} {v : V} {Q : Bool → Hp → Prop} (rl : Rel K m g H) (hd : Den K m d v) (p : Post K W σv (fun _ a b => a = b) (trR g d) m Q) : ∃ k, TruV K v H k ∧ Q k H := by
  unfold trR at p
  split at p
  · rename_i c hc
    exact ⟨c, truth_s rl hd hc, fin_ok rl rfl p⟩
  · exact p.elim
theorem t_tru (ha : PE X a (tE X.K W ea)) (he : ∀ whole, isTrue a X.env whole = (do let v ← whole; standAt a.pos; holding [v] (truthy v)) := by intro _; rfl) : PT X a (tT X.K W (eTru ea)) := PT.imp (pt_truth ha he) fun σ H Q h => by
  obtain ⟨m, σ', g, rl, sl, hl, p⟩ := h
  refine ⟨m, σ', g, rl, sl, hl, Post.bind p fun d g1 m1 H1 x l1 r1 d1 p1 => ?_⟩
  exact trR_s r1 d1 p1
def eAndT (a b : Tv) : Tv := fun σ g => (a σ g).bind fun c g1 => match c with
  | true => b σ g1
  | false => .ok false g1
def eOrT (a b : Tv) : Tv := fun σ g => (a σ g).bind fun c g1 => match c with
  | true => .ok true g1
  | false => b σ g1
def eNotT (a : Tv) : Tv := fun σ g => (a σ g).bind fun c g1 => .ok (!c) g1
theorem w_and (ha : PT X a (tT X.K W ta)) (hb : PW X (.BoolOp .And (b :: rest) pos) (tT X.K W tb)) : PW X (.BoolOp .And (a :: b :: rest) pos) (tT X.K W (eAndT ta tb)) := ⟨fun wh pins s σ H Q I h => (pw_and ha hb).run wh pins s σ H Q I (by
  obtain ⟨m, σ', g, rl, sl, hl, p⟩ := h
  refine ⟨m, σ', g, rl, sl, hl, Post.bind p fun c g1 m1 H1 x l1 r1 d1 p1 => ?_⟩
  cases d1
  cases c with
  | true => exact ⟨m1, σ', g1, r1, sl.mono l1, hl, p1⟩
  | false => exact fin_ok r1 rfl p1)⟩
theorem w_or (ha : PT X a (tT X.K W ta)) (hb : PW X (.BoolOp .Or (b :: rest) pos) (tT X.K W tb)) : PW X (.BoolOp .Or (a :: b :: rest) pos) (tT X.K W (eOrT ta tb)) := ⟨fun wh pins s σ H Q I h => (pw_or ha hb).run wh pins s σ H Q I (by
  obtain ⟨m, σ', g, rl, sl, hl, p⟩ := h
  refine ⟨m, σ', g, rl, sl, hl, Post.bind p fun c g1 m1 H1 x l1 r1 d1 p1 => ?_⟩
  cases d1
  cases c with
  | true => exact fin_ok r1 rfl p1
  | false => exact ⟨m1, σ', g1, r1, sl.mono l1, hl, p1⟩)⟩
theorem w_and1 (ha : PT X a (tT X.K W ta)) : PW X (.BoolOp .And [a] pos) (tT X.K W ta) := pw_and1 ha
theorem w_or1 (ha : PT X a (tT X.K W ta)) : PW X (.BoolOp .Or [a] pos) (tT X.K W ta) := pw_or1 ha
theorem t_not (ha : PT X a (tT X.K W ta)) : PT X (.UnaryOp .Not a pos) (tT X.K W (eNotT ta)) := PT.imp (pt_not ha) fun σ H Q h => by
  obtain ⟨m, σ', g, rl, sl, hl, p⟩ := h
  refine ⟨m, σ', g, rl, sl, hl, Post.bind p fun c g1 m1 H1 x l1 r1 d1 p1 => ?_⟩
  cases d1
  exact fin_ok r1 rfl p1
/-- as values -/
def eAnd (a b : Ev) : Ev := fun σ g => (a σ g).bind fun d g1 => (trR g1 d).bind fun c _ => match c with
  | true => b σ g1
  | false => .ok d g1
def eOr (a b : Ev) : Ev := fun σ g => (a σ g).bind fun d g1 => (trR g1 d).bind fun c _ => match c with
  | true => .ok d g1
  | false => b σ g1
def eNot (a : Ev) : Ev := fun σ g => (a σ g).bind fun d g1 => (trR g1 d).bind fun c _ => .ok (.bl (!c)) g1
theorem tr_case {K : PySem.W.Frag} {σv : L2.St} {m : Md} {g : G} {H : Hp} {d : D} {v : V} {f : Bool → Res D} {Q : VK} (rl : Rel K m g H) (hd : Den K m d v) (p : Post K W σv (Den K) ((trR g d).bind fun c _ => f c) m Q) : ∃ k, TruV K v H k ∧ Post K W σv (Den K) (f k) m Q := by
  unfold trR at p
  cases hc : truth g d with
  | none => rw [hc] at p; exact p.elim
  | some c => rw [hc] at p; exact ⟨c, truth_s rl hd hc, p⟩
theorem x_and (ha : PE X a (tE X.K W ea)) (hb : PE X (.BoolOp .And (b :: rest) pos) (tE X.K W eb)) : PE X (.BoolOp .And (a :: b :: rest) pos) (tE X.K W (eAnd ea eb)) := PE.imp (pe_andT ha hb) fun σ H Q h => by
  obtain ⟨m, σ', g, rl, sl, hl, p⟩ := h
  refine ⟨m, σ', g, rl, sl, hl, Post.bind p fun d g1 m1 H1 x l1 r1 d1 p1 => ?_⟩
  obtain ⟨k, h1, p2⟩ := tr_case r1 d1 p1
  refine ⟨k, h1, ?_⟩
  cases k with
  | true => exact ⟨m1, σ', g1, r1, sl.mono l1, hl, p2⟩
  | false => exact fin_ok r1 d1 p2
theorem x_or (ha : PE X a (tE X.K W ea)) (hb : PE X (.BoolOp .Or (b :: rest) pos) (tE X.K W eb)) : PE X (.BoolOp .Or (a :: b :: rest) pos) (tE X.K W (eOr ea eb)) := PE.imp (pe_orT ha hb) fun σ H Q h => by
  obtain ⟨m, σ', g, rl, sl, hl, p⟩ := h
  refine ⟨m, σ', g, rl, sl, hl, Post.bind p fun d g1 m1 H1 x l1 r1 d1 p1 => ?_⟩
  obtain ⟨k, h1, p2⟩ := tr_case r1 d1 p1
  refine ⟨k, h1, ?_⟩
  cases k with
  | true => exact fin_ok r1 d1 p2
  | false => exact ⟨m1, σ', g1, r1, sl.mono l1, hl, p2⟩
theorem x_one {op} (ha : PE X a (tE X.K W ea)) : PE X (.BoolOp op [a] pos) (tE X.K W ea) := pe_one ha
theorem x_not (ha : PE X a (tE X.K W ea)) : PE X (.UnaryOp .Not a pos) (tE X.K W (eNot ea)) := PE.imp (pe_notT ha) fun σ H Q h => by
  obtain ⟨m, σ', g, rl, sl, hl, p⟩ := h
  refine ⟨m, σ', g, rl, sl, hl, Post.bind p fun d g1 m1 H1 x l1 r1 d1 p1 => ?_⟩
  obtain ⟨k, h1, p2⟩ := tr_case r1 d1 p1
  exact ⟨k, h1, fin_ok r1 .bl p2⟩
def eIf (c : Tv) (a b : Ev) : Ev := fun σ g => (c σ g).bind fun k g1 => match k with
  | true => a σ g1
  | false => b σ g1
theorem x_if {c : Expr} {tc : Tv} (hc : PT X c (tT X.K W tc)) (ha : PE X a (tE X.K W ea)) (hb : PE X b (tE X.K W eb)) : PE X (.IfExp c a b pos) (tE X.K W (eIf tc ea eb)) := PE.imp (pe_ifExp hc ha hb) fun σ H Q h => by
  obtain ⟨m, σ', g, rl, sl, hl, p⟩ := h
  refine ⟨m, σ', g, rl, sl, hl, Post.bind p fun c g1 m1 H1 x l1 r1 d1 p1 => ?_⟩
  cases d1
  cases c with
  | true => exact ⟨m1, σ', g1, r1, sl.mono l1, hl, p1⟩
  | false => exact ⟨m1, σ', g1, r1, sl.mono l1, hl, p1⟩
end
end AW
namespace AW
open PySem PySem.Spec L2
/-! ### == of data -/
mutual
def D.py : D → Option PyData
  | .non => some .none
  | .bl b => some (.bool b)
  | .int i => some (.int i)
  | .str x => some (.str x)
  | .tup xs => match D.pys xs with
    | some ys => some (.tuple ys)
    | none => none
  | .lst xs => match D.pys xs with
    | some ys => some (.list ys)
    | none => none
  | .seq xs => match D.pys xs with
    | some ys => some (.list ys)
    | none => none
  | .ref _ => none
  | .val _ => none
def D.pys : List D → Option (List PyData)
  | [] => some []
  | x :: xs => match D.py x, D.pys xs with
    | some y, some ys => some (y :: ys)
    | _, _ => none
end
mutual
theorem py_s {K : PySem.W.Frag} {m : Md} {H : Hp} (ex : ∀ a o, m.F a = some o → H a = some o) : ∀ {d : D} {v : V} {p : PyData}, Den K m d v → D.py d = some p → Dp K H v p
  | .non, _, _, h, e => by cases h; rw [D.py] at e; cases e; exact .non
  | .bl b, _, _, h, e => by cases h; rw [D.py] at e; cases e; exact .bl _
  | .int i, _, _, h, e => by cases h; rw [D.py] at e; cases e; exact .int _
  | .str x, _, _, h, e => by cases h; rw [D.py] at e; cases e; exact .str _
  | .tup xs, _, _, h, e => by
    cases h with
    | tup h1 h2 =>
      rw [D.py] at e
      split at e
      · rename_i ys hy
        cases e
        exact .tup (sqT_le ex h1) (pys_s ex h2 hy)
      · cases e
  | .lst xs, _, _, h, e => by
    cases h with
    | lst h1 h2 =>
      rw [D.py] at e
      split at e
      · rename_i ys hy
        cases e
        exact .lst (SqL.of (ex _ _ h1)) (pys_s ex h2 hy)
      · cases e
  | .seq xs, _, _, h, e => by
    cases h with
    | seq h1 h2 =>
      rw [D.py] at e
      split at e
      · rename_i ys hy
        cases e
        exact .lst (sqL_le ex h1) (pys_s ex h2 hy)
      · cases e
  | .ref _, _, _, _, e => by rw [D.py] at e; cases e
  | .val _, _, _, _, e => by rw [D.py] at e; cases e
theorem pys_s {K : PySem.W.Frag} {m : Md} {H : Hp} (ex : ∀ a o, m.F a = some o → H a = some o) : ∀ {ds : List D} {vs : List V} {ps : List PyData}, Dens K m ds vs → D.pys ds = some ps → DpAll K H vs ps
  | [], _, _, h, e => by cases h; rw [D.pys] at e; cases e; exact .nil
  | d :: ds, _, _, h, e => by
    cases h with
    | cons h1 h2 =>
      rw [D.pys] at e
      split at e
      · rename_i y ys hy hys
        cases e
        exact .cons (py_s ex h1 hy) (pys_s ex h2 hys)
      · cases e
end
def pyG (g : G) (d : D) : Option PyData := match d with
  | .ref i => match lsOf g (.ref i) with
    | some xs => match D.pys xs with
      | some ys => some (.list ys)
      | none => none
    | none => none
  | d => D.py d
theorem pyG_s {K : PySem.W.Frag} {m : Md} {g : G} {H : Hp} {d : D} {v : V} {p : PyData} (r : Rel K m g H) (h : Den K m d v) (e : pyG g d = some p) : Dp K H v p := by
  unfold pyG at e
  split at e
  · split at e
    · rename_i xs hx
      split at e
      · rename_i ys hy
        cases e
        obtain ⟨a, vs, rfl, h1, h2⟩ := lsOf_s r h hx
        exact .lst (SqL.of h1) (pys_s r.ex h2 hy)
      · cases e
    · cases e
  · exact py_s r.ex h e
def eqD (g : G) (x y : D) : Option Bool := match x, y with
  | .int i, .int j => some (decide (i = j))
  | .bl i, .bl j => some (decide (i = j))
  | .str i, .str j => some (decide (i = j))
  | .non, .non => some true
  | x, y => match pyG g x, pyG g y with
    | some p, some q => if (SeqAt.shaped p && SeqAt.shaped q) = true then some (PyData.eqv p q) else none
    | _, _ => none
def oEq : Op2 := fun x y g => match eqD g x y with
  | some b => .ok (.bl b) g
  | none => .no
def oNe : Op2 := fun x y g => match eqD g x y with
  | some b => .ok (.bl (!b)) g
  | none => .no
def rEq1 (K : PySem.W.Frag) : R2 := fun x y H Q => rEq x y H Q ∨ rEqD K x y H Q
def rNe1 (K : PySem.W.Frag) : R2 := fun x y H Q => rNe x y H Q ∨ rNeD K x y H Q
theorem dec_int' {i j : Int} : decide (V.int i = V.int j) = decide (i = j) := by rw [dec_int]; rfl
theorem dec_bl' {i j : Bool} : decide (V.bl i = V.bl j) = decide (i = j) := by rw [dec_bl]; cases i <;> cases j <;> rfl
theorem dec_str' {i j : Str} : decide (V.str i = V.str j) = decide (i = j) := by rw [Bool.eq_iff_iff]; simp
theorem eqD_s {K : PySem.W.Frag} {m : Md} {g : G} {H : Hp} {d e : D} {x y : V} {b : Bool} (rl : Rel K m g H) (hd : Den K m d x) (he : Den K m e y) (h : eqD g d e = some b) :
    (scal x y = true ∧ decide (x = y) = b) ∨ ∃ p q, Dp K H x p ∧ Dp K H y q ∧ SeqAt.shaped p = true ∧ SeqAt.shaped q = true ∧ PyData.eqv p q = b := by
  unfold eqD at h
  split at h
  · cases hd; cases he; cases h; exact .inl ⟨rfl, dec_int'⟩
  · cases hd; cases he; cases h; exact .inl ⟨rfl, dec_bl'⟩
  · cases hd; cases he; cases h; exact .inl ⟨rfl, dec_str'⟩
  · cases hd; cases he; cases h; exact .inl ⟨rfl, rfl⟩
  · split at h
    · rename_i p q hp hq
      split at h
      · rename_i hs
        cases h
        rw [Bool.and_eq_true] at hs
        exact .inr ⟨p, q, pyG_s rl hd hp, pyG_s rl he hq, hs.1, hs.2, rfl⟩
      · cases h
    · cases h
theorem oEq_s {K : PySem.W.Frag} {W : WX} : OpS K W (rEq1 K) oEq := fun σv m g H d e x y Q rl hd he p => by
  unfold oEq at p
  split at p
  · rename_i b hb
    rcases eqD_s rl hd he hb with ⟨h1, h2⟩ | ⟨a, b', h1, h2, h3, h4, h5⟩
    · refine .inl ⟨h1, ?_⟩
      rw [h2]
      exact fin_ok rl .bl p
    · refine .inr ⟨a, b', h1, h2, h3, h4, ?_⟩
      rw [h5]
      exact fin_ok rl .bl p
  · exact p.elim
theorem oNe_s {K : PySem.W.Frag} {W : WX} : OpS K W (rNe1 K) oNe := fun σv m g H d e x y Q rl hd he p => by
  unfold oNe at p
  split at p
  · rename_i b hb
    rcases eqD_s rl hd he hb with ⟨h1, h2⟩ | ⟨a, b', h1, h2, h3, h4, h5⟩
    · refine .inl ⟨h1, ?_⟩
      rw [h2]
      exact fin_ok rl .bl p
    · refine .inr ⟨a, b', h1, h2, h3, h4, ?_⟩
      rw [h5]
      exact fin_ok rl .bl p
  · exact p.elim
section
variable {X : Cx} {W : WX} {a b c : Expr} {ea eb ec : Ev} {pos : Pos}
theorem op_eq1 (hu : X.A.units + 64 < cLine) : OpR X (compareOp .Eq) (rEq1 X.K) := opR_or op_eq (op_eqD hu)
theorem op_ne1 (hu : X.A.units + 64 < cLine) : OpR X (compareOp .NotEq) (rNe1 X.K) := opR_or op_ne (op_neD hu)
theorem x_cmp {op : CmpOp} {r : R2} {f : Op2} (ho : OpR X (compareOp op) r) (hs : OpS X.K W r f) (ha : PE X a (tE X.K W ea)) (hb : PE X b (tE X.K W eb)) (hm : behindInMarks op b = false) : PE X (.Compare a [op] [b] pos) (tE X.K W (eOp f ea eb)) :=
  PE.imp (pe_cmpR ho ha hb hm) fun _ _ _ h => tOp_of hs h
theorem x_eq (hu : X.A.units + 64 < cLine) (ha : PE X a (tE X.K W ea)) (hb : PE X b (tE X.K W eb)) : PE X (.Compare a [.Eq] [b] pos) (tE X.K W (eOp oEq ea eb)) := x_cmp (op_eq1 hu) oEq_s ha hb (nomark _)
theorem x_ne (hu : X.A.units + 64 < cLine) (ha : PE X a (tE X.K W ea)) (hb : PE X b (tE X.K W eb)) : PE X (.Compare a [.NotEq] [b] pos) (tE X.K W (eOp oNe ea eb)) := x_cmp (op_ne1 hu) oNe_s ha hb (nomark _)
abbrev oLt : Op2 := oB0 fun i j => decide (i < j)
abbrev oLe : Op2 := oB0 fun i j => decide (i ≤ j)
abbrev oGt : Op2 := oB0 fun i j => decide (j < i)
abbrev oGe : Op2 := oB0 fun i j => decide (j ≤ i)
theorem x_lt (ha : PE X a (tE X.K W ea)) (hb : PE X b (tE X.K W eb)) : PE X (.Compare a [.Lt] [b] pos) (tE X.K W (eOp oLt ea eb)) := x_cmp op_lt oB0_s ha hb (nomark _)
theorem x_le (ha : PE X a (tE X.K W ea)) (hb : PE X b (tE X.K W eb)) : PE X (.Compare a [.LtE] [b] pos) (tE X.K W (eOp oLe ea eb)) := x_cmp op_le oB0_s ha hb (nomark _)
theorem x_gt (ha : PE X a (tE X.K W ea)) (hb : PE X b (tE X.K W eb)) : PE X (.Compare a [.Gt] [b] pos) (tE X.K W (eOp oGt ea eb)) := x_cmp op_gt oB0_s ha hb (nomark _)
theorem x_ge (ha : PE X a (tE X.K W ea)) (hb : PE X b (tE X.K W eb)) : PE X (.Compare a [.GtE] [b] pos) (tE X.K W (eOp oGe ea eb)) := x_cmp op_ge oB0_s ha hb (nomark _)
/-- a chain of two -/
def eChain (f f' : Op2) (a b c : Ev) : Ev := fun σ g => (a σ g).bind fun x g1 => (b σ g1).bind fun y g2 => (f x y g2).bind fun z g3 => match z with
  | .bl true => (c σ g3).bind fun w g4 => f' y w g4
  | .bl false => .ok (.bl false) g3
  | _ => .no
theorem x_chain {op op' : CmpOp} {r r' : R2} {f f' : Op2} (ho : OpR X (compareOp op) r) (ho' : OpR X (compareOp op') r') (hs : ∀ σv m g H d e x y Q, Rel X.K m g H → Den X.K m d x → Den X.K m e y → Post X.K W σv (Den X.K) (f d e g) m Q → r x y H Q) (hs' : OpS X.K W r' f')
    (ha : PE X a (tE X.K W ea)) (hb : PE X b (tE X.K W eb)) (hc : PE X c (tE X.K W ec)) (hm : lastMarks [op, op'] [b, c] = false := by with_unfolding_all rfl) : PE X (.Compare a [op, op'] [b, c] pos) (tE X.K W (eChain f f' ea eb ec)) :=
  PE.imp (pe_chain ho ho' ha hb hc hm) fun σ H Q h => by
    obtain ⟨m, σ', g, rl, sl, hl, p⟩ := h
    refine ⟨m, σ', g, rl, sl, hl, Post.bind p fun d g1 m1 H1 x l1 r1 d1 p1 => ?_⟩
    refine ⟨m1, σ', g1, r1, sl.mono l1, hl, Post.bind p1 fun e g2 m2 H2 y l2 r2 d2 p2 => ?_⟩
    refine hs σ m2 g2 H2 d e x y _ r2 (d1.mono l2) d2 (Post.bind p2 fun z g3 m3 H3 zv l3 r3 d3 p3 => ?_)
    split at p3
    · cases d3
      refine ⟨true, rfl, ?_⟩
      rw [if_pos rfl]
      refine ⟨m3, σ', g3, r3, ((sl.mono l1).mono l2).mono l3, hl, Post.bind p3 fun w' g4 m4 H4 wv l4 r4 d4 p4 => ?_⟩
      exact hs' σ m4 g4 H4 e w' y wv Q r4 ((d2.mono l3).mono l4) d4 p4
    · cases d3
      refine ⟨false, rfl, ?_⟩
      rw [if_neg Bool.false_ne_true]
      exact fin_ok r3 .bl p3
    · exact p3.elim
end
/-! ### in -/
def flatD : D → Bool
  | .non => true
  | .bl _ => true
  | .int _ => true
  | .str _ => true
  | _ => false
def eqF : D → D → Bool
  | .non, .non => true
  | .bl a, .bl b => a == b
  | .bl a, .int b => (if a then 1 else 0) == b
  | .int a, .bl b => a == (if b then 1 else 0)
  | .int a, .int b => a == b
  | .str a, .str b => a == b
  | _, _ => false
theorem flat_s {K : PySem.W.Frag} {m : Md} {d : D} {v : V} (h : Den K m d v) (f : flatD d = true) : flatV v = true := by
  cases h <;> first | rfl | exact absurd f Bool.false_ne_true
theorem flats_s {K : PySem.W.Frag} {m : Md} : ∀ {ds : List D} {vs : List V}, Dens K m ds vs → ds.all flatD = true → vs.all flatV = true
  | _, _, .nil, _ => rfl
  | _, _, .cons a t, f => by
    rw [List.all_cons, Bool.and_eq_true] at f ⊢
    exact ⟨flat_s a f.1, flats_s t f.2⟩
theorem eqF_s {K : PySem.W.Frag} {m : Md} {d e : D} {v u : V} (h : Den K m d v) (h' : Den K m e u) (f : flatD d = true) (f' : flatD e = true) : eqV v u = eqF d e := by
  cases h <;> cases h' <;> first | rfl | exact absurd f Bool.false_ne_true | exact absurd f' Bool.false_ne_true
def inF (x : D) (ys : List D) : Bool := ys.any fun y => eqF y x
theorem inF_s {K : PySem.W.Frag} {m : Md} {d : D} {v : V} (h : Den K m d v) (f : flatD d = true) : ∀ {ds : List D} {vs : List V}, Dens K m ds vs → ds.all flatD = true → inV v vs = inF d ds
  | _, _, .nil, _ => rfl
  | _, _, .cons a t, f' => by
    rw [List.all_cons, Bool.and_eq_true] at f'
    have := inF_s h f t f'.2
    unfold inV inF at this ⊢
    rw [List.any_cons, List.any_cons, this, eqF_s a h f'.1 f]
def inDeep (g : G) (x y : D) : Option Bool := match pyG g x, pyG g y with
  | some p, some (.list qs) => if (SeqAt.shaped p && SeqAt.shaped (.list qs)) = true then some (qs.any fun z => PyData.eqv z p) else none
  | _, _ => none
def inD (g : G) (x y : D) : Option (Bool × Bool) := match y with
  | .str j => match x with
    | .str i => some (true, !(Builtin.Str.occurrences j i 0 j.length 1).isEmpty)
    | _ => none
  | y => match sqOf g y with
    | some ys => if (flatD x && ys.all flatD) = true then some (false, inF x ys) else match inDeep g x y with
      | some b => some (false, b)
      | none => none
    | none => none
def oIn (neg : Bool) : Op2 := fun x y g => match inD g x y with
  | some b => .ok (.bl (if neg = true then !b.2 else b.2)) g
  | none => .no
def rIn1 (K : PySem.W.Frag) (neg : Bool) : R2 := fun x y H Q => ((∃ i j, x = .str i ∧ y = .str j ∧ Q (.bl (if neg = true then !(!(Builtin.Str.occurrences j i 0 j.length 1).isEmpty) else (!(Builtin.Str.occurrences j i 0 j.length 1).isEmpty))) H) ∨ rIn K neg x y H Q) ∨
  (∃ d ds, Dp K H x d ∧ Dp K H y (.list ds) ∧ SeqAt.shaped d = true ∧ SeqAt.shaped (.list ds) = true ∧ Q (.bl (if neg = true then !ds.any fun z => PyData.eqv z d else ds.any fun z => PyData.eqv z d)) H)
theorem op_in1 {X : Cx} (hu : X.A.units + 65 < cLine) : OpR X (compareOp .In) (rIn1 X.K false) := opR_or (opR_or op_in_str op_in_seq) (op_inD hu)
theorem op_nin1 {X : Cx} (hu : X.A.units + 65 < cLine) : OpR X (compareOp .NotIn) (rIn1 X.K true) := opR_or (opR_or op_notin_str op_notIn_seq) (op_notInD hu)
theorem oIn_s {K : PySem.W.Frag} {W : WX} {neg : Bool} : OpS K W (rIn1 K neg) (oIn neg) := fun σv m g H d e x y Q rl hd he p => by
  unfold oIn at p
  split at p
  · rename_i b hb
    unfold inD at hb
    split at hb
    · split at hb
      · cases hb
        cases hd; cases he
        exact .inl (.inl ⟨_, _, rfl, rfl, fin_ok rl .bl p⟩)
      · cases hb
    · split at hb
      · rename_i ys hy
        split at hb
        · rename_i hf
          cases hb
          rw [Bool.and_eq_true] at hf
          obtain ⟨a, vs, rfl, h1, h2⟩ := sqOf_s rl he hy
          refine .inl (.inr ⟨a, vs, rfl, h1, flat_s hd hf.1, flats_s h2 hf.2, ?_⟩)
          rw [inF_s hd hf.1 h2 hf.2]
          exact fin_ok rl .bl p
        · split at hb
          · rename_i c hc
            cases hb
            unfold inDeep at hc
            split at hc
            · rename_i p' qs hp hq
              split at hc
              · rename_i hs
                cases hc
                rw [Bool.and_eq_true] at hs
                exact .inr ⟨p', qs, pyG_s rl hd hp, pyG_s rl he hq, hs.1, hs.2, fin_ok rl .bl p⟩
              · cases hc
            · cases hc
          · cases hb
      · cases hb
  · exact p.elim
section
variable {X : Cx} {W : WX} {a b c : Expr} {ea eb ec : Ev} {pos : Pos}
theorem x_in (hu : X.A.units + 65 < cLine) (ha : PE X a (tE X.K W ea)) (hb : PE X b (tE X.K W eb)) (hm : behindInMarks .In b = false := by with_unfolding_all rfl) : PE X (.Compare a [.In] [b] pos) (tE X.K W (eOp (oIn false) ea eb)) := x_cmp (op_in1 hu) oIn_s ha hb hm
theorem x_nin (hu : X.A.units + 65 < cLine) (ha : PE X a (tE X.K W ea)) (hb : PE X b (tE X.K W eb)) (hm : behindInMarks .NotIn b = false := by with_unfolding_all rfl) : PE X (.Compare a [.NotIn] [b] pos) (tE X.K W (eOp (oIn true) ea eb)) := x_cmp (op_nin1 hu) oIn_s ha hb hm
/-- is None -/
def isNon : D → Option Bool
  | .non => some true
  | .val _ => none
  | _ => some false
def oIs (neg : Bool) : Op2 := fun x y g => match y with
  | .non => match isNon x with
    | some b => .ok (.bl (if neg = true then !b else b)) g
    | none => .no
  | _ => .no
theorem isNon_s {K : PySem.W.Frag} {m : Md} {d : D} {v : V} {b : Bool} (h : Den K m d v) (e : isNon d = some b) : decide (v = .non) = b := by
  cases h <;> cases e <;> first | rfl | (exact decide_eq_false (fun z => nomatch z))
theorem oIs_s {K : PySem.W.Frag} {W : WX} : OpS K W (fun x y H Q => y = .non ∧ Q (.bl (decide (x = .non))) H) (oIs false) := fun σv m g H d e x y Q rl hd he p => by
  unfold oIs at p
  split at p
  · split at p
    · rename_i b hb
      cases he
      refine ⟨rfl, ?_⟩
      rw [isNon_s hd hb]
      exact fin_ok rl .bl p
    · exact p.elim
  · exact p.elim
theorem oIsn_s {K : PySem.W.Frag} {W : WX} : OpS K W (fun x y H Q => y = .non ∧ Q (.bl (!decide (x = .non))) H) (oIs true) := fun σv m g H d e x y Q rl hd he p => by
  unfold oIs at p
  split at p
  · split at p
    · rename_i b hb
      cases he
      refine ⟨rfl, ?_⟩
      rw [isNon_s hd hb]
      exact fin_ok rl .bl p
    · exact p.elim
  · exact p.elim
theorem x_is (ha : PE X a (tE X.K W ea)) (hb : PE X b (tE X.K W eb)) : PE X (.Compare a [.Is] [b] pos) (tE X.K W (eOp (oIs false) ea eb)) := x_cmp op_isN oIs_s ha hb (nomark _)
theorem x_isn (ha : PE X a (tE X.K W ea)) (hb : PE X b (tE X.K W eb)) : PE X (.Compare a [.IsNot] [b] pos) (tE X.K W (eOp (oIs true) ea eb)) := x_cmp op_notN oIsn_s ha hb (nomark _)
end
/-! ### argument lists, displays -/
def aNil : Av := fun _ g => .ok [] g
def aCons (a : Ev) (r : Av) : Av := fun σ g => (a σ g).bind fun x g1 => (r σ g1).bind fun xs g2 => .ok (x :: xs) g2
def eTup (t : Av) : Ev := fun σ g => (t σ g).bind fun xs g1 => okIf (small xs) (.tup xs) g1
def eLst (t : Av) : Ev := fun σ g => (t σ g).bind fun xs g1 => okIf (small xs) (.lst xs) g1
/-- a list that will change -/
def eLstM (t : Av) : Ev := fun σ g => (t σ g).bind fun xs g1 => okIf (small xs) (.ref g1.length) (g1 ++ [.lst xs])
def Md.cell (m : Md) (n : Nat) (p : Addr) : Md := ⟨m.F, fun i => if i = n then some p else m.r i, m.hid⟩
theorem Rel.fresh {K : PySem.W.Frag} {m : Md} {g : G} {H : Hp} (r : Rel K m g H) : m.r g.length = none := by
  cases q : m.r g.length with
  | none => rfl
  | some a => exact absurd (r.dom _ _ q) (Nat.lt_irrefl _)
theorem le_cell {m : Md} {n : Nat} {p : Addr} (h : m.r n = none) : Le m (m.cell n p) := ⟨fun _ _ h => h, fun i a e => by
  show (if i = n then some p else m.r i) = some a
  rw [if_neg (fun z => by rw [z, h] at e; cases e)]
  exact e, fun _ _ h => h⟩
theorem Rel.cellAdd {K : PySem.W.Frag} {m : Md} {g : G} {H : Hp} (r : Rel K m g H) {p : Addr} {c : Cell} {o : HO} (h : H p = none) (ok : CellOk K m c o) : Rel K (m.cell g.length p) (g ++ [c]) (upd H p o) where
  ex := fun a u e => by
    have e' : m.F a = some u := e
    rw [upd_ne (ne_of_none (r.ex a u e') h)]
    exact r.ex a u e'
  cell := fun i d hd => by
    by_cases hi : i < g.length
    · rw [List.getElem?_append_left hi] at hd
      obtain ⟨a, h1, h2, u, h3, h4⟩ := r.cell i d hd
      refine ⟨a, ?_, h2, u, by rw [upd_ne (ne_of_none h3 h)]; exact h3, h4.mono (le_cell r.fresh)⟩
      show (if i = g.length then some p else m.r i) = some a
      rw [if_neg (by omega)]
      exact h1
    · have hlt : i < (g ++ [c]).length := (List.getElem?_eq_some_iff.mp hd).1
      have hi2 : i = g.length := by rw [List.length_append] at hlt; simp at hlt; omega
      subst hi2
      rw [List.getElem?_append_right (Nat.le_refl _)] at hd
      simp at hd
      subst hd
      refine ⟨p, ?_, r.free h, o, upd_same, ok.mono (le_cell r.fresh)⟩
      show (if g.length = g.length then some p else m.r g.length) = some p
      rw [if_pos rfl]
  dom := fun i a e => by
    have e' : (if i = g.length then some p else m.r i) = some a := e
    rw [List.length_append]
    by_cases hi : i = g.length
    · simp [hi]
    · rw [if_neg hi] at e'
      have := r.dom i a e'
      simp
      omega
  inj := fun i j a e1 e2 => by
    have e1' : (if i = g.length then some p else m.r i) = some a := e1
    have e2' : (if j = g.length then some p else m.r j) = some a := e2
    have old : ∀ k, m.r k = some p → False := fun k hk => by
      have hk1 := r.dom k p hk
      obtain ⟨a', h1, _, o', h3, _⟩ := r.cell k g[k] (by simp [hk1])
      rw [hk] at h1
      cases h1
      rw [h] at h3
      cases h3
    by_cases hi : i = g.length
    · rw [if_pos hi] at e1'
      cases e1'
      by_cases hj : j = g.length
      · omega
      · rw [if_neg hj] at e2'
        exact (old j e2').elim
    · rw [if_neg hi] at e1'
      by_cases hj : j = g.length
      · rw [if_pos hj] at e2'
        cases e2'
        exact (old i e1').elim
      · rw [if_neg hj] at e2'
        exact r.inj i j a e1' e2'
  hid := fun a u e => by
    obtain ⟨h1, h2, h3⟩ := r.hid a u e
    have ha : a ≠ p := ne_of_none h1 h
    refine ⟨by rw [upd_ne ha]; exact h1, h2, fun i e2 => ?_⟩
    have e2' : (if i = g.length then some p else m.r i) = some a := e2
    by_cases hi : i = g.length
    · rw [if_pos hi] at e2'
      exact ha (Option.some.inj e2').symm
    · rw [if_neg hi] at e2'
      exact h3 i e2'
theorem den_cell {K : PySem.W.Frag} {m : Md} {n : Nat} {p : Addr} : Den K (m.cell n p) (.ref n) (.ref p) := .ref (by show (if n = n then some p else m.r n) = some p; rw [if_pos rfl])
section
variable {X : Cx} {W : WX} {e : Expr} {es : List Expr} {ee : Ev} {t : Av} {pos : Pos}
theorem a_nil : PA X [] (tA X.K W aNil) := PA.imp pa_nil fun σ H Q h => by
  obtain ⟨m, σ', g, rl, sl, hl, p⟩ := h
  exact fin_ok rl .nil p
theorem a_cons (ha : PE X e (tE X.K W ee)) (hr : PA X es (tA X.K W t)) (hs : starEach (e :: es) X.env = (false, eval e X.env) :: starEach es X.env := by rfl) : PA X (e :: es) (tA X.K W (aCons ee t)) := PA.imp (pa_cons ha hr hs) fun σ H Q h => by
  obtain ⟨m, σ', g, rl, sl, hl, p⟩ := h
  refine ⟨m, σ', g, rl, sl, hl, Post.bind p fun d g1 m1 H1 x l1 r1 d1 p1 => ?_⟩
  refine ⟨m1, σ', g1, r1, sl.mono l1, hl, Post.bind p1 fun ds g2 m2 H2 xs l2 r2 d2 p2 => ?_⟩
  exact fin_ok r2 (.cons (d1.mono l2) d2) p2
theorem x_tup {x1} (h : PA X es (tA X.K W t)) : PE X (.Tuple es x1 pos) (tE X.K W (eTup t)) := PE.imp (pe_tup h) fun σ H Q h => by
  obtain ⟨m, σ', g, rl, sl, hl, p⟩ := h
  refine ⟨m, σ', g, rl, sl, hl, Post.bind p fun ds g1 m1 H1 xs l1 r1 d1 p1 => ?_⟩
  obtain ⟨c, p1⟩ := okIf_post p1
  exact ⟨small_line c d1, fin_tup r1 d1 p1⟩
theorem x_lst (h : PA X es (tA X.K W t)) : PE X (.List es pos) (tE X.K W (eLst t)) := PE.imp (pe_lst h) fun σ H Q h => by
  obtain ⟨m, σ', g, rl, sl, hl, p⟩ := h
  refine ⟨m, σ', g, rl, sl, hl, Post.bind p fun ds g1 m1 H1 xs l1 r1 d1 p1 => ?_⟩
  obtain ⟨c, p1⟩ := okIf_post p1
  exact ⟨small_line c d1, fin_lst r1 d1 p1⟩
theorem x_lstM (h : PA X es (tA X.K W t)) : PE X (.List es pos) (tE X.K W (eLstM t)) := PE.imp (pe_lst h) fun σ H Q h => by
  obtain ⟨m, σ', g, rl, sl, hl, p⟩ := h
  refine ⟨m, σ', g, rl, sl, hl, Post.bind p fun ds g1 m1 H1 xs l1 r1 d1 p1 => ?_⟩
  obtain ⟨c, p1⟩ := okIf_post p1
  exact ⟨small_line c d1, fun a ha => p1 _ _ _ (le_cell r1.fresh) (r1.cellAdd ha ⟨xs, rfl, d1⟩) den_cell⟩
end
/-! ### subscripts -/
def strAt (z : Str) (i : Int) (g : G) : Res D := if z.length ≤ 100000 then match atI z.cps.toList i with
  | some c => .ok (.str ⟨#[c]⟩) g
  | none => .no else .no
def oIx : Op2 := fun x y g => match y with
  | .int i => match x with
    | .str z => strAt z i g
    | x => match sqOf g x with
      | some xs => match atI xs i with
        | some d => .ok d g
        | none => .no
      | none => .no
  | _ => .no
theorem atI_s {K : PySem.W.Frag} {m : Md} {xs : List D} {vs : List V} {i : Int} {d : D} (h : Dens K m xs vs) (e : atI xs i = some d) : ∃ v, atI vs i = some v ∧ Den K m d v := by
  unfold atI at e ⊢
  rw [← h.length]
  cases hx : ixN xs.length i with
  | none => rw [hx] at e; cases e
  | some j =>
    rw [hx] at e
    have e' : xs[j]? = some d := e
    obtain ⟨v, h1, h2⟩ := h.get e'
    exact ⟨v, h1, h2⟩
theorem oIx_s {K : PySem.W.Frag} {W : WX} : OpS K W (rIx K) oIx := fun σv m g H d e x y Q rl hd he p => by
  unfold oIx at p
  split at p
  · split at p
    · cases hd; cases he
      unfold strAt at p
      split at p
      · rename_i hz
        split at p
        · rename_i c hc
          exact .inr (.inr ⟨_, _, c, rfl, rfl, line5 hz, hc, fin_ok rl .str p⟩)
        · exact p.elim
      · exact p.elim
    · split at p
      · rename_i xs hx
        split at p
        · rename_i z hz
          cases he
          obtain ⟨a, vs, rfl, h1, h2⟩ := sqOf_s rl hd hx
          obtain ⟨v, h3, h4⟩ := atI_s h2 hz
          rcases h1 with h1 | h1
          · exact .inl ⟨a, vs, _, v, rfl, rfl, h1, h3, fin_ok rl h4 p⟩
          · exact .inr (.inl ⟨a, vs, _, v, rfl, rfl, h1, h3, fin_ok rl h4 p⟩)
        · exact p.elim
      · exact p.elim
  · exact p.elim
section
variable {X : Cx} {W : WX} {a b : Expr} {ea eb : Ev} {pos : Pos}
theorem x_ix (ha : PE X a (tE X.K W ea)) (hb : PE X b (tE X.K W eb)) (hs : PlainIx b := by exact fun _ _ => rfl) : PE X (.Subscript a b pos) (tE X.K W (eOp oIx ea eb)) := PE.imp (pe_ix ix_seq ha hb hs) fun _ _ _ h => tOp_of oIx_s h
end
/-! ### slices -/
abbrev Ov := Sg → G → Res (Option Int)
def tO (K : PySem.W.Frag) (W : WX) (ev : Ov) : TO := fun σv H Q => ∃ m σ g, Rel K m g H ∧ Slots K m σ σv ∧ σ.length ≤ σv.length ∧ Post K W σv (fun _ a b => a = b) (ev σ g) m Q
def oNo : Ov := fun _ g => .ok none g
def oPart (a : Ev) : Ov := fun σ g => (a σ g).bind fun d g1 => match d with
  | .int i => .ok (some i) g1
  | _ => .no
def cutD (xs : List D) (lo hi : Option Int) : List D := (xs.drop (HT.sIx xs.length 0 lo)).take (HT.sIx xs.length xs.length hi - HT.sIx xs.length 0 lo)
theorem cut_s {K : PySem.W.Frag} {m : Md} {xs : List D} {vs : List V} {lo hi : Option Int} (h : Dens K m xs vs) : Dens K m (cutD xs lo hi) (cutV vs lo hi) := by
  unfold cutD cutV
  rw [h.length]
  exact (h.drop _).take _
def slD (g : G) (x : D) (lo hi : Option Int) : Res D := match x with
  | .tup xs => .ok (.tup (cutD xs lo hi)) g
  | .str z => if z.length ≤ 100000 then .ok (.str (cutS z lo hi)) g else .no
  | x => match lqOf g x with
    | some xs => .ok (.lst (cutD xs lo hi)) g
    | none => .no
def eSl (a : Ev) (lo hi : Ov) : Ev := fun σ g => (a σ g).bind fun x g1 => (lo σ g1).bind fun l g2 => (hi σ g2).bind fun h g3 => slD g3 x l h
def rSl1 (K : PySem.W.Frag) : V → Option Int → Option Int → Hp → VK → Prop := fun x lo hi H Q => rSlL K x lo hi H Q ∨ (rSlA K x lo hi H Q ∨ rSlS x lo hi H Q)
theorem slD_s {K : PySem.W.Frag} {W : WX} {σv : L2.St} {m : Md} {g : G} {H : Hp} {d : D} {x : V} {lo hi : Option Int} {Q : VK} (rl : Rel K m g H) (hd : Den K m d x) (p : Post K W σv (Den K) (slD g d lo hi) m Q) : rSl1 K x lo hi H Q := by
  unfold slD at p
  split at p
  · cases hd with
    | tup h1 h2 =>
      refine .inr (.inl ⟨_, _, rfl, rl.seqT h1, fun z => ?_, fun _ => fin_tup rl (cut_s h2) p⟩)
      rename_i xs a vs
      have e : cutD xs lo hi = xs := by
        unfold cutD
        rw [h2.length, z.1, z.2, List.drop_zero, Nat.sub_zero]
        exact List.take_of_length_le (Nat.le_of_eq h2.length)
      rw [e] at p
      exact fin_ok rl (.tup h1 h2) p
  · cases hd
    split at p
    · rename_i hz
      exact .inr (.inr ⟨_, rfl, line5 hz, fin_ok rl .str p⟩)
    · exact p.elim
  · split at p
    · rename_i xs hx
      obtain ⟨a, vs, rfl, h1, h2⟩ := lqOf_s rl hd hx
      exact .inl ⟨a, vs, rfl, h1, fin_lst rl (cut_s h2) p⟩
    · exact p.elim
section
variable {X : Cx} {W : WX} {a b e : Expr} {lo hi : Option Expr} {ea : Ev} {tl th : Ov} {pos p2 : Pos}
theorem PO.imp {e : Option Expr} {t t' : TO} (h : PO X e t) (k : ∀ σ H Q, t' σ H Q → t σ H Q) : PO X e t' := ⟨fun pins s σ H Q I q => h.run pins s σ H Q I (k _ _ _ q)⟩
theorem o_none : PO X none (tO X.K W oNo) := PO.imp po_none fun σ H Q h => by
  obtain ⟨m, σ', g, rl, sl, hl, p⟩ := h
  exact fin_ok rl rfl p
theorem o_some (h : PE X a (tE X.K W ea)) : PO X (some a) (tO X.K W (oPart ea)) := PO.imp (po_some h) fun σ H Q h => by
  obtain ⟨m, σ', g, rl, sl, hl, p⟩ := h
  refine ⟨m, σ', g, rl, sl, hl, Post.bind p fun d g1 m1 H1 x l1 r1 d1 p1 => ?_⟩
  split at p1
  · cases d1
    exact ⟨_, rfl, fin_ok r1 rfl p1⟩
  · exact p1.elim
theorem x_sl (ha : PE X a (tE X.K W ea)) (hl : PO X lo (tO X.K W tl)) (hh : PO X hi (tO X.K W th)) : PE X (.Subscript a (.Slice lo hi none p2) pos) (tE X.K W (eSl ea tl th)) :=
  PE.imp (pe_slice (sl_list.or (sl_tupA.or sl_str)) ha hl hh) fun σ H Q h => by
    obtain ⟨m, σ', g, rl, sl, hl, p⟩ := h
    refine ⟨m, σ', g, rl, sl, hl, Post.bind p fun d g1 m1 H1 x l1 r1 d1 p1 => ?_⟩
    refine ⟨m1, σ', g1, r1, sl.mono l1, hl, Post.bind p1 fun o g2 m2 H2 ov l2 r2 d2 p2 => ?_⟩
    cases d2
    refine ⟨m2, σ', g2, r2, (sl.mono l1).mono l2, hl, Post.bind p2 fun o' g3 m3 H3 ov' l3 r3 d3 p3 => ?_⟩
    cases d3
    exact slD_s r3 ((d1.mono l2).mono l3) p3
end
/-! ### built-in functions -/
abbrev Fn := List D → G → Res D
def CalS (K : PySem.W.Frag) (W : WX) (r : List V → Hp → VK → Prop) (f : Fn) : Prop := ∀ (σv : L2.St) (m : Md) (g : G) (H : Hp) (ds : List D) (xs : List V) (Q : VK), Rel K m g H → Dens K m ds xs → Post K W σv (Den K) (f ds g) m Q → r xs H Q
def eCall (f : Fn) (t : Av) : Ev := fun σ g => (t σ g).bind fun ds g1 => f ds g1
section
variable {X : Cx} {W : WX} {e : Expr} {es : List Expr} {t : Av} {x : Str} {p pos : Pos} {id T : String} {r : List V → Hp → VK → Prop} {f : Fn}
theorem tCB_of {K : PySem.W.Frag} (hs : CalS K W r f) {σ : L2.St} {H : Hp} {Q : VK} (h : tE K W (eCall f t) σ H Q) : tCB r (tA K W t) σ H Q := by
  obtain ⟨m, σ', g, rl, sl, hl, p⟩ := h
  refine ⟨m, σ', g, rl, sl, hl, Post.bind p fun ds g1 m1 H1 xs l1 r1 d1 p1 => ?_⟩
  exact hs σ m1 g1 H1 ds xs Q r1 d1 p1
theorem x_callB (hc : CallR X (.builtin id) r) (hs : CalS X.K W r f) (hg : Gl X x) (hm : X.mg x = none) (hv : bootBuiltins x = some (.builtin id)) (ha : PA X (e :: es) (tA X.K W t)) (hn : x ≠ "__name__" := by decide) (hdb : (x == ("__debug__" : Str)) = false := by decide)
    (he : starEach (e :: es) X.env = (false, eval e X.env) :: starEach es X.env := by rfl) (hpl : (backTo pos (starEach es X.env)).any (·.1) = false := by rfl) : PE X (.Call (.Name x p) (e :: es) [] pos) (tE X.K W (eCall f t)) :=
  PE.imp (pe_callB hc hg hm hv ha hn hdb he hpl) fun _ _ _ h => tCB_of hs h
theorem x_callTy (hc : CallR X (.type T) r) (hs : CalS X.K W r f) (hg : Gl X x) (hm : X.mg x = none) (hv : bootBuiltins x = some (.type T)) (ha : PA X (e :: es) (tA X.K W t)) (hn : x ≠ "__name__" := by decide) (hdb : (x == ("__debug__" : Str)) = false := by decide)
    (he : starEach (e :: es) X.env = (false, eval e X.env) :: starEach es X.env := by rfl) (hpl : (backTo pos (starEach es X.env)).any (·.1) = false := by rfl) : PE X (.Call (.Name x p) (e :: es) [] pos) (tE X.K W (eCall f t)) :=
  PE.imp (pe_callTy hc hg hm hv ha hn hdb he hpl) fun _ _ _ h => tCB_of hs h
end
def fLen : Fn := fun ds g => match ds with
  | [.str y] => if y.length ≤ 100000 then .ok (.int y.length) g else .no
  | [d] => match sqOf g d with
    | some xs => .ok (.int xs.length) g
    | none => .no
  | _ => .no
theorem fLen_s {K : PySem.W.Frag} {W : WX} : CalS K W (fun xs H Q => ∃ x n, xs = [x] ∧ LenV K x H n ∧ Q (.int n) H) fLen := fun σv m g H ds xs Q rl hd p => by
  unfold fLen at p
  split at p
  · obtain ⟨v, ws, rfl, h1, h2⟩ := hd.consV
    obtain rfl := h2.nilV
    cases h1
    split at p
    · rename_i hz
      exact ⟨_, _, rfl, ⟨line5 hz, rfl⟩, fin_ok rl .int p⟩
    · exact p.elim
  · obtain ⟨v, ws, rfl, h1, h2⟩ := hd.consV
    obtain rfl := h2.nilV
    split at p
    · rename_i xs hx
      obtain ⟨a, vs, rfl, h3, h4⟩ := sqOf_s rl h1 hx
      refine ⟨_, xs.length, rfl, ?_, fin_ok rl .int p⟩
      rcases h3 with h3 | h3
      · exact .inl ⟨vs, h3, h4.length⟩
      · exact .inr ⟨vs, h3, h4.length⟩
    · exact p.elim
  · exact p.elim
def fInt1 (k : Int → D) : Fn := fun ds g => match ds with
  | [.int i] => .ok (k i) g
  | _ => .no
def fAbs : Fn := fInt1 fun i => .int (if i < 0 then -i else i)
theorem fAbs_s {K : PySem.W.Frag} {W : WX} : CalS K W (fun xs H Q => ∃ i, xs = [.int i] ∧ Q (.int (if i < 0 then -i else i)) H) fAbs := fun σv m g H ds xs Q rl hd p => by
  unfold fAbs fInt1 at p
  split at p
  · obtain ⟨v, ws, rfl, h1, h2⟩ := hd.consV
    obtain rfl := h2.nilV
    cases h1
    exact ⟨_, rfl, fin_ok rl .int p⟩
  · exact p.elim
def fInt : Fn := fun ds g => match ds with
  | [.int i] => .ok (.int i) g
  | [.bl k] => .ok (.int (if k then 1 else 0)) g
  | _ => .no
theorem fInt_s {K : PySem.W.Frag} {W : WX} : CalS K W (fun xs H Q => (∃ i, xs = [.int i] ∧ Q (.int i) H) ∨ ∃ k, xs = [.bl k] ∧ Q (.int (if k then 1 else 0)) H) fInt := fun σv m g H ds xs Q rl hd p => by
  unfold fInt at p
  split at p
  · obtain ⟨v, ws, rfl, h1, h2⟩ := hd.consV
    obtain rfl := h2.nilV
    cases h1
    exact .inl ⟨_, rfl, fin_ok rl .int p⟩
  · obtain ⟨v, ws, rfl, h1, h2⟩ := hd.consV
    obtain rfl := h2.nilV
    cases h1
    exact .inr ⟨_, rfl, fin_ok rl .int p⟩
  · exact p.elim
def fBool : Fn := fun ds g => match ds with
  | [.int i] => .ok (.bl (i != 0)) g
  | [.bl k] => .ok (.bl k) g
  | _ => .no
theorem fBool_s {K : PySem.W.Frag} {W : WX} : CalS K W (fun xs H Q => (∃ i, xs = [.int i] ∧ Q (.bl (i != 0)) H) ∨ ∃ k, xs = [.bl k] ∧ Q (.bl k) H) fBool := fun σv m g H ds xs Q rl hd p => by
  unfold fBool at p
  split at p
  · obtain ⟨v, ws, rfl, h1, h2⟩ := hd.consV
    obtain rfl := h2.nilV
    cases h1
    exact .inl ⟨_, rfl, fin_ok rl .bl p⟩
  · obtain ⟨v, ws, rfl, h1, h2⟩ := hd.consV
    obtain rfl := h2.nilV
    cases h1
    exact .inr ⟨_, rfl, fin_ok rl .bl p⟩
  · exact p.elim
def fInt2 (k : Int → Int → Int) : Fn := fun ds g => match ds with
  | [.int i, .int j] => .ok (.int (k i j)) g
  | _ => .no
theorem fInt2_s {K : PySem.W.Frag} {W : WX} {k : Int → Int → Int} : CalS K W (fun xs H Q => ∃ i j, xs = [.int i, .int j] ∧ Q (.int (k i j)) H) (fInt2 k) := fun σv m g H ds xs Q rl hd p => by
  unfold fInt2 at p
  split at p
  · obtain ⟨v, ws, rfl, h1, h2⟩ := hd.consV
    obtain ⟨v', ws', rfl, h3, h4⟩ := h2.consV
    obtain rfl := h4.nilV
    cases h1
    cases h3
    exact ⟨_, _, rfl, fin_ok rl .int p⟩
  · exact p.elim
abbrev fMax2 : Fn := fInt2 fun i j => if j > i then j else i
abbrev fMin2 : Fn := fInt2 fun i j => if j < i then j else i
/-- list(x), tuple(x) -/
def fList : Fn := fun ds g => match ds with
  | [d] => match sqOf g d with
    | some xs => .ok (.lst xs) g
    | none => .no
  | _ => .no
def fListM : Fn := fun ds g => match ds with
  | [d] => match sqOf g d with
    | some xs => .ok (.ref g.length) (g ++ [.lst xs])
    | none => .no
  | _ => .no
theorem fList_s {K : PySem.W.Frag} {W : WX} : CalS K W (fun xs H Q => ∃ p ys, xs = [.ref p] ∧ (SqL K H p ys ∨ SqT K H p ys) ∧ ∀ l, H l = none → Q (.ref l) (upd H l (.lst ys))) fList := fun σv m g H ds xs Q rl hd p => by
  unfold fList at p
  split at p
  · obtain ⟨v, ws, rfl, h1, h2⟩ := hd.consV
    obtain rfl := h2.nilV
    split at p
    · rename_i xs hx
      obtain ⟨a, vs, rfl, h3, h4⟩ := sqOf_s rl h1 hx
      exact ⟨a, vs, rfl, h3, fin_lst rl h4 p⟩
    · exact p.elim
  · exact p.elim
theorem fListM_s {K : PySem.W.Frag} {W : WX} : CalS K W (fun xs H Q => ∃ p ys, xs = [.ref p] ∧ (SqL K H p ys ∨ SqT K H p ys) ∧ ∀ l, H l = none → Q (.ref l) (upd H l (.lst ys))) fListM := fun σv m g H ds xs Q rl hd p => by
  unfold fListM at p
  split at p
  · obtain ⟨v, ws, rfl, h1, h2⟩ := hd.consV
    obtain rfl := h2.nilV
    split at p
    · rename_i xs hx
      obtain ⟨a, vs, rfl, h3, h4⟩ := sqOf_s rl h1 hx
      exact ⟨a, vs, rfl, h3, fun l hl => p _ _ _ (le_cell rl.fresh) (rl.cellAdd hl ⟨vs, rfl, h4⟩) den_cell⟩
    · exact p.elim
  · exact p.elim
def fTuple : Fn := fun ds g => match ds with
  | [.tup xs] => .ok (.tup xs) g
  | [d] => match lqOf g d with
    | some xs => .ok (.tup xs) g
    | none => .no
  | _ => .no
theorem fTuple_s {K : PySem.W.Frag} {W : WX} : CalS K W (fun xs H Q => ∃ p ys, xs = [.ref p] ∧ ((SqL K H p ys ∧ ∀ l, H l = none → Q (.ref l) (upd H l (.tup ys))) ∨ (SqT K H p ys ∧ Q (.ref p) H))) fTuple := fun σv m g H ds xs Q rl hd p => by
  unfold fTuple at p
  split at p
  · obtain ⟨v, ws, rfl, h1, h2⟩ := hd.consV
    obtain rfl := h2.nilV
    cases h1 with
    | tup h3 h4 => exact ⟨_, _, rfl, .inr ⟨rl.seqT h3, fin_ok rl (.tup h3 h4) p⟩⟩
  · obtain ⟨v, ws, rfl, h1, h2⟩ := hd.consV
    obtain rfl := h2.nilV
    split at p
    · rename_i xs hx
      obtain ⟨a, vs, rfl, h3, h4⟩ := lqOf_s rl h1 hx
      exact ⟨a, vs, rfl, .inl ⟨h3, fin_tup rl h4 p⟩⟩
    · exact p.elim
  · exact p.elim
/-- the ints, the bools of a list -/
def intsOf : List D → Option (List Int)
  | [] => some []
  | .int i :: r => match intsOf r with
    | some is => some (i :: is)
    | none => none
  | _ => none
def blsOf : List D → Option (List Bool)
  | [] => some []
  | .bl i :: r => match blsOf r with
    | some is => some (i :: is)
    | none => none
  | _ => none
theorem intsOf_s {K : PySem.W.Frag} {m : Md} : ∀ {ds : List D} {vs : List V} {is : List Int}, Dens K m ds vs → intsOf ds = some is → vs = is.map V.int
  | [], _, _, h, e => by cases e; exact h.nilV
  | d :: ds, _, _, h, e => by
    obtain ⟨v, ws, rfl, h1, h2⟩ := h.consV
    unfold intsOf at e
    split at e
    · rename_i heq
      cases heq
    · rename_i i r heq
      cases heq
      split at e
      · rename_i js hj
        cases e
        cases h1
        rw [intsOf_s h2 hj] <;> rfl
      · cases e
    · cases e
theorem blsOf_s {K : PySem.W.Frag} {m : Md} : ∀ {ds : List D} {vs : List V} {is : List Bool}, Dens K m ds vs → blsOf ds = some is → vs = is.map V.bl
  | [], _, _, h, e => by cases e; exact h.nilV
  | d :: ds, _, _, h, e => by
    obtain ⟨v, ws, rfl, h1, h2⟩ := h.consV
    unfold blsOf at e
    split at e
    · rename_i heq
      cases heq
    · rename_i i r heq
      cases heq
      split at e
      · rename_i js hj
        cases e
        cases h1
        rw [blsOf_s h2 hj] <;> rfl
      · cases e
    · cases e
theorem intsOf_map (is : List Int) : intsOf (is.map D.int) = some is := by
  induction is with
  | nil => rfl
  | cons i r ih => rw [List.map_cons]; unfold intsOf; rw [ih]
theorem blsOf_map (is : List Bool) : blsOf (is.map D.bl) = some is := by
  induction is with
  | nil => rfl
  | cons i r ih => rw [List.map_cons]; unfold blsOf; rw [ih]
def isum : List Int → Int
  | [] => 0
  | i :: r => i + isum r
theorem isum_eq (l : List Int) : isum l = l.sum := by
  induction l with
  | nil => rfl
  | cons i r ih => rw [List.sum_cons, isum, ih]
def fSum : Fn := fun ds g => match ds with
  | [d] => match lqOf g d with
    | some xs => match intsOf xs with
      | some is => .ok (.int (isum is)) g
      | none => .no
    | none => .no
  | _ => .no
theorem fSum_s {K : PySem.W.Frag} {W : WX} : CalS K W (rSum K) fSum := fun σv m g H ds xs Q rl hd p => by
  unfold fSum at p
  split at p
  · obtain ⟨v, ws, rfl, h1, h2⟩ := hd.consV
    obtain rfl := h2.nilV
    split at p
    · rename_i xs hx
      obtain ⟨a, vs, rfl, h3, h4⟩ := lqOf_s rl h1 hx
      split at p
      · rename_i is hi
        refine ⟨a, is, rfl, by rw [← intsOf_s h4 hi]; exact h3, ?_⟩
        rw [isum_eq] at p
        exact fin_ok rl .int p
      · exact p.elim
    · exact p.elim
  · exact p.elim
def fAny : Fn := fun ds g => match ds with
  | [d] => match lqOf g d with
    | some xs => match blsOf xs with
      | some is => .ok (.bl (is.any id)) g
      | none => .no
    | none => .no
  | _ => .no
def fAll : Fn := fun ds g => match ds with
  | [d] => match lqOf g d with
    | some xs => match blsOf xs with
      | some is => .ok (.bl (is.all id)) g
      | none => .no
    | none => .no
  | _ => .no
theorem fAny_s {K : PySem.W.Frag} {W : WX} : CalS K W (rAny K) fAny := fun σv m g H ds xs Q rl hd p => by
  unfold fAny at p
  split at p
  · obtain ⟨v, ws, rfl, h1, h2⟩ := hd.consV
    obtain rfl := h2.nilV
    split at p
    · rename_i xs hx
      obtain ⟨a, vs, rfl, h3, h4⟩ := lqOf_s rl h1 hx
      split at p
      · rename_i is hi
        exact ⟨a, is, rfl, by rw [← blsOf_s h4 hi]; exact h3, fin_ok rl .bl p⟩
      · exact p.elim
    · exact p.elim
  · exact p.elim
theorem fAll_s {K : PySem.W.Frag} {W : WX} : CalS K W (rAll K) fAll := fun σv m g H ds xs Q rl hd p => by
  unfold fAll at p
  split at p
  · obtain ⟨v, ws, rfl, h1, h2⟩ := hd.consV
    obtain rfl := h2.nilV
    split at p
    · rename_i xs hx
      obtain ⟨a, vs, rfl, h3, h4⟩ := lqOf_s rl h1 hx
      split at p
      · rename_i is hi
        exact ⟨a, is, rfl, by rw [← blsOf_s h4 hi]; exact h3, fin_ok rl .bl p⟩
      · exact p.elim
    · exact p.elim
  · exact p.elim
end AW
namespace AW
open PySem PySem.Spec L2
/-! ### statements -/
inductive SRes where
  | nx (σ : Sg) (g : G)
  | rt (d : D) (g : G)
  | bk (σ : Sg) (g : G)
  | ct (σ : Sg) (g : G)
  | ex (σ : Sg) (e : Exn) (g : G)
  | no
abbrev Sx := Sg → G → SRes
def SlotsL (K : PySem.W.Frag) (m : Md) (σ : Sg) (σv : L2.St) : Prop := Slots K m σ σv ∧ σ.length ≤ σv.length
theorem SlotsL.mono {K : PySem.W.Frag} {m m' : Md} (e : Le m m') {σ : Sg} {σv : L2.St} (h : SlotsL K m σ σv) : SlotsL K m' σ σv := ⟨h.1.mono e, h.2⟩
theorem SlotsL.set {K : PySem.W.Frag} {m : Md} {σ : Sg} {σv : L2.St} (h : SlotsL K m σ σv) {i : Nat} {d : D} {v : V} (hd : Den K m d v) : SlotsL K m (σ.set i (some d)) (σv.set i (some v)) :=
  ⟨h.1.set h.2 hd, by rw [List.length_set, List.length_set]; exact h.2⟩
def PostS (K : PySem.W.Frag) (W : WX) (r : SRes) (m : Md) (D' : Ends) : Prop := match r with
  | .nx σ g => ∀ m' H σv, Le m m' → Rel K m' g H → SlotsL K m' σ σv → D'.nx σv H
  | .bk σ g => ∀ m' H σv, Le m m' → Rel K m' g H → SlotsL K m' σ σv → D'.bk σv H
  | .ct σ g => ∀ m' H σv, Le m m' → Rel K m' g H → SlotsL K m' σ σv → D'.ct σv H
  | .rt d g => ∀ m' H v, Le m m' → Rel K m' g H → Den K m' d v → D'.rt v H
  | .ex σ e g => ∀ m' H σv cv dd, Le m m' → Rel K m' g H → SlotsL K m' σ σv → ExnOk K m' e cv dd → W cv dd σv H
  | .no => False
theorem PostS.mono {K : PySem.W.Frag} {W : WX} {r : SRes} {m m' : Md} {D' : Ends} (l : Le m m') (h : PostS K W r m D') : PostS K W r m' D' := by
  cases r with
  | nx σ g => exact fun m2 H v l2 r d => h m2 H v (l.trans l2) r d
  | bk σ g => exact fun m2 H v l2 r d => h m2 H v (l.trans l2) r d
  | ct σ g => exact fun m2 H v l2 r d => h m2 H v (l.trans l2) r d
  | rt d g => exact fun m2 H v l2 r d => h m2 H v (l.trans l2) r d
  | ex σ e g => exact fun m2 H v cv dd l2 r d x => h m2 H v cv dd (l.trans l2) r d x
  | no => exact h
def tS (K : PySem.W.Frag) (W : WX) (sx : Sx) : TS := fun D' σv H => ∃ m σ g, Rel K m g H ∧ SlotsL K m σ σv ∧ PostS K W (sx σ g) m D'
/-- an expression, then a statement's end -/
@[reducible] def sBind {α : Type} (σ : Sg) (r : Res α) (f : α → G → SRes) : SRes := match r with
  | .ok a g => f a g
  | .ex e g => .ex σ e g
  | .no => .no
theorem sBind_s {α β : Type} {K : PySem.W.Frag} {W : WX} {σ : Sg} {σv : L2.St} {R : Md → α → β → Prop} {r : Res α} {f : α → G → SRes} {m : Md} {D' : Ends} {P : β → Hp → Prop} (sl : SlotsL K m σ σv)
    (h : PostS K W (sBind σ r f) m D') (k : ∀ d g m' H v, Le m m' → Rel K m' g H → R m' d v → PostS K W (f d g) m' D' → P v H) : Post K W σv R r m P := by
  cases r with
  | ok d g => exact fun m' H v l rl rd => k d g m' H v l rl rd (PostS.mono l h)
  | ex e g => exact fun m' H cv dd l rl x => h m' H σv cv dd l rl (sl.mono l) x
  | no => exact h
def sNil : Sx := fun σ g => .nx σ g
def sCons (a b : Sx) : Sx := fun σ g => match a σ g with
  | .nx σ' g' => b σ' g'
  | r => r
section
variable {X : Cx} {W : WX} {st : Stmt} {rest : List Stmt} {a b : Sx} {e : Expr} {ee : Ev} {pos : Pos}
theorem ss_nil : PSs X [] (tS X.K W sNil) := PSs.imp pss_nil fun D' σ H h => by
  obtain ⟨m, σ', g, rl, sl, p⟩ := h
  exact p m H σ (Le.refl m) rl sl
theorem ss_cons (ha : PS X st (tS X.K W a)) (hb : PSs X rest (tS X.K W b)) : PSs X (st :: rest) (tS X.K W (sCons a b)) := PSs.imp (pss_cons ha hb) fun D' σ H h => by
  obtain ⟨m, σ', g, rl, sl, p⟩ := h
  refine ⟨m, σ', g, rl, sl, ?_⟩
  unfold sCons at p
  cases hr : a σ' g with
  | nx σ2 g2 =>
    rw [hr] at p
    exact fun m2 H2 σv l2 r2 s2 => ⟨m2, σ2, g2, r2, s2, PostS.mono l2 p⟩
  | bk σ2 g2 => rw [hr] at p; exact p
  | ct σ2 g2 => rw [hr] at p; exact p
  | rt d g2 => rw [hr] at p; exact p
  | ex σ2 x g2 => rw [hr] at p; exact p
  | no => rw [hr] at p; exact p
def sPass : Sx := fun σ g => .nx σ g
def sBreak : Sx := fun σ g => .bk σ g
def sCont : Sx := fun σ g => .ct σ g
theorem s_pass : PS X (.Pass pos) (tS X.K W sPass) := PS.imp ps_pass fun D' σ H h => by
  obtain ⟨m, σ', g, rl, sl, p⟩ := h
  exact p m H σ (Le.refl m) rl sl
theorem s_break : PS X (.Break pos) (tS X.K W sBreak) := PS.imp ps_break fun D' σ H h => by
  obtain ⟨m, σ', g, rl, sl, p⟩ := h
  exact p m H σ (Le.refl m) rl sl
theorem s_cont : PS X (.Continue pos) (tS X.K W sCont) := PS.imp ps_continue fun D' σ H h => by
  obtain ⟨m, σ', g, rl, sl, p⟩ := h
  exact p m H σ (Le.refl m) rl sl
def sExpr (e : Ev) : Sx := fun σ g => sBind σ (e σ g) fun _ g1 => .nx σ g1
theorem s_expr (he : PE X e (tE X.K W ee)) (hs : swapsWith e none pos.line X.env = pure false := by rfl) : PS X (.Expr e pos) (tS X.K W (sExpr ee)) := PS.imp (ps_expr he hs) fun D' σ H h => by
  obtain ⟨m, σ', g, rl, sl, p⟩ := h
  exact ⟨m, σ', g, rl, sl.1, sl.2, sBind_s sl p fun d g1 m1 H1 v l1 r1 d1 p1 => p1 m1 H1 σ (Le.refl m1) r1 (sl.mono l1)⟩
def sRet (e : Ev) : Sx := fun σ g => sBind σ (e σ g) fun d g1 => .rt d g1
def sRetN : Sx := fun _ g => .rt .non g
theorem s_ret (he : PE X e (tE X.K W ee)) : PS X (.Return (some e) pos) (tS X.K W (sRet ee)) := PS.imp (ps_ret he) fun D' σ H h => by
  obtain ⟨m, σ', g, rl, sl, p⟩ := h
  exact ⟨m, σ', g, rl, sl.1, sl.2, sBind_s sl p fun d g1 m1 H1 v l1 r1 d1 p1 => p1 m1 H1 v (Le.refl m1) r1 d1⟩
theorem s_retN : PS X (.Return none pos) (tS X.K W sRetN) := PS.imp ps_retN fun D' σ H h => by
  obtain ⟨m, σ', g, rl, sl, p⟩ := h
  exact p m H .non (Le.refl m) rl .non
def sIf (c : Tv) (a b : Sx) : Sx := fun σ g => sBind σ (c σ g) fun k g1 => match k with
  | true => a σ g1
  | false => b σ g1
theorem s_if {c : Expr} {A B : List Stmt} {tc : Tv} (hc : PT X c (tT X.K W tc)) (ha : PSs X A (tS X.K W a)) (hb : PSs X B (tS X.K W b)) : PS X (.If c A B pos) (tS X.K W (sIf tc a b)) := PS.imp (ps_if hc ha hb) fun D' σ H h => by
  obtain ⟨m, σ', g, rl, sl, p⟩ := h
  refine ⟨m, σ', g, rl, sl.1, sl.2, sBind_s sl p fun d g1 m1 H1 v l1 r1 d1 p1 => ?_⟩
  cases d1
  cases d with
  | true => exact ⟨m1, σ', g1, r1, sl.mono l1, p1⟩
  | false => exact ⟨m1, σ', g1, r1, sl.mono l1, p1⟩
def sNever : Sx := fun _ _ => .no
theorem s_never : PS X st (tS X.K W sNever) := PS.imp ps_never fun D' σ H h => by
  obtain ⟨m, σ', g, rl, sl, p⟩ := h
  exact p.elim
theorem ss_never {sts : List Stmt} : PSs X sts (tS X.K W sNever) := PSs.imp pss_never fun D' σ H h => by
  obtain ⟨m, σ', g, rl, sl, p⟩ := h
  exact p.elim
end
/-! ### targets -/
abbrev Gv := D → Sg → G → Option (Sg × G)
abbrev Gvs := List D → Sg → G → Option (Sg × G)
def PostG (K : PySem.W.Frag) (r : Option (Sg × G)) (m : Md) (Q : L2.St → Hp → Prop) : Prop := match r with
  | some (σ, g) => ∀ m' H σv, Le m m' → Rel K m' g H → SlotsL K m' σ σv → Q σv H
  | none => False
theorem PostG.mono {K : PySem.W.Frag} {r : Option (Sg × G)} {m m' : Md} {Q : L2.St → Hp → Prop} (l : Le m m') (h : PostG K r m Q) : PostG K r m' Q := by
  cases r with
  | none => exact h
  | some q =>
    obtain ⟨σ, g⟩ := q
    exact fun m2 H v l2 r d => h m2 H v (l.trans l2) r d
def tGt (K : PySem.W.Frag) (gv : Gv) : TG := fun v σv H Q => ∃ m d σ g, Rel K m g H ∧ SlotsL K m σ σv ∧ Den K m d v ∧ PostG K (gv d σ g) m Q
def tGts (K : PySem.W.Frag) (gv : Gvs) : TGs := fun vs σv H Q => ∃ m ds σ g, Rel K m g H ∧ SlotsL K m σ σv ∧ Dens K m ds vs ∧ PostG K (gv ds σ g) m Q
def gvName (i : Nat) : Gv := fun d σ g => some (σ.set i (some d), g)
def gvNil : Gvs := fun ds σ g => match ds with
  | [] => some (σ, g)
  | _ => none
def gvCons (a : Gv) (b : Gvs) : Gvs := fun ds σ g => match ds with
  | d :: r => match a d σ g with
    | some (σ', g') => b r σ' g'
    | none => none
  | [] => none
def gvTup (n : Nat) (b : Gvs) : Gv := fun d σ g => match d with
  | .tup xs => if xs.length = n then b xs σ g else none
  | _ => none
section
variable {X : Cx} {pos : Pos} {e : Expr} {es : List Expr}
theorem PG.imp {t t' : TG} (h : PG X e t) (k : ∀ v σ H Q, t' v σ H Q → t v σ H Q) : PG X e t' := ⟨fun pins s σ H v u Q I r q => h.run pins s σ H v u Q I r (k _ _ _ _ q)⟩
theorem PGs.imp {t t' : TGs} (h : PGs X es t) (k : ∀ v σ H Q, t' v σ H Q → t v σ H Q) : PGs X es t' := ⟨fun pins s σ H v u Q I r q => h.run pins s σ H v u Q I r (k _ _ _ _ q)⟩
theorem g_name {i : Nat} {x : Str} (hN : X.N.Nodup) (hi : X.N[i]? = some x) (hx : Loc X.env.scope x) (hf : X.fn x = true ∨ X.env.scope.names.lookup x = some .local := by first | exact .inl rfl | exact .inr rfl | assumption) : PG X (.Name x pos) (tGt X.K (gvName i)) :=
  PG.imp (pg_name hN hi hx hf) fun v σ H Q h => by
    obtain ⟨m, d, σ', g, rl, sl, hd, p⟩ := h
    exact p m H _ (Le.refl m) rl (sl.set hd)
theorem gs_nil : PGs X [] (tGts X.K gvNil) := PGs.imp pgs_nil fun vs σ H Q h => by
  obtain ⟨m, ds, σ', g, rl, sl, hd, p⟩ := h
  unfold gvNil at p
  split at p
  · exact ⟨hd.nilV, p m H σ (Le.refl m) rl sl⟩
  · exact p.elim
theorem gs_cons {a : Gv} {b : Gvs} (h1 : PG X e (tGt X.K a)) (h2 : PGs X es (tGts X.K b)) (hs : (assignEach (e :: es) X.env).map (·.2) = assign e X.env :: (assignEach es X.env).map (·.2) := by rfl) : PGs X (e :: es) (tGts X.K (gvCons a b)) :=
  PGs.imp (pgs_cons h1 h2 hs) fun vs σ H Q h => by
    obtain ⟨m, ds, σ', g, rl, sl, hd, p⟩ := h
    unfold gvCons at p
    split at p
    · obtain ⟨v, ws, rfl, h3, h4⟩ := hd.consV
      refine ⟨v, ws, rfl, m, _, σ', g, rl, sl, h3, ?_⟩
      split at p
      · rename_i σ2 g2 hq
        rw [hq]
        exact fun m2 H2 σv l2 r2 s2 => ⟨m2, _, σ2, g2, r2, s2, h4.mono l2, PostG.mono l2 p⟩
      · exact p.elim
    · exact p.elim
theorem g_tup {k n : Nat} {b : Gvs} (hc : X.calm = true) (h : PGs X es (tGts X.K b)) (hn : (assignEach es X.env).length = n := by rfl) (hst : (assignEach es X.env).findIdx? (·.1) = none := by rfl) : PG X (.Tuple es k pos) (tGt X.K (gvTup n b)) :=
  PG.imp (pg_tup hc h hn hst) fun v σ H Q h => by
    obtain ⟨m, d, σ', g, rl, sl, hd, p⟩ := h
    unfold gvTup at p
    split at p
    · split at p
      · rename_i xs hl
        cases hd with
        | tup h1 h2 => exact ⟨_, _, rfl, rl.seqT h1, by rw [← h2.length]; exact hl, m, xs, σ', g, rl, sl, h2, p⟩
      · exact p.elim
    · exact p.elim
end
/-- a change of a cell -/
theorem Rel.cellSet {K : PySem.W.Frag} {m : Md} {g : G} {H : Hp} (r : Rel K m g H) {i : Nat} {a : Addr} {c : Cell} {o : HO} (hi : m.r i = some a) (ok : CellOk K m c o) : Rel K m (g.set i c) (upd H a o) where
  ex := fun b u e => by
    have hil := r.dom i a hi
    obtain ⟨a', h1, h2, _⟩ := r.cell i g[i] (by simp [hil])
    rw [hi] at h1
    cases h1
    have hb : b ≠ a := fun z => by rw [z, h2] at e; cases e
    rw [upd_ne hb]
    exact r.ex b u e
  cell := fun j d hd => by
    by_cases hj : j = i
    · subst hj
      have hil := r.dom j a hi
      rw [List.getElem?_set_self hil] at hd
      cases hd
      obtain ⟨a', h1, h2, _⟩ := r.cell j g[j] (by simp [hil])
      rw [hi] at h1
      cases h1
      exact ⟨a, hi, h2, o, upd_same, ok⟩
    · rw [List.getElem?_set_ne (Ne.symm hj)] at hd
      obtain ⟨b, h1, h2, u, h3, h4⟩ := r.cell j d hd
      have hb : b ≠ a := fun z => by
        rw [z] at h1
        exact hj (r.inj j i a h1 hi)
      exact ⟨b, h1, h2, u, by rw [upd_ne hb]; exact h3, h4⟩
  dom := fun j b e => by rw [List.length_set]; exact r.dom j b e
  inj := r.inj
  hid := fun b u e => by
    obtain ⟨h1, h2, h3⟩ := r.hid b u e
    have hb : b ≠ a := fun z => by
      rw [z] at h3
      exact h3 i hi
    exact ⟨by rw [upd_ne hb]; exact h1, h2, h3⟩
/-- the items of a list that may change -/
def lmOf (g : G) (i : Nat) : Option (List D) := match g[i]? with
  | some (.lst xs) => some xs
  | _ => none
theorem lmOf_s {K : PySem.W.Frag} {m : Md} {g : G} {H : Hp} {i : Nat} {v : V} {xs : List D} (r : Rel K m g H) (h : Den K m (.ref i) v) (e : lmOf g i = some xs) : ∃ p vs, v = .ref p ∧ m.r i = some p ∧ H p = some (.lst vs) ∧ Dens K m xs vs := by
  cases h with
  | ref h1 =>
    unfold lmOf at e
    split at e
    · rename_i ys hy
      cases e
      obtain ⟨a', h2, _, o, h3, vs, h4, h5⟩ := r.cell _ _ hy
      rw [h1] at h2
      cases h2
      subst h4
      exact ⟨_, _, rfl, h1, h3, h5⟩
    · cases e
/-- a[i] = e -/
def setAt (o i v : D) (g : G) : Option G := match o, i with
  | .ref k, .int j => match lmOf g k with
    | some xs => match ixN xs.length j with
      | some n => some (g.set k (.lst (xs.set n v)))
      | none => none
    | none => none
  | _, _ => none
def gvSub (o i : Ev) : Gv := fun d σ g => match o σ g with
  | .ok ov g1 => match i σ g1 with
    | .ok iv g2 => match setAt ov iv d g2 with
      | some g3 => some (σ, g3)
      | none => none
    | _ => none
  | _ => none
section
variable {X : Cx} {W : WX} {pos : Pos} {o i : Expr} {eo ei : Ev}
theorem setAt_s {K : PySem.W.Frag} {σ : Sg} {σv : L2.St} {m : Md} {g : G} {H : Hp} {d e f : D} {x y z : V} {Q : L2.St → Hp → Prop} (rl : Rel K m g H) (sl : SlotsL K m σ σv) (hd : Den K m d x) (he : Den K m e y) (hf : Den K m f z)
    (p : PostG K (match setAt d e f g with | some g3 => some (σ, g3) | none => none) m Q) : rSetL x y z H (fun H' => Q σv H') := by
  unfold setAt at p
  split at p
  · rename_i g3 h3
    split at h3
    · split at h3
      · rename_i xs hx
        split at h3
        · rename_i n hn
          cases h3
          obtain ⟨a, vs, rfl, h4, h5, h6⟩ := lmOf_s rl hd hx
          cases he
          refine ⟨a, vs, _, n, rfl, rfl, h5, by rw [← h6.length]; exact hn, ?_⟩
          exact p m _ σv (Le.refl m) (rl.cellSet h4 ⟨_, rfl, h6.set hf n⟩) sl
        · cases h3
      · cases h3
    · cases h3
  · exact p.elim
theorem g_sub (ho : PE X o (tE X.K W eo)) (hi : PE X i (tE X.K W ei))
    (ha : ∀ v, assign (.Subscript o i pos) X.env v = (do
      let ov ← holding [v] (eval o X.env)
      let iv ← holding [v, ov] (eval i X.env)
      standAt pos
      holding [v, ov, iv] (setItem ov iv v)
      release [v, ov, iv] []) := by intro _; rfl) : PG X (.Subscript o i pos) (tGt X.K (gvSub eo ei)) :=
  PG.imp (pg_sub ho hi set_list ha) fun v σ H Q h => by
    obtain ⟨m, d, σ', g, rl, sl, hd, p⟩ := h
    unfold gvSub at p
    refine ⟨m, σ', g, rl, sl.1, sl.2, ?_⟩
    cases h1 : eo σ' g with
    | no => rw [h1] at p; exact p.elim
    | ex e g1 => rw [h1] at p; exact p.elim
    | ok ov g1 =>
      rw [h1] at p
      refine fun m1 H1 x l1 r1 d1 => ⟨m1, σ', g1, r1, (sl.mono l1).1, sl.2, ?_⟩
      cases h2 : ei σ' g1 with
      | no => simp only [h2] at p; exact p.elim
      | ex e g2 => simp only [h2] at p; exact p.elim
      | ok iv g2 =>
        simp only [h2] at p
        refine fun m2 H2 y l2 r2 d2 => ?_
        exact setAt_s r2 ((sl.mono l1).mono l2) (d1.mono l2) d2 ((hd.mono l1).mono l2) (PostG.mono (l1.trans l2) p)
end
/-! ### assignments -/
def sAsg (e : Ev) (gv : Gv) : Sx := fun σ g => sBind σ (e σ g) fun d g1 => match gv d σ g1 with
  | some (σ', g2) => .nx σ' g2
  | none => .no
def sSet (i : Nat) (e : Ev) : Sx := fun σ g => sBind σ (e σ g) fun d g1 => .nx (σ.set i (some d)) g1
section
variable {X : Cx} {W : WX} {pos : Pos} {e tg : Expr} {ee : Ev} {gv : Gv}
theorem s_asg (he : PE X e (tE X.K W ee)) (hg : PG X tg (tGt X.K gv)) (hs : swapsWithSole [tg] e pos.line X.env = pure false := by rfl) (hw : swappedStores [tg] e X.env = pure none := by rfl)
    (h1 : (assignEach [tg] X.env).map (·.2) = [assign tg X.env] := by rfl) : PS X (.Assign [tg] e pos) (tS X.K W (sAsg ee gv)) := PS.imp (ps_asg he hg hs hw h1) fun D' σ H h => by
  obtain ⟨m, σ', g, rl, sl, p⟩ := h
  refine ⟨m, σ', g, rl, sl.1, sl.2, sBind_s sl p fun d g1 m1 H1 v l1 r1 d1 p1 => ?_⟩
  refine ⟨m1, d, σ', g1, r1, sl.mono l1, d1, ?_⟩
  split at p1
  · rename_i σ2 g2 hq
    rw [hq]
    exact p1
  · exact p1.elim
theorem s_set {i : Nat} {x : Str} {pos' : Pos} (hN : X.N.Nodup) (hi : X.N[i]? = some x) (hx : Loc X.env.scope x) (he : PE X e (tE X.K W ee)) (hs : swapsWith e (some (.Name x pos')) pos.line X.env = pure false := by rfl) (hf : X.fn x = true ∨ X.env.scope.names.lookup x = some .local := by first | exact .inl rfl | exact .inr rfl | assumption) :
    PS X (.Assign [.Name x pos'] e pos) (tS X.K W (sSet i ee)) := PS.imp (ps_set hN hi hx he hs hf) fun D' σ H h => by
  obtain ⟨m, σ', g, rl, sl, p⟩ := h
  refine ⟨m, σ', g, rl, sl.1, sl.2, sBind_s sl p fun d g1 m1 H1 v l1 r1 d1 p1 => ?_⟩
  exact p1 m1 H1 _ (Le.refl m1) r1 ((sl.mono l1).set d1)
def sPar (i j : Nat) (t : Av) : Sx := fun σ g => sBind σ (t σ g) fun ds g1 => match ds with
  | [a, b] => .nx ((σ.set i (some a)).set j (some b)) g1
  | _ => .no
theorem s_par {i j : Nat} {x y : Str} {a b : Expr} {t : Av} {px py pt : Pos} {kt k2 pt2} (hc : X.calm = true) (hN : X.N.Nodup) (hi : X.N[i]? = some x) (hj : X.N[j]? = some y) (hij : i ≠ j)
    (hx : X.env.scope.names.lookup x = some .local) (hy : X.env.scope.names.lookup y = some .local) (ha : PA X [a, b] (tA X.K W t))
    (hw : swappedStores [.Tuple [.Name x px, .Name y py] kt pt] (.Tuple [a, b] k2 pt2) X.env = pure (some [x, y]))
    (hs : swapsWithSole [.Tuple [.Name x px, .Name y py] kt pt] (.Tuple [a, b] k2 pt2) pos.line X.env = pure false := by rfl) :
    PS X (.Assign [.Tuple [.Name x px, .Name y py] kt pt] (.Tuple [a, b] k2 pt2) pos) (tS X.K W (sPar i j t)) := PS.imp (ps_par hc hN hi hj hij hx hy ha hw hs) fun D' σ H h => by
  obtain ⟨m, σ', g, rl, sl, p⟩ := h
  refine ⟨m, σ', g, rl, sl.1, sl.2, sBind_s sl p fun ds g1 m1 H1 vs l1 r1 d1 p1 => ?_⟩
  split at p1
  · obtain ⟨v, ws, rfl, h1, h2⟩ := d1.consV
    obtain ⟨w, ws', rfl, h3, h4⟩ := h2.consV
    obtain rfl := h4.nilV
    exact ⟨v, w, rfl, p1 m1 H1 _ (Le.refl m1) r1 (((sl.mono l1).set h1).set h3)⟩
  · exact p1.elim
def sPar3 (i j l : Nat) (t : Av) : Sx := fun σ g => sBind σ (t σ g) fun ds g1 => match ds with
  | [a, b, c] => .nx (((σ.set i (some a)).set j (some b)).set l (some c)) g1
  | _ => .no
/-- name op= e -/
def sAug (i : Nat) (f : Op2) (e : Ev) : Sx := fun σ g => match σ[i]? with
  | some (some x) => sBind σ (e σ g) fun y g1 => sBind σ (f x y g1) fun z g2 => .nx (σ.set i (some z)) g2
  | _ => .no
theorem s_aug {i : Nat} {x : Str} {op : Operator} {r : R2} {f : Op2} {pos' : Pos} (ho : OpR X (inplaceOp op) r) (hs : OpS X.K W r f) (hN : X.N.Nodup) (hi : X.N[i]? = some x) (hx : Loc X.env.scope x) (he : PE X e (tE X.K W ee)) (hf : X.fn x = true ∨ X.env.scope.names.lookup x = some .local := by first | exact .inl rfl | exact .inr rfl | assumption) :
    PS X (.AugAssign (.Name x pos') op e pos) (tS X.K W (sAug i f ee)) := PS.imp (ps_aug hN hi hx he (ti := r) (fun pins s σ H x y v u Q I rx ry q => ho pins s σ H x y v u Q I rx ry q) hf) fun D' σ H h => by
  obtain ⟨m, σ', g, rl, sl, p⟩ := h
  unfold sAug at p
  split at p
  · rename_i d hd
    obtain ⟨v, h1, h2⟩ := sl.1 i d hd
    refine ⟨v, h1, m, σ', g, rl, sl.1, sl.2, sBind_s sl p fun e' g1 m1 H1 y l1 r1 d1 p1 => ?_⟩
    exact hs σ m1 g1 H1 d e' v y _ r1 (h2.mono l1) d1 (sBind_s (sl.mono l1) p1 fun z g2 m2 H2 w l2 r2 d2 p2 => p2 m2 H2 _ (Le.refl m2) r2 (((sl.mono l1).mono l2).set d2))
  · exact p.elim
end
theorem iop_sub1 {X : Cx} : OpR X (inplaceOp .Sub) (rI (fun _ _ => True) fun i j => .int (i - j)) := opI fun _ _ _ _ _ _ _ _ q => PyProof.Rows.isub_int q
def oAddI : Op2 := oI (fun _ _ => true) (· + ·)
theorem iop_add1 {X : Cx} : OpR X (inplaceOp .Add) (rI (fun _ _ => True) fun i j => .int (i + j)) := opI fun _ _ _ _ _ _ _ _ q => PyProof.Rows.iadd_int q
theorem oAddI_s {K : PySem.W.Frag} {W : WX} : OpS K W (rI (fun _ _ => True) fun i j => .int (i + j)) oAddI := oI_s fun _ _ _ => trivial
def oMulI : Op2 := oI cMul (· * ·)
theorem iop_mul1 {X : Cx} : OpR X (inplaceOp .Mult) (rI CMulW fun i j => .int (i * j)) := opI fun _ _ _ _ _ _ _ hc q => PyProof.Rows.imul_int q hc.ok
theorem oMulI_s {K : PySem.W.Frag} {W : WX} : OpS K W (rI CMulW fun i j => .int (i * j)) oMulI := oI_s fun _ _ h => cMul_ok h
def oModI : Op2 := oI (fun _ j => decide (0 < j)) (· % ·)
theorem oModI_s {K : PySem.W.Frag} {W : WX} : OpS K W (rI (fun _ j => 0 < j) fun i j => .int (i % j)) oModI := oI_s fun _ _ h => of_decide_eq_true h
/-! ### while -/
def sxWhile (c : Tv) (b : Sx) : Nat → Sx
  | 0 => fun _ _ => .no
  | n + 1 => fun σ g => sBind σ (c σ g) fun k g1 => match k with
    | true => match b σ g1 with
      | .nx σ' g' => sxWhile c b n σ' g'
      | .ct σ' g' => sxWhile c b n σ' g'
      | .bk σ' g' => .nx σ' g'
      | r => r
    | false => .nx σ g1
theorem s_while {X : Cx} {W : WX} {c : Expr} {body : List Stmt} {tc : Tv} {b : Sx} {pos : Pos} (n : Nat) (hp : PassesOwn (model X.prog X.w) X.A X.env X.xe) (hc : PT X c (tT X.K W tc)) (hb : PSs X body (tS X.K W b)) : PS X (.While c body [] pos) (tS X.K W (sxWhile tc b n)) :=
  PS.imp (ps_while hp hc hb) fun D' σ H h => by
    obtain ⟨m, σ', g, rl, sl, p⟩ := h
    refine ⟨fun n σv H => ∃ m1 σ1 g1, Rel X.K m1 g1 H ∧ SlotsL X.K m1 σ1 σv ∧ PostS X.K W (sxWhile tc b n σ1 g1) m1 D', ⟨n, m, σ', g, rl, sl, p⟩, ?_⟩
    rintro k σv H1 ⟨m1, σ1, g1, r1, s1, p1⟩
    cases k with
    | zero => exact p1.elim
    | succ k =>
      refine ⟨m1, σ1, g1, r1, s1.1, s1.2, sBind_s s1 p1 fun d g2 m2 H2 v l2 r2 d2 p2 => ?_⟩
      cases d2
      cases d with
      | false =>
        rw [if_neg Bool.false_ne_true]
        exact p2 m2 H2 σv (Le.refl m2) r2 (s1.mono l2)
      | true =>
        rw [if_pos rfl]
        refine ⟨fun σ3 H3 => ∃ m3 σ3' g3, Rel X.K m3 g3 H3 ∧ SlotsL X.K m3 σ3' σ3 ∧ PostS X.K W (sxWhile tc b k σ3' g3) m3 D', fun σ3 H3 q => ⟨k, Nat.lt_succ_self k, q⟩, m2, σ1, g2, r2, s1.mono l2, ?_⟩
        cases hr : b σ1 g2 with
        | nx σ3 g3 => simp only [hr] at p2; exact fun m4 H4 σ4 l4 r4 s4 => ⟨m4, σ3, g3, r4, s4, PostS.mono l4 p2⟩
        | ct σ3 g3 => simp only [hr] at p2; exact fun m4 H4 σ4 l4 r4 s4 => ⟨m4, σ3, g3, r4, s4, PostS.mono l4 p2⟩
        | bk σ3 g3 => simp only [hr] at p2; exact p2
        | rt d g3 => simp only [hr] at p2; exact p2
        | ex σ3 x g3 => simp only [hr] at p2; exact p2
        | no => simp only [hr] at p2; exact p2
end AW
namespace AW
open PySem PySem.Spec L2
/-! ### what is walked: fixed items, or a list that may change meanwhile -/
inductive Iv where
  | fix (ds : List D)
  | dyn (i : Nat)
def ItAt (K : PySem.W.Frag) (J : It) (m' : Md) (g : G) (H : Hp) (ds : List D) : Prop := ∀ k, (ds.length ≤ k → J.stop k H) ∧ (∀ d, ds[k]? = some d → J.go k H ∧ ∀ x H', J.yld k H x H' → ∃ m2, Le m' m2 ∧ Rel K m2 g H' ∧ Den K m2 d x)
def ItOk (K : PySem.W.Frag) (m : Md) (iv : Iv) (J : It) : Prop := ∀ m' g H, Le m m' → Rel K m' g H → match iv with
  | .fix ds => ItAt K J m' g H ds
  | .dyn i => ∀ ys, lmOf g i = some ys → ItAt K J m' g H ys
theorem ItOk.mono {K : PySem.W.Frag} {m m2 : Md} {iv : Iv} {J : It} (l : Le m m2) (h : ItOk K m iv J) : ItOk K m2 iv J := fun m' g H l2 r => h m' g H (l.trans l2) r
abbrev Ivv := Sg → G → Res Iv
def tIt (K : PySem.W.Frag) (W : WX) (iv : Ivv) : TI := fun σv H R => ∃ m σ g, Rel K m g H ∧ SlotsL K m σ σv ∧ Post K W σv (ItOk K) (iv σ g) m R
theorem PI.imp {X : Cx} {tg it : Expr} {t t' : TI} (h : PI X tg it t) (k : ∀ σ H Q, t' σ H Q → t σ H Q) : PI X tg it t' := ⟨fun pins s σ H Q I q => h.run pins s σ H Q I (k _ _ _ q)⟩
theorem PI.or {X : Cx} {tg it : Expr} {t t' : TI} (h : PI X tg it t) (h' : PI X tg it t') : PI X tg it (fun σ H R => t σ H R ∨ t' σ H R) := ⟨fun pins s σ H Q I q => q.elim (fun q => h.run pins s σ H Q I q) (fun q => h'.run pins s σ H Q I q)⟩
/-- a list or a tuple -/
def ivOf (d : D) (g : G) : Res Iv := match d with
  | .tup xs => .ok (.fix xs) g
  | .lst xs => .ok (.fix xs) g
  | .seq xs => .ok (.fix xs) g
  | .ref i => match lmOf g i with
    | some _ => .ok (.dyn i) g
    | none => .no
  | _ => .no
def iSeq (e : Ev) : Ivv := fun σ g => (e σ g).bind ivOf
theorem itl_at {K : PySem.W.Frag} {m : Md} {g : G} {H : Hp} {a : Addr} {ds : List D} {vs : List V} (r : Rel K m g H) (h : SqL K H a vs) (d : Dens K m ds vs) : ItAt K (Itl K a) m g H ds := fun k => by
  refine ⟨fun hk => ⟨vs, h, by rw [← d.length]; exact hk⟩, fun e he => ?_⟩
  obtain ⟨v, h1, h2⟩ := d.get he
  refine ⟨⟨vs, v, h, h1⟩, fun x H' y => ?_⟩
  obtain ⟨e1, y⟩ := y
  subst e1
  have := y vs h
  rw [h1] at this
  cases this
  exact ⟨m, Le.refl m, r, h2⟩
theorem itt_at {K : PySem.W.Frag} {m : Md} {g : G} {H : Hp} {a : Addr} {ds : List D} {vs : List V} (r : Rel K m g H) (h : SqT K H a vs) (d : Dens K m ds vs) : ItAt K (Itt K a) m g H ds := fun k => by
  refine ⟨fun hk => ⟨vs, h, by rw [← d.length]; exact hk⟩, fun e he => ?_⟩
  obtain ⟨v, h1, h2⟩ := d.get he
  refine ⟨⟨vs, v, h, h1⟩, fun x H' y => ?_⟩
  obtain ⟨e1, y⟩ := y
  subst e1
  have := y vs h
  rw [h1] at this
  cases this
  exact ⟨m, Le.refl m, r, h2⟩
theorem ivOf_s {K : PySem.W.Frag} {W : WX} {σv : L2.St} {m : Md} {g : G} {H : Hp} {d : D} {x : V} {R : It → Hp → Prop} (rl : Rel K m g H) (hd : Den K m d x) (p : Post K W σv (ItOk K) (ivOf d g) m R) :
    ((∃ xs, d = .tup xs) ∧ ∃ a, x = .ref a ∧ (∃ xs, SqT K H a xs) ∧ R (Itt K a) H) ∨ ((¬ ∃ xs, d = .tup xs) ∧ ∃ a, x = .ref a ∧ (∃ xs, SqL K H a xs) ∧ R (Itl K a) H) := by
  cases hd with
  | tup h1 h2 =>
    rename_i a xs vs
    refine .inl ⟨⟨xs, rfl⟩, a, rfl, ⟨vs, rl.seqT h1⟩, fin_ok rl ?_ p⟩
    exact fun m' g' H' l r' => itt_at r' (r'.seqT (sqT_le l.F h1)) (h2.mono l)
  | lst h1 h2 =>
    refine .inr ⟨(fun ⟨_, z⟩ => nomatch z), _, rfl, ⟨_, SqL.of (rl.ex _ _ h1)⟩, fin_ok rl ?_ p⟩
    exact fun m' g' H' l r' => itl_at r' (SqL.of (r'.ex _ _ (l.F _ _ h1))) (h2.mono l)
  | seq h1 h2 =>
    refine .inr ⟨(fun ⟨_, z⟩ => nomatch z), _, rfl, ⟨_, rl.seqL h1⟩, fin_ok rl ?_ p⟩
    exact fun m' g' H' l r' => itl_at r' (r'.seqL (sqL_le l.F h1)) (h2.mono l)
  | ref h1 =>
    rename_i i a
    have p' : Post K W σv (ItOk K) (match lmOf g i with | some _ => .ok (.dyn i) g | none => .no) m R := p
    split at p'
    · rename_i ys hy
      obtain ⟨a', vs, e1, h2, h3, h4⟩ := lmOf_s rl (.ref h1) hy
      cases e1
      refine .inr ⟨(fun ⟨_, z⟩ => nomatch z), a, rfl, ⟨vs, SqL.of h3⟩, fin_ok rl ?_ p'⟩
      intro m' g' H' l r' zs hz
      obtain ⟨b, ws, e2, h5, h6, h7⟩ := lmOf_s r' (.ref (l.r _ _ h1)) hz
      cases e2
      exact itl_at r' (SqL.of h6) h7
    · exact p'.elim
  | _ => exact p.elim
section
variable {X : Cx} {W : WX} {tg e : Expr} {ee : Ev} {es : List Expr} {t : Av}
theorem i_seq (he : PE X e (tE X.K W ee)) : PI X tg e (tIt X.K W (iSeq ee)) := PI.imp (PI.or (pi_tup he) (pi_list he)) fun σ H R h => by
  obtain ⟨m, σ', g, rl, sl, p⟩ := h
  unfold iSeq at p
  cases hr : ee σ' g with
  | no => rw [hr] at p; exact p.elim
  | ex x g1 =>
    rw [hr] at p
    refine .inl ⟨m, σ', g, rl, sl.1, sl.2, ?_⟩
    rw [hr]
    exact p
  | ok d g1 =>
    rw [hr] at p
    by_cases hd : ∃ xs, d = .tup xs
    · refine .inl ⟨m, σ', g, rl, sl.1, sl.2, ?_⟩
      rw [hr]
      refine fun m1 H1 x l1 r1 d1 => ?_
      rcases ivOf_s r1 d1 (Post.mono l1 p) with ⟨_, q⟩ | ⟨z, _⟩
      · exact q
      · exact (z hd).elim
    · refine .inr ⟨m, σ', g, rl, sl.1, sl.2, ?_⟩
      rw [hr]
      refine fun m1 H1 x l1 r1 d1 => ?_
      rcases ivOf_s r1 d1 (Post.mono l1 p) with ⟨z, _⟩ | ⟨_, q⟩
      · exact (hd z).elim
      · exact q
/-- ranges -/
def rangeD (lo : Int) : Nat → List D
  | 0 => []
  | n + 1 => .int lo :: rangeD (lo + 1) n
theorem rangeD_len (n : Nat) : ∀ lo, (rangeD lo n).length = n := by
  induction n with
  | zero => intro lo; rfl
  | succ n ih => intro lo; show (rangeD (lo + 1) n).length + 1 = n + 1; rw [ih]
theorem rangeD_get (n : Nat) : ∀ (lo : Int) (k : Nat) (d : D), (rangeD lo n)[k]? = some d → k < n ∧ d = .int (lo + k) := by
  induction n with
  | zero => intro lo k d h; simp [rangeD] at h
  | succ n ih =>
    intro lo k d h
    cases k with
    | zero => simp [rangeD] at h; subst h; simp
    | succ k =>
      have h' : (rangeD (lo + 1) n)[k]? = some d := by simpa [rangeD] using h
      obtain ⟨h1, h2⟩ := ih _ _ _ h'
      refine ⟨by omega, ?_⟩
      rw [h2]
      congr 1
      omega
theorem itr_ok {K : PySem.W.Frag} {m : Md} {lo : Int} {n : Nat} : ItOk K m (.fix (rangeD lo n)) (Itr lo n) := fun m' g H l r k => by
  refine ⟨fun hk => by rw [rangeD_len] at hk; exact hk, fun d hd => ?_⟩
  obtain ⟨h1, h2⟩ := rangeD_get n lo k d hd
  refine ⟨h1, fun x H' y => ?_⟩
  obtain ⟨e1, e2⟩ := y
  subst e1
  rw [e2, h2]
  exact ⟨m', Le.refl m', r, .int⟩
def smallI (i : Int) : Bool := decide (-4611686018427387904 ≤ i) && decide (i < 4611686018427387904)
theorem smallI_ok {i : Int} (h : smallI i = true) : -(2 ^ 62) ≤ i ∧ i < 2 ^ 62 := by
  unfold smallI at h
  rw [Bool.and_eq_true] at h
  have h1 := of_decide_eq_true h.1
  have h2 := of_decide_eq_true h.2
  have e : (2 : Int) ^ 62 = 4611686018427387904 := by decide
  rw [e]
  omega
def iRange1 (t : Av) : Ivv := fun σ g => (t σ g).bind fun ds g1 => match ds with
  | [.int j] => okIf (smallI j) (.fix (rangeD 0 j.toNat)) g1
  | _ => .no
def iRange2 (t : Av) : Ivv := fun σ g => (t σ g).bind fun ds g1 => match ds with
  | [.int i, .int j] => okIf (smallI i && smallI j) (.fix (rangeD i (j - i).toNat)) g1
  | _ => .no
theorem i_range1 {a : Expr} {p pos : Pos} (hg : Gl X "range") (hm : X.mg "range" = none) (ha : PA X [a] (tA X.K W t)) (hs : starEach [a] X.env = [(false, eval a X.env)] := by rfl) : PI X tg (.Call (.Name "range" p) [a] [] pos) (tIt X.K W (iRange1 t)) :=
  PI.imp (pi_range1 hg hm ha hs) fun σ H R h => by
    obtain ⟨m, σ', g, rl, sl, p⟩ := h
    refine ⟨m, σ', g, rl, sl.1, sl.2, Post.bind p fun ds g1 m1 H1 vs l1 r1 d1 p1 => ?_⟩
    split at p1
    · obtain ⟨v, ws, rfl, h1, h2⟩ := d1.consV
      obtain rfl := h2.nilV
      cases h1
      obtain ⟨c, p1⟩ := okIf_post p1
      obtain ⟨c1, c2⟩ := smallI_ok c
      exact ⟨_, rfl, c1, c2, fin_ok r1 itr_ok p1⟩
    · exact p1.elim
theorem i_range2 {a b : Expr} {p pos : Pos} (hg : Gl X "range") (hm : X.mg "range" = none) (ha : PA X [a, b] (tA X.K W t)) (hs : starEach [a, b] X.env = [(false, eval a X.env), (false, eval b X.env)] := by rfl) (hs2 : starEach [b] X.env = [(false, eval b X.env)] := by rfl) :
    PI X tg (.Call (.Name "range" p) [a, b] [] pos) (tIt X.K W (iRange2 t)) :=
  PI.imp (pi_range2 hg hm ha hs hs2) fun σ H R h => by
    obtain ⟨m, σ', g, rl, sl, p⟩ := h
    refine ⟨m, σ', g, rl, sl.1, sl.2, Post.bind p fun ds g1 m1 H1 vs l1 r1 d1 p1 => ?_⟩
    split at p1
    · obtain ⟨v, ws, rfl, h1, h2⟩ := d1.consV
      obtain ⟨v', ws', rfl, h3, h4⟩ := h2.consV
      obtain rfl := h4.nilV
      cases h1
      cases h3
      obtain ⟨c, p1⟩ := okIf_post p1
      rw [Bool.and_eq_true] at c
      obtain ⟨c1, c2⟩ := smallI_ok c.1
      obtain ⟨c3, c4⟩ := smallI_ok c.2
      exact ⟨_, _, rfl, ⟨c1, c2, c3, c4⟩, fin_ok r1 itr_ok p1⟩
    · exact p1.elim
/-- enumerate of a list, zip of two lists or two tuples -/
def enumD (i : Int) : List D → List D
  | [] => []
  | x :: xs => .tup [.int i, x] :: enumD (i + 1) xs
theorem enumD_len (xs : List D) : ∀ i, (enumD i xs).length = xs.length := by
  induction xs with
  | nil => intro i; rfl
  | cons x xs ih => intro i; show (enumD (i + 1) xs).length + 1 = xs.length + 1; rw [ih]
theorem enumD_get (xs : List D) : ∀ (i : Int) (k : Nat) (d : D), (enumD i xs)[k]? = some d → ∃ x, xs[k]? = some x ∧ d = .tup [.int (i + k), x] := by
  induction xs with
  | nil => intro i k d h; simp [enumD] at h
  | cons x xs ih =>
    intro i k d h
    cases k with
    | zero => simp [enumD] at h; subst h; exact ⟨x, by simp, by simp⟩
    | succ k =>
      have h' : (enumD (i + 1) xs)[k]? = some d := by simpa [enumD] using h
      obtain ⟨y, h1, h2⟩ := ih _ _ _ h'
      refine ⟨y, by simpa using h1, ?_⟩
      rw [h2]
      congr 3
      omega
def zipD : List D → List D → List D
  | x :: xs, y :: ys => .tup [x, y] :: zipD xs ys
  | _, _ => []
theorem zipD_get (xs : List D) : ∀ (ys : List D) (k : Nat) (d : D), (zipD xs ys)[k]? = some d → ∃ x y, xs[k]? = some x ∧ ys[k]? = some y ∧ d = .tup [x, y] := by
  induction xs with
  | nil => intro ys k d h; simp [zipD] at h
  | cons x xs ih =>
    intro ys k d h
    cases ys with
    | nil => simp [zipD] at h
    | cons y ys =>
      cases k with
      | zero => simp [zipD] at h; subst h; exact ⟨x, y, by simp, by simp, rfl⟩
      | succ k =>
        have h' : (zipD xs ys)[k]? = some d := by simpa [zipD] using h
        obtain ⟨a, b, h1, h2, h3⟩ := ih _ _ _ h'
        exact ⟨a, b, by simpa using h1, by simpa using h2, h3⟩
theorem zipD_len (xs : List D) : ∀ ys, (zipD xs ys).length = min xs.length ys.length := by
  induction xs with
  | nil => intro ys; simp [zipD]
  | cons x xs ih =>
    intro ys
    cases ys with
    | nil => simp [zipD]
    | cons y ys => simp only [zipD, List.length_cons, ih]; omega
theorem put_pair {K : PySem.W.Frag} {m : Md} {g : G} {H : Hp} {p : Addr} {a b : D} {x y : V} (r : Rel K m g H) (hp : H p = none) (h1 : Den K m a x) (h2 : Den K m b y) : ∃ m2, Le m m2 ∧ Rel K m2 g (upd H p (.tup [x, y])) ∧ Den K m2 (.tup [a, b]) (.ref p) :=
  ⟨m.put p (.tup [x, y]), le_put (r.free hp), r.put hp, put_tup (r.free hp) (.cons h1 (.cons h2 .nil))⟩
def iEnumL (t : Av) : Ivv := fun σ g => (t σ g).bind fun ds g1 => match ds with
  | [.lst xs] => .ok (.fix (enumD 0 xs)) g1
  | _ => .no
theorem i_enum {a : Expr} {p pos tpos : Pos} {elts : List Expr} {kk : Nat} (hg : Gl X "enumerate") (hm : X.mg "enumerate" = none) (ha : PA X [a] (tA X.K W t)) (hs : starEach [a] X.env = [(false, eval a X.env)] := by rfl) :
    PI X (.Tuple elts kk tpos) (.Call (.Name "enumerate" p) [a] [] pos) (tIt X.K W (iEnumL t)) := PI.imp (pi_enum hg hm ha hs) fun σ H R h => by
  obtain ⟨m, σ', g, rl, sl, p⟩ := h
  refine ⟨m, σ', g, rl, sl.1, sl.2, Post.bind p fun ds g1 m1 H1 vs l1 r1 d1 p1 => ?_⟩
  split at p1
  · obtain ⟨v, ws, rfl, h1, h2⟩ := d1.consV
    obtain rfl := h2.nilV
    cases h1 with
    | lst h3 h4 =>
      rename_i xs a vs
      refine ⟨a, vs, rfl, SqL.of (r1.ex _ _ h3), fin_ok r1 ?_ p1⟩
      intro m' g' H' l r' k
      have hs' := SqL.of (K := X.K) (r'.ex _ _ (l.F _ _ h3))
      refine ⟨fun hk => ⟨vs, hs', by rw [enumD_len] at hk; rw [← h4.length]; exact hk⟩, fun d hd => ?_⟩
      obtain ⟨x, h5, h6⟩ := enumD_get xs 0 k d hd
      obtain ⟨v, h7, h8⟩ := h4.get h5
      refine ⟨⟨vs, v, hs', h7⟩, fun y H2 yl => ?_⟩
      obtain ⟨T, z, e1, e2, e3, e4⟩ := yl
      have := e4 vs hs'
      rw [h7] at this
      cases this
      subst e1
      rw [e3, h6]
      have e0 : (0 : Int) + (k : Int) = (k : Int) := by omega
      rw [e0]
      exact put_pair r' e2 .int (h8.mono l)
  · exact p1.elim
def iZipL (t : Av) : Ivv := fun σ g => (t σ g).bind fun ds g1 => match ds with
  | [.lst xs, .lst ys] => .ok (.fix (zipD xs ys)) g1
  | [.tup xs, .tup ys] => .ok (.fix (zipD xs ys)) g1
  | _ => .no
theorem i_zip {a b : Expr} {p pos tpos : Pos} {elts : List Expr} {kk : Nat} (hg : Gl X "zip") (hm : X.mg "zip" = none) (ha : PA X [a, b] (tA X.K W t)) (hs : starEach [a, b] X.env = (false, eval a X.env) :: starEach [b] X.env := by rfl) (hpl : (backTo pos (starEach [b] X.env)).any (·.1) = false := by rfl) :
    PI X (.Tuple elts kk tpos) (.Call (.Name "zip" p) [a, b] [] pos) (tIt X.K W (iZipL t)) := PI.imp (RZ.pi_zipA hg hm ha hs hpl) fun σ H R h => by
  obtain ⟨m, σ', g, rl, sl, p⟩ := h
  refine ⟨m, σ', g, rl, sl.1, sl.2, Post.bind p fun ds g1 m1 H1 vs l1 r1 d1 p1 => ?_⟩
  split at p1
  · obtain ⟨v, ws, rfl, h1, h2⟩ := d1.consV
    obtain ⟨v', ws', rfl, h1', h2'⟩ := h2.consV
    obtain rfl := h2'.nilV
    cases h1 with
    | lst h3 h4 =>
      cases h1' with
      | lst h3' h4' =>
        rename_i xs ys a vs b ws
        refine ⟨a, b, vs, ws, rfl, .inl ⟨SqL.of (r1.ex _ _ h3), SqL.of (r1.ex _ _ h3'), fin_ok r1 ?_ p1⟩⟩
        intro m' g' H' l r' k
        have ha' := SqL.of (K := X.K) (r'.ex _ _ (l.F _ _ h3))
        have hb' := SqL.of (K := X.K) (r'.ex _ _ (l.F _ _ h3'))
        refine ⟨fun hk => ⟨vs, ws, ha', hb', by rw [zipD_len] at hk; rw [← h4.length, ← h4'.length]; omega⟩, fun d hd => ?_⟩
        obtain ⟨x, y, h5, h6, h7⟩ := zipD_get xs ys k d hd
        obtain ⟨v, h8, h9⟩ := h4.get h5
        obtain ⟨w, h8', h9'⟩ := h4'.get h6
        refine ⟨⟨vs, ws, v, w, ha', hb', h8, h8'⟩, fun y H2 yl => ?_⟩
        obtain ⟨T, z1, z2, e1, e2, e3, e4, e5⟩ := yl
        have q1 := e4 vs ha'
        have q2 := e5 ws hb'
        rw [h8] at q1
        rw [h8'] at q2
        cases q1
        cases q2
        subst e1
        rw [e3, h7]
        exact put_pair r' e2 (h9.mono l) (h9'.mono l)
  · obtain ⟨v, ws, rfl, h1, h2⟩ := d1.consV
    obtain ⟨v', ws', rfl, h1', h2'⟩ := h2.consV
    obtain rfl := h2'.nilV
    cases h1 with
    | tup h3 h4 =>
      cases h1' with
      | tup h3' h4' =>
        rename_i xs ys a vs b ws
        refine ⟨a, b, vs, ws, rfl, .inr ⟨r1.seqT h3, r1.seqT h3', fin_ok r1 ?_ p1⟩⟩
        intro m' g' H' l r' k
        have ha' := r'.seqT (sqT_le l.F h3)
        have hb' := r'.seqT (sqT_le l.F h3')
        refine ⟨fun hk => ⟨vs, ws, ha', hb', by rw [zipD_len] at hk; rw [← h4.length, ← h4'.length]; omega⟩, fun d hd => ?_⟩
        obtain ⟨x, y, h5, h6, h7⟩ := zipD_get xs ys k d hd
        obtain ⟨v, h8, h9⟩ := h4.get h5
        obtain ⟨w, h8', h9'⟩ := h4'.get h6
        refine ⟨⟨vs, ws, v, w, ha', hb', h8, h8'⟩, fun y H2 yl => ?_⟩
        obtain ⟨T, z1, z2, e1, e2, e3, e4, e5⟩ := yl
        have q1 := e4 vs ha'
        have q2 := e5 ws hb'
        rw [h8] at q1
        rw [h8'] at q2
        cases q1
        cases q2
        subst e1
        rw [e3, h7]
        exact put_pair r' e2 (h9.mono l) (h9'.mono l)
  · exact p1.elim
end
/-! ### for -/
/-- what follows a turn -/
@[reducible] def sNext (r : SRes) (k : Sg → G → SRes) : SRes := match r with
  | .nx σ g => k σ g
  | .ct σ g => k σ g
  | .bk σ g => .nx σ g
  | r => r
def sForL (gv : Gv) (b : Sx) : List D → Sx
  | [] => fun σ g => .nx σ g
  | d :: ds => fun σ g => match gv d σ g with
    | some (σ1, g1) => sNext (b σ1 g1) (sForL gv b ds)
    | none => .no
def sForD (gv : Gv) (b : Sx) (i : Nat) : Nat → Nat → Sx
  | 0, _ => fun _ _ => .no
  | n + 1, k => fun σ g => match lmOf g i with
    | some ys => match ys[k]? with
      | some d => match gv d σ g with
        | some (σ1, g1) => sNext (b σ1 g1) (sForD gv b i n (k + 1))
        | none => .no
      | none => .nx σ g
    | none => .no
def sFor (iv : Ivv) (gv : Gv) (b : Sx) : Sx := fun σ g => sBind σ (iv σ g) fun v g1 => match v with
  | .fix ds => sForL gv b ds σ g1
  | .dyn i => sForD gv b i 100000 0 σ g1
theorem turn_s {K : PySem.W.Frag} {W : WX} {gv : Gv} {b : Sx} {k : Sg → G → SRes} {m : Md} {d : D} {σ : Sg} {σv : L2.St} {g : G} {H' : Hp} {x : V} {D' : Ends} {N : L2.St → Hp → Prop} {m2 : Md} (l : Le m m2) (sl : SlotsL K m σ σv) (r2 : Rel K m2 g H') (hd : Den K m2 d x)
    (p : PostS K W (match gv d σ g with | some (σ1, g1) => sNext (b σ1 g1) k | none => .no) m D') (hN : ∀ m3 σ3 σ3v g3 H3, Le m2 m3 → Rel K m3 g3 H3 → SlotsL K m3 σ3 σ3v → PostS K W (k σ3 g3) m3 D' → N σ3v H3) :
    tGt K gv x σv H' fun σ2 H2 => tS K W b { D' with nx := N, ct := N, bk := D'.nx } σ2 H2 := by
  refine ⟨m2, d, σ, g, r2, sl.mono l, hd, ?_⟩
  split at p
  · rename_i σ1 g1 hq
    rw [hq]
    refine fun m3 H3 σ3 l3 r3 s3 => ⟨m3, σ1, g1, r3, s3, ?_⟩
    cases hr : b σ1 g1 with
    | nx σ4 g4 => simp only [hr] at p; exact fun m5 H5 σ5 l5 r5 s5 => hN m5 σ4 σ5 g4 H5 (l3.trans l5) r5 s5 (PostS.mono (l.trans (l3.trans l5)) p)
    | ct σ4 g4 => simp only [hr] at p; exact fun m5 H5 σ5 l5 r5 s5 => hN m5 σ4 σ5 g4 H5 (l3.trans l5) r5 s5 (PostS.mono (l.trans (l3.trans l5)) p)
    | bk σ4 g4 => simp only [hr] at p; exact PostS.mono (m := m) (l.trans l3) p
    | rt d g4 => simp only [hr] at p; exact PostS.mono (m := m) (l.trans l3) p
    | ex σ4 e g4 => simp only [hr] at p; exact PostS.mono (m := m) (l.trans l3) p
    | no => simp only [hr] at p; exact p
  · exact p.elim
theorem s_for {X : Cx} {W : WX} {tg iter : Expr} {body : List Stmt} {iv : Ivv} {gv : Gv} {b : Sx} {pos : Pos} (hp : PassesOwn (model X.prog X.w) X.A X.env X.xe) (hc : X.calm = true) (hi : PI X tg iter (tIt X.K W iv)) (hg : PG X tg (tGt X.K gv)) (hb : PSs X body (tS X.K W b))
    (hs : ∀ x, foldedSetIterable iter X.env x = pure x := by intro _; rfl) : PS X (.For tg iter body [] pos) (tS X.K W (sFor iv gv b)) := PS.imp (ps_for hp hc hi hg hb hs) fun D' σ H h => by
  obtain ⟨m, σ', g, rl, sl, p⟩ := h
  refine ⟨m, σ', g, rl, sl, sBind_s sl p fun v g1 m1 H1 J l1 r1 d1 p1 => ?_⟩
  cases v with
  | fix ds =>
    refine ⟨fun i n σv H => ∃ m2 σ2 g2, Le m1 m2 ∧ Rel X.K m2 g2 H ∧ SlotsL X.K m2 σ2 σv ∧ n = ds.length - i ∧ i ≤ ds.length ∧ PostS X.K W (sForL gv b (ds.drop i) σ2 g2) m2 D', ⟨ds.length, m1, σ', g1, Le.refl m1, r1, sl.mono l1, rfl, Nat.zero_le _, p1⟩, ?_⟩
    rintro i n σv H2 ⟨m2, σ2, g2, l2, r2, s2, hn, hle, p2⟩
    obtain ⟨hstop, hgo⟩ := d1 m2 g2 H2 l2 r2 i
    by_cases hi : i < ds.length
    · have hdi : ds[i]? = some ds[i] := by simp [hi]
      obtain ⟨go, hy⟩ := hgo _ hdi
      refine .inr ⟨go, fun σv H => ∃ m2 σ2 g2, Le m1 m2 ∧ Rel X.K m2 g2 H ∧ SlotsL X.K m2 σ2 σv ∧ PostS X.K W (sForL gv b (ds.drop (i + 1)) σ2 g2) m2 D', fun σv H ⟨m3, σ3, g3, l3, r3, s3, p3⟩ => ⟨ds.length - (i + 1), by omega, m3, σ3, g3, l3, r3, s3, rfl, hi, p3⟩, fun x H3 yl => ?_⟩
      obtain ⟨m3, l3, r3, hd⟩ := hy x H3 yl
      rw [List.drop_eq_getElem_cons hi] at p2
      exact turn_s l3 s2 r3 hd p2 fun m4 σ4 σ4v g4 H4 l4 r4 s4 p4 => ⟨m4, σ4, g4, l2.trans (l3.trans l4), r4, s4, p4⟩
    · have hi' : i = ds.length := by omega
      subst hi'
      rw [List.drop_length] at p2
      exact .inl ⟨hstop (Nat.le_refl _), p2 m2 H2 σv (Le.refl m2) r2 s2⟩
  | dyn j =>
    refine ⟨fun i n σv H => ∃ m2 σ2 g2, Le m1 m2 ∧ Rel X.K m2 g2 H ∧ SlotsL X.K m2 σ2 σv ∧ PostS X.K W (sForD gv b j n i σ2 g2) m2 D', ⟨100000, m1, σ', g1, Le.refl m1, r1, sl.mono l1, p1⟩, ?_⟩
    rintro i n σv H2 ⟨m2, σ2, g2, l2, r2, s2, p2⟩
    cases n with
    | zero => exact p2.elim
    | succ n =>
      unfold sForD at p2
      split at p2
      · rename_i ys hy
        obtain ⟨hstop, hgo⟩ := d1 m2 g2 H2 l2 r2 ys hy i
        split at p2
        · rename_i d hd
          obtain ⟨go, hyl⟩ := hgo d hd
          refine .inr ⟨go, fun σv H => ∃ m2 σ2 g2, Le m1 m2 ∧ Rel X.K m2 g2 H ∧ SlotsL X.K m2 σ2 σv ∧ PostS X.K W (sForD gv b j n (i + 1) σ2 g2) m2 D', fun σv H q => ⟨n, Nat.lt_succ_self n, q⟩, fun x H3 yl => ?_⟩
          obtain ⟨m3, l3, r3, hd'⟩ := hyl x H3 yl
          exact turn_s l3 s2 r3 hd' p2 fun m4 σ4 σ4v g4 H4 l4 r4 s4 p4 => ⟨m4, σ4, g4, l2.trans (l3.trans l4), r4, s4, p4⟩
        · rename_i hd
          exact .inl ⟨hstop (List.getElem?_eq_none_iff.mp hd), p2 m2 H2 σv (Le.refl m2) r2 s2⟩
      · exact p2.elim
end AW
namespace AW
open PySem PySem.Spec L2
/-! ### comprehensions -/
def wipeD (σ : Sg) : List Nat → Sg
  | [] => σ
  | v :: vs => (wipeD σ vs).set v none
theorem wipeD_len (σ : Sg) : ∀ vs, (wipeD σ vs).length = σ.length
  | [] => rfl
  | v :: vs => by unfold wipeD; rw [List.length_set, wipeD_len σ vs]
theorem wipe_s {K : PySem.W.Frag} {m : Md} {σ : Sg} {σv : L2.St} (h : SlotsL K m σ σv) : ∀ vs, SlotsL K m (wipeD σ vs) (wipe σv vs)
  | [] => h
  | v :: vs => by
    have ih := wipe_s h vs
    refine ⟨fun i d q => ?_, by unfold wipeD wipe; rw [List.length_set, List.length_set]; exact ih.2⟩
    unfold wipeD at q
    unfold wipe
    by_cases hi : v = i
    · subst hi
      by_cases hl : v < (wipeD σ vs).length
      · rw [List.getElem?_set_self hl] at q; cases q
      · rw [List.getElem?_eq_none (by simp; omega)] at q; cases q
    · rw [List.getElem?_set_ne hi] at q ⊢
      exact ih.1 i d q
theorem wipe_set {σv : L2.St} {x : Option V} {i : Nat} : ∀ {vs : List Nat}, i ∈ vs → wipe (σv.set i x) vs = wipe σv vs
  | v :: vs, h => by
    unfold wipe
    by_cases hv : i = v
    · subst hv
      by_cases hm : i ∈ vs
      · rw [wipe_set hm]
      · have key : ∀ (us : List Nat), i ∉ us → wipe (σv.set i x) us = (wipe σv us).set i x := by
          intro us
          induction us with
          | nil => intro _; rfl
          | cons u us ih =>
            intro hu
            have h1 : i ≠ u := fun z => hu (by rw [z]; exact List.mem_cons_self)
            have h2 : i ∉ us := fun z => hu (List.mem_cons_of_mem _ z)
            unfold wipe
            rw [ih h2, List.set_comm _ _ h1]
        rw [key vs hm, List.set_set]
    · have hm : i ∈ vs := by
        rcases List.mem_cons.mp h with z | z
        · exact absurd z hv
        · exact z
      rw [wipe_set hm]
theorem wipe_sub (σ : L2.St) : ∀ (us vs : List Nat), (∀ u ∈ us, u ∈ vs) → wipe (wipe σ us) vs = wipe σ vs
  | [], _, _ => rfl
  | u :: us, vs, h => by
    have e : wipe σ (u :: us) = (wipe σ us).set u none := rfl
    rw [e, wipe_set (h u List.mem_cons_self)]
    exact wipe_sub σ us vs fun x hx => h x (List.mem_cons_of_mem _ hx)
theorem wipe_idem (σ : L2.St) (vs : List Nat) : wipe (wipe σ vs) vs = wipe σ vs := wipe_sub σ vs vs fun _ h => h
/-- a comprehension's target -/
def CT (K : PySem.W.Frag) (vs : List Nat) (t : TG) (gv : Gv) : Prop := ∀ (m : Md) (d : D) (v : V) (σ : Sg) (σv : L2.St) (g : G) (H : Hp) (σ' : Sg) (g' : G) (Q : L2.St → Hp → Prop), Rel K m g H → SlotsL K m σ σv → Den K m d v → gv d σ g = some (σ', g') →
  (∀ σv', SlotsL K m σ' σv' → wipe σv' vs = wipe σv vs → Rel K m g' H → Q σv' H) → t v σv H Q
def CTs (K : PySem.W.Frag) (vs : List Nat) (t : TGs) (gv : Gvs) : Prop := ∀ (m : Md) (ds : List D) (ws : List V) (σ : Sg) (σv : L2.St) (g : G) (H : Hp) (σ' : Sg) (g' : G) (Q : L2.St → Hp → Prop), Rel K m g H → SlotsL K m σ σv → Dens K m ds ws → gv ds σ g = some (σ', g') →
  (∀ σv', SlotsL K m σ' σv' → wipe σv' vs = wipe σv vs → Rel K m g' H → Q σv' H) → t ws σv H Q
theorem ct_name {K : PySem.W.Frag} {vs : List Nat} {i : Nat} (h : i ∈ vs) : CT K vs (gName i) (gvName i) := fun m d v σ σv g H σ' g' Q r sl hd e k => by
  cases e
  exact k _ (sl.set hd) (wipe_set h) r
theorem cts_nil {K : PySem.W.Frag} {vs : List Nat} : CTs K vs gNil gvNil := fun m ds ws σ σv g H σ' g' Q r sl hd e k => by
  unfold gvNil at e
  split at e
  · cases e
    exact ⟨hd.nilV, k _ sl rfl r⟩
  · cases e
theorem cts_cons {K : PySem.W.Frag} {vs : List Nat} {t : TG} {ts : TGs} {a : Gv} {b : Gvs} (h1 : CT K vs t a) (h2 : CTs K vs ts b) : CTs K vs (gCons t ts) (gvCons a b) := fun m ds ws σ σv g H σ' g' Q r sl hd e k => by
  unfold gvCons at e
  split at e
  · obtain ⟨v, us, rfl, h3, h4⟩ := hd.consV
    split at e
    · rename_i σ2 g2 hq
      refine ⟨v, us, rfl, ?_⟩
      refine h1 m _ v σ σv g H σ2 g2 _ r sl h3 hq fun σv2 s2 w2 r2 => ?_
      exact h2 m _ us σ2 σv2 g2 H σ' g' Q r2 s2 h4 e fun σv3 s3 w3 r3 => k σv3 s3 (w3.trans w2) r3
    · cases e
  · cases e
theorem ct_tup {K : PySem.W.Frag} {vs : List Nat} {ts : TGs} {b : Gvs} {n : Nat} (h : CTs K vs ts b) : CT K vs (gTup K n ts) (gvTup n b) := fun m d v σ σv g H σ' g' Q r sl hd e k => by
  unfold gvTup at e
  split at e
  · split at e
    · rename_i hl
      cases hd with
      | tup h1 h2 => exact ⟨_, _, rfl, r.seqT h1, by rw [← h2.length]; exact hl, h m _ _ σ σv g H σ' g' Q r sl h2 e k⟩
    · cases e
  · cases e
/-- one turn: nothing, or an item -/
def lcT (gv : Gv) (tt : Tv) (te : Ev) (σ : Sg) (d : D) (g : G) : Res (Option D) := match gv d σ g with
  | some (σ1, g1) => match tt σ1 g1 with
    | .ok true g2 => match te σ1 g2 with
      | .ok y g3 => .ok (some y) g3
      | _ => .no
    | .ok false g2 => .ok none g2
    | _ => .no
  | none => .no
def lcPut (o : Option D) (r : Res (List D)) : Res (List D) := match o with
  | none => r
  | some y => match r with
    | .ok ys g => .ok (y :: ys) g
    | _ => .no
def lcL (gv : Gv) (tt : Tv) (te : Ev) (σ : Sg) : List D → G → Res (List D)
  | [], g => .ok [] g
  | d :: ds, g => match lcT gv tt te σ d g with
    | .ok o g1 => lcPut o (lcL gv tt te σ ds g1)
    | _ => .no
def lcD (gv : Gv) (tt : Tv) (te : Ev) (σ : Sg) (i : Nat) : Nat → Nat → G → Res (List D)
  | 0, _, _ => .no
  | n + 1, k, g => match lmOf g i with
    | some ys => match ys[k]? with
      | some d => match lcT gv tt te σ d g with
        | .ok o g1 => lcPut o (lcD gv tt te σ i n (k + 1) g1)
        | _ => .no
      | none => .ok [] g
    | none => .no
def lcAll (gv : Gv) (tt : Tv) (te : Ev) (σ : Sg) (v : Iv) (g : G) : Res (List D) := match v with
  | .fix ds => lcL gv tt te σ ds g
  | .dyn i => lcD gv tt te σ i 100000 0 g
def noEx {α : Type} : Res α → Res α
  | .ok a g => .ok a g
  | _ => .no
def eLc (iv : Ivv) (gv : Gv) (tt : Tv) (te : Ev) (vs : List Nat) : Ev := fun σ g => (iv σ g).bind fun v g1 => (noEx (lcAll gv tt te (wipeD σ vs) v g1)).bind fun ys g2 => okIf (small ys) (.lst ys) g2
/-- the list changes afterwards -/
def eLcM (iv : Ivv) (gv : Gv) (tt : Tv) (te : Ev) (vs : List Nat) : Ev := fun σ g => (iv σ g).bind fun v g1 => (noEx (lcAll gv tt te (wipeD σ vs) v g1)).bind fun ys g2 => okIf (small ys) (.ref g2.length) (g2 ++ [.lst ys])
theorem den_md {K : PySem.W.Frag} {m m' : Md} (hF : ∀ a o, m.F a = some o → m'.F a = some o) (hr : ∀ i a, m.r i = some a → m'.r i = some a) {d : D} {v : V} (q : Den K m d v) : Den K m' d v := by
  exact Den.rec (motive_1 := fun d v _ => Den K m' d v) (motive_2 := fun ds vs _ => Dens K m' ds vs) .non .bl .int .str (fun h _ ih => .tup (sqT_le hF h) ih) (fun h _ ih => .lst (hF _ _ h) ih) (fun h _ ih => .seq (sqL_le hF h) ih) (fun h => .ref (hr _ _ h)) .val .nil (fun _ _ ih1 ih2 => .cons ih1 ih2) q
theorem dens_md {K : PySem.W.Frag} {m m' : Md} (hF : ∀ a o, m.F a = some o → m'.F a = some o) (hr : ∀ i a, m.r i = some a → m'.r i = some a) {d : List D} {v : List V} (q : Dens K m d v) : Dens K m' d v := by
  exact Dens.rec (motive_1 := fun d v _ => Den K m' d v) (motive_2 := fun ds vs _ => Dens K m' ds vs) .non .bl .int .str (fun h _ ih => .tup (sqT_le hF h) ih) (fun h _ ih => .lst (hF _ _ h) ih) (fun h _ ih => .seq (sqL_le hF h) ih) (fun h => .ref (hr _ _ h)) .val .nil (fun _ _ ih1 ih2 => .cons ih1 ih2) q
/-- something is set aside -/
def Md.hide (m : Md) (p : Addr) (o : HO) : Md := ⟨m.F, m.r, upd m.hid p o⟩
theorem le_hide {m : Md} {p : Addr} {o : HO} (h : m.hid p = none) : Le m (m.hide p o) := ⟨fun _ _ h => h, fun _ _ h => h, fun a u e => by
  show upd m.hid p o a = some u
  rw [upd_ne (ne_of_none e h)]
  exact e⟩
theorem Rel.hfree {K : PySem.W.Frag} {m : Md} {g : G} {H : Hp} (r : Rel K m g H) {p : Addr} (h : H p = none) : m.hid p = none := by
  cases q : m.hid p with
  | none => rfl
  | some o => rw [(r.hid p o q).1] at h; cases h
theorem Rel.hide {K : PySem.W.Frag} {m : Md} {g : G} {H : Hp} (r : Rel K m g H) {p : Addr} {o : HO} (h : H p = none) : Rel K (m.hide p o) g (upd H p o) where
  ex := fun a u e => by
    have e' : m.F a = some u := e
    rw [upd_ne (ne_of_none (r.ex a u e') h)]
    exact r.ex a u e'
  cell := fun i c hc => by
    obtain ⟨a, h1, h2, u, h3, h4⟩ := r.cell i c hc
    exact ⟨a, h1, h2, u, by rw [upd_ne (ne_of_none h3 h)]; exact h3, h4.mono (le_hide (r.hfree h))⟩
  dom := r.dom
  inj := r.inj
  hid := fun a u e => by
    have e' : upd m.hid p o a = some u := e
    by_cases ha : a = p
    · subst ha
      rw [upd_same] at e' ⊢
      refine ⟨e', r.free h, fun i z => ?_⟩
      have zl := r.dom i a z
      obtain ⟨b, h1, _, u', h3, _⟩ := r.cell i g[i] (by simp [zl])
      have z' : m.r i = some a := z
      rw [z'] at h1
      cases h1
      rw [h] at h3
      cases h3
    · rw [upd_ne ha] at e' ⊢
      exact r.hid a u e'
/-- what is set aside changes -/
theorem Rel.hset {K : PySem.W.Frag} {m : Md} {g : G} {H : Hp} (r : Rel K m g H) {p : Addr} {o u : HO} (h : m.hid p = some u) : Rel K (m.hide p o) g (upd H p o) := by
  obtain ⟨h1, h2, h3⟩ := r.hid p u h
  refine ⟨fun a w e => ?_, fun i c hc => ?_, r.dom, r.inj, fun a w e => ?_⟩
  · have e' : m.F a = some w := e
    have ha : a ≠ p := fun z => by rw [z, h2] at e'; cases e'
    rw [upd_ne ha]
    exact r.ex a w e'
  · obtain ⟨a, h4, h5, w, h6, h7⟩ := r.cell i c hc
    have ha : a ≠ p := fun z => by rw [z] at h4; exact h3 i h4
    refine ⟨a, h4, h5, w, by rw [upd_ne ha]; exact h6, ?_⟩
    cases c with
    | lst xs =>
      obtain ⟨vs, e1, e2⟩ := h7
      exact ⟨vs, e1, dens_md (m := m) (m' := m.hide p o) (fun _ _ z => z) (fun _ _ z => z) e2⟩
  · have e' : upd m.hid p o a = some w := e
    by_cases ha : a = p
    · subst ha
      rw [upd_same] at e' ⊢
      exact ⟨e', h2, h3⟩
    · rw [upd_ne ha] at e' ⊢
      exact r.hid a w e'
/-- it is set aside no more, and frozen | a cell -/
def Md.unhide (m : Md) (p : Addr) (old : Option HO) : Hp := fun b => if b = p then old else m.hid b
theorem Rel.freeze {K : PySem.W.Frag} {m : Md} {g : G} {H : Hp} (r : Rel K m g H) {p : Addr} {vs : List V} (h : m.hid p = some (.lst vs)) : Rel K ⟨upd m.F p (.lst vs), m.r, m.unhide p none⟩ g H := by
  obtain ⟨h1, h2, h3⟩ := r.hid p _ h
  have hF : ∀ a o, m.F a = some o → upd m.F p (.lst vs) a = some o := fun a o e => by rw [upd_ne (ne_of_none e h2)]; exact e
  refine ⟨fun a w e => ?_, fun i c hc => ?_, r.dom, r.inj, fun a w e => ?_⟩
  · have e' : upd m.F p (.lst vs) a = some w := e
    by_cases ha : a = p
    · subst ha
      rw [upd_same] at e'
      rw [h1]
      exact e'
    · rw [upd_ne ha] at e'
      exact r.ex a w e'
  · obtain ⟨a, h4, h5, w, h6, h7⟩ := r.cell i c hc
    have ha : a ≠ p := fun z => by rw [z] at h4; exact h3 i h4
    refine ⟨a, h4, ?_, w, h6, ?_⟩
    · show upd m.F p (.lst vs) a = none
      rw [upd_ne ha]
      exact h5
    · cases c with
      | lst xs =>
        obtain ⟨us, e1, e2⟩ := h7
        exact ⟨us, e1, dens_md (m := m) (m' := ⟨upd m.F p (.lst vs), m.r, m.unhide p none⟩) hF (fun _ _ z => z) e2⟩
  · have e' : (if a = p then none else m.hid a) = some w := e
    by_cases ha : a = p
    · rw [if_pos ha] at e'; cases e'
    · rw [if_neg ha] at e'
      obtain ⟨q1, q2, q3⟩ := r.hid a w e'
      refine ⟨q1, ?_, q3⟩
      show upd m.F p (.lst vs) a = none
      rw [upd_ne ha]
      exact q2
theorem Rel.tocell {K : PySem.W.Frag} {m : Md} {g : G} {H : Hp} (r : Rel K m g H) {p : Addr} {vs : List V} {xs : List D} (h : m.hid p = some (.lst vs)) (d : Dens K m xs vs) : Rel K ⟨m.F, fun i => if i = g.length then some p else m.r i, m.unhide p none⟩ (g ++ [.lst xs]) H := by
  obtain ⟨h1, h2, h3⟩ := r.hid p _ h
  have hr : ∀ i a, m.r i = some a → (fun i => if i = g.length then some p else m.r i) i = some a := fun i a e => by
    show (if i = g.length then some p else m.r i) = some a
    rw [if_neg (fun z => by have := r.dom i a e; omega)]
    exact e
  refine ⟨r.ex, fun i c hc => ?_, fun i a e => ?_, fun i j a e1 e2 => ?_, fun a w e => ?_⟩
  · by_cases hi : i < g.length
    · rw [List.getElem?_append_left hi] at hc
      obtain ⟨a, h4, h5, w, h6, h7⟩ := r.cell i c hc
      refine ⟨a, hr i a h4, h5, w, h6, ?_⟩
      cases c with
      | lst ys =>
        obtain ⟨us, e1, e2⟩ := h7
        exact ⟨us, e1, dens_md (m := m) (m' := ⟨m.F, fun i => if i = g.length then some p else m.r i, m.unhide p none⟩) (fun _ _ z => z) hr e2⟩
    · have hlt : i < (g ++ [Cell.lst xs]).length := (List.getElem?_eq_some_iff.mp hc).1
      have hi2 : i = g.length := by rw [List.length_append] at hlt; simp at hlt; omega
      subst hi2
      rw [List.getElem?_append_right (Nat.le_refl _)] at hc
      simp at hc
      subst hc
      refine ⟨p, ?_, h2, _, h1, vs, rfl, dens_md (m := m) (m' := ⟨m.F, fun i => if i = g.length then some p else m.r i, m.unhide p none⟩) (fun _ _ z => z) hr d⟩
      show (if g.length = g.length then some p else m.r g.length) = some p
      rw [if_pos rfl]
  · have e' : (if i = g.length then some p else m.r i) = some a := e
    rw [List.length_append]
    by_cases hi : i = g.length
    · simp [hi]
    · rw [if_neg hi] at e'
      have := r.dom i a e'
      simp
      omega
  · have e1' : (if i = g.length then some p else m.r i) = some a := e1
    have e2' : (if j = g.length then some p else m.r j) = some a := e2
    by_cases hi : i = g.length
    · rw [if_pos hi] at e1'
      cases e1'
      by_cases hj : j = g.length
      · omega
      · rw [if_neg hj] at e2'
        exact (h3 j e2').elim
    · rw [if_neg hi] at e1'
      by_cases hj : j = g.length
      · rw [if_pos hj] at e2'
        cases e2'
        exact (h3 i e1').elim
      · rw [if_neg hj] at e2'
        exact r.inj i j a e1' e2'
  · have e' : (if a = p then none else m.hid a) = some w := e
    by_cases ha : a = p
    · rw [if_pos ha] at e'; cases e'
    · rw [if_neg ha] at e'
      obtain ⟨q1, q2, q3⟩ := r.hid a w e'
      refine ⟨q1, q2, fun i z => ?_⟩
      have z' : (if i = g.length then some p else m.r i) = some a := z
      by_cases hi : i = g.length
      · rw [if_pos hi] at z'
        exact ha (Option.some.inj z').symm
      · rw [if_neg hi] at z'
        exact q3 i z'
def addO (acc : List D) : Option D → List D
  | none => acc
  | some y => acc ++ [y]
def consO : Option D → List D → List D
  | none, zs => zs
  | some y, zs => y :: zs
abbrev W0 : WX := fun _ _ _ _ => False
/-- one turn of the list's making -/
theorem lcT_s {K : PySem.W.Frag} {gv : Gv} {tt : Tv} {te : Ev} {vs : List Nat} {t : TG} {σ : Sg} {σv : L2.St} {m0 m : Md} {d : D} {x : V} {g g1 : G} {H : Hp} {Dl : Addr} {acc : List D} {accv : List V} {o : Option D} {Nx : Hp → Prop} {wq : L2.St} (hwq : wipe σv vs = wq) (ct : CT K vs t gv) (l0 : Le m0 m) (r : Rel K m g H) (sl : SlotsL K m0 σ σv)
    (hD : m.hid Dl = some (.lst accv)) (n0 : m0.hid Dl = none) (ha : Dens K m acc accv) (hz : ∀ y, o = some y → acc.length < 100000) (hd : Den K m d x) (e : lcT gv tt te σ d g = .ok o g1)
    (k : ∀ m2 H2 accv2, Le m0 m2 → Rel K m2 g1 H2 → m2.hid Dl = some (.lst accv2) → Dens K m2 (addO acc o) accv2 → Nx H2) :
    t x σv H fun σ2 H2 => wipe σ2 vs = wq ∧ tT K W0 tt σ2 H2 fun b H3 =>
      if b = true then tE K W0 te σ2 H3 fun y H4 => ∃ acc, H4 Dl = some (.lst acc) ∧ acc.length < sizeLine ∧ Nx (upd H4 Dl (.lst (acc ++ [y]))) else Nx H3 := by
  unfold lcT at e
  split at e
  · rename_i σ1 g2 hq
    refine ct m d x σ σv g H σ1 g2 _ r (sl.mono l0) hd hq fun σv2 s2 w2 r2 => ⟨w2.trans hwq, m, σ1, g2, r2, s2.1, s2.2, ?_⟩
    split at e
    · rename_i g3 ht
      rw [ht]
      refine fun m3 H3 b l3 r3 eb => ?_
      subst eb
      rw [if_pos rfl]
      refine ⟨m3, σ1, g3, r3, (s2.mono l3).1, s2.2, ?_⟩
      split at e
      · rename_i y g4 hy
        rw [hy]
        refine fun m4 H4 yv l4 r4 d4 => ?_
        cases e
        have hD4 := l4.hid _ _ (l3.hid _ _ hD)
        have hz' := hz y rfl
        refine ⟨accv, (r4.hid _ _ hD4).1, by rw [← ha.length, sizeLine_eq]; omega, ?_⟩
        refine k (m4.hide Dl (.lst (accv ++ [yv]))) _ (accv ++ [yv]) ?_ (r4.hset hD4) (by show upd m4.hid Dl _ Dl = _; exact upd_same) ?_
        · have lx := l0.trans (l3.trans l4)
          refine ⟨lx.F, lx.r, fun a u q => ?_⟩
          show upd m4.hid Dl _ a = some u
          rw [upd_ne (fun z => by rw [z, n0] at q; cases q)]
          exact lx.hid a u q
        · exact dens_md (m := m4) (m' := m4.hide Dl (.lst (accv ++ [yv]))) (fun _ _ z => z) (fun _ _ z => z) (((ha.mono l3).mono l4).append (.cons d4 .nil))
      · cases e
    · rename_i g3 ht
      cases e
      rw [ht]
      refine fun m3 H3 b l3 r3 eb => ?_
      subst eb
      rw [if_neg Bool.false_ne_true]
      exact k m3 H3 accv (l0.trans l3) r3 (l3.hid _ _ hD) (ha.mono l3)
    · cases e
  · cases e
theorem lcPut_ok {o : Option D} {r : Res (List D)} {ys : List D} {g : G} (h : lcPut o r = .ok ys g) : ∃ zs, r = .ok zs g ∧ ys = (consO o zs) := by
  unfold lcPut at h
  split at h
  · exact ⟨ys, h, rfl⟩
  · split at h
    · cases h
      exact ⟨_, rfl, rfl⟩
    · cases h
theorem app_put {acc zs : List D} {o : Option D} : acc ++ (consO o zs) = (addO acc o) ++ zs := by
  cases o with
  | none => rfl
  | some y => simp [addO, consO]
theorem len_put {acc : List D} {o : Option D} : acc.length ≤ (addO acc o).length := by
  cases o with
  | none => exact Nat.le_refl _
  | some y => simp [addO]
theorem lc_s {K : PySem.W.Frag} {W : WX} {iv : Ivv} {wi : TI} {gv : Gv} {tt : Tv} {te : Ev} {vs : List Nat} {t : TG} {σ : L2.St} {H : Hp} {Q : VK} {R : List D → G → Res D} (ct : CT K vs t gv)
    (hwi : ∀ σv H R, tIt K W iv σv H R → wi σv H R) (hsm : ∀ (σv : L2.St) (m : Md) ys g, Post K W σv (Den K) (R ys g) m Q → ys.length ≤ 100000)
    (hR : ∀ (σv : L2.St) (m : Md) (g : G) (H : Hp) (Dl : Addr) (ys : List D) (yv : List V), Rel K m g H → m.hid Dl = some (.lst yv) → Dens K m ys yv → ∀ m0, Le m0 m → m0.hid Dl = none → Post K W σv (Den K) (R ys g) m0 Q → Q (.ref Dl) H)
    (h : tE K W (fun σ g => (iv σ g).bind fun v g1 => (noEx (lcAll gv tt te (wipeD σ vs) v g1)).bind R) σ H Q) :
    tLc wi t (tT K W0 tt) (tE K W0 te) vs σ H Q := by
  obtain ⟨m, σ', g, rl, sl, hl, p⟩ := h
  refine hwi _ _ _ ⟨m, σ', g, rl, ⟨sl, hl⟩, Post.bind p fun v g1 m1 H1 J l1 r1 iok p1 => ?_⟩
  intro Dl hD
  have sw : SlotsL K m1 (wipeD σ' vs) (wipe σ vs) := wipe_s (SlotsL.mono l1 ⟨sl, hl⟩) vs
  have n0 := r1.hfree hD
  cases hq : lcAll gv tt te (wipeD σ' vs) v g1 with
  | no => rw [hq] at p1; exact p1.elim
  | ex e g2 => rw [hq] at p1; exact p1.elim
  | ok yall gF =>
    rw [hq] at p1
    have p1' : Post K W σ (Den K) (R yall gF) m1 Q := p1
    have hlen := hsm σ m1 yall gF p1'
    have l0 : Le m1 (m1.hide Dl (.lst [])) := le_hide n0
    have h0 : (m1.hide Dl (.lst [])).hid Dl = some (.lst []) := by show upd m1.hid Dl _ Dl = _; exact upd_same
    cases v with
    | fix ds =>
      have hq' : lcL gv tt te (wipeD σ' vs) ds g1 = .ok yall gF := hq
      refine ⟨fun i n H => ∃ m2 g2 acc accv rest, Le m1 m2 ∧ Rel K m2 g2 H ∧ m2.hid Dl = some (.lst accv) ∧ Dens K m2 acc accv ∧ lcL gv tt te (wipeD σ' vs) (ds.drop i) g2 = .ok rest gF ∧ acc ++ rest = yall ∧ n = ds.length - i ∧ i ≤ ds.length,
        ⟨ds.length, m1.hide Dl (.lst []), g1, [], [], yall, l0, r1.hide hD, h0, .nil, hq', rfl, rfl, Nat.zero_le _⟩, ?_⟩
      rintro i n H2 ⟨m2, g2, acc, accv, rest, l2, r2, h2, da, e2, e3, e4, e5⟩
      obtain ⟨hstop, hgo⟩ := iok m2 g2 H2 l2 r2 i
      by_cases hi : i < ds.length
      · rw [List.drop_eq_getElem_cons hi] at e2
        have e2' : (match lcT gv tt te (wipeD σ' vs) ds[i] g2 with | .ok o g1 => lcPut o (lcL gv tt te (wipeD σ' vs) (ds.drop (i + 1)) g1) | _ => .no) = Res.ok rest gF := e2
        cases hT : lcT gv tt te (wipeD σ' vs) ds[i] g2 with
        | no => rw [hT] at e2'; cases e2'
        | ex e g3 => rw [hT] at e2'; cases e2'
        | ok o g3 =>
          rw [hT] at e2'
          obtain ⟨zs, hz1, hz2⟩ := lcPut_ok e2'
          obtain ⟨go, hy⟩ := hgo ds[i] (by simp [hi])
          refine .inr ⟨go, fun H => ∃ m2 g2 acc accv rest, Le m1 m2 ∧ Rel K m2 g2 H ∧ m2.hid Dl = some (.lst accv) ∧ Dens K m2 acc accv ∧ lcL gv tt te (wipeD σ' vs) (ds.drop (i + 1)) g2 = .ok rest gF ∧ acc ++ rest = yall,
            fun H' ⟨m3, g4, ac, av, rs, q1, q2, q3, q4, q5, q6⟩ => ⟨ds.length - (i + 1), by omega, m3, g4, ac, av, rs, q1, q2, q3, q4, q5, q6, rfl, hi⟩, fun x H3 yl => ?_⟩
          obtain ⟨m3, l3, r3, hd⟩ := hy x H3 yl
          refine lcT_s (o := o) (acc := acc) (accv := accv) (wipe_idem σ vs) ct (l2.trans l3) r3 sw (l3.hid _ _ h2) n0 (da.mono l3) (fun y hy' => ?_) hd hT fun m4 H4 av l4 r4 h4 d4 => ⟨m4, g3, addO acc o, av, zs, l4, r4, h4, d4, hz1, ?_⟩
          · rw [hz2, hy'] at e3
            have := congrArg List.length e3
            rw [List.length_append] at this
            simp only [consO, List.length_cons] at this
            omega
          · rw [← app_put, ← hz2]
            exact e3
      · have hi' : i = ds.length := by omega
        subst hi'
        rw [List.drop_length] at e2
        have e2' : Res.ok [] g2 = Res.ok rest gF := e2
        cases e2'
        rw [List.append_nil] at e3
        subst e3
        exact .inl ⟨hstop (Nat.le_refl _), hR σ m2 gF H2 Dl acc accv r2 h2 da m1 l2 n0 p1'⟩
    | dyn j =>
      have hq' : lcD gv tt te (wipeD σ' vs) j 100000 0 g1 = .ok yall gF := hq
      refine ⟨fun i n H => ∃ m2 g2 acc accv rest, Le m1 m2 ∧ Rel K m2 g2 H ∧ m2.hid Dl = some (.lst accv) ∧ Dens K m2 acc accv ∧ lcD gv tt te (wipeD σ' vs) j n i g2 = .ok rest gF ∧ acc ++ rest = yall,
        ⟨100000, m1.hide Dl (.lst []), g1, [], [], yall, l0, r1.hide hD, h0, .nil, hq', rfl⟩, ?_⟩
      rintro i n H2 ⟨m2, g2, acc, accv, rest, l2, r2, h2, da, e2, e3⟩
      cases n with
      | zero => cases e2
      | succ n =>
        unfold lcD at e2
        split at e2
        · rename_i ys hys
          obtain ⟨hstop, hgo⟩ := iok m2 g2 H2 l2 r2 ys hys i
          split at e2
          · rename_i d hdi
            split at e2
            · rename_i o g3 hT
              obtain ⟨zs, hz1, hz2⟩ := lcPut_ok e2
              obtain ⟨go, hy⟩ := hgo d hdi
              refine .inr ⟨go, fun H => ∃ m2 g2 acc accv rest, Le m1 m2 ∧ Rel K m2 g2 H ∧ m2.hid Dl = some (.lst accv) ∧ Dens K m2 acc accv ∧ lcD gv tt te (wipeD σ' vs) j n (i + 1) g2 = .ok rest gF ∧ acc ++ rest = yall,
                fun H' q => ⟨n, Nat.lt_succ_self n, q⟩, fun x H3 yl => ?_⟩
              obtain ⟨m3, l3, r3, hd⟩ := hy x H3 yl
              refine lcT_s (o := o) (acc := acc) (accv := accv) (wipe_idem σ vs) ct (l2.trans l3) r3 sw (l3.hid _ _ h2) n0 (da.mono l3) (fun y hy' => ?_) hd hT fun m4 H4 av l4 r4 h4 d4 => ⟨m4, g3, addO acc o, av, zs, l4, r4, h4, d4, hz1, ?_⟩
              · rw [hz2, hy'] at e3
                have := congrArg List.length e3
                rw [List.length_append] at this
                simp only [consO, List.length_cons] at this
                omega
              · rw [← app_put, ← hz2]
                exact e3
            · cases e2
          · rename_i hdi
            cases e2
            rw [List.append_nil] at e3
            subst e3
            exact .inl ⟨hstop (List.getElem?_eq_none_iff.mp hdi), hR σ m2 gF H2 Dl acc accv r2 h2 da m1 l2 n0 p1'⟩
        · cases e2
section
variable {X : Cx} {W : WX} {elt tg iter : Expr} {ifs : List Expr} {scope : Scope} {own : List (Str × Nat)} {pos : Pos} {iv : Ivv} {t : TG} {gv : Gv} {tt : Tv} {te : Ev}
theorem okIf_len {K : PySem.W.Frag} {σv : L2.St} {m : Md} {ys : List D} {d : D} {g : G} {Q : VK} (p : Post K W σv (Den K) (okIf (small ys) d g) m Q) : ys.length ≤ 100000 := of_decide_eq_true (okIf_post p).1
theorem x_lc (hc : X.calm = true) (hN : X.N.Nodup) (hi : PI X tg iter (tIt X.K W iv)) (ok : BlkOk X.N X.env.scope scope own) (ct : CT X.K (own.map (·.2)) t gv)
    (hg : ∀ (s : Shared) (H : Hp) (C : Addr) (cl : List (Str × Addr)) (fp : List Addr), PG (X.blk s H scope (compEnvC scope cl C X.env) fp) tg t) (ht : ∀ (s : Shared) (H : Hp) (C : Addr) (cl : List (Str × Addr)) (fp : List Addr), PTs (X.blk s H scope (compEnvC scope cl C X.env) fp) ifs (tT X.K W0 tt))
    (he : ∀ (s : Shared) (H : Hp) (C : Addr) (cl : List (Str × Addr)) (fp : List Addr), PE (X.blk s H scope (compEnvC scope cl C X.env) fp) elt (tE X.K W0 te)) (hs : ∀ x, foldedSetIterable iter X.env x = pure x := by intro _; rfl) :
    PE X (.ListComp elt [⟨tg, iter, ifs, 0⟩] scope pos) (tE X.K W (eLc iv gv tt te (own.map (·.2)))) := PE.imp (pe_lc hc hN hi ok hg ht he hs) fun σ H Q h => by
  refine lc_s ct (fun _ _ _ q => q) (fun _ _ _ _ p => okIf_len p) (fun σv m g H Dl ys yv rl hh d m0 l0 n0 p => ?_) h
  obtain ⟨c, p⟩ := okIf_post p
  have hF := (rl.hid _ _ hh).2.1
  refine p _ _ _ ?_ (rl.freeze hh) (.lst (by show upd m.F Dl _ Dl = _; exact upd_same) (dens_md (m := m) (m' := ⟨upd m.F Dl (.lst yv), m.r, m.unhide Dl none⟩) (fun a o e => by show upd m.F Dl _ a = _; rw [upd_ne (ne_of_none e hF)]; exact e) (fun _ _ z => z) d))
  refine ⟨fun a o e => ?_, l0.r, fun a o e => ?_⟩
  · show upd m.F Dl _ a = some o
    rw [upd_ne (ne_of_none (l0.F a o e) hF)]
    exact l0.F a o e
  · show (if a = Dl then none else m.hid a) = some o
    rw [if_neg (fun z => by rw [z, n0] at e; cases e)]
    exact l0.hid a o e
theorem x_lcM (hc : X.calm = true) (hN : X.N.Nodup) (hi : PI X tg iter (tIt X.K W iv)) (ok : BlkOk X.N X.env.scope scope own) (ct : CT X.K (own.map (·.2)) t gv)
    (hg : ∀ (s : Shared) (H : Hp) (C : Addr) (cl : List (Str × Addr)) (fp : List Addr), PG (X.blk s H scope (compEnvC scope cl C X.env) fp) tg t) (ht : ∀ (s : Shared) (H : Hp) (C : Addr) (cl : List (Str × Addr)) (fp : List Addr), PTs (X.blk s H scope (compEnvC scope cl C X.env) fp) ifs (tT X.K W0 tt))
    (he : ∀ (s : Shared) (H : Hp) (C : Addr) (cl : List (Str × Addr)) (fp : List Addr), PE (X.blk s H scope (compEnvC scope cl C X.env) fp) elt (tE X.K W0 te)) (hs : ∀ x, foldedSetIterable iter X.env x = pure x := by intro _; rfl) :
    PE X (.ListComp elt [⟨tg, iter, ifs, 0⟩] scope pos) (tE X.K W (eLcM iv gv tt te (own.map (·.2)))) := PE.imp (pe_lc hc hN hi ok hg ht he hs) fun σ H Q h => by
  refine lc_s ct (fun _ _ _ q => q) (fun _ _ _ _ p => okIf_len p) (fun σv m g H Dl ys yv rl hh d m0 l0 n0 p => ?_) h
  obtain ⟨c, p⟩ := okIf_post p
  refine p _ _ _ ?_ (rl.tocell hh d) (.ref (by show (if g.length = g.length then some Dl else m.r g.length) = some Dl; rw [if_pos rfl]))
  refine ⟨l0.F, fun i a e => ?_, fun a o e => ?_⟩
  · show (if i = g.length then some Dl else m.r i) = some a
    have := rl.dom i a (l0.r i a e)
    rw [if_neg (by omega)]
    exact l0.r i a e
  · show (if a = Dl then none else m.hid a) = some o
    rw [if_neg (fun z => by rw [z, n0] at e; cases e)]
    exact l0.hid a o e
/-- the clause's tests -/
def tvYes : Tv := fun _ g => .ok true g
theorem ts_nil : PTs X [] (tT X.K W tvYes) := ⟨fun pins s σ H Q I h => pts_nil.run pins s σ H Q I (by
  obtain ⟨m, σ', g, rl, sl, hl, p⟩ := h
  exact fin_ok rl rfl p)⟩
theorem ts_one {c : Expr} {tc : Tv} (h : PT X c (tT X.K W tc)) : PTs X [c] (tT X.K W tc) := pts_one h
/-- name = [..] -/
theorem s_setLc {i : Nat} {y : Str} {py spos : Pos} (hc : X.calm = true) (hN : X.N.Nodup) (hy : X.N[i]? = some y) (hyl : X.env.scope.names.lookup y = some .local)
    (hsw : swapsWith (.ListComp elt [⟨tg, iter, ifs, 0⟩] scope pos) (some (.Name y py)) spos.line X.env = pure true) (hi : PI X tg iter (tIt X.K W iv)) (ok : BlkOk X.N X.env.scope scope own) (ct : CT X.K (own.map (·.2)) t gv)
    (hg : ∀ (s : Shared) (H : Hp) (C : Addr) (cl : List (Str × Addr)) (fp : List Addr), PG (X.blk s H scope (compEnvC scope cl C X.env) fp) tg t) (ht : ∀ (s : Shared) (H : Hp) (C : Addr) (cl : List (Str × Addr)) (fp : List Addr), PTs (X.blk s H scope (compEnvC scope cl C X.env) fp) ifs (tT X.K W0 tt))
    (he : ∀ (s : Shared) (H : Hp) (C : Addr) (cl : List (Str × Addr)) (fp : List Addr), PE (X.blk s H scope (compEnvC scope cl C X.env) fp) elt (tE X.K W0 te)) (hs : ∀ x, foldedSetIterable iter X.env x = pure x := by intro _; rfl) :
    PS X (.Assign [.Name y py] (.ListComp elt [⟨tg, iter, ifs, 0⟩] scope pos) spos) (tS X.K W (sSet i (eLc iv gv tt te (own.map (·.2))))) := PS.imp (ps_setLc hc hN hy hyl hsw hi ok hg ht he hs) fun D' σ H h => by
  obtain ⟨m, σ', g, rl, sl, p⟩ := h
  have h' : tE X.K W (eLc iv gv tt te (own.map (·.2))) σ H (fun x H1 => D'.nx (σ.set i (some x)) H1) := ⟨m, σ', g, rl, sl.1, sl.2, sBind_s sl p fun d g1 m1 H1 v l1 r1 d1 p1 => p1 m1 H1 _ (Le.refl m1) r1 ((sl.mono l1).set d1)⟩
  refine lc_s ct (fun _ _ _ q => q) (fun _ _ _ _ p => okIf_len p) (fun σv m g H Dl ys yv rl hh d m0 l0 n0 p => ?_) h'
  obtain ⟨c, p⟩ := okIf_post p
  have hF := (rl.hid _ _ hh).2.1
  refine p _ _ _ ?_ (rl.freeze hh) (.lst (by show upd m.F Dl _ Dl = _; exact upd_same) (dens_md (m := m) (m' := ⟨upd m.F Dl (.lst yv), m.r, m.unhide Dl none⟩) (fun a o e => by show upd m.F Dl _ a = _; rw [upd_ne (ne_of_none e hF)]; exact e) (fun _ _ z => z) d))
  refine ⟨fun a o e => ?_, l0.r, fun a o e => ?_⟩
  · show upd m.F Dl _ a = some o
    rw [upd_ne (ne_of_none (l0.F a o e) hF)]
    exact l0.F a o e
  · show (if a = Dl then none else m.hid a) = some o
    rw [if_neg (fun z => by rw [z, n0] at e; cases e)]
    exact l0.hid a o e
end
end AW
namespace AW
open PySem PySem.Spec L2
/-! ### the end of a def: what it made is frozen, its cells are gone -/
mutual
def D.cln (n : Nat) : D → Bool
  | .ref i => decide (i < n)
  | .tup xs => D.clns n xs
  | .lst xs => D.clns n xs
  | .seq xs => D.clns n xs
  | _ => true
def D.clns (n : Nat) : List D → Bool
  | [] => true
  | x :: xs => D.cln n x && D.clns n xs
end
def Cell.cln (n : Nat) : Cell → Bool
  | .lst xs => D.clns n xs
def omap {α β : Type} (f : α → Option β) : List α → Option (List β)
  | [] => some []
  | x :: xs => match f x with
    | some y => match omap f xs with
      | some ys => some (y :: ys)
      | none => none
    | none => none
def frz (g : G) (n : Nat) : Nat → D → Option D
  | 0, _ => none
  | k + 1, d => match d with
    | .ref i => if i < n then some (.ref i) else match lmOf g i with
      | some xs => match omap (frz g n k) xs with
        | some ys => some (.lst ys)
        | none => none
      | none => none
    | .tup xs => match omap (frz g n k) xs with
      | some ys => some (.tup ys)
      | none => none
    | .lst xs => match omap (frz g n k) xs with
      | some ys => some (.lst ys)
      | none => none
    | .seq xs => match omap (frz g n k) xs with
      | some ys => some (.seq ys)
      | none => none
    | d => some d
/-- only the first n cells are left -/
def Md.cut (m : Md) (n : Nat) (H : Hp) (g : G) : Md :=
  ⟨open Classical in fun a => if (∃ i, i < n ∧ m.r i = some a) ∨ (m.hid a ≠ none) then none else H a, fun i => if i < n then m.r i else none, m.hid⟩
section
variable {K : PySem.W.Frag} {m : Md} {g : G} {H : Hp} {n : Nat}
theorem cut_F (r : Rel K m g H) {a : Addr} {o : HO} (h : m.F a = some o) : (m.cut n H g).F a = some o := by
  show (if (∃ i, i < n ∧ m.r i = some a) ∨ (m.hid a ≠ none) then none else H a) = some o
  rw [if_neg]
  · exact r.ex a o h
  · rintro (⟨i, _, hi⟩ | hh)
    · have hl := r.dom i a hi
      obtain ⟨b, h1, h2, _⟩ := r.cell i g[i] (by simp [hl])
      rw [hi] at h1
      cases h1
      rw [h] at h2
      cases h2
    · cases q : m.hid a with
      | none => exact hh q
      | some u => rw [(r.hid a u q).2.1] at h; cases h
theorem cut_cell (r : Rel K m g H) {i : Nat} {a : Addr} (hi : m.r i = some a) (hn : ¬ i < n) : (m.cut n H g).F a = H a := by
  show (if (∃ i, i < n ∧ m.r i = some a) ∨ (m.hid a ≠ none) then none else H a) = H a
  rw [if_neg]
  rintro (⟨j, hj, hj2⟩ | hh)
  · exact hn (r.inj i j a hi hj2 ▸ hj)
  · cases q : m.hid a with
    | none => exact hh q
    | some u => exact (r.hid a u q).2.2 i hi
mutual
theorem cln_s (r : Rel K m g H) : ∀ {d : D} {v : V}, Den K m d v → D.cln n d = true → Den K (m.cut n H g) d v
  | _, _, .non, _ => .non
  | _, _, .bl, _ => .bl
  | _, _, .int, _ => .int
  | _, _, .str, _ => .str
  | _, _, .tup h ds, e => .tup (sqT_le (fun _ _ => cut_F r) h) (clns_s r ds (by rw [D.cln] at e; exact e))
  | _, _, .lst h ds, e => .lst (cut_F r h) (clns_s r ds (by rw [D.cln] at e; exact e))
  | _, _, .seq h ds, e => .seq (sqL_le (fun _ _ => cut_F r) h) (clns_s r ds (by rw [D.cln] at e; exact e))
  | _, _, .ref h, e => by
    rw [D.cln] at e
    refine .ref ?_
    show (if _ < n then m.r _ else none) = some _
    rw [if_pos (of_decide_eq_true e)]
    exact h
  | _, _, .val, _ => .val
theorem clns_s (r : Rel K m g H) : ∀ {ds : List D} {vs : List V}, Dens K m ds vs → D.clns n ds = true → Dens K (m.cut n H g) ds vs
  | _, _, .nil, _ => .nil
  | _, _, .cons h t, e => by
    rw [D.clns, Bool.and_eq_true] at e
    exact .cons (cln_s r h e.1) (clns_s r t e.2)
end
theorem omap_s {m' : Md} {f : D → Option D} (hf : ∀ d v e, Den K m d v → f d = some e → Den K m' e v) : ∀ {ds : List D} {vs : List V} {es : List D}, Dens K m ds vs → omap f ds = some es → Dens K m' es vs
  | [], _, _, h, e => by
    cases e
    rw [h.nilV]
    exact .nil
  | d :: ds, _, _, h, e => by
    obtain ⟨v, ws, rfl, h1, h2⟩ := h.consV
    unfold omap at e
    split at e
    · rename_i y hy
      split at e
      · rename_i ys hys
        cases e
        exact .cons (hf _ _ _ h1 hy) (omap_s hf h2 hys)
      · cases e
    · cases e
theorem frz_s (r : Rel K m g H) : ∀ (k : Nat) (d : D) (v : V) (e : D), Den K m d v → frz g n k d = some e → Den K (m.cut n H g) e v
  | 0, _, _, _, _, e => by cases e
  | k + 1, d, v, e, h, q => by
    unfold frz at q
    cases h with
    | ref h1 =>
      rename_i i a
      simp only at q
      split at q
      · rename_i hi
        cases q
        refine .ref ?_
        show (if i < n then m.r i else none) = some a
        rw [if_pos hi]
        exact h1
      · rename_i hi
        split at q
        · rename_i xs hx
          split at q
          · rename_i ys hy
            cases q
            obtain ⟨p, vs, e1, e2, e3, e4⟩ := lmOf_s r (.ref h1) hx
            cases e1
            refine .lst ?_ (omap_s (fun d v e => frz_s r k d v e) e4 hy)
            rw [cut_cell r h1 hi]
            exact e3
          · cases q
        · cases q
    | tup h1 h2 =>
      simp only at q
      split at q
      · rename_i ys hy
        cases q
        exact .tup (sqT_le (fun _ _ => cut_F r) h1) (omap_s (fun d v e => frz_s r k d v e) h2 hy)
      · cases q
    | lst h1 h2 =>
      simp only at q
      split at q
      · rename_i ys hy
        cases q
        exact .lst (cut_F r h1) (omap_s (fun d v e => frz_s r k d v e) h2 hy)
      · cases q
    | seq h1 h2 =>
      simp only at q
      split at q
      · rename_i ys hy
        cases q
        exact .seq (sqL_le (fun _ _ => cut_F r) h1) (omap_s (fun d v e => frz_s r k d v e) h2 hy)
      · cases q
    | non => cases q; exact .non
    | bl => cases q; exact .bl
    | int => cases q; exact .int
    | str => cases q; exact .str
    | val => cases q; exact .val
theorem cut_rel (r : Rel K m g H) (hn : n ≤ g.length) (hc : (g.take n).all (Cell.cln n) = true) : Rel K (m.cut n H g) (g.take n) H where
  ex := fun a o e => by
    have e' : (if (∃ i, i < n ∧ m.r i = some a) ∨ (m.hid a ≠ none) then none else H a) = some o := e
    split at e'
    · cases e'
    · exact e'
  cell := fun i c hi => by
    rw [List.getElem?_take] at hi
    split at hi
    · rename_i hin
      obtain ⟨a, h1, h2, o, h3, h4⟩ := r.cell i c hi
      refine ⟨a, ?_, ?_, o, h3, ?_⟩
      · show (if i < n then m.r i else none) = some a
        rw [if_pos hin]
        exact h1
      · show (if (∃ i, i < n ∧ m.r i = some a) ∨ (m.hid a ≠ none) then none else H a) = none
        rw [if_pos (.inl ⟨i, hin, h1⟩)]
      · have hcl : Cell.cln n c = true := List.all_eq_true.mp hc c (List.mem_of_getElem? (i := i) (by rw [List.getElem?_take, if_pos hin]; exact hi))
        cases c with
        | lst xs =>
          obtain ⟨vs, e1, e2⟩ := h4
          exact ⟨vs, e1, clns_s r e2 hcl⟩
    · cases hi
  dom := fun i a e => by
    have e' : (if i < n then m.r i else none) = some a := e
    rw [List.length_take]
    split at e'
    · omega
    · cases e'
  inj := fun i j a e1 e2 => by
    have e1' : (if i < n then m.r i else none) = some a := e1
    have e2' : (if j < n then m.r j else none) = some a := e2
    split at e1'
    · split at e2'
      · exact r.inj i j a e1' e2'
      · cases e2'
    · cases e1'
  hid := fun a o e => by
    obtain ⟨h1, h2, h3⟩ := r.hid a o e
    refine ⟨h1, ?_, fun i z => ?_⟩
    · show (if (∃ i, i < n ∧ m.r i = some a) ∨ (m.hid a ≠ none) then none else H a) = none
      rw [if_pos (.inr (fun z => by rw [show m.hid a = some o from e] at z; cases z))]
    · have z' : (if i < n then m.r i else none) = some a := z
      split at z'
      · exact h3 i z'
      · cases z'
theorem cut_le {m0 : Md} {g0 : G} {H0 : Hp} (r0 : Rel K m0 g0 H0) (l : Le m0 m) (r : Rel K m g H) (hn : n = g0.length) : Le m0 (m.cut n H g) := ⟨fun a o e => cut_F r (l.F a o e), fun i a e => by
  show (if i < n then m.r i else none) = some a
  rw [if_pos (by rw [hn]; exact r0.dom i a e)]
  exact l.r i a e, l.hid⟩
end
def settle (n : Nat) (d : D) (g : G) : Res D := if g.length = n then .ok d g else if n ≤ g.length then match (g.take n).all (Cell.cln n) with
  | true => match frz g n 64 d with
    | some e => .ok e (g.take n)
    | none => .no
  | false => .no else .no
theorem settle_s {K : PySem.W.Frag} {W : WX} {σv : L2.St} {m0 m : Md} {g0 g : G} {H0 H : Hp} {d : D} {v : V} {Q : VK} (r0 : Rel K m0 g0 H0) (l : Le m0 m) (r : Rel K m g H) (hd : Den K m d v) (p : Post K W σv (Den K) (settle g0.length d g) m0 Q) : Q v H := by
  unfold settle at p
  split at p
  · exact p m H v l r hd
  · split at p
    · rename_i hn
      split at p
      · rename_i hc
        split at p
        · rename_i e he
          exact p _ _ _ (cut_le r0 l r rfl) (cut_rel r hn hc) (frz_s r 64 d v e hd he)
        · exact p.elim
      · exact p.elim
    · exact p.elim
def frzX (g : G) (n : Nat) : List (Str × D) → Option (List (Str × D))
  | [] => some []
  | (f, d) :: r => match frz g n 64 d with
    | some e => match frzX g n r with
      | some s => some ((f, e) :: s)
      | none => none
    | none => none
theorem frzX_s {K : PySem.W.Frag} {m : Md} {g : G} {H : Hp} {n : Nat} (r : Rel K m g H) : ∀ {fs es : List (Str × D)} {vs : List V}, Dens K m (fs.map (·.2)) vs → frzX g n fs = some es → Dens K (m.cut n H g) (es.map (·.2)) vs ∧ es.map (·.1) = fs.map (·.1)
  | [], _, _, h, e => by
    cases e
    rw [h.nilV]
    exact ⟨.nil, rfl⟩
  | (f, d) :: fs, _, _, h, e => by
    obtain ⟨v, ws, rfl, h1, h2⟩ := h.consV
    unfold frzX at e
    split at e
    · rename_i y hy
      split at e
      · rename_i ys hys
        cases e
        obtain ⟨q1, q2⟩ := frzX_s r h2 hys
        exact ⟨.cons (frz_s r 64 d v y h1 hy) q1, by rw [List.map_cons, List.map_cons, q2]⟩
      · cases e
    · cases e
def settleX {α : Type} (n : Nat) (e : Exn) (g : G) : Res α := if g.length = n then .ex e g else if n ≤ g.length then match (g.take n).all (Cell.cln n) with
  | true => match frzX g n e.fs with
    | some fs => .ex ⟨e.cls, fs⟩ (g.take n)
    | none => .no
  | false => .no else .no
theorem settleX_s {K : PySem.W.Frag} {W : WX} {σv : L2.St} {m0 m : Md} {g0 g : G} {H0 H : Hp} {e : Exn} {cv : Value} {dd : Option Addr} {Q : VK} (r0 : Rel K m0 g0 H0) (l : Le m0 m) (r : Rel K m g H) (hd : ExnOk K m e cv dd) (p : Post K W σv (Den K) (settleX g0.length e g) m0 Q) : W cv dd σv H := by
  unfold settleX at p
  split at p
  · exact p m H cv dd l r hd
  · split at p
    · rename_i hn
      split at p
      · rename_i hc
        split at p
        · rename_i fs hf
          refine p _ _ _ _ (cut_le r0 l r rfl) (cut_rel r hn hc) ?_
          obtain ⟨C, h1, h2, h⟩ := hd
          refine ⟨C, h1, h2, ?_⟩
          rcases h with ⟨h3, h4⟩ | ⟨h0, d, fv, h3, h4, h5, h6⟩
          · rw [h3] at hf
            cases hf
            exact .inl ⟨rfl, h4⟩
          · obtain ⟨q1, q2⟩ := frzX_s r h6 hf
            refine .inr ⟨fun z => ?_, d, fv, h3, cut_F r h4, ?_, q1⟩
            · have z' : fs = [] := z
              rw [z'] at q2
              cases hfs : e.fs with
              | nil => exact h0 hfs
              | cons _ _ => rw [hfs] at q2; cases q2
            · show fv.map (·.1) = fs.map (·.1)
              rw [q2]
              exact h5
        · exact p.elim
      · exact p.elim
    · exact p.elim
/-! ### defs -/
def callD (n tot : Nat) (b : Sx) : Fn := fun ds g => if ds.length = n then match b (ds.map some ++ List.replicate (tot - n) none) g with
  | .nx _ g' => settle g.length .non g'
  | .rt d g' => settle g.length d g'
  | .ex _ e g' => settleX g.length e g'
  | _ => .no else .no
/-- the same for a def that returns a list which it made and which changes afterwards -/
def callK (n tot : Nat) (b : Sx) : Fn := fun ds g => if ds.length = n then match b (ds.map some ++ List.replicate (tot - n) none) g with
  | .nx _ g' => .ok .non g'
  | .rt d g' => .ok d g'
  | .ex _ e g' => settleX g.length e g'
  | _ => .no else .no
def spOf (K : PySem.W.Frag) (n : Nat) (f : Fn) : Sp := fun vs H Q E => ∃ m g ds, Rel K m g H ∧ Dens K m ds vs ∧ ds.length = n ∧ Post K (fun cv dd _ H => E cv dd H) [] (Den K) (f ds g) m Q
abbrev WF (E : XK) : WX := fun cv dd _ H => E cv dd H
theorem slots_start {K : PySem.W.Frag} {m : Md} {N : List Str} {ds : List D} {vs : List V} {n : Nat} (h : Dens K m ds vs) (hn : ds.length = n) : SlotsL K m (ds.map some ++ List.replicate (N.length - n) none) (L2.start N vs) := by
  have hl := h.length
  refine ⟨fun i d q => ?_, ?_⟩
  · by_cases hi : i < ds.length
    · rw [List.getElem?_append_left (by simpa using hi), List.getElem?_map] at q
      cases e : ds[i]? with
      | none => rw [e] at q; cases q
      | some x =>
        rw [e] at q
        have q' : x = d := Option.some.inj (Option.some.inj q)
        subst q'
        obtain ⟨v, h1, h2⟩ := h.get e
        refine ⟨v, ?_, h2⟩
        unfold L2.start
        rw [List.getElem?_append_left (by simp; omega), List.getElem?_map, h1]
        rfl
    · rw [List.getElem?_append_right (by simp; omega), List.getElem?_replicate] at q
      split at q <;> cases q
  · unfold L2.start
    simp only [List.length_append, List.length_map, List.length_replicate]
    omega
section
variable {P : Program} {w : World} {K : PySem.W.Frag} {mg : Str → Option Value} {base : Heap} {x qual : Str} {params : Arguments} {body : List Stmt} {scope : Scope} {dvs : List V} {kws : List (Str × V)} {f : Addr} {fd : FuncData}
theorem fn_ok {N ps : List Str} {n k : Nat} {b : Sx} (F : FunD K x qual params body scope dvs kws f fd) (S : FnScope N ps scope) (hn : ps.length = n)
    (hb : ∀ (cdv : Value) (A : Around) (outer : List Env) (s : Shared) (H : Hp) (E : XK), Room k (A.deeper (PyProof.Rows.envOfC qual scope s.heap.objs.size f cdv)) →
      PSs (cxOf (L2.CX P w) P w K mg base N qual scope f cdv A outer s H E) body (tS K (WF E) b)) : FnOk P w K mg base (L2.CX P w) (k + 1) f fd ps (spOf K n (callD n N.length b)) := by
  refine FunD.ok F S (fun vs H Q E h => ?_) (fun cdv A outer s H vs Q E hr h => ?_)
  · obtain ⟨m, g, ds, _, h2, h3, _⟩ := h
    rw [← h2.length, h3, hn]
  · obtain ⟨m, g, ds, rl, h2, h3, p⟩ := h
    refine ⟨_, hb cdv A outer s H E hr, m, ds.map some ++ List.replicate (N.length - n) none, g, rl, slots_start h2 h3, ?_⟩
    unfold callD at p
    rw [if_pos h3] at p
    cases hr' : b (ds.map some ++ List.replicate (N.length - n) none) g with
    | nx σ g' => rw [hr'] at p; exact fun m' H' σv l r sl => settle_s rl l r .non p
    | rt d g' => rw [hr'] at p; exact fun m' H' v l r hd => settle_s rl l r hd p
    | ex σ e g' => rw [hr'] at p; exact fun m' H' σv cv dd l r sl hd => settleX_s rl l r hd p
    | bk σ g' => rw [hr'] at p; exact p.elim
    | ct σ g' => rw [hr'] at p; exact p.elim
    | no => rw [hr'] at p; exact p.elim
theorem fn_okK {N ps : List Str} {n k : Nat} {b : Sx} (F : FunD K x qual params body scope dvs kws f fd) (S : FnScope N ps scope) (hn : ps.length = n)
    (hb : ∀ (cdv : Value) (A : Around) (outer : List Env) (s : Shared) (H : Hp) (E : XK), Room k (A.deeper (PyProof.Rows.envOfC qual scope s.heap.objs.size f cdv)) →
      PSs (cxOf (L2.CX P w) P w K mg base N qual scope f cdv A outer s H E) body (tS K (WF E) b)) : FnOk P w K mg base (L2.CX P w) (k + 1) f fd ps (spOf K n (callK n N.length b)) := by
  refine FunD.ok F S (fun vs H Q E h => ?_) (fun cdv A outer s H vs Q E hr h => ?_)
  · obtain ⟨m, g, ds, _, h2, h3, _⟩ := h
    rw [← h2.length, h3, hn]
  · obtain ⟨m, g, ds, rl, h2, h3, p⟩ := h
    refine ⟨_, hb cdv A outer s H E hr, m, ds.map some ++ List.replicate (N.length - n) none, g, rl, slots_start h2 h3, ?_⟩
    unfold callK at p
    rw [if_pos h3] at p
    cases hr' : b (ds.map some ++ List.replicate (N.length - n) none) g with
    | nx σ g' => rw [hr'] at p; exact fun m' H' σv l r sl => p m' H' .non l r .non
    | rt d g' => rw [hr'] at p; exact fun m' H' v l r hd => p m' H' v l r hd
    | ex σ e g' => rw [hr'] at p; exact fun m' H' σv cv dd l r sl hd => settleX_s rl l r hd p
    | bk σ g' => rw [hr'] at p; exact p.elim
    | ct σ g' => rw [hr'] at p; exact p.elim
    | no => rw [hr'] at p; exact p.elim
end
/-- f(e, ..) -/
theorem x_call {X : Cx} {W : WX} {k n : Nat} {f : Addr} {fd : FuncData} {ps : List Str} {fn : Fn} {x : Str} {p pos : Pos} {e : Expr} {es : List Expr} {t : Av} (F : FnOk X.prog X.w X.K X.mg X.base (L2.CX X.prog X.w) k f fd ps (spOf X.K n fn)) (hr : Room k X.A) (tk : Takes X W) (hg : Gl X x) (hm : X.mg x = some (.ref f)) (hk : PySem.W.keepIn X.K (.ref f) = true) (hb : Binds X.K fd ps [])
    (hn : ∀ ds g, ds.length ≠ n → fn ds g = .no) (ha : PA X (e :: es) (tA X.K W t)) (hdb : (x == ("__debug__" : Str)) = false := by decide) (he : starEach (e :: es) X.env = (false, eval e X.env) :: starEach es X.env := by rfl) (hpl : (backTo pos (starEach es X.env)).any (·.1) = false := by rfl) :
    PE X (.Call (.Name x p) (e :: es) [] pos) (tE X.K W (eCall fn t)) := PE.imp (pe_callS F hr hg hm hk hb (fun σ => passAt tk σ) ha hdb he hpl) fun σ H Q h => by
  obtain ⟨m, σ', g, rl, sl, hl, q⟩ := h
  refine ⟨m, σ', g, rl, sl, hl, Post.bind q fun ds g1 m1 H1 vs l1 r1 d1 p1 => ?_⟩
  by_cases hd : ds.length = n
  · refine ⟨m1, g1, ds, r1, d1, hd, ?_⟩
    cases hf : fn ds g1 with
    | ok d g2 => rw [hf] at p1; exact p1
    | ex e g2 => rw [hf] at p1; exact p1
    | no => rw [hf] at p1; exact p1
  · rw [hn ds g1 hd] at p1
    exact p1.elim
theorem callK_no {n tot : Nat} {b : Sx} (ds : List D) (g : G) (h : ds.length ≠ n) : callK n tot b ds g = .no := by
  unfold callK
  rw [if_neg h]
theorem callD_no {n tot : Nat} {b : Sx} (ds : List D) (g : G) (h : ds.length ≠ n) : callD n tot b ds g = .no := by
  unfold callD
  rw [if_neg h]
/-! ### the law -/
theorem law_sp {K : PySem.W.Frag} {f : Fn} (hf : ∀ ns : List Int, ns.length ≤ 63 → ∃ g, f [.seq (ns.map D.int)] [] = .ok (.bl true) g) (H : Hp) (a : Addr) (ns : List Int) (hl : ns.length ≤ 63) (hO : Only H) (hS : SqL K H a (ns.map V.int)) : spOf K 1 f [.ref a] H (fun v _ => v = .bl true) fun _ _ _ => False := by
  obtain ⟨g, hg⟩ := hf ns hl
  have hd : ∀ ns : List Int, Dens K (⟨H, fun _ => none, fun _ => none⟩ : Md) (ns.map D.int) (ns.map V.int) := fun ns => by
    induction ns with
    | nil => exact .nil
    | cons n ns ih => exact .cons .int ih
  refine ⟨⟨H, fun _ => none, fun _ => none⟩, [], [.seq (ns.map D.int)], ⟨fun _ _ h => h, fun i c h => ?_, fun i a h => ?_, fun i j a h => ?_, fun a o h => ?_⟩, .cons (.seq hS (hd ns)) .nil, rfl, ?_⟩
  · simp at h
  · cases h
  · cases h
  · cases h
  · rw [hg]
    intro m' H' v l r d
    cases d
    rfl
end AW
namespace AW
open PySem PySem.Spec L2
/-! ### isinstance of built-in classes -/
inductive TK where
  | non | bl | int | str | tup | lst | dct
def TK.name : TK → String
  | .non => "NoneType"
  | .bl => "bool"
  | .int => "int"
  | .str => "str"
  | .tup => "tuple"
  | .lst => "list"
  | .dct => "dict"
def TK.sub : TK → TK → Bool
  | .non, .non => true
  | .bl, .bl => true
  | .bl, .int => true
  | .int, .int => true
  | .str, .str => true
  | .tup, .tup => true
  | .lst, .lst => true
  | .dct, .dct => true
  | _, _ => false
theorem TK.kit (K : PySem.W.Frag) (a b : TK) : PySem.W.kitOne K (.type a.name) (.type b.name) = some (a.sub b) := kit_ty (by cases a <;> cases b <;> decide +kernel)
def tkOf (g : G) : D → Option TK
  | .non => some .non
  | .bl _ => some .bl
  | .int _ => some .int
  | .str _ => some .str
  | .tup _ => some .tup
  | .lst _ => some .lst
  | .seq _ => some .lst
  | .ref i => match lmOf g i with
    | some _ => some .lst
    | none => none
  | .val _ => none
theorem tkOf_s {K : PySem.W.Frag} {m : Md} {g : G} {H : Hp} {d : D} {v : V} {k : TK} (r : Rel K m g H) (h : Den K m d v) (e : tkOf g d = some k) : TyX K H v (.type k.name) := by
  cases h with
  | non => cases e; exact .base .non
  | bl => cases e; exact .base (.bl _)
  | int => cases e; exact .base (.int _)
  | str => cases e; exact .base (.str _)
  | tup h1 h2 =>
    cases e
    rcases r.seqT h1 with (h3 | ⟨o, h3⟩) | ⟨o, its, n, h3, h4, _⟩
    · exact .base (.tup h3)
    · exact .fTuple h3
    · exact .kTuple h3 h4
  | lst h1 h2 => cases e; exact .base (.lst (r.ex _ _ h1))
  | seq h1 h2 =>
    cases e
    rcases r.seqL h1 with (h3 | ⟨o, h3⟩) | ⟨o, its, n, h3, h4, _⟩
    · exact .base (.lst h3)
    · exact .base (.frz h3)
    · exact .kList h3 h4
  | ref h1 =>
    have e' : (match lmOf g _ with | some _ => some TK.lst | none => none) = some k := e
    split at e'
    · rename_i ys hy
      cases e'
      obtain ⟨p, vs, e1, _, h3, _⟩ := lmOf_s r (.ref h1) hy
      cases e1
      exact .base (.lst h3)
    · cases e'
  | val => cases e
def fIsi (k : TK) : Op1 := fun d g => match tkOf g d with
  | some j => .ok (.bl (j.sub k)) g
  | none => .no
def eIsi (k : TK) (a : Ev) : Ev := fun σ g => (a σ g).bind fun d g1 => fIsi k d g1
theorem x_isi {X : Cx} {W : WX} {a : Expr} {ea : Ev} {x : Str} {p p2 pos : Pos} (k : TK) (hg : Gl X "isinstance") (hm : X.mg "isinstance" = none) (hg2 : Gl X x) (hm2 : X.mg x = none) (hv2 : bootBuiltins x = some (.type k.name)) (ha : PE X a (tE X.K W ea))
    (hn : x ≠ "__name__" := by decide) (hdb : (x == ("__debug__" : Str)) = false := by decide)
    (he : starEach [a, .Name x p2] X.env = (false, eval a X.env) :: starEach [.Name x p2] X.env := by rfl) (he2 : starEach [.Name x p2] X.env = (false, eval (.Name x p2) X.env) :: starEach [] X.env := by rfl) (hpl : (backTo pos (starEach [.Name x p2] X.env)).any (·.1) = false := by rfl) :
    PE X (.Call (.Name "isinstance" p) [a, .Name x p2] [] pos) (tE X.K W (eIsi k ea)) :=
  PE.imp (pe_callB call_isi hg hm PyProof.Rows.boot_isinstance (pa_cons ha (pa_cons (pe_bltn (v := .ty k.name) hg2 hm2 hv2 rfl hn hdb) pa_nil he2) he) (by decide) (by decide) he hpl) fun σ H Q h => by
    obtain ⟨m, σ', g, rl, sl, hl, q⟩ := h
    refine ⟨m, σ', g, rl, sl, hl, Post.bind q fun d g1 m1 H1 v l1 r1 d1 p1 => ?_⟩
    unfold fIsi at p1
    split at p1
    · rename_i j hj
      exact ⟨v, .ty k.name, _, _, _, rfl, .ty _, tkOf_s r1 d1 hj, TK.kit X.K j k, fin_ok r1 .bl p1⟩
    · exact p1.elim
theorem s_par3 {X : Cx} {W : WX} {i j l : Nat} {x y z : Str} {a b c : Expr} {t : Av} {px py pz pt pos : Pos} {kt k2 pt2} (hc : X.calm = true) (hN : X.N.Nodup) (hi : X.N[i]? = some x) (hj : X.N[j]? = some y) (hl : X.N[l]? = some z) (hij : i ≠ j) (hil : i ≠ l) (hjl : j ≠ l)
    (hx : X.env.scope.names.lookup x = some .local) (hy : X.env.scope.names.lookup y = some .local) (hz : X.env.scope.names.lookup z = some .local) (ha : PA X [a, b, c] (tA X.K W t))
    (hw : swappedStores [.Tuple [.Name x px, .Name y py, .Name z pz] kt pt] (.Tuple [a, b, c] k2 pt2) X.env = pure (some [x, y, z]))
    (hs : swapsWithSole [.Tuple [.Name x px, .Name y py, .Name z pz] kt pt] (.Tuple [a, b, c] k2 pt2) pos.line X.env = pure false := by rfl) :
    PS X (.Assign [.Tuple [.Name x px, .Name y py, .Name z pz] kt pt] (.Tuple [a, b, c] k2 pt2) pos) (tS X.K W (sPar3 i j l t)) := PS.imp (ps_par3 hc hN hi hj hl hij hil hjl hx hy hz ha hw hs) fun D' σ H h => by
  obtain ⟨m, σ', g, rl, sl, p⟩ := h
  refine ⟨m, σ', g, rl, sl.1, sl.2, sBind_s sl p fun ds g1 m1 H1 vs l1 r1 d1 p1 => ?_⟩
  split at p1
  · obtain ⟨v, ws, rfl, h1, h2⟩ := d1.consV
    obtain ⟨w, ws', rfl, h3, h4⟩ := h2.consV
    obtain ⟨w', ws'', rfl, h5, h6⟩ := h4.consV
    obtain rfl := h6.nilV
    exact ⟨v, w, w', rfl, p1 m1 H1 _ (Le.refl m1) r1 ((((sl.mono l1).set h1).set h3).set h5)⟩
  · exact p1.elim
/-! ### methods of lists that change -/
abbrev Mt := Nat → List D → G → Res D
def eMeth (f : Mt) (o : Ev) (t : Av) : Ev := fun σ g => (o σ g).bind fun x g1 => match x with
  | .ref i => (t σ g1).bind fun ds g2 => f i ds g2
  | _ => .no
/-- by values -/
def MtS (K : PySem.W.Frag) (W : WX) (r : V → List V → Hp → VK → Prop) (f : Mt) : Prop := ∀ (σv : L2.St) (m : Md) (g : G) (H : Hp) (i : Nat) (x : V) (ds : List D) (vs : List V) (Q : VK), Rel K m g H → Den K m (.ref i) x → Dens K m ds vs → Post K W σv (Den K) (f i ds g) m Q → r x vs H Q
theorem ref_ty {K : PySem.W.Frag} {m : Md} {g : G} {H : Hp} {i : Nat} {v : V} (r : Rel K m g H) (h : Den K m (.ref i) v) : tyV K "list" v H := by
  cases h with
  | ref h1 =>
    rename_i a
    have hil := r.dom i a h1
    obtain ⟨a', h2, _, u, h3, h4⟩ := r.cell i g[i] (by simp [hil])
    rw [h1] at h2
    cases h2
    cases hc : g[i] with
    | lst ys =>
      rw [hc] at h4
      obtain ⟨vs, rfl, _⟩ := h4
      exact .inl ⟨rfl, vs, SqL.of h3⟩
theorem tBM_of {K : PySem.W.Frag} {W : WX} {r : V → List V → Hp → VK → Prop} {f : Mt} {eo : Ev} {t : Av} (hs : MtS K W r f) {σ : L2.St} {H : Hp} {Q : VK} (h : tE K W (eMeth f eo t) σ H Q) : tBM K "list" r (tE K W eo) (tA K W t) σ H Q := by
  obtain ⟨m, σ', g, rl, sl, hl, p⟩ := h
  refine ⟨m, σ', g, rl, sl, hl, Post.bind p fun x g1 m1 H1 xv l1 r1 d1 p1 => ?_⟩
  split at p1
  · refine ⟨ref_ty r1 d1, m1, σ', g1, r1, sl.mono l1, hl, Post.bind p1 fun ds g2 m2 H2 vs l2 r2 d2 p2 => ?_⟩
    exact hs σ m2 g2 H2 _ xv ds vs Q r2 (d1.mono l2) d2 p2
  · exact p1.elim
def mAppend : Mt := fun i ds g => match ds with
  | [d] => match lmOf g i with
    | some xs => okIf (decide (xs.length < 100000)) .non (g.set i (.lst (xs ++ [d])))
    | none => .no
  | _ => .no
theorem mAppend_s {K : PySem.W.Frag} {W : WX} : MtS K W rAppend mAppend := fun σv m g H i x ds vs Q rl hx hd p => by
  unfold mAppend at p
  split at p
  · split at p
    · rename_i xs hxs
      obtain ⟨c, p⟩ := okIf_post p
      obtain ⟨v, ws, rfl, h3, h4⟩ := hd.consV
      obtain rfl := h4.nilV
      obtain ⟨a, us, rfl, h5, h6, h7⟩ := lmOf_s rl hx hxs
      refine ⟨a, us, v, rfl, rfl, h6, ?_, ?_⟩
      · rw [← h7.length, sizeLine_eq]
        have := of_decide_eq_true c
        omega
      · exact p m _ _ (Le.refl m) (rl.cellSet h5 ⟨_, rfl, h7.append (.cons h3 .nil)⟩) .non
    · exact p.elim
  · exact p.elim
def eAppend (o a : Ev) : Ev := eMeth mAppend o (aCons a aNil)
theorem x_append {X : Cx} {W : WX} {o e : Expr} {eo ee : Ev} {apos cpos : Pos} (ho : PE X o (tE X.K W eo)) (ha : PE X e (tE X.K W ee))
    (hbase : attributeBase o "append" X.env (eval o X.env) = eval o X.env := by rfl) (hst : starEach [e] X.env = (false, eval e X.env) :: starEach [] X.env := by rfl)
    (hfew : ((backTo cpos (starEach [e] X.env)).all (fun x => !x.1) && (backToKw cpos (keywordEach [] X.env)).all (fun x => x.1.isSome) && decide (([e] : List Expr).length + ([] : List Keyword).length + (if ([] : List Keyword).isEmpty then 0 else 1) < 30)) = true := by rfl)
    (hline : (apos.endLine == cpos.line) = true := by rfl) (hplain : (backTo cpos (starEach [] X.env)).any (·.1) = false := by rfl) :
    PE X (.Call (.Attribute o "append" apos) [e] [] cpos) (tE X.K W (eAppend eo ee)) :=
  PE.imp (pe_bm PySem.F.plainAttrs_list PySem.F.slot_list_append PySem.F.type_list_append mt_append ho (a_cons (W := W) ha a_nil hst) hbase hfew hline hst hplain) fun _ _ _ h => tBM_of mAppend_s h
/-! ### list(range(..)), tuple(range(..)) -/
def rgOk (a b : Int) : Bool := smallI a && smallI b && decide (b - a ≤ 100000)
theorem rgOk_s {a b : Int} (h : rgOk a b = true) : RgOk a b := by
  unfold rgOk at h
  rw [Bool.and_eq_true, Bool.and_eq_true] at h
  obtain ⟨h1, h2⟩ := smallI_ok h.1.1
  obtain ⟨h3, h4⟩ := smallI_ok h.1.2
  have h5 := of_decide_eq_true h.2
  exact ⟨h1, h2, h3, h4, by omega⟩
theorem rg_dens {K : PySem.W.Frag} {m : Md} : ∀ (n : Nat) (a : Int), Dens K m (rangeD a n) ((List.range n).map fun i => V.int (a + (i : Nat)))
  | 0, _ => .nil
  | n + 1, a => by
    rw [List.range_succ_eq_map, List.map_cons, List.map_map]
    refine .cons (by rw [Int.natCast_zero, Int.add_zero]; exact .int) ?_
    have h := rg_dens (K := K) (m := m) n (a + 1)
    have e : ((fun i => V.int (a + (i : Nat))) ∘ Nat.succ) = (fun i : Nat => V.int (a + 1 + (i : Nat))) := by
      funext i
      show V.int (a + ((i + 1 : Nat) : Int)) = _
      congr 1
      omega
    rw [e]
    exact h
def rgBody (k : List D → G → Res D) (a b : Int) (g : G) : Res D := match rgOk a b with
  | true => k (rangeD a (b - a).toNat) g
  | false => .no
def rg1 (k : List D → G → Res D) (a : Ev) : Ev := fun σ g => (a σ g).bind fun x g1 => match x with
  | .int n => rgBody k 0 n g1
  | _ => .no
def rg2 (k : List D → G → Res D) (a b : Ev) : Ev := fun σ g => (a σ g).bind fun x g1 => (b σ g1).bind fun y g2 => match x, y with
  | .int i, .int j => rgBody k i j g2
  | _, _ => .no
def kL : List D → G → Res D := fun xs g => .ok (.lst xs) g
def kM : List D → G → Res D := fun xs g => .ok (.ref g.length) (g ++ [.lst xs])
def kT : List D → G → Res D := fun xs g => .ok (.tup xs) g
abbrev eListRg1 := rg1 kL
abbrev eListRg2 := rg2 kL
abbrev eListRg1M := rg1 kM
abbrev eListRg2M := rg2 kM
abbrev eTupleRg1 := rg1 kT
abbrev eTupleRg2 := rg2 kT
section
variable {X : Cx} {W : WX} {a b : Expr} {ea eb : Ev} {k : List D → G → Res D} {p p2 pos pos2 : Pos} {te : (St → Hp → (Int → Int → Hp → Prop) → Prop) → TE}
theorem rg1_of {K : PySem.W.Frag} {fin : Int → Int → Hp → VK → Prop} (hk : ∀ σv m g H i j Q, Rel K m g H → Post K W σv (Den K) (rgBody k i j g) m Q → fin i j H Q) {σ : L2.St} {H : Hp} {Q : VK} (h : tE K W (rg1 k ea) σ H Q) : tRg1 (tE K W ea) σ H (fun i j H1 => fin i j H1 Q) := by
  obtain ⟨m, σ', g, rl, sl, hl, p⟩ := h
  refine ⟨m, σ', g, rl, sl, hl, Post.bind p fun x g1 m1 H1 xv l1 r1 d1 p1 => ?_⟩
  split at p1
  · cases d1
    exact ⟨_, rfl, hk σ m1 g1 H1 _ _ Q r1 p1⟩
  · exact p1.elim
theorem rg2_of {K : PySem.W.Frag} {fin : Int → Int → Hp → VK → Prop} (hk : ∀ σv m g H i j Q, Rel K m g H → Post K W σv (Den K) (rgBody k i j g) m Q → fin i j H Q) {σ : L2.St} {H : Hp} {Q : VK} (h : tE K W (rg2 k ea eb) σ H Q) : tRg2 (tE K W ea) (tE K W eb) σ H (fun i j H1 => fin i j H1 Q) := by
  obtain ⟨m, σ', g, rl, sl, hl, p⟩ := h
  refine ⟨m, σ', g, rl, sl, hl, Post.bind p fun x g1 m1 H1 xv l1 r1 d1 p1 => ?_⟩
  refine ⟨m1, σ', g1, r1, sl.mono l1, hl, Post.bind p1 fun y g2 m2 H2 yv l2 r2 d2 p2 => ?_⟩
  split at p2
  · have d1' := d1.mono l2
    cases d1'
    cases d2
    exact ⟨_, _, rfl, rfl, hk σ m2 g2 H2 _ _ Q r2 p2⟩
  · exact p2.elim
theorem kL_fin {K : PySem.W.Frag} (σv : L2.St) (m : Md) (g : G) (H : Hp) (i j : Int) (Q : VK) (rl : Rel K m g H) (p : Post K W σv (Den K) (rgBody kL i j g) m Q) : RgOk i j ∧ ∀ q, H q = none → Q (.ref q) (upd H q (.lst (rgV i j))) := by
  unfold rgBody at p
  split at p
  · rename_i h
    exact ⟨rgOk_s h, fin_lst rl (rg_dens _ i) p⟩
  · exact p.elim
theorem kT_fin {K : PySem.W.Frag} (σv : L2.St) (m : Md) (g : G) (H : Hp) (i j : Int) (Q : VK) (rl : Rel K m g H) (p : Post K W σv (Den K) (rgBody kT i j g) m Q) : RgOk i j ∧ ∀ q, H q = none → Q (.ref q) (upd H q (.tup (rgV i j))) := by
  unfold rgBody at p
  split at p
  · rename_i h
    exact ⟨rgOk_s h, fin_tup rl (rg_dens _ i) p⟩
  · exact p.elim
theorem kM_fin {K : PySem.W.Frag} (σv : L2.St) (m : Md) (g : G) (H : Hp) (i j : Int) (Q : VK) (rl : Rel K m g H) (p : Post K W σv (Den K) (rgBody kM i j g) m Q) : RgOk i j ∧ ∀ q, H q = none → Q (.ref q) (upd H q (.lst (rgV i j))) := by
  unfold rgBody at p
  split at p
  · rename_i h
    exact ⟨rgOk_s h, fun l hl => p _ _ _ (le_cell rl.fresh) (rl.cellAdd hl ⟨_, rfl, rg_dens _ i⟩) den_cell⟩
  · exact p.elim
theorem PRg.imp {e : Expr} {t : St → Hp → (Int → Int → Hp → Prop) → Prop} (h : PRg X e t) : PRg X e t := h
theorem x_listRg1 (hc : X.calm = true) (hg : Gl X "list") (hm : X.mg "list" = none) (hg2 : Gl X "range") (hm2 : X.mg "range" = none) (ha : PE X a (tE X.K W ea)) (na : starEach [a] X.env = (false, eval a X.env) :: starEach [] X.env := by rfl) (na2 : starEach [.Call (.Name "range" p2) [a] [] pos2] X.env = (false, eval (.Call (.Name "range" p2) [a] [] pos2) X.env) :: starEach [] X.env := by rfl) :
    PE X (.Call (.Name "list" p) [.Call (.Name "range" p2) [a] [] pos2] [] pos) (tE X.K W (eListRg1 ea)) := PE.imp (pe_listRg hc hg hm (prg_1 hg2 hm2 ha na) na2) fun _ _ _ h => rg1_of (fin := fun i j H Q => RgOk i j ∧ ∀ q, H q = none → Q (.ref q) (upd H q (.lst (rgV i j)))) kL_fin h
theorem x_listRg1M (hc : X.calm = true) (hg : Gl X "list") (hm : X.mg "list" = none) (hg2 : Gl X "range") (hm2 : X.mg "range" = none) (ha : PE X a (tE X.K W ea)) (na : starEach [a] X.env = (false, eval a X.env) :: starEach [] X.env := by rfl) (na2 : starEach [.Call (.Name "range" p2) [a] [] pos2] X.env = (false, eval (.Call (.Name "range" p2) [a] [] pos2) X.env) :: starEach [] X.env := by rfl) :
    PE X (.Call (.Name "list" p) [.Call (.Name "range" p2) [a] [] pos2] [] pos) (tE X.K W (eListRg1M ea)) := PE.imp (pe_listRg hc hg hm (prg_1 hg2 hm2 ha na) na2) fun _ _ _ h => rg1_of (fin := fun i j H Q => RgOk i j ∧ ∀ q, H q = none → Q (.ref q) (upd H q (.lst (rgV i j)))) kM_fin h
theorem x_tupleRg1 (hc : X.calm = true) (hg : Gl X "tuple") (hm : X.mg "tuple" = none) (hg2 : Gl X "range") (hm2 : X.mg "range" = none) (ha : PE X a (tE X.K W ea)) (na : starEach [a] X.env = (false, eval a X.env) :: starEach [] X.env := by rfl) (na2 : starEach [.Call (.Name "range" p2) [a] [] pos2] X.env = (false, eval (.Call (.Name "range" p2) [a] [] pos2) X.env) :: starEach [] X.env := by rfl) :
    PE X (.Call (.Name "tuple" p) [.Call (.Name "range" p2) [a] [] pos2] [] pos) (tE X.K W (eTupleRg1 ea)) := PE.imp (pe_tupRg hc hg hm (prg_1 hg2 hm2 ha na) na2) fun _ _ _ h => rg1_of (fin := fun i j H Q => RgOk i j ∧ ∀ q, H q = none → Q (.ref q) (upd H q (.tup (rgV i j)))) kT_fin h
theorem x_listRg2 (hc : X.calm = true) (hg : Gl X "list") (hm : X.mg "list" = none) (hg2 : Gl X "range") (hm2 : X.mg "range" = none) (ha : PE X a (tE X.K W ea)) (hb : PE X b (tE X.K W eb)) (na : starEach [a, b] X.env = (false, eval a X.env) :: starEach [b] X.env := by rfl) (nb : starEach [b] X.env = (false, eval b X.env) :: starEach [] X.env := by rfl) (hp : (backTo pos2 (starEach [b] X.env)).any (·.1) = false := by rfl)
    (na2 : starEach [.Call (.Name "range" p2) [a, b] [] pos2] X.env = (false, eval (.Call (.Name "range" p2) [a, b] [] pos2) X.env) :: starEach [] X.env := by rfl) :
    PE X (.Call (.Name "list" p) [.Call (.Name "range" p2) [a, b] [] pos2] [] pos) (tE X.K W (eListRg2 ea eb)) := PE.imp (pe_listRg hc hg hm (prg_2 hg2 hm2 ha hb na nb hp) na2) fun _ _ _ h => rg2_of (fin := fun i j H Q => RgOk i j ∧ ∀ q, H q = none → Q (.ref q) (upd H q (.lst (rgV i j)))) kL_fin h
theorem x_tupleRg2 (hc : X.calm = true) (hg : Gl X "tuple") (hm : X.mg "tuple" = none) (hg2 : Gl X "range") (hm2 : X.mg "range" = none) (ha : PE X a (tE X.K W ea)) (hb : PE X b (tE X.K W eb)) (na : starEach [a, b] X.env = (false, eval a X.env) :: starEach [b] X.env := by rfl) (nb : starEach [b] X.env = (false, eval b X.env) :: starEach [] X.env := by rfl) (hp : (backTo pos2 (starEach [b] X.env)).any (·.1) = false := by rfl)
    (na2 : starEach [.Call (.Name "range" p2) [a, b] [] pos2] X.env = (false, eval (.Call (.Name "range" p2) [a, b] [] pos2) X.env) :: starEach [] X.env := by rfl) :
    PE X (.Call (.Name "tuple" p) [.Call (.Name "range" p2) [a, b] [] pos2] [] pos) (tE X.K W (eTupleRg2 ea eb)) := PE.imp (pe_tupRg hc hg hm (prg_2 hg2 hm2 ha hb na nb hp) na2) fun _ _ _ h => rg2_of (fin := fun i j H Q => RgOk i j ∧ ∀ q, H q = none → Q (.ref q) (upd H q (.tup (rgV i j)))) kT_fin h
end
/-! ### the text's facts, by names -/
def Ok (P : Program) (w : World) (K : PySem.W.Frag) (mg : Str → Option Value) (x : Str) (k n : Nat) (fn : Fn) (ps : List Str) : Prop :=
  mg x = some (.ref (He.ga K x)) ∧ PySem.W.keepIn K (.ref (He.ga K x)) = true ∧ ∃ fd, (∀ base, FnOk P w K mg base (L2.CX P w) k (He.ga K x) fd ps (spOf K n fn)) ∧ (∀ (s : Shared) (us : List Value), us.length = ps.length → BindsTo s fd ⟨us, []⟩ (ps.zip us)) ∧ ∀ ds g, ds.length ≠ n → fn ds g = .no
theorem x_callO {X : Cx} {W : WX} {j k n : Nat} {ps : List Str} {fn : Fn} {x : Str} {p pos : Pos} {e : Expr} {es : List Expr} {t : Av} (o : Ok X.prog X.w X.K X.mg x k n fn ps) (hr : Room j X.A) (hj : k ≤ j) (tk : Takes X W) (hg : Gl X x)
    (ha : PA X (e :: es) (tA X.K W t)) (hdb : (x == ("__debug__" : Str)) = false := by decide) (he : starEach (e :: es) X.env = (false, eval e X.env) :: starEach es X.env := by rfl) (hpl : (backTo pos (starEach es X.env)).any (·.1) = false := by rfl) :
    PE X (.Call (.Name x p) (e :: es) [] pos) (tE X.K W (eCall fn t)) := by
  obtain ⟨h1, h2, fd, h3, h4, h5⟩ := o
  exact x_call (h3 X.base) (hr.mono hj) tk hg h1 h2 (fun s us _ hl => by rw [List.append_nil] at hl ⊢; exact h4 s us hl) h5 ha hdb he hpl
structure Tx (fa : List He.Fa) (fn : List He.DefD) (K : PySem.W.Frag) (mg : Str → Option Value) : Prop where
  c : He.SaysD fa fn K
  gl : ∀ x, (He.Fa.glo x).ok K = true → mg x = some (.ref (He.ga K x))
  fr : ∀ x, (He.Fa.free x).ok K = true → mg x = none
  it : ∀ x i, (He.Fa.int x i).ok K = true → ∃ t, mg x = some (.int i t)
theorem tx_of {fa : List He.Fa} {fn : List He.DefD} {K : PySem.W.Frag} {h : Heap} {mg : Str → Option Value} (X : K.In h) (G : h.Ns mainGlobals mg) (c : He.SaysD fa fn K) : Tx fa fn K mg :=
  ⟨c, fun _ q => He.glo_ok X G q, fun _ q => He.free_ok X G q, fun _ _ q => He.int_ok X G q⟩
theorem units64 {k : Nat} {A : Around} (hr : Room k A) : A.units + 64 < cLine := hr.units
theorem units65 {k : Nat} {A : Around} (hr : Room k A) : A.units + 65 < cLine := by have := hr.un; omega
theorem bt_abs : bootBuiltins "abs" = some (.builtin "abs") := by decide +kernel
theorem bt_any : bootBuiltins "any" = some (.builtin "any") := by decide +kernel
theorem bt_all : bootBuiltins "all" = some (.builtin "all") := by decide +kernel
theorem bt_len : bootBuiltins "len" = some (.builtin "len") := by decide +kernel
theorem bt_max : bootBuiltins "max" = some (.builtin "max") := by decide +kernel
theorem bt_min : bootBuiltins "min" = some (.builtin "min") := by decide +kernel
theorem bt_sum : bootBuiltins "sum" = some (.builtin "sum") := by decide +kernel
theorem bt_int : bootBuiltins "int" = some (.type "int") := by decide +kernel
theorem bt_bool : bootBuiltins "bool" = some (.type "bool") := by decide +kernel
theorem bt_str : bootBuiltins "str" = some (.type "str") := by decide +kernel
theorem bt_list : bootBuiltins "list" = some (.type "list") := by decide +kernel
theorem bt_tuple : bootBuiltins "tuple" = some (.type "tuple") := by decide +kernel
theorem bt_dict : bootBuiltins "dict" = some (.type "dict") := by decide +kernel
end AW
namespace AW
open PySem PySem.Spec L2
/-! ### comparisons as tests -/
def eTst (a : Ev) : Tv := fun σ g => (a σ g).bind fun d g1 => match d with
  | .bl c => .ok c g1
  | _ => .no
section
variable {X : Cx} {W : WX} {a b c e : Expr} {ea eb ec ev : Ev} {pos : Pos}
theorem t_test {t : TE} (h : PT X e (tTest t)) (hs : ∀ σ H Q, tE X.K W ev σ H Q → t σ H Q) : PT X e (tT X.K W (eTst ev)) :=
  PT.imp h fun σ H Q h => by
    refine hs _ _ _ ?_
    obtain ⟨m, σ', g, rl, sl, hl, p⟩ := h
    refine ⟨m, σ', g, rl, sl, hl, Post.bind p fun d g1 m1 H1 x l1 r1 d1 p1 => ?_⟩
    split at p1
    · cases d1
      exact ⟨_, rfl, fin_ok r1 rfl p1⟩
    · exact p1.elim
theorem t_cmp {op : CmpOp} {r : R2} {f : Op2} (ho : OpR X (compareOp op) r) (hs : OpS X.K W r f) (ha : PE X a (tE X.K W ea)) (hb : PE X b (tE X.K W eb))
    (hm : behindInMarks op b = false) : PT X (.Compare a [op] [b] pos) (tT X.K W (eTst (eOp f ea eb))) :=
  t_test (pt_cmpR ho ha hb hm) fun _ _ _ h => tOp_of hs h
theorem t_chain {op op' : CmpOp} {r r' : R2} {f f' : Op2} (ho : OpR X (compareOp op) r) (ho' : OpR X (compareOp op') r')
    (hs : ∀ σv m g H d e x y Q, Rel X.K m g H → Den X.K m d x → Den X.K m e y → Post X.K W σv (Den X.K) (f d e g) m Q → r x y H Q) (hs' : OpS X.K W r' f')
    (ha : PE X a (tE X.K W ea)) (hb : PE X b (tE X.K W eb)) (hc : PE X c (tE X.K W ec))
    (hm : lastMarks [op, op'] [b, c] = false := by with_unfolding_all rfl) :
    PT X (.Compare a [op, op'] [b, c] pos) (tT X.K W (eTst (eChain f f' ea eb ec))) :=
  t_test (L2.pt_chain ho ho' ha hb hc hm) fun σ H Q h => by
    obtain ⟨m, σ', g, rl, sl, hl, p⟩ := h
    refine ⟨m, σ', g, rl, sl, hl, Post.bind p fun d g1 m1 H1 x l1 r1 d1 p1 => ?_⟩
    refine ⟨m1, σ', g1, r1, sl.mono l1, hl, Post.bind p1 fun e g2 m2 H2 y l2 r2 d2 p2 => ?_⟩
    refine hs σ m2 g2 H2 d e x y _ r2 (d1.mono l2) d2 (Post.bind p2 fun z g3 m3 H3 zv l3 r3 d3 p3 => ?_)
    split at p3
    · cases d3
      refine ⟨true, rfl, ?_⟩
      rw [if_pos rfl]
      refine ⟨m3, σ', g3, r3, ((sl.mono l1).mono l2).mono l3, hl, Post.bind p3 fun w' g4 m4 H4 wv l4 r4 d4 p4 => ?_⟩
      exact hs' σ m4 g4 H4 e w' y wv Q r4 ((d2.mono l3).mono l4) d4 p4
    · cases d3
      refine ⟨false, rfl, ?_⟩
      rw [if_neg Bool.false_ne_true]
      exact fin_ok r3 .bl p3
    · exact p3.elim
end
/-! ### the end of a law whose errors' reading names the world -/
theorem endW {l : PySem.W.OpenLaw} {n k : Nat} {q : Program} {loose : List Str} {XP : (Str → Option Value) → Heap → Prop}
    {YP : World → Heap → Prop} {d : DefRec} {x : Str} {f : Fn} (hn : l.most = some n) (hn2 : n ≤ sizeLine)
    (hdf : d.params.defaults = []) (hr : Room k callerA) (nx : n ≤ 63)
    (hf : ∀ ns : List Int, ns.length ≤ 63 → ∃ g, f [.seq (ns.map D.int)] [] = .ok (.bl true) g)
    (FF : ∀ (w : World) (mg : Str → Option Value) (fa : Addr) (h : Heap), YP w h → h.Ns mainGlobals mg →
      mg d.name = some (.ref fa) →
      ∃ K : PySem.W.Frag, K.In h ∧ fa = He.ga K d.name ∧ Ok l.prog w K mg d.name k 1 f [x]) :
    PySem.W.WalkO q loose XP YP l.row.toRowW d [] (fun f vs => PySem.call f vs) := by
  refine Att.attach_call hn hdf fun w s₀ s₁ mg mb fa o pm cd doc a vs ns G Y ho hd hcd hmg hobj hints hlen hg => ?_
  obtain ⟨K, KX, rfl, OK⟩ := FF w mg fa _ Y G.T.g hmg
  obtain ⟨fd, F, b, _⟩ := OK.2.2
  refine law_call (CX := L2.CX l.prog w) (sp := spOf K 1 f) (fd := fd) KX G.T.g G.T.b G.T.builtins G.T.nolimit hg
    hobj hints (Nat.le_trans hlen hn2) hr (fun base _ _ => ?_) (fun s u => b s [u] rfl) (fun H hO hS => ?_) fun H e s' z => ?_
  · exact F base
  · exact law_sp hf H a ns (Nat.le_trans hlen nx) hO hS
  · obtain ⟨_, _, _, _, _, _, _, _, _, _, _, _, z⟩ := z
    exact z.elim
end AW
/-! Ax: constants and tables that stand in the text's top. -/
namespace AW
open PySem PySem.Spec L2
/-! ### a value of the top that is told by data -/
mutual
def litB (K : PySem.W.Frag) : D → Value → Bool
  | .non, u => (match u with | .none => true | _ => false)
  | .bl b, u => (match u with | .bool c => decide (b = c) | _ => false)
  | .int i, u => (match u with | .int j _ => decide (i = j) | _ => false)
  | .str x, u => (match u with | .str y _ => decide (x = y) | _ => false)
  | .tup ds, u => (match u with
    | .ref a => (match K.lookup a with
      | some ⟨.type c, _, .seq its _, _⟩ => decide (c = "tuple") && (decide (its.size ≤ 100000) && litsB K ds its.toList)
      | _ => false)
    | _ => false)
  | .lst _, _ => false
  | .seq _, _ => false
  | .ref _, _ => false
  | .val _, _ => false
def litsB (K : PySem.W.Frag) : List D → List Value → Bool
  | [], us => (match us with
    | [] => true
    | _ :: _ => false)
  | d :: ds, us => (match us with
    | u :: us => litB K d u && litsB K ds us
    | [] => false)
end
mutual
theorem litB_s {K : PySem.W.Frag} : ∀ {d : D} {u : Value}, litB K d u = true → ∃ v, RelV v u ∧ ∀ m, Den K m d v
  | .non, u, h => by
    rw [litB.eq_def] at h
    dsimp only at h
    split at h
    · exact ⟨.non, rfl, fun _ => .non⟩
    · cases h
  | .bl b, u, h => by
    rw [litB.eq_def] at h
    dsimp only at h
    split at h
    · cases of_decide_eq_true h
      exact ⟨.bl b, rfl, fun _ => .bl⟩
    · cases h
  | .int i, u, h => by
    rw [litB.eq_def] at h
    dsimp only at h
    split at h
    · cases of_decide_eq_true h
      exact ⟨.int i, ⟨_, rfl⟩, fun _ => .int⟩
    · cases h
  | .str x, u, h => by
    rw [litB.eq_def] at h
    dsimp only at h
    split at h
    · cases of_decide_eq_true h
      exact ⟨.str x, ⟨_, rfl⟩, fun _ => .str⟩
    · cases h
  | .tup ds, u, h => by
    rw [litB.eq_def] at h
    dsimp only at h
    split at h
    · rename_i a
      split at h
      · rename_i c od its n sl hk
        rw [Bool.and_eq_true, Bool.and_eq_true] at h
        obtain ⟨h1, h2, h3⟩ := h
        obtain ⟨vs, h4, h5⟩ := litsB_s h3
        refine ⟨.ref a, rfl, fun m => .tup (.inr ⟨_, its, n, hk, ?_, rfl, ?_, h4⟩) (h5 m)⟩
        · rw [of_decide_eq_true h1]
        · rw [sizeLine_eq]
          have := of_decide_eq_true h2
          omega
      · cases h
    · cases h
  | .lst _, _, h => by rw [litB.eq_def] at h; cases h
  | .seq _, _, h => by rw [litB.eq_def] at h; cases h
  | .ref _, _, h => by rw [litB.eq_def] at h; cases h
  | .val _, _, h => by rw [litB.eq_def] at h; cases h
theorem litsB_s {K : PySem.W.Frag} : ∀ {ds : List D} {us : List Value}, litsB K ds us = true → ∃ vs, Vals vs us ∧ ∀ m, Dens K m ds vs
  | [], us, h => by
    rw [litsB.eq_def] at h
    dsimp only at h
    cases us with
    | nil => exact ⟨[], .nil, fun _ => .nil⟩
    | cons u us => cases h
  | d :: ds, us, h => by
    rw [litsB.eq_def] at h
    dsimp only at h
    split at h
    · rw [Bool.and_eq_true] at h
      obtain ⟨v, h1, h2⟩ := litB_s h.1
      obtain ⟨vs, h3, h4⟩ := litsB_s h.2
      exact ⟨v :: vs, .cons h1 h3, fun m => .cons (h2 m) (h4 m)⟩
    · cases h
end
def glD (x : Str) (d : D) (K : PySem.W.Frag) : Bool := match PySem.W.nsIn K mainGlobals x with
  | some (some u) => litB K d u
  | _ => false
/-- a dict of the top: text keys, whole numbers -/
def kdI (x : Str) (tb : List (Str × Int)) (K : PySem.W.Frag) : Bool := tb.all fun q => match PySem.W.nsIn K (He.ga K x) q.1 with
  | some (some (.int j _)) => decide (j = q.2)
  | _ => false
structure Zx (ex : List (PySem.W.Frag → Bool)) (ts : List He.Tab) (w : World) (K : PySem.W.Frag) (mg : Str → Option Value) : Prop where
  ex : ∀ b ∈ ex, b K = true
  li : ∀ x d, glD x d K = true → ∃ u v, mg x = some u ∧ RelV v u ∧ ∀ m, Den K m d v
  kd : ∀ (i : Nat) (t : He.Tab), ts[i]? = some t → ∃ es n, KDict K w (t.1 K) es n
def exAll (ex : List (PySem.W.Frag → Bool)) (K : PySem.W.Frag) : Bool := ex.all fun b => b K
theorem zx_of {fa : List He.Fa} {fn : List He.DefD} {ts : List He.Tab} {ex : List (PySem.W.Frag → Bool)} {w : World} {K : PySem.W.Frag} {h : Heap} {mg : Str → Option Value} (X : K.In h) (G : h.Ns mainGlobals mg) (c : He.SaysX fa fn ts [] (exAll ex) w h K) : Zx ex ts w K mg := by
  refine ⟨fun b hb => List.all_eq_true.mp c.more b hb, fun x d q => ?_, fun i t ht => c.t.tab i ht⟩
  unfold glD at q
  split at q
  · rename_i u hu
    obtain ⟨v, h1, h2⟩ := litB_s q
    exact ⟨u, v, PySem.W.mg_of X G hu, h1, h2⟩
  · cases q
theorem Zx.at_ {ex : List (PySem.W.Frag → Bool)} {ts : List He.Tab} {w : World} {K : PySem.W.Frag} {mg : Str → Option Value} (z : Zx ex ts w K mg) (i : Nat) {b : PySem.W.Frag → Bool} (h : ex[i]? = some b := by rfl) : b K = true := z.ex b (List.mem_of_getElem? h)
def kdGet (tb : List (Str × Int)) (z : Str) : Option Int := match tb with
  | [] => none
  | q :: r => if q.1 = z then some q.2 else kdGet r z
theorem kdGet_mem : ∀ {tb : List (Str × Int)} {z : Str} {i : Int}, kdGet tb z = some i → (z, i) ∈ tb
  | [], _, _, h => by cases h
  | q :: r, z, i, h => by
    unfold kdGet at h
    split at h
    · rename_i e
      cases h
      rw [← e]
      exact List.mem_cons_self ..
    · exact List.mem_cons_of_mem _ (kdGet_mem h)
def eKd (tb : List (Str × Int)) (e : Ev) : Ev := fun σ g => (e σ g).bind fun d g1 => match d with
  | .str z => match kdGet tb z with
    | some i => .ok (.int i) g1
    | none => .no
  | _ => .no
theorem x_kd {X : Cx} {W : WX} {x : Str} {tb : List (Str × Int)} {b : Expr} {eb : Ev} {p pos : Pos} {es : Array DictEntry} {n : Nat} (D : KDict X.K X.w (He.ga X.K x) es n) (hv : kdI x tb X.K = true) (hg : Gl X x) (hm : X.mg x = some (.ref (He.ga X.K x))) (hb : PE X b (tE X.K W eb))
    (hd : (x == ("__debug__" : Str)) = false := by decide) (hs : PlainIx b := by exact fun _ _ => rfl) : PE X (.Subscript (.Name x p) b pos) (tE X.K W (eKd tb eb)) :=
  PE.imp (pe_ix ix_kdict (pe_glob (v := .ref (He.ga X.K x)) hg hm rfl hd) hb hs) fun σ H Q h => by
    obtain ⟨m, σ', g, rl, sl, hl, q⟩ := h
    refine ⟨m, σ', g, rl, sl, hl, Post.bind q fun d g1 m1 H1 v l1 r1 d1 p1 => ?_⟩
    split at p1
    · rename_i z
      split at p1
      · rename_i i hi
        cases d1
        have h1 := List.all_eq_true.mp hv _ (kdGet_mem hi)
        dsimp only at h1
        split at h1
        · rename_i j t hj
          cases of_decide_eq_true h1
          exact ⟨_, z, .int i, rfl, rfl, ⟨es, n, _, D.at_, D.lit, hj, ⟨t, rfl⟩⟩, fin_ok r1 .int p1⟩
        · cases h1
      · exact p1.elim
    · exact p1.elim
end AW
/-! Ap: what is due behind an evaluator, backwards (plain; no program in sight). -/
namespace AW
open PySem PySem.Spec L2
def Res.wp {α : Type} (r : Res α) (Q : α → G → Prop) : Prop := match r with
  | .ok a g => Q a g
  | _ => False
def SRes.wp (r : SRes) (N : Sg → G → Prop) (R : D → G → Prop) (B C : Sg → G → Prop) : Prop := match r with
  | .nx σ g => N σ g
  | .rt d g => R d g
  | .bk σ g => B σ g
  | .ct σ g => C σ g
  | _ => False
theorem Res.wp_mono {α : Type} {r : Res α} {Q Q' : α → G → Prop} (h : r.wp Q) (k : ∀ a g, Q a g → Q' a g) : r.wp Q' := by
  cases r <;> first | exact k _ _ h | exact h.elim
theorem SRes.wp_mono {r : SRes} {N N' B B' C C' : Sg → G → Prop} {R R' : D → G → Prop} (h : r.wp N R B C) (n : ∀ σ g, N σ g → N' σ g) (k : ∀ d g, R d g → R' d g) (b : ∀ σ g, B σ g → B' σ g) (c : ∀ σ g, C σ g → C' σ g) : r.wp N' R' B' C' := by
  cases r <;> first | exact n _ _ h | exact k _ _ h | exact b _ _ h | exact c _ _ h | exact h.elim
theorem Res.wp_eq {α : Type} {r : Res α} {Q : α → G → Prop} (h : r.wp Q) : ∃ a g, r = .ok a g ∧ Q a g := by
  cases r <;> first | exact ⟨_, _, rfl, h⟩ | exact h.elim
section
variable {α β : Type} {N B C : Sg → G → Prop} {R : D → G → Prop} {σ : Sg} {g : G} {d : D}
@[simp] theorem wp_ok {a : α} {Q : α → G → Prop} : (Res.ok a g).wp Q = Q a g := rfl
@[simp] theorem wp_no {Q : α → G → Prop} : (Res.no : Res α).wp Q = False := rfl
@[simp] theorem wp_bind {r : Res α} {f : α → G → Res β} {Q : β → G → Prop} : (r.bind f).wp Q = r.wp (fun a g1 => (f a g1).wp Q) := by cases r <;> rfl
@[simp] theorem wp_okIf {c : Bool} {a : α} {Q : α → G → Prop} : (okIf c a g).wp Q = (c = true ∧ Q a g) := by
  cases c
  · show False = _
    simp
  · show Q a g = _
    simp
@[simp] theorem wp_ite {c : Prop} [Decidable c] {a b : Res α} {Q : α → G → Prop} : (if c then a else b).wp Q = if c then a.wp Q else b.wp Q := by split <;> rfl
@[simp] theorem wp_nx : (SRes.nx σ g).wp N R B C = N σ g := rfl
@[simp] theorem wp_rt : (SRes.rt d g).wp N R B C = R d g := rfl
@[simp] theorem wp_bk : (SRes.bk σ g).wp N R B C = B σ g := rfl
@[simp] theorem wp_ct : (SRes.ct σ g).wp N R B C = C σ g := rfl
@[simp] theorem wp_sno : SRes.no.wp N R B C = False := rfl
@[simp] theorem wp_sbind {r : Res α} {f : α → G → SRes} : (sBind σ r f).wp N R B C = r.wp (fun a g1 => (f a g1).wp N R B C) := by cases r <;> rfl
@[simp] theorem wp_nil : (sNil σ g).wp N R B C = N σ g := rfl
@[simp] theorem wp_pass : (sPass σ g).wp N R B C = N σ g := rfl
@[simp] theorem wp_break : (sBreak σ g).wp N R B C = B σ g := rfl
@[simp] theorem wp_cont : (sCont σ g).wp N R B C = C σ g := rfl
@[simp] theorem wp_cons {a b : Sx} : (sCons a b σ g).wp N R B C = (a σ g).wp (fun σ1 g1 => (b σ1 g1).wp N R B C) R B C := by
  unfold sCons
  cases a σ g <;> rfl
theorem wp_cut {a b : Sx} (M : Sg → G → Prop) (h1 : (a σ g).wp M R B C) (h2 : ∀ σ1 g1, M σ1 g1 → (b σ1 g1).wp N R B C) : (sCons a b σ g).wp N R B C := by
  rw [wp_cons]
  exact SRes.wp_mono h1 h2 (fun _ _ q => q) (fun _ _ q => q) fun _ _ q => q
@[simp] theorem wp_expr {e : Ev} : (sExpr e σ g).wp N R B C = (e σ g).wp (fun _ g1 => N σ g1) := by unfold sExpr; rw [wp_sbind]; rfl
@[simp] theorem wp_ret {e : Ev} : (sRet e σ g).wp N R B C = (e σ g).wp R := by unfold sRet; rw [wp_sbind]; rfl
@[simp] theorem wp_retN : (sRetN σ g).wp N R B C = R .non g := rfl
def pick {α : Type} (c : Bool) (a b : α) : α := match c with
  | true => a
  | false => b
@[simp] theorem pick_t {α : Type} {a b : α} : pick true a b = a := rfl
@[simp] theorem pick_f {α : Type} {a b : α} : pick false a b = b := rfl
theorem pick_dec {p : Prop} [Decidable p] {a b : Prop} (h1 : p → a) (h2 : ¬p → b) : pick (decide p) a b := by
  by_cases h : p
  · rw [decide_eq_true h]; exact h1 h
  · rw [decide_eq_false h]; exact h2 h
theorem pick_bool {c : Bool} {a b : Prop} (h1 : c = true → a) (h2 : c = false → b) : pick c a b := by
  cases c
  · exact h2 rfl
  · exact h1 rfl
@[simp] theorem wp_if {c : Tv} {a b : Sx} : (sIf c a b σ g).wp N R B C = (c σ g).wp (fun k g1 => pick k ((a σ g1).wp N R B C) ((b σ g1).wp N R B C)) := by
  unfold sIf
  rw [wp_sbind]
  congr
  funext k g1
  cases k <;> rfl
@[simp] theorem wp_set {i : Nat} {e : Ev} : (sSet i e σ g).wp N R B C = (e σ g).wp (fun d g1 => N (σ.set i (some d)) g1) := by unfold sSet; rw [wp_sbind]; rfl
@[simp] theorem wp_par {i j : Nat} {a b : Ev} : (sPar i j (aCons a (aCons b aNil)) σ g).wp N R B C = (a σ g).wp (fun x g1 => (b σ g1).wp fun y g2 => N ((σ.set i (some x)).set j (some y)) g2) := by
  unfold sPar
  rw [wp_sbind]
  simp only [aCons, aNil, wp_bind, wp_ok]
  rfl
@[simp] theorem wp_par3 {i j k : Nat} {a b c : Ev} : (sPar3 i j k (aCons a (aCons b (aCons c aNil))) σ g).wp N R B C = (a σ g).wp (fun x g1 => (b σ g1).wp fun y g2 => (c σ g2).wp fun z g3 => N (((σ.set i (some x)).set j (some y)).set k (some z)) g3) := by
  unfold sPar3
  rw [wp_sbind]
  simp only [aCons, aNil, wp_bind, wp_ok]
  rfl
def gvP (r : Option (Sg × G)) (N : Sg → G → Prop) : Prop := match r with
  | some (σ, g) => N σ g
  | none => False
@[simp] theorem wp_asg {e : Ev} {gv : Gv} : (sAsg e gv σ g).wp N R B C = (e σ g).wp (fun d g1 => gvP (gv d σ g1) N) := by
  unfold sAsg
  rw [wp_sbind]
  congr
  funext d g1
  unfold gvP
  cases gv d σ g1 <;> rfl
@[simp] theorem gvP_name {i : Nat} : gvP (gvName i d σ g) N = N (σ.set i (some d)) g := rfl
@[simp] theorem gvP_tup {n : Nat} {b : Gvs} {ds : List D} : gvP (gvTup n b (.tup ds) σ g) N = (if ds.length = n then gvP (b ds σ g) N else False) := by
  show gvP (if _ then _ else _) N = _
  split <;> rfl
@[simp] theorem gvP_nil : gvP (gvNil [] σ g) N = N σ g := rfl
@[simp] theorem gvP_cons {a : Gv} {b : Gvs} {ds : List D} : gvP (gvCons a b (d :: ds) σ g) N = gvP (a d σ g) (fun σ1 g1 => gvP (b ds σ1 g1) N) := by
  show gvP (match a d σ g with | some (σ1, g1) => b ds σ1 g1 | none => none) N = _
  cases a d σ g <;> rfl
/-- a[i] = e -/
def setP (o i d : D) (g : G) (N : G → Prop) : Prop := match setAt o i d g with
  | some g1 => N g1
  | none => False
@[simp] theorem gvP_sub {o i : Ev} : gvP (gvSub o i d σ g) N = (o σ g).wp fun ov g1 => (i σ g1).wp fun iv g2 => setP ov iv d g2 fun g3 => N σ g3 := by
  unfold gvSub
  cases o σ g <;> first | rfl | skip
  rename_i ov g1
  dsimp only
  show _ = (i σ g1).wp _
  cases i σ g1 <;> first | rfl | skip
  rename_i iv g2
  dsimp only
  show _ = setP ov iv d g2 _
  unfold setP gvP
  cases setAt ov iv d g2 <;> rfl
theorem setP_at {k : Nat} {j : Int} {xs : List D} {M : G → Prop} (n : Nat) (hk : g[k]? = some (.lst xs)) (hn : ixN xs.length j = some n) : setP (.ref k) (.int j) d g M = M (g.set k (.lst (xs.set n d))) := by
  have h1 : lmOf g k = some xs := by unfold lmOf; rw [hk]
  unfold setP setAt
  dsimp only
  rw [h1]
  dsimp only
  rw [hn]
@[simp] theorem eVar_0 {s : Sg} : eVar 0 (some d :: s) g = .ok d g := rfl
@[simp] theorem eVar_succ {i : Nat} {x : Option D} {s : Sg} : eVar (i + 1) (x :: s) g = eVar i s g := rfl
@[simp] theorem eC_ok : eC d σ g = .ok d g := rfl
@[simp] theorem aNil_ok : aNil σ g = .ok [] g := rfl
variable {Q : D → G → Prop} {QB : Bool → G → Prop} {QL : List D → G → Prop} {a b c : Ev} {ta tb : Tv} {t : Av}
@[simp] theorem wp_eOp {f : Op2} : (eOp f a b σ g).wp Q = (a σ g).wp (fun x g1 => (b σ g1).wp fun y g2 => (f x y g2).wp Q) := by unfold eOp; simp only [wp_bind]
@[simp] theorem wp_eUn {f : Op1} : (eUn f a σ g).wp Q = (a σ g).wp (fun x g1 => (f x g1).wp Q) := by unfold eUn; simp only [wp_bind]
@[simp] theorem wp_aCons : (aCons a t σ g).wp QL = (a σ g).wp (fun x g1 => (t σ g1).wp fun xs g2 => QL (x :: xs) g2) := by unfold aCons; simp only [wp_bind, wp_ok]
@[simp] theorem wp_eTup : (eTup t σ g).wp Q = (t σ g).wp (fun xs g1 => small xs = true ∧ Q (.tup xs) g1) := by unfold eTup; simp only [wp_bind, wp_okIf]
@[simp] theorem wp_eLst : (eLst t σ g).wp Q = (t σ g).wp (fun xs g1 => small xs = true ∧ Q (.lst xs) g1) := by unfold eLst; simp only [wp_bind, wp_okIf]
@[simp] theorem wp_eLstM : (eLstM t σ g).wp Q = (t σ g).wp (fun xs g1 => small xs = true ∧ Q (.ref g1.length) (g1 ++ [.lst xs])) := by unfold eLstM; simp only [wp_bind, wp_okIf]
@[simp] theorem wp_eCall {f : Fn} : (eCall f t σ g).wp Q = (t σ g).wp (fun ds g1 => (f ds g1).wp Q) := by unfold eCall; simp only [wp_bind]
@[simp] theorem wp_eIsi {k : TK} : (eIsi k a σ g).wp Q = (a σ g).wp (fun d g1 => (fIsi k d g1).wp Q) := by unfold eIsi; simp only [wp_bind]
def tstP (d : D) (g : G) (Q : Bool → G → Prop) : Prop := match d with
  | .bl c => Q c g
  | _ => False
@[simp] theorem tstP_bl {k : Bool} : tstP (.bl k) g QB = QB k g := rfl
@[simp] theorem wp_eTst : (eTst a σ g).wp QB = (a σ g).wp (fun d g1 => tstP d g1 QB) := by
  unfold eTst
  rw [wp_bind]
  congr
  funext d g1
  cases d <;> rfl
def truP (d : D) (g : G) (Q : Bool → Prop) : Prop := match truth g d with
  | some c => Q c
  | none => False
@[simp] theorem truP_bl {k : Bool} {Q : Bool → Prop} : truP (.bl k) g Q = Q k := rfl
@[simp] theorem truP_int {k : Int} {Q : Bool → Prop} : truP (.int k) g Q = Q (k != 0) := rfl
@[simp] theorem truP_non {Q : Bool → Prop} : truP .non g Q = Q false := rfl
@[simp] theorem truP_tup {xs : List D} {Q : Bool → Prop} : truP (.tup xs) g Q = Q (!xs.isEmpty) := rfl
@[simp] theorem truP_lst {xs : List D} {Q : Bool → Prop} : truP (.lst xs) g Q = Q (!xs.isEmpty) := rfl
@[simp] theorem truP_seq {xs : List D} {Q : Bool → Prop} : truP (.seq xs) g Q = Q (!xs.isEmpty) := rfl
theorem wp_trR : (trR g d).wp QB = truP d g (fun c => QB c g) := by
  unfold trR truP
  cases truth g d <;> rfl
@[simp] theorem wp_eTru : (eTru a σ g).wp QB = (a σ g).wp (fun d g1 => truP d g1 fun c => QB c g1) := by
  unfold eTru
  rw [wp_bind]
  congr
  funext d g1
  exact wp_trR
@[simp] theorem wp_eAndT : (eAndT ta tb σ g).wp QB = (ta σ g).wp (fun k g1 => pick k ((tb σ g1).wp QB) (QB false g1)) := by
  unfold eAndT
  rw [wp_bind]
  congr
  funext k g1
  cases k <;> rfl
@[simp] theorem wp_eOrT : (eOrT ta tb σ g).wp QB = (ta σ g).wp (fun k g1 => pick k (QB true g1) ((tb σ g1).wp QB)) := by
  unfold eOrT
  rw [wp_bind]
  congr
  funext k g1
  cases k <;> rfl
@[simp] theorem wp_eNotT : (eNotT ta σ g).wp QB = (ta σ g).wp (fun k g1 => QB (!k) g1) := by unfold eNotT; simp only [wp_bind, wp_ok]
@[simp] theorem wp_eAnd : (eAnd a b σ g).wp Q = (a σ g).wp (fun d g1 => truP d g1 fun k => pick k ((b σ g1).wp Q) (Q d g1)) := by
  unfold eAnd
  rw [wp_bind]
  congr
  funext d g1
  rw [wp_bind, wp_trR]
  congr
  funext k
  cases k <;> rfl
@[simp] theorem wp_eOr : (eOr a b σ g).wp Q = (a σ g).wp (fun d g1 => truP d g1 fun k => pick k (Q d g1) ((b σ g1).wp Q)) := by
  unfold eOr
  rw [wp_bind]
  congr
  funext d g1
  rw [wp_bind, wp_trR]
  congr
  funext k
  cases k <;> rfl
@[simp] theorem wp_eNot : (eNot a σ g).wp Q = (a σ g).wp (fun d g1 => truP d g1 fun k => Q (.bl (!k)) g1) := by
  unfold eNot
  rw [wp_bind]
  congr
  funext d g1
  rw [wp_bind, wp_trR]
  rfl
@[simp] theorem wp_eIf : (eIf ta a b σ g).wp Q = (ta σ g).wp (fun k g1 => pick k ((a σ g1).wp Q) ((b σ g1).wp Q)) := by
  unfold eIf
  rw [wp_bind]
  congr
  funext k g1
  cases k <;> rfl
@[simp] theorem wp_eChain {f f' : Op2} : (eChain f f' a b c σ g).wp Q = (a σ g).wp (fun x g1 => (b σ g1).wp fun y g2 => (f x y g2).wp fun z g3 => tstP z g3 fun k g4 => pick k ((c σ g4).wp fun w g5 => (f' y w g5).wp Q) (Q (.bl false) g4)) := by
  unfold eChain
  rw [wp_bind]
  congr
  funext x g1
  rw [wp_bind]
  congr
  funext y g2
  rw [wp_bind]
  congr
  funext z g3
  cases z <;> first | rfl | skip
  rename_i k
  cases k
  · rfl
  · show ((c σ g3).bind _).wp Q = _
    rw [wp_bind]
    rfl
/-! operators on ints -/
variable {i j : Int}
@[simp] theorem oAdd_ii : oAdd (.int i) (.int j) g = .ok (.int (i + j)) g := rfl
@[simp] theorem oSub_ii : oSub (.int i) (.int j) g = .ok (.int (i - j)) g := rfl
@[simp] theorem oNeg_i : oNeg (.int i) g = .ok (.int (-i)) g := rfl
@[simp] theorem oMul_ii : oMul (.int i) (.int j) g = okIf (cMul i j) (.int (i * j)) g := rfl
@[simp] theorem oAddI_ii : oAddI (.int i) (.int j) g = .ok (.int (i + j)) g := rfl
theorem oMod_p (h : 0 < j) : oMod (.int i) (.int j) g = .ok (.int (i % j)) g := by
  show (if decide (j ≠ 0) = true then _ else _) = _
  rw [if_pos (decide_eq_true (by omega)), Int.fmod_eq_emod_of_nonneg i (by omega)]
theorem lg_le {i : Int} (h : i.natAbs < 2 ^ 512) : i.natAbs.log2 < 513 := by
  by_cases z : i.natAbs = 0
  · rw [z]; decide
  · have := (Nat.log2_lt z).2 h
    omega
theorem big_abs {i : Int} (h : -115792089237316195423570985008687907853269984665640564039457584007913129639936 ≤ i) (h' : i ≤ 115792089237316195423570985008687907853269984665640564039457584007913129639936) : i.natAbs < 2 ^ 512 := by
  have : i.natAbs ≤ 115792089237316195423570985008687907853269984665640564039457584007913129639936 := by omega
  exact Nat.lt_of_le_of_lt this (by decide +kernel)
theorem cMul_b (h : -115792089237316195423570985008687907853269984665640564039457584007913129639936 ≤ i) (h' : i ≤ 115792089237316195423570985008687907853269984665640564039457584007913129639936) (k : -115792089237316195423570985008687907853269984665640564039457584007913129639936 ≤ j) (k' : j ≤ 115792089237316195423570985008687907853269984665640564039457584007913129639936) : cMul i j = true := by
  have h1 := lg_le (big_abs h h')
  have h2 := lg_le (big_abs k k')
  exact decide_eq_true (by omega)
theorem oFdiv_p (h : 0 < j) (h' : j ≤ 115792089237316195423570985008687907853269984665640564039457584007913129639936) : oFdiv (.int i) (.int j) g = .ok (.int (i / j)) g := by
  show (if cDiv i j = true then _ else _) = _
  have h1 := lg_le (i := j) (big_abs (by omega) h')
  have h2 : cDiv i j = true := by
    unfold cDiv
    rw [decide_eq_true (by omega), decide_eq_true (by omega)]
    rfl
  rw [if_pos h2, Int.fdiv_eq_ediv_of_nonneg i (by omega)]
theorem oPow_c (h : cPow i j = true) : oPow (.int i) (.int j) g = .ok (.int (i ^ j.toNat)) g := if_pos h
theorem oShl_c (h : cShl i j = true) : oShl (.int i) (.int j) g = .ok (.int (i * 2 ^ j.toNat)) g := if_pos h
@[simp] theorem oLt_ii : oLt (.int i) (.int j) g = .ok (.bl (decide (i < j))) g := rfl
@[simp] theorem oLe_ii : oLe (.int i) (.int j) g = .ok (.bl (decide (i ≤ j))) g := rfl
@[simp] theorem oGt_ii : oGt (.int i) (.int j) g = .ok (.bl (decide (j < i))) g := rfl
@[simp] theorem oGe_ii : oGe (.int i) (.int j) g = .ok (.bl (decide (j ≤ i))) g := rfl
@[simp] theorem oEq_ii : oEq (.int i) (.int j) g = .ok (.bl (decide (i = j))) g := rfl
@[simp] theorem oNe_ii : oNe (.int i) (.int j) g = .ok (.bl (!decide (i = j))) g := rfl
@[simp] theorem oEq_bb {p q : Bool} : oEq (.bl p) (.bl q) g = .ok (.bl (decide (p = q))) g := rfl
@[simp] theorem oNe_bb {p q : Bool} : oNe (.bl p) (.bl q) g = .ok (.bl (!decide (p = q))) g := rfl
@[simp] theorem oAnd_ii : oAnd (.int i) (.int j) g = .ok (.int (Builtin.bitAnd i j)) g := rfl
@[simp] theorem oOr_ii : oOr (.int i) (.int j) g = .ok (.int (Builtin.bitOr i j)) g := rfl
@[simp] theorem oXor_ii : oXor (.int i) (.int j) g = .ok (.int (Builtin.bitXor i j)) g := rfl
@[simp] theorem fInt_i : fInt [.int i] g = .ok (.int i) g := rfl
@[simp] theorem fInt_b {k : Bool} : fInt [.bl k] g = .ok (.int (if k then 1 else 0)) g := rfl
@[simp] theorem fAbs_i : fAbs [.int i] g = .ok (.int (if i < 0 then -i else i)) g := rfl
@[simp] theorem fMax2_ii : fMax2 [.int i, .int j] g = .ok (.int (if j > i then j else i)) g := rfl
@[simp] theorem fMin2_ii : fMin2 [.int i, .int j] g = .ok (.int (if j < i then j else i)) g := rfl
@[simp] theorem fLen_tup {xs : List D} : fLen [.tup xs] g = .ok (.int xs.length) g := rfl
@[simp] theorem fLen_lst {xs : List D} : fLen [.lst xs] g = .ok (.int xs.length) g := rfl
@[simp] theorem fLen_seq {xs : List D} : fLen [.seq xs] g = .ok (.int xs.length) g := rfl
theorem oIx_at {x : D} {xs : List D} (hs : ∀ z, x ≠ .str z) (hx : sqOf g x = some xs) (hd : atI xs i = some d) : oIx x (.int i) g = .ok d g := by
  unfold oIx
  cases x <;> first | exact absurd rfl (hs _) | (dsimp only; rw [hx]; dsimp only; rw [hd])
theorem atI_n {xs : List D} {n : Nat} (hn : xs[n]? = some d) (h : i = n) : atI xs i = some d := by
  subst h
  have hl : n < xs.length := by
    by_cases z : n < xs.length
    · exact z
    · rw [List.getElem?_eq_none (by omega)] at hn; cases hn
  unfold atI
  rw [show ixN xs.length (n : Int) = some n by
    unfold ixN
    simp
    omega]
  exact hn
theorem oIx_lst {xs : List D} {n : Nat} (hn : xs[n]? = some d) (h : i = n) : oIx (.lst xs) (.int i) g = .ok d g := oIx_at (fun _ e => nomatch e) rfl (atI_n hn h)
theorem oIx_tup {xs : List D} {n : Nat} (hn : xs[n]? = some d) (h : i = n) : oIx (.tup xs) (.int i) g = .ok d g := oIx_at (fun _ e => nomatch e) rfl (atI_n hn h)
theorem oIx_seq {xs : List D} {n : Nat} (hn : xs[n]? = some d) (h : i = n) : oIx (.seq xs) (.int i) g = .ok d g := oIx_at (fun _ e => nomatch e) rfl (atI_n hn h)
theorem oIx_ref {xs : List D} {k n : Nat} (hk : g[k]? = some (.lst xs)) (hn : xs[n]? = some d) (h : i = n) : oIx (.ref k) (.int i) g = .ok d g :=
  oIx_at (fun _ e => nomatch e) (by show lsOf g (.ref k) = some xs; unfold lsOf; simp [lmOf, hk]) (atI_n hn h)
/-! calls -/
theorem settle_same {n : Nat} (h : g.length = n) : settle n d g = .ok d g := if_pos h
theorem settle_0 {k : Bool} : (settle 0 (.bl k) g).wp fun d _ => d = .bl k := by
  unfold settle
  split
  · rfl
  · rw [if_pos (Nat.zero_le _)]
    rfl
theorem wp_callD {n tot : Nat} {bd : Sx} {ds : List D} (hl : ds.length = n) (h : (bd (ds.map some ++ List.replicate (tot - n) none) g).wp (fun _ g1 => (settle g.length .non g1).wp Q) (fun d g1 => (settle g.length d g1).wp Q) (fun _ _ => False) fun _ _ => False) : (callD n tot bd ds g).wp Q := by
  unfold callD
  rw [if_pos hl]
  revert h
  cases bd (ds.map some ++ List.replicate (tot - n) none) g <;> intro h <;> first | exact h | exact h.elim
theorem wp_callS {n tot : Nat} {bd : Sx} {ds : List D} (hl : ds.length = n) (h : (bd (ds.map some ++ List.replicate (tot - n) none) g).wp (fun _ g1 => g1.length = g.length ∧ Q .non g1) (fun d g1 => g1.length = g.length ∧ Q d g1) (fun _ _ => False) fun _ _ => False) : (callD n tot bd ds g).wp Q :=
  wp_callD hl (SRes.wp_mono h (fun _ _ q => by rw [settle_same q.1]; exact q.2) (fun _ _ q => by rw [settle_same q.1]; exact q.2) (fun _ _ q => q) fun _ _ q => q)
theorem wp_callK {n tot : Nat} {bd : Sx} {ds : List D} (hl : ds.length = n) (h : (bd (ds.map some ++ List.replicate (tot - n) none) g).wp (fun _ g1 => Q .non g1) Q (fun _ _ => False) fun _ _ => False) : (callK n tot bd ds g).wp Q := by
  unfold callK
  rw [if_pos hl]
  revert h
  cases bd (ds.map some ++ List.replicate (tot - n) none) g <;> intro h <;> first | exact h | exact h.elim
/-! loops -/
theorem wp_next {r : SRes} {k : Sx} : (sNext r k).wp N R B C = r.wp (fun σ g => (k σ g).wp N R B C) R (fun σ g => N σ g) (fun σ g => (k σ g).wp N R B C) := by
  cases r <;> rfl
theorem wp_forL {gv : Gv} {bd : Sx} (I : Nat → Sg → G → Prop) : ∀ (xs : List D) (n : Nat) (σ : Sg) (g : G), I n σ g →
    (∀ k σ g d, xs[k]? = some d → I (n + k) σ g → gvP (gv d σ g) fun σ1 g1 => (bd σ1 g1).wp (I (n + k + 1)) R N (I (n + k + 1))) →
    (∀ σ g, I (n + xs.length) σ g → N σ g) → (sForL gv bd xs σ g).wp N R B C
  | [], n, σ, g, h, _, f => f σ g h
  | d :: ds, n, σ, g, h, k, f => by
    have h1 := k 0 σ g d rfl h
    unfold sForL
    unfold gvP at h1
    revert h1
    cases gv d σ g with
    | none => exact fun h => h.elim
    | some p =>
      obtain ⟨σ1, g1⟩ := p
      intro h1
      show (sNext (bd σ1 g1) (sForL gv bd ds)).wp N R B C
      rw [wp_next]
      have rest : ∀ σ2 g2, I (n + 1) σ2 g2 → (sForL gv bd ds σ2 g2).wp N R B C := fun σ2 g2 h2 =>
        wp_forL I ds (n + 1) σ2 g2 h2 (fun k' σ g d hd hI => by
          have := k (k' + 1) σ g d (by simpa using hd) (by rw [show n + (k' + 1) = n + 1 + k' by omega]; exact hI)
          rw [show n + (k' + 1) = n + 1 + k' by omega] at this
          exact this) (fun σ g hI => f σ g (by rw [List.length_cons, show n + (ds.length + 1) = n + 1 + ds.length by omega]; exact hI))
      exact SRes.wp_mono h1 rest (fun _ _ q => q) (fun _ _ q => q) rest
/-- a loop over a fixed list -/
theorem wp_forI {iv : Ivv} {gv : Gv} {bd : Sx} (I : Nat → Sg → G → Prop) (h : (iv σ g).wp fun v g1 => ∃ xs, v = .fix xs ∧ I 0 σ g1 ∧ (∀ k σ g d, xs[k]? = some d → I k σ g → gvP (gv d σ g) fun σ1 g1 => (bd σ1 g1).wp (I (k + 1)) R N (I (k + 1))) ∧ ∀ σ g, I xs.length σ g → N σ g) :
    (sFor iv gv bd σ g).wp N R B C := by
  unfold sFor
  rw [wp_sbind]
  refine Res.wp_mono h fun v g1 ⟨xs, e, h0, h1, h2⟩ => ?_
  subst e
  exact wp_forL I xs 0 σ g1 h0 (fun k σ g d hd hI => by rw [Nat.zero_add] at hI ⊢; exact h1 k σ g d hd hI) fun σ g hI => h2 σ g (by rw [Nat.zero_add] at hI; exact hI)
theorem wp_for {iv : Ivv} {gv : Gv} {bd : Sx} (I : Nat → Sg → G → Prop) (P : List D → Prop) (h : (iv σ g).wp fun v g1 => ∃ xs, v = .fix xs ∧ P xs ∧ I 0 σ g1)
    (k : ∀ xs k σ g d, P xs → xs[k]? = some d → I k σ g → gvP (gv d σ g) fun σ1 g1 => (bd σ1 g1).wp (I (k + 1)) R N (I (k + 1))) (f : ∀ xs σ g, P xs → I xs.length σ g → N σ g) :
    (sFor iv gv bd σ g).wp N R B C :=
  wp_forI I (Res.wp_mono h fun v g1 ⟨xs, e, p, h0⟩ => ⟨xs, e, h0, fun n σ g d => k xs n σ g d p, fun σ g => f xs σ g p⟩)
theorem wp_while {c : Tv} {bd : Sx} (I : Nat → Sg → G → Prop) (fuel n : Nat) (hn : n < fuel) (σ : Sg) (g : G) (h : I n σ g)
    (k : ∀ n σ g, I n σ g → (c σ g).wp fun q g1 => pick q ((bd σ g1).wp (fun σ2 g2 => ∃ m, m < n ∧ I m σ2 g2) R N (fun σ2 g2 => ∃ m, m < n ∧ I m σ2 g2)) (N σ g1)) : (sxWhile c bd fuel σ g).wp N R B C := by
  induction fuel generalizing n σ g with
  | zero => omega
  | succ f ih =>
    unfold sxWhile
    rw [wp_sbind]
    refine Res.wp_mono (k n σ g h) fun q g1 hq => ?_
    cases q with
    | false => exact hq
    | true =>
      have hq' : (bd σ g1).wp (fun σ2 g2 => ∃ m, m < n ∧ I m σ2 g2) R N (fun σ2 g2 => ∃ m, m < n ∧ I m σ2 g2) := hq
      revert hq'
      cases bd σ g1 <;> intro hq' <;> first | (obtain ⟨m, hm, hI⟩ := hq'; exact ih m (by omega) _ _ hI) | exact hq' | exact hq'.elim
def intP (d : D) (P : Int → Prop) : Prop := match d with
  | .int j => P j
  | _ => False
@[simp] theorem intP_i {P : Int → Prop} : intP (.int i) P = P i := rfl
@[simp] theorem wp_iRange1 {QI : Iv → G → Prop} : (iRange1 (aCons a aNil) σ g).wp QI = (a σ g).wp (fun x g1 => intP x fun j => smallI j = true ∧ QI (.fix (rangeD 0 j.toNat)) g1) := by
  unfold iRange1
  simp only [wp_bind, wp_aCons, aNil_ok, wp_ok]
  congr
  funext x g1
  cases x <;> first | rfl | exact wp_okIf
@[simp] theorem wp_iRange2 {QI : Iv → G → Prop} : (iRange2 (aCons a (aCons b aNil)) σ g).wp QI = (a σ g).wp (fun x g1 => (b σ g1).wp fun y g2 => intP x fun i => intP y fun j => (smallI i && smallI j) = true ∧ QI (.fix (rangeD i (j - i).toNat)) g2) := by
  unfold iRange2
  simp only [wp_bind, wp_aCons, aNil_ok, wp_ok]
  congr
  funext x g1
  congr
  funext y g2
  cases x <;> cases y <;> first | rfl | exact wp_okIf
@[simp] theorem wp_iSeq {QI : Iv → G → Prop} : (iSeq a σ g).wp QI = (a σ g).wp (fun x g1 => (ivOf x g1).wp QI) := by
  unfold iSeq
  simp only [wp_bind]
@[simp] theorem ivOf_tup {xs : List D} : ivOf (.tup xs) g = .ok (.fix xs) g := rfl
@[simp] theorem ivOf_lst {xs : List D} : ivOf (.lst xs) g = .ok (.fix xs) g := rfl
@[simp] theorem ivOf_seq {xs : List D} : ivOf (.seq xs) g = .ok (.fix xs) g := rfl
/-- a comprehension without tests over a fixed list, each turn with a known answer -/
theorem lcL_map {gv : Gv} {te : Ev} {s : Sg} (F : D → D) : ∀ (xs : List D) (g : G), (∀ d ∈ xs, ∃ s1, gv d s g = some (s1, g) ∧ te s1 g = .ok (F d) g) → lcL gv tvYes te s xs g = .ok (xs.map F) g
  | [], g, _ => rfl
  | d :: ds, g, h => by
    obtain ⟨s1, h1, h2⟩ := h d (List.mem_cons_self ..)
    have ih := lcL_map F ds g fun e he => h e (List.mem_cons_of_mem _ he)
    unfold lcL
    have e : lcT gv tvYes te s d g = .ok (some (F d)) g := by
      unfold lcT
      rw [h1]
      show (match te s1 g with | .ok y g3 => Res.ok (some y) g3 | _ => .no) = _
      rw [h2]
    rw [e]
    dsimp only
    rw [ih]
    rfl
@[simp] theorem wp_eLc {iv : Ivv} {gv : Gv} {tt : Tv} {te : Ev} {vs : List Nat} : (eLc iv gv tt te vs σ g).wp Q = (iv σ g).wp (fun v g1 => (noEx (lcAll gv tt te (wipeD σ vs) v g1)).wp fun ys g2 => small ys = true ∧ Q (.lst ys) g2) := by
  unfold eLc
  simp only [wp_bind, wp_okIf]
@[simp] theorem wp_noEx {α : Type} {r : Res α} {P : α → G → Prop} : (noEx r).wp P = r.wp P := by cases r <;> rfl
@[simp] theorem wp_lcL_nil {gv : Gv} {tt : Tv} {te : Ev} {s : Sg} : (lcL gv tt te s [] g).wp QL = QL [] g := rfl
theorem lcL_cons {gv : Gv} {tt : Tv} {te : Ev} {s : Sg} {ds : List D} : lcL gv tt te s (d :: ds) g = match lcT gv tt te s d g with
  | .ok o g1 => lcPut o (lcL gv tt te s ds g1)
  | _ => .no := rfl
@[simp] theorem wp_lcL_cons {gv : Gv} {tt : Tv} {te : Ev} {s : Sg} {ds : List D} : (lcL gv tt te s (d :: ds) g).wp QL = gvP (gv d s g) fun s1 g1 => (tt s1 g1).wp fun k g2 =>
    pick k ((te s1 g2).wp fun y g3 => (lcL gv tt te s ds g3).wp fun ys g4 => QL (y :: ys) g4) ((lcL gv tt te s ds g2).wp QL) := by
  rw [lcL_cons]
  unfold lcT
  cases gv d s g with
  | none => rfl
  | some p =>
    obtain ⟨s1, g1⟩ := p
    show _ = (tt s1 g1).wp _
    dsimp only
    cases tt s1 g1 with
    | no => rfl
    | ex e g2 => rfl
    | ok k g2 =>
      cases k with
      | false => rfl
      | true =>
        dsimp only
        show _ = (te s1 g2).wp _
        cases te s1 g2 with
        | no => rfl
        | ex e g3 => rfl
        | ok y g3 =>
          dsimp only
          show (lcPut (some y) _).wp QL = (lcL gv tt te s ds g3).wp _
          unfold lcPut
          dsimp only
          cases lcL gv tt te s ds g3 <;> rfl
@[simp] theorem lcAll_fix {gv : Gv} {tt : Tv} {te : Ev} {s : Sg} {xs : List D} : lcAll gv tt te s (.fix xs) g = lcL gv tt te s xs g := rfl
@[simp] theorem wipeD_nil : wipeD σ [] = σ := by rfl
@[simp] theorem wipeD_cons {i : Nat} {is : List Nat} : wipeD σ (i :: is) = (wipeD σ is).set i none := by rfl
@[simp] theorem tvYes_ok : tvYes σ g = .ok true g := rfl
/-! a cell that is changed -/
theorem get_set {k : Nat} {c c' : Cell} (h : g[k]? = some c') : (g.set k c)[k]? = some c := by
  have hl : k < g.length := by
    by_cases z : k < g.length
    · exact z
    · rw [List.getElem?_eq_none (by omega)] at h; cases h
  rw [List.getElem?_set_self hl]
end
theorem mul_bd {a b A B : Int} (h1 : 0 ≤ a) (h2 : a < A) (h3 : 0 ≤ b) (h4 : b < B) : 0 ≤ a * b ∧ a * b < A * B := by
  refine ⟨Int.mul_nonneg h1 h3, ?_⟩
  have e1 : a * b ≤ a * B := Int.mul_le_mul_of_nonneg_left (by omega) h1
  have e2 : a * B < A * B := Int.mul_lt_mul_of_pos_right h2 (by omega)
  omega
end AW
/-! Aq: plain rules for lists of whole numbers, slices, sums, comprehensions with a test. -/
namespace AW
open PySem PySem.Spec L2
abbrev natsD (L : List Nat) : List D := L.map fun (n : Nat) => D.int (n : Int)
section
variable {N B C : Sg → G → Prop} {R : D → G → Prop} {σ : Sg} {g : G} {d : D} {Q : D → G → Prop} {QL : List D → G → Prop} {a : Ev}
theorem ok_of {α : Type} {r : Res α} {x : α} (h : r.wp fun y g1 => y = x ∧ g1 = g) : r = .ok x g := by
  obtain ⟨y, g1, h1, h2, h3⟩ := Res.wp_eq h
  rw [h1, h2, h3]
@[simp] theorem wp_eSl {lo hi : Ov} : (eSl a lo hi σ g).wp Q = (a σ g).wp fun x g1 => (lo σ g1).wp fun l g2 => (hi σ g2).wp fun h g3 => (slD g3 x l h).wp Q := by
  unfold eSl
  simp only [wp_bind]
@[simp] theorem oNo_ok : oNo σ g = .ok none g := rfl
@[simp] theorem wp_oPart {QO : Option Int → G → Prop} : (oPart a σ g).wp QO = (a σ g).wp fun x g1 => intP x fun i => QO (some i) g1 := by
  unfold oPart
  rw [wp_bind]
  congr
  funext x g1
  cases x <;> rfl
theorem cut_to {xs : List D} {n : Nat} {i : Int} (e : i = n) (h : n ≤ xs.length) : cutD xs none (some i) = xs.take n := by
  subst e
  unfold cutD
  rw [HT.sIx_nat]
  show (xs.drop 0).take (min n xs.length - 0) = _
  rw [Nat.min_eq_left h]
  rfl
theorem cut_from {xs : List D} {n : Nat} {i : Int} (e : i = n) (h : n ≤ xs.length) : cutD xs (some i) none = xs.drop n := by
  subst e
  unfold cutD
  rw [HT.sIx_nat, Nat.min_eq_left h]
  show (xs.drop n).take (xs.length - n) = _
  rw [List.take_of_length_le (by rw [List.length_drop]; exact Nat.le_refl _)]
@[simp] theorem slD_lst {xs : List D} {l h : Option Int} : slD g (.lst xs) l h = .ok (.lst (cutD xs l h)) g := rfl
@[simp] theorem slD_tup {xs : List D} {l h : Option Int} : slD g (.tup xs) l h = .ok (.tup (cutD xs l h)) g := rfl
theorem oAdd_ll {xs ys : List D} : oAdd (.lst xs) (.lst ys) g = okIf (small (xs ++ ys)) (.lst (xs ++ ys)) g := rfl
theorem small_of {xs : List D} {n : Nat} (h : xs.length = n) (h2 : n ≤ 100000) : small xs = true := by
  unfold small
  rw [h]
  exact decide_eq_true h2
theorem intsOf_f {L : List Nat} {f : Nat → Int} : intsOf (L.map fun n => D.int (f n)) = some (L.map f) := by
  induction L with
  | nil => rfl
  | cons n L ih =>
    show (match intsOf (L.map fun n => D.int (f n)) with | some is => some (f n :: is) | none => none) = _
    rw [ih]
    rfl
theorem lcL_F {gv : Gv} {tt : Tv} {te : Ev} {s : Sg} (F : D → Option D) : ∀ (xs : List D) (g : G), (∀ d ∈ xs, gvP (gv d s g) fun s1 g1 => g1 = g ∧ (tt s1 g).wp fun k g2 => g2 = g ∧ k = (F d).isSome ∧ (k = true → (te s1 g).wp fun y g3 => g3 = g ∧ F d = some y)) → lcL gv tt te s xs g = .ok (xs.filterMap F) g
  | [], g, _ => rfl
  | d :: ds, g, h => by
    refine ok_of ?_
    rw [wp_lcL_cons]
    have h1 := h d (List.mem_cons_self ..)
    have ih := lcL_F F ds g fun e he => h e (List.mem_cons_of_mem _ he)
    unfold gvP at h1 ⊢
    revert h1
    cases gv d s g with
    | none => exact fun h => h
    | some p =>
      obtain ⟨s1, g1⟩ := p
      rintro ⟨rfl, h1⟩
      refine Res.wp_mono h1 fun k g2 ⟨e1, e2, h2⟩ => ?_
      subst e1
      cases k with
      | true =>
        refine Res.wp_mono (h2 rfl) fun y g3 ⟨e3, e4⟩ => ?_
        subst e3
        rw [ih, List.filterMap_cons, e4]
        exact ⟨rfl, rfl⟩
      | false =>
        show (lcL gv tt te s ds g2).wp _
        rw [ih, List.filterMap_cons]
        cases hF : F d with
        | none => exact ⟨rfl, rfl⟩
        | some y => rw [hF] at e2; cases e2
end
/-- a comprehension over a range that keeps its own number -/
def keepF (F : Nat → Bool) (d : D) : Option D := match d with
  | .int i => if F i.toNat then some d else none
  | _ => none
theorem rangeD_filter (F : Nat → Bool) : ∀ (n : Nat) (lo : Nat), (rangeD (lo : Int) n).filterMap (keepF F) = natsD ((List.range' lo n).filter F)
  | 0, lo => rfl
  | n + 1, lo => by
    have ih := rangeD_filter F n (lo + 1)
    have e : ((lo + 1 : Nat) : Int) = (lo : Int) + 1 := by omega
    rw [e] at ih
    show ((D.int lo) :: rangeD ((lo : Int) + 1) n).filterMap _ = _
    rw [List.filterMap_cons, List.range'_succ, List.filter_cons, ih]
    have e2 : keepF F (D.int (lo : Int)) = if F lo then some (D.int (lo : Int)) else none := by
      unfold keepF
      dsimp only
      rw [Int.toNat_natCast]
    rw [e2]
    cases F lo <;> rfl
theorem pys_nats (L : List Nat) : D.pys (natsD L) = some (L.map fun (n : Nat) => PyData.int (n : Int)) := by
  induction L with
  | nil => exact D.pys.eq_1
  | cons n L ih =>
    show D.pys (D.int n :: natsD L) = _
    rw [D.pys.eq_2, ih, D.py.eq_3]
    rfl
theorem fSum_nats {L : List Nat} {f : Nat → Int} {g : G} : fSum [.lst (L.map fun n => D.int (f n))] g = .ok (.int ((L.map f).sum)) g := by
  show (match intsOf (L.map fun n => D.int (f n)) with | some is => Res.ok (D.int (isum is)) g | none => .no) = _
  rw [intsOf_f]
  dsimp only
  rw [isum_eq]
theorem canLay_nats (L : List Nat) : PyData.canLayAll0 (L.map fun (n : Nat) => PyData.int (n : Int)) = true := by
  induction L with
  | nil => rw [List.map_nil, PyData.canLayAll0.eq_1]
  | cons n L ih => rw [List.map_cons, PyData.canLayAll0.eq_2, ih, PyData.canLay0.eq_3]; rfl
theorem depth_nats (L : List Nat) : PyData.depthAll (L.map fun (n : Nat) => PyData.int (n : Int)) = 0 := by
  induction L with
  | nil => rw [List.map_nil, PyData.depthAll]
  | cons n L ih => rw [List.map_cons, PyData.depthAll, ih]; simp [PyData.depth]
theorem eqv_nats : ∀ (L M : List Nat), PyData.eqvAll (L.map fun (n : Nat) => PyData.int (n : Int)) (M.map fun (n : Nat) => PyData.int (n : Int)) = decide (L = M)
  | [], [] => by rw [List.map_nil, PyData.eqvAll]; rfl
  | [], m :: M => by rw [List.map_nil, List.map_cons, PyData.eqvAll]; rfl
  | l :: L, [] => by rw [List.map_nil, List.map_cons, PyData.eqvAll]; rfl
  | l :: L, m :: M => by
    rw [List.map_cons, List.map_cons, PyData.eqvAll, eqv_nats L M, PyData.eqv]
    rw [Bool.eq_iff_iff, Bool.and_eq_true, beq_iff_eq, decide_eq_true_iff, decide_eq_true_iff, List.cons.injEq]
    constructor
    · rintro ⟨h1, h2⟩; exact ⟨by omega, h2⟩
    · rintro ⟨h1, h2⟩; exact ⟨by omega, h2⟩
theorem shaped_nats (L : List Nat) : SeqAt.shaped (.list (L.map fun (n : Nat) => PyData.int (n : Int))) = true := by
  unfold SeqAt.shaped
  rw [PyData.canLay0, canLay_nats, PyData.depth, depth_nats]
  rfl
theorem eqD_nats {g : G} {L M : List Nat} : eqD g (.lst (natsD L)) (.lst (natsD M)) = some (decide (L = M)) := by
  have h : ∀ L : List Nat, pyG g (.lst (natsD L)) = some (.list (L.map fun (n : Nat) => PyData.int (n : Int))) := fun L => by
    show D.py (.lst (natsD L)) = _
    rw [D.py, pys_nats]
  show (match pyG g (.lst (natsD L)), pyG g (.lst (natsD M)) with | some p, some q => if (SeqAt.shaped p && SeqAt.shaped q) = true then some (PyData.eqv p q) else none | _, _ => none) = _
  rw [h, h]
  dsimp only
  rw [shaped_nats, shaped_nats, PyData.eqv, eqv_nats]
  rfl
theorem oEq_nats {g : G} {L M : List Nat} : oEq (.lst (natsD L)) (.lst (natsD M)) g = .ok (.bl (decide (L = M))) g := by
  unfold oEq
  rw [eqD_nats]
theorem oNe_nats {g : G} {L M : List Nat} : oNe (.lst (natsD L)) (.lst (natsD M)) g = .ok (.bl (!decide (L = M))) g := by
  unfold oNe
  rw [eqD_nats]
theorem eqD_pair {g : G} {a b c d : Int} : eqD g (.tup [.int a, .int b]) (.tup [.int c, .int d]) = some (decide (a = c) && decide (b = d)) := by
  have h : ∀ a b : Int, pyG g (.tup [.int a, .int b]) = some (.tuple [.int a, .int b]) := fun a b => rfl
  have hs : ∀ a b : Int, SeqAt.shaped (.tuple [.int a, .int b]) = true := fun a b => rfl
  show (match pyG g (.tup [.int a, .int b]), pyG g (.tup [.int c, .int d]) with | some p, some q => if (SeqAt.shaped p && SeqAt.shaped q) = true then some (PyData.eqv p q) else none | _, _ => none) = _
  rw [h, h]
  dsimp only
  rw [hs, hs]
  have e : PyData.eqv (.tuple [.int a, .int b]) (.tuple [.int c, .int d]) = (decide (a = c) && decide (b = d)) := by
    show ((a == c) && ((b == d) && true)) = _
    rw [Bool.and_true]
    rfl
  rw [e]
  rfl
theorem oEq_pair {g : G} {a b c d : Int} : oEq (.tup [.int a, .int b]) (.tup [.int c, .int d]) g = .ok (.bl (decide (a = c) && decide (b = d))) g := by
  unfold oEq
  rw [eqD_pair]
theorem oNe_pair {g : G} {a b c d : Int} : oNe (.tup [.int a, .int b]) (.tup [.int c, .int d]) g = .ok (.bl (!(decide (a = c) && decide (b = d)))) g := by
  unfold oNe
  rw [eqD_pair]
theorem nats_keep (F : Nat → Bool) : ∀ L : List Nat, (natsD L).filterMap (keepF F) = natsD (L.filter F)
  | [] => rfl
  | n :: L => by
    have ih := nats_keep F L
    show ((D.int (n : Int)) :: natsD L).filterMap _ = _
    have e2 : keepF F (D.int (n : Int)) = if F n then some (D.int (n : Int)) else none := by
      unfold keepF
      dsimp only
      rw [Int.toNat_natCast]
    rw [List.filterMap_cons, List.filter_cons, ih, e2]
    cases F n <;> rfl
theorem flat_nats (L : List Nat) : (natsD L).all flatD = true := by
  rw [List.all_eq_true]
  intro d hd
  obtain ⟨n, _, rfl⟩ := List.mem_map.1 hd
  rfl
theorem inF_nats (x : Nat) (L : List Nat) : inF (.int (x : Int)) (natsD L) = decide (x ∈ L) := by
  unfold inF
  rw [Bool.eq_iff_iff, List.any_eq_true, decide_eq_true_iff]
  constructor
  · rintro ⟨d, hd, h⟩
    obtain ⟨n, hn, rfl⟩ := List.mem_map.1 hd
    have h2 : ((n : Int) == (x : Int)) = true := h
    rw [beq_iff_eq] at h2
    have : n = x := by omega
    rwa [← this]
  · intro h
    exact ⟨_, List.mem_map.2 ⟨x, h, rfl⟩, by show ((x : Int) == (x : Int)) = true; exact beq_self_eq_true _⟩
theorem oIn_nats {x : Nat} {L : List Nat} {g : G} : oIn false (.int (x : Int)) (.lst (natsD L)) g = .ok (.bl (decide (x ∈ L))) g := by
  have e : inD g (.int (x : Int)) (.lst (natsD L)) = some (false, decide (x ∈ L)) := by
    show (if (true && (natsD L).all flatD) = true then some (false, inF (.int (x : Int)) (natsD L)) else _) = _
    rw [flat_nats, inF_nats]
    rfl
  unfold oIn
  rw [e]
  rfl
section
variable {N B C : Sg → G → Prop} {R : D → G → Prop} {σ : Sg} {g : G}
theorem wp_forF {iv : Ivv} {gv : Gv} {bd : Sx} (h : (iv σ g).wp fun v g1 => ∃ xs, v = .fix xs ∧ (sForL gv bd xs σ g1).wp N R B C) : (sFor iv gv bd σ g).wp N R B C := by
  unfold sFor
  rw [wp_sbind]
  refine Res.wp_mono h fun v g1 ⟨xs, e, h1⟩ => ?_
  subst e
  exact h1
@[simp] theorem wp_forL_nil {gv : Gv} {bd : Sx} : (sForL gv bd [] σ g).wp N R B C = N σ g := rfl
@[simp] theorem wp_forL_cons {gv : Gv} {bd : Sx} {d : D} {ds : List D} : (sForL gv bd (d :: ds) σ g).wp N R B C = gvP (gv d σ g) fun σ1 g1 => (bd σ1 g1).wp (fun σ2 g2 => (sForL gv bd ds σ2 g2).wp N R B C) R N (fun σ2 g2 => (sForL gv bd ds σ2 g2).wp N R B C) := by
  show (match gv d σ g with | some (σ1, g1) => sNext (bd σ1 g1) (sForL gv bd ds) | none => SRes.no).wp N R B C = _
  unfold gvP
  cases gv d σ g with
  | none => rfl
  | some q => exact wp_next
end
end AW
namespace LW
open PySem PySem.Spec L2 AW
def top (i : Nat) : Stmt := PySem.Challenge.pw_squaretimes_k78_whole_centres.main.body.getD i (.Pass ⟨0, 0, 0, 0⟩)
abbrev s_law_pail : Stmt := top 17
abbrev n_law_pail : List Str := ["_law_script", "_law_at", "_law_cell", "_law_great", "_law_seed"]
def b_law_pail : Sx := (sCons (sSet 2 (eIf (eTst (eOp oLt (eVar 1) (eCall fLen (aCons (eVar 0) aNil)))) (eCall fInt (aCons (eOp oIx (eVar 0) (eVar 1)) aNil)) (eOp oAdd (eOp oMul (eC (.int 89)) (eVar 1)) (eC (.int 61)))))
  (sCons (sSet 3 (eOp oMod (eCall fAbs (aCons (eVar 2) aNil)) (eOp oPow (eOp oPow (eC (.int 10)) (eC (.int 51))) (eC (.int 6)))))
  (sCons (sSet 4 (eOp oAdd (eOp oAdd (eOp oAdd (eOp oMul (eOp oMod (eVar 3) (eC (.int 2305843009213693921))) (eC (.int 67))) (eOp oMul (eC (.int 1511)) (eVar 1))) (eOp oMul (eC (.int 43)) (eCall fInt (aCons (eOp oLt (eVar 2) (eC (.int 0))) aNil)))) (eC (.int 31))))
  (sCons (sRet (eLstM (aCons (eCall fMax2 (aCons (eC (.int 0)) (aCons (eOp oSub (eVar 3) (eOp oPow (eC (.int 10)) (eC (.int 16)))) aNil))) (aCons (eVar 4) (aCons (eC (.int 0)) aNil)))))
  sNil))))
def f_law_pail : Fn := callK 2 5 b_law_pail
abbrev s_law_dip : Stmt := top 18
abbrev n_law_dip : List Str := ["_law_pail_here", "_law_total", "_law_one", "_law_two", "_law_found"]
def b_law_dip : Sx := (sCons (sIf (eTst (eOp oGt (eOp oIx (eVar 0) (eC (.int 0))) (eC (.int 0))))
  (sCons (sSet 4 (eOp oMod (eCall fInt (aCons (eOp oIx (eVar 0) (eC (.int 0))) aNil)) (eVar 1)))
  (sCons (sAsg (eOp oFdiv (eOp oIx (eVar 0) (eC (.int 0))) (eVar 1)) (gvSub (eVar 0) (eC (.int 0))))
  (sCons (sRet (eVar 4))
  sNil)))
  sNil)
  (sCons (sAsg (eOp oAdd (eOp oIx (eVar 0) (eC (.int 2))) (eC (.int 1))) (gvSub (eVar 0) (eC (.int 2))))
  (sCons (sSet 2 (eOp oMod (eCall fInt (aCons (eOp oAdd (eOp oIx (eVar 0) (eC (.int 1))) (eOp oMul (eC (.int 9109)) (eOp oIx (eVar 0) (eC (.int 2))))) aNil)) (eC (.int 2305843009213693951))))
  (sCons (sSet 3 (eOp oMod (eCall fInt (aCons (eOp oAdd (eOp oMul (eVar 2) (eVar 2)) (eOp oMul (eC (.int 239)) (eOp oIx (eVar 0) (eC (.int 2))))) aNil)) (eC (.int 2305843009213693967))))
  (sCons (sRet (eOp oMod (eCall fInt (aCons (eOp oFdiv (eCall fInt (aCons (eOp oAdd (eOp oMul (eVar 3) (eC (.int 1000117))) (eVar 2)) aNil)) (eC (.int 32768))) aNil)) (eVar 1)))
  sNil)))))
def f_law_dip : Fn := callD 2 5 b_law_dip
abbrev s_is_whole : Stmt := top 5
abbrev n_is_whole : List Str := ["value"]
def b_is_whole : Sx := (sCons (sRet (eAnd (eIsi .int (eVar 0)) (eNot (eIsi .bl (eVar 0)))))
  sNil)
def f_is_whole : Fn := callD 1 1 b_is_whole
abbrev s_is_integer : Stmt := top 6
abbrev n_is_integer : List Str := ["value"]
def b_is_integer : Sx := (sCons (sRet (eAnd (eCall f_is_whole (aCons (eVar 0) aNil)) (eChain oLt oLt (eUn oNeg (eC (.int (1000000000000000000000000000000000000000000000000000000000000)))) (eVar 0) (eC (.int (1000000000000000000000000000000000000000000000000000000000000))))))
  sNil)
def f_is_integer : Fn := callD 1 1 b_is_integer
abbrev s_require_units : Stmt := top 9
abbrev n_require_units : List Str := ["plus", "minus", "value"]
def b_require_units : Sx := (sCons (sFor (iSeq (eTup (aCons (eVar 0) (aCons (eVar 1) aNil)))) (gvName 2) (sCons (sIf (eOrT (eNotT (eTru (eCall f_is_integer (aCons (eVar 2) aNil)))) (eNotT (eTst (eChain oLe oLe (eC (.int 0)) (eVar 2) (eC (.int (8)))))))
  (sCons sNever
  sNil)
  sNil)
  sNil))
  sNil)
def f_require_units : Fn := callD 2 3 b_require_units
abbrev s_require_few : Stmt := top 10
abbrev n_require_few : List Str := ["plus", "minus"]
def b_require_few : Sx := (sCons (sIf (eTst (eOp oGt (eOp oAdd (eVar 0) (eVar 1)) (eC (.int (8)))))
  (sCons sNever
  sNil)
  sNil)
  sNil)
def f_require_few : Fn := callD 2 2 b_require_few
abbrev s_require_world : Stmt := top 11
abbrev n_require_world : List Str := ["plus", "minus"]
def b_require_world : Sx := (sCons (sExpr (eCall f_require_units (aCons (eVar 0) (aCons (eVar 1) aNil))))
  (sCons (sExpr (eCall f_require_few (aCons (eVar 0) (aCons (eVar 1) aNil))))
  sNil))
def f_require_world : Fn := callD 2 2 b_require_world
abbrev s_centre : Stmt := top 15
abbrev n_centre : List Str := ["plus", "minus", "many"]
def b_centre : Sx := (sCons (sExpr (eCall f_require_world (aCons (eVar 0) (aCons (eVar 1) aNil))))
  (sCons (sSet 2 (eOp oAdd (eVar 0) (eVar 1)))
  (sCons (sRet (eIf (eTst (eOp oEq (eOp oMod (eVar 2) (eC (.int 2))) (eC (.int 0)))) (eTup (aCons (eC (.int 0)) aNil)) (eTup (aCons (eC (.int 0)) (aCons (eOp oSub (eOp oShl (eC (.int 1)) (eVar 2)) (eC (.int 1))) aNil)))))
  sNil)))
def f_centre : Fn := callD 2 3 b_centre
abbrev s_bits_of : Stmt := top 12
abbrev n_bits_of : List Str := ["mask", "found", "at"]
def b_bits_of : Sx := (sCons (sPar 1 2 (aCons (eLstM aNil) (aCons (eC (.int 0)) aNil)))
  (sCons (sxWhile (eTst (eOp oGt (eVar 0) (eC (.int 0)))) (sCons (sIf (eTst (eOp oEq (eOp oMod (eVar 0) (eC (.int 2))) (eC (.int 1))))
  (sCons (sExpr (eAppend (eVar 1) (eVar 2)))
  sNil)
  sNil)
  (sCons (sPar 0 2 (aCons (eOp oFdiv (eVar 0) (eC (.int 2))) (aCons (eOp oAdd (eVar 2) (eC (.int 1))) aNil)))
  sNil)) 100000)
  (sCons (sRet (eVar 1))
  sNil)))
def f_bits_of : Fn := callD 1 3 b_bits_of
abbrev s_product_sign : Stmt := top 13
abbrev n_product_sign : List Str := ["plus", "one", "other", "swaps", "shared", "first", "second", "more", "unit"]
def b_product_sign : Sx := (sCons (sAsg (eTup (aCons (eCall f_bits_of (aCons (eVar 1) aNil)) (aCons (eCall f_bits_of (aCons (eVar 2) aNil)) aNil))) (gvTup 2 (gvCons (gvName 5) (gvCons (gvName 6) gvNil))))
  (sCons (sSet 3 (eCall fSum (aCons (eLc (iSeq (eVar 6)) (gvName 7) tvYes (eCall fLen (aCons (eLc (iSeq (eVar 5)) (gvName 8) (eTst (eOp oGt (eVar 8) (eVar 7))) (eVar 8) [8]) aNil)) [7]) aNil)))
  (sCons (sSet 4 (eCall fLen (aCons (eLc (iSeq (eVar 5)) (gvName 8) (eAndT (eTst (eOp (oIn false) (eVar 8) (eVar 6))) (eTst (eOp oGe (eVar 8) (eVar 0)))) (eVar 8) [8]) aNil)))
  (sCons (sRet (eIf (eTst (eOp oEq (eOp oMod (eOp oAdd (eVar 3) (eVar 4)) (eC (.int 2))) (eC (.int 0)))) (eC (.int 1)) (eUn oNeg (eC (.int 1)))))
  sNil))))
def f_product_sign : Fn := callD 3 9 b_product_sign
abbrev s_word_product : Stmt := top 14
abbrev n_word_product : List Str := ["plus", "minus", "one", "other", "mask"]
def b_word_product : Sx := (sCons (sExpr (eCall f_require_units (aCons (eVar 0) (aCons (eVar 1) aNil))))
  (sCons (sFor (iSeq (eTup (aCons (eVar 2) (aCons (eVar 3) aNil)))) (gvName 4) (sCons (sIf (eOrT (eNotT (eTru (eCall f_is_integer (aCons (eVar 4) aNil)))) (eNotT (eTst (eChain oLe oLt (eC (.int 0)) (eVar 4) (eOp oShl (eC (.int 1)) (eOp oAdd (eVar 0) (eVar 1)))))))
  (sCons sNever
  sNil)
  sNil)
  sNil))
  (sCons (sExpr (eCall f_require_few (aCons (eVar 0) (aCons (eVar 1) aNil))))
  (sCons (sRet (eTup (aCons (eCall f_product_sign (aCons (eVar 0) (aCons (eVar 2) (aCons (eVar 3) aNil)))) (aCons (eOp oXor (eVar 2) (eVar 3)) aNil))))
  sNil))))
def f_word_product : Fn := callD 4 5 b_word_product
abbrev s_law_word_of : Stmt := top 21
abbrev n_law_word_of : List Str := ["_law_plus", "_law_letters_here", "_law_found", "_law_letter", "_law_left", "_law_sign", "_law_at", "_law_turn"]
def b_law_word_of : Sx := (sCons (sPar 4 5 (aCons (eCall fList (aCons (eVar 1) aNil)) (aCons (eC (.int 1)) aNil)))
  (sCons (sSet 2 (eLst aNil))
  (sCons (sFor (iSeq (eVar 4)) (gvName 3) (sCons (sSet 6 (eCall fLen (aCons (eVar 2) aNil)))
  (sCons (sFor (iRange1 (aCons (eCall fLen (aCons (eVar 2) aNil)) aNil)) (gvName 7) (sCons (sIf (eAndT (eTst (eOp oGt (eVar 6) (eC (.int 0)))) (eTst (eOp oGt (eOp oIx (eVar 2) (eOp oSub (eVar 6) (eC (.int 1)))) (eVar 3))))
  (sCons (sPar 6 5 (aCons (eOp oSub (eVar 6) (eC (.int 1))) (aCons (eOp oSub (eC (.int 0)) (eVar 5)) aNil)))
  sNil)
  sNil)
  sNil))
  (sCons (sIf (eAndT (eTst (eOp oGt (eVar 6) (eC (.int 0)))) (eTst (eOp oEq (eOp oIx (eVar 2) (eOp oSub (eVar 6) (eC (.int 1)))) (eVar 3))))
  (sCons (sSet 2 (eOp oAdd (eSl (eVar 2) oNo (oPart (eOp oSub (eVar 6) (eC (.int 1))))) (eSl (eVar 2) (oPart (eVar 6)) oNo)))
  (sCons (sSet 5 (eIf (eTst (eOp oLt (eVar 3) (eVar 0))) (eVar 5) (eOp oSub (eC (.int 0)) (eVar 5))))
  sNil))
  (sCons (sSet 2 (eOp oAdd (eOp oAdd (eSl (eVar 2) oNo (oPart (eVar 6))) (eLst (aCons (eVar 3) aNil))) (eSl (eVar 2) (oPart (eVar 6)) oNo)))
  sNil))
  sNil))))
  (sCons (sRet (eTup (aCons (eVar 5) (aCons (eCall fSum (aCons (eLc (iSeq (eVar 2)) (gvName 6) tvYes (eOp oShl (eC (.int 1)) (eVar 6)) [6]) aNil)) aNil))))
  sNil))))
def f_law_word_of : Fn := callD 2 8 b_law_word_of
abbrev s_law_letters : Stmt := top 20
abbrev n_law_letters : List Str := ["_law_mask", "_law_at"]
def b_law_letters : Sx := (sCons (sRet (eLc (iRange1 (aCons (eC (.int 8)) aNil)) (gvName 1) (eTst (eOp oEq (eOp oMod (eCall fInt (aCons (eOp oShr (eVar 0) (eVar 1)) aNil)) (eC (.int 2))) (eC (.int 1)))) (eVar 1) [1]))
  sNil)
def f_law_letters : Fn := callD 1 2 b_law_letters
abbrev s_law_times : Stmt := top 22
abbrev n_law_times : List Str := ["_law_plus", "_law_one", "_law_other"]
def b_law_times : Sx := (sCons (sRet (eCall f_law_word_of (aCons (eVar 0) (aCons (eOp oAdd (eCall f_law_letters (aCons (eVar 1) aNil)) (eCall f_law_letters (aCons (eVar 2) aNil))) aNil))))
  sNil)
def f_law_times : Fn := callD 3 3 b_law_times
abbrev s_law_is_central : Stmt := top 23
abbrev n_law_is_central : List Str := ["_law_plus", "_law_many", "_law_mask", "_law_at"]
def b_law_is_central : Sx := (sCons (sRet (eOp oEq (eLc (iRange1 (aCons (eVar 1) aNil)) (gvName 3) (eTst (eOp oNe (eCall f_law_times (aCons (eVar 0) (aCons (eVar 2) (aCons (eOp oShl (eC (.int 1)) (eVar 3)) aNil)))) (eCall f_law_times (aCons (eVar 0) (aCons (eOp oShl (eC (.int 1)) (eVar 3)) (aCons (eVar 2) aNil)))))) (eVar 3) [3]) (eLst aNil)))
  sNil)
def f_law_is_central : Fn := callD 3 4 b_law_is_central
abbrev s_law_right : Stmt := top 24
abbrev n_law_right : List Str := ["_law_pail_here", "_law_plus", "_law_minus", "_law_many", "_law_due", "_law_told", "_law_other", "_law_mask"]
def b_law_right : Sx := (sCons (sSet 3 (eOp oAdd (eVar 1) (eVar 2)))
  (sCons (sSet 4 (eLc (iRange1 (aCons (eOp oShl (eC (.int 1)) (eVar 3)) aNil)) (gvName 7) (eTru (eCall f_law_is_central (aCons (eVar 1) (aCons (eVar 3) (aCons (eVar 7) aNil))))) (eVar 7) [7]))
  (sCons (sSet 5 (eCall f_centre (aCons (eVar 1) (aCons (eVar 2) aNil))))
  (sCons (sIf (eOrT (eTst (eOp oNe (eCall fList (aCons (eVar 5) aNil)) (eVar 4))) (eTst (eOp oNe (eVar 5) (eIf (eTst (eOp oEq (eOp oMod (eCall fInt (aCons (eVar 3) aNil)) (eC (.int 2))) (eC (.int 0)))) (eTup (aCons (eC (.int 0)) aNil)) (eTup (aCons (eC (.int 0)) (aCons (eOp oSub (eOp oShl (eC (.int 1)) (eVar 3)) (eC (.int 1))) aNil)))))))
  (sCons (sRet (eC (.bl false)))
  sNil)
  sNil)
  (sCons (sSet 6 (eCall f_law_dip (aCons (eVar 0) (aCons (eOp oShl (eC (.int 1)) (eVar 3)) aNil))))
  (sCons (sFor (iSeq (eVar 5)) (gvName 7) (sCons (sIf (eTst (eOp oNe (eCall f_word_product (aCons (eVar 1) (aCons (eVar 2) (aCons (eVar 7) (aCons (eVar 6) aNil))))) (eCall f_word_product (aCons (eVar 1) (aCons (eVar 2) (aCons (eVar 6) (aCons (eVar 7) aNil)))))))
  (sCons (sRet (eC (.bl false)))
  sNil)
  sNil)
  sNil))
  (sCons (sIf (eTst (eOp oEq (eCall fLen (aCons (eVar 5) aNil)) (eC (.int 1))))
  (sCons (sRet (eC (.bl true)))
  sNil)
  sNil)
  (sCons (sRet (eOp oEq (eCall f_word_product (aCons (eVar 1) (aCons (eVar 2) (aCons (eOp oIx (eVar 5) (eC (.int 1))) (aCons (eOp oIx (eVar 5) (eC (.int 1))) aNil))))) (eTup (aCons (eIf (eTst (eOp oEq (eOp oMod (eCall fInt (aCons (eOp oSub (eVar 1) (eVar 2)) aNil)) (eC (.int 4))) (eC (.int 1)))) (eC (.int 1)) (eUn oNeg (eC (.int 1)))) (aCons (eC (.int 0)) aNil)))))
  sNil))))))))
def f_law_right : Fn := callD 3 8 b_law_right
abbrev s_law : Stmt := top 25
abbrev n_law : List Str := ["_law_script", "_law_at", "_law_told", "_law_pail_here", "_law_many", "_law_plus"]
def b_law : Sx := (sCons (sFor (iRange1 (aCons (eCall fMax2 (aCons (eC (.int 1)) (aCons (eCall fMin2 (aCons (eC (.int 3)) (aCons (eCall fLen (aCons (eVar 0) aNil)) aNil))) aNil))) aNil)) (gvName 1) (sCons (sSet 3 (eCall f_law_pail (aCons (eVar 0) (aCons (eVar 1) aNil))))
  (sCons (sSet 4 (eCall f_law_dip (aCons (eVar 3) (aCons (eC (.int 8)) aNil))))
  (sCons (sFor (iRange1 (aCons (eOp oAdd (eVar 4) (eC (.int 1))) aNil)) (gvName 5) (sCons (sIf (eNotT (eTru (eCall f_law_right (aCons (eVar 3) (aCons (eVar 5) (aCons (eOp oSub (eVar 4) (eVar 5)) aNil))))))
  (sCons (sRet (eC (.bl false)))
  sNil)
  sNil)
  sNil))
  sNil))))
  (sCons (sSet 2 (eLst (aCons (eCall f_centre (aCons (eC (.int 0)) (aCons (eC (.int 2)) aNil))) (aCons (eCall f_centre (aCons (eC (.int 0)) (aCons (eC (.int 3)) aNil))) (aCons (eCall f_centre (aCons (eC (.int 0)) (aCons (eC (.int 0)) aNil))) (aCons (eCall f_centre (aCons (eC (.int 8)) (aCons (eC (.int 0)) aNil))) (aCons (eCall f_centre (aCons (eC (.int 3)) (aCons (eC (.int 4)) aNil))) aNil)))))))
  (sCons (sRet (eOp oEq (eVar 2) (eLst (aCons (eTup (aCons (eC (.int 0)) aNil)) (aCons (eTup (aCons (eC (.int 0)) (aCons (eC (.int 7)) aNil))) (aCons (eTup (aCons (eC (.int 0)) aNil)) (aCons (eTup (aCons (eC (.int 0)) aNil)) (aCons (eTup (aCons (eC (.int 0)) (aCons (eC (.int 127)) aNil))) aNil))))))))
  sNil)))
def f_law : Fn := callD 1 6 b_law
end LW
namespace LW
open PySem PySem.Spec L2 AW
def d_law_pail : He.DefD := ⟨("_law_pail", none), "_law_pail", "_law_pail", defArgs s_law_pail, defBody s_law_pail, defScope s_law_pail, [], []⟩
def d_law_dip : He.DefD := ⟨("_law_dip", none), "_law_dip", "_law_dip", defArgs s_law_dip, defBody s_law_dip, defScope s_law_dip, [], []⟩
def d_is_whole : He.DefD := ⟨("is_whole", none), "is_whole", "is_whole", defArgs s_is_whole, defBody s_is_whole, defScope s_is_whole, [], []⟩
def d_is_integer : He.DefD := ⟨("is_integer", none), "is_integer", "is_integer", defArgs s_is_integer, defBody s_is_integer, defScope s_is_integer, [], []⟩
def d_require_units : He.DefD := ⟨("require_units", none), "require_units", "require_units", defArgs s_require_units, defBody s_require_units, defScope s_require_units, [], []⟩
def d_require_few : He.DefD := ⟨("require_few", none), "require_few", "require_few", defArgs s_require_few, defBody s_require_few, defScope s_require_few, [], []⟩
def d_require_world : He.DefD := ⟨("require_world", none), "require_world", "require_world", defArgs s_require_world, defBody s_require_world, defScope s_require_world, [], []⟩
def d_centre : He.DefD := ⟨("centre", none), "centre", "centre", defArgs s_centre, defBody s_centre, defScope s_centre, [], []⟩
def d_bits_of : He.DefD := ⟨("bits_of", none), "bits_of", "bits_of", defArgs s_bits_of, defBody s_bits_of, defScope s_bits_of, [], []⟩
def d_product_sign : He.DefD := ⟨("product_sign", none), "product_sign", "product_sign", defArgs s_product_sign, defBody s_product_sign, defScope s_product_sign, [], []⟩
def d_word_product : He.DefD := ⟨("word_product", none), "word_product", "word_product", defArgs s_word_product, defBody s_word_product, defScope s_word_product, [], []⟩
def d_law_word_of : He.DefD := ⟨("_law_word_of", none), "_law_word_of", "_law_word_of", defArgs s_law_word_of, defBody s_law_word_of, defScope s_law_word_of, [], []⟩
def d_law_letters : He.DefD := ⟨("_law_letters", none), "_law_letters", "_law_letters", defArgs s_law_letters, defBody s_law_letters, defScope s_law_letters, [], []⟩
def d_law_times : He.DefD := ⟨("_law_times", none), "_law_times", "_law_times", defArgs s_law_times, defBody s_law_times, defScope s_law_times, [], []⟩
def d_law_is_central : He.DefD := ⟨("_law_is_central", none), "_law_is_central", "_law_is_central", defArgs s_law_is_central, defBody s_law_is_central, defScope s_law_is_central, [], []⟩
def d_law_right : He.DefD := ⟨("_law_right", none), "_law_right", "_law_right", defArgs s_law_right, defBody s_law_right, defScope s_law_right, [], []⟩
def d_law : He.DefD := ⟨("law", none), "law", "law", defArgs s_law, defBody s_law, defScope s_law, [], []⟩
def fn : List He.DefD := [d_law_pail, d_law_dip, d_is_whole, d_is_integer, d_require_units, d_require_few, d_require_world, d_centre, d_bits_of, d_product_sign, d_word_product, d_law_word_of, d_law_letters, d_law_times, d_law_is_central, d_law_right, d_law]
def fa : List He.Fa := [.glo "_law_pail", .glo "_law_dip", .glo "is_whole", .glo "is_integer", .glo "require_units", .glo "require_few", .glo "require_world", .glo "centre", .glo "bits_of", .glo "product_sign", .glo "word_product", .glo "_law_word_of", .glo "_law_letters", .glo "_law_times", .glo "_law_is_central", .glo "_law_right", .glo "law", .free "abs", .free "bool", .free "int", .free "isinstance", .free "len", .free "list", .free "max", .free "min", .free "range", .free "sum", .int "BEYOND" (1000000000000000000000000000000000000000000000000000000000000), .int "MAX_UNITS" (8)]
section
variable {P : Program} {w : World} {K : PySem.W.Frag} {mg : Str → Option Value}
theorem sc_law_pail : FnScope n_law_pail ["_law_script", "_law_at"] (defScope s_law_pail) := ⟨rfl, rfl, rfl, by decide +kernel, rfl, by decide +kernel, by decide +kernel⟩
theorem o_law_pail (T : Tx fa fn K mg)  : Ok P w K mg "_law_pail" 1 2 f_law_pail ["_law_script", "_law_at"] := by
  obtain ⟨fd, F⟩ := T.c.def_ 0 (d := d_law_pail) rfl
  refine ⟨T.gl "_law_pail" (T.c.fact 0 rfl), F.kp, fd, fun base => fn_okK F sc_law_pail rfl (fun cdv A outer s H E hr => ?_), F.bindsA fun _ _ _ _ _ _ us hl => match us, hl with | [_, _], _ => rfl, callK_no⟩
  have hu := units64 hr
  have hu5 := units65 hr
  have tk : Takes (cxOf (L2.CX P w) P w K mg base n_law_pail "_law_pail" (defScope s_law_pail) (He.ga K "_law_pail") cdv A outer s H E) (WF E) := takes_of rfl rfl rfl rfl
  exact (ss_cons (s_set (i := 2) sc_law_pail.nd rfl (by first | exact Or.inl rfl | exact Or.inr rfl) (x_if (t_cmp (f := oLt) op_lt oB0_s (x_var (pv 1)) (x_callB call_len fLen_s rfl (T.fr "len" (T.c.fact 21 rfl)) bt_len (a_cons (x_var (pv 0)) a_nil)) (nomark _)) (x_callTy call_int1 fInt_s rfl (T.fr "int" (T.c.fact 19 rfl)) bt_int (a_cons (x_ix (x_var (pv 0)) (x_var (pv 1))) a_nil)) (x_add (x_mul x_int (x_var (pv 1))) x_int)))
  (ss_cons (s_set (i := 3) sc_law_pail.nd rfl (by first | exact Or.inl rfl | exact Or.inr rfl) (x_mod (x_callB call_abs fAbs_s rfl (T.fr "abs" (T.c.fact 17 rfl)) bt_abs (a_cons (x_var (pv 2)) a_nil)) (x_pow (x_pow x_int x_int) x_int)))
  (ss_cons (s_set (i := 4) sc_law_pail.nd rfl (by first | exact Or.inl rfl | exact Or.inr rfl) (x_add (x_add (x_add (x_mul (x_mod (x_var (pv 3)) x_int) x_int) (x_mul x_int (x_var (pv 1)))) (x_mul x_int (x_callTy call_int1 fInt_s rfl (T.fr "int" (T.c.fact 19 rfl)) bt_int (a_cons (x_lt (x_var (pv 2)) x_int) a_nil)))) x_int))
  (ss_cons (s_ret (x_lstM (a_cons (x_callB (call_max2 rfl) fInt2_s rfl (T.fr "max" (T.c.fact 23 rfl)) bt_max (a_cons x_int (a_cons (x_sub (x_var (pv 3)) (x_pow x_int x_int)) a_nil))) (a_cons (x_var (pv 4)) (a_cons x_int a_nil)))))
  ss_nil))))
theorem sc_law_dip : FnScope n_law_dip ["_law_pail_here", "_law_total"] (defScope s_law_dip) := ⟨rfl, rfl, rfl, by decide +kernel, rfl, by decide +kernel, by decide +kernel⟩
theorem o_law_dip (T : Tx fa fn K mg)  : Ok P w K mg "_law_dip" 1 2 f_law_dip ["_law_pail_here", "_law_total"] := by
  obtain ⟨fd, F⟩ := T.c.def_ 1 (d := d_law_dip) rfl
  refine ⟨T.gl "_law_dip" (T.c.fact 1 rfl), F.kp, fd, fun base => fn_ok F sc_law_dip rfl (fun cdv A outer s H E hr => ?_), F.bindsA fun _ _ _ _ _ _ us hl => match us, hl with | [_, _], _ => rfl, callD_no⟩
  have hu := units64 hr
  have hu5 := units65 hr
  have tk : Takes (cxOf (L2.CX P w) P w K mg base n_law_dip "_law_dip" (defScope s_law_dip) (He.ga K "_law_dip") cdv A outer s H E) (WF E) := takes_of rfl rfl rfl rfl
  exact (ss_cons (s_if (t_cmp (f := oGt) op_gt oB0_s (x_ix (x_var (pv 0)) x_int) x_int (nomark _))
  (ss_cons (s_set (i := 4) sc_law_dip.nd rfl (by first | exact Or.inl rfl | exact Or.inr rfl) (x_mod (x_callTy call_int1 fInt_s rfl (T.fr "int" (T.c.fact 19 rfl)) bt_int (a_cons (x_ix (x_var (pv 0)) x_int) a_nil)) (x_var (pv 1))))
  (ss_cons (s_asg (x_fdiv (x_ix (x_var (pv 0)) x_int) (x_var (pv 1))) (g_sub (W := WF E) (x_var (pv 0)) x_int))
  (ss_cons (s_ret (x_var (pv 4)))
  ss_nil)))
  ss_nil)
  (ss_cons (s_asg (x_add (x_ix (x_var (pv 0)) x_int) x_int) (g_sub (W := WF E) (x_var (pv 0)) x_int))
  (ss_cons (s_set (i := 2) sc_law_dip.nd rfl (by first | exact Or.inl rfl | exact Or.inr rfl) (x_mod (x_callTy call_int1 fInt_s rfl (T.fr "int" (T.c.fact 19 rfl)) bt_int (a_cons (x_add (x_ix (x_var (pv 0)) x_int) (x_mul x_int (x_ix (x_var (pv 0)) x_int))) a_nil)) x_int))
  (ss_cons (s_set (i := 3) sc_law_dip.nd rfl (by first | exact Or.inl rfl | exact Or.inr rfl) (x_mod (x_callTy call_int1 fInt_s rfl (T.fr "int" (T.c.fact 19 rfl)) bt_int (a_cons (x_add (x_mul (x_var (pv 2)) (x_var (pv 2))) (x_mul x_int (x_ix (x_var (pv 0)) x_int))) a_nil)) x_int))
  (ss_cons (s_ret (x_mod (x_callTy call_int1 fInt_s rfl (T.fr "int" (T.c.fact 19 rfl)) bt_int (a_cons (x_fdiv (x_callTy call_int1 fInt_s rfl (T.fr "int" (T.c.fact 19 rfl)) bt_int (a_cons (x_add (x_mul (x_var (pv 3)) x_int) (x_var (pv 2))) a_nil)) x_int) a_nil)) (x_var (pv 1))))
  ss_nil)))))
theorem sc_is_whole : FnScope n_is_whole ["value"] (defScope s_is_whole) := ⟨rfl, rfl, rfl, by decide +kernel, rfl, by decide +kernel, by decide +kernel⟩
theorem o_is_whole (T : Tx fa fn K mg)  : Ok P w K mg "is_whole" 1 1 f_is_whole ["value"] := by
  obtain ⟨fd, F⟩ := T.c.def_ 2 (d := d_is_whole) rfl
  refine ⟨T.gl "is_whole" (T.c.fact 2 rfl), F.kp, fd, fun base => fn_ok F sc_is_whole rfl (fun cdv A outer s H E hr => ?_), F.bindsA fun _ _ _ _ _ _ us hl => match us, hl with | [_], _ => rfl, callD_no⟩
  have hu := units64 hr
  have hu5 := units65 hr
  have tk : Takes (cxOf (L2.CX P w) P w K mg base n_is_whole "is_whole" (defScope s_is_whole) (He.ga K "is_whole") cdv A outer s H E) (WF E) := takes_of rfl rfl rfl rfl
  exact (ss_cons (s_ret (x_and (x_isi .int rfl (T.fr "isinstance" (T.c.fact 20 rfl)) rfl (T.fr "int" (T.c.fact 19 rfl)) bt_int (x_var (pv 0))) (x_one (x_not (x_isi .bl rfl (T.fr "isinstance" (T.c.fact 20 rfl)) rfl (T.fr "bool" (T.c.fact 18 rfl)) bt_bool (x_var (pv 0)))))))
  ss_nil)
theorem sc_is_integer : FnScope n_is_integer ["value"] (defScope s_is_integer) := ⟨rfl, rfl, rfl, by decide +kernel, rfl, by decide +kernel, by decide +kernel⟩
theorem o_is_integer (T : Tx fa fn K mg) (o_is_whole : Ok P w K mg "is_whole" 1 1 f_is_whole ["value"]) : Ok P w K mg "is_integer" 2 1 f_is_integer ["value"] := by
  obtain ⟨fd, F⟩ := T.c.def_ 3 (d := d_is_integer) rfl
  obtain ⟨t_BEYOND, h_BEYOND⟩ := T.it "BEYOND" _ (T.c.fact 27 rfl)
  refine ⟨T.gl "is_integer" (T.c.fact 3 rfl), F.kp, fd, fun base => fn_ok F sc_is_integer rfl (fun cdv A outer s H E hr => ?_), F.bindsA fun _ _ _ _ _ _ us hl => match us, hl with | [_], _ => rfl, callD_no⟩
  have hu := units64 hr
  have hu5 := units65 hr
  have tk : Takes (cxOf (L2.CX P w) P w K mg base n_is_integer "is_integer" (defScope s_is_integer) (He.ga K "is_integer") cdv A outer s H E) (WF E) := takes_of rfl rfl rfl rfl
  exact (ss_cons (s_ret (x_and (x_callO o_is_whole hr (by decide) tk rfl (a_cons (x_var (pv 0)) a_nil)) (x_one (x_chain (f := oLt) (f' := oLt) op_lt op_lt oB0_s oB0_s (x_neg (x_c (pe_glob (v := .int (1000000000000000000000000000000000000000000000000000000000000)) rfl h_BEYOND ⟨_, rfl⟩) fun _ => .int)) (x_var (pv 0)) (x_c (pe_glob (v := .int (1000000000000000000000000000000000000000000000000000000000000)) rfl h_BEYOND ⟨_, rfl⟩) fun _ => .int)))))
  ss_nil)
theorem sc_require_units : FnScope n_require_units ["plus", "minus"] (defScope s_require_units) := ⟨rfl, rfl, rfl, by decide +kernel, rfl, by decide +kernel, by decide +kernel⟩
theorem o_require_units (T : Tx fa fn K mg) (o_is_integer : Ok P w K mg "is_integer" 2 1 f_is_integer ["value"]) : Ok P w K mg "require_units" 3 2 f_require_units ["plus", "minus"] := by
  obtain ⟨fd, F⟩ := T.c.def_ 4 (d := d_require_units) rfl
  obtain ⟨t_MAX_UNITS, h_MAX_UNITS⟩ := T.it "MAX_UNITS" _ (T.c.fact 28 rfl)
  refine ⟨T.gl "require_units" (T.c.fact 4 rfl), F.kp, fd, fun base => fn_ok F sc_require_units rfl (fun cdv A outer s H E hr => ?_), F.bindsA fun _ _ _ _ _ _ us hl => match us, hl with | [_, _], _ => rfl, callD_no⟩
  have hu := units64 hr
  have hu5 := units65 hr
  have tk : Takes (cxOf (L2.CX P w) P w K mg base n_require_units "require_units" (defScope s_require_units) (He.ga K "require_units") cdv A outer s H E) (WF E) := takes_of rfl rfl rfl rfl
  exact (ss_cons (s_for (passes_of rfl) rfl (i_seq (x_tup (a_cons (x_var (pv 0)) (a_cons (x_var (pv 1)) a_nil)))) (g_name (i := 2) sc_require_units.nd rfl (by first | exact Or.inl rfl | exact Or.inr rfl))
  (ss_cons (s_if (PW.pt (w_or (t_not (t_tru (x_callO o_is_integer hr (by decide) tk rfl (a_cons (x_var (pv 2)) a_nil)))) (w_or1 (t_not (t_chain (f := oLe) (f' := oLe) op_le op_le oB0_s oB0_s x_int (x_var (pv 2)) (x_c (pe_glob (v := .int (8)) rfl h_MAX_UNITS ⟨_, rfl⟩) fun _ => .int))))))
  (ss_cons s_never
  ss_nil)
  ss_nil)
  ss_nil))
  ss_nil)
theorem sc_require_few : FnScope n_require_few ["plus", "minus"] (defScope s_require_few) := ⟨rfl, rfl, rfl, by decide +kernel, rfl, by decide +kernel, by decide +kernel⟩
theorem o_require_few (T : Tx fa fn K mg)  : Ok P w K mg "require_few" 1 2 f_require_few ["plus", "minus"] := by
  obtain ⟨fd, F⟩ := T.c.def_ 5 (d := d_require_few) rfl
  obtain ⟨t_MAX_UNITS, h_MAX_UNITS⟩ := T.it "MAX_UNITS" _ (T.c.fact 28 rfl)
  refine ⟨T.gl "require_few" (T.c.fact 5 rfl), F.kp, fd, fun base => fn_ok F sc_require_few rfl (fun cdv A outer s H E hr => ?_), F.bindsA fun _ _ _ _ _ _ us hl => match us, hl with | [_, _], _ => rfl, callD_no⟩
  have hu := units64 hr
  have hu5 := units65 hr
  have tk : Takes (cxOf (L2.CX P w) P w K mg base n_require_few "require_few" (defScope s_require_few) (He.ga K "require_few") cdv A outer s H E) (WF E) := takes_of rfl rfl rfl rfl
  exact (ss_cons (s_if (t_cmp (f := oGt) op_gt oB0_s (x_add (x_var (pv 0)) (x_var (pv 1))) (x_c (pe_glob (v := .int (8)) rfl h_MAX_UNITS ⟨_, rfl⟩) fun _ => .int) (nomark _))
  (ss_cons s_never
  ss_nil)
  ss_nil)
  ss_nil)
theorem sc_require_world : FnScope n_require_world ["plus", "minus"] (defScope s_require_world) := ⟨rfl, rfl, rfl, by decide +kernel, rfl, by decide +kernel, by decide +kernel⟩
theorem o_require_world (T : Tx fa fn K mg) (o_require_few : Ok P w K mg "require_few" 1 2 f_require_few ["plus", "minus"]) (o_require_units : Ok P w K mg "require_units" 3 2 f_require_units ["plus", "minus"]) : Ok P w K mg "require_world" 4 2 f_require_world ["plus", "minus"] := by
  obtain ⟨fd, F⟩ := T.c.def_ 6 (d := d_require_world) rfl
  refine ⟨T.gl "require_world" (T.c.fact 6 rfl), F.kp, fd, fun base => fn_ok F sc_require_world rfl (fun cdv A outer s H E hr => ?_), F.bindsA fun _ _ _ _ _ _ us hl => match us, hl with | [_, _], _ => rfl, callD_no⟩
  have hu := units64 hr
  have hu5 := units65 hr
  have tk : Takes (cxOf (L2.CX P w) P w K mg base n_require_world "require_world" (defScope s_require_world) (He.ga K "require_world") cdv A outer s H E) (WF E) := takes_of rfl rfl rfl rfl
  exact (ss_cons (s_expr (x_callO o_require_units hr (by decide) tk rfl (a_cons (x_var (pv 0)) (a_cons (x_var (pv 1)) a_nil))))
  (ss_cons (s_expr (x_callO o_require_few hr (by decide) tk rfl (a_cons (x_var (pv 0)) (a_cons (x_var (pv 1)) a_nil))))
  ss_nil))
theorem sc_centre : FnScope n_centre ["plus", "minus"] (defScope s_centre) := ⟨rfl, rfl, rfl, by decide +kernel, rfl, by decide +kernel, by decide +kernel⟩
theorem o_centre (T : Tx fa fn K mg) (o_require_world : Ok P w K mg "require_world" 4 2 f_require_world ["plus", "minus"]) : Ok P w K mg "centre" 5 2 f_centre ["plus", "minus"] := by
  obtain ⟨fd, F⟩ := T.c.def_ 7 (d := d_centre) rfl
  refine ⟨T.gl "centre" (T.c.fact 7 rfl), F.kp, fd, fun base => fn_ok F sc_centre rfl (fun cdv A outer s H E hr => ?_), F.bindsA fun _ _ _ _ _ _ us hl => match us, hl with | [_, _], _ => rfl, callD_no⟩
  have hu := units64 hr
  have hu5 := units65 hr
  have tk : Takes (cxOf (L2.CX P w) P w K mg base n_centre "centre" (defScope s_centre) (He.ga K "centre") cdv A outer s H E) (WF E) := takes_of rfl rfl rfl rfl
  exact (ss_cons (s_expr (x_callO o_require_world hr (by decide) tk rfl (a_cons (x_var (pv 0)) (a_cons (x_var (pv 1)) a_nil))))
  (ss_cons (s_set (i := 2) sc_centre.nd rfl (by first | exact Or.inl rfl | exact Or.inr rfl) (x_add (x_var (pv 0)) (x_var (pv 1))))
  (ss_cons (s_ret (x_if (t_cmp (f := oEq) (op_eq1 hu) oEq_s (x_mod (x_var (pv 2)) x_int) x_int (nomark _)) (x_tup (a_cons x_int a_nil)) (x_tup (a_cons x_int (a_cons (x_sub (x_shl x_int (x_var (pv 2))) x_int) a_nil)))))
  ss_nil)))
theorem sc_bits_of : FnScope n_bits_of ["mask"] (defScope s_bits_of) := ⟨rfl, rfl, rfl, by decide +kernel, rfl, by decide +kernel, by decide +kernel⟩
theorem o_bits_of (T : Tx fa fn K mg)  : Ok P w K mg "bits_of" 1 1 f_bits_of ["mask"] := by
  obtain ⟨fd, F⟩ := T.c.def_ 8 (d := d_bits_of) rfl
  refine ⟨T.gl "bits_of" (T.c.fact 8 rfl), F.kp, fd, fun base => fn_ok F sc_bits_of rfl (fun cdv A outer s H E hr => ?_), F.bindsA fun _ _ _ _ _ _ us hl => match us, hl with | [_], _ => rfl, callD_no⟩
  have hu := units64 hr
  have hu5 := units65 hr
  have tk : Takes (cxOf (L2.CX P w) P w K mg base n_bits_of "bits_of" (defScope s_bits_of) (He.ga K "bits_of") cdv A outer s H E) (WF E) := takes_of rfl rfl rfl rfl
  exact (ss_cons (s_par (i := 1) (j := 2) rfl sc_bits_of.nd rfl rfl (by decide) rfl rfl (a_cons (x_lstM a_nil) (a_cons x_int a_nil)) (by rfl))
  (ss_cons (s_while 100000 (passes_of rfl) (t_cmp (f := oGt) op_gt oB0_s (x_var (pv 0)) x_int (nomark _))
  (ss_cons (s_if (t_cmp (f := oEq) (op_eq1 hu) oEq_s (x_mod (x_var (pv 0)) x_int) x_int (nomark _))
  (ss_cons (s_expr (x_append (x_var (pv 1)) (x_var (pv 2))))
  ss_nil)
  ss_nil)
  (ss_cons (s_par (i := 0) (j := 2) rfl sc_bits_of.nd rfl rfl (by decide) rfl rfl (a_cons (x_fdiv (x_var (pv 0)) x_int) (a_cons (x_add (x_var (pv 2)) x_int) a_nil)) (by rfl))
  ss_nil)))
  (ss_cons (s_ret (x_var (pv 1)))
  ss_nil)))
theorem sc_product_sign : FnScope n_product_sign ["plus", "one", "other"] (defScope s_product_sign) := ⟨rfl, rfl, rfl, by decide +kernel, rfl, by decide +kernel, by decide +kernel⟩
theorem o_product_sign (T : Tx fa fn K mg) (o_bits_of : Ok P w K mg "bits_of" 1 1 f_bits_of ["mask"]) : Ok P w K mg "product_sign" 2 3 f_product_sign ["plus", "one", "other"] := by
  obtain ⟨fd, F⟩ := T.c.def_ 9 (d := d_product_sign) rfl
  refine ⟨T.gl "product_sign" (T.c.fact 9 rfl), F.kp, fd, fun base => fn_ok F sc_product_sign rfl (fun cdv A outer s H E hr => ?_), F.bindsA fun _ _ _ _ _ _ us hl => match us, hl with | [_, _, _], _ => rfl, callD_no⟩
  have hu := units64 hr
  have hu5 := units65 hr
  have tk : Takes (cxOf (L2.CX P w) P w K mg base n_product_sign "product_sign" (defScope s_product_sign) (He.ga K "product_sign") cdv A outer s H E) (WF E) := takes_of rfl rfl rfl rfl
  exact (ss_cons (s_asg (x_tup (a_cons (x_callO o_bits_of hr (by decide) tk rfl (a_cons (x_var (pv 1)) a_nil)) (a_cons (x_callO o_bits_of hr (by decide) tk rfl (a_cons (x_var (pv 2)) a_nil)) a_nil))) (g_tup rfl (gs_cons (g_name (i := 5) sc_product_sign.nd rfl (by first | exact Or.inl rfl | exact Or.inr rfl)) (gs_cons (g_name (i := 6) sc_product_sign.nd rfl (by first | exact Or.inl rfl | exact Or.inr rfl)) gs_nil))))
  (ss_cons (s_set (i := 3) sc_product_sign.nd rfl (by first | exact Or.inl rfl | exact Or.inr rfl) (x_callB (cr_sum rfl) fSum_s rfl (T.fr "sum" (T.c.fact 26 rfl)) bt_sum (a_cons (x_lc (own := [("more", 7)]) rfl sc_product_sign.nd (i_seq (x_var (pv 6))) (blkOk_by (by kernel_rfl)) (ct_name (i := 7) (by decide)) (fun _ _ _ _ _ => (pg_name (i := 7) sc_product_sign.nd rfl (by first | exact Or.inl rfl | exact Or.inr rfl))) (fun _ _ _ _ _ => ts_nil) (fun _ _ _ _ _ => (x_callB call_len fLen_s rfl (T.fr "len" (T.c.fact 21 rfl)) bt_len (a_cons (x_lc (own := [("unit", 8)]) rfl sc_product_sign.nd (i_seq (x_var (pv 5))) (blkOk_by (by kernel_rfl)) (ct_name (i := 8) (by decide)) (fun _ _ _ _ _ => (pg_name (i := 8) sc_product_sign.nd rfl (by first | exact Or.inl rfl | exact Or.inr rfl))) (fun _ _ _ _ _ => (ts_one (t_cmp (f := oGt) op_gt oB0_s (x_var (pv 8)) (x_var (pv 7)) (nomark _)))) (fun _ _ _ _ _ => (x_var (pv 8)))) a_nil)))) a_nil)))
  (ss_cons (s_set (i := 4) sc_product_sign.nd rfl (by first | exact Or.inl rfl | exact Or.inr rfl) (x_callB call_len fLen_s rfl (T.fr "len" (T.c.fact 21 rfl)) bt_len (a_cons (x_lc (own := [("unit", 8)]) rfl sc_product_sign.nd (i_seq (x_var (pv 5))) (blkOk_by (by kernel_rfl)) (ct_name (i := 8) (by decide)) (fun _ _ _ _ _ => (pg_name (i := 8) sc_product_sign.nd rfl (by first | exact Or.inl rfl | exact Or.inr rfl))) (fun _ _ _ _ _ => (ts_one (PW.pt (w_and (t_cmp (f := (oIn false)) (op_in1 hu5) oIn_s (x_var (pv 8)) (x_var (pv 6)) (by with_unfolding_all rfl)) (w_and1 (t_cmp (f := oGe) op_ge oB0_s (x_var (pv 8)) (x_var (pv 0)) (nomark _))))))) (fun _ _ _ _ _ => (x_var (pv 8)))) a_nil)))
  (ss_cons (s_ret (x_if (t_cmp (f := oEq) (op_eq1 hu) oEq_s (x_mod (x_add (x_var (pv 3)) (x_var (pv 4))) x_int) x_int (nomark _)) x_int (x_neg x_int)))
  ss_nil))))
theorem sc_word_product : FnScope n_word_product ["plus", "minus", "one", "other"] (defScope s_word_product) := ⟨rfl, rfl, rfl, by decide +kernel, rfl, by decide +kernel, by decide +kernel⟩
theorem o_word_product (T : Tx fa fn K mg) (o_is_integer : Ok P w K mg "is_integer" 2 1 f_is_integer ["value"]) (o_product_sign : Ok P w K mg "product_sign" 2 3 f_product_sign ["plus", "one", "other"]) (o_require_few : Ok P w K mg "require_few" 1 2 f_require_few ["plus", "minus"]) (o_require_units : Ok P w K mg "require_units" 3 2 f_require_units ["plus", "minus"]) : Ok P w K mg "word_product" 4 4 f_word_product ["plus", "minus", "one", "other"] := by
  obtain ⟨fd, F⟩ := T.c.def_ 10 (d := d_word_product) rfl
  refine ⟨T.gl "word_product" (T.c.fact 10 rfl), F.kp, fd, fun base => fn_ok F sc_word_product rfl (fun cdv A outer s H E hr => ?_), F.bindsA fun _ _ _ _ _ _ us hl => match us, hl with | [_, _, _, _], _ => rfl, callD_no⟩
  have hu := units64 hr
  have hu5 := units65 hr
  have tk : Takes (cxOf (L2.CX P w) P w K mg base n_word_product "word_product" (defScope s_word_product) (He.ga K "word_product") cdv A outer s H E) (WF E) := takes_of rfl rfl rfl rfl
  exact (ss_cons (s_expr (x_callO o_require_units hr (by decide) tk rfl (a_cons (x_var (pv 0)) (a_cons (x_var (pv 1)) a_nil))))
  (ss_cons (s_for (passes_of rfl) rfl (i_seq (x_tup (a_cons (x_var (pv 2)) (a_cons (x_var (pv 3)) a_nil)))) (g_name (i := 4) sc_word_product.nd rfl (by first | exact Or.inl rfl | exact Or.inr rfl))
  (ss_cons (s_if (PW.pt (w_or (t_not (t_tru (x_callO o_is_integer hr (by decide) tk rfl (a_cons (x_var (pv 4)) a_nil)))) (w_or1 (t_not (t_chain (f := oLe) (f' := oLt) op_le op_lt oB0_s oB0_s x_int (x_var (pv 4)) (x_shl x_int (x_add (x_var (pv 0)) (x_var (pv 1)))))))))
  (ss_cons s_never
  ss_nil)
  ss_nil)
  ss_nil))
  (ss_cons (s_expr (x_callO o_require_few hr (by decide) tk rfl (a_cons (x_var (pv 0)) (a_cons (x_var (pv 1)) a_nil))))
  (ss_cons (s_ret (x_tup (a_cons (x_callO o_product_sign hr (by decide) tk rfl (a_cons (x_var (pv 0)) (a_cons (x_var (pv 2)) (a_cons (x_var (pv 3)) a_nil)))) (a_cons (x_bitxor (x_var (pv 2)) (x_var (pv 3))) a_nil))))
  ss_nil))))
theorem sc_law_word_of : FnScope n_law_word_of ["_law_plus", "_law_letters_here"] (defScope s_law_word_of) := ⟨rfl, rfl, rfl, by decide +kernel, rfl, by decide +kernel, by decide +kernel⟩
theorem o_law_word_of (T : Tx fa fn K mg)  : Ok P w K mg "_law_word_of" 1 2 f_law_word_of ["_law_plus", "_law_letters_here"] := by
  obtain ⟨fd, F⟩ := T.c.def_ 11 (d := d_law_word_of) rfl
  refine ⟨T.gl "_law_word_of" (T.c.fact 11 rfl), F.kp, fd, fun base => fn_ok F sc_law_word_of rfl (fun cdv A outer s H E hr => ?_), F.bindsA fun _ _ _ _ _ _ us hl => match us, hl with | [_, _], _ => rfl, callD_no⟩
  have hu := units64 hr
  have hu5 := units65 hr
  have tk : Takes (cxOf (L2.CX P w) P w K mg base n_law_word_of "_law_word_of" (defScope s_law_word_of) (He.ga K "_law_word_of") cdv A outer s H E) (WF E) := takes_of rfl rfl rfl rfl
  exact (ss_cons (s_par (i := 4) (j := 5) rfl sc_law_word_of.nd rfl rfl (by decide) rfl rfl (a_cons (x_callTy call_list_of fList_s rfl (T.fr "list" (T.c.fact 22 rfl)) bt_list (a_cons (x_var (pv 1)) a_nil)) (a_cons x_int a_nil)) (by rfl))
  (ss_cons (s_set (i := 2) sc_law_word_of.nd rfl (by first | exact Or.inl rfl | exact Or.inr rfl) (x_lst a_nil))
  (ss_cons (s_for (passes_of rfl) rfl (i_seq (x_var (pv 4))) (g_name (i := 3) sc_law_word_of.nd rfl (by first | exact Or.inl rfl | exact Or.inr rfl))
  (ss_cons (s_set (i := 6) sc_law_word_of.nd rfl (by first | exact Or.inl rfl | exact Or.inr rfl) (x_callB call_len fLen_s rfl (T.fr "len" (T.c.fact 21 rfl)) bt_len (a_cons (x_var (pv 2)) a_nil)))
  (ss_cons (s_for (passes_of rfl) rfl (i_range1 rfl (T.fr "range" (T.c.fact 25 rfl)) (a_cons (x_callB call_len fLen_s rfl (T.fr "len" (T.c.fact 21 rfl)) bt_len (a_cons (x_var (pv 2)) a_nil)) a_nil)) (g_name (i := 7) sc_law_word_of.nd rfl (by first | exact Or.inl rfl | exact Or.inr rfl))
  (ss_cons (s_if (PW.pt (w_and (t_cmp (f := oGt) op_gt oB0_s (x_var (pv 6)) x_int (nomark _)) (w_and1 (t_cmp (f := oGt) op_gt oB0_s (x_ix (x_var (pv 2)) (x_sub (x_var (pv 6)) x_int)) (x_var (pv 3)) (nomark _)))))
  (ss_cons (s_par (i := 6) (j := 5) rfl sc_law_word_of.nd rfl rfl (by decide) rfl rfl (a_cons (x_sub (x_var (pv 6)) x_int) (a_cons (x_sub x_int (x_var (pv 5))) a_nil)) (by rfl))
  ss_nil)
  ss_nil)
  ss_nil))
  (ss_cons (s_if (PW.pt (w_and (t_cmp (f := oGt) op_gt oB0_s (x_var (pv 6)) x_int (nomark _)) (w_and1 (t_cmp (f := oEq) (op_eq1 hu) oEq_s (x_ix (x_var (pv 2)) (x_sub (x_var (pv 6)) x_int)) (x_var (pv 3)) (nomark _)))))
  (ss_cons (s_set (i := 2) sc_law_word_of.nd rfl (by first | exact Or.inl rfl | exact Or.inr rfl) (x_add (x_sl (x_var (pv 2)) o_none (o_some (x_sub (x_var (pv 6)) x_int))) (x_sl (x_var (pv 2)) (o_some (x_var (pv 6))) o_none)))
  (ss_cons (s_set (i := 5) sc_law_word_of.nd rfl (by first | exact Or.inl rfl | exact Or.inr rfl) (x_if (t_cmp (f := oLt) op_lt oB0_s (x_var (pv 3)) (x_var (pv 0)) (nomark _)) (x_var (pv 5)) (x_sub x_int (x_var (pv 5)))))
  ss_nil))
  (ss_cons (s_set (i := 2) sc_law_word_of.nd rfl (by first | exact Or.inl rfl | exact Or.inr rfl) (x_add (x_add (x_sl (x_var (pv 2)) o_none (o_some (x_var (pv 6)))) (x_lst (a_cons (x_var (pv 3)) a_nil))) (x_sl (x_var (pv 2)) (o_some (x_var (pv 6))) o_none)))
  ss_nil))
  ss_nil))))
  (ss_cons (s_ret (x_tup (a_cons (x_var (pv 5)) (a_cons (x_callB (cr_sum rfl) fSum_s rfl (T.fr "sum" (T.c.fact 26 rfl)) bt_sum (a_cons (x_lc (own := [("_law_at", 6)]) rfl sc_law_word_of.nd (i_seq (x_var (pv 2))) (blkOk_by (by kernel_rfl)) (ct_name (i := 6) (by decide)) (fun _ _ _ _ _ => (pg_name (i := 6) sc_law_word_of.nd rfl (by first | exact Or.inl rfl | exact Or.inr rfl))) (fun _ _ _ _ _ => ts_nil) (fun _ _ _ _ _ => (x_shl x_int (x_var (pv 6))))) a_nil)) a_nil))))
  ss_nil))))
theorem sc_law_letters : FnScope n_law_letters ["_law_mask"] (defScope s_law_letters) := ⟨rfl, rfl, rfl, by decide +kernel, rfl, by decide +kernel, by decide +kernel⟩
theorem o_law_letters (T : Tx fa fn K mg)  : Ok P w K mg "_law_letters" 1 1 f_law_letters ["_law_mask"] := by
  obtain ⟨fd, F⟩ := T.c.def_ 12 (d := d_law_letters) rfl
  refine ⟨T.gl "_law_letters" (T.c.fact 12 rfl), F.kp, fd, fun base => fn_ok F sc_law_letters rfl (fun cdv A outer s H E hr => ?_), F.bindsA fun _ _ _ _ _ _ us hl => match us, hl with | [_], _ => rfl, callD_no⟩
  have hu := units64 hr
  have hu5 := units65 hr
  have tk : Takes (cxOf (L2.CX P w) P w K mg base n_law_letters "_law_letters" (defScope s_law_letters) (He.ga K "_law_letters") cdv A outer s H E) (WF E) := takes_of rfl rfl rfl rfl
  exact (ss_cons (s_ret (x_lc (own := [("_law_at", 1)]) rfl sc_law_letters.nd (i_range1 rfl (T.fr "range" (T.c.fact 25 rfl)) (a_cons x_int a_nil)) (blkOk_by (by kernel_rfl)) (ct_name (i := 1) (by decide)) (fun _ _ _ _ _ => (pg_name (i := 1) sc_law_letters.nd rfl (by first | exact Or.inl rfl | exact Or.inr rfl))) (fun _ _ _ _ _ => (ts_one (t_cmp (f := oEq) (op_eq1 hu) oEq_s (x_mod (x_callTy call_int1 fInt_s rfl (T.fr "int" (T.c.fact 19 rfl)) bt_int (a_cons (x_shr (x_var (pv 0)) (x_var (pv 1))) a_nil)) x_int) x_int (nomark _)))) (fun _ _ _ _ _ => (x_var (pv 1)))))
  ss_nil)
theorem sc_law_times : FnScope n_law_times ["_law_plus", "_law_one", "_law_other"] (defScope s_law_times) := ⟨rfl, rfl, rfl, by decide +kernel, rfl, by decide +kernel, by decide +kernel⟩
theorem o_law_times (T : Tx fa fn K mg) (o_law_letters : Ok P w K mg "_law_letters" 1 1 f_law_letters ["_law_mask"]) (o_law_word_of : Ok P w K mg "_law_word_of" 1 2 f_law_word_of ["_law_plus", "_law_letters_here"]) : Ok P w K mg "_law_times" 2 3 f_law_times ["_law_plus", "_law_one", "_law_other"] := by
  obtain ⟨fd, F⟩ := T.c.def_ 13 (d := d_law_times) rfl
  refine ⟨T.gl "_law_times" (T.c.fact 13 rfl), F.kp, fd, fun base => fn_ok F sc_law_times rfl (fun cdv A outer s H E hr => ?_), F.bindsA fun _ _ _ _ _ _ us hl => match us, hl with | [_, _, _], _ => rfl, callD_no⟩
  have hu := units64 hr
  have hu5 := units65 hr
  have tk : Takes (cxOf (L2.CX P w) P w K mg base n_law_times "_law_times" (defScope s_law_times) (He.ga K "_law_times") cdv A outer s H E) (WF E) := takes_of rfl rfl rfl rfl
  exact (ss_cons (s_ret (x_callO o_law_word_of hr (by decide) tk rfl (a_cons (x_var (pv 0)) (a_cons (x_add (x_callO o_law_letters hr (by decide) tk rfl (a_cons (x_var (pv 1)) a_nil)) (x_callO o_law_letters hr (by decide) tk rfl (a_cons (x_var (pv 2)) a_nil))) a_nil))))
  ss_nil)
theorem sc_law_is_central : FnScope n_law_is_central ["_law_plus", "_law_many", "_law_mask"] (defScope s_law_is_central) := ⟨rfl, rfl, rfl, by decide +kernel, rfl, by decide +kernel, by decide +kernel⟩
theorem o_law_is_central (T : Tx fa fn K mg) (o_law_times : Ok P w K mg "_law_times" 2 3 f_law_times ["_law_plus", "_law_one", "_law_other"]) : Ok P w K mg "_law_is_central" 3 3 f_law_is_central ["_law_plus", "_law_many", "_law_mask"] := by
  obtain ⟨fd, F⟩ := T.c.def_ 14 (d := d_law_is_central) rfl
  refine ⟨T.gl "_law_is_central" (T.c.fact 14 rfl), F.kp, fd, fun base => fn_ok F sc_law_is_central rfl (fun cdv A outer s H E hr => ?_), F.bindsA fun _ _ _ _ _ _ us hl => match us, hl with | [_, _, _], _ => rfl, callD_no⟩
  have hu := units64 hr
  have hu5 := units65 hr
  have tk : Takes (cxOf (L2.CX P w) P w K mg base n_law_is_central "_law_is_central" (defScope s_law_is_central) (He.ga K "_law_is_central") cdv A outer s H E) (WF E) := takes_of rfl rfl rfl rfl
  exact (ss_cons (s_ret (x_eq hu (x_lc (own := [("_law_at", 3)]) rfl sc_law_is_central.nd (i_range1 rfl (T.fr "range" (T.c.fact 25 rfl)) (a_cons (x_var (pv 1)) a_nil)) (blkOk_by (by kernel_rfl)) (ct_name (i := 3) (by decide)) (fun _ _ _ _ _ => (pg_name (i := 3) sc_law_is_central.nd rfl (by first | exact Or.inl rfl | exact Or.inr rfl))) (fun _ _ _ _ _ => (ts_one (t_cmp (f := oNe) (op_ne1 hu) oNe_s (x_callO o_law_times hr (by decide) takes0 rfl (a_cons (x_var (pv 0)) (a_cons (x_var (pv 2)) (a_cons (x_shl x_int (x_var (pv 3))) a_nil)))) (x_callO o_law_times hr (by decide) takes0 rfl (a_cons (x_var (pv 0)) (a_cons (x_shl x_int (x_var (pv 3))) (a_cons (x_var (pv 2)) a_nil)))) (nomark _)))) (fun _ _ _ _ _ => (x_var (pv 3)))) (x_lst a_nil)))
  ss_nil)
theorem sc_law_right : FnScope n_law_right ["_law_pail_here", "_law_plus", "_law_minus"] (defScope s_law_right) := ⟨rfl, rfl, rfl, by decide +kernel, rfl, by decide +kernel, by decide +kernel⟩
theorem o_law_right (T : Tx fa fn K mg) (o_law_dip : Ok P w K mg "_law_dip" 1 2 f_law_dip ["_law_pail_here", "_law_total"]) (o_law_is_central : Ok P w K mg "_law_is_central" 3 3 f_law_is_central ["_law_plus", "_law_many", "_law_mask"]) (o_centre : Ok P w K mg "centre" 5 2 f_centre ["plus", "minus"]) (o_word_product : Ok P w K mg "word_product" 4 4 f_word_product ["plus", "minus", "one", "other"]) : Ok P w K mg "_law_right" 6 3 f_law_right ["_law_pail_here", "_law_plus", "_law_minus"] := by
  obtain ⟨fd, F⟩ := T.c.def_ 15 (d := d_law_right) rfl
  refine ⟨T.gl "_law_right" (T.c.fact 15 rfl), F.kp, fd, fun base => fn_ok F sc_law_right rfl (fun cdv A outer s H E hr => ?_), F.bindsA fun _ _ _ _ _ _ us hl => match us, hl with | [_, _, _], _ => rfl, callD_no⟩
  have hu := units64 hr
  have hu5 := units65 hr
  have tk : Takes (cxOf (L2.CX P w) P w K mg base n_law_right "_law_right" (defScope s_law_right) (He.ga K "_law_right") cdv A outer s H E) (WF E) := takes_of rfl rfl rfl rfl
  exact (ss_cons (s_set (i := 3) sc_law_right.nd rfl (by first | exact Or.inl rfl | exact Or.inr rfl) (x_add (x_var (pv 1)) (x_var (pv 2))))
  (ss_cons (s_setLc (i := 4) (own := [("_law_mask", 7)]) rfl sc_law_right.nd rfl rfl (sw_true rfl rfl rfl (by kernel_rfl)) (i_range1 rfl (T.fr "range" (T.c.fact 25 rfl)) (a_cons (x_shl x_int (x_var (pv 3))) a_nil)) (blkOk_by (by kernel_rfl)) (ct_name (i := 7) (by decide)) (fun _ _ _ _ _ => (pg_name (i := 7) sc_law_right.nd rfl (by first | exact Or.inl rfl | exact Or.inr rfl))) (fun _ _ _ _ _ => (ts_one (t_tru (x_callO o_law_is_central hr (by decide) takes0 rfl (a_cons (x_var (pv 1)) (a_cons (x_var (pv 3)) (a_cons (x_var (pv 7)) a_nil))))))) (fun _ _ _ _ _ => (x_var (pv 7))))
  (ss_cons (s_set (i := 5) sc_law_right.nd rfl (by first | exact Or.inl rfl | exact Or.inr rfl) (x_callO o_centre hr (by decide) tk rfl (a_cons (x_var (pv 1)) (a_cons (x_var (pv 2)) a_nil))))
  (ss_cons (s_if (PW.pt (w_or (t_cmp (f := oNe) (op_ne1 hu) oNe_s (x_callTy call_list_of fList_s rfl (T.fr "list" (T.c.fact 22 rfl)) bt_list (a_cons (x_var (pv 5)) a_nil)) (x_var (pv 4)) (nomark _)) (w_or1 (t_cmp (f := oNe) (op_ne1 hu) oNe_s (x_var (pv 5)) (x_if (t_cmp (f := oEq) (op_eq1 hu) oEq_s (x_mod (x_callTy call_int1 fInt_s rfl (T.fr "int" (T.c.fact 19 rfl)) bt_int (a_cons (x_var (pv 3)) a_nil)) x_int) x_int (nomark _)) (x_tup (a_cons x_int a_nil)) (x_tup (a_cons x_int (a_cons (x_sub (x_shl x_int (x_var (pv 3))) x_int) a_nil)))) (nomark _)))))
  (ss_cons (s_ret x_bl)
  ss_nil)
  ss_nil)
  (ss_cons (s_set (i := 6) sc_law_right.nd rfl (by first | exact Or.inl rfl | exact Or.inr rfl) (x_callO o_law_dip hr (by decide) tk rfl (a_cons (x_var (pv 0)) (a_cons (x_shl x_int (x_var (pv 3))) a_nil))))
  (ss_cons (s_for (passes_of rfl) rfl (i_seq (x_var (pv 5))) (g_name (i := 7) sc_law_right.nd rfl (by first | exact Or.inl rfl | exact Or.inr rfl))
  (ss_cons (s_if (t_cmp (f := oNe) (op_ne1 hu) oNe_s (x_callO o_word_product hr (by decide) tk rfl (a_cons (x_var (pv 1)) (a_cons (x_var (pv 2)) (a_cons (x_var (pv 7)) (a_cons (x_var (pv 6)) a_nil))))) (x_callO o_word_product hr (by decide) tk rfl (a_cons (x_var (pv 1)) (a_cons (x_var (pv 2)) (a_cons (x_var (pv 6)) (a_cons (x_var (pv 7)) a_nil))))) (nomark _))
  (ss_cons (s_ret x_bl)
  ss_nil)
  ss_nil)
  ss_nil))
  (ss_cons (s_if (t_cmp (f := oEq) (op_eq1 hu) oEq_s (x_callB call_len fLen_s rfl (T.fr "len" (T.c.fact 21 rfl)) bt_len (a_cons (x_var (pv 5)) a_nil)) x_int (nomark _))
  (ss_cons (s_ret x_bl)
  ss_nil)
  ss_nil)
  (ss_cons (s_ret (x_eq hu (x_callO o_word_product hr (by decide) tk rfl (a_cons (x_var (pv 1)) (a_cons (x_var (pv 2)) (a_cons (x_ix (x_var (pv 5)) x_int) (a_cons (x_ix (x_var (pv 5)) x_int) a_nil))))) (x_tup (a_cons (x_if (t_cmp (f := oEq) (op_eq1 hu) oEq_s (x_mod (x_callTy call_int1 fInt_s rfl (T.fr "int" (T.c.fact 19 rfl)) bt_int (a_cons (x_sub (x_var (pv 1)) (x_var (pv 2))) a_nil)) x_int) x_int (nomark _)) x_int (x_neg x_int)) (a_cons x_int a_nil)))))
  ss_nil))))))))
theorem sc_law : FnScope n_law ["_law_script"] (defScope s_law) := ⟨rfl, rfl, rfl, by decide +kernel, rfl, by decide +kernel, by decide +kernel⟩
theorem o_law (T : Tx fa fn K mg) (o_law_dip : Ok P w K mg "_law_dip" 1 2 f_law_dip ["_law_pail_here", "_law_total"]) (o_law_pail : Ok P w K mg "_law_pail" 1 2 f_law_pail ["_law_script", "_law_at"]) (o_law_right : Ok P w K mg "_law_right" 6 3 f_law_right ["_law_pail_here", "_law_plus", "_law_minus"]) (o_centre : Ok P w K mg "centre" 5 2 f_centre ["plus", "minus"]) : Ok P w K mg "law" 7 1 f_law ["_law_script"] := by
  obtain ⟨fd, F⟩ := T.c.def_ 16 (d := d_law) rfl
  refine ⟨T.gl "law" (T.c.fact 16 rfl), F.kp, fd, fun base => fn_ok F sc_law rfl (fun cdv A outer s H E hr => ?_), F.bindsA fun _ _ _ _ _ _ us hl => match us, hl with | [_], _ => rfl, callD_no⟩
  have hu := units64 hr
  have hu5 := units65 hr
  have tk : Takes (cxOf (L2.CX P w) P w K mg base n_law "law" (defScope s_law) (He.ga K "law") cdv A outer s H E) (WF E) := takes_of rfl rfl rfl rfl
  exact (ss_cons (s_for (passes_of rfl) rfl (i_range1 rfl (T.fr "range" (T.c.fact 25 rfl)) (a_cons (x_callB (call_max2 rfl) fInt2_s rfl (T.fr "max" (T.c.fact 23 rfl)) bt_max (a_cons x_int (a_cons (x_callB (call_min2 rfl) fInt2_s rfl (T.fr "min" (T.c.fact 24 rfl)) bt_min (a_cons x_int (a_cons (x_callB call_len fLen_s rfl (T.fr "len" (T.c.fact 21 rfl)) bt_len (a_cons (x_var (pv 0)) a_nil)) a_nil))) a_nil))) a_nil)) (g_name (i := 1) sc_law.nd rfl (by first | exact Or.inl rfl | exact Or.inr rfl))
  (ss_cons (s_set (i := 3) sc_law.nd rfl (by first | exact Or.inl rfl | exact Or.inr rfl) (x_callO o_law_pail hr (by decide) tk rfl (a_cons (x_var (pv 0)) (a_cons (x_var (pv 1)) a_nil))))
  (ss_cons (s_set (i := 4) sc_law.nd rfl (by first | exact Or.inl rfl | exact Or.inr rfl) (x_callO o_law_dip hr (by decide) tk rfl (a_cons (x_var (pv 3)) (a_cons x_int a_nil))))
  (ss_cons (s_for (passes_of rfl) rfl (i_range1 rfl (T.fr "range" (T.c.fact 25 rfl)) (a_cons (x_add (x_var (pv 4)) x_int) a_nil)) (g_name (i := 5) sc_law.nd rfl (by first | exact Or.inl rfl | exact Or.inr rfl))
  (ss_cons (s_if (t_not (t_tru (x_callO o_law_right hr (by decide) tk rfl (a_cons (x_var (pv 3)) (a_cons (x_var (pv 5)) (a_cons (x_sub (x_var (pv 4)) (x_var (pv 5))) a_nil))))))
  (ss_cons (s_ret x_bl)
  ss_nil)
  ss_nil)
  ss_nil))
  ss_nil))))
  (ss_cons (s_set (i := 2) sc_law.nd rfl (by first | exact Or.inl rfl | exact Or.inr rfl) (x_lst (a_cons (x_callO o_centre hr (by decide) tk rfl (a_cons x_int (a_cons x_int a_nil))) (a_cons (x_callO o_centre hr (by decide) tk rfl (a_cons x_int (a_cons x_int a_nil))) (a_cons (x_callO o_centre hr (by decide) tk rfl (a_cons x_int (a_cons x_int a_nil))) (a_cons (x_callO o_centre hr (by decide) tk rfl (a_cons x_int (a_cons x_int a_nil))) (a_cons (x_callO o_centre hr (by decide) tk rfl (a_cons x_int (a_cons x_int a_nil))) a_nil)))))))
  (ss_cons (s_ret (x_eq hu (x_var (pv 2)) (x_lst (a_cons (x_tup (a_cons x_int a_nil)) (a_cons (x_tup (a_cons x_int (a_cons x_int a_nil))) (a_cons (x_tup (a_cons x_int a_nil)) (a_cons (x_tup (a_cons x_int a_nil)) (a_cons (x_tup (a_cons x_int (a_cons x_int a_nil))) a_nil))))))))
  ss_nil)))
theorem all (T : Tx fa fn K mg) : Ok P w K mg "law" 7 1 f_law ["_law_script"] := by
  have q_law_pail := o_law_pail (P := P) (w := w) T 
  have q_law_dip := o_law_dip (P := P) (w := w) T 
  have q_is_whole := o_is_whole (P := P) (w := w) T 
  have q_is_integer := o_is_integer (P := P) (w := w) T q_is_whole
  have q_require_units := o_require_units (P := P) (w := w) T q_is_integer
  have q_require_few := o_require_few (P := P) (w := w) T 
  have q_require_world := o_require_world (P := P) (w := w) T q_require_few q_require_units
  have q_centre := o_centre (P := P) (w := w) T q_require_world
  have q_bits_of := o_bits_of (P := P) (w := w) T 
  have q_product_sign := o_product_sign (P := P) (w := w) T q_bits_of
  have q_word_product := o_word_product (P := P) (w := w) T q_is_integer q_product_sign q_require_few q_require_units
  have q_law_word_of := o_law_word_of (P := P) (w := w) T 
  have q_law_letters := o_law_letters (P := P) (w := w) T 
  have q_law_times := o_law_times (P := P) (w := w) T q_law_letters q_law_word_of
  have q_law_is_central := o_law_is_central (P := P) (w := w) T q_law_times
  have q_law_right := o_law_right (P := P) (w := w) T q_law_dip q_law_is_central q_centre q_word_product
  have q_law := o_law (P := P) (w := w) T q_law_dip q_law_pail q_law_right q_centre
  exact q_law
end
end LW
namespace LW
open PySem PySem.Spec L2 AW
/-! the words of this law: what its own sorting does -/
def tick (fl : List Nat) (l : Nat) (a : Nat × Int) : Nat × Int := if 0 < a.1 ∧ l < fl.getD (a.1 - 1) 0 then (a.1 - 1, 0 - a.2) else a
def ticks (fl : List Nat) (l : Nat) (a : Nat × Int) : Nat → Nat × Int
  | 0 => a
  | k + 1 => tick fl l (ticks fl l a k)
def put (p : Nat) (fl : List Nat) (l : Nat) (a : Nat × Int) : Int × List Nat :=
  if 0 < a.1 ∧ fl.getD (a.1 - 1) 0 = l then (if l < p then a.2 else 0 - a.2, fl.take (a.1 - 1) ++ fl.drop a.1) else (a.2, fl.take a.1 ++ [l] ++ fl.drop a.1)
def wstep (p : Nat) (s : Int × List Nat) (l : Nat) : Int × List Nat := put p s.2 l (ticks s.2 l (s.2.length, s.1) s.2.length)
def wordOf (p : Nat) (L : List Nat) : Int × List Nat := L.foldl (wstep p) (1, [])
theorem tick_le {fl : List Nat} {l : Nat} {a : Nat × Int} {n : Nat} (h : a.1 ≤ n) : (tick fl l a).1 ≤ n := by
  unfold tick
  split
  · show a.1 - 1 ≤ n
    omega
  · exact h
theorem ticks_le {fl : List Nat} {l : Nat} {a : Nat × Int} {n : Nat} (h : a.1 ≤ n) : ∀ k, (ticks fl l a k).1 ≤ n
  | 0 => h
  | k + 1 => tick_le (ticks_le h k)
theorem natsD_get {fl : List Nat} {n : Nat} (h : n < fl.length) : (natsD fl)[n]? = some (.int (fl.getD n 0 : Nat)) := by
  rw [List.getElem?_map, List.getD_eq_getElem?_getD, List.getElem?_eq_getElem h]
  rfl
theorem oIx_nats {fl : List Nat} {i : Int} {n : Nat} {g : G} (e : i = n) (h : n < fl.length) : oIx (.lst (natsD fl)) (.int i) g = .ok (.int (fl.getD n 0 : Nat)) g := oIx_lst (natsD_get h) e
theorem take_nats {fl : List Nat} {n : Nat} : (natsD fl).take n = natsD (fl.take n) := (List.map_take ..).symm
theorem drop_nats {fl : List Nat} {n : Nat} : (natsD fl).drop n = natsD (fl.drop n) := (List.map_drop ..).symm
theorem put_len {p l : Nat} {fl : List Nat} {a : Nat × Int} : (put p fl l a).2.length ≤ fl.length + 1 := by
  unfold put
  by_cases h : 0 < a.1 ∧ fl.getD (a.1 - 1) 0 = l
  · rw [if_pos h]
    simp only [List.length_append, List.length_take, List.length_drop]
    omega
  · rw [if_neg h]
    simp only [List.length_append, List.length_take, List.length_drop, List.length_singleton]
    omega
theorem put_mem {p l b : Nat} {fl : List Nat} {a : Nat × Int} (h : ∀ x ∈ fl, x < b) (hl : l < b) : ∀ x ∈ (put p fl l a).2, x < b := by
  intro x
  unfold put
  by_cases hc : 0 < a.1 ∧ fl.getD (a.1 - 1) 0 = l
  · rw [if_pos hc]
    intro hx
    rw [List.mem_append] at hx
    rcases hx with hx | hx
    · exact h x (List.mem_of_mem_take hx)
    · exact h x (List.mem_of_mem_drop hx)
  · rw [if_neg hc]
    intro hx
    rw [List.mem_append, List.mem_append, List.mem_singleton] at hx
    rcases hx with (hx | hx) | hx
    · exact h x (List.mem_of_mem_take hx)
    · omega
    · exact h x (List.mem_of_mem_drop hx)
theorem wstep_len {p : Nat} {s : Int × List Nat} {l : Nat} : (wstep p s l).2.length ≤ s.2.length + 1 := put_len
theorem wstep_mem {p : Nat} {s : Int × List Nat} {l b : Nat} (h : ∀ x ∈ s.2, x < b) (hl : l < b) : ∀ x ∈ (wstep p s l).2, x < b := put_mem h hl
def runW (p : Nat) (s : Int × List Nat) (L : List Nat) : Int × List Nat := L.foldl (wstep p) s
theorem run_len {p : Nat} : ∀ (L : List Nat) (s : Int × List Nat), (runW p s L).2.length ≤ s.2.length + L.length
  | [], s => Nat.le_refl _
  | l :: L, s => by
    have h1 := run_len (p := p) L (wstep p s l)
    have h2 := wstep_len (p := p) (s := s) (l := l)
    show (runW p (wstep p s l) L).2.length ≤ _
    rw [List.length_cons]
    omega
theorem run_mem {p b : Nat} : ∀ (L : List Nat) (s : Int × List Nat), (∀ x ∈ s.2, x < b) → (∀ x ∈ L, x < b) → ∀ x ∈ (runW p s L).2, x < b
  | [], s, h, _ => h
  | l :: L, s, h, hL => run_mem L (wstep p s l) (wstep_mem h (hL l (List.mem_cons_self ..))) fun x hx => hL x (List.mem_cons_of_mem _ hx)
theorem run_snoc {p : Nat} {s : Int × List Nat} {L : List Nat} {l : Nat} : runW p s (L ++ [l]) = wstep p (runW p s L) l := by
  unfold runW
  rw [List.foldl_append]
  rfl
theorem smallI_nat {n : Nat} (h : n ≤ 100000) : smallI (n : Int) = true := by
  unfold smallI
  rw [decide_eq_true (by omega), decide_eq_true (by omega)]
  rfl
def innerI (p : Nat) (L fl : List Nat) (l : Nat) (sg : Int) (g1 : G) (k : Nat) (σ : Sg) (g2 : G) : Prop :=
  g2 = g1 ∧ ∃ c : Option D, σ = [some (D.int (p : Int)), some (D.lst (natsD L)), some (D.lst (natsD fl)), some (D.int (l : Int)), some (D.lst (natsD L)), some (D.int (ticks fl l (fl.length, sg) k).2), some (D.int ((ticks fl l (fl.length, sg) k).1 : Int)), c]
def bodyW : Sx := (sCons (sSet 6 (eCall fLen (aCons (eVar 2) aNil)))
  (sCons (sFor (iRange1 (aCons (eCall fLen (aCons (eVar 2) aNil)) aNil)) (gvName 7) (sCons (sIf (eAndT (eTst (eOp oGt (eVar 6) (eC (.int 0)))) (eTst (eOp oGt (eOp oIx (eVar 2) (eOp oSub (eVar 6) (eC (.int 1)))) (eVar 3))))
  (sCons (sPar 6 5 (aCons (eOp oSub (eVar 6) (eC (.int 1))) (aCons (eOp oSub (eC (.int 0)) (eVar 5)) aNil)))
  sNil)
  sNil)
  sNil))
  (sCons (sIf (eAndT (eTst (eOp oGt (eVar 6) (eC (.int 0)))) (eTst (eOp oEq (eOp oIx (eVar 2) (eOp oSub (eVar 6) (eC (.int 1)))) (eVar 3))))
  (sCons (sSet 2 (eOp oAdd (eSl (eVar 2) oNo (oPart (eOp oSub (eVar 6) (eC (.int 1))))) (eSl (eVar 2) (oPart (eVar 6)) oNo)))
  (sCons (sSet 5 (eIf (eTst (eOp oLt (eVar 3) (eVar 0))) (eVar 5) (eOp oSub (eC (.int 0)) (eVar 5))))
  sNil))
  (sCons (sSet 2 (eOp oAdd (eOp oAdd (eSl (eVar 2) oNo (oPart (eVar 6))) (eLst (aCons (eVar 3) aNil))) (eSl (eVar 2) (oPart (eVar 6)) oNo)))
  sNil))
  sNil)))
theorem bodyW_wp {p l : Nat} {L fl : List Nat} {sg : Int} {g1 : G} {b c : Option D} {s0 : Sg} {N B C : Sg → G → Prop} {R : D → G → Prop} (hlen : fl.length ≤ 50)
    (q : ∀ b2 c2, N [some (D.int (p : Int)), some (D.lst (natsD L)), some (D.lst (natsD (wstep p (sg, fl) l).2)), some (D.int (l : Int)), some (D.lst (natsD L)), some (D.int (wstep p (sg, fl) l).1), b2, c2] g1)
    (e0 : [some (D.int (p : Int)), some (D.lst (natsD L)), some (D.lst (natsD fl)), some (D.int (l : Int)), some (D.lst (natsD L)), some (D.int sg), b, c] = s0) : (bodyW s0 g1).wp N R B C := by
  subst e0
  unfold bodyW
  rw [wp_cons, wp_set, wp_eCall, wp_aCons]
  simp -implicitDefEqProofs only [eVar_0, eVar_succ, wp_ok, aNil_ok, fLen_lst, List.set, List.length_map]
  generalize e : [some (D.int (p : Int)), some (D.lst (natsD L)), some (D.lst (natsD fl)), some (D.int (l : Int)), some (D.lst (natsD L)), some (D.int sg), some (D.int (fl.length : Int)), c] = σσ
  refine wp_cut (innerI p L fl l sg g1 fl.length) ?_ ?_
  · refine wp_for (innerI p L fl l sg g1) (fun xs => xs.length = fl.length) ?_ ?_ ?_
    · rw [← e, wp_iRange1, wp_eCall, wp_aCons, eVar_succ, eVar_succ, eVar_0, wp_ok, aNil_ok, wp_ok, fLen_lst, wp_ok, intP_i]
      refine ⟨?_, _, rfl, ?_, rfl, _, rfl⟩
      · rw [List.length_map]
        exact smallI_nat (by omega)
      · rw [rangeD_len, List.length_map]
        omega
    · rintro xs k σ g2 d hx hd ⟨rfl, c, rfl⟩
      have ha := ticks_le (fl := fl) (l := l) (a := (fl.length, sg)) (n := fl.length) (Nat.le_refl _) k
      unfold innerI
      rw [show ticks fl l (fl.length, sg) (k + 1) = tick fl l (ticks fl l (fl.length, sg) k) from rfl]
      generalize ticks fl l (fl.length, sg) k = a at ha
      obtain ⟨at', sg'⟩ := a
      dsimp only at ha
      simp -implicitDefEqProofs
      refine pick_dec (fun h1 => ?_) fun h1 => ?_
      · rw [oIx_nats (n := at' - 1) (by omega) (by omega)]
        simp -implicitDefEqProofs
        unfold tick
        refine pick_dec (fun h2 => ?_) fun h2 => ?_
        · have hc : 0 < at' ∧ l < fl.getD (at' - 1) 0 := by
            rw [List.getD_eq_getElem?_getD]
            omega
          dsimp only
          rw [if_pos hc]
          refine ⟨?_, ?_⟩ <;> first | omega | skip
        · have hc : ¬ (0 < at' ∧ l < fl.getD (at' - 1) 0) := by
            rw [List.getD_eq_getElem?_getD]
            omega
          dsimp only
          rw [if_neg hc]
          exact ⟨rfl, rfl⟩
      · have hc : ¬ (0 < at' ∧ l < fl.getD (at' - 1) 0) := by omega
        unfold tick
        dsimp only
        rw [if_neg hc]
        exact ⟨rfl, rfl⟩
    · rintro xs σ g2 hx h
      rw [hx] at h
      exact h
  · rintro σ g2 ⟨rfl, c, rfl⟩
    have ha := ticks_le (fl := fl) (l := l) (a := (fl.length, sg)) (n := fl.length) (Nat.le_refl _) fl.length
    unfold wstep at q
    dsimp only at q
    generalize ticks fl l (fl.length, sg) fl.length = a at ha q ⊢
    obtain ⟨at', sg'⟩ := a
    dsimp only at ha
    simp -implicitDefEqProofs
    have hs : small [D.int (l : Int)] = true := rfl
    have hput : ∀ g : G, ((oAdd (D.lst (cutD (natsD fl) none (some (at' : Int)))) (D.lst [D.int (l : Int)]) g).wp fun x g1 =>
        (oAdd x (D.lst (cutD (natsD fl) (some (at' : Int)) none)) g1).wp fun d g1 => d = .lst (natsD (fl.take at' ++ [l] ++ fl.drop at')) ∧ g1 = g) := fun g => by
      rw [cut_to rfl (by rw [List.length_map]; exact ha), cut_from rfl (by rw [List.length_map]; exact ha), take_nats, drop_nats, oAdd_ll, wp_okIf]
      have e1 : natsD (fl.take at') ++ [D.int (l : Int)] = natsD (fl.take at' ++ [l]) := by simp
      have e2 : natsD (fl.take at' ++ [l]) ++ natsD (fl.drop at') = natsD (fl.take at' ++ [l] ++ fl.drop at') := (List.map_append ..).symm
      rw [e1]
      refine ⟨small_of rfl (by simp only [List.length_map, List.length_append, List.length_take, List.length_singleton]; omega), ?_⟩
      rw [oAdd_ll, wp_okIf, e2]
      exact ⟨small_of rfl (by simp only [List.length_map, List.length_append, List.length_take, List.length_drop, List.length_singleton]; omega), rfl, rfl⟩
    unfold put at q
    dsimp only at q
    refine pick_dec (fun h1 => ?_) fun h1 => ?_
    · rw [oIx_nats (n := at' - 1) (by omega) (by omega), wp_ok, oEq_ii, wp_ok, tstP_bl]
      refine pick_dec (fun h2 => ?_) fun h2 => ?_
      · have hc : 0 < at' ∧ fl.getD (at' - 1) 0 = l := ⟨h1, by omega⟩
        rw [if_pos hc] at q
        dsimp only at q
        rw [cut_to (n := at' - 1) (by omega) (by rw [List.length_map]; omega), cut_from rfl (by rw [List.length_map]; exact ha), take_nats, drop_nats, oAdd_ll, wp_okIf]
        rw [show natsD (fl.take (at' - 1)) ++ natsD (fl.drop at') = natsD (fl.take (at' - 1) ++ fl.drop at') from (List.map_append ..).symm]
        refine ⟨small_of rfl (by simp only [List.length_map, List.length_append, List.length_take, List.length_drop]; omega), ?_⟩
        refine pick_dec (fun h3 => ?_) fun h3 => ?_
        · rw [if_pos h3] at q
          exact q _ _
        · rw [if_neg h3, Int.zero_sub] at q
          exact q _ _
      · have hc : ¬ (0 < at' ∧ fl.getD (at' - 1) 0 = l) := by omega
        rw [if_neg hc] at q
        dsimp only at q
        refine ⟨hs, Res.wp_mono (hput g2) fun x g1 h => Res.wp_mono h fun d g3 ⟨e1, e2⟩ => ?_⟩
        subst e1 e2
        exact q _ _
    · have hc : ¬ (0 < at' ∧ fl.getD (at' - 1) 0 = l) := by omega
      rw [if_neg hc] at q
      dsimp only at q
      refine ⟨hs, Res.wp_mono (hput g2) fun x g1 h => Res.wp_mono h fun d g3 ⟨e1, e2⟩ => ?_⟩
      subst e1 e2
      exact q _ _
theorem word_eq {p : Nat} {L : List Nat} {g : G} (hl : L.length ≤ 50) (hb : ∀ x ∈ L, x < 60) :
    f_law_word_of [.int (p : Int), .lst (natsD L)] g = .ok (.tup [.int (wordOf p L).1, .int (((wordOf p L).2.map fun (n : Nat) => ((2 ^ n : Nat) : Int)).sum)]) g := by
  refine ok_of (wp_callS rfl ?_)
  unfold b_law_word_of
  have e0 : fList [.lst (natsD L)] g = .ok (.lst (natsD L)) g := rfl
  simp -implicitDefEqProofs only [wp_cons, wp_par, wp_set, wp_eCall, wp_aCons, eVar_0, eVar_succ, wp_ok, aNil_ok, eC_ok, e0, List.map, List.set, List.cons_append, List.nil_append, List.replicate, wp_eLst]
  refine ⟨by rfl, ?_⟩
  refine wp_for (fun k σ g1 => g1 = g ∧ ∃ a b c, σ = [some (.int (p : Int)), some (.lst (natsD L)), some (.lst (natsD (runW p (1, []) (L.take k)).2)), a, some (.lst (natsD L)), some (.int (runW p (1, []) (L.take k)).1), b, c]) (fun xs => xs = natsD L) ?_ ?_ ?_
  · simp -implicitDefEqProofs only [wp_iSeq, eVar_0, eVar_succ, wp_ok, ivOf_lst]
    exact ⟨_, rfl, rfl, trivial, _, _, _, rfl⟩
  · rintro xs k σ g1 d rfl hd ⟨rfl, a, b, c, rfl⟩
    have hk : k < L.length := by
      by_cases z : k < L.length
      · exact z
      · rw [List.getElem?_eq_none (by simp; omega)] at hd; cases hd
    obtain rfl : D.int (L[k] : Nat) = d := by
      rw [List.getElem?_map, List.getElem?_eq_getElem hk] at hd
      exact Option.some.inj hd
    have hlk : L.take (k + 1) = L.take k ++ [L[k]] := by rw [List.take_succ_eq_append_getElem hk]
    rw [hlk, run_snoc]
    have hlen : (runW p (1, []) (L.take k)).2.length ≤ 50 := by
      have := run_len (p := p) (L.take k) (1, [])
      rw [List.length_take] at this
      simp only [List.length_nil] at this
      omega
    generalize L[k] = l
    generalize runW p (1, []) (L.take k) = s at hlen ⊢
    obtain ⟨sg, fl⟩ := s
    dsimp only at hlen ⊢
    rw [gvP_name]
    simp -implicitDefEqProofs only [List.set]
    generalize e0 : [some (D.int (p : Int)), some (D.lst (natsD L)), some (D.lst (natsD fl)), some (D.int (l : Int)), some (D.lst (natsD L)), some (D.int sg), b, c] = s0
    exact bodyW_wp hlen (fun b2 c2 => ⟨rfl, _, _, _, rfl⟩) e0
  · rintro xs σ g1 rfl ⟨rfl, a, b, c, rfl⟩
    have hall : L.take (natsD L).length = L := by rw [List.length_map]; exact List.take_length
    rw [hall]
    have hlen : (runW p (1, []) L).2.length ≤ 50 := by
      have := run_len (p := p) L (1, [])
      simp only [List.length_nil] at this
      omega
    have hmem : ∀ x ∈ (runW p (1, []) L).2, x < 60 := run_mem L (1, []) (fun x hx => by cases hx) hb
    show (SRes.wp _ _ _ _ _)
    rw [show wordOf p L = runW p (1, []) L from rfl]
    generalize runW p (1, []) L = s at hlen hmem ⊢
    obtain ⟨sg, fl⟩ := s
    dsimp only at hlen hmem ⊢
    generalize e0 : [some (D.int (p : Int)), some (D.lst (natsD L)), some (D.lst (natsD fl)), a, some (D.lst (natsD L)), some (D.int sg), b, c] = s0
    rw [wp_ret, wp_eTup, wp_aCons]
    rw [show eVar 5 s0 g1 = .ok (.int sg) g1 by rw [← e0]; rfl, wp_ok, wp_aCons, wp_eCall, wp_aCons, wp_eLc, wp_iSeq]
    rw [show eVar 2 s0 g1 = .ok (.lst (natsD fl)) g1 by rw [← e0]; rfl, wp_ok, ivOf_lst, wp_ok, wp_noEx, lcAll_fix]
    have e1 : lcL (gvName 6) tvYes (eOp oShl (eC (.int 1)) (eVar 6)) (wipeD s0 [6]) (natsD fl) g1 = .ok ((natsD fl).map fun d => match d with | .int i => .int ((2 ^ i.toNat : Nat) : Int) | d => d) g1 := by
      refine lcL_map _ _ _ fun d hd => ?_
      obtain ⟨x, hx, rfl⟩ := List.mem_map.1 hd
      refine ⟨_, rfl, ?_⟩
      have hx60 := hmem x hx
      show (eOp oShl (eC (.int 1)) (eVar 6)) ((wipeD s0 [6]).set 6 (some (D.int (x : Int)))) g1 = _
      refine ok_of ?_
      rw [wp_eOp, eC_ok, wp_ok, show eVar 6 ((wipeD s0 [6]).set 6 (some (D.int (x : Int)))) g1 = .ok (.int (x : Int)) g1 by rw [← e0]; rfl, wp_ok, oShl_c]
      · exact ⟨by simp, rfl⟩
      · unfold cShl
        rw [decide_eq_true (by omega), decide_eq_true]
        · rfl
        · show ((Nat.log2 1 : Nat) : Int) + x ≤ 1000000
          rw [show Nat.log2 1 = 0 by decide]
          omega
    rw [e1, wp_ok, List.map_map]
    have e2 : ((fun d : D => match d with | .int i => .int ((2 ^ i.toNat : Nat) : Int) | d => d) ∘ fun (n : Nat) => D.int (n : Int)) = fun (n : Nat) => D.int ((2 ^ n : Nat) : Int) := by
      funext n
      show D.int ((2 ^ ((n : Int)).toNat : Nat) : Int) = _
      rw [Int.toNat_natCast]
    rw [e2]
    refine ⟨small_of (n := fl.length) (by rw [List.length_map]) (by omega), ?_⟩
    rw [aNil_ok, wp_ok, fSum_nats, wp_ok, aNil_ok, wp_ok]
    exact ⟨rfl, rfl, rfl, rfl⟩
def lets (m : Nat) : List Nat := (List.range' 0 8).filter fun a => decide (m / 2 ^ a % 2 = 1)
theorem lets_len (m : Nat) : (lets m).length ≤ 8 := Nat.le_trans (List.length_filter_le _ _) (by rw [List.length_range']; exact Nat.le_refl _)
theorem lets_lt (m : Nat) : ∀ x ∈ lets m, x < 60 := fun x hx => by
  have h := List.mem_range'_1.1 (List.mem_filter.1 hx).1
  omega
theorem letters_eq {m : Nat} {g : G} : f_law_letters [.int (m : Int)] g = .ok (.lst (natsD (lets m))) g := by
  refine ok_of (wp_callS rfl ?_)
  unfold b_law_letters
  rw [wp_cons, wp_ret, wp_eLc, wp_iRange1, eC_ok, wp_ok, intP_i]
  refine ⟨rfl, ?_⟩
  rw [wp_noEx, lcAll_fix]
  have e : lcL (gvName 1) (eTst (eOp oEq (eOp oMod (eCall fInt (aCons (eOp oShr (eVar 0) (eVar 1)) aNil)) (eC (.int 2))) (eC (.int 1)))) (eVar 1) (wipeD [some (.int (m : Int)), none] [1]) (rangeD 0 (8 : Int).toNat) g = .ok ((rangeD 0 (8 : Int).toNat).filterMap (keepF fun a => decide (m / 2 ^ a % 2 = 1))) g := by
    refine lcL_F _ _ _ fun d hd => ?_
    obtain ⟨k, hk⟩ := List.getElem?_of_mem hd
    obtain ⟨hk8, rfl⟩ := rangeD_get _ _ _ _ hk
    rw [Int.zero_add, gvP_name]
    refine ⟨rfl, ?_⟩
    have es : oShr (.int (m : Int)) (.int (k : Int)) g = .ok (.int ((m / 2 ^ k : Nat) : Int)) g := by
      show (if decide (0 ≤ (k : Int)) = true then Res.ok (D.int ((m : Int) / 2 ^ (k : Int).toNat)) g else .no) = _
      rw [if_pos (decide_eq_true (by omega)), Int.toNat_natCast]
      simp
    have ek : keepF (fun a => decide (m / 2 ^ a % 2 = 1)) (D.int (k : Int)) = if decide (m / 2 ^ k % 2 = 1) then some (D.int (k : Int)) else none := by
      unfold keepF
      dsimp only
      rw [Int.toNat_natCast]
    rw [ek]
    have em : oMod (.int ((m / 2 ^ k : Nat) : Int)) (.int 2) g = .ok (.int ((m / 2 ^ k % 2 : Nat) : Int)) g := by
      rw [oMod_p (by omega)]
      simp
    have hb : decide (((m / 2 ^ k % 2 : Nat) : Int) = 1) = decide (m / 2 ^ k % 2 = 1) := by
      rw [Bool.eq_iff_iff, decide_eq_true_iff, decide_eq_true_iff]
      omega
    simp -implicitDefEqProofs only [wipeD_cons, wipeD_nil, List.set, wp_eTst, wp_eOp, wp_eCall, wp_aCons, eVar_0, eVar_succ, wp_ok, aNil_ok, eC_ok, es, fInt_i, em, oEq_ii, tstP_bl, hb]
    cases decide (m / 2 ^ k % 2 = 1) <;> simp
  simp -implicitDefEqProofs only [List.map, List.cons_append, List.nil_append, List.replicate] at e ⊢
  rw [e, wp_ok]
  rw [show (0 : Int) = ((0 : Nat) : Int) from rfl, rangeD_filter]
  exact ⟨small_of (n := (lets m).length) (by rw [List.length_map]; rfl) (by have := lets_len m; omega), rfl, rfl, rfl⟩
def W (p a b : Nat) : Int × Int := ((wordOf p (lets a ++ lets b)).1, (((wordOf p (lets a ++ lets b)).2.map fun (n : Nat) => ((2 ^ n : Nat) : Int)).sum))
theorem times_eq {p a b : Nat} {g : G} : f_law_times [.int (p : Int), .int (a : Int), .int (b : Int)] g = .ok (.tup [.int (W p a b).1, .int (W p a b).2]) g := by
  refine ok_of (wp_callS rfl ?_)
  unfold b_law_times
  have la := lets_len a
  have lb := lets_len b
  have ea : oAdd (.lst (natsD (lets a))) (.lst (natsD (lets b))) g = .ok (.lst (natsD (lets a ++ lets b))) g := by
    rw [oAdd_ll, show natsD (lets a) ++ natsD (lets b) = natsD (lets a ++ lets b) from (List.map_append ..).symm]
    have : small (natsD (lets a ++ lets b)) = true := small_of (n := (lets a ++ lets b).length) (by rw [List.length_map]) (by rw [List.length_append]; omega)
    unfold okIf
    rw [this]
  have ew := word_eq (p := p) (L := lets a ++ lets b) (g := g) (by rw [List.length_append]; omega) (fun x hx => by
    rcases List.mem_append.1 hx with h | h
    · exact lets_lt a x h
    · exact lets_lt b x h)
  simp -implicitDefEqProofs only [wp_cons, wp_ret, wp_eCall, wp_aCons, wp_eOp, eVar_0, eVar_succ, wp_ok, aNil_ok, letters_eq, ea, ew, List.map, List.cons_append, List.nil_append]
  exact ⟨trivial, rfl, trivial⟩
theorem shl1 {a : Nat} {g : G} (h : a < 100) : oShl (.int 1) (.int (a : Int)) g = .ok (.int ((2 ^ a : Nat) : Int)) g := by
  rw [oShl_c]
  · simp
  · unfold cShl
    rw [decide_eq_true (by omega), decide_eq_true]
    · rfl
    · show ((Nat.log2 1 : Nat) : Int) + a ≤ 1000000
      rw [show Nat.log2 1 = 0 by decide]
      omega
def cenF (p m a : Nat) : Bool := !(decide ((W p m (2 ^ a)).1 = (W p (2 ^ a) m).1) && decide ((W p m (2 ^ a)).2 = (W p (2 ^ a) m).2))
def cen (p n m : Nat) : List Nat := (List.range' 0 n).filter (cenF p m)
theorem keepF_int {F : Nat → Bool} {k : Nat} : keepF F (D.int (k : Int)) = if F k then some (D.int (k : Int)) else none := by
  unfold keepF
  dsimp only
  rw [Int.toNat_natCast]
theorem central_eq {p n m : Nat} {g : G} (hn : n ≤ 8) : f_law_is_central [.int (p : Int), .int (n : Int), .int (m : Int)] g = .ok (.bl (decide (cen p n m = []))) g := by
  generalize hx : D.bl (decide (cen p n m = [])) = x
  refine ok_of ?_
  unfold f_law_is_central
  generalize hds : [D.int (p : Int), .int (n : Int), .int (m : Int)] = ds
  refine wp_callS (by rw [← hds]; rfl) ?_
  rw [← hds]
  unfold b_law_is_central
  simp -implicitDefEqProofs only [wp_cons, wp_ret, wp_eOp, wp_eLc, wp_iRange1, eVar_0, eVar_succ, wp_ok, intP_i, wp_noEx, lcAll_fix, List.map, List.cons_append, List.nil_append, List.replicate]
  refine ⟨smallI_nat (by omega), ?_⟩
  have e : lcL (gvName 3) (eTst (eOp oNe (eCall f_law_times (aCons (eVar 0) (aCons (eVar 2) (aCons (eOp oShl (eC (.int 1)) (eVar 3)) aNil)))) (eCall f_law_times (aCons (eVar 0) (aCons (eOp oShl (eC (.int 1)) (eVar 3)) (aCons (eVar 2) aNil)))))) (eVar 3) (wipeD [some (.int (p : Int)), some (.int (n : Int)), some (.int (m : Int)), none] [3]) (rangeD 0 (n : Int).toNat) g = .ok ((rangeD 0 (n : Int).toNat).filterMap (keepF (cenF p m))) g := by
    refine lcL_F _ _ _ fun d hd => ?_
    obtain ⟨k, hk⟩ := List.getElem?_of_mem hd
    obtain ⟨hk8, rfl⟩ := rangeD_get _ _ _ _ hk
    rw [Int.zero_add, gvP_name]
    refine ⟨rfl, ?_⟩
    rw [keepF_int]
    have hs := shl1 (a := k) (g := g) (by omega)
    simp -implicitDefEqProofs only [wipeD_cons, wipeD_nil, List.set, wp_eTst, wp_eOp, wp_eCall, wp_aCons, eVar_0, eVar_succ, wp_ok, aNil_ok, eC_ok, hs, times_eq, oNe_pair, tstP_bl]
    show _ ∧ (cenF p m k) = _ ∧ _
    have hc : (!(decide ((W p m (2 ^ k)).1 = (W p (2 ^ k) m).1) && decide ((W p m (2 ^ k)).2 = (W p (2 ^ k) m).2))) = cenF p m k := rfl
    rw [hc]
    cases cenF p m k <;> simp
  rw [e, wp_ok, Int.toNat_natCast, show (0 : Int) = ((0 : Nat) : Int) from rfl, rangeD_filter]
  have hl : ((List.range' 0 n).filter (cenF p m)).length ≤ 8 := Nat.le_trans (List.length_filter_le _ _) (by rw [List.length_range']; exact hn)
  refine ⟨small_of (n := (cen p n m).length) (by rw [List.length_map]; rfl) (by unfold cen; omega), ?_⟩
  rw [wp_eLst, aNil_ok, wp_ok]
  refine ⟨rfl, ?_⟩
  rw [show ([] : List D) = natsD [] from rfl, oEq_nats, wp_ok]
  exact ⟨rfl, hx, rfl⟩
def due (p n : Nat) : List Nat := (List.range' 0 (2 ^ n)).filter fun m => decide (cen p n m = [])
end LW
namespace LW
open PySem PySem.Spec L2 AW
def dueOk (n : Nat) : Bool := (List.range (n + 1)).all fun p => decide (due p n = if n % 2 = 0 then [0] else [0, 2 ^ n - 1])
theorem due_all : (List.range 8).all dueOk = true := by decide +kernel
theorem due_eq {p n : Nat} (hp : p ≤ n) (hn : n ≤ 7) : due p n = if n % 2 = 0 then [0] else [0, 2 ^ n - 1] := by
  have h1 := List.all_eq_true.1 due_all n (List.mem_range.2 (by omega))
  exact of_decide_eq_true (List.all_eq_true.1 h1 p (List.mem_range.2 (by omega)))
def Pots (g : G) : Prop := ∀ x ∈ g, ∃ a b c : Int, x = .lst [.int a, .int b, .int c]
theorem pots_set {g : G} {i : Nat} {a b c : Int} (h : Pots g) : Pots (g.set i (.lst [.int a, .int b, .int c])) := fun x hx => by
  rcases List.mem_or_eq_of_mem_set hx with h1 | h1
  · exact h x h1
  · exact ⟨a, b, c, h1⟩
theorem pots_add {g : G} {a b c : Int} (h : Pots g) : Pots (g ++ [.lst [.int a, .int b, .int c]]) := fun x hx => by
  rcases List.mem_append.1 hx with h1 | h1
  · exact h x h1
  · exact ⟨a, b, c, List.mem_singleton.1 h1⟩
def Pot (i : Nat) (k : Int) (g : G) : Prop := ∃ a b c, g[i]? = some (.lst [.int a, .int b, .int c]) ∧ 0 ≤ a ∧ 0 ≤ b ∧ b < 1000000000000000000000000000 ∧ 0 ≤ c ∧ c ≤ k ∧ Pots g
theorem dip_wp {i : Nat} {k n : Int} {g : G} {Q : D → G → Prop} (h : Pot i k g) (hk : k < 1000000000) (h0 : 0 < n) (h1 : n < 1000000000000)
    (q : ∀ r g', 0 ≤ r → r < n → Pot i (k + 1) g' → g'.length = g.length → Q (.int r) g') : (f_law_dip [.ref i, .int n] g).wp Q := by
  obtain ⟨a, b, c, hg, ha, hb, hb', hc, hc', hps⟩ := h
  have e0 : oIx (.ref i) (.int 0) g = .ok (.int a) g := oIx_ref hg (n := 0) rfl rfl
  have e2 : oIx (.ref i) (.int 2) g = .ok (.int c) g := oIx_ref hg (n := 2) rfl rfl
  have f1 : oIx (.ref i) (.int 1) (g.set i (.lst [.int a, .int b, .int (c + 1)])) = .ok (.int b) _ := oIx_ref (get_set hg) (n := 1) rfl rfl
  have f2 : oIx (.ref i) (.int 2) (g.set i (.lst [.int a, .int b, .int (c + 1)])) = .ok (.int (c + 1)) _ := oIx_ref (get_set hg) (n := 2) rfl rfl
  refine wp_callS rfl ?_
  unfold b_law_dip
  have h2 : n ≤ 115792089237316195423570985008687907853269984665640564039457584007913129639936 := by omega
  simp -implicitDefEqProofs [e0, oMod_p, oFdiv_p, h0, h2, setP_at (j := 0) 0 hg rfl, setP_at (j := 2) 2 hg rfl, e2, f1, f2]
  refine pick_dec (fun h => ?_) fun h => ?_
  · exact q _ _ (Int.emod_nonneg _ (by omega)) (Int.emod_lt_of_pos _ h0) ⟨_, b, c, get_set hg, Int.ediv_nonneg ha (by omega), hb, hb', hc, by omega, pots_set hps⟩ (by simp)
  · have m1 := Int.emod_nonneg (b + 9109 * (c + 1)) (b := 2305843009213693951) (by omega)
    have m2 := Int.emod_lt_of_pos (b + 9109 * (c + 1)) (b := 2305843009213693951) (by omega)
    generalize (b + 9109 * (c + 1)) % 2305843009213693951 = x at m1 m2
    have m3 := Int.emod_nonneg (x * x + 239 * (c + 1)) (b := 2305843009213693967) (by omega)
    have m4 := Int.emod_lt_of_pos (x * x + 239 * (c + 1)) (b := 2305843009213693967) (by omega)
    refine ⟨cMul_b (by omega) (by omega) (by omega) (by omega), cMul_b (by omega) (by omega) (by omega) (by omega), cMul_b (by omega) (by omega) (by omega) (by omega), cMul_b (by omega) (by omega) (by omega) (by omega), ?_⟩
    exact q _ _ (Int.emod_nonneg _ (by omega)) (Int.emod_lt_of_pos _ h0) ⟨a, b, c + 1, get_set hg, ha, hb, hb', by omega, by omega, pots_set hps⟩ (by simp)
theorem get_last {g : G} {c : Cell} : (g ++ [c])[g.length]? = some c := by simp
theorem pot_wp {ns : List Int} {at' : Nat} {g : G} {Q : D → G → Prop} (ha : at' < 100) (hps : Pots g)
    (q : ∀ g', Pot g.length 0 g' → g'.length = g.length + 1 → Q (.ref g.length) g') : (f_law_pail [.seq (ns.map D.int), .int at'] g).wp Q := by
  refine wp_callK rfl ?_
  unfold b_law_pail
  rw [wp_cons, wp_set]
  refine Res.wp_mono (Q := fun d g' => g' = g ∧ ∃ v, d = .int v) ?_ ?_
  · simp -implicitDefEqProofs
    refine pick_dec (fun h => ?_) fun h => cMul_b (by omega) (by omega) (by omega) (by omega)
    have e : (ns.map D.int)[at']? = some (D.int (ns[at'])) := by simp [h]
    rw [oIx_seq e rfl]
    exact ⟨rfl, _, rfl⟩
  · rintro d g' ⟨rfl, v, rfl⟩
    have p1 : oPow (.int 10) (.int 51) = fun g => .ok (.int 1000000000000000000000000000000000000000000000000000) g := by funext g; exact oPow_c (by decide +kernel)
    have p2 : oPow (.int 1000000000000000000000000000000000000000000000000000) (.int 6) = fun g => .ok (.int (1000000000000000000000000000000000000000000000000000 ^ 6)) g := by funext g; exact oPow_c (by decide +kernel)
    have p3 : oPow (.int 10) (.int 16) = fun g => .ok (.int (10 ^ 16)) g := by funext g; exact oPow_c (by decide +kernel)
    have hp : (0 : Int) < 1000000000000000000000000000000000000000000000000000 ^ 6 := by decide +kernel
    generalize (1000000000000000000000000000000000000000000000000000 ^ 6 : Int) = gr at hp p2
    simp -implicitDefEqProofs [p1, p2, p3, oMod_p, hp]
    generalize ((if v < 0 then -v else v) % gr) = x
    have m3 := Int.emod_nonneg x (b := 2305843009213693921) (by omega)
    have m4 := Int.emod_lt_of_pos x (b := 2305843009213693921) (by omega)
    refine ⟨cMul_b (by omega) (by omega) (by omega) (by omega), cMul_b (by omega) (by omega) (by omega) (by omega), cMul_b (by omega) (by omega) (by split <;> omega) (by split <;> omega), by rfl, ?_⟩
    refine q _ ⟨_, _, _, get_last, ?_, ?_, ?_, by omega, by omega, pots_add hps⟩ (by simp) <;> repeat' split
    all_goals omega
abbrev pc (t : Int × Int × Int) : Cell := .lst [.int t.1, .int t.2.1, .int t.2.2]
theorem bits1 (c : Int × Int × Int) : ((List.range 256).map fun (m : Nat) => f_bits_of [.int (m : Int)] [pc c]) = (List.range 256).map fun (m : Nat) => .ok (.lst (natsD (lets m))) [pc c] := by kernel_rfl
theorem bits2 (c d : Int × Int × Int) : ((List.range 256).map fun (m : Nat) => f_bits_of [.int (m : Int)] [pc c, pc d]) = (List.range 256).map fun (m : Nat) => .ok (.lst (natsD (lets m))) [pc c, pc d] := by kernel_rfl
theorem bits3 (c d e : Int × Int × Int) : ((List.range 256).map fun (m : Nat) => f_bits_of [.int (m : Int)] [pc c, pc d, pc e]) = (List.range 256).map fun (m : Nat) => .ok (.lst (natsD (lets m))) [pc c, pc d, pc e] := by kernel_rfl
theorem bits_eq {m : Nat} {g : G} (hm : m < 256) (h1 : 1 ≤ g.length) (h2 : g.length ≤ 3) (hg : Pots g) : f_bits_of [.int (m : Int)] g = .ok (.lst (natsD (lets m))) g := by
  match g, h1, h2, hg with
  | [c], _, _, hg =>
    obtain ⟨a1, a2, a3, rfl⟩ := hg c (by simp)
    exact List.map_inj_left.1 (bits1 (a1, a2, a3)) m (List.mem_range.2 hm)
  | [c, d], _, _, hg =>
    obtain ⟨a1, a2, a3, rfl⟩ := hg c (by simp)
    obtain ⟨b1, b2, b3, rfl⟩ := hg d (by simp)
    exact List.map_inj_left.1 (bits2 (a1, a2, a3) (b1, b2, b3)) m (List.mem_range.2 hm)
  | [c, d, e], _, _, hg =>
    obtain ⟨a1, a2, a3, rfl⟩ := hg c (by simp)
    obtain ⟨b1, b2, b3, rfl⟩ := hg d (by simp)
    obtain ⟨c1, c2, c3, rfl⟩ := hg e (by simp)
    exact List.map_inj_left.1 (bits3 (a1, a2, a3) (b1, b2, b3) (c1, c2, c3)) m (List.mem_range.2 hm)
end LW
namespace LW
open PySem PySem.Spec L2 AW
def swN (a b : Nat) : List Nat := (lets b).map fun y => ((lets a).filter fun x => decide (y < x)).length
def shN (p a b : Nat) : Nat := ((lets a).filter fun x => decide (x ∈ lets b) && decide (p ≤ x)).length
def S (p a b : Nat) : Int := if decide ((((swN a b).map fun (n : Nat) => (n : Int)).sum + (shN p a b : Int)) % 2 = 0) = true then 1 else -1
theorem inner_eq {p a b y : Nat} {x0 x1 x2 x3 x4 : Option D} {fb : D} {g : G} :
    eCall fLen (aCons (eLc (iSeq (eVar 5)) (gvName 8) (eTst (eOp oGt (eVar 8) (eVar 7))) (eVar 8) [8]) aNil) [x0, x1, x2, x3, x4, some (.lst (natsD (lets a))), some fb, some (.int (y : Int)), none] g = .ok (.int ((((lets a).filter fun x => decide (y < x)).length : Nat) : Int)) g := by
  refine ok_of ?_
  have la := lets_len a
  have e : lcL (gvName 8) (eTst (eOp oGt (eVar 8) (eVar 7))) (eVar 8) [x0, x1, x2, x3, x4, some (.lst (natsD (lets a))), some fb, some (.int (y : Int)), none] (natsD (lets a)) g = .ok ((natsD (lets a)).filterMap (keepF fun x => decide (y < x))) g := by
    refine lcL_F _ _ _ fun d hd => ?_
    obtain ⟨k, _, rfl⟩ := List.mem_map.1 hd
    rw [gvP_name]
    refine ⟨rfl, ?_⟩
    rw [keepF_int]
    have hc : decide ((y : Int) < (k : Int)) = decide (y < k) := by
      rw [Bool.eq_iff_iff, decide_eq_true_iff, decide_eq_true_iff]
      omega
    simp -implicitDefEqProofs only [List.set, wp_eTst, wp_eOp, eVar_0, eVar_succ, wp_ok, oGt_ii, tstP_bl, hc]
    cases decide (y < k) <;> simp
  simp -implicitDefEqProofs only [wp_eCall, wp_aCons, wp_eLc, wp_iSeq, eVar_0, eVar_succ, wp_ok, ivOf_lst, wp_noEx, lcAll_fix, wipeD_cons, wipeD_nil, List.set]
  rw [e, wp_ok, nats_keep]
  have hl := List.length_filter_le (fun x => decide (y < x)) (lets a)
  refine ⟨small_of rfl (by rw [List.length_map]; omega), ?_⟩
  rw [aNil_ok, wp_ok, fLen_lst, List.length_map]
  exact ⟨rfl, rfl⟩
theorem psign_eq {p a b : Nat} {g : G} (ha : a < 256) (hb : b < 256) (h1 : 1 ≤ g.length) (h2 : g.length ≤ 3) (hg : Pots g) : f_product_sign [.int (p : Int), .int (a : Int), .int (b : Int)] g = .ok (.int (S p a b)) g := by
  have la := lets_len a
  have lb := lets_len b
  generalize hx : D.int (S p a b) = x
  refine ok_of ?_
  unfold f_product_sign
  generalize hds : [D.int (p : Int), .int (a : Int), .int (b : Int)] = ds
  refine wp_callS (by rw [← hds]; rfl) ?_
  rw [← hds]
  unfold b_product_sign
  have hs2 : small [D.lst (natsD (lets a)), D.lst (natsD (lets b))] = true := rfl
  have eo : lcL (gvName 7) tvYes (eCall fLen (aCons (eLc (iSeq (eVar 5)) (gvName 8) (eTst (eOp oGt (eVar 8) (eVar 7))) (eVar 8) [8]) aNil)) [some (D.int (p : Int)), some (.int (a : Int)), some (.int (b : Int)), none, none, some (.lst (natsD (lets a))), some (.lst (natsD (lets b))), none, none] (natsD (lets b)) g = .ok ((natsD (lets b)).map fun d => match d with | .int y => .int ((((lets a).filter fun x => decide (y.toNat < x)).length : Nat) : Int) | d => d) g := by
    refine lcL_map _ _ _ fun d hd => ?_
    obtain ⟨y, _, rfl⟩ := List.mem_map.1 hd
    refine ⟨_, rfl, ?_⟩
    show eCall _ _ [some (D.int (p : Int)), some (.int (a : Int)), some (.int (b : Int)), none, none, some (.lst (natsD (lets a))), some (.lst (natsD (lets b))), some (.int (y : Int)), none] g = _
    rw [inner_eq (p := p) (b := b)]
    simp
  have es : lcL (gvName 8) (eAndT (eTst (eOp (oIn false) (eVar 8) (eVar 6))) (eTst (eOp oGe (eVar 8) (eVar 0)))) (eVar 8) [some (D.int (p : Int)), some (.int (a : Int)), some (.int (b : Int)), some (.int ((swN a b).map fun (n : Nat) => (n : Int)).sum), none, some (.lst (natsD (lets a))), some (.lst (natsD (lets b))), none, none] (natsD (lets a)) g = .ok ((natsD (lets a)).filterMap (keepF fun x => decide (x ∈ lets b) && decide (p ≤ x))) g := by
    refine lcL_F _ _ _ fun d hd => ?_
    obtain ⟨k, _, rfl⟩ := List.mem_map.1 hd
    rw [gvP_name]
    refine ⟨rfl, ?_⟩
    rw [keepF_int]
    have hc : decide ((p : Int) ≤ (k : Int)) = decide (p ≤ k) := by
      rw [Bool.eq_iff_iff, decide_eq_true_iff, decide_eq_true_iff]
      omega
    simp -implicitDefEqProofs only [List.set, wp_eAndT, wp_eTst, wp_eOp, eVar_0, eVar_succ, wp_ok, oIn_nats, oGe_ii, tstP_bl, hc]
    cases decide (k ∈ lets b) <;> cases decide (p ≤ k) <;> simp
  have ea := bits_eq (m := a) ha h1 h2 hg
  have eb := bits_eq (m := b) hb h1 h2 hg
  simp -implicitDefEqProofs only [wp_cons, wp_asg, wp_eTup, wp_aCons, wp_eCall, eVar_0, eVar_succ, wp_ok, aNil_ok, ea, eb, hs2, gvP_tup, gvP_cons, gvP_name, gvP_nil, List.length_cons, List.length_nil, List.map, List.cons_append, List.nil_append, List.replicate, List.set, true_and, ite_true, wp_set, wp_eLc, wp_iSeq, ivOf_lst, wp_noEx, lcAll_fix, wipeD_cons, wipeD_nil]
  have em : ((natsD (lets b)).map fun d => match d with | .int y => .int ((((lets a).filter fun x => decide (y.toNat < x)).length : Nat) : Int) | d => d) = (swN a b).map fun (n : Nat) => D.int (n : Int) := by
    unfold swN
    rw [List.map_map, List.map_map]
    refine List.map_congr_left fun y _ => ?_
    show D.int ((((lets a).filter fun x => decide ((y : Int).toNat < x)).length : Nat) : Int) = _
    rw [Int.toNat_natCast]
    rfl
  rw [eo, wp_ok, em]
  refine ⟨small_of rfl (by rw [List.length_map]; unfold swN; rw [List.length_map]; omega), ?_⟩
  rw [fSum_nats, wp_ok, es, wp_ok, nats_keep]
  refine ⟨small_of rfl (by rw [List.length_map]; have := List.length_filter_le (fun x => decide (x ∈ lets b) && decide (p ≤ x)) (lets a); omega), ?_⟩
  have hm : oMod (.int (((swN a b).map fun (n : Nat) => (n : Int)).sum + (shN p a b : Int))) (.int 2) g = .ok (.int ((((swN a b).map fun (n : Nat) => (n : Int)).sum + (shN p a b : Int)) % 2)) g := oMod_p (by omega)
  unfold shN at hm
  simp -implicitDefEqProofs only [fLen_lst, wp_ok, List.length_map, wp_ret, wp_eIf, wp_eTst, wp_eOp, wp_eUn, eVar_0, eVar_succ, eC_ok, oAdd_ii, hm, oEq_ii, tstP_bl, oNeg_i]
  rw [← hx]
  unfold S shN
  cases decide ((((swN a b).map fun (n : Nat) => (n : Int)).sum + ((((lets a).filter fun x => decide (x ∈ lets b) && decide (p ≤ x)).length : Nat) : Int)) % 2 = 0) <;> simp
theorem isint_eq {n : Int} {g : G} (h1 : -1000 ≤ n) (h2 : n ≤ 100000) : f_is_integer [.int n] g = .ok (.bl true) g := by
  refine ok_of (wp_callS rfl ?_)
  unfold b_is_integer
  simp -implicitDefEqProofs
  refine wp_callS rfl ?_
  unfold b_is_whole
  have i1 : fIsi .int (.int n) = fun g => .ok (.bl true) g := rfl
  have i2 : fIsi .bl (.int n) = fun g => .ok (.bl false) g := rfl
  have d1 : (-1000000000000000000000000000000000000000000000000000000000000 < n) := by omega
  have d2 : (n < 1000000000000000000000000000000000000000000000000000000000000) := by omega
  simp -implicitDefEqProofs [i1, i2, d1, d2]
theorem units_eq {p m : Nat} {g : G} (hp : p ≤ 8) (hm : m ≤ 8) : f_require_units [.int (p : Int), .int (m : Int)] g = .ok .non g := by
  refine ok_of (wp_callS rfl ?_)
  unfold b_require_units
  rw [wp_cons]
  refine wp_forF ?_
  have e1 := isint_eq (n := (p : Int)) (g := g) (by omega) (by omega)
  have e2 := isint_eq (n := (m : Int)) (g := g) (by omega) (by omega)
  have l1 : (p : Int) ≤ 8 := by omega
  have l2 : (m : Int) ≤ 8 := by omega
  have hs : small [D.int (p : Int), .int (m : Int)] = true := rfl
  simp -implicitDefEqProofs [hs]
  simp -implicitDefEqProofs [e1, e2, l1, l2]
theorem few_eq {p m : Nat} {g : G} (h : p + m ≤ 8) : f_require_few [.int (p : Int), .int (m : Int)] g = .ok .non g := by
  refine ok_of (wp_callS rfl ?_)
  unfold b_require_few
  have l1 : ¬ (8 < (p : Int) + (m : Int)) := by omega
  simp -implicitDefEqProofs [l1]
theorem shl2 {p m : Nat} {g : G} (h : p + m ≤ 8) : oShl (.int 1) (.int ((p : Int) + (m : Int))) g = .ok (.int ((2 ^ (p + m) : Nat) : Int)) g := by
  rw [show (p : Int) + (m : Int) = ((p + m : Nat) : Int) by omega]
  exact shl1 (by omega)
theorem product_eq {p m a b : Nat} {g : G} (h : p + m ≤ 8) (ha : a < 2 ^ (p + m)) (hb : b < 2 ^ (p + m)) (h1 : 1 ≤ g.length) (h2 : g.length ≤ 3) (hg : Pots g) :
    f_word_product [.int (p : Int), .int (m : Int), .int (a : Int), .int (b : Int)] g = .ok (.tup [.int (S p a b), .int (Builtin.bitXor (a : Int) (b : Int))]) g := by
  have h256 : 2 ^ (p + m) ≤ 2 ^ 8 := Nat.pow_le_pow_right (by omega) h
  have hps := psign_eq (p := p) (a := a) (b := b) (g := g) (by omega) (by omega) h1 h2 hg
  have e1 := isint_eq (n := (a : Int)) (g := g) (by omega) (by omega)
  have e2 := isint_eq (n := (b : Int)) (g := g) (by omega) (by omega)
  have eu := units_eq (p := p) (m := m) (g := g) (by omega) (by omega)
  have ef := few_eq (g := g) h
  have esh := shl2 (g := g) h
  have l1 : (a : Int) < ((2 ^ (p + m) : Nat) : Int) := by omega
  have l2 : (b : Int) < ((2 ^ (p + m) : Nat) : Int) := by omega
  have hs : small [D.int (a : Int), .int (b : Int)] = true := rfl
  have hs2 : ∀ x y : Int, small [D.int x, .int y] = true := fun _ _ => rfl
  generalize ((2 ^ (p + m) : Nat) : Int) = top' at esh l1 l2
  generalize hx : D.tup [.int (S p a b), .int (Builtin.bitXor (a : Int) (b : Int))] = x
  refine ok_of ?_
  unfold f_word_product
  generalize hds : [D.int (p : Int), .int (m : Int), .int (a : Int), .int (b : Int)] = ds
  refine wp_callS (by rw [← hds]; rfl) ?_
  rw [← hds]
  unfold b_word_product
  simp -implicitDefEqProofs only [wp_cons, wp_expr, wp_eCall, wp_aCons, eVar_0, eVar_succ, wp_ok, aNil_ok, eu, List.map, List.cons_append, List.nil_append, List.replicate]
  refine wp_forF ?_
  simp -implicitDefEqProofs [hs, hs2, e1, e2, eu, ef, esh, l1, l2, hps]
  exact hx
end LW
namespace LW
open PySem PySem.Spec L2 AW
def cenL (n : Nat) : List Nat := if n % 2 = 0 then [0] else [0, 2 ^ n - 1]
theorem cenL_lt {n : Nat} : ∀ x ∈ cenL n, x < 2 ^ n := by
  have h : 0 < 2 ^ n := Nat.pow_pos (by omega)
  intro x
  unfold cenL
  split
  · intro hx
    rw [List.mem_singleton.1 hx]
    exact h
  · intro hx
    rcases List.mem_cons.1 hx with h1 | h1
    · omega
    · have := List.mem_singleton.1 h1
      omega
theorem cenL_len {n : Nat} : (cenL n).length ≤ 2 := by
  unfold cenL
  split <;> simp
theorem sub1 {n : Nat} : ((2 ^ n : Nat) : Int) - 1 = ((2 ^ n - 1 : Nat) : Int) := by
  have h : 0 < 2 ^ n := Nat.pow_pos (by omega)
  omega
theorem world_eq {p m : Nat} {g : G} (h : p + m ≤ 8) : f_require_world [.int (p : Int), .int (m : Int)] g = .ok .non g := by
  refine ok_of (wp_callS rfl ?_)
  unfold b_require_world
  simp -implicitDefEqProofs [units_eq (p := p) (m := m) (g := g) (by omega) (by omega), few_eq (g := g) h]
theorem centre_eq {p m : Nat} {g : G} (h : p + m ≤ 8) : f_centre [.int (p : Int), .int (m : Int)] g = .ok (.tup (natsD (cenL (p + m)))) g := by
  have ew := world_eq (g := g) h
  have esh := shl1 (a := p + m) (g := g) (by omega)
  have hm : oMod (.int ((p + m : Nat) : Int)) (.int 2) g = .ok (.int (((p + m) % 2 : Nat) : Int)) g := by
    rw [oMod_p (by omega)]
    simp
  have ep : (p : Int) + (m : Int) = ((p + m : Nat) : Int) := by omega
  have hs1 : small [D.int 0] = true := rfl
  have hs2 : ∀ x y : Int, small [D.int x, .int y] = true := fun _ _ => rfl
  generalize hx : D.tup (natsD (cenL (p + m))) = x
  refine ok_of (wp_callS rfl ?_)
  unfold b_centre
  simp -implicitDefEqProofs only [wp_cons, wp_expr, wp_eCall, wp_aCons, eVar_0, eVar_succ, wp_ok, aNil_ok, ew, List.map, List.cons_append, List.nil_append, List.replicate, wp_set, wp_eOp, oAdd_ii, List.set, ep, wp_ret, wp_eIf, wp_eTst, eC_ok, hm, oEq_ii, tstP_bl, wp_eTup, hs1, hs2, esh, oSub_ii, true_and, sub1]
  rw [← hx]
  refine pick_dec (fun h => ?_) fun h => ?_
  · refine ⟨?_, trivial⟩
    unfold cenL
    rw [if_pos (by omega)]
    rfl
  · refine ⟨?_, trivial⟩
    unfold cenL
    rw [if_neg (by omega)]
    rfl
def prodOk (n : Nat) : Bool := (List.range (n + 1)).all fun p => ((cenL n).all fun a => (List.range (2 ^ n)).all fun o => decide (S p a o = S p o a) && decide (Builtin.bitXor (a : Int) (o : Int) = Builtin.bitXor (o : Int) (a : Int)))
  && (decide (n % 2 = 0) || (decide (S p (2 ^ n - 1) (2 ^ n - 1) = if decide (((p : Int) - ((n - p : Nat) : Int)) % 4 = 1) = true then 1 else -1) && decide (Builtin.bitXor ((2 ^ n - 1 : Nat) : Int) ((2 ^ n - 1 : Nat) : Int) = 0)))
theorem prod_all : (List.range 8).all prodOk = true := by decide +kernel
theorem prod_eq {p m a o : Nat} (h : p + m ≤ 7) (ha : a ∈ cenL (p + m)) (ho : o < 2 ^ (p + m)) : S p a o = S p o a ∧ Builtin.bitXor (a : Int) (o : Int) = Builtin.bitXor (o : Int) (a : Int) := by
  have h1 := List.all_eq_true.1 prod_all (p + m) (List.mem_range.2 (by omega))
  have h2 := List.all_eq_true.1 h1 p (List.mem_range.2 (by omega))
  rw [Bool.and_eq_true] at h2
  have h3 := List.all_eq_true.1 (List.all_eq_true.1 h2.1 a ha) o (List.mem_range.2 ho)
  rw [Bool.and_eq_true] at h3
  exact ⟨of_decide_eq_true h3.1, of_decide_eq_true h3.2⟩
theorem end_eq {p m : Nat} (h : p + m ≤ 7) (hn : ¬ (p + m) % 2 = 0) : S p (2 ^ (p + m) - 1) (2 ^ (p + m) - 1) = (if decide (((p : Int) - (m : Int)) % 4 = 1) = true then 1 else -1) ∧ Builtin.bitXor ((2 ^ (p + m) - 1 : Nat) : Int) ((2 ^ (p + m) - 1 : Nat) : Int) = 0 := by
  have h1 := List.all_eq_true.1 prod_all (p + m) (List.mem_range.2 (by omega))
  have h2 := List.all_eq_true.1 h1 p (List.mem_range.2 (by omega))
  rw [Bool.and_eq_true] at h2
  have h3 := h2.2
  rw [decide_eq_false hn, Bool.false_or, Bool.and_eq_true] at h3
  have h4 := of_decide_eq_true h3.1
  rw [show p + m - p = m by omega] at h4
  exact ⟨h4, of_decide_eq_true h3.2⟩
theorem fList_tup {xs : List D} {g : G} : fList [.tup xs] g = .ok (.lst xs) g := rfl
def forI (i p m o : Nat) (g2 : G) (_ : Nat) (σ : Sg) (g : G) : Prop := g = g2 ∧ ∃ c : Option D, σ = [some (.ref i), some (.int (p : Int)), some (.int (m : Int)), some (.int ((p + m : Nat) : Int)), some (.lst (natsD (cenL (p + m)))), some (.tup (natsD (cenL (p + m)))), some (.int (o : Int)), c]
theorem right_wp {i p m : Nat} {k : Int} {g : G} {Q : D → G → Prop} (h : Pot i k g) (hk : k < 100000) (hn : p + m ≤ 7) (h1 : 1 ≤ g.length) (h2 : g.length ≤ 3)
    (q : ∀ g', Pot i (k + 1) g' → g'.length = g.length → Q (.bl true) g') : (f_law_right [.ref i, .int (p : Int), .int (m : Int)] g).wp Q := by
  unfold f_law_right
  generalize hds : [D.ref i, .int (p : Int), .int (m : Int)] = ds
  refine wp_callS (by rw [← hds]; rfl) ?_
  rw [← hds]
  unfold b_law_right
  have ep : (p : Int) + (m : Int) = ((p + m : Nat) : Int) := by omega
  have esh := fun g => shl1 (a := p + m) (g := g) (by omega)
  have h128 : 2 ^ (p + m) ≤ 2 ^ 7 := Nat.pow_le_pow_right (by omega) hn
  have hsm : smallI ((2 ^ (p + m) : Nat) : Int) = true := smallI_nat (by omega)
  have e : lcL (gvName 7) (eTru (eCall f_law_is_central (aCons (eVar 1) (aCons (eVar 3) (aCons (eVar 7) aNil))))) (eVar 7) [some (.ref i), some (.int (p : Int)), some (.int (m : Int)), some (.int ((p + m : Nat) : Int)), none, none, none, none] (rangeD 0 ((2 ^ (p + m) : Nat) : Int).toNat) g = .ok ((rangeD 0 ((2 ^ (p + m) : Nat) : Int).toNat).filterMap (keepF fun a => decide (cen p (p + m) a = []))) g := by
    refine lcL_F _ _ _ fun d hd => ?_
    obtain ⟨j, hj⟩ := List.getElem?_of_mem hd
    obtain ⟨hj8, rfl⟩ := rangeD_get _ _ _ _ hj
    rw [Int.zero_add, gvP_name]
    refine ⟨rfl, ?_⟩
    rw [keepF_int]
    have hc := central_eq (p := p) (n := p + m) (m := j) (g := g) (by omega)
    simp -implicitDefEqProofs only [List.set, wp_eTru, wp_eCall, wp_aCons, eVar_0, eVar_succ, wp_ok, aNil_ok, hc, truP_bl]
    cases decide (cen p (p + m) j = []) <;> simp
  have hr : (rangeD 0 (2 ^ (p + m))).filterMap (keepF fun a => decide (cen p (p + m) a = [])) = natsD ((List.range' 0 (2 ^ (p + m))).filter fun a => decide (cen p (p + m) a = [])) := rangeD_filter (fun a => decide (cen p (p + m) a = [])) (2 ^ (p + m)) 0
  have hdue : (List.range' 0 (2 ^ (p + m))).filter (fun a => decide (cen p (p + m) a = [])) = cenL (p + m) := due_eq (p := p) (n := p + m) (by omega) hn
  rw [Int.toNat_natCast, hr, hdue] at e
  simp -implicitDefEqProofs only [wp_cons, wp_set, wp_eOp, eVar_0, eVar_succ, wp_ok, oAdd_ii, ep, List.map, List.cons_append, List.nil_append, List.replicate, List.set, wp_eLc, wp_iRange1, eC_ok, esh, intP_i, hsm, true_and, wp_noEx, lcAll_fix, wipeD_cons, wipeD_nil, Int.toNat_natCast]
  rw [e, wp_ok]
  refine ⟨small_of rfl (by rw [List.length_map]; have := cenL_len (n := p + m); omega), ?_⟩
  have hc := centre_eq (p := p) (m := m) (g := g) (by omega)
  have hm : ∀ g : G, oMod (.int ((p + m : Nat) : Int)) (.int 2) g = .ok (.int (((p + m) % 2 : Nat) : Int)) g := fun g => by
    rw [oMod_p (by omega)]
    simp
  simp -implicitDefEqProofs only [wp_eCall, wp_aCons, eVar_0, eVar_succ, wp_ok, aNil_ok, hc]
  have hpos : 0 < 2 ^ (p + m) := Nat.pow_pos (by omega)
  refine SRes.wp_mono (N := fun σ g1 => g1 = g ∧ σ = [some (.ref i), some (.int (p : Int)), some (.int (m : Int)), some (.int ((p + m : Nat) : Int)), some (.lst (natsD (cenL (p + m)))), some (.tup (natsD (cenL (p + m)))), none, none]) (R := fun _ _ => False) (B := fun _ _ => False) (C := fun _ _ => False) ?_ ?_ (fun _ _ h => h.elim) (fun _ _ h => h.elim) fun _ _ h => h.elim
  · have hne : ∀ g : G, oNe (.tup (natsD (cenL (p + m)))) (if (p + m) % 2 = 0 then .tup [.int 0] else .tup [.int 0, .int ((2 ^ (p + m) - 1 : Nat) : Int)]) g = .ok (.bl false) g := fun g => by
      unfold cenL
      by_cases hz : (p + m) % 2 = 0
      · rw [if_pos hz, if_pos hz]
        rfl
      · rw [if_neg hz, if_neg hz]
        show oNe (.tup [.int 0, .int ((2 ^ (p + m) - 1 : Nat) : Int)]) _ g = _
        rw [oNe_pair]
        simp
    have hs1 : small [D.int 0] = true := rfl
    have hs2 : ∀ x y : Int, small [D.int x, .int y] = true := fun _ _ => rfl
    simp -implicitDefEqProofs only [wp_if, wp_eOrT, wp_eTst, wp_eOp, wp_eCall, wp_aCons, eVar_0, eVar_succ, wp_ok, aNil_ok, fList_tup, oNe_nats, decide_true, Bool.not_true, tstP_bl, pick_f, wp_eIf, fInt_i, hm, eC_ok, oEq_ii, wp_eTup, hs1, hs2, esh, oSub_ii, true_and, sub1, wp_nil]
    refine pick_dec (fun hz => ?_) fun hz => ?_
    · have := hne g
      rw [if_pos (by omega)] at this
      rw [this, wp_ok, tstP_bl, pick_f]
      exact ⟨rfl, trivial⟩
    · have := hne g
      rw [if_neg (by omega)] at this
      rw [this, wp_ok, tstP_bl, pick_f]
      exact ⟨rfl, trivial⟩
  · rintro σ g1 ⟨rfl, rfl⟩
    have hpg := h
    simp -implicitDefEqProofs only [wp_eCall, wp_aCons, wp_eOp, eVar_0, eVar_succ, wp_ok, aNil_ok, eC_ok, esh]
    refine dip_wp h (by omega) (by omega) (by omega) fun y g2 hy0 hy1 h3 l3 => ?_
    obtain ⟨o, rfl⟩ : ∃ o : Nat, y = (o : Int) := ⟨y.toNat, by omega⟩
    have ho : o < 2 ^ (p + m) := by omega
    have hps : Pots g2 := by
      obtain ⟨_, _, _, _, _, _, _, _, _, hps⟩ := h3
      exact hps
    simp -implicitDefEqProofs only [List.set]
    generalize e0 : [some (D.ref i), some (.int (p : Int)), some (.int (m : Int)), some (.int ((p + m : Nat) : Int)), some (.lst (natsD (cenL (p + m)))), some (.tup (natsD (cenL (p + m)))), some (.int (o : Int)), none] = s0
    refine wp_for (forI i p m o g2) (fun xs => xs = natsD (cenL (p + m))) ?_ ?_ ?_
    · rw [← e0, wp_iSeq, eVar_succ, eVar_succ, eVar_succ, eVar_succ, eVar_succ, eVar_0, wp_ok, ivOf_tup, wp_ok]
      exact ⟨_, rfl, rfl, rfl, _, rfl⟩
    · rintro xs j σ g3 d rfl hd ⟨rfl, c, rfl⟩
      obtain ⟨a, ha, rfl⟩ := List.mem_map.1 (List.mem_of_getElem? hd)
      have q1 := product_eq (p := p) (m := m) (a := a) (b := o) (g := g3) (by omega) (cenL_lt a ha) ho (by omega) (by omega) hps
      have q2 := product_eq (p := p) (m := m) (a := o) (b := a) (g := g3) (by omega) ho (cenL_lt a ha) (by omega) (by omega) hps
      obtain ⟨r1, r2⟩ := prod_eq hn ha ho
      rw [gvP_name]
      simp -implicitDefEqProofs only [List.set, wp_cons, wp_if, wp_eTst, wp_eOp, wp_eCall, wp_aCons, eVar_0, eVar_succ, wp_ok, aNil_ok, q1, q2, oNe_pair, r1, r2, decide_true, Bool.and_self, Bool.not_true, tstP_bl, pick_f, wp_nil]
      exact ⟨rfl, _, rfl⟩
    · rintro xs σ g3 rfl ⟨rfl, c, rfl⟩
      by_cases hz : (p + m) % 2 = 0
      · have hL : (natsD (cenL (p + m))).length = 1 := by
          unfold cenL
          rw [if_pos hz]
          rfl
        simp -implicitDefEqProofs only [wp_if, wp_cons, wp_ret, wp_eTst, wp_eOp, wp_eCall, wp_aCons, eVar_0, eVar_succ, wp_ok, aNil_ok, fLen_tup, hL, eC_ok, oEq_ii, tstP_bl]
        exact ⟨l3, q _ h3 l3⟩
      · have hL : (natsD (cenL (p + m))).length = 2 := by
          unfold cenL
          rw [if_neg hz]
          rfl
        have hfull : 2 ^ (p + m) - 1 < 2 ^ (p + m) := by omega
        have hix : oIx (.tup (natsD (cenL (p + m)))) (.int 1) g3 = .ok (.int ((2 ^ (p + m) - 1 : Nat) : Int)) g3 := by
          refine oIx_tup (n := 1) ?_ rfl
          unfold cenL
          rw [if_neg hz]
          rfl
        have q3 := product_eq (p := p) (m := m) (a := 2 ^ (p + m) - 1) (b := 2 ^ (p + m) - 1) (g := g3) (by omega) hfull hfull (by omega) (by omega) hps
        obtain ⟨r1, r2⟩ := end_eq hn hz
        rw [r1, r2] at q3
        have hm4 : oMod (.int ((p : Int) - (m : Int))) (.int 4) g3 = .ok (.int (((p : Int) - (m : Int)) % 4)) g3 := oMod_p (by omega)
        have hs2 : ∀ x y : Int, small [D.int x, .int y] = true := fun _ _ => rfl
        have h21 : decide ((((2 : Nat) : Int)) = 1) = false := rfl
        simp -implicitDefEqProofs only [wp_if, wp_cons, wp_ret, wp_eTst, wp_eOp, wp_eUn, wp_eCall, wp_aCons, eVar_0, eVar_succ, wp_ok, aNil_ok, fLen_tup, hL, eC_ok, oEq_ii, tstP_bl, h21, pick_f, wp_nil, hix, q3, wp_eTup, wp_eIf, oSub_ii, fInt_i, hm4, oNeg_i]
        cases decide (((p : Int) - (m : Int)) % 4 = 1)
        · rw [pick_f]
          refine ⟨hs2 _ _, ?_⟩
          rw [oEq_pair, wp_ok]
          exact ⟨l3, q _ h3 l3⟩
        · rw [pick_t]
          refine ⟨hs2 _ _, ?_⟩
          rw [oEq_pair, wp_ok]
          exact ⟨l3, q _ h3 l3⟩
end LW
namespace LW
open PySem PySem.Spec L2 AW
def tl : Sx := (sCons (sSet 2 (eLst (aCons (eCall f_centre (aCons (eC (.int 0)) (aCons (eC (.int 2)) aNil))) (aCons (eCall f_centre (aCons (eC (.int 0)) (aCons (eC (.int 3)) aNil))) (aCons (eCall f_centre (aCons (eC (.int 0)) (aCons (eC (.int 0)) aNil))) (aCons (eCall f_centre (aCons (eC (.int 8)) (aCons (eC (.int 0)) aNil))) (aCons (eCall f_centre (aCons (eC (.int 3)) (aCons (eC (.int 4)) aNil))) aNil)))))))
  (sCons (sRet (eOp oEq (eVar 2) (eLst (aCons (eTup (aCons (eC (.int 0)) aNil)) (aCons (eTup (aCons (eC (.int 0)) (aCons (eC (.int 7)) aNil))) (aCons (eTup (aCons (eC (.int 0)) aNil)) (aCons (eTup (aCons (eC (.int 0)) aNil)) (aCons (eTup (aCons (eC (.int 0)) (aCons (eC (.int 127)) aNil))) aNil))))))))
  sNil))
theorem tl_eq {x a b c d : Option D} {g : G} : tl [x, a, none, b, c, d] g = .rt (.bl true) g := by
  have e1 := centre_eq (p := 0) (m := 2) (g := g) (by omega)
  have e2 := centre_eq (p := 0) (m := 3) (g := g) (by omega)
  have e3 := centre_eq (p := 0) (m := 0) (g := g) (by omega)
  have e4 := centre_eq (p := 8) (m := 0) (g := g) (by omega)
  have e5 := centre_eq (p := 3) (m := 4) (g := g) (by omega)
  have h : (tl [x, a, none, b, c, d] g).wp (fun _ _ => False) (fun y g' => y = .bl true ∧ g' = g) (fun _ _ => False) fun _ _ => False := by
    unfold tl
    have f1 : f_centre [.int 0, .int 2] g = .ok (.tup [.int 0]) g := e1
    have f2 : f_centre [.int 0, .int 3] g = .ok (.tup [.int 0, .int 7]) g := e2
    have f3 : f_centre [.int 0, .int 0] g = .ok (.tup [.int 0]) g := e3
    have f4 : f_centre [.int 8, .int 0] g = .ok (.tup [.int 0]) g := e4
    have f5 : f_centre [.int 3, .int 4] g = .ok (.tup [.int 0, .int 127]) g := e5
    have s1 : small [D.int 0] = true := rfl
    have s2 : ∀ x y : Int, small [D.int x, .int y] = true := fun _ _ => rfl
    have s5 : ∀ a b c d e : D, small [a, b, c, d, e] = true := fun _ _ _ _ _ => rfl
    have eq : oEq (.lst [.tup [.int 0], .tup [.int 0, .int 7], .tup [.int 0], .tup [.int 0], .tup [.int 0, .int 127]]) (.lst [.tup [.int 0], .tup [.int 0, .int 7], .tup [.int 0], .tup [.int 0], .tup [.int 0, .int 127]]) g = .ok (.bl true) g := rfl
    simp -implicitDefEqProofs only [wp_cons, wp_set, wp_eLst, wp_eCall, wp_aCons, eC_ok, aNil_ok, wp_ok, f1, f2, f3, f4, f5, s5, s1, s2, List.set, wp_ret, wp_eOp, eVar_0, eVar_succ, wp_eTup, eq, true_and]
  revert h
  cases tl [x, a, none, b, c, d] g <;> intro h <;> first | (obtain ⟨rfl, rfl⟩ := h; rfl) | exact h.elim
def inI (ns : List Int) (k o : Nat) (t : Nat) (σ : Sg) (g' : G) : Prop := (∃ d, σ = [some (.seq (ns.map D.int)), some (.int (k : Int)), none, some (.ref k), some (.int (o : Int)), d]) ∧ Pot k (1 + t) g' ∧ g'.length = k + 1
theorem pure : ∀ ns : List Int, ns.length ≤ 63 → ∃ g, f_law [.seq (ns.map D.int)] [] = .ok (.bl true) g := by
  intro ns hl
  suffices h : (f_law [.seq (ns.map D.int)] []).wp (fun d _ => d = .bl true) by
    obtain ⟨d, g, h1, h2⟩ := Res.wp_eq h
    exact ⟨g, by rw [h1, h2]⟩
  refine wp_callD rfl ?_
  unfold b_law
  refine wp_cut (fun σ g => ∃ a b c d, σ = [some (.seq (ns.map D.int)), a, none, b, c, d]) ?_ ?_
  · refine wp_for (fun k σ g => (∃ a b c d, σ = [some (.seq (ns.map D.int)), a, none, b, c, d]) ∧ g.length = k ∧ Pots g) (fun xs => ∃ n, 1 ≤ n ∧ n ≤ 3 ∧ xs = rangeD 0 n) ?_ ?_ ?_
    · simp -implicitDefEqProofs only [wp_iRange1, wp_eCall, wp_aCons, eC_ok, wp_ok, eVar_0, aNil_ok, fLen_seq, List.length_map, fMin2_ii, fMax2_ii, intP_i, List.map, List.cons_append]
      refine ⟨?_, _, rfl, ⟨_, ?_, ?_, rfl⟩, ⟨none, none, none, none, rfl⟩, rfl, fun x hx => by cases hx⟩
      · unfold smallI
        rw [decide_eq_true, decide_eq_true]
        · rfl
        · split <;> split <;> omega
        · split <;> split <;> omega
      · split <;> split <;> omega
      · split <;> split <;> omega
    · rintro xs k σ g d ⟨n, hn1, hn3, rfl⟩ hd ⟨⟨a0, b0, c0, d0, rfl⟩, hg, hps⟩
      obtain ⟨hk, rfl⟩ := rangeD_get _ _ _ _ hd
      rw [Int.zero_add]
      simp -implicitDefEqProofs only [gvP_name, List.set, wp_cons, wp_set, wp_eCall, wp_aCons, eVar_0, eVar_succ, wp_ok, aNil_ok]
      refine pot_wp (by omega) hps fun g1 h1 l1 => ?_
      rw [hg] at h1 l1 ⊢
      simp -implicitDefEqProofs only [gvP_name, List.set, wp_cons, wp_set, wp_eCall, wp_aCons, eVar_0, eVar_succ, wp_ok, aNil_ok, eC_ok]
      refine dip_wp h1 (by omega) (by omega) (by omega) fun y g2 hy0 hy1 h2 l2 => ?_
      obtain ⟨o, rfl⟩ : ∃ o : Nat, y = (o : Int) := ⟨y.toNat, by omega⟩
      try simp -implicitDefEqProofs only [List.set]
      generalize e0 : [some (D.seq (ns.map D.int)), some (.int (k : Int)), none, some (.ref k), some (.int (o : Int)), d0] = s0
      refine wp_for (inI ns k o) (fun xs => xs = rangeD 0 (o + 1)) ?_ ?_ ?_
      · rw [show (iRange1 (aCons (eOp oAdd (eVar 4) (eC (.int 1))) aNil) s0 g2) = .ok (.fix (rangeD 0 (o + 1))) g2 by
          refine ok_of ?_
          rw [← e0]
          simp -implicitDefEqProofs only [wp_iRange1, wp_aCons, wp_eOp, eVar_0, eVar_succ, eC_ok, wp_ok, oAdd_ii, intP_i]
          rw [show (o : Int) + 1 = ((o + 1 : Nat) : Int) by omega]
          exact ⟨smallI_nat (by omega), by rw [Int.toNat_natCast], trivial⟩, wp_ok]
        refine ⟨_, rfl, rfl, ⟨_, e0.symm⟩, ?_, by omega⟩
        rw [show (1 : Int) + ((0 : Nat) : Int) = 0 + 1 by omega]
        exact h2
      · rintro xs t σ g3 d rfl hd ⟨⟨d2, rfl⟩, h3, l3⟩
        obtain ⟨ht, rfl⟩ := rangeD_get _ _ _ _ hd
        rw [Int.zero_add, gvP_name]
        have es : oSub (.int (o : Int)) (.int (t : Int)) g3 = .ok (.int ((o - t : Nat) : Int)) g3 := by
          rw [oSub_ii]
          congr 2
          omega
        simp -implicitDefEqProofs only [List.set, wp_cons, wp_if, wp_eNotT, wp_eTru, wp_eCall, wp_aCons, wp_eOp, eVar_0, eVar_succ, wp_ok, aNil_ok, es]
        refine right_wp (p := t) (m := o - t) h3 (by omega) (by omega) (by omega) (by omega) fun g4 h4 l4 => ?_
        simp -implicitDefEqProofs only [truP_bl, Bool.not_true, pick_f, wp_nil]
        refine ⟨⟨_, rfl⟩, ?_, by omega⟩
        rw [show (1 : Int) + ((t + 1 : Nat) : Int) = 1 + (t : Int) + 1 by omega]
        exact h4
      · rintro xs σ g3 rfl ⟨⟨d2, rfl⟩, h3, l3⟩
        obtain ⟨_, _, _, _, _, _, _, _, _, hps3⟩ := h3
        exact ⟨⟨_, _, _, _, rfl⟩, l3, hps3⟩
    · rintro xs σ g ⟨n, hn1, hn3, rfl⟩ ⟨h, _⟩
      exact h
  · rintro σ g ⟨a, b, c, d, rfl⟩
    show (tl _ g).wp _ _ _ _
    rw [tl_eq]
    exact settle_0
end LW
namespace LW
open PySem PySem.Spec L2 AW
abbrev R : PySem.W.OpenRow := PySem.W.OpenLaw.row PySem.Challenge.rw_squaretimes_k78_whole_centres
abbrev hk : PySem.W.Hook := He.hookD 4 fa fn
def ob (s : PySem.W.SharedT) : He.AlD := He.obsDG 4 fa fn (HandSHeadRun.getT s)
theorem ob_eq (s : PySem.W.SharedT) : ob s = hk.obs s.abs := He.obsDG_eq (HandSHeadRun.getT_eq s)
def loose : List PySem.Str := ["InvalidNumber", "TooMany", "BEYOND", "is_whole", "is_integer", "MAX_UNITS", "require_units", "require_few", "require_world", "bits_of", "product_sign", "word_product", "centre", "_law_pail", "_law_dip", "_law_one_of", "_law_letters", "_law_word_of", "_law_times", "_law_is_central", "_law_right"]
theorem run (w : World) : HandSHeadRun.RunEq R (PySem.W.view R.prog [25]) hk ob 4000 loose w := by
  intro os
  kernel_rfl
end LW
open PySem PySem.W PySem.Calls PyProof.Rows
set_option maxRecDepth 100000 in
set_option maxHeartbeats 0 in
theorem PySem.Challenge.cw_squaretimes_k78_whole_centres_holds : PySem.Challenge.rw_squaretimes_k78_whole_centres.Holds := by
  w_on; o_law
  refine HandSHeadRun.head_any (r := OpenLaw.row PySem.Challenge.rw_squaretimes_k78_whole_centres) (q := view (OpenLaw.row PySem.Challenge.rw_squaretimes_k78_whole_centres).prog [25]) (H := LW.hk) (ob := LW.ob) (M := 4000) (loose := LW.loose) (d := HandSHeadRun.topDef (OpenLaw.row PySem.Challenge.rw_squaretimes_k78_whole_centres).prog 25) (kwd := []) LW.ob_eq
    (by kernel_rfl) (fun s => by kernel_rfl) LW.run (by kernel_rfl) (by kernel_rfl) (by kernel_rfl) (by rfl) (by first | assumption | decide +kernel) (by decide +kernel) ⟨rfl, rfl, rfl, rfl, rfl, by decide +kernel⟩ ?hw ?hc
  case hw => w_witness2
  case hc =>
    refine AW.endW (l := PySem.Challenge.rw_squaretimes_k78_whole_centres) (n := 63) (k := 7) (x := "_law_script") (f := LW.f_law) rfl (by decide) (by kernel_rfl) ⟨rfl, by decide, by decide⟩ (by decide) LW.pure ?F
    intro w mg fa h Y G hmg0
    obtain ⟨K, KX, c⟩ := Y
    have e : (HandSHeadRun.topDef (OpenLaw.row PySem.Challenge.rw_squaretimes_k78_whole_centres).prog 25).name = ("law" : PySem.Str) := by kernel_rfl
    rw [e] at hmg0 ⊢
    exact ⟨K, KX, Value.ref.inj (Option.some.inj (hmg0.symm.trans (He.glo_ok KX G (c.fact 16 (f := .glo "law") rfl)))), LW.all (AW.tx_of KX G c)⟩
