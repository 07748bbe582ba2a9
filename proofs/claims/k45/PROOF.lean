import PyProof.Rows.All
import Wide.All
import OpenK.AllK
import Wide.FinOn
import KE.KStateDown
import Lean
import HandS.Base
import HandS.Call
import HandS.List
import HandS.Comp
import HandS.Ends
import HandS.More
import HandS.Exc
import HandS.ExcOwn
import HandS.Words
import HandS.WordsExc
import HandS.Defaults
import HandS.Wide
import HandS.Flow
import HandS.Slots
import HandS.Lambda
import HandS.HeadHook1
import HandS.HeadHook2
import HandS.HeadHook4
import HandS.TupAny
import HandS.WideBits
import HandS.Deep
import HandS.Text
import HandS.SortInts
import HandS.Conv
import HandS.Style
import HandS.Zip
import HandS.HeadEnd
import HandS.EndTab
import HandS.Head0
import HandS.Head1
import HandS.Head2
import HandS.EndBits
import HandS.IsInst
import HandS.HeadWalk
import HandS.SlotsOwn
import HandS.HeadNt
import HandS.HeadHook3
import KE.KExcMake
import KE.KExcSuper
import KE.KExcPX
import KE.KSuper
import PyProof.ReprRoads
import PyProof.CallFns
import PyProof.CallStr
import HandS.TryMany
import HandS.TryOnly
import HandS.ExcField
import HandS.Codes
import HandS.Star
import HandS.TupMul
import OpenK.KMeth
import KE.KOpsOwn
import HandS.OwnEq
import PyProof.Rows.Range3
import PyProof.WalksMore
import PySem.Challenge.RW_squaretimes_k45_errors_of_eights
import HandS.Head3
set_option Elab.async false
set_option linter.all false
set_option maxRecDepth 100000
set_option maxHeartbeats 4000000
/-! Aw: every construct of a body read as a plain function over data (the mirror), shown once. -/
namespace AW
open PySem PySem.Spec L2
/-- data: what a value is worth. ref: a cell that may change; val: a thing that is only handed on -/
inductive D where
  | non | bl (b : Bool) | int (i : Int) | str (x : Str)
  | tup (xs : List D) | lst (xs : List D) | seq (xs : List D)
  | dct (ks : List Key) (xs : List D) | dtt (ks : List (List Key)) (xs : List D) | ins (c : Str) (xs : List D) | glo (x : Str)
  | ref (i : Nat) | val (v : V)
inductive Cell where
  | lst (xs : List D)
  | dct (ks : List Key) (xs : List D)
  | dtt (ks : List (List Key)) (xs : List D)
  | ins (c : Str) (j : Nat) (fs : List (Option D))
  | new (c : Str) (j : Nat)
  | own
  | xd
  | tab (p : He.Defn) (q : Str)
  | tbg (p : He.Defn)
abbrev G := List Cell
/-- the address of a def or a class of the top -/
abbrev ga (K : PySem.W.Frag) (x : Str) : Addr := He.ga K x
/-- frozen objects, where the cells lie, and what is set aside meanwhile -/
structure Md where
  F : Hp
  r : Nat → Option Addr
  hid : Hp
mutual
inductive Den (K : PySem.W.Frag) (m : Md) : D → V → Prop
  | non : Den K m .non .non
  | bl {b : Bool} : Den K m (.bl b) (.bl b)
  | int {i : Int} : Den K m (.int i) (.int i)
  | str {x : Str} : Den K m (.str x) (.str x)
  | tup {a : Addr} {xs : List D} {vs : List V} : SqT K m.F a vs → Dens K m xs vs → Den K m (.tup xs) (.ref a)
  | lst {a : Addr} {xs : List D} {vs : List V} : m.F a = some (.lst vs) → Dens K m xs vs → Den K m (.lst xs) (.ref a)
  | seq {a : Addr} {xs : List D} {vs : List V} : SqL K m.F a vs → Dens K m xs vs → Den K m (.seq xs) (.ref a)
  | dct {a : Addr} {ks : List Key} {xs : List D} {vs : List V} : Rd m.F a (.dK (ks.zip vs)) → ks.length = vs.length → Dens K m xs vs → Den K m (.dct ks xs) (.ref a)
  | dtt {a : Addr} {ks : List (List Key)} {xs : List D} {vs : List V} : m.F a = some (.dT (ks.zip vs)) → ks.length = vs.length → Dens K m xs vs → Den K m (.dtt ks xs) (.ref a)
  | ins {a dx : Addr} {c : Str} {xs : List D} {vs : List V} : m.F a = some (SlX.SlO a (ga K c) dx (vs.map some)) → m.F dx = some (.xd []) → Dens K m xs vs → Den K m (.ins c xs) (.ref a)
  | glo {x : Str} : Den K m (.glo x) (.ref (ga K x))
  | ref {i : Nat} {a : Addr} : m.r i = some a → Den K m (.ref i) (.ref a)
  | val {v : V} : Den K m (.val v) v
inductive Dens (K : PySem.W.Frag) (m : Md) : List D → List V → Prop
  | nil : Dens K m [] []
  | cons {d : D} {ds : List D} {v : V} {vs : List V} : Den K m d v → Dens K m ds vs → Dens K m (d :: ds) (v :: vs)
end
structure Le (m m' : Md) : Prop where
  F : ∀ a o, m.F a = some o → m'.F a = some o
  r : ∀ i a, m.r i = some a → m'.r i = some a
  hid : ∀ a o, m.hid a = some o → m'.hid a = some o
theorem Le.refl (m : Md) : Le m m := ⟨fun _ _ h => h, fun _ _ h => h, fun _ _ h => h⟩
theorem Le.trans {a b c : Md} (x : Le a b) (y : Le b c) : Le a c := ⟨fun p o h => y.F p o (x.F p o h), fun i p h => y.r i p (x.r i p h), fun p o h => y.hid p o (x.hid p o h)⟩
section
variable {K : PySem.W.Frag} {m m' : Md}
theorem rd_le {H H' : Hp} (e : ∀ a o, H a = some o → H' a = some o) {a : Addr} {u : HO} (h : Rd H a u) : Rd H' a u := by
  rcases h with h | ⟨o, h⟩
  · exact Or.inl (e a _ h)
  · exact Or.inr ⟨o, e a _ h⟩
theorem sqL_le {H H' : Hp} (e : ∀ a o, H a = some o → H' a = some o) {a : Addr} {xs : List V} (h : SqL K H a xs) : SqL K H' a xs := by
  rcases h with h | h
  · exact Or.inl (rd_le e h)
  · exact Or.inr h
theorem sqT_le {H H' : Hp} (e : ∀ a o, H a = some o → H' a = some o) {a : Addr} {xs : List V} (h : SqT K H a xs) : SqT K H' a xs := by
  rcases h with h | h
  · exact Or.inl (rd_le e h)
  · exact Or.inr h
mutual
theorem Den.mono (e : Le m m') : ∀ {d : D} {v : V}, Den K m d v → Den K m' d v
  | _, _, .non => .non
  | _, _, .bl => .bl
  | _, _, .int => .int
  | _, _, .str => .str
  | _, _, .tup h ds => .tup (sqT_le e.F h) (Dens.mono e ds)
  | _, _, .lst h ds => .lst (e.F _ _ h) (Dens.mono e ds)
  | _, _, .seq h ds => .seq (sqL_le e.F h) (Dens.mono e ds)
  | _, _, .dct h hl ds => .dct (rd_le e.F h) hl (Dens.mono e ds)
  | _, _, .dtt h hl ds => .dtt (e.F _ _ h) hl (Dens.mono e ds)
  | _, _, .ins h hd ds => .ins (e.F _ _ h) (e.F _ _ hd) (Dens.mono e ds)
  | _, _, .glo => .glo
  | _, _, .ref h => .ref (e.r _ _ h)
  | _, _, .val => .val
theorem Dens.mono (e : Le m m') : ∀ {ds : List D} {vs : List V}, Dens K m ds vs → Dens K m' ds vs
  | _, _, .nil => .nil
  | _, _, .cons h t => .cons (Den.mono e h) (Dens.mono e t)
end
theorem Dens.length : ∀ {ds : List D} {vs : List V}, Dens K m ds vs → ds.length = vs.length
  | _, _, .nil => rfl
  | _, _, .cons _ t => congrArg Nat.succ (Dens.length t)
theorem Dens.append : ∀ {ds es : List D} {vs ws : List V}, Dens K m ds vs → Dens K m es ws → Dens K m (ds ++ es) (vs ++ ws)
  | _, _, _, _, .nil, h => h
  | _, _, _, _, .cons a t, h => .cons a (Dens.append t h)
theorem Dens.get : ∀ {ds : List D} {vs : List V} {i : Nat} {d : D}, Dens K m ds vs → ds[i]? = some d → ∃ v, vs[i]? = some v ∧ Den K m d v
  | _, _, _, _, .nil, e => by simp at e
  | _, _, 0, _, .cons a t, e => by simp at e; subst e; exact ⟨_, rfl, a⟩
  | _, _, i + 1, _, .cons a t, e => by
    obtain ⟨v, h1, h2⟩ := Dens.get (i := i) t (by simpa using e)
    exact ⟨v, by simpa using h1, h2⟩
theorem Dens.get' : ∀ {ds : List D} {vs : List V} {i : Nat} {v : V}, Dens K m ds vs → vs[i]? = some v → ∃ d, ds[i]? = some d ∧ Den K m d v
  | _, _, _, _, .nil, e => by simp at e
  | _, _, 0, _, .cons a t, e => by simp at e; subst e; exact ⟨_, rfl, a⟩
  | _, _, i + 1, _, .cons a t, e => by
    obtain ⟨v, h1, h2⟩ := Dens.get' (i := i) t (by simpa using e)
    exact ⟨v, by simpa using h1, h2⟩
theorem Dens.set {d : D} {v : V} (h : Den K m d v) : ∀ {ds : List D} {vs : List V} (i : Nat), Dens K m ds vs → Dens K m (ds.set i d) (vs.set i v)
  | _, _, _, .nil => .nil
  | _, _, 0, .cons _ t => .cons h t
  | _, _, i + 1, .cons a t => .cons a (Dens.set h i t)
theorem Dens.take : ∀ {ds : List D} {vs : List V} (n : Nat), Dens K m ds vs → Dens K m (ds.take n) (vs.take n)
  | _, _, 0, _ => by simp only [List.take_zero]; exact .nil
  | _, _, _ + 1, .nil => .nil
  | _, _, n + 1, .cons a t => .cons a (Dens.take n t)
theorem Dens.drop : ∀ {ds : List D} {vs : List V} (n : Nat), Dens K m ds vs → Dens K m (ds.drop n) (vs.drop n)
  | _, _, 0, h => h
  | _, _, _ + 1, .nil => .nil
  | _, _, n + 1, .cons a t => Dens.drop n t
theorem Dens.dropLast : ∀ {ds : List D} {vs : List V}, Dens K m ds vs → Dens K m ds.dropLast vs.dropLast
  | _, _, .nil => .nil
  | _, _, .cons _ .nil => .nil
  | _, _, .cons a (.cons b t) => .cons a (Dens.dropLast (.cons b t))
theorem Dens.reverse : ∀ {ds : List D} {vs : List V}, Dens K m ds vs → Dens K m ds.reverse vs.reverse
  | _, _, .nil => .nil
  | _, _, .cons a t => by
    rw [List.reverse_cons, List.reverse_cons]
    exact Dens.append (Dens.reverse t) (.cons a .nil)
theorem Dens.nilV {vs : List V} (h : Dens K m [] vs) : vs = [] := by cases h; rfl
theorem Dens.consV {d : D} {ds : List D} {vs : List V} (h : Dens K m (d :: ds) vs) : ∃ v ws, vs = v :: ws ∧ Den K m d v ∧ Dens K m ds ws := by
  cases h with
  | cons a t => exact ⟨_, _, rfl, a, t⟩
end
/-- the variables of an instance in the making, as far as they are stored -/
def FldOk (K : PySem.W.Frag) (m : Md) (fs : List (Option D)) (ws : List (Option V)) : Prop := ∀ (i : Nat) (d : D), fs[i]? = some (some d) → ∃ v, ws[i]? = some (some v) ∧ Den K m d v
theorem FldOk.mono {K : PySem.W.Frag} {m m' : Md} (e : Le m m') {fs : List (Option D)} {ws : List (Option V)} (h : FldOk K m fs ws) : FldOk K m' fs ws := fun i d q => by
  obtain ⟨v, h1, h2⟩ := h i d q
  exact ⟨v, h1, h2.mono e⟩
/-- a cell and its object -/
def CellOk (K : PySem.W.Frag) (m : Md) (a : Addr) : Cell → HO → Prop
  | .lst xs, o => ∃ vs, o = .lst vs ∧ Dens K m xs vs
  | .dct ks xs, o => ∃ vs, o = .dK (ks.zip vs) ∧ ks.length = vs.length ∧ Dens K m xs vs
  | .dtt ks xs, o => ∃ vs, o = .dT (ks.zip vs) ∧ ks.length = vs.length ∧ Dens K m xs vs
  | .ins c j fs, o => ∃ dx ws, o = SlX.SlO a (ga K c) dx ws ∧ m.r j = some dx ∧ ws.length ≤ fs.length ∧ FldOk K m fs ws
  | .new c j, o => ∃ dx, o = .ins (ga K c) dx [] ∧ m.r j = some dx
  | .own, o => ∃ b, o = .own b
  | .xd, o => o = .xd []
  | .tbg p, o => a = (He.cT K p).2 ∧ ∃ ps : Array Value, o = .tbl ps ∧ TriplesOk ps.toList
  | .tab p q, o => a = (He.cT K p).2 ∧ ∃ ps : Array Value, o = .tbl ps ∧ TriplesOk ps.toList ∧ ∀ (pos : Pos) (cv : Value), codeAmong pos ps.toList = some cv → ∃ c, cv = .ref c ∧ m.F c = some (LamX.CodeO c q)
theorem CellOk.mono {K : PySem.W.Frag} {m m' : Md} (e : Le m m') {a : Addr} {c : Cell} {o : HO} (h : CellOk K m a c o) : CellOk K m' a c o := by
  cases c with
  | lst xs => obtain ⟨vs, e1, h⟩ := h; exact ⟨vs, e1, h.mono e⟩
  | dct ks xs => obtain ⟨vs, e1, hl, h⟩ := h; exact ⟨vs, e1, hl, h.mono e⟩
  | dtt ks xs => obtain ⟨vs, e1, hl, h⟩ := h; exact ⟨vs, e1, hl, h.mono e⟩
  | ins c j fs => obtain ⟨dx, ws, e1, h1, hl, h2⟩ := h; exact ⟨dx, ws, e1, e.r _ _ h1, hl, h2.mono e⟩
  | new c j => obtain ⟨dx, e1, h1⟩ := h; exact ⟨dx, e1, e.r _ _ h1⟩
  | own => exact h
  | xd => exact h
  | tbg p => exact h
  | tab p q =>
    obtain ⟨ea, ps, e1, h1, h2⟩ := h
    exact ⟨ea, ps, e1, h1, fun pos cv hc => by
      obtain ⟨c, e2, e3⟩ := h2 pos cv hc
      exact ⟨c, e2, e.F _ _ e3⟩⟩
structure Rel (K : PySem.W.Frag) (m : Md) (g : G) (H : Hp) : Prop where
  ex : ∀ a o, m.F a = some o → H a = some o
  cell : ∀ i c, g[i]? = some c → ∃ a, m.r i = some a ∧ m.F a = none ∧ ∃ o, H a = some o ∧ CellOk K m a c o
  dom : ∀ i a, m.r i = some a → i < g.length
  inj : ∀ i j a, m.r i = some a → m.r j = some a → i = j
  hid : ∀ a o, m.hid a = some o → H a = some o ∧ m.F a = none ∧ ∀ i, m.r i ≠ some a
def Slots (K : PySem.W.Frag) (m : Md) (σ : List (Option D)) (σv : St) : Prop := ∀ (i : Nat) (d : D), σ[i]? = some (some d) → ∃ v, σv[i]? = some (some v) ∧ Den K m d v
theorem Slots.mono {K : PySem.W.Frag} {m m' : Md} (e : Le m m') {σ : List (Option D)} {σv : St} (h : Slots K m σ σv) : Slots K m' σ σv := fun i d q => by
  obtain ⟨v, h1, h2⟩ := h i d q
  exact ⟨v, h1, h2.mono e⟩
theorem Slots.set {K : PySem.W.Frag} {m : Md} {σ : List (Option D)} {σv : St} (h : Slots K m σ σv) (hl : σ.length ≤ σv.length) {i : Nat} {d : D} {v : V} (hd : Den K m d v) : Slots K m (σ.set i (some d)) (σv.set i (some v)) := fun j e q => by
  by_cases hj : i = j
  · subst hj
    by_cases hi : i < σ.length
    · rw [List.getElem?_set_self hi] at q
      have q' : d = e := Option.some.inj (Option.some.inj q)
      subst q'
      exact ⟨v, List.getElem?_set_self (by omega), hd⟩
    · rw [List.getElem?_eq_none (by simp; omega)] at q
      cases q
  · rw [List.getElem?_set_ne hj] at q
    obtain ⟨w, h1, h2⟩ := h j e q
    exact ⟨w, by rw [List.getElem?_set_ne hj]; exact h1, h2⟩
/-- an exception: its class, its fields -/
structure Exn where
  cls : Str
  fs : List (Str × D)
def ExnOk (K : PySem.W.Frag) (m : Md) (e : Exn) (cv : Value) (dd : Option Addr) : Prop :=
  cv = .ref (ga K e.cls) ∧ ((e.fs = [] ∧ dd = none) ∨ (e.fs ≠ [] ∧ ∃ d fv, dd = some d ∧ m.F d = some (.xd fv) ∧ fv.map (·.1) = e.fs.map (·.1) ∧ Dens K m (e.fs.map (·.2)) (fv.map (·.2))))
theorem ExnOk.mono {K : PySem.W.Frag} {m m' : Md} (l : Le m m') {e : Exn} {cv : Value} {dd : Option Addr} (h : ExnOk K m e cv dd) : ExnOk K m' e cv dd := by
  obtain ⟨h2, h⟩ := h
  refine ⟨h2, ?_⟩
  rcases h with h | ⟨h0, d, fv, h3, h4, h5, h6⟩
  · exact .inl h
  · exact .inr ⟨h0, d, fv, h3, l.F _ _ h4, h5, h6.mono l⟩
inductive Res (α : Type) where
  | ok (a : α) (g : G)
  | ex (e : Exn) (g : G)
  | no
@[reducible] def Res.bind {α β : Type} (r : Res α) (f : α → G → Res β) : Res β := match r with
  | .ok a g => f a g
  | .ex e g => .ex e g
  | .no => .no
abbrev Sg := List (Option D)
abbrev Ev := Sg → G → Res D
abbrev Tv := Sg → G → Res Bool
abbrev Av := Sg → G → Res (List D)
/-- what is wanted behind -/
def Post {α β : Type} (K : PySem.W.Frag) (W : WX) (σv : St) (R : Md → α → β → Prop) (r : Res α) (m : Md) (Q : β → Hp → Prop) : Prop := match r with
  | .ok d g' => ∀ m' H' v, Le m m' → Rel K m' g' H' → R m' d v → Q v H'
  | .ex e g' => ∀ m' H' cv dd, Le m m' → Rel K m' g' H' → ExnOk K m' e cv dd → W cv dd σv H'
  | .no => False
theorem Post.mono {α β : Type} {K : PySem.W.Frag} {W : WX} {σv : St} {R : Md → α → β → Prop} {r : Res α} {m m' : Md} {Q : β → Hp → Prop} (l : Le m m') (h : Post K W σv R r m Q) : Post K W σv R r m' Q := by
  cases r with
  | ok d g => exact fun m2 H v l2 r d => h m2 H v (l.trans l2) r d
  | ex e g => exact fun m2 H cv dd l2 r d => h m2 H cv dd (l.trans l2) r d
  | no => exact h
theorem Post.imp {α β : Type} {K : PySem.W.Frag} {W : WX} {σv : St} {R : Md → α → β → Prop} {r : Res α} {m : Md} {Q Q' : β → Hp → Prop} (h : Post K W σv R r m Q) (q : ∀ v H, Q v H → Q' v H) : Post K W σv R r m Q' := by
  cases r with
  | ok d g => exact fun m2 H v l2 r d => q _ _ (h m2 H v l2 r d)
  | ex e g => exact fun m2 H cv dd l2 r d => h m2 H cv dd l2 r d
  | no => exact h
/-- the first part's end, from the whole's -/
theorem Post.bind {α β γ δ : Type} {K : PySem.W.Frag} {W : WX} {σv : St} {R : Md → α → β → Prop} {R' : Md → γ → δ → Prop} {r : Res α} {f : α → G → Res γ} {m : Md} {Q : δ → Hp → Prop} {P : β → Hp → Prop}
    (h : Post K W σv R' (r.bind f) m Q) (k : ∀ d g m' H v, Le m m' → Rel K m' g H → R m' d v → Post K W σv R' (f d g) m' Q → P v H) : Post K W σv R r m P := by
  cases r with
  | ok d g => exact fun m' H v l rl rd => k d g m' H v l rl rd (Post.mono l h)
  | ex e g => exact h
  | no => exact h
def tE (K : PySem.W.Frag) (W : WX) (ev : Ev) : TE := fun σv H Q => ∃ m σ g, Rel K m g H ∧ Slots K m σ σv ∧ σ.length ≤ σv.length ∧ Post K W σv (Den K) (ev σ g) m Q
def tT (K : PySem.W.Frag) (W : WX) (ev : Tv) : TT := fun σv H Q => ∃ m σ g, Rel K m g H ∧ Slots K m σ σv ∧ σ.length ≤ σv.length ∧ Post K W σv (fun _ a b => a = b) (ev σ g) m Q
def tA (K : PySem.W.Frag) (W : WX) (ev : Av) : TA := fun σv H Q => ∃ m σ g, Rel K m g H ∧ Slots K m σ σv ∧ σ.length ≤ σv.length ∧ Post K W σv (Dens K) (ev σ g) m Q
theorem PE.imp {X : Cx} {e : Expr} {t t' : TE} (h : PE X e t) (k : ∀ σ H Q, t' σ H Q → t σ H Q) : PE X e t' := ⟨fun pins s σ H Q I q => h.run pins s σ H Q I (k _ _ _ q)⟩
theorem PT.imp {X : Cx} {e : Expr} {t t' : TT} (h : PT X e t) (k : ∀ σ H Q, t' σ H Q → t σ H Q) : PT X e t' := ⟨fun pins s σ H Q I q => h.run pins s σ H Q I (k _ _ _ q)⟩
theorem PA.imp {X : Cx} {e : List Expr} {t t' : TA} (h : PA X e t) (k : ∀ σ H Q, t' σ H Q → t σ H Q) : PA X e t' := ⟨fun pos pins s σ H Q I q => h.run pos pins s σ H Q I (k _ _ _ q)⟩
theorem PS.imp {X : Cx} {e : Stmt} {t t' : TS} (h : PS X e t) (k : ∀ D σ H, t' D σ H → t D σ H) : PS X e t' := ⟨fun pins s σ H D I q => h.run pins s σ H D I (k _ _ _ q)⟩
theorem PSs.imp {X : Cx} {e : List Stmt} {t t' : TS} (h : PSs X e t) (k : ∀ D σ H, t' D σ H → t D σ H) : PSs X e t' := ⟨fun pins s σ H D I q => h.run pins s σ H D I (k _ _ _ q)⟩
/-! ### names, constants -/
def eVar (i : Nat) : Ev := fun σ g => match σ[i]? with
  | some (some d) => .ok d g
  | _ => .no
def eC (d : D) : Ev := fun _ g => .ok d g
section
variable {X : Cx} {W : WX} {e : Expr}
theorem x_var {i : Nat} (h : PE X e (tVar i)) : PE X e (tE X.K W (eVar i)) := PE.imp h fun σ H Q q => by
  obtain ⟨m, σ', g, r, sl, _, p⟩ := q
  unfold eVar at p
  split at p
  · rename_i d hd
    obtain ⟨v, h1, h2⟩ := sl i d hd
    exact ⟨v, h1, p m H v (Le.refl m) r h2⟩
  · exact p.elim
theorem x_c {d : D} {v : V} (h : PE X e (tC v)) (hd : ∀ m, Den X.K m d v) : PE X e (tE X.K W (eC d)) := PE.imp h fun σ H Q q => by
  obtain ⟨m, σ', g, r, sl, _, p⟩ := q
  exact p m H v (Le.refl m) r (hd m)
theorem x_int {i j pos} : PE X (.Constant (.int i) j pos) (tE X.K W (eC (.int i))) := x_c pe_int fun _ => .int
theorem x_bl {i j pos} : PE X (.Constant (.bool i) j pos) (tE X.K W (eC (.bl i))) := x_c pe_bl fun _ => .bl
theorem x_str {i j pos} : PE X (.Constant (.str i) j pos) (tE X.K W (eC (.str i))) := x_c pe_str fun _ => .str
theorem x_non {j pos} : PE X (.Constant .none j pos) (tE X.K W (eC .non)) := x_c pe_non fun _ => .non
end
/-! ### operators -/
abbrev Op2 := D → D → G → Res D
abbrev Op1 := D → G → Res D
def eOp (f : Op2) (a b : Ev) : Ev := fun σ g => (a σ g).bind fun x g1 => (b σ g1).bind fun y g2 => f x y g2
def eUn (f : Op1) (a : Ev) : Ev := fun σ g => (a σ g).bind fun x g1 => f x g1
/-- a rule by values and its function -/
def OpS (K : PySem.W.Frag) (W : WX) (r : R2) (f : Op2) : Prop := ∀ (σv : St) (m : Md) (g : G) (H : Hp) (d e : D) (x y : V) (Q : VK), Rel K m g H → Den K m d x → Den K m e y → Post K W σv (Den K) (f d e g) m Q → r x y H Q
def UnS (K : PySem.W.Frag) (W : WX) (r : V → Hp → VK → Prop) (f : Op1) : Prop := ∀ (σv : St) (m : Md) (g : G) (H : Hp) (d : D) (x : V) (Q : VK), Rel K m g H → Den K m d x → Post K W σv (Den K) (f d g) m Q → r x H Q
section
variable {X : Cx} {W : WX} {a b : Expr} {ea eb : Ev} {pos : Pos}
theorem tOp_of {K : PySem.W.Frag} {r : R2} {f : Op2} (hs : OpS K W r f) {σ : St} {H : Hp} {Q : VK} (h : tE K W (eOp f ea eb) σ H Q) : tOp r (tE K W ea) (tE K W eb) σ H Q := by
  obtain ⟨m, σ', g, rl, sl, hl, p⟩ := h
  refine ⟨m, σ', g, rl, sl, hl, Post.bind p fun d g1 m1 H1 x l1 r1 d1 p1 => ?_⟩
  refine ⟨m1, σ', g1, r1, sl.mono l1, hl, Post.bind p1 fun e g2 m2 H2 y l2 r2 d2 p2 => ?_⟩
  exact hs σ m2 g2 H2 d e x y Q r2 (d1.mono l2) d2 p2
theorem x_op {op : Operator} {r : R2} {f : Op2} (ho : OpR X (binaryOp op) r) (hs : OpS X.K W r f) (ha : PE X a (tE X.K W ea)) (hb : PE X b (tE X.K W eb)) : PE X (.BinOp a op b pos) (tE X.K W (eOp f ea eb)) :=
  PE.imp (pe_op ho ha hb) fun _ _ _ h => tOp_of hs h
theorem x_un {op : UnaryOp} {r : V → Hp → VK → Prop} {f : Op1} (ho : UnR X (unaryOp op) r) (hs : UnS X.K W r f) (ha : PE X a (tE X.K W ea)) : PE X (.UnaryOp op a pos) (tE X.K W (eUn f ea)) := PE.imp (pe_un ho ha) fun σ H Q h => by
  obtain ⟨m, σ', g, rl, sl, hl, p⟩ := h
  refine ⟨m, σ', g, rl, sl, hl, Post.bind p fun d g1 m1 H1 x l1 r1 d1 p1 => ?_⟩
  exact hs σ m1 g1 H1 d x Q r1 d1 p1
theorem opR_or {f : Value → Value → Sem Value} {r r' : R2} (h : OpR X f r) (h' : OpR X f r') : OpR X f (fun x y H Q => r x y H Q ∨ r' x y H Q) := fun pins s σ H x y v u Q I rx ry q =>
  q.elim (fun q => h pins s σ H x y v u Q I rx ry q) (fun q => h' pins s σ H x y v u Q I rx ry q)
end
/-- an arithmetic rule of two ints -/
def oI (C : Int → Int → Bool) (f : Int → Int → Int) : Op2 := fun x y g => match x, y with
  | .int i, .int j => if C i j = true then .ok (.int (f i j)) g else .no
  | _, _ => .no
theorem oI_s {K : PySem.W.Frag} {W : WX} {C : Int → Int → Prop} {c : Int → Int → Bool} {f : Int → Int → Int} (hc : ∀ i j, c i j = true → C i j) : OpS K W (rI C fun i j => .int (f i j)) (oI c f) := fun σv m g H d e x y Q rl hd he p => by
  cases d with
  | int i =>
    cases e with
    | int j =>
      cases hd
      cases he
      have p' : Post K W σv (Den K) (if c i j = true then .ok (.int (f i j)) g else .no) m Q := p
      by_cases h : c i j = true
      · rw [if_pos h] at p'
        exact ⟨i, j, rfl, rfl, hc i j h, p' m H _ (Le.refl m) rl .int⟩
      · rw [if_neg h] at p'
        exact p'.elim
    | _ => exact p.elim
  | _ => exact p.elim
end AW
namespace AW
open PySem PySem.Spec L2
/-! ### arithmetic -/
theorem Rel.seqT {K : PySem.W.Frag} {m : Md} {g : G} {H : Hp} (r : Rel K m g H) {a : Addr} {vs : List V} (h : SqT K m.F a vs) : SqT K H a vs := sqT_le r.ex h
theorem Rel.seqL {K : PySem.W.Frag} {m : Md} {g : G} {H : Hp} (r : Rel K m g H) {a : Addr} {vs : List V} (h : SqL K m.F a vs) : SqL K H a vs := sqL_le r.ex h
/-- a new frozen object -/
def Md.put (m : Md) (p : Addr) (o : HO) : Md := ⟨upd m.F p o, m.r, m.hid⟩
theorem Rel.free {K : PySem.W.Frag} {m : Md} {g : G} {H : Hp} (r : Rel K m g H) {p : Addr} (h : H p = none) : m.F p = none := by
  cases q : m.F p with
  | none => rfl
  | some o => rw [r.ex p o q] at h; cases h
theorem le_put {m : Md} {p : Addr} {o : HO} (h : m.F p = none) : Le m (m.put p o) := ⟨fun a u e => by
  show upd m.F p o a = some u
  rw [upd_ne (ne_of_none e h)]
  exact e, fun _ _ h => h, fun _ _ h => h⟩
theorem Rel.put {K : PySem.W.Frag} {m : Md} {g : G} {H : Hp} (r : Rel K m g H) {p : Addr} {o : HO} (h : H p = none) : Rel K (m.put p o) g (upd H p o) where
  ex := fun a u e => by
    by_cases ha : a = p
    · subst ha
      have e' : upd m.F a o a = some u := e
      rw [upd_same] at e' ⊢
      exact e'
    · have e' : upd m.F p o a = some u := e
      rw [upd_ne ha] at e' ⊢
      exact r.ex a u e'
  cell := fun i c hc => by
    obtain ⟨a, h1, h2, u, h3, h4⟩ := r.cell i c hc
    have ha : a ≠ p := ne_of_none h3 h
    refine ⟨a, h1, ?_, u, by rw [upd_ne ha]; exact h3, h4.mono (le_put (r.free h))⟩
    show upd m.F p o a = none
    rw [upd_ne ha]
    exact h2
  dom := r.dom
  inj := r.inj
  hid := fun a u e => by
    obtain ⟨h1, h2, h3⟩ := r.hid a u e
    have ha : a ≠ p := ne_of_none h1 h
    refine ⟨by rw [upd_ne ha]; exact h1, ?_, h3⟩
    show upd m.F p o a = none
    rw [upd_ne ha]
    exact h2
theorem put_tup {K : PySem.W.Frag} {m : Md} {p : Addr} {ds : List D} {vs : List V} (h : m.F p = none) (d : Dens K m ds vs) : Den K (m.put p (.tup vs)) (.tup ds) (.ref p) :=
  .tup (.inl (.inl (by show upd m.F p _ p = _; exact upd_same))) (d.mono (le_put h))
theorem put_lst {K : PySem.W.Frag} {m : Md} {p : Addr} {ds : List D} {vs : List V} (h : m.F p = none) (d : Dens K m ds vs) : Den K (m.put p (.lst vs)) (.lst ds) (.ref p) :=
  .lst (by show upd m.F p _ p = _; exact upd_same) (d.mono (le_put h))
/-- the end: a new tuple, a new list -/
theorem fin_tup {K : PySem.W.Frag} {W : WX} {σv : L2.St} {m : Md} {g : G} {H : Hp} {ds : List D} {vs : List V} {Q : VK} (r : Rel K m g H) (d : Dens K m ds vs) (p : Post K W σv (Den K) (.ok (.tup ds) g) m Q) : ∀ a, H a = none → Q (.ref a) (upd H a (.tup vs)) := fun a h =>
  p _ _ _ (le_put (r.free h)) (r.put h) (put_tup (r.free h) d)
theorem fin_lst {K : PySem.W.Frag} {W : WX} {σv : L2.St} {m : Md} {g : G} {H : Hp} {ds : List D} {vs : List V} {Q : VK} (r : Rel K m g H) (d : Dens K m ds vs) (p : Post K W σv (Den K) (.ok (.lst ds) g) m Q) : ∀ a, H a = none → Q (.ref a) (upd H a (.lst vs)) := fun a h =>
  p _ _ _ (le_put (r.free h)) (r.put h) (put_lst (r.free h) d)
theorem fin_ok {α β : Type} {K : PySem.W.Frag} {W : WX} {σv : L2.St} {R : Md → α → β → Prop} {m : Md} {g : G} {H : Hp} {d : α} {v : β} {Q : β → Hp → Prop} (r : Rel K m g H) (h : R m d v) (p : Post K W σv R (.ok d g) m Q) : Q v H := p m H v (Le.refl m) r h
def small (xs : List D) : Bool := decide (xs.length ≤ 100000)
theorem small_line {xs : List D} {vs : List V} {K : PySem.W.Frag} {m : Md} (h : small xs = true) (d : Dens K m xs vs) : vs.length ≤ sizeLine := by
  rw [← d.length, sizeLine_eq]
  have := of_decide_eq_true h
  omega
def okIf {α : Type} (c : Bool) (d : α) (g : G) : Res α := match c with
  | true => .ok d g
  | false => .no
theorem okIf_post {α β : Type} {K : PySem.W.Frag} {W : WX} {σv : L2.St} {R : Md → α → β → Prop} {m : Md} {g : G} {d : α} {Q : β → Hp → Prop} {c : Bool} (p : Post K W σv R (okIf c d g) m Q) : c = true ∧ Post K W σv R (.ok d g) m Q := by
  cases c with
  | true => exact ⟨rfl, p⟩
  | false => exact p.elim
/-- the items of a list that stands in the heap -/
def lsOf (g : G) : D → Option (List D)
  | .lst xs => some xs
  | .ref i => match g[i]? with
    | some (.lst xs) => some xs
    | _ => none
  | _ => none
theorem lsOf_s {K : PySem.W.Frag} {m : Md} {g : G} {H : Hp} {d : D} {v : V} {xs : List D} (r : Rel K m g H) (h : Den K m d v) (e : lsOf g d = some xs) : ∃ p vs, v = .ref p ∧ H p = some (.lst vs) ∧ Dens K m xs vs := by
  cases h with
  | lst h1 h2 =>
    cases e
    exact ⟨_, _, rfl, r.ex _ _ h1, h2⟩
  | ref h1 =>
    rename_i i a
    have e' : (match g[i]? with | some (.lst xs) => some xs | _ => none) = some xs := e
    split at e'
    · rename_i ys hy
      cases e'
      obtain ⟨a', h2, _, o, h3, vs, h4, h5⟩ := r.cell _ _ hy
      rw [h1] at h2
      cases h2
      subst h4
      exact ⟨_, _, rfl, h3, h5⟩
    · cases e'
  | _ => cases e
/-- the items of anything that is read as a list -/
def lqOf (g : G) : D → Option (List D)
  | .seq xs => some xs
  | d => lsOf g d
theorem lqOf_s {K : PySem.W.Frag} {m : Md} {g : G} {H : Hp} {d : D} {v : V} {xs : List D} (r : Rel K m g H) (h : Den K m d v) (e : lqOf g d = some xs) : ∃ p vs, v = .ref p ∧ SqL K H p vs ∧ Dens K m xs vs := by
  cases d with
  | seq ys =>
    cases e
    cases h with
    | seq h1 h2 => exact ⟨_, _, rfl, r.seqL h1, h2⟩
  | _ =>
    obtain ⟨p, vs, h1, h2, h3⟩ := lsOf_s r h e
    exact ⟨p, vs, h1, SqL.of h2, h3⟩
/-- the items of a list or a tuple -/
def sqOf (g : G) : D → Option (List D)
  | .tup xs => some xs
  | d => lqOf g d
theorem sqOf_s {K : PySem.W.Frag} {m : Md} {g : G} {H : Hp} {d : D} {v : V} {xs : List D} (r : Rel K m g H) (h : Den K m d v) (e : sqOf g d = some xs) : ∃ p vs, v = .ref p ∧ (SqL K H p vs ∨ SqT K H p vs) ∧ Dens K m xs vs := by
  cases d with
  | tup ys =>
    cases e
    cases h with
    | tup h1 h2 => exact ⟨_, _, rfl, .inr (r.seqT h1), h2⟩
  | _ =>
    obtain ⟨p, vs, h1, h2, h3⟩ := lqOf_s r h e
    exact ⟨p, vs, h1, .inl h2, h3⟩
/-- + -/
def oAddL (g : G) (x y : D) : Res D := match lsOf g x, lsOf g y with
  | some xs, some ys => okIf (small (xs ++ ys)) (.lst (xs ++ ys)) g
  | _, _ => .no
def oAdd : Op2 := fun x y g => match x, y with
  | .int i, .int j => .ok (.int (i + j)) g
  | .int i, .bl k => .ok (.int (i + PyProof.Rows.b2i k)) g
  | .str a, .str b => okIf (decide (a.length + b.length ≤ 100000)) (.str (a ++ b)) g
  | .tup xs, .tup ys => okIf (small (xs ++ ys)) (.tup (xs ++ ys)) g
  | x, y => oAddL g x y
def rAdd1 (K : PySem.W.Frag) : R2 := fun x y H Q => (rI0 (fun i j => .int (i + j)) x y H Q ∨ (∃ i k, x = .int i ∧ y = .bl k ∧ Q (.int (i + PyProof.Rows.b2i k)) H)) ∨ ((∃ i j, x = .str i ∧ y = .str j ∧ i.length + j.length ≤ sizeLine ∧ Q (.str (i ++ j)) H) ∨ (rCatA K x y H Q ∨ rCat x y H Q))
theorem op_add1 {X : Cx} : OpR X (binaryOp .Add) (rAdd1 X.K) := opR_or (opR_or op_add op_add_ib) (opR_or op_add_str (opR_or op_catA op_cat))
theorem line5 {n : Nat} (h : n ≤ 100000) : n ≤ sizeLine := by rw [sizeLine_eq]; omega
theorem small_app {K : PySem.W.Frag} {m : Md} {xs ys : List D} {vs ws : List V} (h : small (xs ++ ys) = true) (a : Dens K m xs vs) (b : Dens K m ys ws) : vs.length + ws.length ≤ sizeLine := by
  have := small_line h (a.append b)
  rw [List.length_append] at this
  exact this
theorem oAddL_s {K : PySem.W.Frag} {W : WX} {σv : L2.St} {m : Md} {g : G} {H : Hp} {d e : D} {x y : V} {Q : VK} (rl : Rel K m g H) (hd : Den K m d x) (he : Den K m e y) (p : Post K W σv (Den K) (oAddL g d e) m Q) : rAdd1 K x y H Q := by
  unfold oAddL at p
  split at p
  · rename_i xs ys e1 e2
    obtain ⟨c, p⟩ := okIf_post p
    obtain ⟨a, vs, rfl, ha, da⟩ := lsOf_s rl hd e1
    obtain ⟨b, ws, rfl, hb, db⟩ := lsOf_s rl he e2
    exact .inr (.inr (.inr ⟨a, b, vs, ws, rfl, rfl, ha, hb, small_app c da db, fin_lst rl (da.append db) p⟩))
  · exact p.elim
theorem oAdd_s {K : PySem.W.Frag} {W : WX} : OpS K W (rAdd1 K) oAdd := fun σv m g H d e x y Q rl hd he p => by
  unfold oAdd at p
  split at p
  · cases hd; cases he
    exact .inl (.inl ⟨_, _, rfl, rfl, fin_ok rl .int p⟩)
  · cases hd; cases he
    exact .inl (.inr ⟨_, _, rfl, rfl, fin_ok rl .int p⟩)
  · cases hd; cases he
    obtain ⟨c, p⟩ := okIf_post p
    exact .inr (.inl ⟨_, _, rfl, rfl, line5 (of_decide_eq_true c), fin_ok rl .str p⟩)
  · obtain ⟨c, p⟩ := okIf_post p
    cases hd with
    | tup h1 d1 =>
      cases he with
      | tup h2 d2 =>
        rename_i xs ys a vs b ws
        refine .inr (.inr (.inl ⟨a, b, vs, ws, rfl, rfl, rl.seqT h1, rl.seqT h2, small_app c d1 d2, fun z => ?_, fun _ z => ?_, fun _ _ => fin_tup rl (d1.append d2) p⟩))
        · subst z
          cases d1
          exact fin_ok rl (.tup h2 d2) p
        · subst z
          cases d2
          rw [List.append_nil] at p
          exact fin_ok rl (.tup h1 d1) p
  · exact oAddL_s rl hd he p
def oSub : Op2 := oI (fun _ _ => true) (· - ·)
theorem op_sub1 {X : Cx} : OpR X (binaryOp .Sub) (rI (fun _ _ => True) fun i j => .int (i - j)) := opI fun _ _ _ _ _ _ _ _ q => PyProof.Rows.sub_int q
theorem oSub_s {K : PySem.W.Frag} {W : WX} : OpS K W (rI (fun _ _ => True) fun i j => .int (i - j)) oSub := oI_s fun _ _ _ => trivial
def cMul (i j : Int) : Bool := decide (i.natAbs.log2 + j.natAbs.log2 < 1000000)
theorem cMul_ok {i j : Int} (h : cMul i j = true) : CMulW i j := by
  have h' : i.natAbs.log2 + j.natAbs.log2 < 1000000 := of_decide_eq_true h
  exact h'
/-- * -/
def oMulL (g : G) (x : D) (k : Int) : Res D := match lsOf g x with
  | some xs => okIf (decide (-1000 ≤ k) && decide (k ≤ 100000) && decide (xs.length * k.toNat ≤ 100000)) (.lst (List.replicate k.toNat xs).flatten) g
  | _ => .no
def oMul : Op2 := fun x y g => match x, y with
  | .int i, .int j => okIf (cMul i j) (.int (i * j)) g
  | x, .int k => oMulL g x k
  | _, _ => .no
def rMul1 : R2 := fun x y H Q => rI CMulW (fun i j => .int (i * j)) x y H Q ∨ rRep x y H Q
theorem op_mul1 {X : Cx} : OpR X (binaryOp .Mult) rMul1 := opR_or op_mulW op_rep
theorem Dens.rep {K : PySem.W.Frag} {m : Md} {xs : List D} {vs : List V} (h : Dens K m xs vs) : ∀ n : Nat, Dens K m (List.replicate n xs).flatten (List.replicate n vs).flatten
  | 0 => .nil
  | n + 1 => by
    rw [List.replicate_succ, List.replicate_succ, List.flatten_cons, List.flatten_cons]
    exact h.append (Dens.rep h n)
theorem oMul_s {K : PySem.W.Frag} {W : WX} : OpS K W rMul1 oMul := fun σv m g H d e x y Q rl hd he p => by
  unfold oMul at p
  split at p
  · cases hd; cases he
    obtain ⟨c, p⟩ := okIf_post p
    exact .inl ⟨_, _, rfl, rfl, cMul_ok c, fin_ok rl .int p⟩
  · cases he
    unfold oMulL at p
    split at p
    · rename_i xs e1
      obtain ⟨c, p⟩ := okIf_post p
      rw [Bool.and_eq_true, Bool.and_eq_true] at c
      obtain ⟨⟨c1, c2⟩, c3⟩ := c
      have c1 := of_decide_eq_true c1
      have c2 := of_decide_eq_true c2
      have c3 := of_decide_eq_true c3
      obtain ⟨a, vs, rfl, ha, da⟩ := lsOf_s rl hd e1
      exact .inr ⟨a, _, vs, rfl, rfl, ha, by omega, by omega, by rw [← da.length]; exact line5 c3, fin_lst rl (da.rep _) p⟩
    · exact p.elim
  · exact p.elim
/-- // and % by any divisor but 0 (// below 2 ^ 9000) -/
def cDiv (_ j : Int) : Bool := decide (j ≠ 0) && decide (j.natAbs.log2 < 9000)
def oFdiv : Op2 := oI cDiv Int.fdiv
theorem op_fdiv1 {X : Cx} : OpR X (binaryOp .FloorDiv) (rI (fun _ j => j ≠ 0 ∧ j.natAbs.log2 < 9000) fun i j => .int (i.fdiv j)) := opI fun i j _ _ _ _ _ hc q =>
  PyProof.Rows.floordiv_int hc.1 q (.inl (PyProof.noPylong_of_log2 hc.2))
theorem iop_fdiv1 {X : Cx} : OpR X (inplaceOp .FloorDiv) (rI (fun _ j => j ≠ 0 ∧ j.natAbs.log2 < 9000) fun i j => .int (i.fdiv j)) := opI fun i j _ _ _ _ _ hc q =>
  PyProof.Rows.ifloordiv_int hc.1 q (.inl (PyProof.noPylong_of_log2 hc.2))
theorem oFdiv_s {K : PySem.W.Frag} {W : WX} : OpS K W (rI (fun _ j => j ≠ 0 ∧ j.natAbs.log2 < 9000) fun i j => .int (i.fdiv j)) oFdiv := oI_s fun i j h => by
  unfold cDiv at h
  rw [Bool.and_eq_true] at h
  exact ⟨of_decide_eq_true h.1, of_decide_eq_true h.2⟩
def oMod : Op2 := oI (fun _ j => decide (j ≠ 0)) Int.fmod
theorem oMod_s {K : PySem.W.Frag} {W : WX} : OpS K W (rI (fun _ j => j ≠ 0) fun i j => .int (i.fmod j)) oMod := oI_s fun i j h => of_decide_eq_true h
def cPow (i j : Int) : Bool := decide (0 ≤ j) && decide (((i.natAbs.log2 : Int) + 1) * j ≤ 1000000)
def oPow : Op2 := oI cPow fun i j => i ^ j.toNat
theorem op_pow1 {X : Cx} : OpR X (binaryOp .Pow) (rI (fun i j => cPow i j = true) fun i j => .int (i ^ j.toNat)) := opI fun i j _ _ _ _ _ hc q => by
  unfold cPow at hc
  rw [Bool.and_eq_true] at hc
  have h1 := of_decide_eq_true hc.1
  have h2 := of_decide_eq_true hc.2
  refine PyProof.Rows.pow_int h1 ?_ q
  have b : Builtin.Int.intBits i ≤ i.natAbs.log2 + 1 := by
    unfold Builtin.Int.intBits
    split <;> omega
  have b2 : (Builtin.Int.intBits i : Int) * j ≤ ((i.natAbs.log2 : Int) + 1) * j := Int.mul_le_mul_of_nonneg_right (by omega) h1
  have e : (2 : Int) ^ 27 = 134217728 := by decide
  rw [e]
  omega
theorem oPow_s {K : PySem.W.Frag} {W : WX} : OpS K W (rI (fun i j => cPow i j = true) fun i j => .int (i ^ j.toNat)) oPow := oI_s fun i j h => h
def cShl (i j : Int) : Bool := decide (0 ≤ j) && decide ((i.natAbs.log2 : Int) + j ≤ 1000000)
def oShl : Op2 := oI cShl fun i j => i * 2 ^ j.toNat
theorem cShl_ok {i j : Int} (h : cShl i j = true) : CShl i j := by
  unfold cShl at h
  rw [Bool.and_eq_true] at h
  have h1 := of_decide_eq_true h.1
  have h2 := of_decide_eq_true h.2
  have b : Builtin.Int.intBits i ≤ i.natAbs.log2 + 1 := by
    unfold Builtin.Int.intBits
    split <;> omega
  have e : (2 : Int) ^ 27 = 134217728 := by decide
  refine ⟨h1, ?_⟩
  rw [e]
  omega
theorem oShl_s {K : PySem.W.Frag} {W : WX} : OpS K W (rI CShl fun i j => .int (i * 2 ^ j.toNat)) oShl := oI_s fun i j h => cShl_ok h
def oShr : Op2 := oI (fun _ j => decide (0 ≤ j)) fun i j => i / 2 ^ j.toNat
theorem oShr_s {K : PySem.W.Frag} {W : WX} : OpS K W (rI (fun _ j => 0 ≤ j) fun i j => .int (i / 2 ^ j.toNat)) oShr := oI_s fun i j h => of_decide_eq_true h
def oI0 (f : Int → Int → Int) : Op2 := fun x y g => match x, y with
  | .int i, .int j => .ok (.int (f i j)) g
  | _, _ => .no
def oB0 (f : Int → Int → Bool) : Op2 := fun x y g => match x, y with
  | .int i, .int j => .ok (.bl (f i j)) g
  | _, _ => .no
theorem oI0_s {K : PySem.W.Frag} {W : WX} {f : Int → Int → Int} : OpS K W (rI0 fun i j => .int (f i j)) (oI0 f) := fun σv m g H d e x y Q rl hd he p => by
  unfold oI0 at p
  split at p
  · cases hd; cases he
    exact ⟨_, _, rfl, rfl, fin_ok rl .int p⟩
  · exact p.elim
theorem oB0_s {K : PySem.W.Frag} {W : WX} {f : Int → Int → Bool} : OpS K W (rI0 fun i j => .bl (f i j)) (oB0 f) := fun σv m g H d e x y Q rl hd he p => by
  unfold oB0 at p
  split at p
  · cases hd; cases he
    exact ⟨_, _, rfl, rfl, fin_ok rl .bl p⟩
  · exact p.elim
abbrev oAnd : Op2 := oI0 Builtin.bitAnd
abbrev oOr : Op2 := oI0 Builtin.bitOr
abbrev oXor : Op2 := oI0 Builtin.bitXor
section
variable {X : Cx} {W : WX} {a b : Expr} {ea eb : Ev} {pos : Pos}
theorem x_add (ha : PE X a (tE X.K W ea)) (hb : PE X b (tE X.K W eb)) : PE X (.BinOp a .Add b pos) (tE X.K W (eOp oAdd ea eb)) := x_op op_add1 oAdd_s ha hb
theorem x_sub (ha : PE X a (tE X.K W ea)) (hb : PE X b (tE X.K W eb)) : PE X (.BinOp a .Sub b pos) (tE X.K W (eOp oSub ea eb)) := x_op op_sub1 oSub_s ha hb
theorem x_mul (ha : PE X a (tE X.K W ea)) (hb : PE X b (tE X.K W eb)) : PE X (.BinOp a .Mult b pos) (tE X.K W (eOp oMul ea eb)) := x_op op_mul1 oMul_s ha hb
theorem x_fdiv (ha : PE X a (tE X.K W ea)) (hb : PE X b (tE X.K W eb)) : PE X (.BinOp a .FloorDiv b pos) (tE X.K W (eOp oFdiv ea eb)) := x_op op_fdiv1 oFdiv_s ha hb
theorem x_mod (ha : PE X a (tE X.K W ea)) (hb : PE X b (tE X.K W eb)) : PE X (.BinOp a .Mod b pos) (tE X.K W (eOp oMod ea eb)) := x_op op_modN oMod_s ha hb
theorem x_pow (ha : PE X a (tE X.K W ea)) (hb : PE X b (tE X.K W eb)) : PE X (.BinOp a .Pow b pos) (tE X.K W (eOp oPow ea eb)) := x_op op_pow1 oPow_s ha hb
theorem x_shl (ha : PE X a (tE X.K W ea)) (hb : PE X b (tE X.K W eb)) : PE X (.BinOp a .LShift b pos) (tE X.K W (eOp oShl ea eb)) := x_op op_shlW oShl_s ha hb
theorem x_shr (ha : PE X a (tE X.K W ea)) (hb : PE X b (tE X.K W eb)) : PE X (.BinOp a .RShift b pos) (tE X.K W (eOp oShr ea eb)) := x_op op_shr oShr_s ha hb
theorem x_bitand (ha : PE X a (tE X.K W ea)) (hb : PE X b (tE X.K W eb)) : PE X (.BinOp a .BitAnd b pos) (tE X.K W (eOp oAnd ea eb)) := x_op op_and oI0_s ha hb
theorem x_bitor (ha : PE X a (tE X.K W ea)) (hb : PE X b (tE X.K W eb)) : PE X (.BinOp a .BitOr b pos) (tE X.K W (eOp oOr ea eb)) := x_op op_or oI0_s ha hb
theorem x_bitxor (ha : PE X a (tE X.K W ea)) (hb : PE X b (tE X.K W eb)) : PE X (.BinOp a .BitXor b pos) (tE X.K W (eOp oXor ea eb)) := x_op op_xor oI0_s ha hb
end
/-- -x -/
def oNeg : Op1 := fun x g => match x with
  | .int i => .ok (.int (-i)) g
  | _ => .no
theorem oNeg_s {K : PySem.W.Frag} {W : WX} : UnS K W (rU fun i => .int (-i)) oNeg := fun σv m g H d x Q rl hd p => by
  unfold oNeg at p
  split at p
  · cases hd
    exact ⟨_, rfl, fin_ok rl .int p⟩
  · exact p.elim
theorem x_neg {X : Cx} {W : WX} {a : Expr} {ea : Ev} {pos : Pos} (ha : PE X a (tE X.K W ea)) : PE X (.UnaryOp .USub a pos) (tE X.K W (eUn oNeg ea)) := x_un un_neg oNeg_s ha
/-! ### truth -/
def truth (g : G) : D → Option Bool
  | .non => some false
  | .bl b => some b
  | .int i => some (i != 0)
  | .str y => if y.length ≤ 100000 then some ((y.length : Int) != 0) else none
  | d => match sqOf g d with
    | some xs => some (!xs.isEmpty)
    | none => none
theorem dens_empty {K : PySem.W.Frag} {m : Md} {xs : List D} {vs : List V} (h : Dens K m xs vs) : (!xs.isEmpty) = !vs.isEmpty := by
  cases h <;> rfl
theorem truth_s {K : PySem.W.Frag} {m : Md} {g : G} {H : Hp} {d : D} {v : V} {b : Bool} (r : Rel K m g H) (h : Den K m d v) (e : truth g d = some b) : TruV K v H b := by
  unfold truth at e
  split at e
  · cases h; cases e; rfl
  · cases h; cases e; rfl
  · cases h; cases e; rfl
  · cases h
    split at e
    · cases e
      rename_i hl
      exact ⟨line5 hl, rfl⟩
    · cases e
  · split at e
    · rename_i xs hx
      cases e
      obtain ⟨p, vs, rfl, h1, h2⟩ := sqOf_s r h hx
      rcases h1 with h1 | h1
      · exact .inl ⟨vs, h1, dens_empty h2⟩
      · exact .inr (.inl ⟨vs, h1, dens_empty h2⟩)
    · cases e
def trR (g : G) (d : D) : Res Bool := match truth g d with
  | some b => .ok b g
  | none => .no
def eTru (a : Ev) : Tv := fun σ g => (a σ g).bind fun d g1 => trR g1 d
section
variable {X : Cx} {W : WX} {a b : Expr} {ea eb : Ev} {ta tb : Tv} {rest : List Expr} {pos : Pos}
theorem trR_s {K : PySem.W.Frag} {σv : L2.St} {m : Md} {g : G} {H : Hp} {d : D} {v : V} {Q : Bool → Hp → Prop} (rl : Rel K m g H) (hd : Den K m d v) (p : Post K W σv (fun _ a b => a = b) (trR g d) m Q) : ∃ k, TruV K v H k ∧ Q k H := by
  unfold trR at p
  split at p
  · rename_i c hc
    exact ⟨c, truth_s rl hd hc, fin_ok rl rfl p⟩
  · exact p.elim
theorem t_tru (ha : PE X a (tE X.K W ea)) (he : ∀ whole, isTrue a X.env whole = (do let v ← whole; standAt a.pos; holding [v] (truthy v)) := by intro _; rfl) : PT X a (tT X.K W (eTru ea)) := PT.imp (pt_truth ha he) fun σ H Q h => by
  obtain ⟨m, σ', g, rl, sl, hl, p⟩ := h
  refine ⟨m, σ', g, rl, sl, hl, Post.bind p fun d g1 m1 H1 x l1 r1 d1 p1 => ?_⟩
  exact trR_s r1 d1 p1
def eAndT (a b : Tv) : Tv := fun σ g => (a σ g).bind fun c g1 => match c with
  | true => b σ g1
  | false => .ok false g1
def eOrT (a b : Tv) : Tv := fun σ g => (a σ g).bind fun c g1 => match c with
  | true => .ok true g1
  | false => b σ g1
def eNotT (a : Tv) : Tv := fun σ g => (a σ g).bind fun c g1 => .ok (!c) g1
theorem w_and (ha : PT X a (tT X.K W ta)) (hb : PW X (.BoolOp .And (b :: rest) pos) (tT X.K W tb)) : PW X (.BoolOp .And (a :: b :: rest) pos) (tT X.K W (eAndT ta tb)) := ⟨fun wh pins s σ H Q I h => (pw_and ha hb).run wh pins s σ H Q I (by
  obtain ⟨m, σ', g, rl, sl, hl, p⟩ := h
  refine ⟨m, σ', g, rl, sl, hl, Post.bind p fun c g1 m1 H1 x l1 r1 d1 p1 => ?_⟩
  cases d1
  cases c with
  | true => exact ⟨m1, σ', g1, r1, sl.mono l1, hl, p1⟩
  | false => exact fin_ok r1 rfl p1)⟩
theorem w_or (ha : PT X a (tT X.K W ta)) (hb : PW X (.BoolOp .Or (b :: rest) pos) (tT X.K W tb)) : PW X (.BoolOp .Or (a :: b :: rest) pos) (tT X.K W (eOrT ta tb)) := ⟨fun wh pins s σ H Q I h => (pw_or ha hb).run wh pins s σ H Q I (by
  obtain ⟨m, σ', g, rl, sl, hl, p⟩ := h
  refine ⟨m, σ', g, rl, sl, hl, Post.bind p fun c g1 m1 H1 x l1 r1 d1 p1 => ?_⟩
  cases d1
  cases c with
  | true => exact fin_ok r1 rfl p1
  | false => exact ⟨m1, σ', g1, r1, sl.mono l1, hl, p1⟩)⟩
theorem w_and1 (ha : PT X a (tT X.K W ta)) : PW X (.BoolOp .And [a] pos) (tT X.K W ta) := pw_and1 ha
theorem w_or1 (ha : PT X a (tT X.K W ta)) : PW X (.BoolOp .Or [a] pos) (tT X.K W ta) := pw_or1 ha
theorem t_not (ha : PT X a (tT X.K W ta)) : PT X (.UnaryOp .Not a pos) (tT X.K W (eNotT ta)) := PT.imp (pt_not ha) fun σ H Q h => by
  obtain ⟨m, σ', g, rl, sl, hl, p⟩ := h
  refine ⟨m, σ', g, rl, sl, hl, Post.bind p fun c g1 m1 H1 x l1 r1 d1 p1 => ?_⟩
  cases d1
  exact fin_ok r1 rfl p1
/-- as values -/
def eAnd (a b : Ev) : Ev := fun σ g => (a σ g).bind fun d g1 => (trR g1 d).bind fun c _ => match c with
  | true => b σ g1
  | false => .ok d g1
def eOr (a b : Ev) : Ev := fun σ g => (a σ g).bind fun d g1 => (trR g1 d).bind fun c _ => match c with
  | true => .ok d g1
  | false => b σ g1
def eNot (a : Ev) : Ev := fun σ g => (a σ g).bind fun d g1 => (trR g1 d).bind fun c _ => .ok (.bl (!c)) g1
theorem tr_case {K : PySem.W.Frag} {σv : L2.St} {m : Md} {g : G} {H : Hp} {d : D} {v : V} {f : Bool → Res D} {Q : VK} (rl : Rel K m g H) (hd : Den K m d v) (p : Post K W σv (Den K) ((trR g d).bind fun c _ => f c) m Q) : ∃ k, TruV K v H k ∧ Post K W σv (Den K) (f k) m Q := by
  unfold trR at p
  cases hc : truth g d with
  | none => rw [hc] at p; exact p.elim
  | some c => rw [hc] at p; exact ⟨c, truth_s rl hd hc, p⟩
theorem x_and (ha : PE X a (tE X.K W ea)) (hb : PE X (.BoolOp .And (b :: rest) pos) (tE X.K W eb)) : PE X (.BoolOp .And (a :: b :: rest) pos) (tE X.K W (eAnd ea eb)) := PE.imp (pe_andT ha hb) fun σ H Q h => by
  obtain ⟨m, σ', g, rl, sl, hl, p⟩ := h
  refine ⟨m, σ', g, rl, sl, hl, Post.bind p fun d g1 m1 H1 x l1 r1 d1 p1 => ?_⟩
  obtain ⟨k, h1, p2⟩ := tr_case r1 d1 p1
  refine ⟨k, h1, ?_⟩
  cases k with
  | true => exact ⟨m1, σ', g1, r1, sl.mono l1, hl, p2⟩
  | false => exact fin_ok r1 d1 p2
theorem x_or (ha : PE X a (tE X.K W ea)) (hb : PE X (.BoolOp .Or (b :: rest) pos) (tE X.K W eb)) : PE X (.BoolOp .Or (a :: b :: rest) pos) (tE X.K W (eOr ea eb)) := PE.imp (pe_orT ha hb) fun σ H Q h => by
  obtain ⟨m, σ', g, rl, sl, hl, p⟩ := h
  refine ⟨m, σ', g, rl, sl, hl, Post.bind p fun d g1 m1 H1 x l1 r1 d1 p1 => ?_⟩
  obtain ⟨k, h1, p2⟩ := tr_case r1 d1 p1
  refine ⟨k, h1, ?_⟩
  cases k with
  | true => exact fin_ok r1 d1 p2
  | false => exact ⟨m1, σ', g1, r1, sl.mono l1, hl, p2⟩
theorem x_one {op} (ha : PE X a (tE X.K W ea)) : PE X (.BoolOp op [a] pos) (tE X.K W ea) := pe_one ha
theorem x_not (ha : PE X a (tE X.K W ea)) : PE X (.UnaryOp .Not a pos) (tE X.K W (eNot ea)) := PE.imp (pe_notT ha) fun σ H Q h => by
  obtain ⟨m, σ', g, rl, sl, hl, p⟩ := h
  refine ⟨m, σ', g, rl, sl, hl, Post.bind p fun d g1 m1 H1 x l1 r1 d1 p1 => ?_⟩
  obtain ⟨k, h1, p2⟩ := tr_case r1 d1 p1
  exact ⟨k, h1, fin_ok r1 .bl p2⟩
def eIf (c : Tv) (a b : Ev) : Ev := fun σ g => (c σ g).bind fun k g1 => match k with
  | true => a σ g1
  | false => b σ g1
theorem x_if {c : Expr} {tc : Tv} (hc : PT X c (tT X.K W tc)) (ha : PE X a (tE X.K W ea)) (hb : PE X b (tE X.K W eb)) : PE X (.IfExp c a b pos) (tE X.K W (eIf tc ea eb)) := PE.imp (pe_ifExp hc ha hb) fun σ H Q h => by
  obtain ⟨m, σ', g, rl, sl, hl, p⟩ := h
  refine ⟨m, σ', g, rl, sl, hl, Post.bind p fun c g1 m1 H1 x l1 r1 d1 p1 => ?_⟩
  cases d1
  cases c with
  | true => exact ⟨m1, σ', g1, r1, sl.mono l1, hl, p1⟩
  | false => exact ⟨m1, σ', g1, r1, sl.mono l1, hl, p1⟩
end
end AW
namespace AW
open PySem PySem.Spec L2
/-! ### == of data -/
mutual
def D.py : D → Option PyData
  | .non => some .none
  | .bl b => some (.bool b)
  | .int i => some (.int i)
  | .str x => some (.str x)
  | .tup xs => match D.pys xs with
    | some ys => some (.tuple ys)
    | none => none
  | .lst xs => match D.pys xs with
    | some ys => some (.list ys)
    | none => none
  | .seq xs => match D.pys xs with
    | some ys => some (.list ys)
    | none => none
  | .dct _ _ => none
  | .dtt _ _ => none
  | .ins _ _ => none
  | .glo _ => none
  | .ref _ => none
  | .val _ => none
def D.pys : List D → Option (List PyData)
  | [] => some []
  | x :: xs => match D.py x, D.pys xs with
    | some y, some ys => some (y :: ys)
    | _, _ => none
end
mutual
theorem py_s {K : PySem.W.Frag} {m : Md} {H : Hp} (ex : ∀ a o, m.F a = some o → H a = some o) : ∀ {d : D} {v : V} {p : PyData}, Den K m d v → D.py d = some p → Dp K H v p
  | .non, _, _, h, e => by cases h; rw [D.py] at e; cases e; exact .non
  | .bl b, _, _, h, e => by cases h; rw [D.py] at e; cases e; exact .bl _
  | .int i, _, _, h, e => by cases h; rw [D.py] at e; cases e; exact .int _
  | .str x, _, _, h, e => by cases h; rw [D.py] at e; cases e; exact .str _
  | .tup xs, _, _, h, e => by
    cases h with
    | tup h1 h2 =>
      rw [D.py] at e
      split at e
      · rename_i ys hy
        cases e
        exact .tup (sqT_le ex h1) (pys_s ex h2 hy)
      · cases e
  | .lst xs, _, _, h, e => by
    cases h with
    | lst h1 h2 =>
      rw [D.py] at e
      split at e
      · rename_i ys hy
        cases e
        exact .lst (SqL.of (ex _ _ h1)) (pys_s ex h2 hy)
      · cases e
  | .seq xs, _, _, h, e => by
    cases h with
    | seq h1 h2 =>
      rw [D.py] at e
      split at e
      · rename_i ys hy
        cases e
        exact .lst (sqL_le ex h1) (pys_s ex h2 hy)
      · cases e
  | .dct _ _, _, _, _, e => by rw [D.py] at e; cases e
  | .dtt _ _, _, _, _, e => by rw [D.py] at e; cases e
  | .ins _ _, _, _, _, e => by rw [D.py] at e; cases e
  | .glo _, _, _, _, e => by rw [D.py] at e; cases e
  | .ref _, _, _, _, e => by rw [D.py] at e; cases e
  | .val _, _, _, _, e => by rw [D.py] at e; cases e
theorem pys_s {K : PySem.W.Frag} {m : Md} {H : Hp} (ex : ∀ a o, m.F a = some o → H a = some o) : ∀ {ds : List D} {vs : List V} {ps : List PyData}, Dens K m ds vs → D.pys ds = some ps → DpAll K H vs ps
  | [], _, _, h, e => by cases h; rw [D.pys] at e; cases e; exact .nil
  | d :: ds, _, _, h, e => by
    cases h with
    | cons h1 h2 =>
      rw [D.pys] at e
      split at e
      · rename_i y ys hy hys
        cases e
        exact .cons (py_s ex h1 hy) (pys_s ex h2 hys)
      · cases e
end
def pyG (g : G) (d : D) : Option PyData := match d with
  | .ref i => match lsOf g (.ref i) with
    | some xs => match D.pys xs with
      | some ys => some (.list ys)
      | none => none
    | none => none
  | d => D.py d
theorem pyG_s {K : PySem.W.Frag} {m : Md} {g : G} {H : Hp} {d : D} {v : V} {p : PyData} (r : Rel K m g H) (h : Den K m d v) (e : pyG g d = some p) : Dp K H v p := by
  unfold pyG at e
  split at e
  · split at e
    · rename_i xs hx
      split at e
      · rename_i ys hy
        cases e
        obtain ⟨a, vs, rfl, h1, h2⟩ := lsOf_s r h hx
        exact .lst (SqL.of h1) (pys_s r.ex h2 hy)
      · cases e
    · cases e
  · exact py_s r.ex h e
/-- lists of different lengths -/
def lenNe (g : G) (x y : D) : Option Bool := match lsOf g x, lsOf g y with
  | some xs, some ys => if xs.length = ys.length then none else some false
  | _, _ => none
def eqD (g : G) (x y : D) : Option Bool := match x, y with
  | .int i, .int j => some (decide (i = j))
  | .bl i, .bl j => some (decide (i = j))
  | .str i, .str j => some (decide (i = j))
  | .non, .non => some true
  | x, y => match pyG g x, pyG g y with
    | some p, some q => if (SeqAt.shaped p && SeqAt.shaped q) = true then some (PyData.eqv p q) else lenNe g x y
    | _, _ => lenNe g x y
def oEq : Op2 := fun x y g => match eqD g x y with
  | some b => .ok (.bl b) g
  | none => .no
def oNe : Op2 := fun x y g => match eqD g x y with
  | some b => .ok (.bl (!b)) g
  | none => .no
def rLen (r : Bool) : R2 := fun x y H Q => ∃ a b xs ys, x = .ref a ∧ y = .ref b ∧ H a = some (.lst xs) ∧ H b = some (.lst ys) ∧ xs.length ≠ ys.length ∧ Q (.bl r) H
theorem lst_is {X : Cx} {pins : List (Addr × Obj)} {σ : L2.St} {H : Hp} {s : Shared} {a : Addr} {xs : List V} (I : Inv X pins σ H s) (h : H a = some (.lst xs)) : ∃ its : Array Value, s.heap.IsList a its ∧ its.size = xs.length := by
  obtain ⟨_, its, n, hv, e⟩ := (show ObjOk X.prog X.w H s.heap a (.lst xs) from I.hok a _ h)
  exact ⟨its.toArray, ⟨_, e, rfl, n, rfl⟩, by rw [List.size_toArray, ← hv.length]⟩
theorem op_eqLen {X : Cx} (hu : X.A.units + 64 < cLine) : OpR X (compareOp .Eq) (rLen false) := by
  intro pins s σ H x y v u Q I rx ry h
  obtain ⟨a, b, xs, ys, rfl, rfl, h1, h2, h3, q⟩ := h
  cases (show v = Value.ref a from rx)
  cases (show u = Value.ref b from ry)
  obtain ⟨is, i1, i2⟩ := lst_is I h1
  obtain ⟨js, j1, j2⟩ := lst_is I h2
  exact SeqAt.RcAt.lists_lengths i1 j1 (by rw [i2, j2]; simpa using h3) (by omega) _ _ _ _ ⟨.bl false, H, I, rfl, q⟩
theorem op_neLen {X : Cx} (hu : X.A.units + 64 < cLine) : OpR X (compareOp .NotEq) (rLen true) := by
  intro pins s σ H x y v u Q I rx ry h
  obtain ⟨a, b, xs, ys, rfl, rfl, h1, h2, h3, q⟩ := h
  cases (show v = Value.ref a from rx)
  cases (show u = Value.ref b from ry)
  obtain ⟨is, i1, i2⟩ := lst_is I h1
  obtain ⟨js, j1, j2⟩ := lst_is I h2
  exact SeqAt.RcNeAt.lists_lengths i1 j1 (by rw [i2, j2]; simpa using h3) (by omega) _ _ _ _ ⟨.bl true, H, I, rfl, q⟩
def rEq1 (K : PySem.W.Frag) : R2 := fun x y H Q => rEq x y H Q ∨ (rEqD K x y H Q ∨ rLen false x y H Q)
def rNe1 (K : PySem.W.Frag) : R2 := fun x y H Q => rNe x y H Q ∨ (rNeD K x y H Q ∨ rLen true x y H Q)
theorem lenNe_s {K : PySem.W.Frag} {m : Md} {g : G} {H : Hp} {d e : D} {x y : V} {b : Bool} (rl : Rel K m g H) (hd : Den K m d x) (he : Den K m e y) (h : lenNe g d e = some b) :
    b = false ∧ ∃ a b xs ys, x = .ref a ∧ y = .ref b ∧ H a = some (.lst xs) ∧ H b = some (.lst ys) ∧ xs.length ≠ ys.length := by
  unfold lenNe at h
  split at h
  · rename_i xs ys h1 h2
    split at h
    · cases h
    · rename_i hn
      cases h
      obtain ⟨a, vs, rfl, ha, da⟩ := lsOf_s rl hd h1
      obtain ⟨b, ws, rfl, hb, db⟩ := lsOf_s rl he h2
      exact ⟨rfl, a, b, vs, ws, rfl, rfl, ha, hb, by rw [← da.length, ← db.length]; exact hn⟩
  · cases h
theorem dec_int' {i j : Int} : decide (V.int i = V.int j) = decide (i = j) := by rw [dec_int]; rfl
theorem dec_bl' {i j : Bool} : decide (V.bl i = V.bl j) = decide (i = j) := by rw [dec_bl]; cases i <;> cases j <;> rfl
theorem dec_str' {i j : Str} : decide (V.str i = V.str j) = decide (i = j) := by rw [Bool.eq_iff_iff]; simp
theorem eqD_s {K : PySem.W.Frag} {m : Md} {g : G} {H : Hp} {d e : D} {x y : V} {b : Bool} (rl : Rel K m g H) (hd : Den K m d x) (he : Den K m e y) (h : eqD g d e = some b) :
    (scal x y = true ∧ decide (x = y) = b) ∨ (∃ p q, Dp K H x p ∧ Dp K H y q ∧ SeqAt.shaped p = true ∧ SeqAt.shaped q = true ∧ PyData.eqv p q = b) ∨ (b = false ∧ ∃ a b xs ys, x = .ref a ∧ y = .ref b ∧ H a = some (.lst xs) ∧ H b = some (.lst ys) ∧ xs.length ≠ ys.length) := by
  unfold eqD at h
  split at h
  · cases hd; cases he; cases h; exact .inl ⟨rfl, dec_int'⟩
  · cases hd; cases he; cases h; exact .inl ⟨rfl, dec_bl'⟩
  · cases hd; cases he; cases h; exact .inl ⟨rfl, dec_str'⟩
  · cases hd; cases he; cases h; exact .inl ⟨rfl, rfl⟩
  · split at h
    · rename_i p q hp hq
      split at h
      · rename_i hs
        cases h
        rw [Bool.and_eq_true] at hs
        exact .inr (.inl ⟨p, q, pyG_s rl hd hp, pyG_s rl he hq, hs.1, hs.2, rfl⟩)
      · exact .inr (.inr (lenNe_s rl hd he h))
    · exact .inr (.inr (lenNe_s rl hd he h))
theorem oEq_s {K : PySem.W.Frag} {W : WX} : OpS K W (rEq1 K) oEq := fun σv m g H d e x y Q rl hd he p => by
  unfold oEq at p
  split at p
  · rename_i b hb
    rcases eqD_s rl hd he hb with ⟨h1, h2⟩ | ⟨a, b', h1, h2, h3, h4, h5⟩ | ⟨rfl, a, b', xs, ys, h1, h2, h3, h4, h5⟩
    · refine .inl ⟨h1, ?_⟩
      rw [h2]
      exact fin_ok rl .bl p
    · refine .inr (.inl ⟨a, b', h1, h2, h3, h4, ?_⟩)
      rw [h5]
      exact fin_ok rl .bl p
    · exact .inr (.inr ⟨a, b', xs, ys, h1, h2, h3, h4, h5, fin_ok rl .bl p⟩)
  · exact p.elim
theorem oNe_s {K : PySem.W.Frag} {W : WX} : OpS K W (rNe1 K) oNe := fun σv m g H d e x y Q rl hd he p => by
  unfold oNe at p
  split at p
  · rename_i b hb
    rcases eqD_s rl hd he hb with ⟨h1, h2⟩ | ⟨a, b', h1, h2, h3, h4, h5⟩ | ⟨rfl, a, b', xs, ys, h1, h2, h3, h4, h5⟩
    · refine .inl ⟨h1, ?_⟩
      rw [h2]
      exact fin_ok rl .bl p
    · refine .inr (.inl ⟨a, b', h1, h2, h3, h4, ?_⟩)
      rw [h5]
      exact fin_ok rl .bl p
    · exact .inr (.inr ⟨a, b', xs, ys, h1, h2, h3, h4, h5, fin_ok rl .bl p⟩)
  · exact p.elim
section
variable {X : Cx} {W : WX} {a b c : Expr} {ea eb ec : Ev} {pos : Pos}
theorem op_eq1 (hu : X.A.units + 64 < cLine) : OpR X (compareOp .Eq) (rEq1 X.K) := opR_or op_eq (opR_or (op_eqD hu) (op_eqLen hu))
theorem op_ne1 (hu : X.A.units + 64 < cLine) : OpR X (compareOp .NotEq) (rNe1 X.K) := opR_or op_ne (opR_or (op_neD hu) (op_neLen hu))
theorem x_cmp {op : CmpOp} {r : R2} {f : Op2} (ho : OpR X (compareOp op) r) (hs : OpS X.K W r f) (ha : PE X a (tE X.K W ea)) (hb : PE X b (tE X.K W eb)) (hm : behindInMarks op b = false) : PE X (.Compare a [op] [b] pos) (tE X.K W (eOp f ea eb)) :=
  PE.imp (pe_cmpR ho ha hb hm) fun _ _ _ h => tOp_of hs h
theorem x_eq (hu : X.A.units + 64 < cLine) (ha : PE X a (tE X.K W ea)) (hb : PE X b (tE X.K W eb)) : PE X (.Compare a [.Eq] [b] pos) (tE X.K W (eOp oEq ea eb)) := x_cmp (op_eq1 hu) oEq_s ha hb (nomark _)
theorem x_ne (hu : X.A.units + 64 < cLine) (ha : PE X a (tE X.K W ea)) (hb : PE X b (tE X.K W eb)) : PE X (.Compare a [.NotEq] [b] pos) (tE X.K W (eOp oNe ea eb)) := x_cmp (op_ne1 hu) oNe_s ha hb (nomark _)
abbrev oLt : Op2 := oB0 fun i j => decide (i < j)
abbrev oLe : Op2 := oB0 fun i j => decide (i ≤ j)
abbrev oGt : Op2 := oB0 fun i j => decide (j < i)
abbrev oGe : Op2 := oB0 fun i j => decide (j ≤ i)
theorem x_lt (ha : PE X a (tE X.K W ea)) (hb : PE X b (tE X.K W eb)) : PE X (.Compare a [.Lt] [b] pos) (tE X.K W (eOp oLt ea eb)) := x_cmp op_lt oB0_s ha hb (nomark _)
theorem x_le (ha : PE X a (tE X.K W ea)) (hb : PE X b (tE X.K W eb)) : PE X (.Compare a [.LtE] [b] pos) (tE X.K W (eOp oLe ea eb)) := x_cmp op_le oB0_s ha hb (nomark _)
theorem x_gt (ha : PE X a (tE X.K W ea)) (hb : PE X b (tE X.K W eb)) : PE X (.Compare a [.Gt] [b] pos) (tE X.K W (eOp oGt ea eb)) := x_cmp op_gt oB0_s ha hb (nomark _)
theorem x_ge (ha : PE X a (tE X.K W ea)) (hb : PE X b (tE X.K W eb)) : PE X (.Compare a [.GtE] [b] pos) (tE X.K W (eOp oGe ea eb)) := x_cmp op_ge oB0_s ha hb (nomark _)
/-- a chain of two -/
def eChain (f f' : Op2) (a b c : Ev) : Ev := fun σ g => (a σ g).bind fun x g1 => (b σ g1).bind fun y g2 => (f x y g2).bind fun z g3 => match z with
  | .bl true => (c σ g3).bind fun w g4 => f' y w g4
  | .bl false => .ok (.bl false) g3
  | _ => .no
theorem x_chain {op op' : CmpOp} {r r' : R2} {f f' : Op2} (ho : OpR X (compareOp op) r) (ho' : OpR X (compareOp op') r') (hs : ∀ σv m g H d e x y Q, Rel X.K m g H → Den X.K m d x → Den X.K m e y → Post X.K W σv (Den X.K) (f d e g) m Q → r x y H Q) (hs' : OpS X.K W r' f')
    (ha : PE X a (tE X.K W ea)) (hb : PE X b (tE X.K W eb)) (hc : PE X c (tE X.K W ec)) (hm : lastMarks [op, op'] [b, c] = false := by with_unfolding_all rfl) : PE X (.Compare a [op, op'] [b, c] pos) (tE X.K W (eChain f f' ea eb ec)) :=
  PE.imp (pe_chain ho ho' ha hb hc hm) fun σ H Q h => by
    obtain ⟨m, σ', g, rl, sl, hl, p⟩ := h
    refine ⟨m, σ', g, rl, sl, hl, Post.bind p fun d g1 m1 H1 x l1 r1 d1 p1 => ?_⟩
    refine ⟨m1, σ', g1, r1, sl.mono l1, hl, Post.bind p1 fun e g2 m2 H2 y l2 r2 d2 p2 => ?_⟩
    refine hs σ m2 g2 H2 d e x y _ r2 (d1.mono l2) d2 (Post.bind p2 fun z g3 m3 H3 zv l3 r3 d3 p3 => ?_)
    split at p3
    · cases d3
      refine ⟨true, rfl, ?_⟩
      rw [if_pos rfl]
      refine ⟨m3, σ', g3, r3, ((sl.mono l1).mono l2).mono l3, hl, Post.bind p3 fun w' g4 m4 H4 wv l4 r4 d4 p4 => ?_⟩
      exact hs' σ m4 g4 H4 e w' y wv Q r4 ((d2.mono l3).mono l4) d4 p4
    · cases d3
      refine ⟨false, rfl, ?_⟩
      rw [if_neg Bool.false_ne_true]
      exact fin_ok r3 .bl p3
    · exact p3.elim
end
/-! ### in -/
def flatD : D → Bool
  | .non => true
  | .bl _ => true
  | .int _ => true
  | .str _ => true
  | _ => false
def eqF : D → D → Bool
  | .non, .non => true
  | .bl a, .bl b => a == b
  | .bl a, .int b => (if a then 1 else 0) == b
  | .int a, .bl b => a == (if b then 1 else 0)
  | .int a, .int b => a == b
  | .str a, .str b => a == b
  | _, _ => false
theorem flat_s {K : PySem.W.Frag} {m : Md} {d : D} {v : V} (h : Den K m d v) (f : flatD d = true) : flatV v = true := by
  cases h <;> first | rfl | exact absurd f Bool.false_ne_true
theorem flats_s {K : PySem.W.Frag} {m : Md} : ∀ {ds : List D} {vs : List V}, Dens K m ds vs → ds.all flatD = true → vs.all flatV = true
  | _, _, .nil, _ => rfl
  | _, _, .cons a t, f => by
    rw [List.all_cons, Bool.and_eq_true] at f ⊢
    exact ⟨flat_s a f.1, flats_s t f.2⟩
theorem eqF_s {K : PySem.W.Frag} {m : Md} {d e : D} {v u : V} (h : Den K m d v) (h' : Den K m e u) (f : flatD d = true) (f' : flatD e = true) : eqV v u = eqF d e := by
  cases h <;> cases h' <;> first | rfl | exact absurd f Bool.false_ne_true | exact absurd f' Bool.false_ne_true
def inF (x : D) (ys : List D) : Bool := ys.any fun y => eqF y x
theorem inF_s {K : PySem.W.Frag} {m : Md} {d : D} {v : V} (h : Den K m d v) (f : flatD d = true) : ∀ {ds : List D} {vs : List V}, Dens K m ds vs → ds.all flatD = true → inV v vs = inF d ds
  | _, _, .nil, _ => rfl
  | _, _, .cons a t, f' => by
    rw [List.all_cons, Bool.and_eq_true] at f'
    have := inF_s h f t f'.2
    unfold inV inF at this ⊢
    rw [List.any_cons, List.any_cons, this, eqF_s a h f'.1 f]
def inDeep (g : G) (x y : D) : Option Bool := match pyG g x, pyG g y with
  | some p, some (.list qs) => if (SeqAt.shaped p && SeqAt.shaped (.list qs)) = true then some (qs.any fun z => PyData.eqv z p) else none
  | some p, some (.tuple qs) => if (SeqAt.shaped p && SeqAt.shaped (.tuple qs)) = true then some (qs.any fun z => PyData.eqv z p) else none
  | _, _ => none
def inD (g : G) (x y : D) : Option (Bool × Bool) := match y with
  | .str j => match x with
    | .str i => some (true, !(Builtin.Str.occurrences j i 0 j.length 1).isEmpty)
    | _ => none
  | y => match sqOf g y with
    | some ys => if (flatD x && ys.all flatD) = true then some (false, inF x ys) else match inDeep g x y with
      | some b => some (false, b)
      | none => none
    | none => none
def oIn (neg : Bool) : Op2 := fun x y g => match inD g x y with
  | some b => .ok (.bl (if neg = true then !b.2 else b.2)) g
  | none => .no
def rInTD (K : PySem.W.Frag) (neg : Bool) : R2 := fun x y H Q => ∃ d ds, Dp K H x d ∧ Dp K H y (.tuple ds) ∧ SeqAt.shaped d = true ∧ SeqAt.shaped (.tuple ds) = true ∧ Q (.bl (if neg = true then !ds.any fun z => PyData.eqv z d else ds.any fun z => PyData.eqv z d)) H
theorem op_inTD {X : Cx} (hu : X.A.units + 65 < cLine) : OpR X (compareOp .In) (rInTD X.K false) := by
  intro pins s σ H x y v u Q I rx ry h
  obtain ⟨d, ds, hd, he, sd, se, q⟩ := h
  obtain ⟨as, r1⟩ := Dp.reads I d x v hd rx
  obtain ⟨bs, r2⟩ := Dp.reads I (.tuple ds) y u he ry
  exact SeqAt.in_tuple_reads r2 r1 (SeqAt.canLay_of_shaped se) (SeqAt.canLay_of_shaped sd) (PyProof.Rows.room_in_shaped sd hu) ⟨.bl _, H, I, rfl, q⟩
theorem op_ninTD {X : Cx} (hu : X.A.units + 65 < cLine) : OpR X (compareOp .NotIn) (rInTD X.K true) := by
  intro pins s σ H x y v u Q I rx ry h
  obtain ⟨d, ds, hd, he, sd, se, q⟩ := h
  obtain ⟨as, r1⟩ := Dp.reads I d x v hd rx
  obtain ⟨bs, r2⟩ := Dp.reads I (.tuple ds) y u he ry
  exact SeqAt.notIn_tuple_reads r2 r1 (SeqAt.canLay_of_shaped se) (SeqAt.canLay_of_shaped sd) (PyProof.Rows.room_in_shaped sd hu) ⟨.bl _, H, I, rfl, q⟩
def rIn0 (K : PySem.W.Frag) (neg : Bool) : R2 := fun x y H Q => ((∃ i j, x = .str i ∧ y = .str j ∧ Q (.bl (if neg = true then !(!(Builtin.Str.occurrences j i 0 j.length 1).isEmpty) else (!(Builtin.Str.occurrences j i 0 j.length 1).isEmpty))) H) ∨ rIn K neg x y H Q) ∨
  (∃ d ds, Dp K H x d ∧ Dp K H y (.list ds) ∧ SeqAt.shaped d = true ∧ SeqAt.shaped (.list ds) = true ∧ Q (.bl (if neg = true then !ds.any fun z => PyData.eqv z d else ds.any fun z => PyData.eqv z d)) H)
theorem op_in0 {X : Cx} (hu : X.A.units + 65 < cLine) : OpR X (compareOp .In) (rIn0 X.K false) := opR_or (opR_or op_in_str op_in_seq) (op_inD hu)
theorem op_nin0 {X : Cx} (hu : X.A.units + 65 < cLine) : OpR X (compareOp .NotIn) (rIn0 X.K true) := opR_or (opR_or op_notin_str op_notIn_seq) (op_notInD hu)
def rIn1 (K : PySem.W.Frag) (neg : Bool) : R2 := fun x y H Q => rIn0 K neg x y H Q ∨ rInTD K neg x y H Q
theorem op_in1 {X : Cx} (hu : X.A.units + 65 < cLine) : OpR X (compareOp .In) (rIn1 X.K false) := opR_or (op_in0 hu) (op_inTD hu)
theorem op_nin1 {X : Cx} (hu : X.A.units + 65 < cLine) : OpR X (compareOp .NotIn) (rIn1 X.K true) := opR_or (op_nin0 hu) (op_ninTD hu)
theorem oIn_s {K : PySem.W.Frag} {W : WX} {neg : Bool} : OpS K W (rIn1 K neg) (oIn neg) := fun σv m g H d e x y Q rl hd he p => by
  unfold oIn at p
  split at p
  · rename_i b hb
    unfold inD at hb
    split at hb
    · split at hb
      · cases hb
        cases hd; cases he
        exact .inl (.inl (.inl ⟨_, _, rfl, rfl, fin_ok rl .bl p⟩))
      · cases hb
    · split at hb
      · rename_i ys hy
        split at hb
        · rename_i hf
          cases hb
          rw [Bool.and_eq_true] at hf
          obtain ⟨a, vs, rfl, h1, h2⟩ := sqOf_s rl he hy
          refine .inl (.inl (.inr ⟨a, vs, rfl, h1, flat_s hd hf.1, flats_s h2 hf.2, ?_⟩))
          rw [inF_s hd hf.1 h2 hf.2]
          exact fin_ok rl .bl p
        · split at hb
          · rename_i c hc
            cases hb
            unfold inDeep at hc
            split at hc
            · rename_i p' qs hp hq
              split at hc
              · rename_i hs
                cases hc
                rw [Bool.and_eq_true] at hs
                exact .inl (.inr ⟨p', qs, pyG_s rl hd hp, pyG_s rl he hq, hs.1, hs.2, fin_ok rl .bl p⟩)
              · cases hc
            · rename_i p' qs hp hq
              split at hc
              · rename_i hs
                cases hc
                rw [Bool.and_eq_true] at hs
                exact .inr ⟨p', qs, pyG_s rl hd hp, pyG_s rl he hq, hs.1, hs.2, fin_ok rl .bl p⟩
              · cases hc
            · cases hc
          · cases hb
      · cases hb
  · exact p.elim
section
variable {X : Cx} {W : WX} {a b c : Expr} {ea eb ec : Ev} {pos : Pos}
theorem x_in (hu : X.A.units + 65 < cLine) (ha : PE X a (tE X.K W ea)) (hb : PE X b (tE X.K W eb)) (hm : behindInMarks .In b = false := by with_unfolding_all rfl) : PE X (.Compare a [.In] [b] pos) (tE X.K W (eOp (oIn false) ea eb)) := x_cmp (op_in1 hu) oIn_s ha hb hm
theorem x_nin (hu : X.A.units + 65 < cLine) (ha : PE X a (tE X.K W ea)) (hb : PE X b (tE X.K W eb)) (hm : behindInMarks .NotIn b = false := by with_unfolding_all rfl) : PE X (.Compare a [.NotIn] [b] pos) (tE X.K W (eOp (oIn true) ea eb)) := x_cmp (op_nin1 hu) oIn_s ha hb hm
/-- is None -/
def isNon : D → Option Bool
  | .non => some true
  | .val _ => none
  | _ => some false
def oIs (neg : Bool) : Op2 := fun x y g => match y with
  | .non => match isNon x with
    | some b => .ok (.bl (if neg = true then !b else b)) g
    | none => .no
  | _ => .no
theorem isNon_s {K : PySem.W.Frag} {m : Md} {d : D} {v : V} {b : Bool} (h : Den K m d v) (e : isNon d = some b) : decide (v = .non) = b := by
  cases h <;> cases e <;> first | rfl | (exact decide_eq_false (fun z => nomatch z))
theorem oIs_s {K : PySem.W.Frag} {W : WX} : OpS K W (fun x y H Q => y = .non ∧ Q (.bl (decide (x = .non))) H) (oIs false) := fun σv m g H d e x y Q rl hd he p => by
  unfold oIs at p
  split at p
  · split at p
    · rename_i b hb
      cases he
      refine ⟨rfl, ?_⟩
      rw [isNon_s hd hb]
      exact fin_ok rl .bl p
    · exact p.elim
  · exact p.elim
theorem oIsn_s {K : PySem.W.Frag} {W : WX} : OpS K W (fun x y H Q => y = .non ∧ Q (.bl (!decide (x = .non))) H) (oIs true) := fun σv m g H d e x y Q rl hd he p => by
  unfold oIs at p
  split at p
  · split at p
    · rename_i b hb
      cases he
      refine ⟨rfl, ?_⟩
      rw [isNon_s hd hb]
      exact fin_ok rl .bl p
    · exact p.elim
  · exact p.elim
theorem x_is (ha : PE X a (tE X.K W ea)) (hb : PE X b (tE X.K W eb)) : PE X (.Compare a [.Is] [b] pos) (tE X.K W (eOp (oIs false) ea eb)) := x_cmp op_isN oIs_s ha hb (nomark _)
theorem x_isn (ha : PE X a (tE X.K W ea)) (hb : PE X b (tE X.K W eb)) : PE X (.Compare a [.IsNot] [b] pos) (tE X.K W (eOp (oIs true) ea eb)) := x_cmp op_notN oIsn_s ha hb (nomark _)
end
/-! ### argument lists, displays -/
def aNil : Av := fun _ g => .ok [] g
def aCons (a : Ev) (r : Av) : Av := fun σ g => (a σ g).bind fun x g1 => (r σ g1).bind fun xs g2 => .ok (x :: xs) g2
def eTup (t : Av) : Ev := fun σ g => (t σ g).bind fun xs g1 => okIf (small xs) (.tup xs) g1
def eLst (t : Av) : Ev := fun σ g => (t σ g).bind fun xs g1 => okIf (small xs) (.lst xs) g1
/-- a list that will change -/
def eLstM (t : Av) : Ev := fun σ g => (t σ g).bind fun xs g1 => okIf (small xs) (.ref g1.length) (g1 ++ [.lst xs])
def Md.cell (m : Md) (n : Nat) (p : Addr) : Md := ⟨m.F, fun i => if i = n then some p else m.r i, m.hid⟩
theorem Rel.fresh {K : PySem.W.Frag} {m : Md} {g : G} {H : Hp} (r : Rel K m g H) : m.r g.length = none := by
  cases q : m.r g.length with
  | none => rfl
  | some a => exact absurd (r.dom _ _ q) (Nat.lt_irrefl _)
theorem le_cell {m : Md} {n : Nat} {p : Addr} (h : m.r n = none) : Le m (m.cell n p) := ⟨fun _ _ h => h, fun i a e => by
  show (if i = n then some p else m.r i) = some a
  rw [if_neg (fun z => by rw [z, h] at e; cases e)]
  exact e, fun _ _ h => h⟩
theorem Rel.cellAdd {K : PySem.W.Frag} {m : Md} {g : G} {H : Hp} (r : Rel K m g H) {p : Addr} {c : Cell} {o : HO} (h : H p = none) (ok : CellOk K m p c o) : Rel K (m.cell g.length p) (g ++ [c]) (upd H p o) where
  ex := fun a u e => by
    have e' : m.F a = some u := e
    rw [upd_ne (ne_of_none (r.ex a u e') h)]
    exact r.ex a u e'
  cell := fun i d hd => by
    by_cases hi : i < g.length
    · rw [List.getElem?_append_left hi] at hd
      obtain ⟨a, h1, h2, u, h3, h4⟩ := r.cell i d hd
      refine ⟨a, ?_, h2, u, by rw [upd_ne (ne_of_none h3 h)]; exact h3, h4.mono (le_cell r.fresh)⟩
      show (if i = g.length then some p else m.r i) = some a
      rw [if_neg (by omega)]
      exact h1
    · have hlt : i < (g ++ [c]).length := (List.getElem?_eq_some_iff.mp hd).1
      have hi2 : i = g.length := by rw [List.length_append] at hlt; simp at hlt; omega
      subst hi2
      rw [List.getElem?_append_right (Nat.le_refl _)] at hd
      simp at hd
      subst hd
      refine ⟨p, ?_, r.free h, o, upd_same, ok.mono (le_cell r.fresh)⟩
      show (if g.length = g.length then some p else m.r g.length) = some p
      rw [if_pos rfl]
  dom := fun i a e => by
    have e' : (if i = g.length then some p else m.r i) = some a := e
    rw [List.length_append]
    by_cases hi : i = g.length
    · simp [hi]
    · rw [if_neg hi] at e'
      have := r.dom i a e'
      simp
      omega
  inj := fun i j a e1 e2 => by
    have e1' : (if i = g.length then some p else m.r i) = some a := e1
    have e2' : (if j = g.length then some p else m.r j) = some a := e2
    have old : ∀ k, m.r k = some p → False := fun k hk => by
      have hk1 := r.dom k p hk
      obtain ⟨a', h1, _, o', h3, _⟩ := r.cell k g[k] (by simp [hk1])
      rw [hk] at h1
      cases h1
      rw [h] at h3
      cases h3
    by_cases hi : i = g.length
    · rw [if_pos hi] at e1'
      cases e1'
      by_cases hj : j = g.length
      · omega
      · rw [if_neg hj] at e2'
        exact (old j e2').elim
    · rw [if_neg hi] at e1'
      by_cases hj : j = g.length
      · rw [if_pos hj] at e2'
        cases e2'
        exact (old i e1').elim
      · rw [if_neg hj] at e2'
        exact r.inj i j a e1' e2'
  hid := fun a u e => by
    obtain ⟨h1, h2, h3⟩ := r.hid a u e
    have ha : a ≠ p := ne_of_none h1 h
    refine ⟨by rw [upd_ne ha]; exact h1, h2, fun i e2 => ?_⟩
    have e2' : (if i = g.length then some p else m.r i) = some a := e2
    by_cases hi : i = g.length
    · rw [if_pos hi] at e2'
      exact ha (Option.some.inj e2').symm
    · rw [if_neg hi] at e2'
      exact h3 i e2'
theorem den_cell {K : PySem.W.Frag} {m : Md} {n : Nat} {p : Addr} : Den K (m.cell n p) (.ref n) (.ref p) := .ref (by show (if n = n then some p else m.r n) = some p; rw [if_pos rfl])
section
variable {X : Cx} {W : WX} {e : Expr} {es : List Expr} {ee : Ev} {t : Av} {pos : Pos}
theorem a_nil : PA X [] (tA X.K W aNil) := PA.imp pa_nil fun σ H Q h => by
  obtain ⟨m, σ', g, rl, sl, hl, p⟩ := h
  exact fin_ok rl .nil p
theorem a_cons (ha : PE X e (tE X.K W ee)) (hr : PA X es (tA X.K W t)) (hs : starEach (e :: es) X.env = (false, eval e X.env) :: starEach es X.env := by rfl) : PA X (e :: es) (tA X.K W (aCons ee t)) := PA.imp (pa_cons ha hr hs) fun σ H Q h => by
  obtain ⟨m, σ', g, rl, sl, hl, p⟩ := h
  refine ⟨m, σ', g, rl, sl, hl, Post.bind p fun d g1 m1 H1 x l1 r1 d1 p1 => ?_⟩
  refine ⟨m1, σ', g1, r1, sl.mono l1, hl, Post.bind p1 fun ds g2 m2 H2 xs l2 r2 d2 p2 => ?_⟩
  exact fin_ok r2 (.cons (d1.mono l2) d2) p2
theorem x_tup {x1} (h : PA X es (tA X.K W t)) : PE X (.Tuple es x1 pos) (tE X.K W (eTup t)) := PE.imp (pe_tup h) fun σ H Q h => by
  obtain ⟨m, σ', g, rl, sl, hl, p⟩ := h
  refine ⟨m, σ', g, rl, sl, hl, Post.bind p fun ds g1 m1 H1 xs l1 r1 d1 p1 => ?_⟩
  obtain ⟨c, p1⟩ := okIf_post p1
  exact ⟨small_line c d1, fin_tup r1 d1 p1⟩
theorem x_lst (h : PA X es (tA X.K W t)) : PE X (.List es pos) (tE X.K W (eLst t)) := PE.imp (pe_lst h) fun σ H Q h => by
  obtain ⟨m, σ', g, rl, sl, hl, p⟩ := h
  refine ⟨m, σ', g, rl, sl, hl, Post.bind p fun ds g1 m1 H1 xs l1 r1 d1 p1 => ?_⟩
  obtain ⟨c, p1⟩ := okIf_post p1
  exact ⟨small_line c d1, fin_lst r1 d1 p1⟩
theorem x_lstM (h : PA X es (tA X.K W t)) : PE X (.List es pos) (tE X.K W (eLstM t)) := PE.imp (pe_lst h) fun σ H Q h => by
  obtain ⟨m, σ', g, rl, sl, hl, p⟩ := h
  refine ⟨m, σ', g, rl, sl, hl, Post.bind p fun ds g1 m1 H1 xs l1 r1 d1 p1 => ?_⟩
  obtain ⟨c, p1⟩ := okIf_post p1
  exact ⟨small_line c d1, fun a ha => p1 _ _ _ (le_cell r1.fresh) (r1.cellAdd ha ⟨xs, rfl, d1⟩) den_cell⟩
end
/-! ### subscripts -/
def strAt (z : Str) (i : Int) (g : G) : Res D := if z.length ≤ 100000 then match atI z.cps.toList i with
  | some c => .ok (.str ⟨#[c]⟩) g
  | none => .no else .no
def oIx : Op2 := fun x y g => match y with
  | .int i => match x with
    | .str z => strAt z i g
    | x => match sqOf g x with
      | some xs => match atI xs i with
        | some d => .ok d g
        | none => .no
      | none => .no
  | _ => .no
theorem atI_s {K : PySem.W.Frag} {m : Md} {xs : List D} {vs : List V} {i : Int} {d : D} (h : Dens K m xs vs) (e : atI xs i = some d) : ∃ v, atI vs i = some v ∧ Den K m d v := by
  unfold atI at e ⊢
  rw [← h.length]
  cases hx : ixN xs.length i with
  | none => rw [hx] at e; cases e
  | some j =>
    rw [hx] at e
    have e' : xs[j]? = some d := e
    obtain ⟨v, h1, h2⟩ := h.get e'
    exact ⟨v, h1, h2⟩
theorem oIx_s {K : PySem.W.Frag} {W : WX} : OpS K W (rIx K) oIx := fun σv m g H d e x y Q rl hd he p => by
  unfold oIx at p
  split at p
  · split at p
    · cases hd; cases he
      unfold strAt at p
      split at p
      · rename_i hz
        split at p
        · rename_i c hc
          exact .inr (.inr ⟨_, _, c, rfl, rfl, line5 hz, hc, fin_ok rl .str p⟩)
        · exact p.elim
      · exact p.elim
    · split at p
      · rename_i xs hx
        split at p
        · rename_i z hz
          cases he
          obtain ⟨a, vs, rfl, h1, h2⟩ := sqOf_s rl hd hx
          obtain ⟨v, h3, h4⟩ := atI_s h2 hz
          rcases h1 with h1 | h1
          · exact .inl ⟨a, vs, _, v, rfl, rfl, h1, h3, fin_ok rl h4 p⟩
          · exact .inr (.inl ⟨a, vs, _, v, rfl, rfl, h1, h3, fin_ok rl h4 p⟩)
        · exact p.elim
      · exact p.elim
  · exact p.elim
section
variable {X : Cx} {W : WX} {a b : Expr} {ea eb : Ev} {pos : Pos}
theorem x_ix (ha : PE X a (tE X.K W ea)) (hb : PE X b (tE X.K W eb)) (hs : PlainIx b := by exact fun _ _ => rfl) : PE X (.Subscript a b pos) (tE X.K W (eOp oIx ea eb)) := PE.imp (pe_ix ix_seq ha hb hs) fun _ _ _ h => tOp_of oIx_s h
end
/-! ### slices -/
abbrev Ov := Sg → G → Res (Option Int)
def tO (K : PySem.W.Frag) (W : WX) (ev : Ov) : TO := fun σv H Q => ∃ m σ g, Rel K m g H ∧ Slots K m σ σv ∧ σ.length ≤ σv.length ∧ Post K W σv (fun _ a b => a = b) (ev σ g) m Q
def oNo : Ov := fun _ g => .ok none g
def oPart (a : Ev) : Ov := fun σ g => (a σ g).bind fun d g1 => match d with
  | .int i => .ok (some i) g1
  | _ => .no
def cutD (xs : List D) (lo hi : Option Int) : List D := (xs.drop (HT.sIx xs.length 0 lo)).take (HT.sIx xs.length xs.length hi - HT.sIx xs.length 0 lo)
theorem cut_s {K : PySem.W.Frag} {m : Md} {xs : List D} {vs : List V} {lo hi : Option Int} (h : Dens K m xs vs) : Dens K m (cutD xs lo hi) (cutV vs lo hi) := by
  unfold cutD cutV
  rw [h.length]
  exact (h.drop _).take _
def slD (g : G) (x : D) (lo hi : Option Int) : Res D := match x with
  | .tup xs => .ok (.tup (cutD xs lo hi)) g
  | .str z => if z.length ≤ 100000 then .ok (.str (cutS z lo hi)) g else .no
  | x => match lqOf g x with
    | some xs => .ok (.lst (cutD xs lo hi)) g
    | none => .no
def eSl (a : Ev) (lo hi : Ov) : Ev := fun σ g => (a σ g).bind fun x g1 => (lo σ g1).bind fun l g2 => (hi σ g2).bind fun h g3 => slD g3 x l h
def rSl1 (K : PySem.W.Frag) : V → Option Int → Option Int → Hp → VK → Prop := fun x lo hi H Q => rSlL K x lo hi H Q ∨ (rSlA K x lo hi H Q ∨ rSlS x lo hi H Q)
theorem slD_s {K : PySem.W.Frag} {W : WX} {σv : L2.St} {m : Md} {g : G} {H : Hp} {d : D} {x : V} {lo hi : Option Int} {Q : VK} (rl : Rel K m g H) (hd : Den K m d x) (p : Post K W σv (Den K) (slD g d lo hi) m Q) : rSl1 K x lo hi H Q := by
  unfold slD at p
  split at p
  · cases hd with
    | tup h1 h2 =>
      refine .inr (.inl ⟨_, _, rfl, rl.seqT h1, fun z => ?_, fun _ => fin_tup rl (cut_s h2) p⟩)
      rename_i xs a vs
      have e : cutD xs lo hi = xs := by
        unfold cutD
        rw [h2.length, z.1, z.2, List.drop_zero, Nat.sub_zero]
        exact List.take_of_length_le (Nat.le_of_eq h2.length)
      rw [e] at p
      exact fin_ok rl (.tup h1 h2) p
  · cases hd
    split at p
    · rename_i hz
      exact .inr (.inr ⟨_, rfl, line5 hz, fin_ok rl .str p⟩)
    · exact p.elim
  · split at p
    · rename_i xs hx
      obtain ⟨a, vs, rfl, h1, h2⟩ := lqOf_s rl hd hx
      exact .inl ⟨a, vs, rfl, h1, fin_lst rl (cut_s h2) p⟩
    · exact p.elim
section
variable {X : Cx} {W : WX} {a b e : Expr} {lo hi : Option Expr} {ea : Ev} {tl th : Ov} {pos p2 : Pos}
theorem PO.imp {e : Option Expr} {t t' : TO} (h : PO X e t) (k : ∀ σ H Q, t' σ H Q → t σ H Q) : PO X e t' := ⟨fun pins s σ H Q I q => h.run pins s σ H Q I (k _ _ _ q)⟩
theorem o_none : PO X none (tO X.K W oNo) := PO.imp po_none fun σ H Q h => by
  obtain ⟨m, σ', g, rl, sl, hl, p⟩ := h
  exact fin_ok rl rfl p
theorem o_some (h : PE X a (tE X.K W ea)) : PO X (some a) (tO X.K W (oPart ea)) := PO.imp (po_some h) fun σ H Q h => by
  obtain ⟨m, σ', g, rl, sl, hl, p⟩ := h
  refine ⟨m, σ', g, rl, sl, hl, Post.bind p fun d g1 m1 H1 x l1 r1 d1 p1 => ?_⟩
  split at p1
  · cases d1
    exact ⟨_, rfl, fin_ok r1 rfl p1⟩
  · exact p1.elim
theorem x_sl (ha : PE X a (tE X.K W ea)) (hl : PO X lo (tO X.K W tl)) (hh : PO X hi (tO X.K W th)) : PE X (.Subscript a (.Slice lo hi none p2) pos) (tE X.K W (eSl ea tl th)) :=
  PE.imp (pe_slice (sl_list.or (sl_tupA.or sl_str)) ha hl hh) fun σ H Q h => by
    obtain ⟨m, σ', g, rl, sl, hl, p⟩ := h
    refine ⟨m, σ', g, rl, sl, hl, Post.bind p fun d g1 m1 H1 x l1 r1 d1 p1 => ?_⟩
    refine ⟨m1, σ', g1, r1, sl.mono l1, hl, Post.bind p1 fun o g2 m2 H2 ov l2 r2 d2 p2 => ?_⟩
    cases d2
    refine ⟨m2, σ', g2, r2, (sl.mono l1).mono l2, hl, Post.bind p2 fun o' g3 m3 H3 ov' l3 r3 d3 p3 => ?_⟩
    cases d3
    exact slD_s r3 ((d1.mono l2).mono l3) p3
end
/-! ### built-in functions -/
abbrev Fn := List D → G → Res D
def CalS (K : PySem.W.Frag) (W : WX) (r : List V → Hp → VK → Prop) (f : Fn) : Prop := ∀ (σv : L2.St) (m : Md) (g : G) (H : Hp) (ds : List D) (xs : List V) (Q : VK), Rel K m g H → Dens K m ds xs → Post K W σv (Den K) (f ds g) m Q → r xs H Q
def eCall (f : Fn) (t : Av) : Ev := fun σ g => (t σ g).bind fun ds g1 => f ds g1
section
variable {X : Cx} {W : WX} {e : Expr} {es : List Expr} {t : Av} {x : Str} {p pos : Pos} {id T : String} {r : List V → Hp → VK → Prop} {f : Fn}
theorem tCB_of {K : PySem.W.Frag} (hs : CalS K W r f) {σ : L2.St} {H : Hp} {Q : VK} (h : tE K W (eCall f t) σ H Q) : tCB r (tA K W t) σ H Q := by
  obtain ⟨m, σ', g, rl, sl, hl, p⟩ := h
  refine ⟨m, σ', g, rl, sl, hl, Post.bind p fun ds g1 m1 H1 xs l1 r1 d1 p1 => ?_⟩
  exact hs σ m1 g1 H1 ds xs Q r1 d1 p1
theorem x_callB (hc : CallR X (.builtin id) r) (hs : CalS X.K W r f) (hg : Gl X x) (hm : X.mg x = none) (hv : bootBuiltins x = some (.builtin id)) (ha : PA X (e :: es) (tA X.K W t)) (hn : x ≠ "__name__" := by decide) (hdb : (x == ("__debug__" : Str)) = false := by decide)
    (he : starEach (e :: es) X.env = (false, eval e X.env) :: starEach es X.env := by rfl) (hpl : (backTo pos (starEach es X.env)).any (·.1) = false := by rfl) : PE X (.Call (.Name x p) (e :: es) [] pos) (tE X.K W (eCall f t)) :=
  PE.imp (pe_callB hc hg hm hv ha hn hdb he hpl) fun _ _ _ h => tCB_of hs h
theorem x_callTy (hc : CallR X (.type T) r) (hs : CalS X.K W r f) (hg : Gl X x) (hm : X.mg x = none) (hv : bootBuiltins x = some (.type T)) (ha : PA X (e :: es) (tA X.K W t)) (hn : x ≠ "__name__" := by decide) (hdb : (x == ("__debug__" : Str)) = false := by decide)
    (he : starEach (e :: es) X.env = (false, eval e X.env) :: starEach es X.env := by rfl) (hpl : (backTo pos (starEach es X.env)).any (·.1) = false := by rfl) : PE X (.Call (.Name x p) (e :: es) [] pos) (tE X.K W (eCall f t)) :=
  PE.imp (pe_callTy hc hg hm hv ha hn hdb he hpl) fun _ _ _ h => tCB_of hs h
end
def fLen : Fn := fun ds g => match ds with
  | [.str y] => if y.length ≤ 100000 then .ok (.int y.length) g else .no
  | [d] => match sqOf g d with
    | some xs => .ok (.int xs.length) g
    | none => .no
  | _ => .no
theorem fLen_s {K : PySem.W.Frag} {W : WX} : CalS K W (fun xs H Q => ∃ x n, xs = [x] ∧ LenV K x H n ∧ Q (.int n) H) fLen := fun σv m g H ds xs Q rl hd p => by
  unfold fLen at p
  split at p
  · obtain ⟨v, ws, rfl, h1, h2⟩ := hd.consV
    obtain rfl := h2.nilV
    cases h1
    split at p
    · rename_i hz
      exact ⟨_, _, rfl, ⟨line5 hz, rfl⟩, fin_ok rl .int p⟩
    · exact p.elim
  · obtain ⟨v, ws, rfl, h1, h2⟩ := hd.consV
    obtain rfl := h2.nilV
    split at p
    · rename_i xs hx
      obtain ⟨a, vs, rfl, h3, h4⟩ := sqOf_s rl h1 hx
      refine ⟨_, xs.length, rfl, ?_, fin_ok rl .int p⟩
      rcases h3 with h3 | h3
      · exact .inl ⟨vs, h3, h4.length⟩
      · exact .inr ⟨vs, h3, h4.length⟩
    · exact p.elim
  · exact p.elim
def fInt1 (k : Int → D) : Fn := fun ds g => match ds with
  | [.int i] => .ok (k i) g
  | _ => .no
def fAbs : Fn := fInt1 fun i => .int (if i < 0 then -i else i)
theorem fAbs_s {K : PySem.W.Frag} {W : WX} : CalS K W (fun xs H Q => ∃ i, xs = [.int i] ∧ Q (.int (if i < 0 then -i else i)) H) fAbs := fun σv m g H ds xs Q rl hd p => by
  unfold fAbs fInt1 at p
  split at p
  · obtain ⟨v, ws, rfl, h1, h2⟩ := hd.consV
    obtain rfl := h2.nilV
    cases h1
    exact ⟨_, rfl, fin_ok rl .int p⟩
  · exact p.elim
def fInt : Fn := fun ds g => match ds with
  | [.int i] => .ok (.int i) g
  | [.bl k] => .ok (.int (if k then 1 else 0)) g
  | _ => .no
theorem fInt_s {K : PySem.W.Frag} {W : WX} : CalS K W (fun xs H Q => (∃ i, xs = [.int i] ∧ Q (.int i) H) ∨ ∃ k, xs = [.bl k] ∧ Q (.int (if k then 1 else 0)) H) fInt := fun σv m g H ds xs Q rl hd p => by
  unfold fInt at p
  split at p
  · obtain ⟨v, ws, rfl, h1, h2⟩ := hd.consV
    obtain rfl := h2.nilV
    cases h1
    exact .inl ⟨_, rfl, fin_ok rl .int p⟩
  · obtain ⟨v, ws, rfl, h1, h2⟩ := hd.consV
    obtain rfl := h2.nilV
    cases h1
    exact .inr ⟨_, rfl, fin_ok rl .int p⟩
  · exact p.elim
def fBool : Fn := fun ds g => match ds with
  | [.int i] => .ok (.bl (i != 0)) g
  | [.bl k] => .ok (.bl k) g
  | _ => .no
theorem fBool_s {K : PySem.W.Frag} {W : WX} : CalS K W (fun xs H Q => (∃ i, xs = [.int i] ∧ Q (.bl (i != 0)) H) ∨ ∃ k, xs = [.bl k] ∧ Q (.bl k) H) fBool := fun σv m g H ds xs Q rl hd p => by
  unfold fBool at p
  split at p
  · obtain ⟨v, ws, rfl, h1, h2⟩ := hd.consV
    obtain rfl := h2.nilV
    cases h1
    exact .inl ⟨_, rfl, fin_ok rl .bl p⟩
  · obtain ⟨v, ws, rfl, h1, h2⟩ := hd.consV
    obtain rfl := h2.nilV
    cases h1
    exact .inr ⟨_, rfl, fin_ok rl .bl p⟩
  · exact p.elim
def fInt2 (k : Int → Int → Int) : Fn := fun ds g => match ds with
  | [.int i, .int j] => .ok (.int (k i j)) g
  | _ => .no
theorem fInt2_s {K : PySem.W.Frag} {W : WX} {k : Int → Int → Int} : CalS K W (fun xs H Q => ∃ i j, xs = [.int i, .int j] ∧ Q (.int (k i j)) H) (fInt2 k) := fun σv m g H ds xs Q rl hd p => by
  unfold fInt2 at p
  split at p
  · obtain ⟨v, ws, rfl, h1, h2⟩ := hd.consV
    obtain ⟨v', ws', rfl, h3, h4⟩ := h2.consV
    obtain rfl := h4.nilV
    cases h1
    cases h3
    exact ⟨_, _, rfl, fin_ok rl .int p⟩
  · exact p.elim
abbrev fMax2 : Fn := fInt2 fun i j => if j > i then j else i
abbrev fMin2 : Fn := fInt2 fun i j => if j < i then j else i
/-- list(x), tuple(x) -/
def fList : Fn := fun ds g => match ds with
  | [d] => match sqOf g d with
    | some xs => .ok (.lst xs) g
    | none => .no
  | _ => .no
def fListM : Fn := fun ds g => match ds with
  | [d] => match sqOf g d with
    | some xs => .ok (.ref g.length) (g ++ [.lst xs])
    | none => .no
  | _ => .no
theorem fList_s {K : PySem.W.Frag} {W : WX} : CalS K W (fun xs H Q => ∃ p ys, xs = [.ref p] ∧ (SqL K H p ys ∨ SqT K H p ys) ∧ ∀ l, H l = none → Q (.ref l) (upd H l (.lst ys))) fList := fun σv m g H ds xs Q rl hd p => by
  unfold fList at p
  split at p
  · obtain ⟨v, ws, rfl, h1, h2⟩ := hd.consV
    obtain rfl := h2.nilV
    split at p
    · rename_i xs hx
      obtain ⟨a, vs, rfl, h3, h4⟩ := sqOf_s rl h1 hx
      exact ⟨a, vs, rfl, h3, fin_lst rl h4 p⟩
    · exact p.elim
  · exact p.elim
theorem fListM_s {K : PySem.W.Frag} {W : WX} : CalS K W (fun xs H Q => ∃ p ys, xs = [.ref p] ∧ (SqL K H p ys ∨ SqT K H p ys) ∧ ∀ l, H l = none → Q (.ref l) (upd H l (.lst ys))) fListM := fun σv m g H ds xs Q rl hd p => by
  unfold fListM at p
  split at p
  · obtain ⟨v, ws, rfl, h1, h2⟩ := hd.consV
    obtain rfl := h2.nilV
    split at p
    · rename_i xs hx
      obtain ⟨a, vs, rfl, h3, h4⟩ := sqOf_s rl h1 hx
      exact ⟨a, vs, rfl, h3, fun l hl => p _ _ _ (le_cell rl.fresh) (rl.cellAdd hl ⟨vs, rfl, h4⟩) den_cell⟩
    · exact p.elim
  · exact p.elim
def fTuple : Fn := fun ds g => match ds with
  | [.tup xs] => .ok (.tup xs) g
  | [d] => match lqOf g d with
    | some xs => .ok (.tup xs) g
    | none => .no
  | _ => .no
theorem fTuple_s {K : PySem.W.Frag} {W : WX} : CalS K W (fun xs H Q => ∃ p ys, xs = [.ref p] ∧ ((SqL K H p ys ∧ ∀ l, H l = none → Q (.ref l) (upd H l (.tup ys))) ∨ (SqT K H p ys ∧ Q (.ref p) H))) fTuple := fun σv m g H ds xs Q rl hd p => by
  unfold fTuple at p
  split at p
  · obtain ⟨v, ws, rfl, h1, h2⟩ := hd.consV
    obtain rfl := h2.nilV
    cases h1 with
    | tup h3 h4 => exact ⟨_, _, rfl, .inr ⟨rl.seqT h3, fin_ok rl (.tup h3 h4) p⟩⟩
  · obtain ⟨v, ws, rfl, h1, h2⟩ := hd.consV
    obtain rfl := h2.nilV
    split at p
    · rename_i xs hx
      obtain ⟨a, vs, rfl, h3, h4⟩ := lqOf_s rl h1 hx
      exact ⟨a, vs, rfl, .inl ⟨h3, fin_tup rl h4 p⟩⟩
    · exact p.elim
  · exact p.elim
/-- the ints, the bools of a list -/
def intsOf : List D → Option (List Int)
  | [] => some []
  | .int i :: r => match intsOf r with
    | some is => some (i :: is)
    | none => none
  | _ => none
def blsOf : List D → Option (List Bool)
  | [] => some []
  | .bl i :: r => match blsOf r with
    | some is => some (i :: is)
    | none => none
  | _ => none
theorem intsOf_s {K : PySem.W.Frag} {m : Md} : ∀ {ds : List D} {vs : List V} {is : List Int}, Dens K m ds vs → intsOf ds = some is → vs = is.map V.int
  | [], _, _, h, e => by cases e; exact h.nilV
  | d :: ds, _, _, h, e => by
    obtain ⟨v, ws, rfl, h1, h2⟩ := h.consV
    unfold intsOf at e
    split at e
    · rename_i heq
      cases heq
    · rename_i i r heq
      cases heq
      split at e
      · rename_i js hj
        cases e
        cases h1
        rw [intsOf_s h2 hj] <;> rfl
      · cases e
    · cases e
theorem blsOf_s {K : PySem.W.Frag} {m : Md} : ∀ {ds : List D} {vs : List V} {is : List Bool}, Dens K m ds vs → blsOf ds = some is → vs = is.map V.bl
  | [], _, _, h, e => by cases e; exact h.nilV
  | d :: ds, _, _, h, e => by
    obtain ⟨v, ws, rfl, h1, h2⟩ := h.consV
    unfold blsOf at e
    split at e
    · rename_i heq
      cases heq
    · rename_i i r heq
      cases heq
      split at e
      · rename_i js hj
        cases e
        cases h1
        rw [blsOf_s h2 hj] <;> rfl
      · cases e
    · cases e
theorem intsOf_map (is : List Int) : intsOf (is.map D.int) = some is := by
  induction is with
  | nil => rfl
  | cons i r ih => rw [List.map_cons]; unfold intsOf; rw [ih]
theorem blsOf_map (is : List Bool) : blsOf (is.map D.bl) = some is := by
  induction is with
  | nil => rfl
  | cons i r ih => rw [List.map_cons]; unfold blsOf; rw [ih]
def isum : List Int → Int
  | [] => 0
  | i :: r => i + isum r
theorem isum_eq (l : List Int) : isum l = l.sum := by
  induction l with
  | nil => rfl
  | cons i r ih => rw [List.sum_cons, isum, ih]
def fSum : Fn := fun ds g => match ds with
  | [d] => match lqOf g d with
    | some xs => match intsOf xs with
      | some is => .ok (.int (isum is)) g
      | none => .no
    | none => .no
  | _ => .no
theorem fSum_s {K : PySem.W.Frag} {W : WX} : CalS K W (rSum K) fSum := fun σv m g H ds xs Q rl hd p => by
  unfold fSum at p
  split at p
  · obtain ⟨v, ws, rfl, h1, h2⟩ := hd.consV
    obtain rfl := h2.nilV
    split at p
    · rename_i xs hx
      obtain ⟨a, vs, rfl, h3, h4⟩ := lqOf_s rl h1 hx
      split at p
      · rename_i is hi
        refine ⟨a, is, rfl, by rw [← intsOf_s h4 hi]; exact h3, ?_⟩
        rw [isum_eq] at p
        exact fin_ok rl .int p
      · exact p.elim
    · exact p.elim
  · exact p.elim
def fAny : Fn := fun ds g => match ds with
  | [d] => match lqOf g d with
    | some xs => match blsOf xs with
      | some is => .ok (.bl (is.any id)) g
      | none => .no
    | none => .no
  | _ => .no
def fAll : Fn := fun ds g => match ds with
  | [d] => match lqOf g d with
    | some xs => match blsOf xs with
      | some is => .ok (.bl (is.all id)) g
      | none => .no
    | none => .no
  | _ => .no
theorem fAny_s {K : PySem.W.Frag} {W : WX} : CalS K W (rAny K) fAny := fun σv m g H ds xs Q rl hd p => by
  unfold fAny at p
  split at p
  · obtain ⟨v, ws, rfl, h1, h2⟩ := hd.consV
    obtain rfl := h2.nilV
    split at p
    · rename_i xs hx
      obtain ⟨a, vs, rfl, h3, h4⟩ := lqOf_s rl h1 hx
      split at p
      · rename_i is hi
        exact ⟨a, is, rfl, by rw [← blsOf_s h4 hi]; exact h3, fin_ok rl .bl p⟩
      · exact p.elim
    · exact p.elim
  · exact p.elim
theorem fAll_s {K : PySem.W.Frag} {W : WX} : CalS K W (rAll K) fAll := fun σv m g H ds xs Q rl hd p => by
  unfold fAll at p
  split at p
  · obtain ⟨v, ws, rfl, h1, h2⟩ := hd.consV
    obtain rfl := h2.nilV
    split at p
    · rename_i xs hx
      obtain ⟨a, vs, rfl, h3, h4⟩ := lqOf_s rl h1 hx
      split at p
      · rename_i is hi
        exact ⟨a, is, rfl, by rw [← blsOf_s h4 hi]; exact h3, fin_ok rl .bl p⟩
      · exact p.elim
    · exact p.elim
  · exact p.elim
end AW
namespace AW
open PySem PySem.Spec L2
/-! ### statements -/
inductive SRes where
  | nx (σ : Sg) (g : G)
  | rt (d : D) (g : G)
  | bk (σ : Sg) (g : G)
  | ct (σ : Sg) (g : G)
  | ex (σ : Sg) (e : Exn) (g : G)
  | no
abbrev Sx := Sg → G → SRes
def SlotsL (K : PySem.W.Frag) (m : Md) (σ : Sg) (σv : L2.St) : Prop := Slots K m σ σv ∧ σ.length ≤ σv.length
theorem SlotsL.mono {K : PySem.W.Frag} {m m' : Md} (e : Le m m') {σ : Sg} {σv : L2.St} (h : SlotsL K m σ σv) : SlotsL K m' σ σv := ⟨h.1.mono e, h.2⟩
theorem SlotsL.set {K : PySem.W.Frag} {m : Md} {σ : Sg} {σv : L2.St} (h : SlotsL K m σ σv) {i : Nat} {d : D} {v : V} (hd : Den K m d v) : SlotsL K m (σ.set i (some d)) (σv.set i (some v)) :=
  ⟨h.1.set h.2 hd, by rw [List.length_set, List.length_set]; exact h.2⟩
def PostS (K : PySem.W.Frag) (W : WX) (r : SRes) (m : Md) (D' : Ends) : Prop := match r with
  | .nx σ g => ∀ m' H σv, Le m m' → Rel K m' g H → SlotsL K m' σ σv → D'.nx σv H
  | .bk σ g => ∀ m' H σv, Le m m' → Rel K m' g H → SlotsL K m' σ σv → D'.bk σv H
  | .ct σ g => ∀ m' H σv, Le m m' → Rel K m' g H → SlotsL K m' σ σv → D'.ct σv H
  | .rt d g => ∀ m' H v, Le m m' → Rel K m' g H → Den K m' d v → D'.rt v H
  | .ex σ e g => ∀ m' H σv cv dd, Le m m' → Rel K m' g H → SlotsL K m' σ σv → ExnOk K m' e cv dd → W cv dd σv H
  | .no => False
theorem PostS.mono {K : PySem.W.Frag} {W : WX} {r : SRes} {m m' : Md} {D' : Ends} (l : Le m m') (h : PostS K W r m D') : PostS K W r m' D' := by
  cases r with
  | nx σ g => exact fun m2 H v l2 r d => h m2 H v (l.trans l2) r d
  | bk σ g => exact fun m2 H v l2 r d => h m2 H v (l.trans l2) r d
  | ct σ g => exact fun m2 H v l2 r d => h m2 H v (l.trans l2) r d
  | rt d g => exact fun m2 H v l2 r d => h m2 H v (l.trans l2) r d
  | ex σ e g => exact fun m2 H v cv dd l2 r d x => h m2 H v cv dd (l.trans l2) r d x
  | no => exact h
def tS (K : PySem.W.Frag) (W : WX) (sx : Sx) : TS := fun D' σv H => ∃ m σ g, Rel K m g H ∧ SlotsL K m σ σv ∧ PostS K W (sx σ g) m D'
/-- an expression, then a statement's end -/
@[reducible] def sBind {α : Type} (σ : Sg) (r : Res α) (f : α → G → SRes) : SRes := match r with
  | .ok a g => f a g
  | .ex e g => .ex σ e g
  | .no => .no
theorem sBind_s {α β : Type} {K : PySem.W.Frag} {W : WX} {σ : Sg} {σv : L2.St} {R : Md → α → β → Prop} {r : Res α} {f : α → G → SRes} {m : Md} {D' : Ends} {P : β → Hp → Prop} (sl : SlotsL K m σ σv)
    (h : PostS K W (sBind σ r f) m D') (k : ∀ d g m' H v, Le m m' → Rel K m' g H → R m' d v → PostS K W (f d g) m' D' → P v H) : Post K W σv R r m P := by
  cases r with
  | ok d g => exact fun m' H v l rl rd => k d g m' H v l rl rd (PostS.mono l h)
  | ex e g => exact fun m' H cv dd l rl x => h m' H σv cv dd l rl (sl.mono l) x
  | no => exact h
def sNil : Sx := fun σ g => .nx σ g
def sCons (a b : Sx) : Sx := fun σ g => match a σ g with
  | .nx σ' g' => b σ' g'
  | r => r
section
variable {X : Cx} {W : WX} {st : Stmt} {rest : List Stmt} {a b : Sx} {e : Expr} {ee : Ev} {pos : Pos}
theorem ss_nil : PSs X [] (tS X.K W sNil) := PSs.imp pss_nil fun D' σ H h => by
  obtain ⟨m, σ', g, rl, sl, p⟩ := h
  exact p m H σ (Le.refl m) rl sl
theorem ss_cons (ha : PS X st (tS X.K W a)) (hb : PSs X rest (tS X.K W b)) : PSs X (st :: rest) (tS X.K W (sCons a b)) := PSs.imp (pss_cons ha hb) fun D' σ H h => by
  obtain ⟨m, σ', g, rl, sl, p⟩ := h
  refine ⟨m, σ', g, rl, sl, ?_⟩
  unfold sCons at p
  cases hr : a σ' g with
  | nx σ2 g2 =>
    rw [hr] at p
    exact fun m2 H2 σv l2 r2 s2 => ⟨m2, σ2, g2, r2, s2, PostS.mono l2 p⟩
  | bk σ2 g2 => rw [hr] at p; exact p
  | ct σ2 g2 => rw [hr] at p; exact p
  | rt d g2 => rw [hr] at p; exact p
  | ex σ2 x g2 => rw [hr] at p; exact p
  | no => rw [hr] at p; exact p
def sPass : Sx := fun σ g => .nx σ g
def sBreak : Sx := fun σ g => .bk σ g
def sCont : Sx := fun σ g => .ct σ g
theorem s_pass : PS X (.Pass pos) (tS X.K W sPass) := PS.imp ps_pass fun D' σ H h => by
  obtain ⟨m, σ', g, rl, sl, p⟩ := h
  exact p m H σ (Le.refl m) rl sl
theorem s_break : PS X (.Break pos) (tS X.K W sBreak) := PS.imp ps_break fun D' σ H h => by
  obtain ⟨m, σ', g, rl, sl, p⟩ := h
  exact p m H σ (Le.refl m) rl sl
theorem s_cont : PS X (.Continue pos) (tS X.K W sCont) := PS.imp ps_continue fun D' σ H h => by
  obtain ⟨m, σ', g, rl, sl, p⟩ := h
  exact p m H σ (Le.refl m) rl sl
def sExpr (e : Ev) : Sx := fun σ g => sBind σ (e σ g) fun _ g1 => .nx σ g1
theorem s_expr (he : PE X e (tE X.K W ee)) (hs : swapsWith e none pos.line X.env = pure false := by rfl) : PS X (.Expr e pos) (tS X.K W (sExpr ee)) := PS.imp (ps_expr he hs) fun D' σ H h => by
  obtain ⟨m, σ', g, rl, sl, p⟩ := h
  exact ⟨m, σ', g, rl, sl.1, sl.2, sBind_s sl p fun d g1 m1 H1 v l1 r1 d1 p1 => p1 m1 H1 σ (Le.refl m1) r1 (sl.mono l1)⟩
def sRet (e : Ev) : Sx := fun σ g => sBind σ (e σ g) fun d g1 => .rt d g1
def sRetN : Sx := fun _ g => .rt .non g
theorem s_ret (he : PE X e (tE X.K W ee)) : PS X (.Return (some e) pos) (tS X.K W (sRet ee)) := PS.imp (ps_ret he) fun D' σ H h => by
  obtain ⟨m, σ', g, rl, sl, p⟩ := h
  exact ⟨m, σ', g, rl, sl.1, sl.2, sBind_s sl p fun d g1 m1 H1 v l1 r1 d1 p1 => p1 m1 H1 v (Le.refl m1) r1 d1⟩
theorem s_retN : PS X (.Return none pos) (tS X.K W sRetN) := PS.imp ps_retN fun D' σ H h => by
  obtain ⟨m, σ', g, rl, sl, p⟩ := h
  exact p m H .non (Le.refl m) rl .non
def sIf (c : Tv) (a b : Sx) : Sx := fun σ g => sBind σ (c σ g) fun k g1 => match k with
  | true => a σ g1
  | false => b σ g1
theorem s_if {c : Expr} {A B : List Stmt} {tc : Tv} (hc : PT X c (tT X.K W tc)) (ha : PSs X A (tS X.K W a)) (hb : PSs X B (tS X.K W b)) : PS X (.If c A B pos) (tS X.K W (sIf tc a b)) := PS.imp (ps_if hc ha hb) fun D' σ H h => by
  obtain ⟨m, σ', g, rl, sl, p⟩ := h
  refine ⟨m, σ', g, rl, sl.1, sl.2, sBind_s sl p fun d g1 m1 H1 v l1 r1 d1 p1 => ?_⟩
  cases d1
  cases d with
  | true => exact ⟨m1, σ', g1, r1, sl.mono l1, p1⟩
  | false => exact ⟨m1, σ', g1, r1, sl.mono l1, p1⟩
def sNever : Sx := fun _ _ => .no
theorem s_never : PS X st (tS X.K W sNever) := PS.imp ps_never fun D' σ H h => by
  obtain ⟨m, σ', g, rl, sl, p⟩ := h
  exact p.elim
theorem ss_never {sts : List Stmt} : PSs X sts (tS X.K W sNever) := PSs.imp pss_never fun D' σ H h => by
  obtain ⟨m, σ', g, rl, sl, p⟩ := h
  exact p.elim
end
/-! ### targets -/
abbrev Gv := D → Sg → G → Option (Sg × G)
abbrev Gvs := List D → Sg → G → Option (Sg × G)
def PostG (K : PySem.W.Frag) (r : Option (Sg × G)) (m : Md) (Q : L2.St → Hp → Prop) : Prop := match r with
  | some (σ, g) => ∀ m' H σv, Le m m' → Rel K m' g H → SlotsL K m' σ σv → Q σv H
  | none => False
theorem PostG.mono {K : PySem.W.Frag} {r : Option (Sg × G)} {m m' : Md} {Q : L2.St → Hp → Prop} (l : Le m m') (h : PostG K r m Q) : PostG K r m' Q := by
  cases r with
  | none => exact h
  | some q =>
    obtain ⟨σ, g⟩ := q
    exact fun m2 H v l2 r d => h m2 H v (l.trans l2) r d
def tGt (K : PySem.W.Frag) (gv : Gv) : TG := fun v σv H Q => ∃ m d σ g, Rel K m g H ∧ SlotsL K m σ σv ∧ Den K m d v ∧ PostG K (gv d σ g) m Q
def tGts (K : PySem.W.Frag) (gv : Gvs) : TGs := fun vs σv H Q => ∃ m ds σ g, Rel K m g H ∧ SlotsL K m σ σv ∧ Dens K m ds vs ∧ PostG K (gv ds σ g) m Q
def gvName (i : Nat) : Gv := fun d σ g => some (σ.set i (some d), g)
def gvNil : Gvs := fun ds σ g => match ds with
  | [] => some (σ, g)
  | _ => none
def gvCons (a : Gv) (b : Gvs) : Gvs := fun ds σ g => match ds with
  | d :: r => match a d σ g with
    | some (σ', g') => b r σ' g'
    | none => none
  | [] => none
def gvTup (n : Nat) (b : Gvs) : Gv := fun d σ g => match d with
  | .tup xs => if xs.length = n then b xs σ g else none
  | _ => none
section
variable {X : Cx} {pos : Pos} {e : Expr} {es : List Expr}
theorem PG.imp {t t' : TG} (h : PG X e t) (k : ∀ v σ H Q, t' v σ H Q → t v σ H Q) : PG X e t' := ⟨fun pins s σ H v u Q I r q => h.run pins s σ H v u Q I r (k _ _ _ _ q)⟩
theorem PGs.imp {t t' : TGs} (h : PGs X es t) (k : ∀ v σ H Q, t' v σ H Q → t v σ H Q) : PGs X es t' := ⟨fun pins s σ H v u Q I r q => h.run pins s σ H v u Q I r (k _ _ _ _ q)⟩
theorem g_name {i : Nat} {x : Str} (hN : X.N.Nodup) (hi : X.N[i]? = some x) (hx : Loc X.env.scope x) (hf : X.fn x = true ∨ X.env.scope.names.lookup x = some .local := by first | exact .inl rfl | exact .inr rfl | assumption) : PG X (.Name x pos) (tGt X.K (gvName i)) :=
  PG.imp (pg_name hN hi hx hf) fun v σ H Q h => by
    obtain ⟨m, d, σ', g, rl, sl, hd, p⟩ := h
    exact p m H _ (Le.refl m) rl (sl.set hd)
theorem gs_nil : PGs X [] (tGts X.K gvNil) := PGs.imp pgs_nil fun vs σ H Q h => by
  obtain ⟨m, ds, σ', g, rl, sl, hd, p⟩ := h
  unfold gvNil at p
  split at p
  · exact ⟨hd.nilV, p m H σ (Le.refl m) rl sl⟩
  · exact p.elim
theorem gs_cons {a : Gv} {b : Gvs} (h1 : PG X e (tGt X.K a)) (h2 : PGs X es (tGts X.K b)) (hs : (assignEach (e :: es) X.env).map (·.2) = assign e X.env :: (assignEach es X.env).map (·.2) := by rfl) : PGs X (e :: es) (tGts X.K (gvCons a b)) :=
  PGs.imp (pgs_cons h1 h2 hs) fun vs σ H Q h => by
    obtain ⟨m, ds, σ', g, rl, sl, hd, p⟩ := h
    unfold gvCons at p
    split at p
    · obtain ⟨v, ws, rfl, h3, h4⟩ := hd.consV
      refine ⟨v, ws, rfl, m, _, σ', g, rl, sl, h3, ?_⟩
      split at p
      · rename_i σ2 g2 hq
        rw [hq]
        exact fun m2 H2 σv l2 r2 s2 => ⟨m2, _, σ2, g2, r2, s2, h4.mono l2, PostG.mono l2 p⟩
      · exact p.elim
    · exact p.elim
theorem g_tup {k n : Nat} {b : Gvs} (hc : X.calm = true) (h : PGs X es (tGts X.K b)) (hn : (assignEach es X.env).length = n := by rfl) (hst : (assignEach es X.env).findIdx? (·.1) = none := by rfl) : PG X (.Tuple es k pos) (tGt X.K (gvTup n b)) :=
  PG.imp (pg_tup hc h hn hst) fun v σ H Q h => by
    obtain ⟨m, d, σ', g, rl, sl, hd, p⟩ := h
    unfold gvTup at p
    split at p
    · split at p
      · rename_i xs hl
        cases hd with
        | tup h1 h2 => exact ⟨_, _, rfl, rl.seqT h1, by rw [← h2.length]; exact hl, m, xs, σ', g, rl, sl, h2, p⟩
      · exact p.elim
    · exact p.elim
end
/-! a, b, .. = a tuple or a list -/
def gvSq (n : Nat) (b : Gvs) : Gv := fun d σ g => match d with
  | .tup xs => if xs.length = n then b xs σ g else none
  | .lst xs => if xs.length = n then b xs σ g else none
  | _ => none
def gSq (K : PySem.W.Frag) (n : Nat) (t : TGs) : TG := fun v σ H Q => gTup K n t v σ H Q ∨ gLst K n t v σ H Q
section
variable {X : Cx} {pos : Pos} {es : List Expr}
theorem g_sq {k n : Nat} {b : Gvs} (hc : X.calm = true) (h : PGs X es (tGts X.K b)) (hn : (assignEach es X.env).length = n := by rfl) (hst : (assignEach es X.env).findIdx? (·.1) = none := by rfl) : PG X (.Tuple es k pos) (tGt X.K (gvSq n b)) := by
  have h1 : PG X (.Tuple es k pos) (gSq X.K n (tGts X.K b)) := ⟨fun pins s σ H v u Q I r hw => by
    rcases hw with hw | hw
    · exact (pg_tup hc h hn hst).run pins s σ H v u Q I r hw
    · exact (pg_lst hc h hn hst).run pins s σ H v u Q I r hw⟩
  refine PG.imp h1 fun v σ H Q h => ?_
  obtain ⟨m, d, σ', g, rl, sl, hd, p⟩ := h
  unfold gvSq at p
  split at p
  · split at p
    · rename_i xs hl
      cases hd with
      | tup h1 h2 => exact .inl ⟨_, _, rfl, rl.seqT h1, by rw [← h2.length]; exact hl, m, xs, σ', g, rl, sl, h2, p⟩
    · exact p.elim
  · split at p
    · rename_i xs hl
      cases hd with
      | lst h1 h2 => exact .inr ⟨_, _, rfl, SqL.of (rl.ex _ _ h1), by rw [← h2.length]; exact hl, m, xs, σ', g, rl, sl, h2, p⟩
    · exact p.elim
  · exact p.elim
end
/-- a change of a cell -/
theorem Rel.cellSet {K : PySem.W.Frag} {m : Md} {g : G} {H : Hp} (r : Rel K m g H) {i : Nat} {a : Addr} {c : Cell} {o : HO} (hi : m.r i = some a) (ok : CellOk K m a c o) : Rel K m (g.set i c) (upd H a o) where
  ex := fun b u e => by
    have hil := r.dom i a hi
    obtain ⟨a', h1, h2, _⟩ := r.cell i g[i] (by simp [hil])
    rw [hi] at h1
    cases h1
    have hb : b ≠ a := fun z => by rw [z, h2] at e; cases e
    rw [upd_ne hb]
    exact r.ex b u e
  cell := fun j d hd => by
    by_cases hj : j = i
    · subst hj
      have hil := r.dom j a hi
      rw [List.getElem?_set_self hil] at hd
      cases hd
      obtain ⟨a', h1, h2, _⟩ := r.cell j g[j] (by simp [hil])
      rw [hi] at h1
      cases h1
      exact ⟨a, hi, h2, o, upd_same, ok⟩
    · rw [List.getElem?_set_ne (Ne.symm hj)] at hd
      obtain ⟨b, h1, h2, u, h3, h4⟩ := r.cell j d hd
      have hb : b ≠ a := fun z => by
        rw [z] at h1
        exact hj (r.inj j i a h1 hi)
      exact ⟨b, h1, h2, u, by rw [upd_ne hb]; exact h3, h4⟩
  dom := fun j b e => by rw [List.length_set]; exact r.dom j b e
  inj := r.inj
  hid := fun b u e => by
    obtain ⟨h1, h2, h3⟩ := r.hid b u e
    have hb : b ≠ a := fun z => by
      rw [z] at h3
      exact h3 i hi
    exact ⟨by rw [upd_ne hb]; exact h1, h2, h3⟩
/-- the items of a list that may change -/
def lmOf (g : G) (i : Nat) : Option (List D) := match g[i]? with
  | some (.lst xs) => some xs
  | _ => none
theorem lmOf_s {K : PySem.W.Frag} {m : Md} {g : G} {H : Hp} {i : Nat} {v : V} {xs : List D} (r : Rel K m g H) (h : Den K m (.ref i) v) (e : lmOf g i = some xs) : ∃ p vs, v = .ref p ∧ m.r i = some p ∧ H p = some (.lst vs) ∧ Dens K m xs vs := by
  cases h with
  | ref h1 =>
    unfold lmOf at e
    split at e
    · rename_i ys hy
      cases e
      obtain ⟨a', h2, _, o, h3, vs, h4, h5⟩ := r.cell _ _ hy
      rw [h1] at h2
      cases h2
      subst h4
      exact ⟨_, _, rfl, h1, h3, h5⟩
    · cases e
/-- a[i] = e -/
def setAt (o i v : D) (g : G) : Option G := match o, i with
  | .ref k, .int j => match lmOf g k with
    | some xs => match ixN xs.length j with
      | some n => some (g.set k (.lst (xs.set n v)))
      | none => none
    | none => none
  | _, _ => none
def gvSub (o i : Ev) : Gv := fun d σ g => match o σ g with
  | .ok ov g1 => match i σ g1 with
    | .ok iv g2 => match setAt ov iv d g2 with
      | some g3 => some (σ, g3)
      | none => none
    | _ => none
  | _ => none
section
variable {X : Cx} {W : WX} {pos : Pos} {o i : Expr} {eo ei : Ev}
theorem setAt_s {K : PySem.W.Frag} {σ : Sg} {σv : L2.St} {m : Md} {g : G} {H : Hp} {d e f : D} {x y z : V} {Q : L2.St → Hp → Prop} (rl : Rel K m g H) (sl : SlotsL K m σ σv) (hd : Den K m d x) (he : Den K m e y) (hf : Den K m f z)
    (p : PostG K (match setAt d e f g with | some g3 => some (σ, g3) | none => none) m Q) : rSetL x y z H (fun H' => Q σv H') := by
  unfold setAt at p
  split at p
  · rename_i g3 h3
    split at h3
    · split at h3
      · rename_i xs hx
        split at h3
        · rename_i n hn
          cases h3
          obtain ⟨a, vs, rfl, h4, h5, h6⟩ := lmOf_s rl hd hx
          cases he
          refine ⟨a, vs, _, n, rfl, rfl, h5, by rw [← h6.length]; exact hn, ?_⟩
          exact p m _ σv (Le.refl m) (rl.cellSet h4 ⟨_, rfl, h6.set hf n⟩) sl
        · cases h3
      · cases h3
    · cases h3
  · exact p.elim
theorem g_sub (ho : PE X o (tE X.K W eo)) (hi : PE X i (tE X.K W ei))
    (ha : ∀ v, assign (.Subscript o i pos) X.env v = (do
      let ov ← holding [v] (eval o X.env)
      let iv ← holding [v, ov] (eval i X.env)
      standAt pos
      holding [v, ov, iv] (setItem ov iv v)
      release [v, ov, iv] []) := by intro _; rfl) : PG X (.Subscript o i pos) (tGt X.K (gvSub eo ei)) :=
  PG.imp (pg_sub ho hi set_list ha) fun v σ H Q h => by
    obtain ⟨m, d, σ', g, rl, sl, hd, p⟩ := h
    unfold gvSub at p
    refine ⟨m, σ', g, rl, sl.1, sl.2, ?_⟩
    cases h1 : eo σ' g with
    | no => rw [h1] at p; exact p.elim
    | ex e g1 => rw [h1] at p; exact p.elim
    | ok ov g1 =>
      rw [h1] at p
      refine fun m1 H1 x l1 r1 d1 => ⟨m1, σ', g1, r1, (sl.mono l1).1, sl.2, ?_⟩
      cases h2 : ei σ' g1 with
      | no => simp only [h2] at p; exact p.elim
      | ex e g2 => simp only [h2] at p; exact p.elim
      | ok iv g2 =>
        simp only [h2] at p
        refine fun m2 H2 y l2 r2 d2 => ?_
        exact setAt_s r2 ((sl.mono l1).mono l2) (d1.mono l2) d2 ((hd.mono l1).mono l2) (PostG.mono (l1.trans l2) p)
end
/-! ### assignments -/
def sAsg (e : Ev) (gv : Gv) : Sx := fun σ g => sBind σ (e σ g) fun d g1 => match gv d σ g1 with
  | some (σ', g2) => .nx σ' g2
  | none => .no
def sSet (i : Nat) (e : Ev) : Sx := fun σ g => sBind σ (e σ g) fun d g1 => .nx (σ.set i (some d)) g1
section
variable {X : Cx} {W : WX} {pos : Pos} {e tg : Expr} {ee : Ev} {gv : Gv}
theorem s_asg (he : PE X e (tE X.K W ee)) (hg : PG X tg (tGt X.K gv)) (hs : swapsWithSole [tg] e pos.line X.env = pure false := by rfl) (hw : swappedStores [tg] e X.env = pure none := by rfl)
    (h1 : (assignEach [tg] X.env).map (·.2) = [assign tg X.env] := by rfl) : PS X (.Assign [tg] e pos) (tS X.K W (sAsg ee gv)) := PS.imp (ps_asg he hg hs hw h1) fun D' σ H h => by
  obtain ⟨m, σ', g, rl, sl, p⟩ := h
  refine ⟨m, σ', g, rl, sl.1, sl.2, sBind_s sl p fun d g1 m1 H1 v l1 r1 d1 p1 => ?_⟩
  refine ⟨m1, d, σ', g1, r1, sl.mono l1, d1, ?_⟩
  split at p1
  · rename_i σ2 g2 hq
    rw [hq]
    exact p1
  · exact p1.elim
theorem s_set {i : Nat} {x : Str} {pos' : Pos} (hN : X.N.Nodup) (hi : X.N[i]? = some x) (hx : Loc X.env.scope x) (he : PE X e (tE X.K W ee)) (hs : swapsWith e (some (.Name x pos')) pos.line X.env = pure false := by rfl) (hf : X.fn x = true ∨ X.env.scope.names.lookup x = some .local := by first | exact .inl rfl | exact .inr rfl | assumption) :
    PS X (.Assign [.Name x pos'] e pos) (tS X.K W (sSet i ee)) := PS.imp (ps_set hN hi hx he hs hf) fun D' σ H h => by
  obtain ⟨m, σ', g, rl, sl, p⟩ := h
  refine ⟨m, σ', g, rl, sl.1, sl.2, sBind_s sl p fun d g1 m1 H1 v l1 r1 d1 p1 => ?_⟩
  exact p1 m1 H1 _ (Le.refl m1) r1 ((sl.mono l1).set d1)
def sPar (i j : Nat) (t : Av) : Sx := fun σ g => sBind σ (t σ g) fun ds g1 => match ds with
  | [a, b] => .nx ((σ.set i (some a)).set j (some b)) g1
  | _ => .no
theorem s_par {i j : Nat} {x y : Str} {a b : Expr} {t : Av} {px py pt : Pos} {kt k2 pt2} (hc : X.calm = true) (hN : X.N.Nodup) (hi : X.N[i]? = some x) (hj : X.N[j]? = some y) (hij : i ≠ j)
    (hx : X.env.scope.names.lookup x = some .local) (hy : X.env.scope.names.lookup y = some .local) (ha : PA X [a, b] (tA X.K W t))
    (hw : swappedStores [.Tuple [.Name x px, .Name y py] kt pt] (.Tuple [a, b] k2 pt2) X.env = pure (some [x, y]))
    (hs : swapsWithSole [.Tuple [.Name x px, .Name y py] kt pt] (.Tuple [a, b] k2 pt2) pos.line X.env = pure false := by rfl) :
    PS X (.Assign [.Tuple [.Name x px, .Name y py] kt pt] (.Tuple [a, b] k2 pt2) pos) (tS X.K W (sPar i j t)) := PS.imp (ps_par hc hN hi hj hij hx hy ha hw hs) fun D' σ H h => by
  obtain ⟨m, σ', g, rl, sl, p⟩ := h
  refine ⟨m, σ', g, rl, sl.1, sl.2, sBind_s sl p fun ds g1 m1 H1 vs l1 r1 d1 p1 => ?_⟩
  split at p1
  · obtain ⟨v, ws, rfl, h1, h2⟩ := d1.consV
    obtain ⟨w, ws', rfl, h3, h4⟩ := h2.consV
    obtain rfl := h4.nilV
    exact ⟨v, w, rfl, p1 m1 H1 _ (Le.refl m1) r1 (((sl.mono l1).set h1).set h3)⟩
  · exact p1.elim
def sPar3 (i j l : Nat) (t : Av) : Sx := fun σ g => sBind σ (t σ g) fun ds g1 => match ds with
  | [a, b, c] => .nx (((σ.set i (some a)).set j (some b)).set l (some c)) g1
  | _ => .no
/-- name op= e -/
def sAug (i : Nat) (f : Op2) (e : Ev) : Sx := fun σ g => match σ[i]? with
  | some (some x) => sBind σ (e σ g) fun y g1 => sBind σ (f x y g1) fun z g2 => .nx (σ.set i (some z)) g2
  | _ => .no
theorem s_aug {i : Nat} {x : Str} {op : Operator} {r : R2} {f : Op2} {pos' : Pos} (ho : OpR X (inplaceOp op) r) (hs : OpS X.K W r f) (hN : X.N.Nodup) (hi : X.N[i]? = some x) (hx : Loc X.env.scope x) (he : PE X e (tE X.K W ee)) (hf : X.fn x = true ∨ X.env.scope.names.lookup x = some .local := by first | exact .inl rfl | exact .inr rfl | assumption) :
    PS X (.AugAssign (.Name x pos') op e pos) (tS X.K W (sAug i f ee)) := PS.imp (ps_aug hN hi hx he (ti := r) (fun pins s σ H x y v u Q I rx ry q => ho pins s σ H x y v u Q I rx ry q) hf) fun D' σ H h => by
  obtain ⟨m, σ', g, rl, sl, p⟩ := h
  unfold sAug at p
  split at p
  · rename_i d hd
    obtain ⟨v, h1, h2⟩ := sl.1 i d hd
    refine ⟨v, h1, m, σ', g, rl, sl.1, sl.2, sBind_s sl p fun e' g1 m1 H1 y l1 r1 d1 p1 => ?_⟩
    exact hs σ m1 g1 H1 d e' v y _ r1 (h2.mono l1) d1 (sBind_s (sl.mono l1) p1 fun z g2 m2 H2 w l2 r2 d2 p2 => p2 m2 H2 _ (Le.refl m2) r2 (((sl.mono l1).mono l2).set d2))
  · exact p.elim
end
theorem iop_sub1 {X : Cx} : OpR X (inplaceOp .Sub) (rI (fun _ _ => True) fun i j => .int (i - j)) := opI fun _ _ _ _ _ _ _ _ q => PyProof.Rows.isub_int q
def oAddI : Op2 := oI (fun _ _ => true) (· + ·)
theorem iop_add1 {X : Cx} : OpR X (inplaceOp .Add) (rI (fun _ _ => True) fun i j => .int (i + j)) := opI fun _ _ _ _ _ _ _ _ q => PyProof.Rows.iadd_int q
theorem oAddI_s {K : PySem.W.Frag} {W : WX} : OpS K W (rI (fun _ _ => True) fun i j => .int (i + j)) oAddI := oI_s fun _ _ _ => trivial
def oMulI : Op2 := oI cMul (· * ·)
theorem iop_mul1 {X : Cx} : OpR X (inplaceOp .Mult) (rI CMulW fun i j => .int (i * j)) := opI fun _ _ _ _ _ _ _ hc q => PyProof.Rows.imul_int q hc.ok
theorem oMulI_s {K : PySem.W.Frag} {W : WX} : OpS K W (rI CMulW fun i j => .int (i * j)) oMulI := oI_s fun _ _ h => cMul_ok h
def oModI : Op2 := oI (fun _ j => decide (0 < j)) (· % ·)
theorem oModI_s {K : PySem.W.Frag} {W : WX} : OpS K W (rI (fun _ j => 0 < j) fun i j => .int (i % j)) oModI := oI_s fun _ _ h => of_decide_eq_true h
/-! ### while -/
def sxWhile (c : Tv) (b : Sx) : Nat → Sx
  | 0 => fun _ _ => .no
  | n + 1 => fun σ g => sBind σ (c σ g) fun k g1 => match k with
    | true => match b σ g1 with
      | .nx σ' g' => sxWhile c b n σ' g'
      | .ct σ' g' => sxWhile c b n σ' g'
      | .bk σ' g' => .nx σ' g'
      | r => r
    | false => .nx σ g1
theorem s_while {X : Cx} {W : WX} {c : Expr} {body : List Stmt} {tc : Tv} {b : Sx} {pos : Pos} (n : Nat) (hp : PassesOwn (model X.prog X.w) X.A X.env X.xe) (hc : PT X c (tT X.K W tc)) (hb : PSs X body (tS X.K W b)) : PS X (.While c body [] pos) (tS X.K W (sxWhile tc b n)) :=
  PS.imp (ps_while hp hc hb) fun D' σ H h => by
    obtain ⟨m, σ', g, rl, sl, p⟩ := h
    refine ⟨fun n σv H => ∃ m1 σ1 g1, Rel X.K m1 g1 H ∧ SlotsL X.K m1 σ1 σv ∧ PostS X.K W (sxWhile tc b n σ1 g1) m1 D', ⟨n, m, σ', g, rl, sl, p⟩, ?_⟩
    rintro k σv H1 ⟨m1, σ1, g1, r1, s1, p1⟩
    cases k with
    | zero => exact p1.elim
    | succ k =>
      refine ⟨m1, σ1, g1, r1, s1.1, s1.2, sBind_s s1 p1 fun d g2 m2 H2 v l2 r2 d2 p2 => ?_⟩
      cases d2
      cases d with
      | false =>
        rw [if_neg Bool.false_ne_true]
        exact p2 m2 H2 σv (Le.refl m2) r2 (s1.mono l2)
      | true =>
        rw [if_pos rfl]
        refine ⟨fun σ3 H3 => ∃ m3 σ3' g3, Rel X.K m3 g3 H3 ∧ SlotsL X.K m3 σ3' σ3 ∧ PostS X.K W (sxWhile tc b k σ3' g3) m3 D', fun σ3 H3 q => ⟨k, Nat.lt_succ_self k, q⟩, m2, σ1, g2, r2, s1.mono l2, ?_⟩
        cases hr : b σ1 g2 with
        | nx σ3 g3 => simp only [hr] at p2; exact fun m4 H4 σ4 l4 r4 s4 => ⟨m4, σ3, g3, r4, s4, PostS.mono l4 p2⟩
        | ct σ3 g3 => simp only [hr] at p2; exact fun m4 H4 σ4 l4 r4 s4 => ⟨m4, σ3, g3, r4, s4, PostS.mono l4 p2⟩
        | bk σ3 g3 => simp only [hr] at p2; exact p2
        | rt d g3 => simp only [hr] at p2; exact p2
        | ex σ3 x g3 => simp only [hr] at p2; exact p2
        | no => simp only [hr] at p2; exact p2
end AW
namespace AW
open PySem PySem.Spec L2
/-! ### what is walked: fixed items, or a list that may change meanwhile -/
inductive Iv where
  | fix (ds : List D)
  | dyn (i : Nat)
  | dynf (i : Nat) (f : List D → List D)
  | dyng (f : G → Option (List D))
theorem den_md {K : PySem.W.Frag} {m m' : Md} (hF : ∀ a o, m.F a = some o → m'.F a = some o) (hr : ∀ i a, m.r i = some a → m'.r i = some a) {d : D} {v : V} (q : Den K m d v) : Den K m' d v := by
  exact Den.rec (motive_1 := fun d v _ => Den K m' d v) (motive_2 := fun ds vs _ => Dens K m' ds vs) .non .bl .int .str (fun h _ ih => .tup (sqT_le hF h) ih) (fun h _ ih => .lst (hF _ _ h) ih) (fun h _ ih => .seq (sqL_le hF h) ih) (fun h hl _ ih => .dct (rd_le hF h) hl ih) (fun h hl _ ih => .dtt (hF _ _ h) hl ih) (fun h hd _ ih => .ins (hF _ _ h) (hF _ _ hd) ih) .glo (fun h => .ref (hr _ _ h)) .val .nil (fun _ _ ih1 ih2 => .cons ih1 ih2) q
theorem dens_md {K : PySem.W.Frag} {m m' : Md} (hF : ∀ a o, m.F a = some o → m'.F a = some o) (hr : ∀ i a, m.r i = some a → m'.r i = some a) {d : List D} {v : List V} (q : Dens K m d v) : Dens K m' d v := by
  exact Dens.rec (motive_1 := fun d v _ => Den K m' d v) (motive_2 := fun ds vs _ => Dens K m' ds vs) .non .bl .int .str (fun h _ ih => .tup (sqT_le hF h) ih) (fun h _ ih => .lst (hF _ _ h) ih) (fun h _ ih => .seq (sqL_le hF h) ih) (fun h hl _ ih => .dct (rd_le hF h) hl ih) (fun h hl _ ih => .dtt (hF _ _ h) hl ih) (fun h hd _ ih => .ins (hF _ _ h) (hF _ _ hd) ih) .glo (fun h => .ref (hr _ _ h)) .val .nil (fun _ _ ih1 ih2 => .cons ih1 ih2) q
/-- what is frozen and where the cells lie, without what is set aside -/
structure LeF (m m' : Md) : Prop where
  F : ∀ a o, m.F a = some o → m'.F a = some o
  r : ∀ i a, m.r i = some a → m'.r i = some a
theorem Le.f {m m' : Md} (l : Le m m') : LeF m m' := ⟨l.F, l.r⟩
theorem LeF.trans {a b c : Md} (x : LeF a b) (y : LeF b c) : LeF a c := ⟨fun p o h => y.F p o (x.F p o h), fun i p h => y.r i p (x.r i p h)⟩
def ItAt (K : PySem.W.Frag) (J : It) (m' : Md) (g : G) (H : Hp) (ds : List D) : Prop := ∀ k, (ds.length ≤ k → J.stop k H) ∧ (∀ d, ds[k]? = some d → J.go k H ∧ ∀ x H', J.yld k H x H' → ∃ m2, Le m' m2 ∧ Rel K m2 g H' ∧ Den K m2 d x)
def ItOk (K : PySem.W.Frag) (m : Md) (iv : Iv) (J : It) : Prop := ∀ m' g H, LeF m m' → Rel K m' g H → match iv with
  | .fix ds => ItAt K J m' g H ds
  | .dyn i => ∀ ys, lmOf g i = some ys → ItAt K J m' g H ys
  | .dynf i f => ∀ ys, lmOf g i = some ys → ItAt K J m' g H (f ys)
  | .dyng f => ∀ ys, f g = some ys → ItAt K J m' g H ys
theorem ItOk.mono {K : PySem.W.Frag} {m m2 : Md} {iv : Iv} {J : It} (l : Le m m2) (h : ItOk K m iv J) : ItOk K m2 iv J := fun m' g H l2 r => h m' g H (l.f.trans l2) r
abbrev Ivv := Sg → G → Res Iv
def tIt (K : PySem.W.Frag) (W : WX) (iv : Ivv) : TI := fun σv H R => ∃ m σ g, Rel K m g H ∧ SlotsL K m σ σv ∧ Post K W σv (ItOk K) (iv σ g) m R
theorem PI.imp {X : Cx} {tg it : Expr} {t t' : TI} (h : PI X tg it t) (k : ∀ σ H Q, t' σ H Q → t σ H Q) : PI X tg it t' := ⟨fun pins s σ H Q I q => h.run pins s σ H Q I (k _ _ _ q)⟩
theorem PI.or {X : Cx} {tg it : Expr} {t t' : TI} (h : PI X tg it t) (h' : PI X tg it t') : PI X tg it (fun σ H R => t σ H R ∨ t' σ H R) := ⟨fun pins s σ H Q I q => q.elim (fun q => h.run pins s σ H Q I q) (fun q => h'.run pins s σ H Q I q)⟩
/-- a list or a tuple -/
def ivOf (d : D) (g : G) : Res Iv := match d with
  | .tup xs => .ok (.fix xs) g
  | .lst xs => .ok (.fix xs) g
  | .seq xs => .ok (.fix xs) g
  | .ref i => match lmOf g i with
    | some _ => .ok (.dyn i) g
    | none => .no
  | _ => .no
def iSeq (e : Ev) : Ivv := fun σ g => (e σ g).bind ivOf
theorem itl_at {K : PySem.W.Frag} {m : Md} {g : G} {H : Hp} {a : Addr} {ds : List D} {vs : List V} (r : Rel K m g H) (h : SqL K H a vs) (d : Dens K m ds vs) : ItAt K (Itl K a) m g H ds := fun k => by
  refine ⟨fun hk => ⟨vs, h, by rw [← d.length]; exact hk⟩, fun e he => ?_⟩
  obtain ⟨v, h1, h2⟩ := d.get he
  refine ⟨⟨vs, v, h, h1⟩, fun x H' y => ?_⟩
  obtain ⟨e1, y⟩ := y
  subst e1
  have := y vs h
  rw [h1] at this
  cases this
  exact ⟨m, Le.refl m, r, h2⟩
theorem itt_at {K : PySem.W.Frag} {m : Md} {g : G} {H : Hp} {a : Addr} {ds : List D} {vs : List V} (r : Rel K m g H) (h : SqT K H a vs) (d : Dens K m ds vs) : ItAt K (Itt K a) m g H ds := fun k => by
  refine ⟨fun hk => ⟨vs, h, by rw [← d.length]; exact hk⟩, fun e he => ?_⟩
  obtain ⟨v, h1, h2⟩ := d.get he
  refine ⟨⟨vs, v, h, h1⟩, fun x H' y => ?_⟩
  obtain ⟨e1, y⟩ := y
  subst e1
  have := y vs h
  rw [h1] at this
  cases this
  exact ⟨m, Le.refl m, r, h2⟩
theorem ivOf_s {K : PySem.W.Frag} {W : WX} {σv : L2.St} {m : Md} {g : G} {H : Hp} {d : D} {x : V} {R : It → Hp → Prop} (rl : Rel K m g H) (hd : Den K m d x) (p : Post K W σv (ItOk K) (ivOf d g) m R) :
    ((∃ xs, d = .tup xs) ∧ ∃ a, x = .ref a ∧ (∃ xs, SqT K H a xs) ∧ R (Itt K a) H) ∨ ((¬ ∃ xs, d = .tup xs) ∧ ∃ a, x = .ref a ∧ (∃ xs, SqL K H a xs) ∧ R (Itl K a) H) := by
  cases hd with
  | tup h1 h2 =>
    rename_i a xs vs
    refine .inl ⟨⟨xs, rfl⟩, a, rfl, ⟨vs, rl.seqT h1⟩, fin_ok rl ?_ p⟩
    exact fun m' g' H' l r' => itt_at r' (r'.seqT (sqT_le l.F h1)) (dens_md l.F l.r h2)
  | lst h1 h2 =>
    refine .inr ⟨(fun ⟨_, z⟩ => nomatch z), _, rfl, ⟨_, SqL.of (rl.ex _ _ h1)⟩, fin_ok rl ?_ p⟩
    exact fun m' g' H' l r' => itl_at r' (SqL.of (r'.ex _ _ (l.F _ _ h1))) (dens_md l.F l.r h2)
  | seq h1 h2 =>
    refine .inr ⟨(fun ⟨_, z⟩ => nomatch z), _, rfl, ⟨_, rl.seqL h1⟩, fin_ok rl ?_ p⟩
    exact fun m' g' H' l r' => itl_at r' (r'.seqL (sqL_le l.F h1)) (dens_md l.F l.r h2)
  | ref h1 =>
    rename_i i a
    have p' : Post K W σv (ItOk K) (match lmOf g i with | some _ => .ok (.dyn i) g | none => .no) m R := p
    split at p'
    · rename_i ys hy
      obtain ⟨a', vs, e1, h2, h3, h4⟩ := lmOf_s rl (.ref h1) hy
      cases e1
      refine .inr ⟨(fun ⟨_, z⟩ => nomatch z), a, rfl, ⟨vs, SqL.of h3⟩, fin_ok rl ?_ p'⟩
      intro m' g' H' l r' zs hz
      obtain ⟨b, ws, e2, h5, h6, h7⟩ := lmOf_s r' (.ref (l.r _ _ h1)) hz
      cases e2
      exact itl_at r' (SqL.of h6) h7
    · exact p'.elim
  | _ => exact p.elim
section
variable {X : Cx} {W : WX} {tg e : Expr} {ee : Ev} {es : List Expr} {t : Av}
theorem i_seq (he : PE X e (tE X.K W ee)) : PI X tg e (tIt X.K W (iSeq ee)) := PI.imp (PI.or (pi_tup he) (pi_list he)) fun σ H R h => by
  obtain ⟨m, σ', g, rl, sl, p⟩ := h
  unfold iSeq at p
  cases hr : ee σ' g with
  | no => rw [hr] at p; exact p.elim
  | ex x g1 =>
    rw [hr] at p
    refine .inl ⟨m, σ', g, rl, sl.1, sl.2, ?_⟩
    rw [hr]
    exact p
  | ok d g1 =>
    rw [hr] at p
    by_cases hd : ∃ xs, d = .tup xs
    · refine .inl ⟨m, σ', g, rl, sl.1, sl.2, ?_⟩
      rw [hr]
      refine fun m1 H1 x l1 r1 d1 => ?_
      rcases ivOf_s r1 d1 (Post.mono l1 p) with ⟨_, q⟩ | ⟨z, _⟩
      · exact q
      · exact (z hd).elim
    · refine .inr ⟨m, σ', g, rl, sl.1, sl.2, ?_⟩
      rw [hr]
      refine fun m1 H1 x l1 r1 d1 => ?_
      rcases ivOf_s r1 d1 (Post.mono l1 p) with ⟨z, _⟩ | ⟨_, q⟩
      · exact (hd z).elim
      · exact q
/-- ranges -/
def rangeD (lo : Int) : Nat → List D
  | 0 => []
  | n + 1 => .int lo :: rangeD (lo + 1) n
theorem rangeD_len (n : Nat) : ∀ lo, (rangeD lo n).length = n := by
  induction n with
  | zero => intro lo; rfl
  | succ n ih => intro lo; show (rangeD (lo + 1) n).length + 1 = n + 1; rw [ih]
theorem rangeD_get (n : Nat) : ∀ (lo : Int) (k : Nat) (d : D), (rangeD lo n)[k]? = some d → k < n ∧ d = .int (lo + k) := by
  induction n with
  | zero => intro lo k d h; simp [rangeD] at h
  | succ n ih =>
    intro lo k d h
    cases k with
    | zero => simp [rangeD] at h; subst h; simp
    | succ k =>
      have h' : (rangeD (lo + 1) n)[k]? = some d := by simpa [rangeD] using h
      obtain ⟨h1, h2⟩ := ih _ _ _ h'
      refine ⟨by omega, ?_⟩
      rw [h2]
      congr 1
      omega
theorem itr_ok {K : PySem.W.Frag} {m : Md} {lo : Int} {n : Nat} : ItOk K m (.fix (rangeD lo n)) (Itr lo n) := fun m' g H l r k => by
  refine ⟨fun hk => by rw [rangeD_len] at hk; exact hk, fun d hd => ?_⟩
  obtain ⟨h1, h2⟩ := rangeD_get n lo k d hd
  refine ⟨h1, fun x H' y => ?_⟩
  obtain ⟨e1, e2⟩ := y
  subst e1
  rw [e2, h2]
  exact ⟨m', Le.refl m', r, .int⟩
def smallI (i : Int) : Bool := decide (-4611686018427387904 ≤ i) && decide (i < 4611686018427387904)
theorem smallI_ok {i : Int} (h : smallI i = true) : -(2 ^ 62) ≤ i ∧ i < 2 ^ 62 := by
  unfold smallI at h
  rw [Bool.and_eq_true] at h
  have h1 := of_decide_eq_true h.1
  have h2 := of_decide_eq_true h.2
  have e : (2 : Int) ^ 62 = 4611686018427387904 := by decide
  rw [e]
  omega
def iRange1 (t : Av) : Ivv := fun σ g => (t σ g).bind fun ds g1 => match ds with
  | [.int j] => okIf (smallI j) (.fix (rangeD 0 j.toNat)) g1
  | _ => .no
def iRange2 (t : Av) : Ivv := fun σ g => (t σ g).bind fun ds g1 => match ds with
  | [.int i, .int j] => okIf (smallI i && smallI j) (.fix (rangeD i (j - i).toNat)) g1
  | _ => .no
theorem i_range1 {a : Expr} {p pos : Pos} (hg : Gl X "range") (hm : X.mg "range" = none) (ha : PA X [a] (tA X.K W t)) (hs : starEach [a] X.env = [(false, eval a X.env)] := by rfl) : PI X tg (.Call (.Name "range" p) [a] [] pos) (tIt X.K W (iRange1 t)) :=
  PI.imp (pi_range1 hg hm ha hs) fun σ H R h => by
    obtain ⟨m, σ', g, rl, sl, p⟩ := h
    refine ⟨m, σ', g, rl, sl.1, sl.2, Post.bind p fun ds g1 m1 H1 vs l1 r1 d1 p1 => ?_⟩
    split at p1
    · obtain ⟨v, ws, rfl, h1, h2⟩ := d1.consV
      obtain rfl := h2.nilV
      cases h1
      obtain ⟨c, p1⟩ := okIf_post p1
      obtain ⟨c1, c2⟩ := smallI_ok c
      exact ⟨_, rfl, c1, c2, fin_ok r1 itr_ok p1⟩
    · exact p1.elim
theorem i_range2 {a b : Expr} {p pos : Pos} (hg : Gl X "range") (hm : X.mg "range" = none) (ha : PA X [a, b] (tA X.K W t)) (hs : starEach [a, b] X.env = [(false, eval a X.env), (false, eval b X.env)] := by rfl) (hs2 : starEach [b] X.env = [(false, eval b X.env)] := by rfl) :
    PI X tg (.Call (.Name "range" p) [a, b] [] pos) (tIt X.K W (iRange2 t)) :=
  PI.imp (pi_range2 hg hm ha hs hs2) fun σ H R h => by
    obtain ⟨m, σ', g, rl, sl, p⟩ := h
    refine ⟨m, σ', g, rl, sl.1, sl.2, Post.bind p fun ds g1 m1 H1 vs l1 r1 d1 p1 => ?_⟩
    split at p1
    · obtain ⟨v, ws, rfl, h1, h2⟩ := d1.consV
      obtain ⟨v', ws', rfl, h3, h4⟩ := h2.consV
      obtain rfl := h4.nilV
      cases h1
      cases h3
      obtain ⟨c, p1⟩ := okIf_post p1
      rw [Bool.and_eq_true] at c
      obtain ⟨c1, c2⟩ := smallI_ok c.1
      obtain ⟨c3, c4⟩ := smallI_ok c.2
      exact ⟨_, _, rfl, ⟨c1, c2, c3, c4⟩, fin_ok r1 itr_ok p1⟩
    · exact p1.elim
/-- enumerate of a list, zip of two lists or two tuples -/
def enumD (i : Int) : List D → List D
  | [] => []
  | x :: xs => .tup [.int i, x] :: enumD (i + 1) xs
theorem enumD_len (xs : List D) : ∀ i, (enumD i xs).length = xs.length := by
  induction xs with
  | nil => intro i; rfl
  | cons x xs ih => intro i; show (enumD (i + 1) xs).length + 1 = xs.length + 1; rw [ih]
theorem enumD_get (xs : List D) : ∀ (i : Int) (k : Nat) (d : D), (enumD i xs)[k]? = some d → ∃ x, xs[k]? = some x ∧ d = .tup [.int (i + k), x] := by
  induction xs with
  | nil => intro i k d h; simp [enumD] at h
  | cons x xs ih =>
    intro i k d h
    cases k with
    | zero => simp [enumD] at h; subst h; exact ⟨x, by simp, by simp⟩
    | succ k =>
      have h' : (enumD (i + 1) xs)[k]? = some d := by simpa [enumD] using h
      obtain ⟨y, h1, h2⟩ := ih _ _ _ h'
      refine ⟨y, by simpa using h1, ?_⟩
      rw [h2]
      congr 3
      omega
def zipD : List D → List D → List D
  | x :: xs, y :: ys => .tup [x, y] :: zipD xs ys
  | _, _ => []
theorem zipD_get (xs : List D) : ∀ (ys : List D) (k : Nat) (d : D), (zipD xs ys)[k]? = some d → ∃ x y, xs[k]? = some x ∧ ys[k]? = some y ∧ d = .tup [x, y] := by
  induction xs with
  | nil => intro ys k d h; simp [zipD] at h
  | cons x xs ih =>
    intro ys k d h
    cases ys with
    | nil => simp [zipD] at h
    | cons y ys =>
      cases k with
      | zero => simp [zipD] at h; subst h; exact ⟨x, y, by simp, by simp, rfl⟩
      | succ k =>
        have h' : (zipD xs ys)[k]? = some d := by simpa [zipD] using h
        obtain ⟨a, b, h1, h2, h3⟩ := ih _ _ _ h'
        exact ⟨a, b, by simpa using h1, by simpa using h2, h3⟩
theorem zipD_len (xs : List D) : ∀ ys, (zipD xs ys).length = min xs.length ys.length := by
  induction xs with
  | nil => intro ys; simp [zipD]
  | cons x xs ih =>
    intro ys
    cases ys with
    | nil => simp [zipD]
    | cons y ys => simp only [zipD, List.length_cons, ih]; omega
theorem put_pair {K : PySem.W.Frag} {m : Md} {g : G} {H : Hp} {p : Addr} {a b : D} {x y : V} (r : Rel K m g H) (hp : H p = none) (h1 : Den K m a x) (h2 : Den K m b y) : ∃ m2, Le m m2 ∧ Rel K m2 g (upd H p (.tup [x, y])) ∧ Den K m2 (.tup [a, b]) (.ref p) :=
  ⟨m.put p (.tup [x, y]), le_put (r.free hp), r.put hp, put_tup (r.free hp) (.cons h1 (.cons h2 .nil))⟩
def iEnumL (t : Av) : Ivv := fun σ g => (t σ g).bind fun ds g1 => match ds with
  | [.lst xs] => .ok (.fix (enumD 0 xs)) g1
  | _ => .no
theorem i_enum {a : Expr} {p pos tpos : Pos} {elts : List Expr} {kk : Nat} (hg : Gl X "enumerate") (hm : X.mg "enumerate" = none) (ha : PA X [a] (tA X.K W t)) (hs : starEach [a] X.env = [(false, eval a X.env)] := by rfl) :
    PI X (.Tuple elts kk tpos) (.Call (.Name "enumerate" p) [a] [] pos) (tIt X.K W (iEnumL t)) := PI.imp (pi_enum hg hm ha hs) fun σ H R h => by
  obtain ⟨m, σ', g, rl, sl, p⟩ := h
  refine ⟨m, σ', g, rl, sl.1, sl.2, Post.bind p fun ds g1 m1 H1 vs l1 r1 d1 p1 => ?_⟩
  split at p1
  · obtain ⟨v, ws, rfl, h1, h2⟩ := d1.consV
    obtain rfl := h2.nilV
    cases h1 with
    | lst h3 h4 =>
      rename_i xs a vs
      refine ⟨a, vs, rfl, SqL.of (r1.ex _ _ h3), fin_ok r1 ?_ p1⟩
      intro m' g' H' l r' k
      have hs' := SqL.of (K := X.K) (r'.ex _ _ (l.F _ _ h3))
      refine ⟨fun hk => ⟨vs, hs', by rw [enumD_len] at hk; rw [← h4.length]; exact hk⟩, fun d hd => ?_⟩
      obtain ⟨x, h5, h6⟩ := enumD_get xs 0 k d hd
      obtain ⟨v, h7, h8⟩ := h4.get h5
      refine ⟨⟨vs, v, hs', h7⟩, fun y H2 yl => ?_⟩
      obtain ⟨T, z, e1, e2, e3, e4⟩ := yl
      have := e4 vs hs'
      rw [h7] at this
      cases this
      subst e1
      rw [e3, h6]
      have e0 : (0 : Int) + (k : Int) = (k : Int) := by omega
      rw [e0]
      exact put_pair r' e2 .int (den_md l.F l.r h8)
  · exact p1.elim
def iZipL (t : Av) : Ivv := fun σ g => (t σ g).bind fun ds g1 => match ds with
  | [.lst xs, .lst ys] => .ok (.fix (zipD xs ys)) g1
  | [.tup xs, .tup ys] => .ok (.fix (zipD xs ys)) g1
  | _ => .no
theorem i_zip {a b : Expr} {p pos tpos : Pos} {elts : List Expr} {kk : Nat} (hg : Gl X "zip") (hm : X.mg "zip" = none) (ha : PA X [a, b] (tA X.K W t)) (hs : starEach [a, b] X.env = (false, eval a X.env) :: starEach [b] X.env := by rfl) (hpl : (backTo pos (starEach [b] X.env)).any (·.1) = false := by rfl) :
    PI X (.Tuple elts kk tpos) (.Call (.Name "zip" p) [a, b] [] pos) (tIt X.K W (iZipL t)) := PI.imp (RZ.pi_zipA hg hm ha hs hpl) fun σ H R h => by
  obtain ⟨m, σ', g, rl, sl, p⟩ := h
  refine ⟨m, σ', g, rl, sl.1, sl.2, Post.bind p fun ds g1 m1 H1 vs l1 r1 d1 p1 => ?_⟩
  split at p1
  · obtain ⟨v, ws, rfl, h1, h2⟩ := d1.consV
    obtain ⟨v', ws', rfl, h1', h2'⟩ := h2.consV
    obtain rfl := h2'.nilV
    cases h1 with
    | lst h3 h4 =>
      cases h1' with
      | lst h3' h4' =>
        rename_i xs ys a vs b ws
        refine ⟨a, b, vs, ws, rfl, .inl ⟨SqL.of (r1.ex _ _ h3), SqL.of (r1.ex _ _ h3'), fin_ok r1 ?_ p1⟩⟩
        intro m' g' H' l r' k
        have ha' := SqL.of (K := X.K) (r'.ex _ _ (l.F _ _ h3))
        have hb' := SqL.of (K := X.K) (r'.ex _ _ (l.F _ _ h3'))
        refine ⟨fun hk => ⟨vs, ws, ha', hb', by rw [zipD_len] at hk; rw [← h4.length, ← h4'.length]; omega⟩, fun d hd => ?_⟩
        obtain ⟨x, y, h5, h6, h7⟩ := zipD_get xs ys k d hd
        obtain ⟨v, h8, h9⟩ := h4.get h5
        obtain ⟨w, h8', h9'⟩ := h4'.get h6
        refine ⟨⟨vs, ws, v, w, ha', hb', h8, h8'⟩, fun y H2 yl => ?_⟩
        obtain ⟨T, z1, z2, e1, e2, e3, e4, e5⟩ := yl
        have q1 := e4 vs ha'
        have q2 := e5 ws hb'
        rw [h8] at q1
        rw [h8'] at q2
        cases q1
        cases q2
        subst e1
        rw [e3, h7]
        exact put_pair r' e2 (den_md l.F l.r h9) (den_md l.F l.r h9')
  · obtain ⟨v, ws, rfl, h1, h2⟩ := d1.consV
    obtain ⟨v', ws', rfl, h1', h2'⟩ := h2.consV
    obtain rfl := h2'.nilV
    cases h1 with
    | tup h3 h4 =>
      cases h1' with
      | tup h3' h4' =>
        rename_i xs ys a vs b ws
        refine ⟨a, b, vs, ws, rfl, .inr ⟨r1.seqT h3, r1.seqT h3', fin_ok r1 ?_ p1⟩⟩
        intro m' g' H' l r' k
        have ha' := r'.seqT (sqT_le l.F h3)
        have hb' := r'.seqT (sqT_le l.F h3')
        refine ⟨fun hk => ⟨vs, ws, ha', hb', by rw [zipD_len] at hk; rw [← h4.length, ← h4'.length]; omega⟩, fun d hd => ?_⟩
        obtain ⟨x, y, h5, h6, h7⟩ := zipD_get xs ys k d hd
        obtain ⟨v, h8, h9⟩ := h4.get h5
        obtain ⟨w, h8', h9'⟩ := h4'.get h6
        refine ⟨⟨vs, ws, v, w, ha', hb', h8, h8'⟩, fun y H2 yl => ?_⟩
        obtain ⟨T, z1, z2, e1, e2, e3, e4, e5⟩ := yl
        have q1 := e4 vs ha'
        have q2 := e5 ws hb'
        rw [h8] at q1
        rw [h8'] at q2
        cases q1
        cases q2
        subst e1
        rw [e3, h7]
        exact put_pair r' e2 (den_md l.F l.r h9) (den_md l.F l.r h9')
  · exact p1.elim
end
/-! ### for -/
/-- what follows a turn -/
@[reducible] def sNext (r : SRes) (k : Sg → G → SRes) : SRes := match r with
  | .nx σ g => k σ g
  | .ct σ g => k σ g
  | .bk σ g => .nx σ g
  | r => r
def sForL (gv : Gv) (b : Sx) : List D → Sx
  | [] => fun σ g => .nx σ g
  | d :: ds => fun σ g => match gv d σ g with
    | some (σ1, g1) => sNext (b σ1 g1) (sForL gv b ds)
    | none => .no
def sForD (gv : Gv) (b : Sx) (i : Nat) : Nat → Nat → Sx
  | 0, _ => fun _ _ => .no
  | n + 1, k => fun σ g => match lmOf g i with
    | some ys => match ys[k]? with
      | some d => match gv d σ g with
        | some (σ1, g1) => sNext (b σ1 g1) (sForD gv b i n (k + 1))
        | none => .no
      | none => .nx σ g
    | none => .no
def sForF (gv : Gv) (b : Sx) (i : Nat) (f : List D → List D) : Nat → Nat → Sx
  | 0, _ => fun _ _ => .no
  | n + 1, k => fun σ g => match lmOf g i with
    | some ys => match (f ys)[k]? with
      | some d => match gv d σ g with
        | some (σ1, g1) => sNext (b σ1 g1) (sForF gv b i f n (k + 1))
        | none => .no
      | none => .nx σ g
    | none => .no
def sFor (iv : Ivv) (gv : Gv) (b : Sx) : Sx := fun σ g => sBind σ (iv σ g) fun v g1 => match v with
  | .fix ds => sForL gv b ds σ g1
  | .dyn i => sForD gv b i 100000 0 σ g1
  | .dynf i f => sForF gv b i f 100000 0 σ g1
  | .dyng _ => .no
theorem turn_s {K : PySem.W.Frag} {W : WX} {gv : Gv} {b : Sx} {k : Sg → G → SRes} {m : Md} {d : D} {σ : Sg} {σv : L2.St} {g : G} {H' : Hp} {x : V} {D' : Ends} {N : L2.St → Hp → Prop} {m2 : Md} (l : Le m m2) (sl : SlotsL K m σ σv) (r2 : Rel K m2 g H') (hd : Den K m2 d x)
    (p : PostS K W (match gv d σ g with | some (σ1, g1) => sNext (b σ1 g1) k | none => .no) m D') (hN : ∀ m3 σ3 σ3v g3 H3, Le m2 m3 → Rel K m3 g3 H3 → SlotsL K m3 σ3 σ3v → PostS K W (k σ3 g3) m3 D' → N σ3v H3) :
    tGt K gv x σv H' fun σ2 H2 => tS K W b { D' with nx := N, ct := N, bk := D'.nx } σ2 H2 := by
  refine ⟨m2, d, σ, g, r2, sl.mono l, hd, ?_⟩
  split at p
  · rename_i σ1 g1 hq
    rw [hq]
    refine fun m3 H3 σ3 l3 r3 s3 => ⟨m3, σ1, g1, r3, s3, ?_⟩
    cases hr : b σ1 g1 with
    | nx σ4 g4 => simp only [hr] at p; exact fun m5 H5 σ5 l5 r5 s5 => hN m5 σ4 σ5 g4 H5 (l3.trans l5) r5 s5 (PostS.mono (l.trans (l3.trans l5)) p)
    | ct σ4 g4 => simp only [hr] at p; exact fun m5 H5 σ5 l5 r5 s5 => hN m5 σ4 σ5 g4 H5 (l3.trans l5) r5 s5 (PostS.mono (l.trans (l3.trans l5)) p)
    | bk σ4 g4 => simp only [hr] at p; exact PostS.mono (m := m) (l.trans l3) p
    | rt d g4 => simp only [hr] at p; exact PostS.mono (m := m) (l.trans l3) p
    | ex σ4 e g4 => simp only [hr] at p; exact PostS.mono (m := m) (l.trans l3) p
    | no => simp only [hr] at p; exact p
  · exact p.elim
theorem s_forW {X : Cx} {W : WX} {wi : TI} {tg iter : Expr} {body : List Stmt} {iv : Ivv} {gv : Gv} {b : Sx} {pos : Pos} (hp : PassesOwn (model X.prog X.w) X.A X.env X.xe) (hc : X.calm = true) (hi : PI X tg iter wi) (hg : PG X tg (tGt X.K gv)) (hb : PSs X body (tS X.K W b))
    (hs : ∀ x, foldedSetIterable iter X.env x = pure x := by intro _; rfl) : PS X (.For tg iter body [] pos) (fun D' σ H => tS X.K W (sFor iv gv b) D' σ H ∧ ∀ R, tIt X.K W iv σ H R → wi σ H R) := PS.imp (ps_for hp hc hi hg hb hs) fun D' σ H hh => by
  obtain ⟨⟨m, σ', g, rl, sl, p⟩, hwi⟩ := hh
  refine hwi _ ⟨m, σ', g, rl, sl, sBind_s sl p fun v g1 m1 H1 J l1 r1 d1 p1 => ?_⟩
  cases v with
  | fix ds =>
    refine ⟨fun i n σv H => ∃ m2 σ2 g2, Le m1 m2 ∧ Rel X.K m2 g2 H ∧ SlotsL X.K m2 σ2 σv ∧ n = ds.length - i ∧ i ≤ ds.length ∧ PostS X.K W (sForL gv b (ds.drop i) σ2 g2) m2 D', ⟨ds.length, m1, σ', g1, Le.refl m1, r1, sl.mono l1, rfl, Nat.zero_le _, p1⟩, ?_⟩
    rintro i n σv H2 ⟨m2, σ2, g2, l2, r2, s2, hn, hle, p2⟩
    obtain ⟨hstop, hgo⟩ := d1 m2 g2 H2 l2.f r2 i
    by_cases hi : i < ds.length
    · have hdi : ds[i]? = some ds[i] := by simp [hi]
      obtain ⟨go, hy⟩ := hgo _ hdi
      refine .inr ⟨go, fun σv H => ∃ m2 σ2 g2, Le m1 m2 ∧ Rel X.K m2 g2 H ∧ SlotsL X.K m2 σ2 σv ∧ PostS X.K W (sForL gv b (ds.drop (i + 1)) σ2 g2) m2 D', fun σv H ⟨m3, σ3, g3, l3, r3, s3, p3⟩ => ⟨ds.length - (i + 1), by omega, m3, σ3, g3, l3, r3, s3, rfl, hi, p3⟩, fun x H3 yl => ?_⟩
      obtain ⟨m3, l3, r3, hd⟩ := hy x H3 yl
      rw [List.drop_eq_getElem_cons hi] at p2
      exact turn_s l3 s2 r3 hd p2 fun m4 σ4 σ4v g4 H4 l4 r4 s4 p4 => ⟨m4, σ4, g4, l2.trans (l3.trans l4), r4, s4, p4⟩
    · have hi' : i = ds.length := by omega
      subst hi'
      rw [List.drop_length] at p2
      exact .inl ⟨hstop (Nat.le_refl _), p2 m2 H2 σv (Le.refl m2) r2 s2⟩
  | dyn j =>
    refine ⟨fun i n σv H => ∃ m2 σ2 g2, Le m1 m2 ∧ Rel X.K m2 g2 H ∧ SlotsL X.K m2 σ2 σv ∧ PostS X.K W (sForD gv b j n i σ2 g2) m2 D', ⟨100000, m1, σ', g1, Le.refl m1, r1, sl.mono l1, p1⟩, ?_⟩
    rintro i n σv H2 ⟨m2, σ2, g2, l2, r2, s2, p2⟩
    cases n with
    | zero => exact p2.elim
    | succ n =>
      unfold sForD at p2
      split at p2
      · rename_i ys hy
        obtain ⟨hstop, hgo⟩ := d1 m2 g2 H2 l2.f r2 ys hy i
        split at p2
        · rename_i d hd
          obtain ⟨go, hyl⟩ := hgo d hd
          refine .inr ⟨go, fun σv H => ∃ m2 σ2 g2, Le m1 m2 ∧ Rel X.K m2 g2 H ∧ SlotsL X.K m2 σ2 σv ∧ PostS X.K W (sForD gv b j n (i + 1) σ2 g2) m2 D', fun σv H q => ⟨n, Nat.lt_succ_self n, q⟩, fun x H3 yl => ?_⟩
          obtain ⟨m3, l3, r3, hd'⟩ := hyl x H3 yl
          exact turn_s l3 s2 r3 hd' p2 fun m4 σ4 σ4v g4 H4 l4 r4 s4 p4 => ⟨m4, σ4, g4, l2.trans (l3.trans l4), r4, s4, p4⟩
        · rename_i hd
          exact .inl ⟨hstop (List.getElem?_eq_none_iff.mp hd), p2 m2 H2 σv (Le.refl m2) r2 s2⟩
      · exact p2.elim
  | dyng f => exact p1.elim
  | dynf j f =>
    refine ⟨fun i n σv H => ∃ m2 σ2 g2, Le m1 m2 ∧ Rel X.K m2 g2 H ∧ SlotsL X.K m2 σ2 σv ∧ PostS X.K W (sForF gv b j f n i σ2 g2) m2 D', ⟨100000, m1, σ', g1, Le.refl m1, r1, sl.mono l1, p1⟩, ?_⟩
    rintro i n σv H2 ⟨m2, σ2, g2, l2, r2, s2, p2⟩
    cases n with
    | zero => exact p2.elim
    | succ n =>
      unfold sForF at p2
      split at p2
      · rename_i ys hy
        obtain ⟨hstop, hgo⟩ := d1 m2 g2 H2 l2.f r2 ys hy i
        split at p2
        · rename_i d hd
          obtain ⟨go, hyl⟩ := hgo d hd
          refine .inr ⟨go, fun σv H => ∃ m2 σ2 g2, Le m1 m2 ∧ Rel X.K m2 g2 H ∧ SlotsL X.K m2 σ2 σv ∧ PostS X.K W (sForF gv b j f n (i + 1) σ2 g2) m2 D', fun σv H q => ⟨n, Nat.lt_succ_self n, q⟩, fun x H3 yl => ?_⟩
          obtain ⟨m3, l3, r3, hd'⟩ := hyl x H3 yl
          exact turn_s l3 s2 r3 hd' p2 fun m4 σ4 σ4v g4 H4 l4 r4 s4 p4 => ⟨m4, σ4, g4, l2.trans (l3.trans l4), r4, s4, p4⟩
        · rename_i hd
          exact .inl ⟨hstop (List.getElem?_eq_none_iff.mp hd), p2 m2 H2 σv (Le.refl m2) r2 s2⟩
      · exact p2.elim
theorem s_for {X : Cx} {W : WX} {tg iter : Expr} {body : List Stmt} {iv : Ivv} {gv : Gv} {b : Sx} {pos : Pos} (hp : PassesOwn (model X.prog X.w) X.A X.env X.xe) (hc : X.calm = true) (hi : PI X tg iter (tIt X.K W iv)) (hg : PG X tg (tGt X.K gv)) (hb : PSs X body (tS X.K W b))
    (hs : ∀ x, foldedSetIterable iter X.env x = pure x := by intro _; rfl) : PS X (.For tg iter body [] pos) (tS X.K W (sFor iv gv b)) := PS.imp (s_forW (wi := tIt X.K W iv) hp hc hi hg hb hs) fun D' σ H h => ⟨h, fun _ q => q⟩
end AW
namespace AW
open PySem PySem.Spec L2
/-! ### comprehensions -/
def wipeD (σ : Sg) : List Nat → Sg
  | [] => σ
  | v :: vs => (wipeD σ vs).set v none
theorem wipeD_len (σ : Sg) : ∀ vs, (wipeD σ vs).length = σ.length
  | [] => rfl
  | v :: vs => by unfold wipeD; rw [List.length_set, wipeD_len σ vs]
theorem wipe_s {K : PySem.W.Frag} {m : Md} {σ : Sg} {σv : L2.St} (h : SlotsL K m σ σv) : ∀ vs, SlotsL K m (wipeD σ vs) (wipe σv vs)
  | [] => h
  | v :: vs => by
    have ih := wipe_s h vs
    refine ⟨fun i d q => ?_, by unfold wipeD wipe; rw [List.length_set, List.length_set]; exact ih.2⟩
    unfold wipeD at q
    unfold wipe
    by_cases hi : v = i
    · subst hi
      by_cases hl : v < (wipeD σ vs).length
      · rw [List.getElem?_set_self hl] at q; cases q
      · rw [List.getElem?_eq_none (by simp; omega)] at q; cases q
    · rw [List.getElem?_set_ne hi] at q ⊢
      exact ih.1 i d q
theorem wipe_set {σv : L2.St} {x : Option V} {i : Nat} : ∀ {vs : List Nat}, i ∈ vs → wipe (σv.set i x) vs = wipe σv vs
  | v :: vs, h => by
    unfold wipe
    by_cases hv : i = v
    · subst hv
      by_cases hm : i ∈ vs
      · rw [wipe_set hm]
      · have key : ∀ (us : List Nat), i ∉ us → wipe (σv.set i x) us = (wipe σv us).set i x := by
          intro us
          induction us with
          | nil => intro _; rfl
          | cons u us ih =>
            intro hu
            have h1 : i ≠ u := fun z => hu (by rw [z]; exact List.mem_cons_self)
            have h2 : i ∉ us := fun z => hu (List.mem_cons_of_mem _ z)
            unfold wipe
            rw [ih h2, List.set_comm _ _ h1]
        rw [key vs hm, List.set_set]
    · have hm : i ∈ vs := by
        rcases List.mem_cons.mp h with z | z
        · exact absurd z hv
        · exact z
      rw [wipe_set hm]
theorem wipe_sub (σ : L2.St) : ∀ (us vs : List Nat), (∀ u ∈ us, u ∈ vs) → wipe (wipe σ us) vs = wipe σ vs
  | [], _, _ => rfl
  | u :: us, vs, h => by
    have e : wipe σ (u :: us) = (wipe σ us).set u none := rfl
    rw [e, wipe_set (h u List.mem_cons_self)]
    exact wipe_sub σ us vs fun x hx => h x (List.mem_cons_of_mem _ hx)
theorem wipe_idem (σ : L2.St) (vs : List Nat) : wipe (wipe σ vs) vs = wipe σ vs := wipe_sub σ vs vs fun _ h => h
/-- a comprehension's target -/
def CT (K : PySem.W.Frag) (vs : List Nat) (t : TG) (gv : Gv) : Prop := ∀ (m : Md) (d : D) (v : V) (σ : Sg) (σv : L2.St) (g : G) (H : Hp) (σ' : Sg) (g' : G) (Q : L2.St → Hp → Prop), Rel K m g H → SlotsL K m σ σv → Den K m d v → gv d σ g = some (σ', g') →
  (∀ σv', SlotsL K m σ' σv' → wipe σv' vs = wipe σv vs → Rel K m g' H → Q σv' H) → t v σv H Q
def CTs (K : PySem.W.Frag) (vs : List Nat) (t : TGs) (gv : Gvs) : Prop := ∀ (m : Md) (ds : List D) (ws : List V) (σ : Sg) (σv : L2.St) (g : G) (H : Hp) (σ' : Sg) (g' : G) (Q : L2.St → Hp → Prop), Rel K m g H → SlotsL K m σ σv → Dens K m ds ws → gv ds σ g = some (σ', g') →
  (∀ σv', SlotsL K m σ' σv' → wipe σv' vs = wipe σv vs → Rel K m g' H → Q σv' H) → t ws σv H Q
theorem ct_name {K : PySem.W.Frag} {vs : List Nat} {i : Nat} (h : i ∈ vs) : CT K vs (gName i) (gvName i) := fun m d v σ σv g H σ' g' Q r sl hd e k => by
  cases e
  exact k _ (sl.set hd) (wipe_set h) r
theorem cts_nil {K : PySem.W.Frag} {vs : List Nat} : CTs K vs gNil gvNil := fun m ds ws σ σv g H σ' g' Q r sl hd e k => by
  unfold gvNil at e
  split at e
  · cases e
    exact ⟨hd.nilV, k _ sl rfl r⟩
  · cases e
theorem cts_cons {K : PySem.W.Frag} {vs : List Nat} {t : TG} {ts : TGs} {a : Gv} {b : Gvs} (h1 : CT K vs t a) (h2 : CTs K vs ts b) : CTs K vs (gCons t ts) (gvCons a b) := fun m ds ws σ σv g H σ' g' Q r sl hd e k => by
  unfold gvCons at e
  split at e
  · obtain ⟨v, us, rfl, h3, h4⟩ := hd.consV
    split at e
    · rename_i σ2 g2 hq
      refine ⟨v, us, rfl, ?_⟩
      refine h1 m _ v σ σv g H σ2 g2 _ r sl h3 hq fun σv2 s2 w2 r2 => ?_
      exact h2 m _ us σ2 σv2 g2 H σ' g' Q r2 s2 h4 e fun σv3 s3 w3 r3 => k σv3 s3 (w3.trans w2) r3
    · cases e
  · cases e
theorem ct_tup {K : PySem.W.Frag} {vs : List Nat} {ts : TGs} {b : Gvs} {n : Nat} (h : CTs K vs ts b) : CT K vs (gTup K n ts) (gvTup n b) := fun m d v σ σv g H σ' g' Q r sl hd e k => by
  unfold gvTup at e
  split at e
  · split at e
    · rename_i hl
      cases hd with
      | tup h1 h2 => exact ⟨_, _, rfl, r.seqT h1, by rw [← h2.length]; exact hl, h m _ _ σ σv g H σ' g' Q r sl h2 e k⟩
    · cases e
  · cases e
/-- one turn: nothing, or an item -/
def lcT (gv : Gv) (tt : Tv) (te : Ev) (σ : Sg) (d : D) (g : G) : Res (Option D) := match gv d σ g with
  | some (σ1, g1) => match tt σ1 g1 with
    | .ok true g2 => match te σ1 g2 with
      | .ok y g3 => .ok (some y) g3
      | _ => .no
    | .ok false g2 => .ok none g2
    | _ => .no
  | none => .no
def lcPut (o : Option D) (r : Res (List D)) : Res (List D) := match o with
  | none => r
  | some y => match r with
    | .ok ys g => .ok (y :: ys) g
    | _ => .no
def lcL (gv : Gv) (tt : Tv) (te : Ev) (σ : Sg) : List D → G → Res (List D)
  | [], g => .ok [] g
  | d :: ds, g => match lcT gv tt te σ d g with
    | .ok o g1 => lcPut o (lcL gv tt te σ ds g1)
    | _ => .no
def lcD (gv : Gv) (tt : Tv) (te : Ev) (σ : Sg) (i : Nat) : Nat → Nat → G → Res (List D)
  | 0, _, _ => .no
  | n + 1, k, g => match lmOf g i with
    | some ys => match ys[k]? with
      | some d => match lcT gv tt te σ d g with
        | .ok o g1 => lcPut o (lcD gv tt te σ i n (k + 1) g1)
        | _ => .no
      | none => .ok [] g
    | none => .no
def lcF (gv : Gv) (tt : Tv) (te : Ev) (σ : Sg) (i : Nat) (f : List D → List D) : Nat → Nat → G → Res (List D)
  | 0, _, _ => .no
  | n + 1, k, g => match lmOf g i with
    | some ys => match (f ys)[k]? with
      | some d => match lcT gv tt te σ d g with
        | .ok o g1 => lcPut o (lcF gv tt te σ i f n (k + 1) g1)
        | _ => .no
      | none => .ok [] g
    | none => .no
def lcG (gv : Gv) (tt : Tv) (te : Ev) (σ : Sg) (f : G → Option (List D)) : Nat → Nat → G → Res (List D)
  | 0, _, _ => .no
  | n + 1, k, g => match f g with
    | some ys => match ys[k]? with
      | some d => match lcT gv tt te σ d g with
        | .ok o g1 => lcPut o (lcG gv tt te σ f n (k + 1) g1)
        | _ => .no
      | none => .ok [] g
    | none => .no
def lcAll (gv : Gv) (tt : Tv) (te : Ev) (σ : Sg) (v : Iv) (g : G) : Res (List D) := match v with
  | .fix ds => lcL gv tt te σ ds g
  | .dyn i => lcD gv tt te σ i 100000 0 g
  | .dynf i f => lcF gv tt te σ i f 100000 0 g
  | .dyng f => lcG gv tt te σ f 100000 0 g
def noEx {α : Type} : Res α → Res α
  | .ok a g => .ok a g
  | _ => .no
def eLc (iv : Ivv) (gv : Gv) (tt : Tv) (te : Ev) (vs : List Nat) : Ev := fun σ g => (iv σ g).bind fun v g1 => (noEx (lcAll gv tt te (wipeD σ vs) v g1)).bind fun ys g2 => okIf (small ys) (.lst ys) g2
/-- the list changes afterwards -/
def eLcM (iv : Ivv) (gv : Gv) (tt : Tv) (te : Ev) (vs : List Nat) : Ev := fun σ g => (iv σ g).bind fun v g1 => (noEx (lcAll gv tt te (wipeD σ vs) v g1)).bind fun ys g2 => okIf (small ys) (.ref g2.length) (g2 ++ [.lst ys])
theorem CellOk.md {K : PySem.W.Frag} {m m' : Md} (hF : ∀ a o, m.F a = some o → m'.F a = some o) (hr : ∀ i a, m.r i = some a → m'.r i = some a) {a : Addr} {c : Cell} {o : HO} (h : CellOk K m a c o) : CellOk K m' a c o := by
  cases c with
  | lst xs => obtain ⟨vs, e1, h⟩ := h; exact ⟨vs, e1, dens_md hF hr h⟩
  | dct ks xs => obtain ⟨vs, e1, hl, h⟩ := h; exact ⟨vs, e1, hl, dens_md hF hr h⟩
  | dtt ks xs => obtain ⟨vs, e1, hl, h⟩ := h; exact ⟨vs, e1, hl, dens_md hF hr h⟩
  | tbg p => exact h
  | tab p q =>
    obtain ⟨ea, ps, e1, h1, h2⟩ := h
    exact ⟨ea, ps, e1, h1, fun pos cv hc => by
      obtain ⟨c, e2, e3⟩ := h2 pos cv hc
      exact ⟨c, e2, hF _ _ e3⟩⟩
  | new c j => obtain ⟨dx, e1, h1⟩ := h; exact ⟨dx, e1, hr _ _ h1⟩
  | own => exact h
  | xd => exact h
  | ins c j fs =>
    obtain ⟨dx, ws, e1, h1, hl, h2⟩ := h
    exact ⟨dx, ws, e1, hr _ _ h1, hl, fun i d q => by
      obtain ⟨v, q1, q2⟩ := h2 i d q
      exact ⟨v, q1, den_md hF hr q2⟩⟩
/-- something is set aside -/
def Md.hide (m : Md) (p : Addr) (o : HO) : Md := ⟨m.F, m.r, upd m.hid p o⟩
theorem le_hide {m : Md} {p : Addr} {o : HO} (h : m.hid p = none) : Le m (m.hide p o) := ⟨fun _ _ h => h, fun _ _ h => h, fun a u e => by
  show upd m.hid p o a = some u
  rw [upd_ne (ne_of_none e h)]
  exact e⟩
theorem Rel.hfree {K : PySem.W.Frag} {m : Md} {g : G} {H : Hp} (r : Rel K m g H) {p : Addr} (h : H p = none) : m.hid p = none := by
  cases q : m.hid p with
  | none => rfl
  | some o => rw [(r.hid p o q).1] at h; cases h
theorem Rel.hide {K : PySem.W.Frag} {m : Md} {g : G} {H : Hp} (r : Rel K m g H) {p : Addr} {o : HO} (h : H p = none) : Rel K (m.hide p o) g (upd H p o) where
  ex := fun a u e => by
    have e' : m.F a = some u := e
    rw [upd_ne (ne_of_none (r.ex a u e') h)]
    exact r.ex a u e'
  cell := fun i c hc => by
    obtain ⟨a, h1, h2, u, h3, h4⟩ := r.cell i c hc
    exact ⟨a, h1, h2, u, by rw [upd_ne (ne_of_none h3 h)]; exact h3, h4.mono (le_hide (r.hfree h))⟩
  dom := r.dom
  inj := r.inj
  hid := fun a u e => by
    have e' : upd m.hid p o a = some u := e
    by_cases ha : a = p
    · subst ha
      rw [upd_same] at e' ⊢
      refine ⟨e', r.free h, fun i z => ?_⟩
      have zl := r.dom i a z
      obtain ⟨b, h1, _, u', h3, _⟩ := r.cell i g[i] (by simp [zl])
      have z' : m.r i = some a := z
      rw [z'] at h1
      cases h1
      rw [h] at h3
      cases h3
    · rw [upd_ne ha] at e' ⊢
      exact r.hid a u e'
/-- what is set aside changes -/
theorem Rel.hset {K : PySem.W.Frag} {m : Md} {g : G} {H : Hp} (r : Rel K m g H) {p : Addr} {o u : HO} (h : m.hid p = some u) : Rel K (m.hide p o) g (upd H p o) := by
  obtain ⟨h1, h2, h3⟩ := r.hid p u h
  refine ⟨fun a w e => ?_, fun i c hc => ?_, r.dom, r.inj, fun a w e => ?_⟩
  · have e' : m.F a = some w := e
    have ha : a ≠ p := fun z => by rw [z, h2] at e'; cases e'
    rw [upd_ne ha]
    exact r.ex a w e'
  · obtain ⟨a, h4, h5, w, h6, h7⟩ := r.cell i c hc
    have ha : a ≠ p := fun z => by rw [z] at h4; exact h3 i h4
    exact ⟨a, h4, h5, w, by rw [upd_ne ha]; exact h6, CellOk.md (m := m) (m' := m.hide p o) (fun _ _ z => z) (fun _ _ z => z) h7⟩
  · have e' : upd m.hid p o a = some w := e
    by_cases ha : a = p
    · subst ha
      rw [upd_same] at e' ⊢
      exact ⟨e', h2, h3⟩
    · rw [upd_ne ha] at e' ⊢
      exact r.hid a w e'
/-- it is set aside no more, and frozen | a cell -/
def Md.unhide (m : Md) (p : Addr) (old : Option HO) : Hp := fun b => if b = p then old else m.hid b
theorem Rel.freeze {K : PySem.W.Frag} {m : Md} {g : G} {H : Hp} (r : Rel K m g H) {p : Addr} {vs : List V} (h : m.hid p = some (.lst vs)) : Rel K ⟨upd m.F p (.lst vs), m.r, m.unhide p none⟩ g H := by
  obtain ⟨h1, h2, h3⟩ := r.hid p _ h
  have hF : ∀ a o, m.F a = some o → upd m.F p (.lst vs) a = some o := fun a o e => by rw [upd_ne (ne_of_none e h2)]; exact e
  refine ⟨fun a w e => ?_, fun i c hc => ?_, r.dom, r.inj, fun a w e => ?_⟩
  · have e' : upd m.F p (.lst vs) a = some w := e
    by_cases ha : a = p
    · subst ha
      rw [upd_same] at e'
      rw [h1]
      exact e'
    · rw [upd_ne ha] at e'
      exact r.ex a w e'
  · obtain ⟨a, h4, h5, w, h6, h7⟩ := r.cell i c hc
    have ha : a ≠ p := fun z => by rw [z] at h4; exact h3 i h4
    refine ⟨a, h4, ?_, w, h6, ?_⟩
    · show upd m.F p (.lst vs) a = none
      rw [upd_ne ha]
      exact h5
    · exact CellOk.md (m := m) (m' := ⟨upd m.F p (.lst vs), m.r, m.unhide p none⟩) hF (fun _ _ z => z) h7
  · have e' : (if a = p then none else m.hid a) = some w := e
    by_cases ha : a = p
    · rw [if_pos ha] at e'; cases e'
    · rw [if_neg ha] at e'
      obtain ⟨q1, q2, q3⟩ := r.hid a w e'
      refine ⟨q1, ?_, q3⟩
      show upd m.F p (.lst vs) a = none
      rw [upd_ne ha]
      exact q2
theorem Rel.tocell {K : PySem.W.Frag} {m : Md} {g : G} {H : Hp} (r : Rel K m g H) {p : Addr} {vs : List V} {xs : List D} (h : m.hid p = some (.lst vs)) (d : Dens K m xs vs) : Rel K ⟨m.F, fun i => if i = g.length then some p else m.r i, m.unhide p none⟩ (g ++ [.lst xs]) H := by
  obtain ⟨h1, h2, h3⟩ := r.hid p _ h
  have hr : ∀ i a, m.r i = some a → (fun i => if i = g.length then some p else m.r i) i = some a := fun i a e => by
    show (if i = g.length then some p else m.r i) = some a
    rw [if_neg (fun z => by have := r.dom i a e; omega)]
    exact e
  refine ⟨r.ex, fun i c hc => ?_, fun i a e => ?_, fun i j a e1 e2 => ?_, fun a w e => ?_⟩
  · by_cases hi : i < g.length
    · rw [List.getElem?_append_left hi] at hc
      obtain ⟨a, h4, h5, w, h6, h7⟩ := r.cell i c hc
      exact ⟨a, hr i a h4, h5, w, h6, CellOk.md (m := m) (m' := ⟨m.F, fun i => if i = g.length then some p else m.r i, m.unhide p none⟩) (fun _ _ z => z) hr h7⟩
    · have hlt : i < (g ++ [Cell.lst xs]).length := (List.getElem?_eq_some_iff.mp hc).1
      have hi2 : i = g.length := by rw [List.length_append] at hlt; simp at hlt; omega
      subst hi2
      rw [List.getElem?_append_right (Nat.le_refl _)] at hc
      simp at hc
      subst hc
      refine ⟨p, ?_, h2, _, h1, vs, rfl, dens_md (m := m) (m' := ⟨m.F, fun i => if i = g.length then some p else m.r i, m.unhide p none⟩) (fun _ _ z => z) hr d⟩
      show (if g.length = g.length then some p else m.r g.length) = some p
      rw [if_pos rfl]
  · have e' : (if i = g.length then some p else m.r i) = some a := e
    rw [List.length_append]
    by_cases hi : i = g.length
    · simp [hi]
    · rw [if_neg hi] at e'
      have := r.dom i a e'
      simp
      omega
  · have e1' : (if i = g.length then some p else m.r i) = some a := e1
    have e2' : (if j = g.length then some p else m.r j) = some a := e2
    by_cases hi : i = g.length
    · rw [if_pos hi] at e1'
      cases e1'
      by_cases hj : j = g.length
      · omega
      · rw [if_neg hj] at e2'
        exact (h3 j e2').elim
    · rw [if_neg hi] at e1'
      by_cases hj : j = g.length
      · rw [if_pos hj] at e2'
        cases e2'
        exact (h3 i e1').elim
      · rw [if_neg hj] at e2'
        exact r.inj i j a e1' e2'
  · have e' : (if a = p then none else m.hid a) = some w := e
    by_cases ha : a = p
    · rw [if_pos ha] at e'; cases e'
    · rw [if_neg ha] at e'
      obtain ⟨q1, q2, q3⟩ := r.hid a w e'
      refine ⟨q1, q2, fun i z => ?_⟩
      have z' : (if i = g.length then some p else m.r i) = some a := z
      by_cases hi : i = g.length
      · rw [if_pos hi] at z'
        exact ha (Option.some.inj z').symm
      · rw [if_neg hi] at z'
        exact q3 i z'
def addO (acc : List D) : Option D → List D
  | none => acc
  | some y => acc ++ [y]
def consO : Option D → List D → List D
  | none, zs => zs
  | some y, zs => y :: zs
abbrev W0 : WX := fun _ _ _ _ => False
/-- one turn of the list's making -/
theorem lcT_s {K : PySem.W.Frag} {gv : Gv} {tt : Tv} {te : Ev} {vs : List Nat} {t : TG} {σ : Sg} {σv : L2.St} {m0 m : Md} {d : D} {x : V} {g g1 : G} {H : Hp} {Dl : Addr} {acc : List D} {accv : List V} {o : Option D} {Nx : Hp → Prop} {wq : L2.St} (hwq : wipe σv vs = wq) (ct : CT K vs t gv) (l0 : Le m0 m) (r : Rel K m g H) (sl : SlotsL K m0 σ σv)
    (hD : m.hid Dl = some (.lst accv)) (n0 : m0.hid Dl = none) (ha : Dens K m acc accv) (hz : ∀ y, o = some y → acc.length < 100000) (hd : Den K m d x) (e : lcT gv tt te σ d g = .ok o g1)
    (k : ∀ m2 H2 accv2, Le m0 m2 → Rel K m2 g1 H2 → m2.hid Dl = some (.lst accv2) → Dens K m2 (addO acc o) accv2 → Nx H2) :
    t x σv H fun σ2 H2 => wipe σ2 vs = wq ∧ tT K W0 tt σ2 H2 fun b H3 =>
      if b = true then tE K W0 te σ2 H3 fun y H4 => ∃ acc, H4 Dl = some (.lst acc) ∧ acc.length < sizeLine ∧ Nx (upd H4 Dl (.lst (acc ++ [y]))) else Nx H3 := by
  unfold lcT at e
  split at e
  · rename_i σ1 g2 hq
    refine ct m d x σ σv g H σ1 g2 _ r (sl.mono l0) hd hq fun σv2 s2 w2 r2 => ⟨w2.trans hwq, m, σ1, g2, r2, s2.1, s2.2, ?_⟩
    split at e
    · rename_i g3 ht
      rw [ht]
      refine fun m3 H3 b l3 r3 eb => ?_
      subst eb
      rw [if_pos rfl]
      refine ⟨m3, σ1, g3, r3, (s2.mono l3).1, s2.2, ?_⟩
      split at e
      · rename_i y g4 hy
        rw [hy]
        refine fun m4 H4 yv l4 r4 d4 => ?_
        cases e
        have hD4 := l4.hid _ _ (l3.hid _ _ hD)
        have hz' := hz y rfl
        refine ⟨accv, (r4.hid _ _ hD4).1, by rw [← ha.length, sizeLine_eq]; omega, ?_⟩
        refine k (m4.hide Dl (.lst (accv ++ [yv]))) _ (accv ++ [yv]) ?_ (r4.hset hD4) (by show upd m4.hid Dl _ Dl = _; exact upd_same) ?_
        · have lx := l0.trans (l3.trans l4)
          refine ⟨lx.F, lx.r, fun a u q => ?_⟩
          show upd m4.hid Dl _ a = some u
          rw [upd_ne (fun z => by rw [z, n0] at q; cases q)]
          exact lx.hid a u q
        · exact dens_md (m := m4) (m' := m4.hide Dl (.lst (accv ++ [yv]))) (fun _ _ z => z) (fun _ _ z => z) (((ha.mono l3).mono l4).append (.cons d4 .nil))
      · cases e
    · rename_i g3 ht
      cases e
      rw [ht]
      refine fun m3 H3 b l3 r3 eb => ?_
      subst eb
      rw [if_neg Bool.false_ne_true]
      exact k m3 H3 accv (l0.trans l3) r3 (l3.hid _ _ hD) (ha.mono l3)
    · cases e
  · cases e
theorem lcPut_ok {o : Option D} {r : Res (List D)} {ys : List D} {g : G} (h : lcPut o r = .ok ys g) : ∃ zs, r = .ok zs g ∧ ys = (consO o zs) := by
  unfold lcPut at h
  split at h
  · exact ⟨ys, h, rfl⟩
  · split at h
    · cases h
      exact ⟨_, rfl, rfl⟩
    · cases h
theorem app_put {acc zs : List D} {o : Option D} : acc ++ (consO o zs) = (addO acc o) ++ zs := by
  cases o with
  | none => rfl
  | some y => simp [addO, consO]
theorem len_put {acc : List D} {o : Option D} : acc.length ≤ (addO acc o).length := by
  cases o with
  | none => exact Nat.le_refl _
  | some y => simp [addO]
theorem lc_s2 {K : PySem.W.Frag} {W : WX} {iv : Ivv} {wi : TI} {gv : Gv} {tt : Tv} {te : Ev} {vs : List Nat} {t : TG} {σ : L2.St} {H : Hp} {Q : VK} {R : List D → G → Res D} (ct : CT K vs t gv)
    {m : Md} {σ' : Sg} {g : G} (sl0 : SlotsL K m σ' σ) (hwi : ∀ R, Post K W σ (ItOk K) (iv σ' g) m R → wi σ H R) (hsm : ∀ (σv : L2.St) (m : Md) ys g, Post K W σv (Den K) (R ys g) m Q → ys.length ≤ 100000)
    (hR : ∀ (σv : L2.St) (m : Md) (g : G) (H : Hp) (Dl : Addr) (ys : List D) (yv : List V), Rel K m g H → m.hid Dl = some (.lst yv) → Dens K m ys yv → ∀ m0, Le m0 m → m0.hid Dl = none → Post K W σv (Den K) (R ys g) m0 Q → Q (.ref Dl) H)
    (p : Post K W σ (Den K) ((iv σ' g).bind fun v g1 => (noEx (lcAll gv tt te (wipeD σ' vs) v g1)).bind R) m Q) :
    tLc wi t (tT K W0 tt) (tE K W0 te) vs σ H Q := by
  obtain ⟨sl, hl⟩ := sl0
  refine hwi _ (Post.bind p fun v g1 m1 H1 J l1 r1 iok p1 => ?_)
  intro Dl hD
  have sw : SlotsL K m1 (wipeD σ' vs) (wipe σ vs) := wipe_s (SlotsL.mono l1 ⟨sl, hl⟩) vs
  have n0 := r1.hfree hD
  cases hq : lcAll gv tt te (wipeD σ' vs) v g1 with
  | no => rw [hq] at p1; exact p1.elim
  | ex e g2 => rw [hq] at p1; exact p1.elim
  | ok yall gF =>
    rw [hq] at p1
    have p1' : Post K W σ (Den K) (R yall gF) m1 Q := p1
    have hlen := hsm σ m1 yall gF p1'
    have l0 : Le m1 (m1.hide Dl (.lst [])) := le_hide n0
    have h0 : (m1.hide Dl (.lst [])).hid Dl = some (.lst []) := by show upd m1.hid Dl _ Dl = _; exact upd_same
    cases v with
    | fix ds =>
      have hq' : lcL gv tt te (wipeD σ' vs) ds g1 = .ok yall gF := hq
      refine ⟨fun i n H => ∃ m2 g2 acc accv rest, Le m1 m2 ∧ Rel K m2 g2 H ∧ m2.hid Dl = some (.lst accv) ∧ Dens K m2 acc accv ∧ lcL gv tt te (wipeD σ' vs) (ds.drop i) g2 = .ok rest gF ∧ acc ++ rest = yall ∧ n = ds.length - i ∧ i ≤ ds.length,
        ⟨ds.length, m1.hide Dl (.lst []), g1, [], [], yall, l0, r1.hide hD, h0, .nil, hq', rfl, rfl, Nat.zero_le _⟩, ?_⟩
      rintro i n H2 ⟨m2, g2, acc, accv, rest, l2, r2, h2, da, e2, e3, e4, e5⟩
      obtain ⟨hstop, hgo⟩ := iok m2 g2 H2 l2.f r2 i
      by_cases hi : i < ds.length
      · rw [List.drop_eq_getElem_cons hi] at e2
        have e2' : (match lcT gv tt te (wipeD σ' vs) ds[i] g2 with | .ok o g1 => lcPut o (lcL gv tt te (wipeD σ' vs) (ds.drop (i + 1)) g1) | _ => .no) = Res.ok rest gF := e2
        cases hT : lcT gv tt te (wipeD σ' vs) ds[i] g2 with
        | no => rw [hT] at e2'; cases e2'
        | ex e g3 => rw [hT] at e2'; cases e2'
        | ok o g3 =>
          rw [hT] at e2'
          obtain ⟨zs, hz1, hz2⟩ := lcPut_ok e2'
          obtain ⟨go, hy⟩ := hgo ds[i] (by simp [hi])
          refine .inr ⟨go, fun H => ∃ m2 g2 acc accv rest, Le m1 m2 ∧ Rel K m2 g2 H ∧ m2.hid Dl = some (.lst accv) ∧ Dens K m2 acc accv ∧ lcL gv tt te (wipeD σ' vs) (ds.drop (i + 1)) g2 = .ok rest gF ∧ acc ++ rest = yall,
            fun H' ⟨m3, g4, ac, av, rs, q1, q2, q3, q4, q5, q6⟩ => ⟨ds.length - (i + 1), by omega, m3, g4, ac, av, rs, q1, q2, q3, q4, q5, q6, rfl, hi⟩, fun x H3 yl => ?_⟩
          obtain ⟨m3, l3, r3, hd⟩ := hy x H3 yl
          refine lcT_s (o := o) (acc := acc) (accv := accv) (wipe_idem σ vs) ct (l2.trans l3) r3 sw (l3.hid _ _ h2) n0 (da.mono l3) (fun y hy' => ?_) hd hT fun m4 H4 av l4 r4 h4 d4 => ⟨m4, g3, addO acc o, av, zs, l4, r4, h4, d4, hz1, ?_⟩
          · rw [hz2, hy'] at e3
            have := congrArg List.length e3
            rw [List.length_append] at this
            simp only [consO, List.length_cons] at this
            omega
          · rw [← app_put, ← hz2]
            exact e3
      · have hi' : i = ds.length := by omega
        subst hi'
        rw [List.drop_length] at e2
        have e2' : Res.ok [] g2 = Res.ok rest gF := e2
        cases e2'
        rw [List.append_nil] at e3
        subst e3
        exact .inl ⟨hstop (Nat.le_refl _), hR σ m2 gF H2 Dl acc accv r2 h2 da m1 l2 n0 p1'⟩
    | dyn j =>
      have hq' : lcD gv tt te (wipeD σ' vs) j 100000 0 g1 = .ok yall gF := hq
      refine ⟨fun i n H => ∃ m2 g2 acc accv rest, Le m1 m2 ∧ Rel K m2 g2 H ∧ m2.hid Dl = some (.lst accv) ∧ Dens K m2 acc accv ∧ lcD gv tt te (wipeD σ' vs) j n i g2 = .ok rest gF ∧ acc ++ rest = yall,
        ⟨100000, m1.hide Dl (.lst []), g1, [], [], yall, l0, r1.hide hD, h0, .nil, hq', rfl⟩, ?_⟩
      rintro i n H2 ⟨m2, g2, acc, accv, rest, l2, r2, h2, da, e2, e3⟩
      cases n with
      | zero => cases e2
      | succ n =>
        unfold lcD at e2
        split at e2
        · rename_i ys hys
          obtain ⟨hstop, hgo⟩ := iok m2 g2 H2 l2.f r2 ys hys i
          split at e2
          · rename_i d hdi
            split at e2
            · rename_i o g3 hT
              obtain ⟨zs, hz1, hz2⟩ := lcPut_ok e2
              obtain ⟨go, hy⟩ := hgo d hdi
              refine .inr ⟨go, fun H => ∃ m2 g2 acc accv rest, Le m1 m2 ∧ Rel K m2 g2 H ∧ m2.hid Dl = some (.lst accv) ∧ Dens K m2 acc accv ∧ lcD gv tt te (wipeD σ' vs) j n (i + 1) g2 = .ok rest gF ∧ acc ++ rest = yall,
                fun H' q => ⟨n, Nat.lt_succ_self n, q⟩, fun x H3 yl => ?_⟩
              obtain ⟨m3, l3, r3, hd⟩ := hy x H3 yl
              refine lcT_s (o := o) (acc := acc) (accv := accv) (wipe_idem σ vs) ct (l2.trans l3) r3 sw (l3.hid _ _ h2) n0 (da.mono l3) (fun y hy' => ?_) hd hT fun m4 H4 av l4 r4 h4 d4 => ⟨m4, g3, addO acc o, av, zs, l4, r4, h4, d4, hz1, ?_⟩
              · rw [hz2, hy'] at e3
                have := congrArg List.length e3
                rw [List.length_append] at this
                simp only [consO, List.length_cons] at this
                omega
              · rw [← app_put, ← hz2]
                exact e3
            · cases e2
          · rename_i hdi
            cases e2
            rw [List.append_nil] at e3
            subst e3
            exact .inl ⟨hstop (List.getElem?_eq_none_iff.mp hdi), hR σ m2 gF H2 Dl acc accv r2 h2 da m1 l2 n0 p1'⟩
        · cases e2
    | dyng f =>
      have hq' : lcG gv tt te (wipeD σ' vs) f 100000 0 g1 = .ok yall gF := hq
      refine ⟨fun i n H => ∃ m2 g2 acc accv rest, Le m1 m2 ∧ Rel K m2 g2 H ∧ m2.hid Dl = some (.lst accv) ∧ Dens K m2 acc accv ∧ lcG gv tt te (wipeD σ' vs) f n i g2 = .ok rest gF ∧ acc ++ rest = yall,
        ⟨100000, m1.hide Dl (.lst []), g1, [], [], yall, l0, r1.hide hD, h0, .nil, hq', rfl⟩, ?_⟩
      rintro i n H2 ⟨m2, g2, acc, accv, rest, l2, r2, h2, da, e2, e3⟩
      cases n with
      | zero => cases e2
      | succ n =>
        unfold lcG at e2
        split at e2
        · rename_i ys hys
          obtain ⟨hstop, hgo⟩ := iok m2 g2 H2 l2.f r2 ys hys i
          split at e2
          · rename_i d hdi
            split at e2
            · rename_i o g3 hT
              obtain ⟨zs, hz1, hz2⟩ := lcPut_ok e2
              obtain ⟨go, hy⟩ := hgo d hdi
              refine .inr ⟨go, fun H => ∃ m2 g2 acc accv rest, Le m1 m2 ∧ Rel K m2 g2 H ∧ m2.hid Dl = some (.lst accv) ∧ Dens K m2 acc accv ∧ lcG gv tt te (wipeD σ' vs) f n (i + 1) g2 = .ok rest gF ∧ acc ++ rest = yall,
                fun H' q => ⟨n, Nat.lt_succ_self n, q⟩, fun x H3 yl => ?_⟩
              obtain ⟨m3, l3, r3, hd⟩ := hy x H3 yl
              refine lcT_s (o := o) (acc := acc) (accv := accv) (wipe_idem σ vs) ct (l2.trans l3) r3 sw (l3.hid _ _ h2) n0 (da.mono l3) (fun y hy' => ?_) hd hT fun m4 H4 av l4 r4 h4 d4 => ⟨m4, g3, addO acc o, av, zs, l4, r4, h4, d4, hz1, ?_⟩
              · rw [hz2, hy'] at e3
                have := congrArg List.length e3
                rw [List.length_append] at this
                simp only [consO, List.length_cons] at this
                omega
              · rw [← app_put, ← hz2]
                exact e3
            · cases e2
          · rename_i hdi
            cases e2
            rw [List.append_nil] at e3
            subst e3
            exact .inl ⟨hstop (List.getElem?_eq_none_iff.mp hdi), hR σ m2 gF H2 Dl acc accv r2 h2 da m1 l2 n0 p1'⟩
        · cases e2
    | dynf j f =>
      have hq' : lcF gv tt te (wipeD σ' vs) j f 100000 0 g1 = .ok yall gF := hq
      refine ⟨fun i n H => ∃ m2 g2 acc accv rest, Le m1 m2 ∧ Rel K m2 g2 H ∧ m2.hid Dl = some (.lst accv) ∧ Dens K m2 acc accv ∧ lcF gv tt te (wipeD σ' vs) j f n i g2 = .ok rest gF ∧ acc ++ rest = yall,
        ⟨100000, m1.hide Dl (.lst []), g1, [], [], yall, l0, r1.hide hD, h0, .nil, hq', rfl⟩, ?_⟩
      rintro i n H2 ⟨m2, g2, acc, accv, rest, l2, r2, h2, da, e2, e3⟩
      cases n with
      | zero => cases e2
      | succ n =>
        unfold lcF at e2
        split at e2
        · rename_i ys hys
          obtain ⟨hstop, hgo⟩ := iok m2 g2 H2 l2.f r2 ys hys i
          split at e2
          · rename_i d hdi
            split at e2
            · rename_i o g3 hT
              obtain ⟨zs, hz1, hz2⟩ := lcPut_ok e2
              obtain ⟨go, hy⟩ := hgo d hdi
              refine .inr ⟨go, fun H => ∃ m2 g2 acc accv rest, Le m1 m2 ∧ Rel K m2 g2 H ∧ m2.hid Dl = some (.lst accv) ∧ Dens K m2 acc accv ∧ lcF gv tt te (wipeD σ' vs) j f n (i + 1) g2 = .ok rest gF ∧ acc ++ rest = yall,
                fun H' q => ⟨n, Nat.lt_succ_self n, q⟩, fun x H3 yl => ?_⟩
              obtain ⟨m3, l3, r3, hd⟩ := hy x H3 yl
              refine lcT_s (o := o) (acc := acc) (accv := accv) (wipe_idem σ vs) ct (l2.trans l3) r3 sw (l3.hid _ _ h2) n0 (da.mono l3) (fun y hy' => ?_) hd hT fun m4 H4 av l4 r4 h4 d4 => ⟨m4, g3, addO acc o, av, zs, l4, r4, h4, d4, hz1, ?_⟩
              · rw [hz2, hy'] at e3
                have := congrArg List.length e3
                rw [List.length_append] at this
                simp only [consO, List.length_cons] at this
                omega
              · rw [← app_put, ← hz2]
                exact e3
            · cases e2
          · rename_i hdi
            cases e2
            rw [List.append_nil] at e3
            subst e3
            exact .inl ⟨hstop (List.getElem?_eq_none_iff.mp hdi), hR σ m2 gF H2 Dl acc accv r2 h2 da m1 l2 n0 p1'⟩
        · cases e2
theorem lc_s1 {K : PySem.W.Frag} {W : WX} {iv : Ivv} {wi : TI} {gv : Gv} {tt : Tv} {te : Ev} {vs : List Nat} {t : TG} {σ : L2.St} {H : Hp} {Q : VK} {R : List D → G → Res D} (ct : CT K vs t gv)
    (hwi : ∀ R, tIt K W iv σ H R → wi σ H R) (hsm : ∀ (σv : L2.St) (m : Md) ys g, Post K W σv (Den K) (R ys g) m Q → ys.length ≤ 100000)
    (hR : ∀ (σv : L2.St) (m : Md) (g : G) (H : Hp) (Dl : Addr) (ys : List D) (yv : List V), Rel K m g H → m.hid Dl = some (.lst yv) → Dens K m ys yv → ∀ m0, Le m0 m → m0.hid Dl = none → Post K W σv (Den K) (R ys g) m0 Q → Q (.ref Dl) H)
    (h : tE K W (fun σ g => (iv σ g).bind fun v g1 => (noEx (lcAll gv tt te (wipeD σ vs) v g1)).bind R) σ H Q) :
    tLc wi t (tT K W0 tt) (tE K W0 te) vs σ H Q := by
  obtain ⟨m, σ', g, rl, sl, hl, p⟩ := h
  exact lc_s2 ct ⟨sl, hl⟩ (fun R q => hwi R ⟨m, σ', g, rl, ⟨sl, hl⟩, q⟩) hsm hR p
theorem lc_s {K : PySem.W.Frag} {W : WX} {iv : Ivv} {wi : TI} {gv : Gv} {tt : Tv} {te : Ev} {vs : List Nat} {t : TG} {σ : L2.St} {H : Hp} {Q : VK} {R : List D → G → Res D} (ct : CT K vs t gv)
    (hwi : ∀ σv H R, tIt K W iv σv H R → wi σv H R) (hsm : ∀ (σv : L2.St) (m : Md) ys g, Post K W σv (Den K) (R ys g) m Q → ys.length ≤ 100000)
    (hR : ∀ (σv : L2.St) (m : Md) (g : G) (H : Hp) (Dl : Addr) (ys : List D) (yv : List V), Rel K m g H → m.hid Dl = some (.lst yv) → Dens K m ys yv → ∀ m0, Le m0 m → m0.hid Dl = none → Post K W σv (Den K) (R ys g) m0 Q → Q (.ref Dl) H)
    (h : tE K W (fun σ g => (iv σ g).bind fun v g1 => (noEx (lcAll gv tt te (wipeD σ vs) v g1)).bind R) σ H Q) :
    tLc wi t (tT K W0 tt) (tE K W0 te) vs σ H Q := lc_s1 ct (hwi σ H) hsm hR h
section
variable {X : Cx} {W : WX} {elt tg iter : Expr} {ifs : List Expr} {scope : Scope} {own : List (Str × Nat)} {pos : Pos} {iv : Ivv} {t : TG} {gv : Gv} {tt : Tv} {te : Ev}
theorem okIf_len {K : PySem.W.Frag} {σv : L2.St} {m : Md} {ys : List D} {d : D} {g : G} {Q : VK} (p : Post K W σv (Den K) (okIf (small ys) d g) m Q) : ys.length ≤ 100000 := of_decide_eq_true (okIf_post p).1
theorem x_lc (hc : X.calm = true) (hN : X.N.Nodup) (hi : PI X tg iter (tIt X.K W iv)) (ok : BlkOk X.N X.env.scope scope own) (ct : CT X.K (own.map (·.2)) t gv)
    (hg : ∀ (s : Shared) (H : Hp) (C : Addr) (cl : List (Str × Addr)) (fp : List Addr), PG (X.blk s H scope (compEnvC scope cl C X.env) fp) tg t) (ht : ∀ (s : Shared) (H : Hp) (C : Addr) (cl : List (Str × Addr)) (fp : List Addr), PTs (X.blk s H scope (compEnvC scope cl C X.env) fp) ifs (tT X.K W0 tt))
    (he : ∀ (s : Shared) (H : Hp) (C : Addr) (cl : List (Str × Addr)) (fp : List Addr), PE (X.blk s H scope (compEnvC scope cl C X.env) fp) elt (tE X.K W0 te)) (hs : ∀ x, foldedSetIterable iter X.env x = pure x := by intro _; rfl) :
    PE X (.ListComp elt [⟨tg, iter, ifs, 0⟩] scope pos) (tE X.K W (eLc iv gv tt te (own.map (·.2)))) := PE.imp (pe_lc hc hN hi ok hg ht he hs) fun σ H Q h => by
  refine lc_s ct (fun _ _ _ q => q) (fun _ _ _ _ p => okIf_len p) (fun σv m g H Dl ys yv rl hh d m0 l0 n0 p => ?_) h
  obtain ⟨c, p⟩ := okIf_post p
  have hF := (rl.hid _ _ hh).2.1
  refine p _ _ _ ?_ (rl.freeze hh) (.lst (by show upd m.F Dl _ Dl = _; exact upd_same) (dens_md (m := m) (m' := ⟨upd m.F Dl (.lst yv), m.r, m.unhide Dl none⟩) (fun a o e => by show upd m.F Dl _ a = _; rw [upd_ne (ne_of_none e hF)]; exact e) (fun _ _ z => z) d))
  refine ⟨fun a o e => ?_, l0.r, fun a o e => ?_⟩
  · show upd m.F Dl _ a = some o
    rw [upd_ne (ne_of_none (l0.F a o e) hF)]
    exact l0.F a o e
  · show (if a = Dl then none else m.hid a) = some o
    rw [if_neg (fun z => by rw [z, n0] at e; cases e)]
    exact l0.hid a o e
theorem x_lcW {wi : TI} (hc : X.calm = true) (hN : X.N.Nodup) (hi : PI X tg iter wi) (ok : BlkOk X.N X.env.scope scope own) (ct : CT X.K (own.map (·.2)) t gv)
    (hg : ∀ (s : Shared) (H : Hp) (C : Addr) (cl : List (Str × Addr)) (fp : List Addr), PG (X.blk s H scope (compEnvC scope cl C X.env) fp) tg t) (ht : ∀ (s : Shared) (H : Hp) (C : Addr) (cl : List (Str × Addr)) (fp : List Addr), PTs (X.blk s H scope (compEnvC scope cl C X.env) fp) ifs (tT X.K W0 tt))
    (he : ∀ (s : Shared) (H : Hp) (C : Addr) (cl : List (Str × Addr)) (fp : List Addr), PE (X.blk s H scope (compEnvC scope cl C X.env) fp) elt (tE X.K W0 te)) (hs : ∀ x, foldedSetIterable iter X.env x = pure x := by intro _; rfl) :
    PE X (.ListComp elt [⟨tg, iter, ifs, 0⟩] scope pos) (fun σ H Q => tE X.K W (eLc iv gv tt te (own.map (·.2))) σ H Q ∧ ∀ R, tIt X.K W iv σ H R → wi σ H R) := PE.imp (pe_lc hc hN hi ok hg ht he hs) fun σ H Q hh => by
  obtain ⟨h, hwi⟩ := hh
  refine lc_s1 ct hwi (fun _ _ _ _ p => okIf_len p) (fun σv m g H Dl ys yv rl hh d m0 l0 n0 p => ?_) h
  obtain ⟨c, p⟩ := okIf_post p
  have hF := (rl.hid _ _ hh).2.1
  refine p _ _ _ ?_ (rl.freeze hh) (.lst (by show upd m.F Dl _ Dl = _; exact upd_same) (dens_md (m := m) (m' := ⟨upd m.F Dl (.lst yv), m.r, m.unhide Dl none⟩) (fun a o e => by show upd m.F Dl _ a = _; rw [upd_ne (ne_of_none e hF)]; exact e) (fun _ _ z => z) d))
  refine ⟨fun a o e => ?_, l0.r, fun a o e => ?_⟩
  · show upd m.F Dl _ a = some o
    rw [upd_ne (ne_of_none (l0.F a o e) hF)]
    exact l0.F a o e
  · show (if a = Dl then none else m.hid a) = some o
    rw [if_neg (fun z => by rw [z, n0] at e; cases e)]
    exact l0.hid a o e
theorem x_lcV {wi : TI} (hc : X.calm = true) (hN : X.N.Nodup) (hi : PI X tg iter wi) (ok : BlkOk X.N X.env.scope scope own) (ct : CT X.K (own.map (·.2)) t gv)
    (hg : ∀ (s : Shared) (H : Hp) (C : Addr) (cl : List (Str × Addr)) (fp : List Addr), PG (X.blk s H scope (compEnvC scope cl C X.env) fp) tg t) (ht : ∀ (s : Shared) (H : Hp) (C : Addr) (cl : List (Str × Addr)) (fp : List Addr), PTs (X.blk s H scope (compEnvC scope cl C X.env) fp) ifs (tT X.K W0 tt))
    (he : ∀ (s : Shared) (H : Hp) (C : Addr) (cl : List (Str × Addr)) (fp : List Addr), PE (X.blk s H scope (compEnvC scope cl C X.env) fp) elt (tE X.K W0 te)) (hs : ∀ x, foldedSetIterable iter X.env x = pure x := by intro _; rfl) :
    PE X (.ListComp elt [⟨tg, iter, ifs, 0⟩] scope pos) (fun σ H Q => ∃ m σ' g, SlotsL X.K m σ' σ ∧ Post X.K W σ (Den X.K) (eLc iv gv tt te (own.map (·.2)) σ' g) m Q ∧ ∀ R, Post X.K W σ (ItOk X.K) (iv σ' g) m R → wi σ H R) := PE.imp (pe_lc hc hN hi ok hg ht he hs) fun σ H Q hh => by
  obtain ⟨m0, σ0, g0, sl0, h, hwi⟩ := hh
  refine lc_s2 ct sl0 hwi (fun _ _ _ _ p => okIf_len p) (fun σv m g H Dl ys yv rl hh d m0 l0 n0 p => ?_) h
  obtain ⟨c, p⟩ := okIf_post p
  have hF := (rl.hid _ _ hh).2.1
  refine p _ _ _ ?_ (rl.freeze hh) (.lst (by show upd m.F Dl _ Dl = _; exact upd_same) (dens_md (m := m) (m' := ⟨upd m.F Dl (.lst yv), m.r, m.unhide Dl none⟩) (fun a o e => by show upd m.F Dl _ a = _; rw [upd_ne (ne_of_none e hF)]; exact e) (fun _ _ z => z) d))
  refine ⟨fun a o e => ?_, l0.r, fun a o e => ?_⟩
  · show upd m.F Dl _ a = some o
    rw [upd_ne (ne_of_none (l0.F a o e) hF)]
    exact l0.F a o e
  · show (if a = Dl then none else m.hid a) = some o
    rw [if_neg (fun z => by rw [z, n0] at e; cases e)]
    exact l0.hid a o e
theorem x_lcM (hc : X.calm = true) (hN : X.N.Nodup) (hi : PI X tg iter (tIt X.K W iv)) (ok : BlkOk X.N X.env.scope scope own) (ct : CT X.K (own.map (·.2)) t gv)
    (hg : ∀ (s : Shared) (H : Hp) (C : Addr) (cl : List (Str × Addr)) (fp : List Addr), PG (X.blk s H scope (compEnvC scope cl C X.env) fp) tg t) (ht : ∀ (s : Shared) (H : Hp) (C : Addr) (cl : List (Str × Addr)) (fp : List Addr), PTs (X.blk s H scope (compEnvC scope cl C X.env) fp) ifs (tT X.K W0 tt))
    (he : ∀ (s : Shared) (H : Hp) (C : Addr) (cl : List (Str × Addr)) (fp : List Addr), PE (X.blk s H scope (compEnvC scope cl C X.env) fp) elt (tE X.K W0 te)) (hs : ∀ x, foldedSetIterable iter X.env x = pure x := by intro _; rfl) :
    PE X (.ListComp elt [⟨tg, iter, ifs, 0⟩] scope pos) (tE X.K W (eLcM iv gv tt te (own.map (·.2)))) := PE.imp (pe_lc hc hN hi ok hg ht he hs) fun σ H Q h => by
  refine lc_s ct (fun _ _ _ q => q) (fun _ _ _ _ p => okIf_len p) (fun σv m g H Dl ys yv rl hh d m0 l0 n0 p => ?_) h
  obtain ⟨c, p⟩ := okIf_post p
  refine p _ _ _ ?_ (rl.tocell hh d) (.ref (by show (if g.length = g.length then some Dl else m.r g.length) = some Dl; rw [if_pos rfl]))
  refine ⟨l0.F, fun i a e => ?_, fun a o e => ?_⟩
  · show (if i = g.length then some Dl else m.r i) = some a
    have := rl.dom i a (l0.r i a e)
    rw [if_neg (by omega)]
    exact l0.r i a e
  · show (if a = Dl then none else m.hid a) = some o
    rw [if_neg (fun z => by rw [z, n0] at e; cases e)]
    exact l0.hid a o e
/-- the clause's tests -/
def tvYes : Tv := fun _ g => .ok true g
theorem ts_nil : PTs X [] (tT X.K W tvYes) := ⟨fun pins s σ H Q I h => pts_nil.run pins s σ H Q I (by
  obtain ⟨m, σ', g, rl, sl, hl, p⟩ := h
  exact fin_ok rl rfl p)⟩
theorem ts_one {c : Expr} {tc : Tv} (h : PT X c (tT X.K W tc)) : PTs X [c] (tT X.K W tc) := pts_one h
/-- name = [..] -/
theorem s_setLc {i : Nat} {y : Str} {py spos : Pos} (hc : X.calm = true) (hN : X.N.Nodup) (hy : X.N[i]? = some y) (hyl : X.env.scope.names.lookup y = some .local)
    (hsw : swapsWith (.ListComp elt [⟨tg, iter, ifs, 0⟩] scope pos) (some (.Name y py)) spos.line X.env = pure true) (hi : PI X tg iter (tIt X.K W iv)) (ok : BlkOk X.N X.env.scope scope own) (ct : CT X.K (own.map (·.2)) t gv)
    (hg : ∀ (s : Shared) (H : Hp) (C : Addr) (cl : List (Str × Addr)) (fp : List Addr), PG (X.blk s H scope (compEnvC scope cl C X.env) fp) tg t) (ht : ∀ (s : Shared) (H : Hp) (C : Addr) (cl : List (Str × Addr)) (fp : List Addr), PTs (X.blk s H scope (compEnvC scope cl C X.env) fp) ifs (tT X.K W0 tt))
    (he : ∀ (s : Shared) (H : Hp) (C : Addr) (cl : List (Str × Addr)) (fp : List Addr), PE (X.blk s H scope (compEnvC scope cl C X.env) fp) elt (tE X.K W0 te)) (hs : ∀ x, foldedSetIterable iter X.env x = pure x := by intro _; rfl) :
    PS X (.Assign [.Name y py] (.ListComp elt [⟨tg, iter, ifs, 0⟩] scope pos) spos) (tS X.K W (sSet i (eLc iv gv tt te (own.map (·.2))))) := PS.imp (ps_setLc hc hN hy hyl hsw hi ok hg ht he hs) fun D' σ H h => by
  obtain ⟨m, σ', g, rl, sl, p⟩ := h
  have h' : tE X.K W (eLc iv gv tt te (own.map (·.2))) σ H (fun x H1 => D'.nx (σ.set i (some x)) H1) := ⟨m, σ', g, rl, sl.1, sl.2, sBind_s sl p fun d g1 m1 H1 v l1 r1 d1 p1 => p1 m1 H1 _ (Le.refl m1) r1 ((sl.mono l1).set d1)⟩
  refine lc_s ct (fun _ _ _ q => q) (fun _ _ _ _ p => okIf_len p) (fun σv m g H Dl ys yv rl hh d m0 l0 n0 p => ?_) h'
  obtain ⟨c, p⟩ := okIf_post p
  have hF := (rl.hid _ _ hh).2.1
  refine p _ _ _ ?_ (rl.freeze hh) (.lst (by show upd m.F Dl _ Dl = _; exact upd_same) (dens_md (m := m) (m' := ⟨upd m.F Dl (.lst yv), m.r, m.unhide Dl none⟩) (fun a o e => by show upd m.F Dl _ a = _; rw [upd_ne (ne_of_none e hF)]; exact e) (fun _ _ z => z) d))
  refine ⟨fun a o e => ?_, l0.r, fun a o e => ?_⟩
  · show upd m.F Dl _ a = some o
    rw [upd_ne (ne_of_none (l0.F a o e) hF)]
    exact l0.F a o e
  · show (if a = Dl then none else m.hid a) = some o
    rw [if_neg (fun z => by rw [z, n0] at e; cases e)]
    exact l0.hid a o e
end
end AW
namespace AW
open PySem PySem.Spec L2
/-! ### the end of a def: what it made is frozen, its cells are gone -/
mutual
def D.cln (n : Nat) : D → Bool
  | .ref i => decide (i < n)
  | .tup xs => D.clns n xs
  | .lst xs => D.clns n xs
  | .seq xs => D.clns n xs
  | .dct _ xs => D.clns n xs
  | .dtt _ xs => D.clns n xs
  | .ins _ xs => D.clns n xs
  | _ => true
def D.clns (n : Nat) : List D → Bool
  | [] => true
  | x :: xs => D.cln n x && D.clns n xs
end
def clnF (n : Nat) : List (Option D) → Bool
  | [] => true
  | some d :: r => D.cln n d && clnF n r
  | none :: r => clnF n r
def Cell.cln (n : Nat) : Cell → Bool
  | .lst xs => D.clns n xs
  | .dct _ xs => D.clns n xs
  | .dtt _ xs => D.clns n xs
  | .ins _ j fs => decide (j < n) && clnF n fs
  | .new _ j => decide (j < n)
  | .own => true
  | .xd => true
  | .tab _ _ => true
  | .tbg _ => true
def allSome : List (Option D) → Option (List D)
  | [] => some []
  | some d :: r => match allSome r with
    | some ds => some (d :: ds)
    | none => none
  | none :: _ => none
def omap {α β : Type} (f : α → Option β) : List α → Option (List β)
  | [] => some []
  | x :: xs => match f x with
    | some y => match omap f xs with
      | some ys => some (y :: ys)
      | none => none
    | none => none
def frz (g : G) (n : Nat) : Nat → D → Option D
  | 0, _ => none
  | k + 1, d => match d with
    | .ref i => if i < n then some (.ref i) else match g[i]? with
      | some (.lst xs) => match omap (frz g n k) xs with
        | some ys => some (.lst ys)
        | none => none
      | some (.dct ks xs) => match omap (frz g n k) xs with
        | some ys => some (.dct ks ys)
        | none => none
      | some (.dtt ks xs) => match omap (frz g n k) xs with
        | some ys => some (.dtt ks ys)
        | none => none
      | some (.ins c j fs) => if j < n then none else match g[j]? with
        | some .xd => match allSome fs with
          | some xs => match omap (frz g n k) xs with
            | some ys => some (.ins c ys)
            | none => none
          | none => none
        | _ => none
      | _ => none
    | .tup xs => match omap (frz g n k) xs with
      | some ys => some (.tup ys)
      | none => none
    | .lst xs => match omap (frz g n k) xs with
      | some ys => some (.lst ys)
      | none => none
    | .seq xs => match omap (frz g n k) xs with
      | some ys => some (.seq ys)
      | none => none
    | .dct ks xs => match omap (frz g n k) xs with
      | some ys => some (.dct ks ys)
      | none => none
    | .dtt ks xs => match omap (frz g n k) xs with
      | some ys => some (.dtt ks ys)
      | none => none
    | .ins c xs => match omap (frz g n k) xs with
      | some ys => some (.ins c ys)
      | none => none
    | d => some d
/-- only the first n cells are left -/
def Md.cut (m : Md) (n : Nat) (H : Hp) (g : G) : Md :=
  ⟨open Classical in fun a => if (∃ i, i < n ∧ m.r i = some a) ∨ (m.hid a ≠ none) then none else H a, fun i => if i < n then m.r i else none, m.hid⟩
section
variable {K : PySem.W.Frag} {m : Md} {g : G} {H : Hp} {n : Nat}
theorem cut_F (r : Rel K m g H) {a : Addr} {o : HO} (h : m.F a = some o) : (m.cut n H g).F a = some o := by
  show (if (∃ i, i < n ∧ m.r i = some a) ∨ (m.hid a ≠ none) then none else H a) = some o
  rw [if_neg]
  · exact r.ex a o h
  · rintro (⟨i, _, hi⟩ | hh)
    · have hl := r.dom i a hi
      obtain ⟨b, h1, h2, _⟩ := r.cell i g[i] (by simp [hl])
      rw [hi] at h1
      cases h1
      rw [h] at h2
      cases h2
    · cases q : m.hid a with
      | none => exact hh q
      | some u => rw [(r.hid a u q).2.1] at h; cases h
theorem cut_cell (r : Rel K m g H) {i : Nat} {a : Addr} (hi : m.r i = some a) (hn : ¬ i < n) : (m.cut n H g).F a = H a := by
  show (if (∃ i, i < n ∧ m.r i = some a) ∨ (m.hid a ≠ none) then none else H a) = H a
  rw [if_neg]
  rintro (⟨j, hj, hj2⟩ | hh)
  · exact hn (r.inj i j a hi hj2 ▸ hj)
  · cases q : m.hid a with
    | none => exact hh q
    | some u => exact (r.hid a u q).2.2 i hi
mutual
theorem cln_s (r : Rel K m g H) : ∀ {d : D} {v : V}, Den K m d v → D.cln n d = true → Den K (m.cut n H g) d v
  | _, _, .non, _ => .non
  | _, _, .bl, _ => .bl
  | _, _, .int, _ => .int
  | _, _, .str, _ => .str
  | _, _, .tup h ds, e => .tup (sqT_le (fun _ _ => cut_F r) h) (clns_s r ds (by rw [D.cln] at e; exact e))
  | _, _, .lst h ds, e => .lst (cut_F r h) (clns_s r ds (by rw [D.cln] at e; exact e))
  | _, _, .seq h ds, e => .seq (sqL_le (fun _ _ => cut_F r) h) (clns_s r ds (by rw [D.cln] at e; exact e))
  | _, _, .dct h hl ds, e => .dct (rd_le (fun _ _ => cut_F r) h) hl (clns_s r ds (by rw [D.cln] at e; exact e))
  | _, _, .dtt h hl ds, e => .dtt (cut_F r h) hl (clns_s r ds (by rw [D.cln] at e; exact e))
  | _, _, .ins h hd ds, e => .ins (cut_F r h) (cut_F r hd) (clns_s r ds (by rw [D.cln] at e; exact e))
  | _, _, .glo, _ => .glo
  | _, _, .ref h, e => by
    rw [D.cln] at e
    refine .ref ?_
    show (if _ < n then m.r _ else none) = some _
    rw [if_pos (of_decide_eq_true e)]
    exact h
  | _, _, .val, _ => .val
theorem clns_s (r : Rel K m g H) : ∀ {ds : List D} {vs : List V}, Dens K m ds vs → D.clns n ds = true → Dens K (m.cut n H g) ds vs
  | _, _, .nil, _ => .nil
  | _, _, .cons h t, e => by
    rw [D.clns, Bool.and_eq_true] at e
    exact .cons (cln_s r h e.1) (clns_s r t e.2)
end
theorem omap_s {m' : Md} {f : D → Option D} (hf : ∀ d v e, Den K m d v → f d = some e → Den K m' e v) : ∀ {ds : List D} {vs : List V} {es : List D}, Dens K m ds vs → omap f ds = some es → Dens K m' es vs
  | [], _, _, h, e => by
    cases e
    rw [h.nilV]
    exact .nil
  | d :: ds, _, _, h, e => by
    obtain ⟨v, ws, rfl, h1, h2⟩ := h.consV
    unfold omap at e
    split at e
    · rename_i y hy
      split at e
      · rename_i ys hys
        cases e
        exact .cons (hf _ _ _ h1 hy) (omap_s hf h2 hys)
      · cases e
    · cases e
theorem allSome_s : ∀ {fs : List (Option D)} {ws : List (Option V)} {xs : List D}, FldOk K m fs ws → ws.length ≤ fs.length → allSome fs = some xs → ∃ vs : List V, ws = vs.map some ∧ Dens K m xs vs
  | [], ws, xs, _, hl, e => by
    cases e
    have : ws = [] := List.eq_nil_of_length_eq_zero (by simpa using hl)
    exact ⟨[], by rw [this]; rfl, .nil⟩
  | none :: r, ws, xs, _, _, e => by cases e
  | some d :: r, ws, xs, h, hl, e => by
    unfold allSome at e
    split at e
    · rename_i ds hds
      cases e
      obtain ⟨v, h1, h2⟩ := h 0 d rfl
      cases ws with
      | nil => cases h1
      | cons w ws =>
        have hw : w = some v := Option.some.inj h1
        subst hw
        obtain ⟨vs, e1, e2⟩ := allSome_s (fs := r) (ws := ws) (fun i d q => h (i + 1) d q) (by simpa using hl) hds
        exact ⟨v :: vs, by rw [e1]; rfl, .cons h2 e2⟩
    · cases e
theorem clnF_s (r : Rel K m g H) : ∀ {fs : List (Option D)} {ws : List (Option V)}, FldOk K m fs ws → clnF n fs = true → FldOk K (m.cut n H g) fs ws
  | [], ws, _, _ => fun i d q => by simp at q
  | none :: fs, ws, h, e => fun i d q => by
    cases i with
    | zero => cases q
    | succ i =>
      obtain ⟨v, h1, h2⟩ := clnF_s r (fs := fs) (ws := ws.tail) (fun i d q => by
        obtain ⟨v, q1, q2⟩ := h (i + 1) d q
        exact ⟨v, by rw [List.getElem?_tail]; exact q1, q2⟩) e i d (by simpa using q)
      exact ⟨v, by rw [List.getElem?_tail] at h1; exact h1, h2⟩
  | some x :: fs, ws, h, e => fun i d q => by
    unfold clnF at e
    rw [Bool.and_eq_true] at e
    cases i with
    | zero =>
      have q' : x = d := Option.some.inj (Option.some.inj q)
      subst q'
      obtain ⟨v, q1, q2⟩ := h 0 x rfl
      exact ⟨v, q1, cln_s r q2 e.1⟩
    | succ i =>
      obtain ⟨v, h1, h2⟩ := clnF_s r (fs := fs) (ws := ws.tail) (fun i d q => by
        obtain ⟨v, q1, q2⟩ := h (i + 1) d q
        exact ⟨v, by rw [List.getElem?_tail]; exact q1, q2⟩) e.2 i d (by simpa using q)
      exact ⟨v, by rw [List.getElem?_tail] at h1; exact h1, h2⟩
theorem frz_s (r : Rel K m g H) : ∀ (k : Nat) (d : D) (v : V) (e : D), Den K m d v → frz g n k d = some e → Den K (m.cut n H g) e v
  | 0, _, _, _, _, e => by cases e
  | k + 1, d, v, e, h, q => by
    unfold frz at q
    cases h with
    | ref h1 =>
      rename_i i a
      simp only at q
      split at q
      · rename_i hi
        cases q
        refine .ref ?_
        show (if i < n then m.r i else none) = some a
        rw [if_pos hi]
        exact h1
      · rename_i hi
        have keep : ∀ {u : HO}, H a = some u → (m.cut n H g).F a = some u := fun {u} e => by rw [cut_cell r h1 hi]; exact e
        split at q
        · rename_i xs hx
          obtain ⟨b, e1, _, o, e2, vs, e3, e4⟩ := r.cell _ _ hx
          rw [h1] at e1
          cases e1
          subst e3
          split at q
          · rename_i ys hy
            cases q
            exact .lst (keep e2) (omap_s (fun d v e => frz_s r k d v e) e4 hy)
          · cases q
        · rename_i ks xs hx
          obtain ⟨b, e1, _, o, e2, vs, e3, el, e4⟩ := r.cell _ _ hx
          rw [h1] at e1
          cases e1
          subst e3
          split at q
          · rename_i ys hy
            cases q
            exact .dct (.inl (keep e2)) el (omap_s (fun d v e => frz_s r k d v e) e4 hy)
          · cases q
        · rename_i ks xs hx
          obtain ⟨b, e1, _, o, e2, vs, e3, el, e4⟩ := r.cell _ _ hx
          rw [h1] at e1
          cases e1
          subst e3
          split at q
          · rename_i ys hy
            cases q
            exact .dtt (keep e2) el (omap_s (fun d v e => frz_s r k d v e) e4 hy)
          · cases q
        · rename_i c j fs hx
          obtain ⟨b, e1, _, o, e2, dx, ws, e3, ed, el, e4⟩ := r.cell _ _ hx
          rw [h1] at e1
          cases e1
          subst e3
          split at q
          · cases q
          · rename_i hj
            split at q
            · rename_i hxd
              obtain ⟨b2, f1, _, o2, f2, f3⟩ := r.cell _ _ hxd
              rw [ed] at f1
              cases f1
              have f3' : o2 = .xd [] := f3
              subst f3'
              split at q
              · rename_i xs hxs
                obtain ⟨vs, rfl, e5⟩ := allSome_s e4 el hxs
                split at q
                · rename_i ys hy
                  cases q
                  exact .ins (keep e2) (by rw [cut_cell r ed hj]; exact f2) (omap_s (fun d v e => frz_s r k d v e) e5 hy)
                · cases q
              · cases q
            · cases q
        · cases q
    | tup h1 h2 =>
      simp only at q
      split at q
      · rename_i ys hy
        cases q
        exact .tup (sqT_le (fun _ _ => cut_F r) h1) (omap_s (fun d v e => frz_s r k d v e) h2 hy)
      · cases q
    | lst h1 h2 =>
      simp only at q
      split at q
      · rename_i ys hy
        cases q
        exact .lst (cut_F r h1) (omap_s (fun d v e => frz_s r k d v e) h2 hy)
      · cases q
    | seq h1 h2 =>
      simp only at q
      split at q
      · rename_i ys hy
        cases q
        exact .seq (sqL_le (fun _ _ => cut_F r) h1) (omap_s (fun d v e => frz_s r k d v e) h2 hy)
      · cases q
    | dct h1 hl h2 =>
      simp only at q
      split at q
      · rename_i ys hy
        cases q
        exact .dct (rd_le (fun _ _ => cut_F r) h1) hl (omap_s (fun d v e => frz_s r k d v e) h2 hy)
      · cases q
    | dtt h1 hl h2 =>
      simp only at q
      split at q
      · rename_i ys hy
        cases q
        exact .dtt (cut_F r h1) hl (omap_s (fun d v e => frz_s r k d v e) h2 hy)
      · cases q
    | ins h1 hd h2 =>
      simp only at q
      split at q
      · rename_i ys hy
        cases q
        exact .ins (cut_F r h1) (cut_F r hd) (omap_s (fun d v e => frz_s r k d v e) h2 hy)
      · cases q
    | glo => cases q; exact .glo
    | non => cases q; exact .non
    | bl => cases q; exact .bl
    | int => cases q; exact .int
    | str => cases q; exact .str
    | val => cases q; exact .val
theorem cut_rel (r : Rel K m g H) (hn : n ≤ g.length) (hc : (g.take n).all (Cell.cln n) = true) : Rel K (m.cut n H g) (g.take n) H where
  ex := fun a o e => by
    have e' : (if (∃ i, i < n ∧ m.r i = some a) ∨ (m.hid a ≠ none) then none else H a) = some o := e
    split at e'
    · cases e'
    · exact e'
  cell := fun i c hi => by
    rw [List.getElem?_take] at hi
    split at hi
    · rename_i hin
      obtain ⟨a, h1, h2, o, h3, h4⟩ := r.cell i c hi
      refine ⟨a, ?_, ?_, o, h3, ?_⟩
      · show (if i < n then m.r i else none) = some a
        rw [if_pos hin]
        exact h1
      · show (if (∃ i, i < n ∧ m.r i = some a) ∨ (m.hid a ≠ none) then none else H a) = none
        rw [if_pos (.inl ⟨i, hin, h1⟩)]
      · have hcl : Cell.cln n c = true := List.all_eq_true.mp hc c (List.mem_of_getElem? (i := i) (by rw [List.getElem?_take, if_pos hin]; exact hi))
        cases c with
        | lst xs =>
          obtain ⟨vs, e1, e2⟩ := h4
          exact ⟨vs, e1, clns_s r e2 hcl⟩
        | dct ks xs =>
          obtain ⟨vs, e1, el, e2⟩ := h4
          exact ⟨vs, e1, el, clns_s r e2 hcl⟩
        | dtt ks xs =>
          obtain ⟨vs, e1, el, e2⟩ := h4
          exact ⟨vs, e1, el, clns_s r e2 hcl⟩
        | own => exact h4
        | xd => exact h4
        | new c j =>
          obtain ⟨dx, e1, ed⟩ := h4
          refine ⟨dx, e1, ?_⟩
          show (if j < n then m.r j else none) = some dx
          rw [if_pos (of_decide_eq_true hcl)]
          exact ed
        | ins c j fs =>
          obtain ⟨dx, ws, e1, ed, el, e2⟩ := h4
          have hcl' : (decide (j < n) && clnF n fs) = true := hcl
          rw [Bool.and_eq_true] at hcl'
          refine ⟨dx, ws, e1, ?_, el, clnF_s r e2 hcl'.2⟩
          show (if j < n then m.r j else none) = some dx
          rw [if_pos (of_decide_eq_true hcl'.1)]
          exact ed
        | tbg p => exact h4
        | tab p q =>
          obtain ⟨ea, ps, e1, e2, e3⟩ := h4
          exact ⟨ea, ps, e1, e2, fun pos cv hc => by
            obtain ⟨c, e4, e5⟩ := e3 pos cv hc
            exact ⟨c, e4, cut_F r e5⟩⟩
    · cases hi
  dom := fun i a e => by
    have e' : (if i < n then m.r i else none) = some a := e
    rw [List.length_take]
    split at e'
    · omega
    · cases e'
  inj := fun i j a e1 e2 => by
    have e1' : (if i < n then m.r i else none) = some a := e1
    have e2' : (if j < n then m.r j else none) = some a := e2
    split at e1'
    · split at e2'
      · exact r.inj i j a e1' e2'
      · cases e2'
    · cases e1'
  hid := fun a o e => by
    obtain ⟨h1, h2, h3⟩ := r.hid a o e
    refine ⟨h1, ?_, fun i z => ?_⟩
    · show (if (∃ i, i < n ∧ m.r i = some a) ∨ (m.hid a ≠ none) then none else H a) = none
      rw [if_pos (.inr (fun z => by rw [show m.hid a = some o from e] at z; cases z))]
    · have z' : (if i < n then m.r i else none) = some a := z
      split at z'
      · exact h3 i z'
      · cases z'
theorem cut_le {m0 : Md} {g0 : G} {H0 : Hp} (r0 : Rel K m0 g0 H0) (l : Le m0 m) (r : Rel K m g H) (hn : n = g0.length) : Le m0 (m.cut n H g) := ⟨fun a o e => cut_F r (l.F a o e), fun i a e => by
  show (if i < n then m.r i else none) = some a
  rw [if_pos (by rw [hn]; exact r0.dom i a e)]
  exact l.r i a e, l.hid⟩
end
def settle (n : Nat) (d : D) (g : G) : Res D := if g.length = n then .ok d g else if n ≤ g.length then match (g.take n).all (Cell.cln n) with
  | true => match frz g n 64 d with
    | some e => .ok e (g.take n)
    | none => .no
  | false => .no else .no
theorem settle_s {K : PySem.W.Frag} {W : WX} {σv : L2.St} {m0 m : Md} {g0 g : G} {H0 H : Hp} {d : D} {v : V} {Q : VK} (r0 : Rel K m0 g0 H0) (l : Le m0 m) (r : Rel K m g H) (hd : Den K m d v) (p : Post K W σv (Den K) (settle g0.length d g) m0 Q) : Q v H := by
  unfold settle at p
  split at p
  · exact p m H v l r hd
  · split at p
    · rename_i hn
      split at p
      · rename_i hc
        split at p
        · rename_i e he
          exact p _ _ _ (cut_le r0 l r rfl) (cut_rel r hn hc) (frz_s r 64 d v e hd he)
        · exact p.elim
      · exact p.elim
    · exact p.elim
def frzX (g : G) (n : Nat) : List (Str × D) → Option (List (Str × D))
  | [] => some []
  | (f, d) :: r => match frz g n 64 d with
    | some e => match frzX g n r with
      | some s => some ((f, e) :: s)
      | none => none
    | none => none
theorem frzX_s {K : PySem.W.Frag} {m : Md} {g : G} {H : Hp} {n : Nat} (r : Rel K m g H) : ∀ {fs es : List (Str × D)} {vs : List V}, Dens K m (fs.map (·.2)) vs → frzX g n fs = some es → Dens K (m.cut n H g) (es.map (·.2)) vs ∧ es.map (·.1) = fs.map (·.1)
  | [], _, _, h, e => by
    cases e
    rw [h.nilV]
    exact ⟨.nil, rfl⟩
  | (f, d) :: fs, _, _, h, e => by
    obtain ⟨v, ws, rfl, h1, h2⟩ := h.consV
    unfold frzX at e
    split at e
    · rename_i y hy
      split at e
      · rename_i ys hys
        cases e
        obtain ⟨q1, q2⟩ := frzX_s r h2 hys
        exact ⟨.cons (frz_s r 64 d v y h1 hy) q1, by rw [List.map_cons, List.map_cons, q2]⟩
      · cases e
    · cases e
def settleX {α : Type} (n : Nat) (e : Exn) (g : G) : Res α := if g.length = n then .ex e g else if n ≤ g.length then match (g.take n).all (Cell.cln n) with
  | true => match frzX g n e.fs with
    | some fs => .ex ⟨e.cls, fs⟩ (g.take n)
    | none => .no
  | false => .no else .no
theorem settleX_s {K : PySem.W.Frag} {W : WX} {σv : L2.St} {m0 m : Md} {g0 g : G} {H0 H : Hp} {e : Exn} {cv : Value} {dd : Option Addr} {Q : VK} (r0 : Rel K m0 g0 H0) (l : Le m0 m) (r : Rel K m g H) (hd : ExnOk K m e cv dd) (p : Post K W σv (Den K) (settleX g0.length e g) m0 Q) : W cv dd σv H := by
  unfold settleX at p
  split at p
  · exact p m H cv dd l r hd
  · split at p
    · rename_i hn
      split at p
      · rename_i hc
        split at p
        · rename_i fs hf
          refine p _ _ _ _ (cut_le r0 l r rfl) (cut_rel r hn hc) ?_
          obtain ⟨h2, h⟩ := hd
          refine ⟨h2, ?_⟩
          rcases h with ⟨h3, h4⟩ | ⟨h0, d, fv, h3, h4, h5, h6⟩
          · rw [h3] at hf
            cases hf
            exact .inl ⟨rfl, h4⟩
          · obtain ⟨q1, q2⟩ := frzX_s r h6 hf
            refine .inr ⟨fun z => ?_, d, fv, h3, cut_F r h4, ?_, q1⟩
            · have z' : fs = [] := z
              rw [z'] at q2
              cases hfs : e.fs with
              | nil => exact h0 hfs
              | cons _ _ => rw [hfs] at q2; cases q2
            · show fv.map (·.1) = fs.map (·.1)
              rw [q2]
              exact h5
        · exact p.elim
      · exact p.elim
    · exact p.elim
end AW
namespace AW
open PySem PySem.Spec L2
/-! ### defs: what they promise where no repr runs around them -/
abbrev Gd (A : Around) : Prop := A.guards = some []
abbrev WF (E : XK) : WX := fun cv dd _ H => E cv dd H
def FnG (P : Program) (w : World) (K : PySem.W.Frag) (mg : Str → Option Value) (base : Heap) (k : Nat) (f : Addr) (sp : Sp) : Prop :=
  ∀ (A : Around) (out : List Env) (s : Shared) (H : Hp) (us : List Value) (vs : List V) (Q : VK) (E : XK), Room k A → Gd A → Env0 P w K mg base A out s H → Vals vs us → sp vs H Q E →
    codeAny (model P w) A (.call (.ref f) ⟨us, []⟩) (CR (L2.CX P w) out P w H s Q E) s
theorem FnG.mono {P : Program} {w : World} {K : PySem.W.Frag} {mg : Str → Option Value} {base : Heap} {j k : Nat} {f : Addr} {sp : Sp} (F : FnG P w K mg base j f sp) (h : j ≤ k) : FnG P w K mg base k f sp :=
  fun A out s H us vs Q E hr => F A out s H us vs Q E (hr.mono h)
def callD (n tot : Nat) (b : Sx) : Fn := fun ds g => if ds.length = n then match b (ds.map some ++ List.replicate (tot - n) none) g with
  | .nx _ g' => settle g.length .non g'
  | .rt d g' => settle g.length d g'
  | .ex _ e g' => settleX g.length e g'
  | _ => .no else .no
/-- the same for a def that returns a list which it made and which changes afterwards -/
def callK (n tot : Nat) (b : Sx) : Fn := fun ds g => if ds.length = n then match b (ds.map some ++ List.replicate (tot - n) none) g with
  | .nx _ g' => .ok .non g'
  | .rt d g' => .ok d g'
  | .ex _ e g' => settleX g.length e g'
  | _ => .no else .no
/-- defaults: the last ones fill up -/
def fillD (n : Nat) (dv ds : List D) : List D := if ds.length < n then ds ++ dv.drop (ds.length + dv.length - n) else ds
def callF (n : Nat) (dv : List D) (f : Fn) : Fn := fun ds g => f (fillD n dv ds) g
def spOf (K : PySem.W.Frag) (f : Fn) : Sp := fun vs H Q E => ∃ m g ds, Rel K m g H ∧ Dens K m ds vs ∧ Post K (WF E) [] (Den K) (f ds g) m Q
theorem slots_start {K : PySem.W.Frag} {m : Md} {N : List Str} {ds : List D} {vs : List V} {n : Nat} (h : Dens K m ds vs) (hn : ds.length = n) : SlotsL K m (ds.map some ++ List.replicate (N.length - n) none) (L2.start N vs) := by
  have hl := h.length
  refine ⟨fun i d q => ?_, ?_⟩
  · by_cases hi : i < ds.length
    · rw [List.getElem?_append_left (by simpa using hi), List.getElem?_map] at q
      cases e : ds[i]? with
      | none => rw [e] at q; cases q
      | some x =>
        rw [e] at q
        have q' : x = d := Option.some.inj (Option.some.inj q)
        subst q'
        obtain ⟨v, h1, h2⟩ := h.get e
        refine ⟨v, ?_, h2⟩
        unfold L2.start
        rw [List.getElem?_append_left (by simp; omega), List.getElem?_map, h1]
        rfl
    · rw [List.getElem?_append_right (by simp; omega), List.getElem?_replicate] at q
      split at q <;> cases q
  · unfold L2.start
    simp only [List.length_append, List.length_map, List.length_replicate]
    omega
theorem callK_no {n tot : Nat} {b : Sx} (ds : List D) (g : G) (h : ds.length ≠ n) : callK n tot b ds g = .no := by
  unfold callK
  rw [if_neg h]
theorem callD_no {n tot : Nat} {b : Sx} (ds : List D) (g : G) (h : ds.length ≠ n) : callD n tot b ds g = .no := by
  unfold callD
  rw [if_neg h]
section
variable {P : Program} {w : World} {K : PySem.W.Frag} {mg : Str → Option Value} {base : Heap} {x qual : Str} {params : Arguments} {body : List Stmt} {scope : Scope} {dvs : List V} {kws : List (Str × V)} {f : Addr} {fd : FuncData}
/-- what a body's derivation shows -/
abbrev BodyOk (P : Program) (w : World) (K : PySem.W.Frag) (mg : Str → Option Value) (base : Heap) (N : List Str) (qual : Str) (scope : Scope) (f : Addr) (body : List Stmt) (k : Nat) (b : Sx) : Prop :=
  ∀ (cd : Value) (A : Around) (out : List Env) (s : Shared) (H : Hp) (E : XK), Room k (A.deeper (PyProof.Rows.envOfC qual scope s.heap.objs.size f cd)) → Gd A →
    PSs (cxOf (L2.CX P w) P w K mg base N qual scope f cd A out s H E) body (tS K (WF E) b)
theorem fn_any {N ps : List Str} {n k : Nat} {b : Sx} {fn : Fn} (F : FunD K x qual params body scope dvs kws f fd) (S : FnScope N ps scope)
    (hN : ∀ ds g, ds.length ≠ n → fn ds g = .no) (hn : ps.length = n) (bA : ∀ (s : Shared) (us : List Value), us.length = ps.length → BindsTo s fd ⟨us, []⟩ (ps.zip us))
    (hb : BodyOk P w K mg base N qual scope f body k b)
    (hf : ∀ ds g, ds.length = n → ∀ (E : XK) (m : Md) (Q : VK) (H0 : Hp), Rel K m g H0 → Post K (WF E) [] (Den K) (fn ds g) m Q → PostS K (WF E) (b (ds.map some ++ List.replicate (N.length - n) none) g) m { nx := fun _ H' => Q .non H', rt := Q }) :
    FnG P w K mg base (k + 1) f (spOf K fn) := fun A out s H us vs Q E hr hg e0 r h => by
  obtain ⟨oc, od, dV, kV, doc, pm, an, cd, ct, osl, rfl, lk, hcd, _, _⟩ := F.ex
  obtain ⟨m, g, ds, rl, hd, p⟩ := h
  by_cases hl : ds.length = n
  · have hv : vs.length = ps.length := by rw [← hd.length, hl, hn]
    refine LamX.run_ofS lk hcd S hr e0 (bA s us (by rw [← r.length]; exact hv)) r hv fun hr' => ?_
    exact ⟨_, hb cd A out s H E hr' hg, m, ds.map some ++ List.replicate (N.length - n) none, g, rl, slots_start hd hl, hf ds g hl E m Q H rl p⟩
  · rw [hN ds g hl] at p
    exact p.elim
theorem fn_ok {N ps : List Str} {n k : Nat} {b : Sx} (F : FunD K x qual params body scope dvs kws f fd) (S : FnScope N ps scope) (hn : ps.length = n)
    (bA : ∀ (s : Shared) (us : List Value), us.length = ps.length → BindsTo s fd ⟨us, []⟩ (ps.zip us)) (hb : BodyOk P w K mg base N qual scope f body k b) : FnG P w K mg base (k + 1) f (spOf K (callD n N.length b)) :=
  fn_any F S callD_no hn bA hb fun ds g hl E m Q H rl p => by
    unfold callD at p
    rw [if_pos hl] at p
    cases hr' : b (ds.map some ++ List.replicate (N.length - n) none) g with
    | nx σ g' => rw [hr'] at p; exact fun m' H' σv l r sl => settle_s rl l r .non p
    | rt d g' => rw [hr'] at p; exact fun m' H' v l r hd => settle_s rl l r hd p
    | ex σ e g' => rw [hr'] at p; exact fun m' H' σv cv dd l r sl hd => settleX_s rl l r hd p
    | bk σ g' => rw [hr'] at p; exact p.elim
    | ct σ g' => rw [hr'] at p; exact p.elim
    | no => rw [hr'] at p; exact p.elim
theorem fn_okK {N ps : List Str} {n k : Nat} {b : Sx} (F : FunD K x qual params body scope dvs kws f fd) (S : FnScope N ps scope) (hn : ps.length = n)
    (bA : ∀ (s : Shared) (us : List Value), us.length = ps.length → BindsTo s fd ⟨us, []⟩ (ps.zip us)) (hb : BodyOk P w K mg base N qual scope f body k b) : FnG P w K mg base (k + 1) f (spOf K (callK n N.length b)) :=
  fn_any F S callK_no hn bA hb fun ds g hl E m Q H rl p => by
    unfold callK at p
    rw [if_pos hl] at p
    cases hr' : b (ds.map some ++ List.replicate (N.length - n) none) g with
    | nx σ g' => rw [hr'] at p; exact fun m' H' σv l r sl => p m' H' .non l r .non
    | rt d g' => rw [hr'] at p; exact fun m' H' v l r hd => p m' H' v l r hd
    | ex σ e g' => rw [hr'] at p; exact fun m' H' σv cv dd l r sl hd => settleX_s rl l r hd p
    | bk σ g' => rw [hr'] at p; exact p.elim
    | ct σ g' => rw [hr'] at p; exact p.elim
    | no => rw [hr'] at p; exact p.elim
end
/-! ### calls -/
section
variable {X : Cx} {W : WX} {k : Nat} {f : Addr} {sp : Sp} {pins : List (Addr × Obj)} {σ : L2.St} {H : Hp} {s : Shared} {Q : VK} {us : List Value} {vs : List V}
theorem run_g (F : FnG X.prog X.w X.K X.mg X.base k f sp) (hr : Room k X.A) (gd : Gd X.A) (tk : Takes X W) (J : Inv X pins σ H s) (r : Vals vs us) (h : sp vs H Q (WE W σ)) :
    wpAny (model X.prog X.w) X.A (call (.ref f) us) (EP X pins σ Q) X.xe s := by
  have c := F X.A X.stack s H us vs Q (WE W σ) hr gd J.env0 r h
  refine wpAny_call (codeAny_mono c fun z s' hz => ?_)
  match z, hz with
  | .error e, hz => exact passAt tk σ pins H s e s' J hz
  | .ok (.ret u), hz => exact J.after hz
  | .ok .next, hz => exact hz.elim
  | .ok .brk, hz => exact hz.elim
  | .ok .cont, hz => exact hz.elim
end
/-- the text's tables of code objects: (code, table) -/
def TbB (base : Heap) (mg : Str → Option Value) (tf : List He.Defn) (K : PySem.W.Frag) : Prop := ∀ p ∈ tf, LamX.TabB base mg (He.cT K p).1 (He.cT K p).2
/-- a def at f -/
def OkA (tf : List He.Defn) (P : Program) (w : World) (K : PySem.W.Frag) (mg : Str → Option Value) (f : Addr) (k : Nat) (fn : Fn) : Prop :=
  PySem.W.keepIn K (.ref f) = true ∧ ∀ base, TbB base mg tf K → FnG P w K mg base k f (spOf K fn)
/-- a def of the top -/
def Ok (tf : List He.Defn) (P : Program) (w : World) (K : PySem.W.Frag) (mg : Str → Option Value) (x : Str) (k : Nat) (fn : Fn) : Prop :=
  mg x = some (.ref (ga K x)) ∧ OkA tf P w K mg (ga K x) k fn
section
variable {X : Cx} {W : WX} {tf : List He.Defn} {j k : Nat} {fn : Fn} {x : Str} {p pos : Pos} {e : Expr} {es : List Expr} {t : Av}
theorem sp_call {K : PySem.W.Frag} {σ : L2.St} {m : Md} {g : G} {H : Hp} {ds : List D} {vs : List V} {Q : VK} (r : Rel K m g H) (d : Dens K m ds vs) (h : Post K W σ (Den K) (fn ds g) m Q) : spOf K fn vs H Q (WE W σ) := by
  refine ⟨m, g, ds, r, d, ?_⟩
  cases hf : fn ds g with
  | ok d g2 => rw [hf] at h; exact h
  | ex e g2 => rw [hf] at h; exact h
  | no => rw [hf] at h; exact h
theorem x_callO (o : Ok tf X.prog X.w X.K X.mg x k fn) (TB : TbB X.base X.mg tf X.K) (gd : Gd X.A) (hr : Room j X.A) (hj : k ≤ j) (tk : Takes X W) (hg : Gl X x)
    (ha : PA X (e :: es) (tA X.K W t)) (hdb : (x == ("__debug__" : Str)) = false := by decide) (he : starEach (e :: es) X.env = (false, eval e X.env) :: starEach es X.env := by rfl) (hpl : (backTo pos (starEach es X.env)).any (·.1) = false := by rfl) :
    PE X (.Call (.Name x p) (e :: es) [] pos) (tE X.K W (eCall fn t)) := by
  obtain ⟨h1, h2, h3⟩ := o
  refine ⟨fun pins s σ H Q J ⟨m, σ', g, rl, sl, hl, q⟩ => wpAny_Call_Name_kw (ld_glob J hg h1 ?_ hdb)⟩
  have arg : tA X.K W t σ H fun vs H1 => spOf X.K fn vs H1 Q (WE W σ) := ⟨m, σ', g, rl, sl, hl, Post.bind q fun ds g1 m1 H1 vs l1 r1 d1 p1 => sp_call r1 d1 p1⟩
  refine PySem.W.callWith_K (h₀ := X.base) J.ok.mod.kin h2 (thn (ha.run pos pins s σ H _ J arg) fun us s1 ⟨vs, H1, J1, r, q1⟩ => ⟨J1.kIn, ?_⟩) he hpl
  exact run_g (h3 X.base TB) (hr.mono hj) gd tk J1 r q1
theorem x_callO0 (o : Ok tf X.prog X.w X.K X.mg x k fn) (TB : TbB X.base X.mg tf X.K) (gd : Gd X.A) (hr : Room j X.A) (hj : k ≤ j) (tk : Takes X W) (hg : Gl X x) (hdb : (x == ("__debug__" : Str)) = false := by decide) :
    PE X (.Call (.Name x p) [] [] pos) (tE X.K W (eCall fn aNil)) := by
  obtain ⟨h1, h2, h3⟩ := o
  refine ⟨fun pins s σ H Q J ⟨m, σ', g, rl, sl, hl, q⟩ => wpAny_Call_Name_kw (ld_glob J hg h1 ?_ hdb)⟩
  exact PySem.W.callWith_K0 J.kIn h2 (run_g (us := []) (h3 X.base TB) (hr.mono hj) gd tk J .nil (sp_call rl .nil q))
end
/-! ### the law's call -/
section
variable {K : PySem.W.Frag}
/-- it ends and gives True -/
def Res.wpB (r : Res D) : Prop := match r with
  | .ok (.bl true) _ => True
  | _ => False
/-- the cells at the start: the tables -/
def cell0 (p : He.Defn × Str) : Cell := match p.2.cps.size with
  | 0 => .tbg p.1
  | _ => .tab p.1 p.2
def g0 (tf : List (He.Defn × Str)) : G := tf.map cell0
theorem law_sp {f : Fn} {tf : List (He.Defn × Str)} (nd : (tf.map fun p => (He.cT K p.1).2).Nodup) {H : Hp} {a : Addr} {ns : List Int} {Q : VK} {E : XK} (hT : ∀ p ∈ tf, H (He.cT K p.1).2 = some (.tbl #[])) (hS : SqL K H a (ns.map V.int))
    (hf : (f [.seq (ns.map D.int)] (g0 tf)).wpB) (hQ : ∀ H, Q (.bl true) H) : spOf K f [.ref a] H Q E := by
  classical
  have hd : ∀ (m : Md) (ns : List Int), Dens K m (ns.map D.int) (ns.map V.int) := fun m ns => by
    induction ns with
    | nil => exact .nil
    | cons n ns ih => exact .cons .int ih
  let isT : Addr → Prop := fun b => ∃ p ∈ tf, b = (He.cT K p.1).2
  let m : Md := ⟨fun b => if isT b then none else H b, fun i => (tf[i]?).map fun p => (He.cT K p.1).2, fun _ => none⟩
  have nT : ∀ b u, H b = some u → (∀ ps, u ≠ .tbl ps) → ¬ isT b := fun b u e n ⟨p, hp, z⟩ => by
    rw [z, hT p hp] at e
    exact n _ (Option.some.inj e).symm
  have keepF : ∀ b u, H b = some u → (∀ ps, u ≠ .tbl ps) → m.F b = some u := fun b u e n => by
    show (if isT b then none else H b) = some u
    rw [if_neg (nT b u e n)]
    exact e
  have hS' : SqL K m.F a (ns.map V.int) := by
    rcases hS with (h | ⟨o, h⟩) | h
    · exact .inl (.inl (keepF _ _ h fun _ z => nomatch z))
    · exact .inl (.inr ⟨o, keepF _ _ h fun _ z => nomatch z⟩)
    · exact .inr h
  have rl : Rel K m (g0 tf) H := by
    refine ⟨fun b u e => ?_, fun i c e => ?_, fun i b e => ?_, fun i j b e1 e2 => ?_, fun b u e => nomatch e⟩
    · have e' : (if isT b then none else H b) = some u := e
      split at e'
      · cases e'
      · exact e'
    · unfold g0 at e
      rw [List.getElem?_map] at e
      cases q : tf[i]? with
      | none => rw [q] at e; cases e
      | some p =>
        rw [q] at e
        have hp := List.mem_of_getElem? q
        refine ⟨(He.cT K p.1).2, by show (tf[i]?).map _ = _; rw [q]; rfl, ?_, _, hT p hp, ?_⟩
        · show (if isT _ then none else H _) = none
          exact if_pos ⟨p, hp, rfl⟩
        · cases e
          unfold cell0
          split
          · exact ⟨rfl, #[], rfl, trivial⟩
          · refine ⟨rfl, #[], rfl, trivial, fun pos cv z => ?_⟩
            have z' : codeAmong pos [] = some cv := z
            simp [codeAmong] at z'
    · have e' : (tf[i]?).map _ = some b := e
      unfold g0
      rw [List.length_map]
      cases q : tf[i]? with
      | none => rw [q] at e'; cases e'
      | some p => exact (List.getElem?_eq_some_iff.mp q).1
    · have e1' : (tf.map fun p => (He.cT K p.1).2)[i]? = some b := by rw [List.getElem?_map]; exact e1
      have e2' : (tf.map fun p => (He.cT K p.1).2)[j]? = some b := by rw [List.getElem?_map]; exact e2
      obtain ⟨h1, h2⟩ := List.getElem?_eq_some_iff.mp e1'
      obtain ⟨h3, h4⟩ := List.getElem?_eq_some_iff.mp e2'
      have pw := List.pairwise_iff_getElem.mp nd
      rcases Nat.lt_trichotomy i j with z | z | z
      · exact absurd (h2.trans h4.symm) (pw i j h1 h3 z)
      · exact z
      · exact absurd (h4.trans h2.symm) (pw j i h3 h1 z)
  refine ⟨m, g0 tf, [.seq (ns.map D.int)], rl, .cons (.seq hS' (hd m ns)) .nil, ?_⟩
  unfold Res.wpB at hf
  revert hf
  cases f [.seq (ns.map D.int)] (g0 tf) with
  | ok d g => cases d with
    | bl c => cases c with
      | true => exact fun _ m' H' v l r hd => by cases hd; exact hQ H'
      | false => exact fun h => h.elim
    | _ => exact fun h => h.elim
  | ex e g => exact fun h => h.elim
  | no => exact fun h => h.elim
end
end AW
namespace AW
open PySem PySem.Spec PyProof.Rows L2
/-! ### the end of a law whose defs promise under guards -/
section
variable {P : Program} {w : World} {K : PySem.W.Frag} {mg mb : Str → Option Value} {k : Nat} {fa a : Addr} {T : List (Addr × Addr)} {sp : Sp} {s : Shared} {vs : List Value} {ns : List Int}
/-- the abstract heap at the law's call: its tables, and the script where the text does not hold it -/
def hpL (K : PySem.W.Frag) (T : List (Addr × Addr)) (a : Addr) (oa : Obj) (ns : List Int) : Hp := open Classical in fun b =>
  if b ∈ T.map (·.2) then some (.tbl #[]) else if b = a ∧ K.lookup a = none then some (.frz oa (.lst (ns.map V.int))) else none
theorem hpL_cases {oa : Obj} {b : Addr} {u : HO} (h : hpL K T a oa ns b = some u) : (b ∈ T.map (·.2) ∧ u = .tbl #[]) ∨ (b = a ∧ K.lookup a = none ∧ u = .frz oa (.lst (ns.map V.int))) := by
  unfold hpL at h
  split at h
  · rename_i q; exact .inl ⟨q, (Option.some.inj h).symm⟩
  · split at h
    · rename_i q; exact .inr ⟨q.1, q.2, (Option.some.inj h).symm⟩
    · cases h
theorem law_callG (inK : K.In s.heap) (glob : s.heap.Ns mainGlobals mg) (blt : s.heap.Ns builtinsNs mb) (bltv : ∀ x : Str, x ≠ "__name__" → mb x = bootBuiltins x) (noLim : s.heap.NoLimit) (noGen : s.gens = #[])
    (tabE : ∀ p ∈ T, s.heap.get? p.2 = some { cls := .none, data := .fields #[] }) (tabK : ∀ p ∈ T, K.lookup p.2 = none) (tabC : ∀ p ∈ T, PySem.W.CodeHd s.heap p.1 p.2)
    (bmod : ∃ (bm : Addr) (ob : Obj), mg "__builtins__" = some (.ref bm) ∧ bm ≠ builtinsNs ∧ s.heap.get? bm = some ob ∧ ob.cls = .type "module" ∧ ob.dict = some builtinsNs ∧ ob.data = .plain)
    (scr : s.heap.get? a = some { cls := .type "list", data := .seq vs.toArray }) (isI : IntsAre vs ns) (len : ns.length ≤ sizeLine) (room : Room k callerA)
    (F : ∀ base : Heap, K.In base → base.Ns mainGlobals mg → (∀ p ∈ T, LamX.TabB base mg p.1 p.2) → FnG P w K mg base k fa sp)
    (hsp : ∀ H : Hp, (∀ p ∈ T, H p.2 = some (.tbl #[])) → SqL K H a (ns.map V.int) → sp [.ref a] H (fun v _ => v = .bl true) fun _ _ _ => False) :
    codeAny (model P w) callerA (.call (.ref fa) ⟨[.ref a], []⟩) (fun r s' => r = .ok (.ret (.bool true)) ∧ OldK s.heap s'.heap ∧ s'.os = s.os ∧ AllBare s'.gens) s := by
  have tabAt : ∀ b : Addr, b ∈ T.map (·.2) → s.heap.get? b = some { cls := .none, data := .fields #[] } := fun b hb => by
    obtain ⟨p, hp, rfl⟩ := List.mem_map.mp hb
    exact tabE p hp
  have aNo : a ∉ T.map (·.2) := fun z => by
    have q := (tabAt a z).symm.trans scr
    cases q
  have inT : ∀ p ∈ T, p.2 ∈ T.map (·.2) := fun p hp => List.mem_map.mpr ⟨p, hp, rfl⟩
  generalize hoa : ({ cls := .type "list", data := .seq vs.toArray } : Obj) = oa at scr
  have lv : vs.length = ns.length := isI.length
  have hT : ∀ p ∈ T, hpL K T a oa ns p.2 = some (.tbl #[]) := fun p hp => if_pos (inT p hp)
  have none_of : ∀ {b : Addr} {o : Obj}, s.heap.get? b = some o → (∀ us n, o.data ≠ .seq us n) → o.data ≠ .fields #[] → hpL K T a oa ns b = none := fun {b o} e d1 d2 => by
    cases q : hpL K T a oa ns b with
    | none => rfl
    | some u =>
      rcases hpL_cases q with ⟨z, _⟩ | ⟨z, _, _⟩
      · rw [tabAt b z] at e
        cases e
        exact absurd rfl d2
      · rw [z, scr] at e
        cases e
        exact absurd (by rw [← hoa]) (d1 vs.toArray 0)
  have grd : ∀ {b : Addr} {o : Obj}, s.heap.get? b = some o → hpL K T a oa ns b = none → (hidT s.heap (hpL K T a oa ns)).get? b = some o := fun e n => hidT_get e n
  have grdD : ∀ {b : Addr} {o : Obj} {es : Array DictEntry} {ep : Nat}, s.heap.get? b = some o → o.data = .dict es ep → (hidT s.heap (hpL K T a oa ns)).get? b = some o := fun {b o es ep} e d =>
    grd e (none_of e (fun us n z => by rw [d] at z; cases z) fun z => by rw [d] at z; cases z)
  have grdN : ∀ {b : Addr} {m : Str → Option Value}, s.heap.Ns b m → (hidT s.heap (hpL K T a oa ns)).Ns b m := fun {b m} ⟨o, es, ep, e, d, r⟩ => ⟨o, es, ep, grdD e d, d, r⟩
  have grdK : K.In (hidT s.heap (hpL K T a oa ns)) := fun b o e => grd (inK b o e) (by
    cases q : hpL K T a oa ns b with
    | none => rfl
    | some u =>
      rcases hpL_cases q with ⟨z, _⟩ | ⟨z, z2, _⟩
      · obtain ⟨p, hp, rfl⟩ := List.mem_map.mp z
        rw [tabK p hp] at e
        cases e
      · rw [z, z2] at e
        cases e)
  have okH : HOk P w (hpL K T a oa ns) s.heap := fun b u q => by
    rcases hpL_cases q with ⟨z, rfl⟩ | ⟨rfl, _, rfl⟩
    · exact tabAt b z
    · have hl : (ns.map V.int).length ≤ sizeLine := by rw [List.length_map]; exact len
      exact ⟨scr, hl, vs, _, vals_ints isI, by rw [scr, ← hoa]⟩
  have sq : SqL K (hpL K T a oa ns) a (ns.map V.int) := by
    cases q : K.lookup a with
    | none =>
      refine .inl (.inr ⟨oa, ?_⟩)
      unfold hpL
      rw [if_neg aNo, if_pos ⟨rfl, q⟩]
    | some o =>
      have e := inK a o q
      rw [scr] at e
      cases e
      subst hoa
      exact .inr ⟨_, vs.toArray, _, q, rfl, rfl, rfl, by rw [List.size_toArray, lv]; exact len, by simpa using vals_ints isI⟩
  have modB : L2.Mod K mg (hidT s.heap (hpL K T a oa ns)) := by
    obtain ⟨mc, c1, c2⟩ := noLim
    exact ⟨grdK, grdN glob, ⟨mb, grdN blt, bltv⟩, mc, grdN c1, c2⟩
  have globD : ∃ (o : Obj) (es : Array DictEntry) (ep : Nat), s.heap.get? mainGlobals = some o ∧ o.data = .dict es ep := by
    obtain ⟨o, es, ep, e, d, _⟩ := glob
    exact ⟨o, es, ep, e, d⟩
  have tbs : ∀ p ∈ T, LamX.TabB (hidT s.heap (hpL K T a oa ns)) mg p.1 p.2 := fun p hp => by
    obtain ⟨og, esg, epg, eg, dg⟩ := globD
    have here := tabE p hp
    refine ⟨?_, ?_, fun z => ?_⟩
    · obtain ⟨o, us, file, tk, flags, tg, inF, text, tt, e1, e2, e3, e4, e5⟩ := tabC p hp
      refine ⟨o, us, file, tk, flags, tg, inF, text, tt, grd e1 (none_of e1 (fun _ _ z => ?_) fun z => ?_), e2, e3, e4, e5⟩
      · rw [e3] at z; cases z
      · rw [e3] at z
        cases z
        simp at e4
    · obtain ⟨bm, ob, b1, b2, b3, b4, b5, b6⟩ := bmod
      refine ⟨bm, ob, b1, b2, fun q => ?_, fun q => ?_, grd b3 (none_of b3 (fun _ _ z => by rw [b6] at z; cases z) fun z => by rw [b6] at z; cases z), b4, b5, b6⟩
      · rw [q, eg] at b3
        cases b3
        rw [dg] at b6
        cases b6
      · rw [q, here] at b3
        cases b3
        cases b6
    · rw [z, here] at eg
      cases eg
      cases dg
  have env : Env0 P w K mg (hidT s.heap (hpL K T a oa ns)) callerA [] s (hpL K T a oa ns) :=
    ⟨rfl, modB, fun b o e => of_hidT e, Nat.le_of_eq (hidT_size _ _), trivial, (fun b hb => absurd (show b ∈ ([] : List Addr) from hb) List.not_mem_nil), okH, .of_eq noGen⟩
  have run := F _ grdK (grdN glob) tbs callerA [] s _ [.ref a] [.ref a] _ _ room rfl env (.cons rfl .nil) (hsp _ hT sq)
  refine codeAny_mono run fun r s' h => ?_
  match r, h with
  | .error e, h =>
    obtain ⟨_, _, _, _, _, _, _, _, _, _, _, _, z⟩ := h
    exact z.elim
  | .ok .next, h => exact h.elim
  | .ok .brk, h => exact h.elim
  | .ok .cont, h => exact h.elim
  | .ok (.ret u), h =>
    obtain ⟨v, H', os, bare, un, ok', ru, ev⟩ := h
    have ev' : v = .bl true := ev
    subst ev'
    obtain rfl : u = Value.bool true := ru
    have old : ∀ b o, b ∉ T.map (·.2) → s.heap.get? b = some o → s'.heap.get? b = some o := fun b o nb e => by
      cases q : hpL K T a oa ns b with
      | none => exact un.keep b o e q (fun z => absurd (show b ∈ ([] : List Addr) from z) List.not_mem_nil) (fun z => absurd (show b ∈ ([] : List Addr) from z) List.not_mem_nil)
      | some u =>
        rcases hpL_cases q with ⟨z, _⟩ | ⟨_, _, rfl⟩
        · exact absurd z nb
        · obtain ⟨e1, _⟩ := okH b _ q
          obtain ⟨e2, _⟩ := ok' b _ (un.frzs b _ _ q)
          rw [e] at e1
          cases e1
          exact e2
    have more : ∀ p ∈ T, ∃ us : Array Value, s'.heap.get? p.2 = some { cls := .none, data := .fields us } := fun p hp => by
      obtain ⟨us, z⟩ := un.tbls p.2 #[] (hT p hp)
      exact ⟨_, ok' p.2 _ z⟩
    refine ⟨rfl, ⟨fun b o e => ?_, fun b o e => ?_⟩, os, bare⟩
    · by_cases hb : b ∈ T.map (·.2)
      · obtain ⟨p, hp, rfl⟩ := List.mem_map.mp hb
        obtain ⟨us, hu⟩ := more p hp
        rw [tabE p hp] at e
        cases e
        exact .inr (.inl ⟨((tabC p hp).tab (tabE p hp)).isCodeTable, rfl, #[], us, rfl, by rw [Array.empty_append]; exact hu⟩)
      · exact .inl (old b o hb e)
    · by_cases hb : b ∈ T.map (·.2)
      · obtain ⟨p, hp, rfl⟩ := List.mem_map.mp hb
        obtain ⟨us, hu⟩ := more p hp
        exact ⟨_, hu⟩
      · exact ⟨o, old b o hb e⟩
end
/-- the law's own end: tf its defs with tables (and the names that their code objects bear) -/
theorem endG {l : PySem.W.OpenLaw} {n k : Nat} {q : Program} {loose : List Str} {XP : (Str → Option Value) → Heap → Prop} {YP : World → Heap → Prop} {d : DefRec} {f : Fn} {tf : List (He.Defn × Str)}
    (hn : l.most = some n) (hn2 : n ≤ sizeLine) (hdf : d.params.defaults = []) (hr : Room k callerA) (nx : n ≤ 63)
    (hf : ∀ ns : List Int, ns.length ≤ 63 → (f [.seq (ns.map D.int)] (g0 tf)).wpB)
    (FF : ∀ (w : World) (mg : Str → Option Value) (fa : Addr) (h : Heap), YP w h → h.Ns mainGlobals mg → mg d.name = some (.ref fa) →
      ∃ K : PySem.W.Frag, K.In h ∧ (∀ p ∈ tf, h.get? (He.cT K p.1).2 = some { cls := .none, data := .fields #[] }) ∧ (∀ p ∈ tf, K.lookup (He.cT K p.1).2 = none) ∧ (∀ p ∈ tf, PySem.W.CodeHd h (He.cT K p.1).1 (He.cT K p.1).2) ∧
        (tf.map fun p => (He.cT K p.1).2).Nodup ∧ fa = ga K d.name ∧ Ok (tf.map (·.1)) l.prog w K mg d.name k f) :
    PySem.W.WalkO q loose XP YP l.row.toRowW d [] (fun f vs => PySem.call f vs) := by
  refine Att.attach_callB hn hdf fun w s₀ s mg mb fa o pm cd doc a vs ns Gr Y ho hd hcd hmg hobj hints hlen hbits hg => ?_
  obtain ⟨K, KX, t1, t2, t3, nd, rfl, OK⟩ := FF w mg fa _ Y Gr.T.g hmg
  obtain ⟨_, _, ok⟩ := OK
  have un : ∀ {p : Addr × Addr}, p ∈ (tf.map fun p => He.cT K p.1) → ∃ q ∈ tf, p = He.cT K q.1 := fun {p} hp => by
    obtain ⟨q, hq, rfl⟩ := List.mem_map.mp hp
    exact ⟨q, hq, rfl⟩
  refine law_callG (T := tf.map fun p => He.cT K p.1) (sp := spOf K f) KX Gr.T.g Gr.T.b Gr.T.builtins Gr.T.nolimit hg (fun p hp => ?_) (fun p hp => ?_) (fun p hp => ?_) Gr.T.bmain hobj hints (Nat.le_trans hlen hn2) hr (fun base _ _ tb => ok base fun p hp => ?_) fun H hT hS => ?_
  · obtain ⟨q, hq, rfl⟩ := un hp; exact t1 q hq
  · obtain ⟨q, hq, rfl⟩ := un hp; exact t2 q hq
  · obtain ⟨q, hq, rfl⟩ := un hp; exact t3 q hq
  · obtain ⟨q, hq, rfl⟩ := List.mem_map.mp hp
    exact tb _ (List.mem_map.mpr ⟨q, hq, rfl⟩)
  · exact law_sp nd (fun p hp => hT _ (List.mem_map.mpr ⟨p, hp, rfl⟩)) hS (hf ns (Nat.le_trans hlen nx)) fun _ => rfl
end AW
namespace AW
open PySem PySem.Spec L2
/-! ### isinstance of built-in classes -/
inductive TK where
  | non | bl | int | str | tup | lst | dct
def TK.name : TK → String
  | .non => "NoneType"
  | .bl => "bool"
  | .int => "int"
  | .str => "str"
  | .tup => "tuple"
  | .lst => "list"
  | .dct => "dict"
def TK.sub : TK → TK → Bool
  | .non, .non => true
  | .bl, .bl => true
  | .bl, .int => true
  | .int, .int => true
  | .str, .str => true
  | .tup, .tup => true
  | .lst, .lst => true
  | .dct, .dct => true
  | _, _ => false
theorem TK.kit (K : PySem.W.Frag) (a b : TK) : PySem.W.kitOne K (.type a.name) (.type b.name) = some (a.sub b) := kit_ty (by cases a <;> cases b <;> decide +kernel)
def tkOf (g : G) : D → Option TK
  | .non => some .non
  | .bl _ => some .bl
  | .int _ => some .int
  | .str _ => some .str
  | .tup _ => some .tup
  | .lst _ => some .lst
  | .seq _ => some .lst
  | .dct _ _ => some .dct
  | .ref i => match g[i]? with
    | some (.lst _) => some .lst
    | some (.dct _ _) => some .dct
    | _ => none
  | _ => none
theorem tkOf_s {K : PySem.W.Frag} {m : Md} {g : G} {H : Hp} {d : D} {v : V} {k : TK} (r : Rel K m g H) (h : Den K m d v) (e : tkOf g d = some k) : TyX K H v (.type k.name) := by
  cases h with
  | non => cases e; exact .base .non
  | bl => cases e; exact .base (.bl _)
  | int => cases e; exact .base (.int _)
  | str => cases e; exact .base (.str _)
  | tup h1 h2 =>
    cases e
    rcases r.seqT h1 with (h3 | ⟨o, h3⟩) | ⟨o, its, n, h3, h4, _⟩
    · exact .base (.tup h3)
    · exact .fTuple h3
    · exact .kTuple h3 h4
  | lst h1 h2 => cases e; exact .base (.lst (r.ex _ _ h1))
  | seq h1 h2 =>
    cases e
    rcases r.seqL h1 with (h3 | ⟨o, h3⟩) | ⟨o, its, n, h3, h4, _⟩
    · exact .base (.lst h3)
    · exact .base (.frz h3)
    · exact .kList h3 h4
  | dct h1 hl h2 =>
    cases e
    rcases rd_le r.ex h1 with h3 | ⟨o, h3⟩
    · exact .base (.dK h3)
    · exact .fDict h3
  | dtt h1 hl h2 => cases e
  | ref h1 =>
    rename_i i a
    have e' : (match g[i]? with | some (.lst _) => some TK.lst | some (.dct _ _) => some TK.dct | _ => none) = some k := e
    split at e'
    · rename_i ys hy
      cases e'
      obtain ⟨b, e1, _, o, e2, vs, e3, _⟩ := r.cell _ _ hy
      rw [h1] at e1
      cases e1
      subst e3
      exact .base (.lst e2)
    · rename_i ks ys hy
      cases e'
      obtain ⟨b, e1, _, o, e2, vs, e3, _⟩ := r.cell _ _ hy
      rw [h1] at e1
      cases e1
      subst e3
      exact .base (.dK e2)
    · cases e'
  | ins h1 h2 h3 => cases e
  | glo => cases e
  | val => cases e
theorem s_par3 {X : Cx} {W : WX} {i j l : Nat} {x y z : Str} {a b c : Expr} {t : Av} {px py pz pt pos : Pos} {kt k2 pt2} (hc : X.calm = true) (hN : X.N.Nodup) (hi : X.N[i]? = some x) (hj : X.N[j]? = some y) (hl : X.N[l]? = some z) (hij : i ≠ j) (hil : i ≠ l) (hjl : j ≠ l)
    (hx : X.env.scope.names.lookup x = some .local) (hy : X.env.scope.names.lookup y = some .local) (hz : X.env.scope.names.lookup z = some .local) (ha : PA X [a, b, c] (tA X.K W t))
    (hw : swappedStores [.Tuple [.Name x px, .Name y py, .Name z pz] kt pt] (.Tuple [a, b, c] k2 pt2) X.env = pure (some [x, y, z]))
    (hs : swapsWithSole [.Tuple [.Name x px, .Name y py, .Name z pz] kt pt] (.Tuple [a, b, c] k2 pt2) pos.line X.env = pure false := by rfl) :
    PS X (.Assign [.Tuple [.Name x px, .Name y py, .Name z pz] kt pt] (.Tuple [a, b, c] k2 pt2) pos) (tS X.K W (sPar3 i j l t)) := PS.imp (ps_par3 hc hN hi hj hl hij hil hjl hx hy hz ha hw hs) fun D' σ H h => by
  obtain ⟨m, σ', g, rl, sl, p⟩ := h
  refine ⟨m, σ', g, rl, sl.1, sl.2, sBind_s sl p fun ds g1 m1 H1 vs l1 r1 d1 p1 => ?_⟩
  split at p1
  · obtain ⟨v, ws, rfl, h1, h2⟩ := d1.consV
    obtain ⟨w, ws', rfl, h3, h4⟩ := h2.consV
    obtain ⟨w', ws'', rfl, h5, h6⟩ := h4.consV
    obtain rfl := h6.nilV
    exact ⟨v, w, w', rfl, p1 m1 H1 _ (Le.refl m1) r1 ((((sl.mono l1).set h1).set h3).set h5)⟩
  · exact p1.elim
/-! ### methods of lists that change -/
abbrev Mt := Nat → List D → G → Res D
def eMeth (f : Mt) (o : Ev) (t : Av) : Ev := fun σ g => (o σ g).bind fun x g1 => match x with
  | .ref i => match lmOf g1 i with
    | some _ => (t σ g1).bind fun ds g2 => f i ds g2
    | none => .no
  | _ => .no
/-- by values -/
def MtS (K : PySem.W.Frag) (W : WX) (r : V → List V → Hp → VK → Prop) (f : Mt) : Prop := ∀ (σv : L2.St) (m : Md) (g : G) (H : Hp) (i : Nat) (x : V) (ds : List D) (vs : List V) (Q : VK), Rel K m g H → Den K m (.ref i) x → Dens K m ds vs → Post K W σv (Den K) (f i ds g) m Q → r x vs H Q
theorem ref_ty {K : PySem.W.Frag} {m : Md} {g : G} {H : Hp} {i : Nat} {v : V} {ys : List D} (r : Rel K m g H) (h : Den K m (.ref i) v) (e : lmOf g i = some ys) : tyV K "list" v H := by
  obtain ⟨p, vs, rfl, _, h3, _⟩ := lmOf_s r h e
  exact .inl ⟨rfl, vs, SqL.of h3⟩
theorem tBM_of {K : PySem.W.Frag} {W : WX} {r : V → List V → Hp → VK → Prop} {f : Mt} {eo : Ev} {t : Av} (hs : MtS K W r f) {σ : L2.St} {H : Hp} {Q : VK} (h : tE K W (eMeth f eo t) σ H Q) : tBM K "list" r (tE K W eo) (tA K W t) σ H Q := by
  obtain ⟨m, σ', g, rl, sl, hl, p⟩ := h
  refine ⟨m, σ', g, rl, sl, hl, Post.bind p fun x g1 m1 H1 xv l1 r1 d1 p1 => ?_⟩
  split at p1
  · split at p1
    · rename_i ys hy
      refine ⟨ref_ty r1 d1 hy, m1, σ', g1, r1, sl.mono l1, hl, Post.bind p1 fun ds g2 m2 H2 vs l2 r2 d2 p2 => ?_⟩
      exact hs σ m2 g2 H2 _ xv ds vs Q r2 (d1.mono l2) d2 p2
    · exact p1.elim
  · exact p1.elim
def mAppend : Mt := fun i ds g => match ds with
  | [d] => match lmOf g i with
    | some xs => okIf (decide (xs.length < 100000)) .non (g.set i (.lst (xs ++ [d])))
    | none => .no
  | _ => .no
theorem mAppend_s {K : PySem.W.Frag} {W : WX} : MtS K W rAppend mAppend := fun σv m g H i x ds vs Q rl hx hd p => by
  unfold mAppend at p
  split at p
  · split at p
    · rename_i xs hxs
      obtain ⟨c, p⟩ := okIf_post p
      obtain ⟨v, ws, rfl, h3, h4⟩ := hd.consV
      obtain rfl := h4.nilV
      obtain ⟨a, us, rfl, h5, h6, h7⟩ := lmOf_s rl hx hxs
      refine ⟨a, us, v, rfl, rfl, h6, ?_, ?_⟩
      · rw [← h7.length, sizeLine_eq]
        have := of_decide_eq_true c
        omega
      · exact p m _ _ (Le.refl m) (rl.cellSet h5 ⟨_, rfl, h7.append (.cons h3 .nil)⟩) .non
    · exact p.elim
  · exact p.elim
def eAppend (o a : Ev) : Ev := eMeth mAppend o (aCons a aNil)
theorem x_append {X : Cx} {W : WX} {o e : Expr} {eo ee : Ev} {apos cpos : Pos} (ho : PE X o (tE X.K W eo)) (ha : PE X e (tE X.K W ee))
    (hbase : attributeBase o "append" X.env (eval o X.env) = eval o X.env := by rfl) (hst : starEach [e] X.env = (false, eval e X.env) :: starEach [] X.env := by rfl)
    (hfew : ((backTo cpos (starEach [e] X.env)).all (fun x => !x.1) && (backToKw cpos (keywordEach [] X.env)).all (fun x => x.1.isSome) && decide (([e] : List Expr).length + ([] : List Keyword).length + (if ([] : List Keyword).isEmpty then 0 else 1) < 30)) = true := by rfl)
    (hline : (apos.endLine == cpos.line) = true := by rfl) (hplain : (backTo cpos (starEach [] X.env)).any (·.1) = false := by rfl) :
    PE X (.Call (.Attribute o "append" apos) [e] [] cpos) (tE X.K W (eAppend eo ee)) :=
  PE.imp (pe_bm PySem.F.plainAttrs_list PySem.F.slot_list_append PySem.F.type_list_append mt_append ho (a_cons (W := W) ha a_nil hst) hbase hfew hline hst hplain) fun _ _ _ h => tBM_of mAppend_s h
/-! ### list(range(..)), tuple(range(..)) -/
def rgOk (a b : Int) : Bool := smallI a && smallI b && decide (b - a ≤ 100000)
theorem rgOk_s {a b : Int} (h : rgOk a b = true) : RgOk a b := by
  unfold rgOk at h
  rw [Bool.and_eq_true, Bool.and_eq_true] at h
  obtain ⟨h1, h2⟩ := smallI_ok h.1.1
  obtain ⟨h3, h4⟩ := smallI_ok h.1.2
  have h5 := of_decide_eq_true h.2
  exact ⟨h1, h2, h3, h4, by omega⟩
theorem rg_dens {K : PySem.W.Frag} {m : Md} : ∀ (n : Nat) (a : Int), Dens K m (rangeD a n) ((List.range n).map fun i => V.int (a + (i : Nat)))
  | 0, _ => .nil
  | n + 1, a => by
    rw [List.range_succ_eq_map, List.map_cons, List.map_map]
    refine .cons (by rw [Int.natCast_zero, Int.add_zero]; exact .int) ?_
    have h := rg_dens (K := K) (m := m) n (a + 1)
    have e : ((fun i => V.int (a + (i : Nat))) ∘ Nat.succ) = (fun i : Nat => V.int (a + 1 + (i : Nat))) := by
      funext i
      show V.int (a + ((i + 1 : Nat) : Int)) = _
      congr 1
      omega
    rw [e]
    exact h
def rgBody (k : List D → G → Res D) (a b : Int) (g : G) : Res D := match rgOk a b with
  | true => k (rangeD a (b - a).toNat) g
  | false => .no
def rg1 (k : List D → G → Res D) (a : Ev) : Ev := fun σ g => (a σ g).bind fun x g1 => match x with
  | .int n => rgBody k 0 n g1
  | _ => .no
def rg2 (k : List D → G → Res D) (a b : Ev) : Ev := fun σ g => (a σ g).bind fun x g1 => (b σ g1).bind fun y g2 => match x, y with
  | .int i, .int j => rgBody k i j g2
  | _, _ => .no
def kL : List D → G → Res D := fun xs g => .ok (.lst xs) g
def kM : List D → G → Res D := fun xs g => .ok (.ref g.length) (g ++ [.lst xs])
def kT : List D → G → Res D := fun xs g => .ok (.tup xs) g
abbrev eListRg1 := rg1 kL
abbrev eListRg2 := rg2 kL
abbrev eListRg1M := rg1 kM
abbrev eListRg2M := rg2 kM
abbrev eTupleRg1 := rg1 kT
abbrev eTupleRg2 := rg2 kT
section
variable {X : Cx} {W : WX} {a b : Expr} {ea eb : Ev} {k : List D → G → Res D} {p p2 pos pos2 : Pos} {te : (St → Hp → (Int → Int → Hp → Prop) → Prop) → TE}
theorem rg1_of {K : PySem.W.Frag} {fin : Int → Int → Hp → VK → Prop} (hk : ∀ σv m g H i j Q, Rel K m g H → Post K W σv (Den K) (rgBody k i j g) m Q → fin i j H Q) {σ : L2.St} {H : Hp} {Q : VK} (h : tE K W (rg1 k ea) σ H Q) : tRg1 (tE K W ea) σ H (fun i j H1 => fin i j H1 Q) := by
  obtain ⟨m, σ', g, rl, sl, hl, p⟩ := h
  refine ⟨m, σ', g, rl, sl, hl, Post.bind p fun x g1 m1 H1 xv l1 r1 d1 p1 => ?_⟩
  split at p1
  · cases d1
    exact ⟨_, rfl, hk σ m1 g1 H1 _ _ Q r1 p1⟩
  · exact p1.elim
theorem rg2_of {K : PySem.W.Frag} {fin : Int → Int → Hp → VK → Prop} (hk : ∀ σv m g H i j Q, Rel K m g H → Post K W σv (Den K) (rgBody k i j g) m Q → fin i j H Q) {σ : L2.St} {H : Hp} {Q : VK} (h : tE K W (rg2 k ea eb) σ H Q) : tRg2 (tE K W ea) (tE K W eb) σ H (fun i j H1 => fin i j H1 Q) := by
  obtain ⟨m, σ', g, rl, sl, hl, p⟩ := h
  refine ⟨m, σ', g, rl, sl, hl, Post.bind p fun x g1 m1 H1 xv l1 r1 d1 p1 => ?_⟩
  refine ⟨m1, σ', g1, r1, sl.mono l1, hl, Post.bind p1 fun y g2 m2 H2 yv l2 r2 d2 p2 => ?_⟩
  split at p2
  · have d1' := d1.mono l2
    cases d1'
    cases d2
    exact ⟨_, _, rfl, rfl, hk σ m2 g2 H2 _ _ Q r2 p2⟩
  · exact p2.elim
theorem kL_fin {K : PySem.W.Frag} (σv : L2.St) (m : Md) (g : G) (H : Hp) (i j : Int) (Q : VK) (rl : Rel K m g H) (p : Post K W σv (Den K) (rgBody kL i j g) m Q) : RgOk i j ∧ ∀ q, H q = none → Q (.ref q) (upd H q (.lst (rgV i j))) := by
  unfold rgBody at p
  split at p
  · rename_i h
    exact ⟨rgOk_s h, fin_lst rl (rg_dens _ i) p⟩
  · exact p.elim
theorem kT_fin {K : PySem.W.Frag} (σv : L2.St) (m : Md) (g : G) (H : Hp) (i j : Int) (Q : VK) (rl : Rel K m g H) (p : Post K W σv (Den K) (rgBody kT i j g) m Q) : RgOk i j ∧ ∀ q, H q = none → Q (.ref q) (upd H q (.tup (rgV i j))) := by
  unfold rgBody at p
  split at p
  · rename_i h
    exact ⟨rgOk_s h, fin_tup rl (rg_dens _ i) p⟩
  · exact p.elim
theorem kM_fin {K : PySem.W.Frag} (σv : L2.St) (m : Md) (g : G) (H : Hp) (i j : Int) (Q : VK) (rl : Rel K m g H) (p : Post K W σv (Den K) (rgBody kM i j g) m Q) : RgOk i j ∧ ∀ q, H q = none → Q (.ref q) (upd H q (.lst (rgV i j))) := by
  unfold rgBody at p
  split at p
  · rename_i h
    exact ⟨rgOk_s h, fun l hl => p _ _ _ (le_cell rl.fresh) (rl.cellAdd hl ⟨_, rfl, rg_dens _ i⟩) den_cell⟩
  · exact p.elim
theorem PRg.imp {e : Expr} {t : St → Hp → (Int → Int → Hp → Prop) → Prop} (h : PRg X e t) : PRg X e t := h
theorem x_listRg1 (hc : X.calm = true) (hg : Gl X "list") (hm : X.mg "list" = none) (hg2 : Gl X "range") (hm2 : X.mg "range" = none) (ha : PE X a (tE X.K W ea)) (na : starEach [a] X.env = (false, eval a X.env) :: starEach [] X.env := by rfl) (na2 : starEach [.Call (.Name "range" p2) [a] [] pos2] X.env = (false, eval (.Call (.Name "range" p2) [a] [] pos2) X.env) :: starEach [] X.env := by rfl) :
    PE X (.Call (.Name "list" p) [.Call (.Name "range" p2) [a] [] pos2] [] pos) (tE X.K W (eListRg1 ea)) := PE.imp (pe_listRg hc hg hm (prg_1 hg2 hm2 ha na) na2) fun _ _ _ h => rg1_of (fin := fun i j H Q => RgOk i j ∧ ∀ q, H q = none → Q (.ref q) (upd H q (.lst (rgV i j)))) kL_fin h
theorem x_listRg1M (hc : X.calm = true) (hg : Gl X "list") (hm : X.mg "list" = none) (hg2 : Gl X "range") (hm2 : X.mg "range" = none) (ha : PE X a (tE X.K W ea)) (na : starEach [a] X.env = (false, eval a X.env) :: starEach [] X.env := by rfl) (na2 : starEach [.Call (.Name "range" p2) [a] [] pos2] X.env = (false, eval (.Call (.Name "range" p2) [a] [] pos2) X.env) :: starEach [] X.env := by rfl) :
    PE X (.Call (.Name "list" p) [.Call (.Name "range" p2) [a] [] pos2] [] pos) (tE X.K W (eListRg1M ea)) := PE.imp (pe_listRg hc hg hm (prg_1 hg2 hm2 ha na) na2) fun _ _ _ h => rg1_of (fin := fun i j H Q => RgOk i j ∧ ∀ q, H q = none → Q (.ref q) (upd H q (.lst (rgV i j)))) kM_fin h
theorem x_tupleRg1 (hc : X.calm = true) (hg : Gl X "tuple") (hm : X.mg "tuple" = none) (hg2 : Gl X "range") (hm2 : X.mg "range" = none) (ha : PE X a (tE X.K W ea)) (na : starEach [a] X.env = (false, eval a X.env) :: starEach [] X.env := by rfl) (na2 : starEach [.Call (.Name "range" p2) [a] [] pos2] X.env = (false, eval (.Call (.Name "range" p2) [a] [] pos2) X.env) :: starEach [] X.env := by rfl) :
    PE X (.Call (.Name "tuple" p) [.Call (.Name "range" p2) [a] [] pos2] [] pos) (tE X.K W (eTupleRg1 ea)) := PE.imp (pe_tupRg hc hg hm (prg_1 hg2 hm2 ha na) na2) fun _ _ _ h => rg1_of (fin := fun i j H Q => RgOk i j ∧ ∀ q, H q = none → Q (.ref q) (upd H q (.tup (rgV i j)))) kT_fin h
theorem x_listRg2 (hc : X.calm = true) (hg : Gl X "list") (hm : X.mg "list" = none) (hg2 : Gl X "range") (hm2 : X.mg "range" = none) (ha : PE X a (tE X.K W ea)) (hb : PE X b (tE X.K W eb)) (na : starEach [a, b] X.env = (false, eval a X.env) :: starEach [b] X.env := by rfl) (nb : starEach [b] X.env = (false, eval b X.env) :: starEach [] X.env := by rfl) (hp : (backTo pos2 (starEach [b] X.env)).any (·.1) = false := by rfl)
    (na2 : starEach [.Call (.Name "range" p2) [a, b] [] pos2] X.env = (false, eval (.Call (.Name "range" p2) [a, b] [] pos2) X.env) :: starEach [] X.env := by rfl) :
    PE X (.Call (.Name "list" p) [.Call (.Name "range" p2) [a, b] [] pos2] [] pos) (tE X.K W (eListRg2 ea eb)) := PE.imp (pe_listRg hc hg hm (prg_2 hg2 hm2 ha hb na nb hp) na2) fun _ _ _ h => rg2_of (fin := fun i j H Q => RgOk i j ∧ ∀ q, H q = none → Q (.ref q) (upd H q (.lst (rgV i j)))) kL_fin h
theorem x_tupleRg2 (hc : X.calm = true) (hg : Gl X "tuple") (hm : X.mg "tuple" = none) (hg2 : Gl X "range") (hm2 : X.mg "range" = none) (ha : PE X a (tE X.K W ea)) (hb : PE X b (tE X.K W eb)) (na : starEach [a, b] X.env = (false, eval a X.env) :: starEach [b] X.env := by rfl) (nb : starEach [b] X.env = (false, eval b X.env) :: starEach [] X.env := by rfl) (hp : (backTo pos2 (starEach [b] X.env)).any (·.1) = false := by rfl)
    (na2 : starEach [.Call (.Name "range" p2) [a, b] [] pos2] X.env = (false, eval (.Call (.Name "range" p2) [a, b] [] pos2) X.env) :: starEach [] X.env := by rfl) :
    PE X (.Call (.Name "tuple" p) [.Call (.Name "range" p2) [a, b] [] pos2] [] pos) (tE X.K W (eTupleRg2 ea eb)) := PE.imp (pe_tupRg hc hg hm (prg_2 hg2 hm2 ha hb na nb hp) na2) fun _ _ _ h => rg2_of (fin := fun i j H Q => RgOk i j ∧ ∀ q, H q = none → Q (.ref q) (upd H q (.tup (rgV i j)))) kT_fin h
end
/-! ### the text's facts, by names -/
theorem units64 {k : Nat} {A : Around} (hr : Room k A) : A.units + 64 < cLine := hr.units
theorem units65 {k : Nat} {A : Around} (hr : Room k A) : A.units + 65 < cLine := by have := hr.un; omega
theorem bt_abs : bootBuiltins "abs" = some (.builtin "abs") := by decide +kernel
theorem bt_any : bootBuiltins "any" = some (.builtin "any") := by decide +kernel
theorem bt_all : bootBuiltins "all" = some (.builtin "all") := by decide +kernel
theorem bt_len : bootBuiltins "len" = some (.builtin "len") := by decide +kernel
theorem bt_max : bootBuiltins "max" = some (.builtin "max") := by decide +kernel
theorem bt_min : bootBuiltins "min" = some (.builtin "min") := by decide +kernel
theorem bt_sum : bootBuiltins "sum" = some (.builtin "sum") := by decide +kernel
theorem bt_int : bootBuiltins "int" = some (.type "int") := by decide +kernel
theorem bt_bool : bootBuiltins "bool" = some (.type "bool") := by decide +kernel
theorem bt_str : bootBuiltins "str" = some (.type "str") := by decide +kernel
theorem bt_list : bootBuiltins "list" = some (.type "list") := by decide +kernel
theorem bt_tuple : bootBuiltins "tuple" = some (.type "tuple") := by decide +kernel
theorem bt_dict : bootBuiltins "dict" = some (.type "dict") := by decide +kernel
/-! ### comparisons as tests -/
def eTst (a : Ev) : Tv := fun σ g => (a σ g).bind fun d g1 => match d with
  | .bl c => .ok c g1
  | _ => .no
section
variable {X : Cx} {W : WX} {a b c e : Expr} {ea eb ec ev : Ev} {pos : Pos}
theorem t_test {t : TE} (h : PT X e (tTest t)) (hs : ∀ σ H Q, tE X.K W ev σ H Q → t σ H Q) : PT X e (tT X.K W (eTst ev)) :=
  PT.imp h fun σ H Q h => by
    refine hs _ _ _ ?_
    obtain ⟨m, σ', g, rl, sl, hl, p⟩ := h
    refine ⟨m, σ', g, rl, sl, hl, Post.bind p fun d g1 m1 H1 x l1 r1 d1 p1 => ?_⟩
    split at p1
    · cases d1
      exact ⟨_, rfl, fin_ok r1 rfl p1⟩
    · exact p1.elim
theorem t_cmp {op : CmpOp} {r : R2} {f : Op2} (ho : OpR X (compareOp op) r) (hs : OpS X.K W r f) (ha : PE X a (tE X.K W ea)) (hb : PE X b (tE X.K W eb))
    (hm : behindInMarks op b = false) : PT X (.Compare a [op] [b] pos) (tT X.K W (eTst (eOp f ea eb))) :=
  t_test (pt_cmpR ho ha hb hm) fun _ _ _ h => tOp_of hs h
theorem t_chain {op op' : CmpOp} {r r' : R2} {f f' : Op2} (ho : OpR X (compareOp op) r) (ho' : OpR X (compareOp op') r')
    (hs : ∀ σv m g H d e x y Q, Rel X.K m g H → Den X.K m d x → Den X.K m e y → Post X.K W σv (Den X.K) (f d e g) m Q → r x y H Q) (hs' : OpS X.K W r' f')
    (ha : PE X a (tE X.K W ea)) (hb : PE X b (tE X.K W eb)) (hc : PE X c (tE X.K W ec))
    (hm : lastMarks [op, op'] [b, c] = false := by with_unfolding_all rfl) :
    PT X (.Compare a [op, op'] [b, c] pos) (tT X.K W (eTst (eChain f f' ea eb ec))) :=
  t_test (L2.pt_chain ho ho' ha hb hc hm) fun σ H Q h => by
    obtain ⟨m, σ', g, rl, sl, hl, p⟩ := h
    refine ⟨m, σ', g, rl, sl, hl, Post.bind p fun d g1 m1 H1 x l1 r1 d1 p1 => ?_⟩
    refine ⟨m1, σ', g1, r1, sl.mono l1, hl, Post.bind p1 fun e g2 m2 H2 y l2 r2 d2 p2 => ?_⟩
    refine hs σ m2 g2 H2 d e x y _ r2 (d1.mono l2) d2 (Post.bind p2 fun z g3 m3 H3 zv l3 r3 d3 p3 => ?_)
    split at p3
    · cases d3
      refine ⟨true, rfl, ?_⟩
      rw [if_pos rfl]
      refine ⟨m3, σ', g3, r3, ((sl.mono l1).mono l2).mono l3, hl, Post.bind p3 fun w' g4 m4 H4 wv l4 r4 d4 p4 => ?_⟩
      exact hs' σ m4 g4 H4 e w' y wv Q r4 ((d2.mono l3).mono l4) d4 p4
    · cases d3
      refine ⟨false, rfl, ?_⟩
      rw [if_neg Bool.false_ne_true]
      exact fin_ok r3 .bl p3
    · exact p3.elim
end
end AW
/-! Ax: constants and tables that stand in the text's top. -/
namespace AW
open PySem PySem.Spec L2
abbrev _root_.He.Fa.okB (f : He.Fa) (K : PySem.W.Frag) : Bool := f.ok K
/-! ### a value of the top that is told by data -/
mutual
def litB (K : PySem.W.Frag) : D → Value → Bool
  | .non, u => (match u with | .none => true | _ => false)
  | .bl b, u => (match u with | .bool c => decide (b = c) | _ => false)
  | .int i, u => (match u with | .int j _ => decide (i = j) | _ => false)
  | .str x, u => (match u with | .str y _ => decide (x = y) | _ => false)
  | .tup ds, u => (match u with
    | .ref a => (match K.lookup a with
      | some ⟨.type c, _, .seq its _, _⟩ => decide (c = "tuple") && (decide (its.size ≤ 100000) && litsB K ds its.toList)
      | _ => false)
    | _ => false)
  | .lst _, _ => false
  | .seq _, _ => false
  | .dct _ _, _ => false
  | .dtt _ _, _ => false
  | .ins _ _, _ => false
  | .glo _, _ => false
  | .ref _, _ => false
  | .val _, _ => false
def litsB (K : PySem.W.Frag) : List D → List Value → Bool
  | [], us => (match us with
    | [] => true
    | _ :: _ => false)
  | d :: ds, us => (match us with
    | u :: us => litB K d u && litsB K ds us
    | [] => false)
end
mutual
theorem litB_s {K : PySem.W.Frag} : ∀ {d : D} {u : Value}, litB K d u = true → ∃ v, RelV v u ∧ ∀ m, Den K m d v
  | .non, u, h => by
    rw [litB.eq_def] at h
    dsimp only at h
    split at h
    · exact ⟨.non, rfl, fun _ => .non⟩
    · cases h
  | .bl b, u, h => by
    rw [litB.eq_def] at h
    dsimp only at h
    split at h
    · cases of_decide_eq_true h
      exact ⟨.bl b, rfl, fun _ => .bl⟩
    · cases h
  | .int i, u, h => by
    rw [litB.eq_def] at h
    dsimp only at h
    split at h
    · cases of_decide_eq_true h
      exact ⟨.int i, ⟨_, rfl⟩, fun _ => .int⟩
    · cases h
  | .str x, u, h => by
    rw [litB.eq_def] at h
    dsimp only at h
    split at h
    · cases of_decide_eq_true h
      exact ⟨.str x, ⟨_, rfl⟩, fun _ => .str⟩
    · cases h
  | .tup ds, u, h => by
    rw [litB.eq_def] at h
    dsimp only at h
    split at h
    · rename_i a
      split at h
      · rename_i c od its n sl hk
        rw [Bool.and_eq_true, Bool.and_eq_true] at h
        obtain ⟨h1, h2, h3⟩ := h
        obtain ⟨vs, h4, h5⟩ := litsB_s h3
        refine ⟨.ref a, rfl, fun m => .tup (.inr ⟨_, its, n, hk, ?_, rfl, ?_, h4⟩) (h5 m)⟩
        · rw [of_decide_eq_true h1]
        · rw [sizeLine_eq]
          have := of_decide_eq_true h2
          omega
      · cases h
    · cases h
  | .lst _, _, h => by rw [litB.eq_def] at h; cases h
  | .seq _, _, h => by rw [litB.eq_def] at h; cases h
  | .dct _ _, _, h => by rw [litB.eq_def] at h; cases h
  | .dtt _ _, _, h => by rw [litB.eq_def] at h; cases h
  | .ins _ _, _, h => by rw [litB.eq_def] at h; cases h
  | .glo _, _, h => by rw [litB.eq_def] at h; cases h
  | .ref _, _, h => by rw [litB.eq_def] at h; cases h
  | .val _, _, h => by rw [litB.eq_def] at h; cases h
theorem litsB_s {K : PySem.W.Frag} : ∀ {ds : List D} {us : List Value}, litsB K ds us = true → ∃ vs, Vals vs us ∧ ∀ m, Dens K m ds vs
  | [], us, h => by
    rw [litsB.eq_def] at h
    dsimp only at h
    cases us with
    | nil => exact ⟨[], .nil, fun _ => .nil⟩
    | cons u us => cases h
  | d :: ds, us, h => by
    rw [litsB.eq_def] at h
    dsimp only at h
    split at h
    · rw [Bool.and_eq_true] at h
      obtain ⟨v, h1, h2⟩ := litB_s h.1
      obtain ⟨vs, h3, h4⟩ := litsB_s h.2
      exact ⟨v :: vs, .cons h1 h3, fun m => .cons (h2 m) (h4 m)⟩
    · cases h
end
def glD (x : Str) (d : D) (K : PySem.W.Frag) : Bool := match PySem.W.nsIn K mainGlobals x with
  | some (some u) => litB K d u
  | _ => false
/-- a dict of the top: text keys, whole numbers -/
def kdI (x : Str) (tb : List (Str × Int)) (K : PySem.W.Frag) : Bool := tb.all fun q => match PySem.W.nsIn K (He.ga K x) q.1 with
  | some (some (.int j _)) => decide (j = q.2)
  | _ => false
/-! ### what the head tells -/
abbrev AlB : Type := Bool × (List He5.FnW × List (Option (List (Option (Str × Int)))))
/-- which addresses the head looks at -/
abbrev Reach : Type := (Addr → Option Obj) → List Addr
def rootsN (g : Addr → Option Obj) (xs : List Str) : List Addr := xs.filterMap fun x => match PySem.W.nsIn (He.frG g [mainGlobals]) mainGlobals x with
  | some (some (.ref a)) => some a
  | _ => none
def growN (g : Addr → Option Obj) : Nat → List Addr → List Addr
  | 0, as => as
  | n + 1, as => growN g n (He.growD g as)
/-- what the names xs reach in three steps, the names ys in one, and the top itself -/
def asN (xs ys : List Str) : Reach := fun g => mainGlobals :: cStatics :: (growN g 3 (rootsN g xs) ++ growN g 1 (rootsN g ys))
abbrev kB (n : Reach) (gt : Addr → Option Obj) : PySem.W.Frag := He.frT gt (n gt)
def obsB (n : Reach) (ex : List (PySem.W.Frag → Bool)) (fn : List He5.DefA) (ts : List He.Tab) (tf : List He.Defn) (gt : Addr → Option Obj) : AlB :=
  ((ex.all fun b => b (kB n gt)) && ((fn.all fun d => d.ok (kB n gt)) && He.tabsB gt tf (kB n gt)), fn.map (fun d => He5.fnA (kB n gt) (d.at_ (kB n gt))), ts.map fun t => He.dicW (kB n gt) (t.1 (kB n gt)))
def valB (fn : List He5.DefA) (ts : List He.Tab) (w : World) : AlB := (true, fn.map He5.DefA.val, ts.map fun t => some (He.keysIn w.params t.2))
structure SaysB (ex : List (PySem.W.Frag → Bool)) (fn : List He5.DefA) (ts : List He.Tab) (tf : List He.Defn) (w : World) (h : Heap) (K : PySem.W.Frag) : Prop where
  ex : ∀ b ∈ ex, b K = true
  df : ∀ d ∈ fn, d.ok K = true
  dv : fn.map (fun d => He5.fnA K (d.at_ K)) = fn.map He5.DefA.val
  tv : ts.map (fun t => He.dicW K (t.1 K)) = ts.map fun t => some (He.keysIn w.params t.2)
  hd : ∀ p ∈ tf, PySem.W.codeHdIn K (He.cT K p).1 (He.cT K p).2 = true
  out : ∀ p ∈ tf, K.lookup (He.cT K p).2 = none
  emp : ∀ p ∈ tf, h.get? (He.cT K p).2 = some { cls := .none, data := .fields #[] }
theorem saysB_of {n : Reach} {ex : List (PySem.W.Frag → Bool)} {fn : List He5.DefA} {ts : List He.Tab} {tf : List He.Defn} {w : World} {h : Heap} (e : obsB n ex fn ts tf h.get? = valB fn ts w) : SaysB ex fn ts tf w h (kB n h.get?) := by
  have e1 := congrArg Prod.fst e
  have e2 := congrArg Prod.snd e
  have b1 : ((ex.all fun b => b (kB n h.get?)) && ((fn.all fun d => d.ok (kB n h.get?)) && He.tabsB h.get? tf (kB n h.get?))) = true := e1
  rw [Bool.and_eq_true, Bool.and_eq_true] at b1
  obtain ⟨b1, b2, b3⟩ := b1
  have tb : ∀ p ∈ tf, PySem.W.codeHdIn (kB n h.get?) (He.cT (kB n h.get?) p).1 (He.cT (kB n h.get?) p).2 = true ∧ ∃ o, h.get? (He.cT (kB n h.get?) p).2 = some o ∧ He.emptyTab o = true := fun p hp => by
    have q := List.all_eq_true.mp b3 p hp
    rw [Bool.and_eq_true] at q
    refine ⟨q.1, ?_⟩
    cases z : h.get? (He.cT (kB n h.get?) p).2 with
    | none => have q2 := q.2; rw [z] at q2; cases q2
    | some o => have q2 := q.2; rw [z] at q2; exact ⟨o, rfl, q2⟩
  exact ⟨fun b hb => List.all_eq_true.mp b1 b hb, fun d hd => List.all_eq_true.mp b2 d hd, congrArg Prod.fst e2, congrArg Prod.snd e2, fun p hp => (tb p hp).1,
    fun p hp => by obtain ⟨_, o, z, q⟩ := tb p hp; exact He.frT_none z q, fun p hp => by obtain ⟨_, o, z, q⟩ := tb p hp; rw [z, He.emptyTab_eq q]⟩
def hookB (n : Reach) (ex : List (PySem.W.Frag → Bool)) (fn : List He5.DefA) (ts : List He.Tab) (tf : List He.Defn) : PySem.W.Hook where
  α := AlB
  obs := fun s => obsB n ex fn ts tf s.heap.get?
  val := fun w => valB fn ts w
  says := fun w h => ∃ K : PySem.W.Frag, K.In h ∧ SaysB ex fn ts tf w h K
  of := fun _ h e => ⟨kB n h.heap.get?, He.frT_in, saysB_of e⟩
  keeps := fun _ _ _ ⟨K, hK, c⟩ k => ⟨K, PySem.W.Frag.In.keeps hK k, ⟨c.ex, c.df, c.dv, c.tv, c.hd, c.out, fun p hp => k _ _ (c.emp p hp)⟩⟩
theorem obsB_eq {n : Reach} {ex : List (PySem.W.Frag → Bool)} {fn : List He5.DefA} {ts : List He.Tab} {tf : List He.Defn} {gt : Addr → Option Obj} {s : Shared} (h : ∀ a, gt a = s.heap.get? a) : obsB n ex fn ts tf gt = (hookB n ex fn ts tf).obs s := by
  rw [show gt = s.heap.get? from funext h]
  rfl
/-- a module's name that is a built-in function -/
def bfB (x : Str) (id : String) (K : PySem.W.Frag) : Bool := He.eqO (PySem.W.nsIn K mainGlobals x) (some (some (.builtin id)))
/-- the text's facts: by their places -/
structure Tx (ex : List (PySem.W.Frag → Bool)) (fn : List He5.DefA) (ts : List He.Tab) (w : World) (K : PySem.W.Frag) (mg : Str → Option Value) : Prop where
  ex : ∀ b ∈ ex, b K = true
  fd : ∀ (i : Nat) (d : He5.DefA), fn[i]? = some d → ∃ fd, FunD K d.name d.qual d.params d.body d.scope (d.dvs K) (d.kws K) (d.at_ K) fd
  gl : ∀ x, (He.Fa.glo x).ok K = true → mg x = some (.ref (ga K x))
  fr : ∀ x, (He.Fa.free x).ok K = true → mg x = none
  it : ∀ x i, (He.Fa.int x i).ok K = true → ∃ t, mg x = some (.int i t)
  li : ∀ x d, glD x d K = true → ∃ u v, mg x = some u ∧ RelV v u ∧ ∀ m, Den K m d v
  kd : ∀ (i : Nat) (t : He.Tab), ts[i]? = some t → ∃ es n, KDict K w (t.1 K) es n
  bf : ∀ x id, bfB x id K = true → mg x = some (.builtin id)
section
variable {ex : List (PySem.W.Frag → Bool)} {fn : List He5.DefA} {ts : List He.Tab} {tf : List He.Defn} {w : World} {K : PySem.W.Frag} {mg : Str → Option Value}
theorem Tx.at_ (T : Tx ex fn ts w K mg) (i : Nat) {b : PySem.W.Frag → Bool} (h : ex[i]? = some b) : b K = true := T.ex b (List.mem_of_getElem? h)
theorem tx_of {h : Heap} (inK : K.In h) (N : h.Ns mainGlobals mg) (c : SaysB ex fn ts tf w h K) : Tx ex fn ts w K mg where
  ex := c.ex
  fd := fun i d hd => by
    have e : (fn.map fun d => He5.fnA K (d.at_ K))[i]? = (fn.map He5.DefA.val)[i]? := by rw [c.dv]
    rw [List.getElem?_map, List.getElem?_map, hd] at e
    exact He5.DefA.funD (Option.some.inj e) (c.df d (List.mem_of_getElem? hd))
  gl := fun x q => He.glo_ok inK N q
  fr := fun x q => He.free_ok inK N q
  it := fun x i q => He.int_ok inK N q
  li := fun x d q => by
    unfold glD at q
    split at q
    · rename_i u hu
      obtain ⟨v, h1, h2⟩ := litB_s q
      exact ⟨u, v, PySem.W.mg_of inK N hu, h1, h2⟩
    · cases q
  kd := fun i t ht => by
    have e : (ts.map fun t => He.dicW K (t.1 K))[i]? = (ts.map fun t => some (He.keysIn w.params t.2))[i]? := by rw [c.tv]
    rw [List.getElem?_map, List.getElem?_map, ht] at e
    exact He.dicW_ok (Option.some.inj e)
  bf := fun x id q => PySem.W.mg_of inK N (He.eqO_ok q)
end
def kdGet (tb : List (Str × Int)) (z : Str) : Option Int := match tb with
  | [] => none
  | q :: r => if q.1 = z then some q.2 else kdGet r z
theorem kdGet_mem : ∀ {tb : List (Str × Int)} {z : Str} {i : Int}, kdGet tb z = some i → (z, i) ∈ tb
  | [], _, _, h => by cases h
  | q :: r, z, i, h => by
    unfold kdGet at h
    split at h
    · rename_i e
      cases h
      rw [← e]
      exact List.mem_cons_self ..
    · exact List.mem_cons_of_mem _ (kdGet_mem h)
def eKd (tb : List (Str × Int)) (e : Ev) : Ev := fun σ g => (e σ g).bind fun d g1 => match d with
  | .str z => match kdGet tb z with
    | some i => .ok (.int i) g1
    | none => .no
  | _ => .no
theorem x_kd {X : Cx} {W : WX} {x : Str} {tb : List (Str × Int)} {b : Expr} {eb : Ev} {p pos : Pos} {es : Array DictEntry} {n : Nat} (D : KDict X.K X.w (He.ga X.K x) es n) (hv : kdI x tb X.K = true) (hg : Gl X x) (hm : X.mg x = some (.ref (He.ga X.K x))) (hb : PE X b (tE X.K W eb))
    (hd : (x == ("__debug__" : Str)) = false := by decide) (hs : PlainIx b := by exact fun _ _ => rfl) : PE X (.Subscript (.Name x p) b pos) (tE X.K W (eKd tb eb)) :=
  PE.imp (pe_ix ix_kdict (pe_glob (v := .ref (He.ga X.K x)) hg hm rfl hd) hb hs) fun σ H Q h => by
    obtain ⟨m, σ', g, rl, sl, hl, q⟩ := h
    refine ⟨m, σ', g, rl, sl, hl, Post.bind q fun d g1 m1 H1 v l1 r1 d1 p1 => ?_⟩
    split at p1
    · rename_i z
      split at p1
      · rename_i i hi
        cases d1
        have h1 := List.all_eq_true.mp hv _ (kdGet_mem hi)
        dsimp only at h1
        split at h1
        · rename_i j t hj
          cases of_decide_eq_true h1
          exact ⟨_, z, .int i, rfl, rfl, ⟨es, n, _, D.at_, D.lit, hj, ⟨t, rfl⟩⟩, fin_ok r1 .int p1⟩
        · cases h1
      · exact p1.elim
    · exact p1.elim
end AW
/-! Bw12: own classes with slots: isinstance. -/
namespace AW
open PySem PySem.Spec L2
/-! ### instances as they stand in the heap -/
theorem ins_slt {K : PySem.W.Frag} {m : Md} {g : G} {H : Hp} (r : Rel K m g H) {c : Str} {xs : List D} {v : V} (h : Den K m (.ins c xs) v) : ∃ a dx vs, v = .ref a ∧ SlX.Slt H a (ga K c) dx (vs.map some) ∧ Dens K m xs vs := by
  cases h with
  | ins h1 h2 h3 => exact ⟨_, _, _, rfl, .inr ⟨r.ex _ _ h1, r.ex _ _ h2⟩, h3⟩
theorem cell_slt {K : PySem.W.Frag} {m : Md} {g : G} {H : Hp} (r : Rel K m g H) {i : Nat} {c : Str} {fs : List (Option D)} {v : V} (h : Den K m (.ref i) v) {j : Nat} (e : g[i]? = some (.ins c j fs)) (ex : g[j]? = some .xd) :
    ∃ a dx ws, v = .ref a ∧ m.r i = some a ∧ m.r j = some dx ∧ H a = some (SlX.SlO a (ga K c) dx ws) ∧ SlX.Slt H a (ga K c) dx ws ∧ ws.length ≤ fs.length ∧ FldOk K m fs ws := by
  cases h with
  | ref h1 =>
    obtain ⟨a, e1, _, o, e2, dx, ws, e3, ed, el, e4⟩ := r.cell _ _ e
    rw [h1] at e1
    cases e1
    subst e3
    obtain ⟨b2, f1, _, o2, f2, f3⟩ := r.cell _ _ ex
    rw [ed] at f1
    cases f1
    have f3' : o2 = .xd [] := f3
    subst f3'
    exact ⟨_, dx, ws, rfl, h1, ed, e2, .inr ⟨e2, f2⟩, el, e4⟩
/-! ### isinstance -/
inductive CK where
  | bt (k : TK)
  | own (c : Str)
def TK.all : List TK := [.non, .bl, .int, .str, .tup, .lst, .dct]
theorem TK.mem (k : TK) : k ∈ TK.all := by cases k <;> simp [TK.all]
structure IsF (own : List Str) (K : PySem.W.Frag) : Prop where
  sc : ∀ c ∈ own, SlX.SCls K (ga K c)
  si : ∀ c ∈ own, SlX.SIsi K (ga K c)
  oo : ∀ c ∈ own, ∀ c' ∈ own, PySem.W.kitOne K (.ref (ga K c)) (.ref (ga K c')) = some (decide (c = c'))
  ob : ∀ c ∈ own, ∀ k : TK, PySem.W.kitOne K (.ref (ga K c)) (.type k.name) = some false
  bo : ∀ c ∈ own, ∀ k : TK, PySem.W.kitOne K (.type k.name) (.ref (ga K c)) = some false
def clsB (c : Str) (K : PySem.W.Frag) : Bool :=
  (PySem.W.plainGet K (ga K c) Str.empty && (PySem.W.isClsIn K (ga K c) && (PySem.W.plainOver K (ga K c) && decide (PySem.W.findIn K (.ref (ga K c)) "__setattr__" = some (some (.builtin "object.__setattr__")))))) &&
  (decide (PySem.W.findIn K (.ref (ga K c)) "__class__" = some (some (.builtin "object.__class__"))) && (decide (PySem.W.specialIn K (.builtin "object.__class__") "__get__" = some (some (.builtin "getset_descriptor.__get__"))) &&
    (decide (PySem.W.takesIn K (.builtin "object.__class__") = some true) && decide (PySem.W.mroIn K (ga K c) (.type "object") = some true))))
theorem clsB_s {c : Str} {K : PySem.W.Frag} (h : clsB c K = true) : SlX.SCls K (ga K c) ∧ SlX.SIsi K (ga K c) := by
  unfold clsB at h
  simp only [Bool.and_eq_true, decide_eq_true_eq] at h
  obtain ⟨⟨h1, h2, h3, h4⟩, h5, h6, h7, h8⟩ := h
  exact ⟨⟨h1, h2, h3, h4⟩, ⟨h5, h6, h7, h8⟩⟩
def isFB (own : List Str) (K : PySem.W.Frag) : Bool := own.all fun c => clsB c K && ((own.all fun c' => decide (PySem.W.kitOne K (.ref (ga K c)) (.ref (ga K c')) = some (decide (c = c')))) &&
  TK.all.all fun k => decide (PySem.W.kitOne K (.ref (ga K c)) (.type k.name) = some false) && decide (PySem.W.kitOne K (.type k.name) (.ref (ga K c)) = some false))
theorem isF_of {own : List Str} {K : PySem.W.Frag} (h : isFB own K = true) : IsF own K := by
  have key : ∀ c ∈ own, clsB c K = true ∧ (∀ c' ∈ own, PySem.W.kitOne K (.ref (ga K c)) (.ref (ga K c')) = some (decide (c = c'))) ∧ ∀ k : TK, PySem.W.kitOne K (.ref (ga K c)) (.type k.name) = some false ∧ PySem.W.kitOne K (.type k.name) (.ref (ga K c)) = some false := fun c hc => by
    have q := List.all_eq_true.mp h c hc
    rw [Bool.and_eq_true, Bool.and_eq_true] at q
    refine ⟨q.1, fun c' hc' => of_decide_eq_true (List.all_eq_true.mp q.2.1 c' hc'), fun k => ?_⟩
    have z := List.all_eq_true.mp q.2.2 k k.mem
    rw [Bool.and_eq_true] at z
    exact ⟨of_decide_eq_true z.1, of_decide_eq_true z.2⟩
  exact ⟨fun c hc => (clsB_s (key c hc).1).1, fun c hc => (clsB_s (key c hc).1).2, fun c hc => (key c hc).2.1, fun c hc k => ((key c hc).2.2 k).1, fun c hc k => ((key c hc).2.2 k).2⟩
def insOf (g : G) : D → Option Str
  | .ins c _ => some c
  | .ref i => match g[i]? with
    | some (.ins c j _) => match g[j]? with
      | some .xd => some c
      | _ => none
    | _ => none
  | _ => none
theorem insOf_s {K : PySem.W.Frag} {m : Md} {g : G} {H : Hp} {d : D} {v : V} {c : Str} (r : Rel K m g H) (h : Den K m d v) (e : insOf g d = some c) : ∃ a dx ws, v = .ref a ∧ SlX.Slt H a (ga K c) dx ws := by
  cases d with
  | ins c' xs =>
    cases e
    obtain ⟨a, dx, vs, h1, h2, _⟩ := ins_slt r h
    exact ⟨a, dx, _, h1, h2⟩
  | ref i =>
    have e' : (match g[i]? with | some (.ins c j _) => (match g[j]? with | some .xd => some c | _ => none) | _ => none) = some c := e
    split at e'
    · rename_i c' j fs hc
      split at e'
      · rename_i hx
        cases e'
        obtain ⟨a, dx, ws, h1, _, _, _, h2, _⟩ := cell_slt r h hc hx
        exact ⟨a, dx, ws, h1, h2⟩
      · cases e'
    · cases e'
  | _ => cases e
def isiOf (own : List Str) (g : G) (ck : CK) (d : D) : Option Bool := match insOf g d with
  | some c => if c ∈ own then (match ck with
    | .own c' => if c' ∈ own then some (decide (c = c')) else none
    | .bt _ => some false) else none
  | none => match tkOf g d with
    | some k => (match ck with
      | .own c' => if c' ∈ own then some false else none
      | .bt j => some (k.sub j))
    | none => none
def fIsi (own : List Str) (ck : CK) : Op1 := fun d g => match isiOf own g ck d with
  | some b => .ok (.bl b) g
  | none => .no
def eIsi (own : List Str) (ck : CK) (a : Ev) : Ev := fun σ g => (a σ g).bind fun d g1 => fIsi own ck d g1
def CK.v (K : PySem.W.Frag) : CK → V
  | .bt k => .ty k.name
  | .own c => .ref (ga K c)
def CK.u (K : PySem.W.Frag) : CK → Value
  | .bt k => .type k.name
  | .own c => .ref (ga K c)
theorem CK.rel (K : PySem.W.Frag) (ck : CK) : RelV (ck.v K) (ck.u K) := by cases ck <;> rfl
theorem CK.one {K : PySem.W.Frag} {ck : CK} {u : Value} (h : RelV (ck.v K) u) : u = ck.u K := by
  cases ck with
  | bt k => exact (show u = Value.type k.name from h)
  | own c => exact (show u = Value.ref (ga K c) from h)
theorem CK.clsV (K : PySem.W.Frag) (ck : CK) : ClsV (ck.v K) (ck.u K) := by
  cases ck with
  | bt k => exact .ty k.name
  | own c => exact .own _
theorem callR_or {X : Cx} {f : Value} {r r' : List V → Hp → VK → Prop} (h : CallR X f r) (h' : CallR X f r') : CallR X f (fun xs H Q => r xs H Q ∨ r' xs H Q) := fun pins s σ H xs us Q J rx q =>
  q.elim (fun q => h pins s σ H xs us Q J rx q) fun q => h' pins s σ H xs us Q J rx q
section
variable {X : Cx} {W : WX} {own : List Str} {a e2 : Expr} {ea : Ev} {p pos : Pos}
theorem x_isiG (ck : CK) (I : IsF own X.K) (hg : Gl X "isinstance") (hm : X.mg "isinstance" = none) (h2 : PE X e2 (tC (ck.v X.K))) (ha : PE X a (tE X.K W ea))
    (he : starEach [a, e2] X.env = (false, eval a X.env) :: starEach [e2] X.env := by rfl) (he2 : starEach [e2] X.env = (false, eval e2 X.env) :: starEach [] X.env := by rfl) (hpl : (backTo pos (starEach [e2] X.env)).any (·.1) = false := by rfl) :
    PE X (.Call (.Name "isinstance" p) [a, e2] [] pos) (tE X.K W (eIsi own ck ea)) :=
  PE.imp (pe_callB (callR_or call_isi (SlX.call_isiSl (ck.u X.K))) hg hm PyProof.Rows.boot_isinstance (pa_cons ha (pa_cons h2 pa_nil he2) he) (by decide) (by decide) he hpl) fun σ H Q h => by
    obtain ⟨m, σ', g, rl, sl, hl, q⟩ := h
    refine ⟨m, σ', g, rl, sl, hl, Post.bind q fun d g1 m1 H1 v l1 r1 d1 p1 => ?_⟩
    unfold fIsi at p1
    split at p1
    · rename_i b hb
      unfold isiOf at hb
      split at hb
      · rename_i c hc
        split at hb
        · rename_i hin
          obtain ⟨x, dx, ws, rfl, hs⟩ := insOf_s r1 d1 hc
          have fin : PySem.W.kitOne X.K (.ref (ga X.K c)) (ck.u X.K) = some b := by
            cases ck with
            | bt k => cases hb; exact I.ob c hin k
            | own c' =>
              dsimp only at hb
              split at hb
              · rename_i hin'
                cases hb
                exact I.oo c hin c' hin'
              · cases hb
          exact .inr ⟨x, ga X.K c, dx, ws, ck.v X.K, b, rfl, CK.rel _ _, fun w hw => CK.one hw, hs, I.sc c hin, I.si c hin, fin, fin_ok r1 .bl p1⟩
        · cases hb
      · split at hb
        · rename_i k hk
          have fin : PySem.W.kitOne X.K (.type k.name) (ck.u X.K) = some b := by
            cases ck with
            | bt j => cases hb; exact TK.kit X.K k j
            | own c' =>
              dsimp only at hb
              split at hb
              · rename_i hin'
                cases hb
                exact I.bo c' hin' k
              · cases hb
          exact .inl ⟨v, ck.v X.K, _, _, b, rfl, CK.clsV _ _, tkOf_s r1 d1 hk, fin, fin_ok r1 .bl p1⟩
        · cases hb
    · exact p1.elim
theorem x_isi {x : Str} {p2 : Pos} (k : TK) (I : IsF own X.K) (hg : Gl X "isinstance") (hm : X.mg "isinstance" = none) (hg2 : Gl X x) (hm2 : X.mg x = none) (hv2 : bootBuiltins x = some (.type k.name)) (ha : PE X a (tE X.K W ea))
    (hn : x ≠ "__name__" := by decide) (hdb : (x == ("__debug__" : Str)) = false := by decide)
    (he : starEach [a, .Name x p2] X.env = (false, eval a X.env) :: starEach [.Name x p2] X.env := by rfl) (he2 : starEach [.Name x p2] X.env = (false, eval (.Name x p2) X.env) :: starEach [] X.env := by rfl) (hpl : (backTo pos (starEach [.Name x p2] X.env)).any (·.1) = false := by rfl) :
    PE X (.Call (.Name "isinstance" p) [a, .Name x p2] [] pos) (tE X.K W (eIsi own (.bt k) ea)) :=
  x_isiG (.bt k) I hg hm (pe_bltn (v := .ty k.name) hg2 hm2 hv2 rfl hn hdb) ha he he2 hpl
theorem x_isiC {c : Str} {p2 : Pos} (I : IsF own X.K) (hg : Gl X "isinstance") (hm : X.mg "isinstance" = none) (hg2 : Gl X c) (hm2 : X.mg c = some (.ref (ga X.K c))) (ha : PE X a (tE X.K W ea))
    (hdb : (c == ("__debug__" : Str)) = false := by decide)
    (he : starEach [a, .Name c p2] X.env = (false, eval a X.env) :: starEach [.Name c p2] X.env := by rfl) (he2 : starEach [.Name c p2] X.env = (false, eval (.Name c p2) X.env) :: starEach [] X.env := by rfl) (hpl : (backTo pos (starEach [.Name c p2] X.env)).any (·.1) = false := by rfl) :
    PE X (.Call (.Name "isinstance" p) [a, .Name c p2] [] pos) (tE X.K W (eIsi own (.own c) ea)) :=
  x_isiG (.own c) I hg hm (pe_glob (v := .ref (ga X.K c)) hg2 hm2 rfl hdb) ha he he2 hpl
end
end AW
/-! Bx1: an exception class of the text over a built-in one, whose __init__ says super().__init__(..) and keeps one field. -/
namespace AW
open PySem PySem.W PySem.Calls PyProof.Rows
/-- the built-in classes that it may stand over -/
inductive XB where
  | ve | ix | ov | ar | lk
def XB.B : XB → String
  | .ve => "ValueError" | .ix => "IndexError" | .ov => "OverflowError" | .ar => "ArithmeticError" | .lk => "LookupError"
def XB.nw : XB → String
  | .ve => "ValueError.__new__" | .ix => "IndexError.__new__" | .ov => "OverflowError.__new__" | .ar => "ArithmeticError.__new__" | .lk => "LookupError.__new__"
def XB.it : XB → String
  | .ve => "ValueError.__init__" | .ix => "IndexError.__init__" | .ov => "OverflowError.__init__" | .ar => "ArithmeticError.__init__" | .lk => "LookupError.__init__"
def XB.bm : XB → List Value
  | .ve => [.type "ValueError", .type "Exception", .type "BaseException", .type "object"]
  | .ix => [.type "IndexError", .type "LookupError", .type "Exception", .type "BaseException", .type "object"]
  | .ov => [.type "OverflowError", .type "ArithmeticError", .type "Exception", .type "BaseException", .type "object"]
  | .ar => [.type "ArithmeticError", .type "Exception", .type "BaseException", .type "object"]
  | .lk => [.type "LookupError", .type "Exception", .type "BaseException", .type "object"]
theorem XB.fb : ∀ b : XB, ExcBaseFacts b.B b.nw b.it b.bm
  | .ve => PySem.F.excBase_ValueError
  | .ix => PySem.F.excBase_IndexError
  | .ov => PySem.F.excBase_OverflowError
  | .ar => PySem.F.excBase_ArithmeticError
  | .lk => PySem.F.excBase_LookupError
theorem XB.sf : ∀ b : XB, StoreFacts b.B b.bm "object.__setattr__" "object"
  | .ve => PySem.F.store_ValueError
  | .ix => PySem.F.store_IndexError
  | .ov => PySem.F.store_OverflowError
  | .ar => PySem.F.store_ArithmeticError
  | .lk => PySem.F.store_LookupError
theorem XB.kf : ∀ b : XB, KxsFacts b.B b.it
  | .ve => kxs_ValueError
  | .ix => kxs_IndexError
  | .ov => kxs_OverflowError
  | .ar => kxs_ArithmeticError
  | .lk => kxs_LookupError
/-! ### self.f = v -/
section
open Builtin Builtin.ObjectAttr
variable {prog : Program} {w : World} {A : Around} {E : Value → Shared → Prop} {hp : Heap} {g : Array GenState} {d : Drawn} {t : Nat} {os : OsState} {K : Frag} {x C ta : Addr} {name : Str} {v : Value} {cd : ClassData} {B : String} {bmB : List Value}
theorem low_set {Q : Unit → Shared → Prop} (SF : StoreFacts B bmB "object.__setattr__" "object") (X : K.In hp) (hx : hp.get? x = some (excObj C ta none .none)) (hcd : clsIn K C = some cd) (hh : cd.hasDict = true)
    (hs : findIn K (.ref C) "__setattr__" = some (some (.builtin "object.__setattr__"))) (ho : excOver K C bmB = true) (ht : takerIn K C name = some none)
    (hq : ∀ h' tk' dx, (∀ b o, b ≠ x → hp.get? b = some o → h'.get? b = some o) → hp.objs.size ≤ dx → dx ≠ x → h'.get? x = some (excObj C ta (some dx) .none) →
      h'.Ns1 dx (fun y => if y = name then some v else none) → Q () ⟨h', g, d, tk', os⟩) :
    wpAny (model prog w) A (setAttr (.ref x) name v) Q E ⟨hp, g, d, t, os⟩ := by
  have I : InstAt hp x (excObj C ta none .none) C none := ⟨hx, rfl, rfl, trivial⟩
  have nx : x ≠ hp.objs.size := Nat.ne_of_lt (Heap.lt_size hx)
  have cls : Looks (model prog w) hp (classData C) cd := looks_clsIn X hcd
  refine set_plain X I hs (osa_openX (s := ⟨hp, g, d, t + 1, os⟩) SF X I ho ht fun b => ?_)
  show wpAny _ _ (storeInOwnDict (.ref x) (.ref C) (.str name t) name v b) _ _ _
  obtain ⟨nm, bs, mro, ns, qn, hd, sn, sb, ab, col, del⟩ := cd
  dsimp only at hh
  subst hh
  unfold storeInOwnDict ownDictForStores
  repeat (first | with_reducible refine PySem.PX.store_in_new ?_ ?_ | with_reducible refine wpAny_loadPart_at hx ?_ | with_reducible refine cls.at ?_ | wp_step)
  · refine ⟨_, #[], _, (Heap.get?_update_ne _ _ _ _ nx.symm).trans (Heap.get?_push_at rfl rfl), rfl, fun e he => absurd he (by simp), fun _ => rfl⟩
  · intro h' tk' hn' sb
    have up : (hp.push { cls := .type "dict", data := .dict #[] }).get? x = some (excObj C ta none .none) := Heap.get?_push_of_some _ hx
    refine hq h' tk' hp.objs.size (fun b o hb e => ?_) (Nat.le_refl _) nx.symm ?_ hn'
    · rw [sb.2 b (Nat.ne_of_lt (Heap.lt_size e)), Heap.get?_update_ne _ _ _ _ hb]
      exact Heap.get?_push_of_some _ e
    · rw [sb.2 x nx]
      exact Heap.get?_update_self _ up rfl
end
/-! ### super().__init__(z) -/
section
variable {prog : Program} {w : World} {A : Around} {E : Value → Shared → Prop} {K : Frag} {C e ta : Addr} {mg mb : Str → Option Value}
/-- the bound built-in __init__ is called -/
theorem low_init {s : Shared} {u : Addr} {rest : List Value} {Q : Value → Shared → Prop} (b : XB) (X : K.In s.heap) (q : excInitIn K C b.bm b.nw = true) (hu : s.heap.get? u = some (kxs_mw b.it e))
    (he : s.heap.get? e = some (excObj C ta none .none)) (hz : rest.length ≤ sizeLine)
    (h : ∀ h' t', (∀ a o, a ≠ e → s.heap.get? a = some o → h'.get? a = some o) → h'.get? e = some (excObj C t' none .none) → Q .none { s with heap := h' }) : wpAny (model prog w) A (call (.ref u) rest) Q E s := by
  obtain ⟨nm, N', qn, bs, bm, hdct, sn, sub, ab, col, dd, k0, k1, k2, k3, k5, hC, _⟩ := excInit_of X q
  obtain ⟨hh, g, d, tk, os⟩ := s
  have F := b.fb
  refine wpAny_call (codeAny_of_tree ?_)
  show wpAny _ A.in1 (callAny (.ref u) ⟨rest, []⟩) _ _ _
  simp only [callAny]
  refine wpAny_bind (wpAny_load hu ?_)
  have c1 : (Value.type "method-wrapper" == Value.type "method" || Value.type "method-wrapper" == Value.type "builtin_function_or_method" || Value.type "method-wrapper" == Value.type "method-wrapper") = true := by decide
  simp only [kxs_mw, c1, if_true]
  refine KFB.if_so (by decide) ?_
  refine wpAny_bind (check_bound_init F.toExcCallFacts hC he rfl ?_)
  refine wpAny_bind (wpAny_pure (wpAny_pure ?_))
  refine ⟨plainId_quiet F.init.plain _, codeAny_builtin F.initEntry ?_⟩
  refine exc_init_tree (cls := .ref C) (t0 := ta) (dv := none) (c2 := .none) (c3 := .none) (b4 := .bool false) he hz fun h' k e' _ => ?_
  exact h h' _ k e'
/-- what the written part says of the def, its code and its cell -/
structure LowD (prog : Program) (K : Frag) (C fI : Addr) (qual : Str) (params : Arguments) (body : List Stmt) (scope : Scope) (cda cc : Addr) : Prop where
  fn : ∃ oc od osl name kV doc pm an ct, K.lookup fI = some ⟨oc, od, .func (ksFn name qual params body scope .none kV doc pm an (.ref cda) ct cc), osl⟩
  cd : codeIn K (.ref cda) qual = true
  code : ∃ (oc : Value) (od : Option Addr) (osl : Array (Option Value)) (vs : Array Value) (file : Str) (tk : Tok), K.lookup cda = some ⟨oc, od, .fields vs, osl⟩ ∧ vs[2]? = some (.str file tk) ∧ ((prog.main.file : Str) == file) = true
  cell : ∃ (oc : Value) (od : Option Addr) (osl : Array (Option Value)), K.lookup cc = some ⟨oc, od, .cell (some (.ref C)), osl⟩
theorem low_super {s : Shared} {L fI cda cc : Addr} {m : Str → Option Value} {qual self : Str} {params : Arguments} {body : List Stmt} {scope : Scope} {arg : Expr} {p0 p1 p2 p3 p4 : Pos} {cd : ClassData} {Q : Flow → Shared → Prop} (b : XB)
    (X : K.In s.heap) (glob : s.heap.Ns mainGlobals mg) (mgS : mg "super" = none) (blt : s.heap.Ns builtinsNs mb) (mbS : mb "super" = some (.type "super"))
    (dd : LowD prog K C fI qual params body scope cda cc) (par : (params.posonlyargs ++ params.args).head?.map (·.arg) = some self) (hcd : clsIn K C = some cd) (hsub : mroIn K C (.ref C) = some true) (thp : nsIn K cStatics "thirdparty.any" = some none)
    (q : excInitIn K C b.bm b.nw = true) (hm : ks_superIn K C C "__init__" = some (some (.builtin b.it))) (hB : subIn K (.ref C) (.type b.B) = some true)
    (hks : scope.names.lookup ("super" : Str) = some .globalImplicit) (hkc : scope.names.lookup ("__class__" : Str) = some .free) (hka : scope.names.lookup self = some .local) (hk : scope.kind = .function)
    (htop : (prog.main.scope.names.lookup ("super" : Str)).isSome = false)
    (loc : s.heap.Ns L m) (hv : m self = some (.ref e)) (he : s.heap.get? e = some (excObj C ta none .none))
    (harg : ∀ s1 : Shared, s1.os = s.os → s1.gens = s.gens → s1.drawn = s.drawn → (∀ a o, s.heap.get? a = some o → s1.heap.get? a = some o) → wpAny (model prog w) A (eval arg (ksEnv qual scope L fI (.ref cda) cc)) (fun _ s2 => s2.os = s.os ∧ s2.gens = s.gens ∧ s2.drawn = s.drawn ∧ ∀ a o, s1.heap.get? a = some o → s2.heap.get? a = some o) E s1)
    (hst : starEach [arg] (ksEnv qual scope L fI (.ref cda) cc) = (false, eval arg (ksEnv qual scope L fI (.ref cda) cc)) :: starEach [] (ksEnv qual scope L fI (.ref cda) cc))
    (hcall : ∃ pl : Sem Bool, eval (.Call (.Attribute (.Call (.Name "super" p0) [] [] p1) "__init__" p2) [arg] [] p3) (ksEnv qual scope L fI (.ref cda) cc) = (do
      let ov ← attributeBase (.Call (.Name "super" p0) [] [] p1) "__init__" (ksEnv qual scope L fI (.ref cda) cc) (eval (.Call (.Name "super" p0) [] [] p1) (ksEnv qual scope L fI (.ref cda) cc))
      standAt p2.atName
      let (f, first) ← holding [ov] (getMethod ov "__init__" pl)
      callWith p3 f first (backTo p3 (starEach [arg] (ksEnv qual scope L fI (.ref cda) cc))) []))
    (hint : interactive (ksEnv qual scope L fI (.ref cda) cc) = false) (hsw : swapsWith (.Call (.Attribute (.Call (.Name "super" p0) [] [] p1) "__init__" p2) [arg] [] p3) none p4.line (ksEnv qual scope L fI (.ref cda) cc) = pure false)
    (hQ : ∀ h' tk t', (∀ a o, a ≠ e → s.heap.get? a = some o → h'.get? a = some o) → h'.get? e = some (excObj C t' none .none) → Q .next { s with heap := h', toks := tk }) :
    _root_.PySem.wpAt (model prog w) A (.func body (ksEnv qual scope L fI (.ref cda) cc)) (exec (.Expr (.Call (.Attribute (.Call (.Name "super" p0) [] [] p1) "__init__" p2) [arg] [] p3) p4) (ksEnv qual scope L fI (.ref cda) cc)) Q E s := by
  obtain ⟨pl, hcall⟩ := hcall
  obtain ⟨fc, fo, fsl, nm, kV, doc, pm, an, ct, hf⟩ := dd.fn
  obtain ⟨c1, c2, c3, vs, file, tk, hcode, hvs, hfile⟩ := dd.code
  obtain ⟨l1, l2, l3, hcell⟩ := dd.cell
  obtain ⟨ar, har, rfl⟩ : ∃ ar, (params.posonlyargs ++ params.args).head? = some ar ∧ ar.arg = self := by
    cases z : (params.posonlyargs ++ params.args).head? with
    | none => rw [z] at par; cases par
    | some a => rw [z] at par; exact ⟨a, rfl, Option.some.inj par⟩
  have IA : InstAt s.heap e (excObj C ta none .none) C none := ⟨he, rfl, rfl, trivial⟩
  obtain ⟨oD, hD1, hD2⟩ : ∃ oD, s.heap.get? C = some oD ∧ oD.data = .cls cd := by
    unfold clsIn at hcd
    split at hcd
    · rename_i k1 k2 cd' sl ho
      cases hcd
      exact ⟨_, X _ _ ho, rfl⟩
    · cases hcd
  have ne : e ≠ C := ks_ne X IA hcd
  obtain ⟨hh, g, d, t, os⟩ := s
  refine ks_wpAt_Expr_any (ks_wpAt_MethodCall (pl := pl) ?_ hcall) hint hsw
  refine ks_wpAt_super_base (env := ksEnv qual scope L fI (.ref cda) cc) hks hkc (by decide) rfl (X _ _ hf) rfl har rfl (X _ _ hcode) rfl hvs hfile htop ?_
  refine ks_loadName_global hk hks (loadGlobal_builtin (env := ksEnv qual scope L fI (.ref cda) cc) glob mgS blt mbS ⟨rfl, ?_⟩)
  refine wpAny_loadName_free hk hkc rfl ⟨_, X _ _ hcell, rfl⟩ ?_
  refine wpAny_loadName_local hk hka loc hv ?_
  refine ks_wpAny_isType_cls hD1 hD2 ⟨rfl, ?_⟩
  refine ks_wpAny_call_super hD1 hD2 he rfl (fun c z => by cases z) (looks_mroIn X hsub) fun h2 so k2 => ?_
  have X2 : K.In h2 := fun a o z => k2 a o (X a o z)
  have lmro : Looks (model prog w) h2 (mroOf (.ref C)) cd.mro := (looks_clsIn X2 hcd).andThen .now
  have inst2 : Looks (model prog w) h2 (isInstance (.ref e) (.type b.B)) true := (InstAt.type (M := model prog w) (h := h2) (ox := excObj C ta none .none) (od := none) ⟨k2 _ _ he, rfl, rfl, trivial⟩).andThen (looks_subIn X2 hB)
  have hm' : alongIn K "__init__" ((cd.mro.dropWhile (· != .ref C)).drop 1) = some (some (.builtin b.it)) := by
    unfold ks_superIn at hm
    rw [hcd] at hm
    exact hm
  refine kxs_getMethod b.kf so (looks_opaque X2 thp) lmro rfl X2 hm' inst2 ne (by decide) ?_
  have k3 : ∀ a o, hh.get? a = some o → (h2.push (kxs_mw b.it e)).get? a = some o := fun a o z => Heap.get?_push_of_some _ (k2 a o z)
  have mw3 : (h2.push (kxs_mw b.it e)).get? h2.objs.size = some (kxs_mw b.it e) := Heap.get?_push_at rfl rfl
  refine kxs_callWith (i := b.it) (x := e) (by rw [hst]; rfl) ?_
  rw [hst]
  refine evalArgs_plain (spliced_cons (wpAny_mono (harg ⟨h2.push (kxs_mw b.it e), g, d, t + 1, os⟩ rfl rfl rfl k3) (fun z s4 hz => ?_) fun _ _ z => z))
  obtain ⟨o1, o2, o3, k4⟩ := hz
  obtain ⟨h4, g4, d4, t4, os4⟩ := s4
  obtain rfl : os4 = os := o1
  obtain rfl : g4 = g := o2
  obtain rfl : d4 = d := o3
  have X4 : K.In h4 := fun a o z => k4 a o (k3 a o (X a o z))
  refine spliced_nil ⟨k4 _ _ mw3, ?_⟩
  refine low_init b X4 q (k4 _ _ mw3) (k4 _ _ (k3 _ _ he)) (by show 1 ≤ sizeLine; rw [sizeLine_eq]; omega) fun h5 t5 k5 e5 => ?_
  exact hQ h5 t4 t5 (fun a o na z => k5 a o na (k4 a o (k3 a o z))) e5
end
/-! ### C(u) -/
section
variable {prog : Program} {w : World} {A : Around} {E : Value → Shared → Prop} {K : Frag} {C : Addr} {mg mb : Str → Option Value}
/-- all that is known of such a class -/
structure LowC (prog : Program) (K : Frag) (mg : Str → Option Value) (C fI : Addr) (b : XB) (fld qual me giv : Str) (params : Arguments) (body : List Stmt) (scope : Scope) (cda cc : Addr) : Prop where
  d : LowD prog K C fI qual params body scope cda cc
  par : (params.posonlyargs ++ params.args).head?.map (·.arg) = some me
  bind : ∀ (name : Str) (kV doc pm : Value) (an : Option Addr) (ct x y : Value), bindArgs (ksFn name qual params body scope .none kV doc pm an (.ref cda) ct cc) ⟨[x, y], []⟩ = pure [(me, x), (giv, y)]
  ne : me ≠ giv
  cls : ∃ cd, clsIn K C = some cd ∧ cd.hasDict = true
  sub : mroIn K C (.ref C) = some true
  thp : nsIn K cStatics "thirdparty.any" = some none
  exi : excInitIn K C b.bm b.nw = true
  sup : ks_superIn K C C "__init__" = some (some (.builtin b.it))
  bas : subIn K (.ref C) (.type b.B) = some true
  ini : findIn K (.ref C) "__init__" = some (some (.ref fI))
  isf : isFn K (.ref fI) = true
  sa : findIn K (.ref C) "__setattr__" = some (some (.builtin "object.__setattr__"))
  ovr : excOver K C b.bm = true
  tkr : takerIn K C fld = some none
  ks : scope.names.lookup ("super" : Str) = some .globalImplicit
  kc : scope.names.lookup ("__class__" : Str) = some .free
  ka : scope.names.lookup me = some .local
  kg : scope.names.lookup giv = some .local
  kind : scope.kind = .function
  co : scope.isCoroutine = false
  gen : scope.isGenerator = false
  nocell : ∀ x ∈ scope.names, x.2 ≠ .cell
  top : (prog.main.scope.names.lookup ("super" : Str)).isSome = false
  mgS : mg "super" = none
theorem low_call {s : Shared} {fI cda cc : Addr} {qual me giv fld : Str} {params : Arguments} {scope : Scope} {arg : Expr} {p0 p1 p2 p3 p4 p5 p6 p7 p8 : Pos} {b : XB} {u : Value}
    (Lc : LowC prog K mg C fI b fld qual me giv params [.Expr (.Call (.Attribute (.Call (.Name "super" p0) [] [] p1) "__init__" p2) [arg] [] p3) p4, .Assign [.Attribute (.Name me p5) fld p6] (.Name giv p7) p8] scope cda cc)
    (X : K.In s.heap) (glob : s.heap.Ns mainGlobals mg) (blt : s.heap.Ns builtinsNs mb) (mbS : mb "super" = some (.type "super")) (lim : s.heap.NoLimit) (room : (A.under (.builtin "type.__call__" ⟨[.ref C, u], []⟩)).depth < recursionLimit)
    (dbS : (me == ("__debug__" : Str)) = false) (dbG : (giv == ("__debug__" : Str)) = false)
    (harg : ∀ (L : Addr) (s1 : Shared), s1.os = s.os → s1.gens = s.gens → s1.drawn = s.drawn → (∀ a o, s.heap.get? a = some o → s1.heap.get? a = some o) → s1.heap.Ns L (fun y => if y = giv then some u else if y = me then some (.ref (s.heap.objs.size + 1)) else none) →
      wpAny (model prog w) ((A.under (.builtin "type.__call__" ⟨[.ref C, u], []⟩)).deeper (ksEnv qual scope L fI (.ref cda) cc)) (eval arg (ksEnv qual scope L fI (.ref cda) cc)) (fun _ s2 => s2.os = s.os ∧ s2.gens = s.gens ∧ s2.drawn = s.drawn ∧ ∀ a o, s1.heap.get? a = some o → s2.heap.get? a = some o) (fun _ _ => False) s1)
    (hst : ∀ L, starEach [arg] (ksEnv qual scope L fI (.ref cda) cc) = (false, eval arg (ksEnv qual scope L fI (.ref cda) cc)) :: starEach [] (ksEnv qual scope L fI (.ref cda) cc))
    (hcall : ∀ L, ∃ pl : Sem Bool, eval (.Call (.Attribute (.Call (.Name "super" p0) [] [] p1) "__init__" p2) [arg] [] p3) (ksEnv qual scope L fI (.ref cda) cc) = (do
      let ov ← attributeBase (.Call (.Name "super" p0) [] [] p1) "__init__" (ksEnv qual scope L fI (.ref cda) cc) (eval (.Call (.Name "super" p0) [] [] p1) (ksEnv qual scope L fI (.ref cda) cc))
      standAt p2.atName
      let (f, first) ← holding [ov] (getMethod ov "__init__" pl)
      callWith p3 f first (backTo p3 (starEach [arg] (ksEnv qual scope L fI (.ref cda) cc))) []))
    (hint : ∀ L, interactive (ksEnv qual scope L fI (.ref cda) cc) = false) (hsw : ∀ L, swapsWith (.Call (.Attribute (.Call (.Name "super" p0) [] [] p1) "__init__" p2) [arg] [] p3) none p4.line (ksEnv qual scope L fI (.ref cda) cc) = pure false)
    (hsw2 : ∀ L, swapsWith (.Name giv p7) (some (.Attribute (.Name me p5) fld p6)) p8.line (ksEnv qual scope L fI (.ref cda) cc) = pure false) {Q : Value → Shared → Prop}
    (hQ : ∀ h' tk e dx t', (∀ a o, s.heap.get? a = some o → h'.get? a = some o) → s.heap.objs.size ≤ e → s.heap.objs.size ≤ dx → dx ≠ e → h'.get? e = some (excObj C t' (some dx) .none) → h'.Ns1 dx (fun y => if y = fld then some u else none) → Q (.ref e) { s with heap := h', toks := tk }) :
    wpAny (model prog w) A (call (.ref C) [u]) Q E s := by
  obtain ⟨nm, N', qn, bs, bm, hdct, sn, sub, ab, col, dd, k0, k1, k2, k3, k5, hC, hT⟩ := excInit_of X Lc.exi
  obtain ⟨oI, hoI, hcI⟩ : ∃ oI, s.heap.get? fI = some oI ∧ oI.cls = .type "function" := by
    obtain ⟨o, ho, hc⟩ := Option.map_eq_some_iff.mp (show (K.lookup fI).map (·.cls) = some (.type "function") from beq_iff_eq.mp Lc.isf)
    exact ⟨o, X _ _ ho, hc⟩
  obtain ⟨cd, hcd, hdc⟩ := Lc.cls
  obtain ⟨fc, fo, fsl, fnm, kV, doc, pm, an, ct, hf⟩ := Lc.d.fn
  obtain ⟨hh, g, d, t, os⟩ := s
  refine wpAny_call (PySem.PX.call_own b.fb hT hC (looks_findIn X Lc.ini) (fun zz => exc_bind hoI hcI zz) (by show 1 ≤ sizeLine; rw [sizeLine_eq]; omega) ?_)
  have kk : ∀ a o, hh.get? a = some o → ((hh.push (PySem.W.kdv_tup [u])).push (PySem.PX.excO C hh.objs.size)).get? a = some o := fun a o z => Heap.get?_push_of_some _ (Heap.get?_push_of_some _ z)
  have e0 : ((hh.push (PySem.W.kdv_tup [u])).push (PySem.PX.excO C hh.objs.size)).get? (hh.objs.size + 1) = some (excObj C hh.objs.size none .none) := by heap_get
  have sz : ((hh.push (PySem.W.kdv_tup [u])).push (PySem.PX.excO C hh.objs.size)).objs.size = hh.objs.size + 2 := by rw [Heap.size_push, Heap.size_push]
  generalize (hh.push (PySem.W.kdv_tup [u])).push (PySem.PX.excO C hh.objs.size) = h1 at kk e0 sz
  have X1 : K.In h1 := fun a o z => kk a o (X a o z)
  refine ks_codeAny_call_defAt (binds := [(me, .ref (hh.objs.size + 1)), (giv, u)]) room (X1 _ _ hf) rfl (lim.keeps kk) (codeRec_of X1 Lc.d.cd) rfl (.of_eq (Lc.bind _ _ _ _ _ _ _ _)) Lc.nocell ?_ (fun h2 ns2 k2 => ?_) Lc.co Lc.gen Lc.kind
  · intro y hy
    rcases List.mem_cons.mp hy with rfl | hy
    · exact Lc.ka
    · rcases List.mem_cons.mp hy with rfl | hy
      · exact Lc.kg
      · cases hy
  · have k02 : ∀ a o, hh.get? a = some o → h2.get? a = some o := fun a o z => k2 a o (kk a o z)
    have X2 : K.In h2 := fun a o z => k02 a o (X a o z)
    have em : (fun x => ([(me, Value.ref (hh.objs.size + 1)), (giv, u)] : List (Str × Value)).reverse.lookup x) = fun y => if y = giv then some u else if y = me then some (.ref (hh.objs.size + 1)) else none := by
      funext y
      by_cases h1 : y = giv
      · subst h1; simp [List.lookup]
      · have b1 : (y == giv) = false := by simpa using h1
        by_cases h3 : y = me
        · subst h3; simp [List.lookup, b1, h1]
        · have b2 : (y == me) = false := by simpa using h3
          simp [List.lookup, b1, b2, h1, h3]
    have ns2' : h2.Ns h1.objs.size fun y => if y = giv then some u else if y = me then some (.ref (hh.objs.size + 1)) else none := by rw [← em]; exact ns2
    have ms : (fun y => if y = giv then some u else if y = me then some (.ref (hh.objs.size + 1)) else none) me = some (Value.ref (hh.objs.size + 1)) := by
      dsimp only
      rw [if_neg Lc.ne, if_pos rfl]
    have mgv : (fun y => if y = giv then some u else if y = me then some (Value.ref (hh.objs.size + 1)) else none) giv = some u := by
      dsimp only
      rw [if_pos rfl]
    refine ks_wpAt_execs_cons (low_super b X2 (glob.keeps k02) Lc.mgS (blt.keeps k02) mbS Lc.d Lc.par hcd Lc.sub Lc.thp Lc.exi Lc.sup Lc.bas Lc.ks Lc.kc Lc.ka Lc.kind Lc.top ns2' ms (k2 _ _ e0)
      (fun s1 o1 o2 o3 k3 => wpAny_mono (harg h1.objs.size s1 o1 o2 o3 (fun a o z => k3 a o (k02 a o z)) (ns2'.keeps k3)) (fun _ _ z => z) fun _ _ z => z.elim) (hst _) (hcall _) (hint _) (hsw _) fun h3 tk3 t3 k3 e3 => ?_)
    have X3 : K.In h3 := fun a o z => k3 a o (Nat.ne_of_lt (Nat.lt_succ_of_lt (Heap.lt_size (X a o z)))) (X2 a o z)
    have nL : h1.objs.size ≠ hh.objs.size + 1 := by omega
    have ns3 : h3.Ns h1.objs.size fun y => if y = giv then some u else if y = me then some (.ref (hh.objs.size + 1)) else none := by
      obtain ⟨oL, es, ep, z1, z2⟩ := ns2'
      exact ⟨oL, es, ep, k3 _ _ nL z1, z2⟩
    show _root_.PySem.wpAt _ _ _ (execs [_] _) _ _ _
    refine ks_wpAt_execs_cons (ks_wpAt_Assign_Attr (wpAt_of_wpAny (wpAny_Name (wpAny_loadName_local (env := ksEnv qual scope h1.objs.size fI (.ref cda) cc) Lc.kind Lc.kg ns3 mgv (wpAny_Name (wpAny_loadName_local (env := ksEnv qual scope h1.objs.size fI (.ref cda) cc) Lc.kind Lc.ka ns3 ms ?_) dbS)) dbG)) (hsw2 _))
    refine low_set b.sf X3 e3 hcd hdc Lc.sa Lc.ovr Lc.tkr fun h4 tk4 dx k4 hdx ndx e4 n4 => ?_
    have szle : hh.objs.size ≤ h3.objs.size := Nat.le_of_lt (Nat.lt_of_succ_lt (Heap.lt_size e3))
    refine wpAt_of_wpAny (wpAny_execs_nil ?_)
    refine ⟨rfl, hQ h4 tk4 (hh.objs.size + 1) dx t3 (fun a o z => k4 a o (Nat.ne_of_lt (Nat.lt_succ_of_lt (Heap.lt_size z))) (k3 a o (Nat.ne_of_lt (Nat.lt_succ_of_lt (Heap.lt_size z))) (k02 a o z))) (Nat.le_succ _) (Nat.le_trans szle hdx) ndx e4 n4⟩
end
end AW
/-! Bx2: str(..), repr(..) of what has a text. -/
namespace AW
open PySem PySem.Spec PyProof.Rows L2
def strP (p : PyData) : Str := match p with
  | .str x => x
  | p => p.shown
def showOk (p : PyData) : Bool := p.showable && decide (p.depth ≤ 40) && decide (p.shown.length ≤ 100000)
theorem showOk_of {p : PyData} (h : showOk p = true) : p.showable = true ∧ p.depth ≤ 40 ∧ p.shown.length ≤ sizeLine := by
  unfold showOk at h
  simp only [Bool.and_eq_true, decide_eq_true_eq] at h
  exact ⟨h.1.1, h.1.2, by rw [sizeLine_eq]; omega⟩
section
variable {prog : Program} {w : World} {h₀ : Heap} {u : Value} {p : PyData} {as : List Addr} {A : Around} {E : Value → Shared → Prop} {s : Shared} {Q : Value → Shared → Prop}
theorem str_run (r : Reads h₀ u p as) (hsm : p.hasDict = true → sysModules ∉ as) (ok : showOk p = true) (hg : A.guards = some []) (hu : A.units + 50 < cLine) (hk : ∀ b o, h₀.get? b = some o → s.heap.get? b = some o)
    (hQ : ∀ h' t tk, (∀ b o, s.heap.get? b = some o → h'.get? b = some o) → Q (.str (strP p) t) { s with heap := h', toks := tk }) : wpAny (model prog w) A (call (.type "str") [u]) Q E s := by
  obtain ⟨h1, h2, h3⟩ := showOk_of ok
  have big : ∀ a, u = .ref a → strP p = p.shown → wpAny (model prog w) A (call (.type "str") [u]) Q E s := fun a e e2 => by
    subst e
    rw [e2] at hQ
    exact str_of_reads r h1 hsm hg (by omega) hk hQ h3
  cases r with
  | none => exact PySem.P.str_of_none (by have := hQ s.heap s.toks (s.toks + 1) fun _ _ e => e; simpa only [strP, PyData.shown] using this)
  | bool b => exact PySem.P.str_of_bool (by have := hQ s.heap s.toks (s.toks + 1) fun _ _ e => e; cases b <;> simpa [strP, PyData.shown] using this)
  | int i t => exact PySem.P.str_of_int (by simpa [PyData.showable] using h1) (by have := hQ s.heap s.toks (s.toks + 1) fun _ _ e => e; simpa only [strP, PyData.shown] using this)
  | str x t => exact PySem.P.str_of_str (by have := hQ s.heap t s.toks fun _ _ e => e; exact this)
  | list _ _ _ _ => exact big _ rfl rfl
  | tuple _ _ _ _ => exact big _ rfl rfl
  | dict _ _ _ _ _ => exact big _ rfl rfl
theorem repr_run (r : Reads h₀ u p as) (hsm : p.hasDict = true → sysModules ∉ as) (ok : showOk p = true) (hg : A.guards = some []) (hu : A.units + 50 < cLine) (hk : ∀ b o, h₀.get? b = some o → s.heap.get? b = some o)
    (hQ : ∀ h' t tk, (∀ b o, s.heap.get? b = some o → h'.get? b = some o) → Q (.str p.shown t) { s with heap := h', toks := tk }) : wpAny (model prog w) A (call (.builtin "repr") [u]) Q E s := by
  obtain ⟨h1, h2, h3⟩ := showOk_of ok
  have big : ∀ a, u = .ref a → wpAny (model prog w) A (call (.builtin "repr") [u]) Q E s := fun a e => by
    subst e
    exact repr_of_reads' r h1 hsm hg (by omega) hk hQ h3
  cases r with
  | none => exact PySem.P.repr_of_none (by have := hQ s.heap s.toks (s.toks + 1) fun _ _ e => e; simpa only [PyData.shown] using this)
  | bool b => exact PySem.P.repr_of_bool (by have := hQ s.heap s.toks (s.toks + 1) fun _ _ e => e; cases b <;> simpa [PyData.shown] using this)
  | int i t => exact PySem.P.repr_of_int (by simpa [PyData.showable] using h1) (by have := hQ s.heap s.toks (s.toks + 1) fun _ _ e => e; simpa only [PyData.shown] using this)
  | str x t => exact PySem.P.repr_of_str (by have := hQ s.heap s.toks (s.toks + 1) fun _ _ e => e; simpa only [PyData.shown] using this) (by simpa only [PyData.shown] using h3)
  | list _ _ _ _ => exact big _ rfl
  | tuple _ _ _ _ => exact big _ rfl
  | dict _ _ _ _ _ => exact big _ rfl
end
/-- what has a text -/
def emptyD (g : G) : D → Bool
  | .dct [] [] => true
  | .ref i => match g[i]? with
    | some (.dct [] []) => true
    | _ => false
  | _ => false
def txtD (g : G) (d : D) : Option PyData := match emptyD g d with
  | true => some (.dict [])
  | false => match pyG g d with
    | some p => match p.hasDict with
      | true => none
      | false => some p
    | none => none
/-- and a value of the layer that has one -/
def TxtV (K : PySem.W.Frag) (H : Hp) (v : V) (p : PyData) : Prop := (p.hasDict = false ∧ Dp K H v p) ∨ (p = .dict [] ∧ ∃ a, v = .ref a ∧ Rd H a (.dK []))
theorem txtD_s {K : PySem.W.Frag} {m : Md} {g : G} {H : Hp} {d : D} {v : V} {p : PyData} (r : Rel K m g H) (h : Den K m d v) (e : txtD g d = some p) : TxtV K H v p := by
  unfold txtD at e
  split at e
  · rename_i he
    cases e
    refine .inr ⟨rfl, ?_⟩
    unfold emptyD at he
    split at he
    · cases h with
      | dct h1 h2 h3 =>
        cases h3
        exact ⟨_, rfl, rd_le r.ex h1⟩
    · rename_i i
      split at he
      · rename_i hc
        cases h with
        | ref h1 =>
          obtain ⟨a, h2, _, o, h3, vs, rfl, _, h5⟩ := r.cell _ _ hc
          rw [h1] at h2
          cases h2
          cases h5
          exact ⟨_, rfl, .inl h3⟩
      · cases he
    · cases he
  · split at e
    · rename_i p' hp
      split at e
      · cases e
      · rename_i hn
        cases e
        exact .inl ⟨hn, pyG_s r h hp⟩
    · cases e
theorem TxtV.reads {X : Cx} {pins : List (Addr × Obj)} {σ : L2.St} {H : Hp} {s : Shared} {v : V} {u : Value} {p : PyData} (I : Inv X pins σ H s) (h : TxtV X.K H v p) (r : RelV v u) : ∃ as, Reads s.heap u p as ∧ (p.hasDict = true → sysModules ∉ as) := by
  rcases h with ⟨h1, h2⟩ | ⟨rfl, a, rfl, h2⟩
  · obtain ⟨as, hr⟩ := Dp.reads I p v u h2 r
    exact ⟨as, hr, fun z => by rw [h1] at z; cases z⟩
  · cases r
    have ho := Rd.ok h2 I.hok
    obtain ⟨_, hns, vs, hkv, o, es, ep, hg, hx, hd, hko, hps, hnd⟩ := ho
    cases hkv
    have he : es.toList = [] := by
      generalize es.toList = l at hps
      cases hps
      rfl
    refine ⟨_, Reads.dict (as := []) (bs := []) (kvs := []) hg hx.1 hd (by rw [he]; exact .nil) (by rw [he]; exact .nil), fun _ hm => ?_⟩
    simp only [List.append_nil, List.mem_singleton] at hm
    rw [hm] at hns
    simp at hns
end AW
/-! Bx3: raise X(e). -/
namespace AW
open PySem PySem.W PySem.Calls PyProof.Rows
/-- what such an __init__ passes on: str(v), or a text -/
inductive XArg where
  | str (q0 q1 q2 : Pos)
  | cst (m : Str) (j : Nat) (q : Pos)
def XArg.e (giv : Str) : XArg → Expr
  | .str q0 q1 q2 => .Call (.Name "str" q0) [.Name giv q1] [] q2
  | .cst m j q => .Constant (.str m) j q
def XArg.isStr : XArg → Bool
  | .str _ _ _ => true
  | .cst _ _ _ => false
section
variable {prog : Program} {w : World} {A : Around} {E : Value → Shared → Prop} {mg mb : Str → Option Value}
theorem arg_run {h₀ : Heap} {s : Shared} {L fI cda cc : Addr} {m : Str → Option Value} {qual giv : Str} {scope : Scope} {a : XArg} {u : Value} {Q : Value → Shared → Prop}
    (glob : s.heap.Ns mainGlobals mg) (mgT : mg "str" = none) (blt : s.heap.Ns builtinsNs mb) (mbT : mb "str" = some (.type "str"))
    (hkt : a.isStr = true → scope.names.lookup ("str" : Str) = some .globalImplicit) (hkg : scope.names.lookup giv = some .local) (hk : scope.kind = .function) (dbG : (giv == ("__debug__" : Str)) = false)
    (loc : s.heap.Ns L m) (hv : m giv = some u) (gd : A.guards = some []) (hu : A.units + 50 < cLine)
    (hk0 : ∀ b o, h₀.get? b = some o → s.heap.get? b = some o) (hp : a.isStr = true → ∃ p as, Reads h₀ u p as ∧ (p.hasDict = true → sysModules ∉ as) ∧ showOk p = true)
    (hQ : ∀ v h' tk, (∀ b o, s.heap.get? b = some o → h'.get? b = some o) → Q v { s with heap := h', toks := tk }) :
    wpAny (model prog w) A (eval (a.e giv) (ksEnv qual scope L fI (.ref cda) cc)) Q E s := by
  cases a with
  | str q0 q1 q2 =>
    obtain ⟨p, as, r, hsm, ok⟩ := hp rfl
    refine wpAny_Call_Name_kw (wpAny_Name (ks_loadName_global (env := ksEnv qual scope L fI (.ref cda) cc) hk (hkt rfl) (loadGlobal_builtin (env := ksEnv qual scope L fI (.ref cda) cc) glob mgT blt mbT ?_)) (by decide))
    refine PyProof.Rows.callWith_type1 (spliced_cons (wpAny_Name (wpAny_loadName_local (env := ksEnv qual scope L fI (.ref cda) cc) hk hkg loc hv (spliced_nil ?_)) dbG)) rfl rfl
    exact str_run r hsm ok gd hu hk0 fun h' t tk k => hQ _ h' tk k
  | cst m j q => exact Calls.Constant_str (hQ _ s.heap (s.toks + 1) fun _ _ e => e)
end
/-! ### all that is known of a class of this kind, with what its __init__ needs -/
structure LowE (prog : Program) (K : Frag) (mg : Str → Option Value) (x : Str) (C fI : Addr) (b : XB) (fld qual me giv : Str) (params : Arguments) (a : XArg) (scope : Scope) (cda cc : Addr) (p0 p1 p2 p3 p4 p5 p6 p7 p8 : Pos) : Prop where
  c : LowC prog K mg C fI b fld qual me giv params [.Expr (.Call (.Attribute (.Call (.Name "super" p0) [] [] p1) "__init__" p2) [a.e giv] [] p3) p4, .Assign [.Attribute (.Name me p5) fld p6] (.Name giv p7) p8] scope cda cc
  mgT : mg "str" = none
  kt : a.isStr = true → scope.names.lookup ("str" : Str) = some .globalImplicit
  dbS : (me == ("__debug__" : Str)) = false
  dbG : (giv == ("__debug__" : Str)) = false
  gC : mg x = some (.ref C)
  kC : keepIn K (.ref C) = true
  xs : subIn K (.ref C) (.type "BaseException") = some true
  ty : typeIn K (.ref C) = some (.type "type")
  hst : ∀ L, starEach [a.e giv] (ksEnv qual scope L fI (.ref cda) cc) = (false, eval (a.e giv) (ksEnv qual scope L fI (.ref cda) cc)) :: starEach [] (ksEnv qual scope L fI (.ref cda) cc)
  hcall : ∀ L, ∃ pl : Sem Bool, eval (.Call (.Attribute (.Call (.Name "super" p0) [] [] p1) "__init__" p2) [a.e giv] [] p3) (ksEnv qual scope L fI (.ref cda) cc) = (do
      let ov ← attributeBase (.Call (.Name "super" p0) [] [] p1) "__init__" (ksEnv qual scope L fI (.ref cda) cc) (eval (.Call (.Name "super" p0) [] [] p1) (ksEnv qual scope L fI (.ref cda) cc))
      standAt p2.atName
      let (f, first) ← holding [ov] (getMethod ov "__init__" pl)
      callWith p3 f first (backTo p3 (starEach [a.e giv] (ksEnv qual scope L fI (.ref cda) cc))) [])
  hint : ∀ L, interactive (ksEnv qual scope L fI (.ref cda) cc) = false
  hsw : ∀ L, swapsWith (.Call (.Attribute (.Call (.Name "super" p0) [] [] p1) "__init__" p2) [a.e giv] [] p3) none p4.line (ksEnv qual scope L fI (.ref cda) cc) = pure false
  hsw2 : ∀ L, swapsWith (.Name giv p7) (some (.Attribute (.Name me p5) fld p6)) p8.line (ksEnv qual scope L fI (.ref cda) cc) = pure false
section
open L2
variable {X : Cx}
/-- X(e): the class, its dict with the one field -/
def tLow (K : Frag) (isStr : Bool) (C : Addr) (fld : Str) (t : TE) : L2.St → L2.Hp → L2.XK → Prop := fun σ H Q => t σ H fun v H1 =>
  (isStr = true → ∃ p, TxtV K H1 v p ∧ showOk p = true) ∧ ∀ dx, H1 dx = none → Q (.ref C) (some dx) (upd H1 dx (.xd [(fld, v)]))
theorem pmk_low {x : Str} {C fI cda cc : Addr} {b : XB} {fld qual me giv : Str} {params : Arguments} {a : XArg} {scope : Scope} {p0 p1 p2 p3 p4 p5 p6 p7 p8 p pos : Pos} {e : Expr} {ta : TE} {j : Nat}
    (T : LowE X.prog X.K X.mg x C fI b fld qual me giv params a scope cda cc p0 p1 p2 p3 p4 p5 p6 p7 p8) (gd : X.A.guards = some []) (hr : Room j X.A) (hj : 1 ≤ j) (hg : Gl X x) (he : PE X e ta)
    (hs : starEach [e] X.env = (false, eval e X.env) :: starEach [] X.env := by rfl) (hdb : (x == ("__debug__" : Str)) = false := by decide) :
    PMk X (.Call (.Name x p) [e] [] pos) (tLow X.K a.isStr C fld ta) := by
  intro pins s σ H Q I h
  refine wpAny_Call_Name_kw (ld_glob I hg T.gC ?_ hdb)
  refine PySem.W.callWith_K (h₀ := X.base) I.ok.mod.kin T.kC ?_ hs (by rfl)
  rw [hs]
  show wpAny _ _ (spliced ((false, eval e X.env) :: backTo pos (starEach [] X.env))) _ _ s
  refine spliced_cons (thn (he.run pins s σ H _ I h) fun u s1 ⟨v, H1, I1, r1, htx, hq⟩ => ?_)
  refine spliced_nil ⟨I1.kIn, ?_⟩
  show wpAny _ _ (call (.ref C) [u]) _ _ _
  have glob : s1.heap.Ns mainGlobals X.mg := I1.mod.glob.keeps I1.bk
  obtain ⟨mb, hb1, hb2⟩ := I1.mod.blt
  have blt : s1.heap.Ns builtinsNs mb := hb1.keeps I1.bk
  have mbS : mb "super" = some (.type "super") := (hb2 "super" (by decide)).trans (by kernel_rfl)
  have mbT : mb "str" = some (.type "str") := (hb2 "str" (by decide)).trans (by kernel_rfl)
  have un := hr.un
  have dp := hr.dp
  have u1 : (X.A.under (.builtin "type.__call__" ⟨[.ref C, u], []⟩)).units = X.A.units + 1 := make_units
  have d1 : (X.A.under (.builtin "type.__call__" ⟨[.ref C, u], []⟩)).depth = X.A.depth + 1 := make_depth
  have g1 : (X.A.under (.builtin "type.__call__" ⟨[.ref C, u], []⟩)).guards = some [] := by
    first | exact gd | simp [Around.under, gd, Code.weight, Code.isCreation, Code.isGuard, Code.isCaller, Code.frames, Code.isFrame, guardIds]
  refine low_call T.c I1.kIn glob blt mbS I1.nolimit (by rw [d1]; omega) T.dbS T.dbG ?_ T.hst T.hcall T.hint T.hsw T.hsw2 ?_
  · intro L s2 o1 o2 o3 k2 ns2
    refine arg_run (E := fun _ _ => False) (glob.keeps k2) T.mgT (blt.keeps k2) mbT T.kt T.c.kg T.c.kind T.dbG ns2 (if_pos rfl) g1 (by show (X.A.under (.builtin "type.__call__" ⟨[.ref C, u], []⟩)).units + 3 + 50 < cLine; rw [u1]; omega) (h₀ := s1.heap) k2 (fun hi => ?_) fun v h' tk k => ?_
    · obtain ⟨p, hp, ok⟩ := htx hi
      obtain ⟨as, hrd, hsm⟩ := hp.reads I1 r1
      exact ⟨p, as, hrd, hsm, ok⟩
    · exact ⟨o1, o2, o3, k⟩
  · intro h2 tk e' dx t' k2 he1 hdx1 ne he2 hns
    obtain ⟨G, g1', g2'⟩ := restrict h2 fun b => decide (b ≠ e')
    have hG : ∀ b o, s1.heap.get? b = some o → G.get? b = some o := fun b o z => by
      have nb : b ≠ e' := Nat.ne_of_lt (Nat.lt_of_lt_of_le (Heap.lt_size z) he1)
      rw [g1' b (decide_eq_true nb)]
      exact k2 b o z
    have hn : H1 dx = none := I1.hok.fresh hdx1
    have I2 : Inv X pins σ (upd H1 dx (.xd [(fld, v)])) { s1 with heap := G, toks := tk } := by
      refine I1.laid (t' := tk) (o := .xd [(fld, v)]) hG hdx1 ?_
      refine ⟨_, hns.at fun o z => ?_, fun f => ?_⟩
      · rw [g1' dx (decide_eq_true ne)]
        exact z
      · show RelO (List.lookup f [(fld, v)]) _
        by_cases hf : f = fld
        · subst hf
          simp [List.lookup]
          exact r1
        · have : (f == fld) = false := by simpa using hf
          simp [List.lookup, this, hf]
          trivial
    refine ⟨e', _, _, { s1 with heap := G, toks := tk }, upd H1 dx (.xd [(fld, v)]), .ref C, some dx, rfl, I2, fun b o z => ?_, ?_, he2, ⟨rfl, rfl⟩, rfl, rfl, ?_, rfl, I1.bare, raises_own T.xs T.ty, hq dx hn⟩
    · show h2.get? b = some o
      by_cases nb : b = e'
      · subst nb
        have := g2' b (decide_eq_false (by simp))
        rw [this] at z
        cases z
      · rw [← g1' b (decide_eq_true nb)]
        exact z
    · exact g2' e' (decide_eq_false (by simp))
    · rw [upd_ne ne.symm]
      exact I1.hok.fresh he1
end
/-! ### raise -/
def raiseOk (isStr : Bool) (g : G) (d : D) : Bool := !isStr || (match txtD g d with
  | some p => showOk p
  | none => false)
theorem raiseOk_s {K : Frag} {m : Md} {g : G} {H : L2.Hp} {d : D} {v : L2.V} {i : Bool} (r : Rel K m g H) (h : Den K m d v) (e : raiseOk i g d = true) : i = true → ∃ p, TxtV K H v p ∧ showOk p = true := fun hi => by
  unfold raiseOk at e
  rw [hi] at e
  simp only [Bool.not_true, Bool.false_or] at e
  split at e
  · rename_i p hp
    exact ⟨p, txtD_s r h hp, e⟩
  · cases e
def sRaiseX (isStr : Bool) (c fld : Str) (ea : Ev) : Sx := fun σ g => sBind σ (ea σ g) fun d g1 => match raiseOk isStr g1 d with
  | true => .ex σ ⟨c, [(fld, d)]⟩ g1
  | false => .no
def sRaise0 (c : Str) : Sx := fun σ g => .ex σ ⟨c, []⟩ g
section
open L2
variable {X : Cx} {W : L2.WX}
theorem s_raiseX {x : Str} {C fI cda cc : Addr} {b : XB} {fld qual me giv : Str} {params : Arguments} {a : XArg} {scope : Scope} {p0 p1 p2 p3 p4 p5 p6 p7 p8 p pos pos' : Pos} {e : Expr} {ea : Ev} {j : Nat}
    (T : LowE X.prog X.K X.mg x C fI b fld qual me giv params a scope cda cc p0 p1 p2 p3 p4 p5 p6 p7 p8) (hC : C = ga X.K x) (hc : X.calm = true) (tk : Takes X W) (gd : X.A.guards = some []) (hr : Room j X.A) (hj : 1 ≤ j) (hg : Gl X x) (he : PE X e (tE X.K W ea))
    (hs : starEach [e] X.env = (false, eval e X.env) :: starEach [] X.env := by rfl) (hdb : (x == ("__debug__" : Str)) = false := by decide) :
    PS X (.Raise (some (.Call (.Name x p) [e] [] pos)) none pos') (tS X.K W (sRaiseX a.isStr x fld ea)) :=
  PS.imp (ps_raise hc tk (pmk_low T gd hr hj hg he hs hdb)) fun D' σ H h => by
    obtain ⟨m, σ', g, rl, sl, p⟩ := h
    refine ⟨m, σ', g, rl, sl.1, sl.2, sBind_s sl p fun d g1 m1 H1 v l1 r1 d1 p1 => ?_⟩
    split at p1
    · rename_i hok
      refine ⟨raiseOk_s r1 d1 hok, fun dx hdx => ?_⟩
      refine p1 (m1.put dx (.xd [(fld, v)])) (upd H1 dx (.xd [(fld, v)])) σ (.ref C) (some dx) (le_put (r1.free hdx)) (r1.put hdx) ((sl.mono l1).mono (le_put (r1.free hdx))) ⟨by rw [hC], .inr ⟨by simp, dx, [(fld, v)], rfl, by show upd m1.F dx _ dx = _; exact upd_same, rfl, .cons (d1.mono (le_put (r1.free hdx))) .nil⟩⟩
    · exact p1.elim
theorem s_raise0 {x msg : Str} {C : Addr} {bmB : List Value} {B newId initId : String} {jj : Nat} {p p2 pos pos' : Pos} (F : ExcBaseFacts B newId initId bmB) (q : excIn X.K C bmB newId = true) (gC : X.mg x = some (.ref C)) (kC : keepIn X.K (.ref C) = true)
    (xs : subIn X.K (.ref C) (.type "BaseException") = some true) (ty : typeIn X.K (.ref C) = some (.type "type")) (hC : C = ga X.K x) (hc : X.calm = true) (tk : Takes X W) (hg : Gl X x) (hdb : (x == ("__debug__" : Str)) = false := by decide) :
    PS X (.Raise (some (.Call (.Name x p) [.Constant (.str msg) jj p2] [] pos)) none pos') (tS X.K W (sRaise0 x)) :=
  PS.imp (ps_raise hc tk (pmk_own F q gC kC (raises_own xs ty) hg hdb)) fun D' σ H h => by
    obtain ⟨m, σ', g, rl, sl, p⟩ := h
    exact p m H σ _ none (Le.refl m) rl sl ⟨by rw [hC], .inl ⟨rfl, rfl⟩⟩
end
/-! ### repr(x), str(x) -/
def fRepr : Fn := fun ds g => match ds with
  | [d] => match txtD g d with
    | some p => okIf (showOk p) (.str p.shown) g
    | none => .no
  | _ => .no
def fStr : Fn := fun ds g => match ds with
  | [d] => match txtD g d with
    | some p => okIf (showOk p) (.str (strP p)) g
    | none => .no
  | _ => .no
def rRepr (K : Frag) : List L2.V → L2.Hp → L2.VK → Prop := fun xs H Q => ∃ x p, xs = [x] ∧ TxtV K H x p ∧ showOk p = true ∧ Q (.str p.shown) H
def rStr (K : Frag) : List L2.V → L2.Hp → L2.VK → Prop := fun xs H Q => ∃ x p, xs = [x] ∧ TxtV K H x p ∧ showOk p = true ∧ Q (.str (strP p)) H
theorem fRepr_s {K : Frag} {W : L2.WX} : CalS K W (rRepr K) fRepr := fun σv m g H ds xs Q rl hd p => by
  unfold fRepr at p
  split at p
  · split at p
    · rename_i y hy
      obtain ⟨c, p⟩ := okIf_post p
      obtain ⟨v, ws, rfl, h3, h4⟩ := hd.consV
      obtain rfl := h4.nilV
      exact ⟨_, _, rfl, txtD_s rl h3 hy, c, p m H _ (Le.refl m) rl .str⟩
    · exact p.elim
  · exact p.elim
theorem fStr_s {K : Frag} {W : L2.WX} : CalS K W (rStr K) fStr := fun σv m g H ds xs Q rl hd p => by
  unfold fStr at p
  split at p
  · split at p
    · rename_i y hy
      obtain ⟨c, p⟩ := okIf_post p
      obtain ⟨v, ws, rfl, h3, h4⟩ := hd.consV
      obtain rfl := h4.nilV
      exact ⟨_, _, rfl, txtD_s rl h3 hy, c, p m H _ (Le.refl m) rl .str⟩
    · exact p.elim
  · exact p.elim
section
open L2
variable {X : Cx} {W : L2.WX}
theorem call_repr (gd : X.A.guards = some []) (hu : X.A.units + 50 < cLine) : CallR X (.builtin "repr") (rRepr X.K) := by
  intro pins s σ H xs us Q I r h
  obtain ⟨x, p, rfl, ht, ok, q⟩ := h
  obtain ⟨u, rfl, ru⟩ := vals1 r
  obtain ⟨as, hr, hsm⟩ := ht.reads I ru
  exact repr_run hr hsm ok gd hu (fun _ _ e => e) fun h' t tk k => ⟨.str _, H, I.kept (t' := tk) k, ⟨_, rfl⟩, q⟩
theorem call_str (gd : X.A.guards = some []) (hu : X.A.units + 50 < cLine) : CallR X (.type "str") (rStr X.K) := by
  intro pins s σ H xs us Q I r h
  obtain ⟨x, p, rfl, ht, ok, q⟩ := h
  obtain ⟨u, rfl, ru⟩ := vals1 r
  obtain ⟨as, hr, hsm⟩ := ht.reads I ru
  exact str_run hr hsm ok gd hu (fun _ _ e => e) fun h' t tk k => ⟨.str _, H, I.kept (t' := tk) k, ⟨_, rfl⟩, q⟩
end
end AW
/-! Bx4: try with any number of clauses, each with or without a name. -/
namespace AW
open PySem PySem.Spec PyProof.Rows L2
section
variable {X : Cx}
/-- the clauses hds end an exception of which w is known, or let it go on -/
def Nets (X : Cx) (D : Ends) (hds : List ExceptHandler) (w : L2.WX) : Prop :=
  ∀ (pins : List (Addr × Obj)) (a : Addr) (B : Heap) (sI st : Shared) (σ : L2.St) (H : L2.Hp) (cls : Value) (d : Option Addr), X.Ok → Inv X pins σ H sI →
    (∀ b o, sI.heap.get? b = some o → b ∉ frs X.stack → B.get? b = some o) → sI.heap.UpToSlots st.heap → HandSPX.FlyingZ B (X.env :: X.outer) a (Zc cls d) st.heap →
    H a = none → st.os = sI.os → AllBare st.gens → a ≠ X.env.locals → a ∉ X.fs → w cls d σ H →
    wpAny (model X.prog X.w) X.A (handleBy (.ref a) X.env hds) (SP X pins D) X.xe st
theorem nets_nil {W : L2.WX} {D : Ends} (hs : X.stack = X.env :: X.outer) (hf : X.env.frame = some X.env.locals) (tk : Takes X W) : Nets X D [] W := by
  intro pins a B sI st σ H cls d ok inv stays up fly none_a os bare nl nfs w
  obtain ⟨_, _, _, ob, flds, tb, _, _, at_a, _, data_a, fld1, _⟩ := id fly
  refine wpAny_handleBy_nil ?_
  unfold PySem.passOn
  refine wpAny_bind (wpAny_field at_a data_a fld1 ?_)
  rw [if_neg (show ¬ ((Value.ref tb == Value.none) = true) by simp)]
  have last : wpAny (model X.prog X.w) X.A (setFlight (.ref a) X.env.frame) (fun _ s4 => wpAny (model X.prog X.w) X.A (throw (.ref a) : Sem Flow) (SP X pins D) X.xe s4) X.xe st := by
    rw [hf]
    refine HandSPX.setFlight_upZ fly fun g4 held up2 => wpAny_throw (tk _ _ ⟨a, B, sI, pins, σ, H, cls, d, rfl, inv, stays, up.trans up2, .inr (.inr ?_), none_a, os, bare, w⟩)
    rw [hs]
    exact held
  first
    | exact wpAny_bind (wpAny_pure (wpAny_bind last))
    | exact wpAny_bind last
/-- what a clause wishes -/
def wClause (K : PySem.W.Frag) (c : Value) (yes no : L2.WX) : L2.WX := fun cls d σ H => ∃ b, PySem.W.exmOne K cls c = some b ∧ (b = true → yes cls d σ H) ∧ (b = false → no cls d σ H)
section
variable {x n : Str} {c : Value} {i : Nat} {suite : List Stmt} {s0 : Stmt} {np pos : Pos} {hds : List ExceptHandler} {D : Ends} {no : L2.WX} {ts : Addr → Value → Option Addr → TS}
/-- the class of a clause, asked; run: its suite -/
theorem net_ask {o : Option Str} {yes : L2.WX} (hc : Names X x c) (hs : X.stack = X.env :: X.outer) (hf : X.env.frame = some X.env.locals) (rest : Nets X D hds no)
    (run : ∀ (pins : List (Addr × Obj)) (a : Addr) (oe : Obj) (σ : L2.St) (H : L2.Hp) (cls : Value) (d : Option Addr) (s4 : Shared), X.Ok → Zc cls d oe → (∃ vs, oe.data = .fields vs) → H a = none → yes cls d σ H →
      Inv (X.suite a ((a, oe) :: (X.pn ++ pins))) [] σ H s4 →
      (match o with
        | none => wpAny (model X.prog X.w) (X.A.mark (some (.ref a))) (execs (s0 :: suite) X.env) (fun f s5 => SP X pins D f s5) (fun _ _ => False) s4
        | some n => wpAny (model X.prog X.w) (X.A.mark (some (.ref a))) (storeName X.env n (.ref a)) (fun _ s5 => wpAny (model X.prog X.w) (X.A.mark (some (.ref a))) (execs (s0 :: suite) X.env)
            (fun f s6 => wpAny (model X.prog X.w) X.A (do bindName X.env n .none; unbindBehindTheSuite X.env n pos) (fun _ s7 => SP X pins D f s7) X.xe s6) (fun _ _ => False) s5) (fun _ _ => False) s4)) :
    Nets X D (.ExceptHandler (some (.Name x np)) o (s0 :: suite) pos :: hds) (wClause X.K c yes no) := by
  intro pins a B sI st σ H cls d ok inv stays up fly none_a os bare nl nfs ⟨b, known, wyes, wno⟩
  obtain ⟨ob, flds, at_a, zo, data_a⟩ := fly.there
  have here : Inv X pins σ H st := inv.landed stays fly.1 up os bare
  have sui : Inv (X.suite a ((a, ob) :: (X.pn ++ pins))) [] σ H st := here.suite at_a data_a none_a nl nfs
  have told : PySem.W.Looks (model X.prog X.w) st.heap (typeOf (.ref a)) cls := fun A Q E s k q => wpAny_typeOf_ref (k _ _ at_a) (by rw [zo.1]; exact q)
  have fits := PySem.W.exm_one (M := model X.prog X.w) here.kIn told known
  have ask : ∀ {Q E : Value → Shared → Prop}, Q c st → wpAny (model X.prog X.w) (X.A.mark (some (.ref a))) (eval (.Name x np) X.env) Q E st := fun {Q E} q => by
    obtain ⟨g1, g2, g3 | ⟨g3, g4, g5⟩⟩ := hc
    · exact ld_glob (X := X.suite a ((a, ob) :: (X.pn ++ pins))) sui g1 g3 q g2
    · exact ld_blt (X := X.suite a ((a, ob) :: (X.pn ++ pins))) sui g1 g3 g4 q g5 g2
  refine wpAny_handleBy_cons (codeAny_handlers_test (ask (fits.here ?_))) (by intro q; cases q)
  cases b with
  | false => exact rest pins a B sI st σ H cls d ok inv stays up fly none_a os bare nl nfs (wno rfl)
  | true =>
    have go : ∀ h4, HandSPX.FlyingZ B (X.env :: X.outer) a (Zc cls d) h4 → st.heap.UpToSlots h4 → ∃ oe, Zc cls d oe ∧ (∃ vs, oe.data = .fields vs) ∧ Inv (X.suite a ((a, oe) :: (X.pn ++ pins))) [] σ H { st with heap := h4 } := fun h4 fl4 up4 => by
      obtain ⟨oe, vs, e1, e2, e3⟩ := fl4.there
      exact ⟨oe, e2, ⟨vs, e3⟩, (inv.landed (s' := { st with heap := h4 }) stays fl4.1 (up.trans up4) os bare).suite e1 e3 none_a nl nfs⟩
    cases o with
    | none =>
      refine codeAny_handlers_suite (HandSPX.lands_againZ fly fun h4 fl4 up4 => ?_)
      obtain ⟨oe, z1, z2, S4⟩ := go h4 fl4 up4
      exact wpAny_mono (run pins a oe σ H cls d _ ok z1 z2 none_a (wyes rfl) S4) (fun f s5 q => q) fun _ _ z => z.elim
    | some n =>
      refine codeAny_handlers_suite_as (HandSPX.lands_againZ fly fun h4 fl4 up4 => ?_)
      obtain ⟨oe, z1, z2, S4⟩ := go h4 fl4 up4
      have := run pins a oe σ H cls d _ ok z1 z2 none_a (wyes rfl) S4
      exact wpAny_mono this (fun _ s5 h5 => wpAny_mono h5 (fun f s6 q => q) fun _ _ z => z.elim) fun _ _ z => z.elim
/-- except x: suite -/
theorem net_only (hc : Names X x c) (hs : X.stack = X.env :: X.outer) (hf : X.env.frame = some X.env.locals) (rest : Nets X D hds no)
    (hsu : ∀ (a : Addr) (oe : Obj) (cls : Value) (d : Option Addr) (pn : List (Addr × Obj)), Zc cls d oe → (∃ vs, oe.data = .fields vs) → PSs (X.suite a ((a, oe) :: pn)) (s0 :: suite) (ts a cls d)) :
    Nets X D (.ExceptHandler (some (.Name x np)) none (s0 :: suite) pos :: hds) (wClause X.K c (fun cls d σ H => ∀ a, H a = none → ts a cls d D σ H) no) := by
  refine net_ask hc hs hf rest fun pins a oe σ H cls d s4 ok z1 z2 na w S4 => ?_
  refine wpAny_mono ((hsu a oe cls d (X.pn ++ pins) z1 z2).run [] s4 σ H D S4 (w a na)) (fun f s5 q => ?_) fun _ _ z => z.elim
  show SP X pins D f s5
  cases f with
  | ret u =>
    obtain ⟨v, σ1, H1, I1, r1, q1⟩ := q
    exact ⟨v, σ1, H1, I1.unsuite ok, r1, q1⟩
  | next =>
    obtain ⟨σ1, H1, I1, q1⟩ := q
    exact ⟨σ1, H1, I1.unsuite ok, q1⟩
  | brk =>
    obtain ⟨σ1, H1, I1, q1⟩ := q
    exact ⟨σ1, H1, I1.unsuite ok, q1⟩
  | cont =>
    obtain ⟨σ1, H1, I1, q1⟩ := q
    exact ⟨σ1, H1, I1.unsuite ok, q1⟩
/-- except x as n: suite; i is n's slot -/
theorem net_as (hc : Names X x c) (hs : X.stack = X.env :: X.outer) (hf : X.env.frame = some X.env.locals) (hN : X.N.Nodup) (hi : X.N[i]? = some n) (hln : X.env.kindOf n = some .local) (rest : Nets X D hds no)
    (hsu : ∀ (a : Addr) (oe : Obj) (cls : Value) (d : Option Addr) (pn : List (Addr × Obj)), Zc cls d oe → (∃ vs, oe.data = .fields vs) → PSs (X.suite a ((a, oe) :: pn)) (s0 :: suite) (ts a cls d)) :
    Nets X D (.ExceptHandler (some (.Name x np)) (some n) (s0 :: suite) pos :: hds) (wClause X.K c (fun cls d σ H => ∀ a, H a = none →
      ts a cls d { nx := fun σ' H' => D.nx (σ'.set i none) H', rt := D.rt, bk := fun σ' H' => D.bk (σ'.set i none) H', ct := fun σ' H' => D.ct (σ'.set i none) H' } (σ.set i (some (.ref a))) H) no) := by
  refine net_ask hc hs hf rest fun pins a oe σ H cls d s4 ok z1 z2 na w S4 => ?_
  refine store_ok (X := X.suite a ((a, oe) :: (X.pn ++ pins))) (v := .ref a) S4 hN hi (.inl hln) rfl (fun s5 S5 => ?_) (.inr hln)
  refine wpAny_mono ((hsu a oe cls d (X.pn ++ pins) z1 z2).run [] s5 _ H _ S5 (w a na)) (fun f s6 q => ?_) fun _ _ z => z.elim
  have off : ∀ {σ6 : L2.St} {H6 : L2.Hp} {Q : Shared → Prop}, Inv (X.suite a ((a, oe) :: (X.pn ++ pins))) [] σ6 H6 s6 → (∀ s7, Inv X pins (σ6.set i none) H6 s7 → Q s7) →
      wpAny (model X.prog X.w) X.A (do bindName X.env n .none; unbindBehindTheSuite X.env n pos) (fun _ s7 => Q s7) X.xe s6 := fun S6 hq => gone_ok (S6.unsuite ok) hN hi hln hq
  cases f with
  | ret u =>
    obtain ⟨v, σ1, H1, I1, r1, q1⟩ := q
    exact off I1 fun s7 J => ⟨v, _, H1, J, r1, q1⟩
  | next =>
    obtain ⟨σ1, H1, I1, q1⟩ := q
    exact off I1 fun s7 J => ⟨_, H1, J, q1⟩
  | brk =>
    obtain ⟨σ1, H1, I1, q1⟩ := q
    exact off I1 fun s7 J => ⟨_, H1, J, q1⟩
  | cont =>
    obtain ⟨σ1, H1, I1, q1⟩ := q
    exact off I1 fun s7 J => ⟨_, H1, J, q1⟩
end
/-- try: body, and clauses -/
theorem ps_tryN {body : List Stmt} {c0 : ExceptHandler} {hds : List ExceptHandler} {tb : L2.WX → TS} {w : Ends → L2.WX} {pos : Pos} (hs : X.stack = X.env :: X.outer) (hf : X.env.frame = some X.env.locals)
    (hb : ∀ (W : L2.WX) (pn : List (Addr × Obj)) (xe : Value → Shared → Prop), Takes (X.tr pn xe) W → PassesOwn (model X.prog X.w) X.A X.env xe → PSs (X.tr pn xe) body (tb W))
    (nets : ∀ D, Nets X D (c0 :: hds) (w D)) : PS X (.Try body (c0 :: hds) [] [] pos) (fun D σ H => tb (w D) D σ H) := by
  refine ⟨fun pins s σ H D I h => ?_⟩
  have ok := I.ok
  have frames : X.A.frames = some (X.env :: X.outer) := by rw [ok.frames, hs]
  refine wpAny_Try_except ?_
  have body_run := (hb (w D) (X.pn ++ pins) (fun e s₁ => wpAny (model X.prog X.w) X.A (noteFrame e X.env) (fun _ s₂ => wpAny (model X.prog X.w) X.A (setFlight e none) (fun _ s₃ =>
    wpAny (model X.prog X.w) X.A (handleBy e X.env (c0 :: hds)) (SP X pins D) X.xe s₃) X.xe s₂) X.xe s₁) (fun u s1 caught => ?_) PassesOwn.looking).run [] s σ H D (I.toTry _) h
  · refine wpAny_mono body_run (fun f s1 q => ?_) fun e s1 q => q
    cases f with
    | ret u =>
      obtain ⟨v, σ1, H1, I1, r1, q1⟩ := q
      exact ⟨v, σ1, H1, I1.ofTry ok, r1, q1⟩
    | next =>
      obtain ⟨σ1, H1, I1, q1⟩ := q
      exact wpAny_execs_nil ⟨σ1, H1, I1.ofTry ok, q1⟩
    | brk =>
      obtain ⟨σ1, H1, I1, q1⟩ := q
      exact ⟨σ1, H1, I1.ofTry ok, q1⟩
    | cont =>
      obtain ⟨σ1, H1, I1, q1⟩ := q
      exact ⟨σ1, H1, I1.ofTry ok, q1⟩
  · obtain ⟨a, B, sI, pins2, σ1, H1, cls, d, rfl, inv, stays, up, sky, none_a, os, bare, wish⟩ := caught
    have inv1 : Inv X pins σ1 H1 sI := inv.ofTry ok
    have sky1 : Sky B (X.env :: X.outer) a (Zc cls d) X.env.locals s1.heap := by rw [← hs]; exact sky
    show wpAny (model X.prog X.w) X.A (noteFrame (.ref a) X.env) _ _ _
    refine Sky.land Zc.steady frames hf sky1 fun h3 fly up3 => ?_
    obtain ⟨ob, flds, at_a, _, data_a⟩ := fly.there
    have out : a ∉ frs (X.env :: X.outer) := fun hm => by
      obtain ⟨_, o2, e2, no⟩ := fly.2.2.1.mem hm
      rw [at_a] at e2
      cases e2
      exact no _ data_a
    refine nets D pins a B sI { s1 with heap := h3 } σ1 H1 cls d ok inv1 stays (up.trans up3) fly none_a os bare (fun z => out (List.mem_filterMap.mpr ⟨X.env, List.mem_cons_self, by rw [hf, z]⟩)) (fun hm => ?_) wish
    obtain ⟨e, he, q⟩ := List.mem_filterMap.mp hm
    exact out (List.mem_filterMap.mpr ⟨e, List.mem_cons_of_mem _ he, q⟩)
end
end AW
/-! Bx5: the mirror of try: the clauses' suites are one return each. -/
namespace AW
open PySem PySem.Spec PyProof.Rows L2
/-- what a clause's suite returns: a text; n.f; repr(n.f); a text + repr(n.f); a text + str(n.f); (a text, n.f); (a text, repr(n.f)) -/
inductive SuK where
  | cst (s : Str)
  | fld (f : Str)
  | rep (f : Str)
  | pre (p f : Str)
  | prs (p f : Str)
  | tuF (p f : Str)
  | tuR (p f : Str)
def suT (p : Str) (t : PyData → Str) (g : G) (d : D) : Option D := match txtD g d with
  | some q => match showOk q && decide (p.length + (t q).length ≤ 100000) with
    | true => some (.str (p ++ t q))
    | false => none
  | none => none
def suR (g : G) (d : D) : Option D := match txtD g d with
  | some q => match showOk q with
    | true => some (.str q.shown)
    | false => none
  | none => none
def suF (e : Exn) (f : Str) (k : D → Option D) : Option D := match e.fs.lookup f with
  | some d => k d
  | none => none
def SuK.val (e : Exn) (g : G) : SuK → Option D
  | .cst s => some (.str s)
  | .fld f => suF e f some
  | .rep f => suF e f (suR g)
  | .pre p f => suF e f (suT p PyData.shown g)
  | .prs p f => suF e f (suT p strP g)
  | .tuF p f => suF e f fun d => some (.tup [.str p, d])
  | .tuR p f => suF e f fun d => (suR g d).map fun z => .tup [.str p, z]
/-- a clause: which classes it fits; the slot and the class of what it names; what it returns -/
structure Cla where
  tab : List (Str × Bool)
  nm : Option (Nat × Str)
  k : SuK
def Cla.fit (c : Cla) (e : Exn) (σ : Sg) : Bool := match c.nm with
  | none => true
  | some (i, x) => decide (e.cls = x) && decide (i < σ.length)
def sNets : List Cla → Exn → Sx
  | [], e => fun σ g => .ex σ e g
  | c :: r, e => fun σ g => match c.tab.lookup e.cls with
    | some true => match c.fit e σ with
      | true => match c.k.val e g with
        | some d => .rt d g
        | none => .no
      | false => .no
    | some false => sNets r e σ g
    | none => .no
def sTry (b : Sx) (cs : List Cla) : Sx := fun σ g => match b σ g with
  | .ex σ1 e g1 => sNets cs e σ1 g1
  | r => r
theorem lookup_mem {α : Type} {x : Str} {b : α} : ∀ {l : List (Str × α)}, l.lookup x = some b → (x, b) ∈ l
  | [], h => by cases h
  | (y, c) :: l, h => by
    rw [List.lookup_cons] at h
    by_cases e : x == y
    · rw [e] at h
      cases h
      rw [eq_of_beq e]
      exact List.mem_cons_self
    · have e' : (x == y) = false := by simpa using e
      rw [e'] at h
      exact List.mem_cons_of_mem _ (lookup_mem h)
theorem lookup_den {K : PySem.W.Frag} {m : Md} {f : Str} {d : D} : ∀ {fs : List (Str × D)} {fv : List (Str × V)}, fv.map (·.1) = fs.map (·.1) → Dens K m (fs.map (·.2)) (fv.map (·.2)) → fs.lookup f = some d → ∃ v, fv.lookup f = some v ∧ Den K m d v
  | [], _, _, _, h => by cases h
  | (y, e) :: fs, [], hn, _, _ => by cases hn
  | (y, e) :: fs, (z, v) :: fv, hn, hd, h => by
    simp only [List.map_cons, List.cons.injEq] at hn
    obtain ⟨rfl, hn⟩ := hn
    obtain ⟨v', ws, e1, h1, h2⟩ := hd.consV
    cases e1
    rw [List.lookup_cons] at h ⊢
    by_cases q : f == z
    · rw [q] at h ⊢
      cases h
      exact ⟨v, rfl, h1⟩
    · have q' : (f == z) = false := by simpa using q
      rw [q'] at h ⊢
      exact lookup_den hn h2 h
section
variable {X : Cx} {W : L2.WX}
/-- n.f in a suite -/
theorem su_fld {a C : Addr} {oe : Obj} {cls : Value} {d : Option Addr} {pn : List (Addr × Obj)} {i : Nat} {n f : Str} {q pos : Pos} (T : XfC X.K C) (hno : PySem.W.findIn X.K (.ref C) f = some none) (hi : X.N[i]? = some n) (hv : Vis X.env.scope n)
    (hz : Zc cls d oe) (hf : ∃ vs, oe.data = .fields vs) (hb : attributeBase (.Name n q) f X.env (eval (.Name n q) X.env) = eval (.Name n q) X.env := by rfl) (hd : (n == ("__debug__" : Str)) = false := by decide) (hcd : (n == ("__classdict__" : Str)) = false := by decide) :
    PE (X.suite a ((a, oe) :: pn)) (.Attribute (.Name n q) f pos) (tXf a cls d C f (tVar i)) := pe_xf T hno hz hf (pe_var (X := X.suite a ((a, oe) :: pn)) hi hv hd hcd) hb
/-- the expression that a suite returns -/
inductive SuE (X : Cx) (n : Str) : SuK → Expr → Prop
  | fld {f : Str} {q pos : Pos} (hb : attributeBase (.Name n q) f X.env (eval (.Name n q) X.env) = eval (.Name n q) X.env) : SuE X n (.fld f) (.Attribute (.Name n q) f pos)
  | rep {f : Str} {q pos p1 p2 : Pos} (hb : attributeBase (.Name n q) f X.env (eval (.Name n q) X.env) = eval (.Name n q) X.env) (hg : Gl X "repr") (hm : X.mg "repr" = none)
      (he : starEach [.Attribute (.Name n q) f pos] X.env = (false, eval (.Attribute (.Name n q) f pos) X.env) :: starEach [] X.env) : SuE X n (.rep f) (.Call (.Name "repr" p1) [.Attribute (.Name n q) f pos] [] p2)
  | pre {t f : Str} {jj : Nat} {q pos p1 p2 p3 p4 : Pos} (hb : attributeBase (.Name n q) f X.env (eval (.Name n q) X.env) = eval (.Name n q) X.env) (hg : Gl X "repr") (hm : X.mg "repr" = none)
      (he : starEach [.Attribute (.Name n q) f pos] X.env = (false, eval (.Attribute (.Name n q) f pos) X.env) :: starEach [] X.env) : SuE X n (.pre t f) (.BinOp (.Constant (.str t) jj p3) .Add (.Call (.Name "repr" p1) [.Attribute (.Name n q) f pos] [] p2) p4)
  | prs {t f : Str} {jj : Nat} {q pos p1 p2 p3 p4 : Pos} (hb : attributeBase (.Name n q) f X.env (eval (.Name n q) X.env) = eval (.Name n q) X.env) (hg : Gl X "str") (hm : X.mg "str" = none)
      (he : starEach [.Attribute (.Name n q) f pos] X.env = (false, eval (.Attribute (.Name n q) f pos) X.env) :: starEach [] X.env) : SuE X n (.prs t f) (.BinOp (.Constant (.str t) jj p3) .Add (.Call (.Name "str" p1) [.Attribute (.Name n q) f pos] [] p2) p4)
/-- what it is due to be -/
def SuV (K : PySem.W.Frag) (H : L2.Hp) (v0 : V) : SuK → V → Prop
  | .cst _, _ => False
  | .fld _, u => u = v0
  | .rep _, u => ∃ p, TxtV K H v0 p ∧ showOk p = true ∧ u = .str p.shown
  | .pre t _, u => ∃ p, TxtV K H v0 p ∧ showOk p = true ∧ t.length + p.shown.length ≤ sizeLine ∧ u = .str (t ++ p.shown)
  | .prs t _, u => ∃ p, TxtV K H v0 p ∧ showOk p = true ∧ t.length + (strP p).length ≤ sizeLine ∧ u = .str (t ++ strP p)
  | .tuF _ _, _ => False
  | .tuR _ _, _ => False
def SuK.f : SuK → Str
  | .cst _ => ""
  | .fld f => f
  | .rep f => f
  | .pre _ f => f
  | .prs _ f => f
  | .tuF _ f => f
  | .tuR _ f => f
def SuK.pl : SuK → Bool
  | .cst _ => false
  | .tuF _ _ => false
  | .tuR _ _ => false
  | _ => true
def SuK.tu : SuK → Bool
  | .tuF _ _ => true
  | .tuR _ _ => true
  | _ => false
def SuK.inn : SuK → SuK
  | .tuR _ f => .rep f
  | k => .fld k.f
def SuK.hd : SuK → Str
  | .tuF t _ => t
  | .tuR t _ => t
  | _ => ""
def tSu (K : PySem.W.Frag) (a : Addr) (cls : Value) (d : Option Addr) (C : Addr) (k : SuK) (i : Nat) : TE := fun σ H Q => σ[i]? = some (some (.ref a)) ∧ cls = .ref C ∧ ∃ (dd : Addr) (fs : List (Str × V)) (v0 u : V), d = some dd ∧ H dd = some (.xd fs) ∧ fs.lookup k.f = some v0 ∧ SuV K H v0 k u ∧ Q u H
theorem su_e {a C : Addr} {oe : Obj} {cls : Value} {d : Option Addr} {pn : List (Addr × Obj)} {i : Nat} {n : Str} {k : SuK} {e : Expr} (h : SuE X n k e) (T : XfC X.K C) (hno : PySem.W.findIn X.K (.ref C) k.f = some none) (hi : X.N[i]? = some n) (hv : Vis X.env.scope n)
    (gd : X.A.guards = some []) (hu : X.A.units + 50 < cLine) (hz : Zc cls d oe) (hf : ∃ vs, oe.data = .fields vs) (hd : (n == ("__debug__" : Str)) = false) (hcd : (n == ("__classdict__" : Str)) = false) :
    PE (X.suite a ((a, oe) :: pn)) e (tSu X.K a cls d C k i) := by
  cases h with
  | fld hb => exact PE.imp (su_fld T hno hi hv hz hf hb hd hcd) fun σ H Q ⟨h1, h2, dd, fs, v0, u, h3, h4, h5, h6, h7⟩ => ⟨_, h1, rfl, h2, dd, fs, v0, h3, h4, h5, by rw [← h6]; exact h7⟩
  | rep hb hg hm he =>
    refine PE.imp (pe_callB (X := X.suite a ((a, oe) :: pn)) (call_repr gd hu) hg hm (by kernel_rfl) (pa_cons (su_fld T hno hi hv hz hf hb hd hcd) pa_nil he) (he := he)) fun σ H Q ⟨h1, h2, dd, fs, v0, u, h3, h4, h5, ⟨p, h6, h7, h8⟩, h9⟩ => ?_
    exact ⟨_, h1, rfl, h2, dd, fs, v0, h3, h4, h5, _, p, rfl, h6, h7, by rw [← h8]; exact h9⟩
  | pre hb hg hm he =>
    refine PE.imp (pe_op (X := X.suite a ((a, oe) :: pn)) op_add_str pe_str (pe_callB (X := X.suite a ((a, oe) :: pn)) (call_repr gd hu) hg hm (by kernel_rfl) (pa_cons (su_fld T hno hi hv hz hf hb hd hcd) pa_nil he) (he := he))) fun σ H Q ⟨h1, h2, dd, fs, v0, u, h3, h4, h5, ⟨p, h6, h7, h8, h8'⟩, h9⟩ => ?_
    exact ⟨_, h1, rfl, h2, dd, fs, v0, h3, h4, h5, _, p, rfl, h6, h7, _, _, rfl, rfl, h8, by rw [← h8']; exact h9⟩
  | prs hb hg hm he =>
    refine PE.imp (pe_op (X := X.suite a ((a, oe) :: pn)) op_add_str pe_str (pe_callTy (X := X.suite a ((a, oe) :: pn)) (call_str gd hu) hg hm (by kernel_rfl) (pa_cons (su_fld T hno hi hv hz hf hb hd hcd) pa_nil he) (he := he))) fun σ H Q ⟨h1, h2, dd, fs, v0, u, h3, h4, h5, ⟨p, h6, h7, h8, h8'⟩, h9⟩ => ?_
    exact ⟨_, h1, rfl, h2, dd, fs, v0, h3, h4, h5, _, p, rfl, h6, h7, _, _, rfl, rfl, h8, by rw [← h8']; exact h9⟩
/-- (a text, n.f) and (a text, repr(n.f)) -/
inductive SuTE (X : Cx) (n : Str) : SuK → Expr → Prop
  | tuF {t f : Str} {jj : Nat} {q pos p3 p4 : Pos} {x1} (hb : attributeBase (.Name n q) f X.env (eval (.Name n q) X.env) = eval (.Name n q) X.env)
      (he : starEach [.Constant (.str t) jj p3, .Attribute (.Name n q) f pos] X.env = (false, eval (.Constant (.str t) jj p3) X.env) :: starEach [.Attribute (.Name n q) f pos] X.env)
      (he2 : starEach [.Attribute (.Name n q) f pos] X.env = (false, eval (.Attribute (.Name n q) f pos) X.env) :: starEach [] X.env) : SuTE X n (.tuF t f) (.Tuple [.Constant (.str t) jj p3, .Attribute (.Name n q) f pos] x1 p4)
  | tuR {t f : Str} {jj : Nat} {q pos p1 p2 p3 p4 : Pos} {x1} (hb : attributeBase (.Name n q) f X.env (eval (.Name n q) X.env) = eval (.Name n q) X.env) (hg : Gl X "repr") (hm : X.mg "repr" = none)
      (he0 : starEach [.Attribute (.Name n q) f pos] X.env = (false, eval (.Attribute (.Name n q) f pos) X.env) :: starEach [] X.env)
      (he : starEach [.Constant (.str t) jj p3, .Call (.Name "repr" p1) [.Attribute (.Name n q) f pos] [] p2] X.env = (false, eval (.Constant (.str t) jj p3) X.env) :: starEach [.Call (.Name "repr" p1) [.Attribute (.Name n q) f pos] [] p2] X.env)
      (he2 : starEach [.Call (.Name "repr" p1) [.Attribute (.Name n q) f pos] [] p2] X.env = (false, eval (.Call (.Name "repr" p1) [.Attribute (.Name n q) f pos] [] p2) X.env) :: starEach [] X.env) :
      SuTE X n (.tuR t f) (.Tuple [.Constant (.str t) jj p3, .Call (.Name "repr" p1) [.Attribute (.Name n q) f pos] [] p2] x1 p4)
def tSuT (K : PySem.W.Frag) (a : Addr) (cls : Value) (d : Option Addr) (C : Addr) (k : SuK) (i : Nat) : TE := fun σ H Q => σ[i]? = some (some (.ref a)) ∧ cls = .ref C ∧ ∃ (dd : Addr) (fs : List (Str × V)) (v0 u : V), d = some dd ∧ H dd = some (.xd fs) ∧ fs.lookup k.f = some v0 ∧ SuV K H v0 k.inn u ∧ ∀ p, H p = none → Q (.ref p) (upd H p (.tup [.str k.hd, u]))
theorem two_line {a b : V} : [a, b].length ≤ sizeLine := by rw [sizeLine_eq]; exact (by decide : 2 ≤ 16777216)
theorem su_t {a C : Addr} {oe : Obj} {cls : Value} {d : Option Addr} {pn : List (Addr × Obj)} {i : Nat} {n : Str} {k : SuK} {e : Expr} (h : SuTE X n k e) (T : XfC X.K C) (hno : PySem.W.findIn X.K (.ref C) k.f = some none) (hi : X.N[i]? = some n) (hv : Vis X.env.scope n)
    (gd : X.A.guards = some []) (hu : X.A.units + 50 < cLine) (hz : Zc cls d oe) (hf : ∃ vs, oe.data = .fields vs) (hd : (n == ("__debug__" : Str)) = false) (hcd : (n == ("__classdict__" : Str)) = false) :
    PE (X.suite a ((a, oe) :: pn)) e (tSuT X.K a cls d C k i) := by
  cases h with
  | tuF hb he he2 =>
    exact PE.imp (pe_tup (pa_cons pe_str (pa_cons (su_e (SuE.fld hb) T hno hi hv gd hu hz hf hd hcd) pa_nil he2) he)) fun σ H Q ⟨h1, h2, dd, fs, v0, u, h3, h4, h5, h6, h7⟩ => ⟨h1, h2, dd, fs, v0, u, h3, h4, h5, h6, two_line, h7⟩
  | tuR hb hg hm he0 he he2 =>
    exact PE.imp (pe_tup (pa_cons pe_str (pa_cons (su_e (SuE.rep hb hg hm he0) T hno hi hv gd hu hz hf hd hcd) pa_nil he2) he)) fun σ H Q ⟨h1, h2, dd, fs, v0, u, h3, h4, h5, h6, h7⟩ => ⟨h1, h2, dd, fs, v0, u, h3, h4, h5, h6, two_line, h7⟩
inductive ClsOk (X : Cx) : List ExceptHandler → List Cla → Prop
  | nil : ClsOk X [] []
  | only {x s : Str} {c : Value} {tab : List (Str × Bool)} {jj : Nat} {np p1 p2 pos : Pos} {hds : List ExceptHandler} {l : List Cla} (hc : Names X x c) (ht : ∀ p ∈ tab, PySem.W.exmOne X.K (.ref (ga X.K p.1)) c = some p.2) (r : ClsOk X hds l) :
      ClsOk X (.ExceptHandler (some (.Name x np)) none [.Return (some (.Constant (.str s) jj p1)) p2] pos :: hds) (⟨tab, none, .cst s⟩ :: l)
  | named {x n : Str} {k : SuK} {e : Expr} {c : Value} {tab : List (Str × Bool)} {np p2 pos : Pos} {i : Nat} {hds : List ExceptHandler} {l : List Cla} (hc : Names X x c) (ht : ∀ p ∈ tab, PySem.W.exmOne X.K (.ref (ga X.K p.1)) c = some p.2)
      (hi : X.N[i]? = some n) (hln : X.env.kindOf n = some .local) (hv : Vis X.env.scope n) (se : SuE X n k e) (T : XfC X.K (ga X.K x)) (hno : PySem.W.findIn X.K (.ref (ga X.K x)) k.f = some none)
      (hd : (n == ("__debug__" : Str)) = false) (hcd : (n == ("__classdict__" : Str)) = false) (r : ClsOk X hds l) :
      ClsOk X (.ExceptHandler (some (.Name x np)) (some n) [.Return (some e) p2] pos :: hds) (⟨tab, some (i, x), k⟩ :: l)
  | namedT {x n : Str} {k : SuK} {e : Expr} {c : Value} {tab : List (Str × Bool)} {np p2 pos : Pos} {i : Nat} {hds : List ExceptHandler} {l : List Cla} (hc : Names X x c) (ht : ∀ p ∈ tab, PySem.W.exmOne X.K (.ref (ga X.K p.1)) c = some p.2)
      (hi : X.N[i]? = some n) (hln : X.env.kindOf n = some .local) (hv : Vis X.env.scope n) (se : SuTE X n k e) (T : XfC X.K (ga X.K x)) (hno : PySem.W.findIn X.K (.ref (ga X.K x)) k.f = some none)
      (hd : (n == ("__debug__" : Str)) = false) (hcd : (n == ("__classdict__" : Str)) = false) (r : ClsOk X hds l) :
      ClsOk X (.ExceptHandler (some (.Name x np)) (some n) [.Return (some e) p2] pos :: hds) (⟨tab, some (i, x), k⟩ :: l)
theorem suT_s {K : PySem.W.Frag} {m : Md} {g : G} {H : L2.Hp} {t : Str} {sh : PyData → Str} {d0 d : D} {v0 : V} (r : Rel K m g H) (h : Den K m d0 v0) (e : suT t sh g d0 = some d) : ∃ p, TxtV K H v0 p ∧ showOk p = true ∧ t.length + (sh p).length ≤ sizeLine ∧ d = .str (t ++ sh p) := by
  unfold suT at e
  split at e
  · rename_i p hp
    split at e
    · rename_i hok
      cases e
      simp only [Bool.and_eq_true, decide_eq_true_eq] at hok
      exact ⟨p, txtD_s r h hp, hok.1, by rw [sizeLine_eq]; omega, rfl⟩
    · cases e
  · cases e
theorem suR_s {K : PySem.W.Frag} {m : Md} {g : G} {H : L2.Hp} {d0 d : D} {v0 : V} (r : Rel K m g H) (h : Den K m d0 v0) (e : suR g d0 = some d) : ∃ p, TxtV K H v0 p ∧ showOk p = true ∧ d = .str p.shown := by
  unfold suR at e
  split at e
  · rename_i p hp
    split at e
    · rename_i hok
      cases e
      exact ⟨p, txtD_s r h hp, hok, rfl⟩
    · cases e
  · cases e
theorem suF_s {e : Exn} {f : Str} {k : D → Option D} {d : D} (h : suF e f k = some d) : ∃ d0, e.fs.lookup f = some d0 ∧ k d0 = some d := by
  unfold suF at h
  split at h
  · rename_i d0 h0
    exact ⟨d0, h0, h⟩
  · cases h
/-- what the clause returns, by values -/
theorem suV_s {K : PySem.W.Frag} {m : Md} {g : G} {H : L2.Hp} {e : Exn} {k : SuK} {d : D} {fv : List (Str × V)} (r : Rel K m g H) (hn : fv.map (·.1) = e.fs.map (·.1)) (hd : Dens K m (e.fs.map (·.2)) (fv.map (·.2))) (h : k.val e g = some d) (nc : k.pl = true) :
    e.fs ≠ [] ∧ ∃ v0 u, fv.lookup k.f = some v0 ∧ SuV K H v0 k u ∧ Den K m d u := by
  have ne : ∀ {f : Str} {d0 : D}, e.fs.lookup f = some d0 → e.fs ≠ [] := fun h z => by
    rw [z] at h
    cases h
  cases k with
  | cst s => cases nc
  | tuF t f => cases nc
  | tuR t f => cases nc
  | fld f =>
    obtain ⟨d0, h1, h2⟩ := suF_s h
    cases h2
    obtain ⟨v, h3, h4⟩ := lookup_den hn hd h1
    exact ⟨ne h1, v, v, h3, rfl, h4⟩
  | rep f =>
    obtain ⟨d0, h1, h2⟩ := suF_s h
    obtain ⟨v, h3, h4⟩ := lookup_den hn hd h1
    obtain ⟨p, h5, h6, rfl⟩ := suR_s r h4 h2
    exact ⟨ne h1, v, _, h3, ⟨p, h5, h6, rfl⟩, .str⟩
  | pre t f =>
    obtain ⟨d0, h1, h2⟩ := suF_s h
    obtain ⟨v, h3, h4⟩ := lookup_den hn hd h1
    obtain ⟨p, h5, h6, h7, rfl⟩ := suT_s r h4 h2
    exact ⟨ne h1, v, _, h3, ⟨p, h5, h6, h7, rfl⟩, .str⟩
  | prs t f =>
    obtain ⟨d0, h1, h2⟩ := suF_s h
    obtain ⟨v, h3, h4⟩ := lookup_den hn hd h1
    obtain ⟨p, h5, h6, h7, rfl⟩ := suT_s r h4 h2
    exact ⟨ne h1, v, _, h3, ⟨p, h5, h6, h7, rfl⟩, .str⟩
theorem suVT_s {K : PySem.W.Frag} {m : Md} {g : G} {H : L2.Hp} {e : Exn} {k : SuK} {d : D} {fv : List (Str × V)} (r : Rel K m g H) (hn : fv.map (·.1) = e.fs.map (·.1)) (hd : Dens K m (e.fs.map (·.2)) (fv.map (·.2))) (h : k.val e g = some d) (nc : k.tu = true) :
    e.fs ≠ [] ∧ ∃ v0 u d', fv.lookup k.f = some v0 ∧ SuV K H v0 k.inn u ∧ Den K m d' u ∧ d = .tup [.str k.hd, d'] := by
  have ne : ∀ {f : Str} {d0 : D}, e.fs.lookup f = some d0 → e.fs ≠ [] := fun h z => by
    rw [z] at h
    cases h
  cases k with
  | tuF t f =>
    obtain ⟨d0, h1, h2⟩ := suF_s h
    cases h2
    obtain ⟨v, h3, h4⟩ := lookup_den hn hd h1
    exact ⟨ne h1, v, v, d0, h3, rfl, h4, rfl⟩
  | tuR t f =>
    obtain ⟨d0, h1, h2⟩ := suF_s h
    obtain ⟨z, h8, rfl⟩ := Option.map_eq_some_iff.1 h2
    obtain ⟨v, h3, h4⟩ := lookup_den hn hd h1
    obtain ⟨p, h5, h6, rfl⟩ := suR_s r h4 h8
    exact ⟨ne h1, v, _, _, h3, ⟨p, h5, h6, rfl⟩, .str, rfl⟩
  | _ => cases nc
theorem nets_of (hs : X.stack = X.env :: X.outer) (hf : X.env.frame = some X.env.locals) (hN : X.N.Nodup) (tk : Takes X W) (gd : X.A.guards = some []) (hu : X.A.units + 50 < cLine) : ∀ {hds : List ExceptHandler} {cs : List Cla}, ClsOk X hds cs →
    ∃ w : Ends → L2.WX, (∀ D, Nets X D hds (w D)) ∧ ∀ (D : Ends) (e : Exn) (σ : Sg) (g : G) (m : Md) (σv : L2.St) (H : L2.Hp) (cv : Value) (dd : Option Addr), Rel X.K m g H → SlotsL X.K m σ σv → ExnOk X.K m e cv dd → PostS X.K W (sNets cs e σ g) m D → w D cv dd σv H := by
  intro hds cs h
  induction h with
  | nil => exact ⟨fun _ => W, fun D => nets_nil hs hf tk, fun D e σ g m σv H cv dd r sl x p => p m H σv cv dd (Le.refl m) r sl x⟩
  | @only x s c tab jj np p1 p2 pos hds l hc ht _ ih =>
    obtain ⟨w, w1, w2⟩ := ih
    refine ⟨fun D => _, fun D => net_only (ts := fun _ _ _ => tRet (tC (.str s))) hc hs hf (w1 D) fun a oe cls d pn _ _ => pss_one (ps_ret pe_str), fun D e σ g m σv H cv dd r sl x p => ?_⟩
    unfold sNets at p
    split at p
    · rename_i hl
      have hx := ht _ (lookup_mem hl)
      refine ⟨true, by rw [x.1]; exact hx, fun _ a _ => ?_, fun z => by cases z⟩
      exact p m H _ (Le.refl m) r .str
    · rename_i hl
      have hx := ht _ (lookup_mem hl)
      exact ⟨false, by rw [x.1]; exact hx, (fun z => by cases z), fun _ => w2 D e σ g m σv H cv dd r sl x p⟩
    · exact p.elim
  | @named x n k e0 c tab np p2 pos i hds l hc ht hi hln hv se T hno hd hcd _ ih =>
    obtain ⟨w, w1, w2⟩ := ih
    refine ⟨fun D => _, fun D => net_as (ts := fun a cls d => tRet (tSu X.K a cls d (ga X.K x) k i)) hc hs hf hN hi hln (w1 D) fun a oe cls d pn z1 z2 => pss_one (ps_ret (su_e se T hno hi hv gd hu z1 z2 hd hcd)), fun D e σ g m σv H cv dd r sl x p => ?_⟩
    unfold sNets at p
    split at p
    · rename_i hl
      have hx := ht _ (lookup_mem hl)
      refine ⟨true, by rw [x.1]; exact hx, fun _ a na => ?_, fun z => by cases z⟩
      split at p
      · rename_i hfit
        split at p
        · rename_i d hval
          unfold Cla.fit at hfit
          simp only [Bool.and_eq_true, decide_eq_true_eq] at hfit
          obtain ⟨hcls, hlen⟩ := hfit
          have nc : k.pl = true := by
            cases se <;> rfl
          obtain ⟨hcv, hdd⟩ := x
          have empty : e.fs = [] → False := fun z => by
            cases k with
            | cst s => cases nc
            | tuF t f => cases nc
            | tuR t f => cases nc
            | fld f => obtain ⟨d0, q, _⟩ := suF_s hval; rw [z] at q; cases q
            | rep f => obtain ⟨d0, q, _⟩ := suF_s hval; rw [z] at q; cases q
            | pre t f => obtain ⟨d0, q, _⟩ := suF_s hval; rw [z] at q; cases q
            | prs t f => obtain ⟨d0, q, _⟩ := suF_s hval; rw [z] at q; cases q
          rcases hdd with ⟨z, _⟩ | ⟨_, d2, fv, rfl, hF, hnm, hden⟩
          · exact (empty z).elim
          · obtain ⟨_, v0, u, q1, q2, q3⟩ := suV_s r hnm hden hval nc
            refine ⟨?_, by rw [hcv, hcls], d2, fv, v0, u, rfl, r.ex _ _ hF, q1, q2, p m H u (Le.refl m) r q3⟩
            rw [List.getElem?_set_self (Nat.lt_of_lt_of_le hlen sl.2)]
        · exact p.elim
      · exact p.elim
    · rename_i hl
      have hx := ht _ (lookup_mem hl)
      exact ⟨false, by rw [x.1]; exact hx, (fun z => by cases z), fun _ => w2 D e σ g m σv H cv dd r sl x p⟩
    · exact p.elim
  | @namedT x n k e0 c tab np p2 pos i hds l hc ht hi hln hv se T hno hd hcd _ ih =>
    obtain ⟨w, w1, w2⟩ := ih
    refine ⟨fun D => _, fun D => net_as (ts := fun a cls d => tRet (tSuT X.K a cls d (ga X.K x) k i)) hc hs hf hN hi hln (w1 D) fun a oe cls d pn z1 z2 => pss_one (ps_ret (su_t se T hno hi hv gd hu z1 z2 hd hcd)), fun D e σ g m σv H cv dd r sl x p => ?_⟩
    unfold sNets at p
    split at p
    · rename_i hl
      have hx := ht _ (lookup_mem hl)
      refine ⟨true, by rw [x.1]; exact hx, fun _ a na => ?_, fun z => by cases z⟩
      split at p
      · rename_i hfit
        split at p
        · rename_i d hval
          unfold Cla.fit at hfit
          simp only [Bool.and_eq_true, decide_eq_true_eq] at hfit
          obtain ⟨hcls, hlen⟩ := hfit
          have nc : k.tu = true := by
            cases se <;> rfl
          obtain ⟨hcv, hdd⟩ := x
          have empty : e.fs = [] → False := fun z => by
            cases k with
            | tuF t f => obtain ⟨d0, q, _⟩ := suF_s hval; rw [z] at q; cases q
            | tuR t f => obtain ⟨d0, q, _⟩ := suF_s hval; rw [z] at q; cases q
            | _ => cases nc
          rcases hdd with ⟨z, _⟩ | ⟨_, d2, fv, rfl, hF, hnm, hden⟩
          · exact (empty z).elim
          · obtain ⟨_, v0, u, d', q1, q2, q3, rfl⟩ := suVT_s r hnm hden hval nc
            refine ⟨?_, by rw [hcv, hcls], d2, fv, v0, u, rfl, r.ex _ _ hF, q1, q2, fun a' ha => p _ _ _ (le_put (r.free ha)) (r.put ha) (put_tup (r.free ha) (.cons .str (.cons q3 .nil)))⟩
            rw [List.getElem?_set_self (Nat.lt_of_lt_of_le hlen sl.2)]
        · exact p.elim
      · exact p.elim
    · rename_i hl
      have hx := ht _ (lookup_mem hl)
      exact ⟨false, by rw [x.1]; exact hx, (fun z => by cases z), fun _ => w2 D e σ g m σv H cv dd r sl x p⟩
    · exact p.elim
/-- try: body, clauses -/
theorem s_try {body : List Stmt} {c0 : ExceptHandler} {hds : List ExceptHandler} {b : Sx} {cs : List Cla} {pos : Pos} (hs : X.stack = X.env :: X.outer) (hf : X.env.frame = some X.env.locals) (hN : X.N.Nodup) (tk : Takes X W) (gd : X.A.guards = some []) (hu : X.A.units + 50 < cLine)
    (hb : ∀ (W' : L2.WX) (pn : List (Addr × Obj)) (xe : Value → Shared → Prop), Takes (X.tr pn xe) W' → PassesOwn (model X.prog X.w) X.A X.env xe → PSs (X.tr pn xe) body (tS X.K W' b))
    (cl : ClsOk X (c0 :: hds) cs) : PS X (.Try body (c0 :: hds) [] [] pos) (tS X.K W (sTry b cs)) := by
  obtain ⟨w, w1, w2⟩ := nets_of (W := W) hs hf hN tk gd hu cl
  refine PS.imp (ps_tryN (tb := fun W' => tS X.K W' b) hs hf hb w1) fun D σv H h => ?_
  obtain ⟨m, σ, g, r, sl, p⟩ := h
  refine ⟨m, σ, g, r, sl, ?_⟩
  unfold sTry at p
  generalize b σ g = res at p
  cases res with
  | ex σ1 e g1 => exact fun m' H' σv' cv dd l r' sl' x => w2 D e σ1 g1 m' σv' H' cv dd r' sl' x (PostS.mono l p)
  | nx σ1 g1 => exact p
  | rt d g1 => exact p
  | bk σ1 g1 => exact p
  | ct σ1 g1 => exact p
  | no => exact p
end
end AW
/-! Bx6: told(lambda: body), told a def that tries the call and tells how it ended. -/
namespace AW
open PySem PySem.Spec PyProof.Rows L2 LamX
/-- the code object at c' was known, or it is new and told by the table at P -/
def Grown (H : L2.Hp) (P : Addr) (ps : Array Value) (q : Str) (c' : Addr) (H1 : L2.Hp) : Prop := (H1 = H ∧ H c' = some (CodeO c' q)) ∨ (H c' = none ∧ P ≠ c' ∧ ∃ more : Array Value, TriplesOk (ps ++ more).toList ∧
  (∀ (pos : Pos) (cv : Value), codeAmong pos (ps ++ more).toList = some cv → codeAmong pos ps.toList = some cv ∨ cv = .ref c') ∧ H1 = upd (upd H P (.tbl (ps ++ more))) c' (CodeO c' q))
theorem Grown.code {H : L2.Hp} {P : Addr} {ps : Array Value} {q : Str} {c' : Addr} {H1 : L2.Hp} (g : Grown H P ps q c' H1) : H1 c' = some (CodeO c' q) := by
  rcases g with ⟨rfl, h⟩ | ⟨_, _, _, _, _, rfl⟩
  · exact h
  · exact upd_same
section
variable {X : Cx} {pins : List (Addr × Obj)} {σ : L2.St} {H HZ : L2.Hp} {s s1 : Shared}
/-- a lambda is made -/
theorem lam_make3 {c P : Addr} {params : Arguments} {body : Expr} {scope : Scope} {pos : Pos} {E Q : Value → Shared → Prop} (I : Inv X pins σ H s) (TB : TabB X.base X.mg c P) (hcode : X.env.code = .ref c)
    {ps : Array Value} (at_P : H P = some (.tbl ps)) (triples : TriplesOk ps.toList) (among : ∀ (pos : Pos) (cv : Value), codeAmong pos ps.toList = some cv → ∃ c, cv = .ref c ∧ H c = some (CodeO c (X.env.qual ++ "<lambda>"))) (hdef : defaultsOf params X.env = ([], [])) (hfree : ∀ y ∈ scope.names, y.2 = .free → ∃ c, X.env.cells.lookup y.1 = some c)
    (h : ∀ (f c' : Addr) (pm ctv : Value) (H1 : L2.Hp) (s' : Shared), Inv X pins σ H1 s' → Grown H P ps (X.env.qual ++ "<lambda>") c' H1 →
      s'.heap.get? f = some (PySem.W.kla_obj "<lambda>" (X.env.qual ++ "<lambda>") params body scope (cloFrom X.env.cells scope.names []) pm c' ctv) → H1 f = none → f ∉ frs X.stack → Q (.ref f) s') :
    wpAny (model X.prog X.w) X.A (eval (.Lambda params body scope pos) X.env) Q E s := by
  have blt_P : s.heap.BuiltinsAt X.mg P := TB.bm.keeps I.bk
  have obj_P : s.heap.get? P = some { cls := .none, data := .fields ps } := I.hok P _ at_P
  have outside : ∀ f, s.heap.objs.size ≤ f → f ∉ frs X.stack := fun f le z => by
    rcases List.mem_cons.mp (I.stkSub _ z) with e | e
    · have below := I.lt
      rw [← e] at below
      exact absurd (Nat.lt_of_lt_of_le below le) (Nat.lt_irrefl _)
    · exact I.nofs le e
  refine PySem.W.kla_eval hdef ?_
  cases found : codeAmong pos ps.toList with
  | some cv =>
    obtain ⟨c', rfl, known⟩ := among pos cv found
    refine PySem.W.kla_makeFunctionHit (mg := X.mg) (c := c) (P := P) (ps := ps) (closure_ok hfree) I.ok.glob (I.mod.glob.keeps I.bk) hcode (TB.code.keeps I.bk) obj_P triples found blt_P fun ctv g tk keeps size => ?_
    have J : Inv X pins σ H { s with heap := g.push (PySem.W.kla_obj "<lambda>" (X.env.qual ++ "<lambda>") params body scope (cloFrom X.env.cells scope.names []) ((X.mg "__name__").getD .none) c' ctv), toks := tk } :=
      I.kept fun b o e => Heap.get?_push_of_some _ (keeps b o e)
    exact h _ c' _ ctv H _ J (.inl ⟨rfl, known⟩) (Heap.get?_push_size _ rfl) (I.hok.fresh size) (outside _ size)
  | none =>
    refine PySem.W.kla_makeFunction (mg := X.mg) (c := c) (P := P) (ps := ps) (closure_ok hfree) I.ok.glob (I.mod.glob.keeps I.bk) hcode (TB.code.keeps I.bk) obj_P triples found TB.gP blt_P fun c' ctv g tk but ge lt record wide => ?_
    obtain ⟨c2, oc, vs, t, e2, code_at, code_data, code_name⟩ := record
    cases e2
    have size : s.heap.objs.size ≤ g.objs.size := Nat.le_of_lt (Nat.lt_of_le_of_lt ge lt)
    have new_c : H c' = none := I.hok.fresh ge
    have c_P : P ≠ c' := ne_of_none at_P new_c
    have J := inv_table (t' := tk) (more := #[rawInt pos.line, rawInt pos.col, .ref c']) (h' := g.push (PySem.W.kla_obj "<lambda>" (X.env.qual ++ "<lambda>") params body scope (cloFrom X.env.cells scope.names []) ((X.mg "__name__").getD .none) c' ctv)) I at_P
      (fun b o hb e => Heap.get?_push_of_some _ (but b o hb e)) (Heap.get?_push_of_some _ wide) ge ⟨oc, vs, t, Heap.get?_push_of_some _ code_at, code_data, code_name⟩
    have longer : (ps ++ #[rawInt pos.line, rawInt pos.col, .ref c']).toList = ps.toList ++ [rawInt pos.line, rawInt pos.col, .ref c'] := by simp
    refine h g.objs.size c' ((X.mg "__name__").getD .none) ctv _ _ J (.inr ⟨new_c, c_P, _, by rw [longer]; exact PySem.TriplesOk_snoc _ _ _ _ triples, fun p2 cv hcv => ?_, rfl⟩) (Heap.get?_push_size _ rfl) ?_ (outside _ size)
    · rw [longer] at hcv
      exact among_app _ triples hcv
    · rw [upd_ne (Nat.ne_of_gt lt), upd_ne (Nat.ne_of_gt (Nat.lt_of_lt_of_le (Heap.lt_size obj_P) size))]
      exact I.hok.fresh size
/-- a(), where a is what told got; the lambda's body is read in the maker's slots -/
theorem act3 {Ng : List Str} {qg : Str} {sg : Scope} {g f c' : Addr} {cdg pm ctv : Value} {params : Arguments} {body : Expr} {scope : Scope} {k i : Nat} {a : Str} {pn : List (Addr × Obj)} {xe : Value → Shared → Prop} {W : L2.WX} {E : L2.XK} {tb : TE} {p1 p2 : Pos}
    (I : Inv X pins σ H s) (L : LamS X.env.scope scope) (lam_at : s.heap.get? f = some (PySem.W.kla_obj "<lambda>" (X.env.qual ++ "<lambda>") params body scope (cloFrom X.env.cells scope.names []) pm c' ctv)) (free_f : H f = none) (out_f : f ∉ frs X.stack)
    (hbind : bindArgs (PySem.W.kla_fn "<lambda>" (X.env.qual ++ "<lambda>") params body scope (cloFrom X.env.cells scope.names []) pm (.ref c') ctv) ⟨[], []⟩ = pure [])
    (tk : Takes ((cxOf C8.CX0 X.prog X.w X.K X.mg X.base Ng qg sg g cdg X.A X.stack s H C8.E0).tr pn xe) W) (hW : ∀ cls d σ' H', σ'.length = Ng.length → E cls d H' → W cls d σ' H') (hr : Room (k + 1) (X.A.deeper (envOfC qg sg s.heap.objs.size g cdg)))
    (hbody : ∀ (outer : List Env) (s : Shared) (H : L2.Hp) (L0 : Addr), Room k ((X.A.deeper (envOfC qg sg L0 g cdg)).deeper (lamEnv X scope s.heap.objs.size f c')) → PE (lamCx X (X.A.deeper (envOfC qg sg L0 g cdg)) outer s H E scope f c') body tb)
    (hN : Ng[i]? = some a) (hv : Vis sg a) (hd : (a == ("__debug__" : Str)) = false := by decide) (hcd : (a == ("__classdict__" : Str)) = false := by decide) :
    PE ((cxOf C8.CX0 X.prog X.w X.K X.mg X.base Ng qg sg g cdg X.A X.stack s H C8.E0).tr pn xe) (.Call (.Name a p1) [] [] p2)
      (fun σZ HZ Q => σZ[i]? = some (some (.ref f)) ∧ HZ c' = some (CodeO c' (X.env.qual ++ "<lambda>")) ∧ tb σ HZ Q) := by
  refine ⟨fun pinsZ sZ σZ HZ Q IZ ⟨slot, code, wish⟩ => ?_⟩
  refine wpAny_Call_Name_kw (thn ((pe_var (pos := p1) (i := i) hN hv hd hcd).run pinsZ sZ σZ HZ (fun v H1 => v = .ref f ∧ H1 = HZ) IZ ⟨.ref f, slot, rfl, rfl⟩) fun u s2 ⟨v, H1, I1, rel, ev, eH⟩ => ?_)
  subst ev
  subst eH
  obtain rfl : u = Value.ref f := rel
  have lam_now : s2.heap.get? f = some (PySem.W.kla_obj "<lambda>" (X.env.qual ++ "<lambda>") params body scope (cloFrom X.env.cells scope.names []) pm c' ctv) := I1.base.keep f _ lam_at free_f out_f fun z => nomatch (show f ∈ ([] : List Addr) from z)
  have since : Un (frs X.stack) [] H H1 s.heap s2.heap := I1.base
  obtain ⟨⟨oc, vs, t, code_at, code_data, code_name⟩, _, _⟩ := I1.hok c' _ code
  refine PySem.W.callWith_F0 ⟨_, _, _, _, lam_now⟩ ?_
  have called : codeAny (model X.prog X.w) (X.A.deeper (envOfC qg sg s.heap.objs.size g cdg)) (.call (.ref f) ⟨[], []⟩) (CR (L2.CX X.prog X.w) (envOfC qg sg s.heap.objs.size g cdg :: X.stack) X.prog X.w H1 s2 Q E) s2 := by
    refine PySem.W.kla_callFunE hr.depth lam_now rfl L.co L.gen rfl ⟨c', oc, vs, t, rfl, code_at, code_data, code_name⟩ ?_
    rw [hbind]
    refine wpAny_pure (wpAny_newFunctionEnv (fun y hy => (L.own y hy).2) (fun y hy => absurd hy (by simp)) (fun g1 names same => ⟨I1.nolimit.fresh _ same, ?_⟩) L.kind)
    show codeAny _ _ (.expr body (lamEnv X scope s2.heap.objs.size f c')) _ _
    have keeps : ∀ b o, s2.heap.get? b = some o → g1.get? b = some o := fun b o e => same.extBut b o (Nat.ne_of_lt (Heap.lt_size e)) (Heap.get?_push_of_some _ e)
    have J : Inv (lamCx X (X.A.deeper (envOfC qg sg s.heap.objs.size g cdg)) (envOfC qg sg s.heap.objs.size g cdg :: X.stack) s2 H1 E scope f c') [] σ H1 { s2 with heap := g1, toks := s2.toks + ([] : List (Str × Value)).length } :=
      lam_start2 I L I1.env0 hr.hd since names keeps
    refine PySem.W.kla_codeExpr (wpAny_mono ((hbody _ s2 H1 s.heap.objs.size (hr.deeper _)).run [] _ _ H1 Q J wish) (fun v s' hq => ?_) fun e s' hq => hq)
    obtain ⟨x, H2, J2, rx, q⟩ := hq
    exact ⟨x, H2, J2.os, J2.bare, J2.base, J2.hok, rx, q⟩
  have tk2 : Takes ((cxOf C8.CX0 X.prog X.w X.K X.mg X.base Ng qg sg g cdg X.A X.stack s H C8.E0).tr pn xe) (fun cls d σ' H' => σ'.length = Ng.length → W cls d σ' H') := fun u s' ⟨a, B, sI, pins, σ, H, cls, d, e, I, nb, up, sky, na, os, ag, w⟩ =>
    tk u s' ⟨a, B, sI, pins, σ, H, cls, d, e, I, nb, up, sky, na, os, ag, w I.len⟩
  have lets : Passes (L2.CX X.prog X.w) ((cxOf C8.CX0 X.prog X.w X.K X.mg X.base Ng qg sg g cdg X.A X.stack s H C8.E0).tr pn xe) E := passes_call tk2 fun cls d σ' H' e l => hW cls d σ' H' l e
  refine wpAny_call (codeAny_mono called fun r s' hq => ?_)
  match r, hq with
  | .error e, hq => exact lets pinsZ σZ H1 s2 e s' I1 hq
  | .ok (.ret u), hq => exact I1.after hq
  | .ok .next, hq => exact hq.elim
  | .ok .brk, hq => exact hq.elim
  | .ok .cont, hq => exact hq.elim
end
/-- the relation behind a lambda's making -/
theorem Rel.grown {K : PySem.W.Frag} {m : Md} {g : G} {H H1 : L2.Hp} {j : Nat} {pd : He.Defn} {q : Str} {ps : Array Value} {c' : Addr} (r : Rel K m g H) (hj : g[j]? = some (.tab pd q)) (at_P : H (He.cT K pd).2 = some (.tbl ps)) (gr : Grown H (He.cT K pd).2 ps q c' H1) :
    ∃ m1, Le m m1 ∧ Rel K m1 g H1 := by
  rcases gr with ⟨rfl, _⟩ | ⟨new, ne, more, tri, am, rfl⟩
  · exact ⟨m, Le.refl m, r⟩
  · obtain ⟨a, ra, fa, o, ha, ea, ps2, eo, tr2, am2⟩ := r.cell j _ hj
    subst ea
    subst eo
    rw [at_P] at ha
    cases ha
    have r2 := r.put (o := CodeO c' q) new
    have le := le_put (o := CodeO c' q) (r.free new)
    have r3 := r2.cellSet (i := j) (a := (He.cT K pd).2) (c := .tab pd q) (o := .tbl (ps ++ more)) ra ⟨rfl, _, rfl, tri, fun pos cv h => by
      rcases am pos cv h with h1 | h1
      · obtain ⟨c, e1, e2⟩ := am2 pos cv h1
        exact ⟨c, e1, le.F _ _ e2⟩
      · exact ⟨c', h1, by show upd m.F c' _ c' = _; exact upd_same⟩⟩
    refine ⟨_, le, ?_⟩
    have e1 : g.set j (.tab pd q) = g := by
      apply List.ext_getElem?
      intro i
      rw [List.getElem?_set]
      split
      · rename_i h
        subst h
        split
        · exact hj.symm
        · rename_i h
          rw [List.getElem?_eq_none (by omega)] at hj
          cases hj
      · rfl
    have e2 : upd (upd H c' (CodeO c' q)) (He.cT K pd).2 (.tbl (ps ++ more)) = upd (upd H (He.cT K pd).2 (.tbl (ps ++ more))) c' (CodeO c' q) := by
      funext b
      unfold upd
      by_cases h1 : b = (He.cT K pd).2
      · rw [if_pos h1, if_neg (by rw [h1]; exact ne), if_pos h1]
      · rw [if_neg h1]
        by_cases h2 : b = c'
        · rw [if_pos h2, if_pos h2]
        · rw [if_neg h2, if_neg h2, if_neg h1]
    rw [e1, e2] at r3
    exact r3
/-- how a call ended, told -/
def toldR (cs : List Cla) (n : Nat) (fine : Str) : Res D → Res D
  | .ok _ g => .ok (.str fine) g
  | .ex e g => match sNets cs e (List.replicate n none) g with
    | .rt d g' => .ok d g'
    | _ => .no
  | .no => .no
def eTold (j : Nat) (pd : He.Defn) (q : Str) (cs : List Cla) (n : Nat) (fine : Str) (lam : Ev) : Ev := fun σ g => match g[j]? with
  | some (.tab pd' q') => if pd' = pd ∧ q' = q then toldR cs n fine (lam σ g) else .no
  | _ => .no
theorem eTold_ok {j : Nat} {pd : He.Defn} {q : Str} {cs : List Cla} {n : Nat} {fine : Str} {lam : Ev} {σ : Sg} {g : G} (h : eTold j pd q cs n fine lam σ g ≠ .no) : g[j]? = some (.tab pd q) ∧ eTold j pd q cs n fine lam σ g = toldR cs n fine (lam σ g) := by
  unfold eTold at h ⊢
  split at h
  · rename_i pd' q' hg
    split at h
    · rename_i e
      rw [hg]
      obtain ⟨rfl, rfl⟩ := e
      exact ⟨rfl, if_pos ⟨rfl, rfl⟩⟩
    · exact (h rfl).elim
  · exact (h rfl).elim
section
variable {X : Cx} {W : L2.WX}
theorem x_told {x a fine : Str} {k n0 j : Nat} {pg : Arguments} {c0 : ExceptHandler} {hds : List ExceptHandler} {cs : List Cla} {sg : Scope} {fd : FuncData} {Ng : List Str} {pd : He.Defn} {jj : Nat} {p1 p2 p3 p5 p6 p8 : Pos}
    {params : Arguments} {body : Expr} {scope : Scope} {lam : Ev} {p lpos pos : Pos} {q : Str} {nn : Nat} (hq : X.env.qual ++ "<lambda>" = q) (hn : Ng.length = nn) (hg : Gl X x) (hm : X.mg x = some (.ref (ga X.K x)))
    (F : FunD X.K x x pg [.Try [.Expr (.Call (.Name a p1) [] [] p2) p3] (c0 :: hds) [] [] p8, .Return (some (.Constant (.str fine) jj p5)) p6] sg [] [] (ga X.K x) fd)
    (bA : ∀ (s : Shared) (us : List Value), us.length = [a].length → BindsTo s fd ⟨us, []⟩ ([a].zip us)) (Sg : FnScope Ng [a] sg) (hNg : Ng[0]? = some a) (hva : Vis sg a) (h0 : ∀ f : Addr, (L2.start Ng [V.ref f])[0]? = some (some (V.ref f)))
    (hsw : ∀ (cd : Value) (A : Around) (out : List Env) (s : Shared) (H : L2.Hp), swapsWith (.Call (.Name a p1) [] [] p2) none p3.line (cxOf C8.CX0 X.prog X.w X.K X.mg X.base Ng x sg (ga X.K x) cd A out s H C8.E0).env = pure false)
    (hcl : ∀ (cd : Value) (s : Shared) (H : L2.Hp), ClsOk (cxOf C8.CX0 X.prog X.w X.K X.mg X.base Ng x sg (ga X.K x) cd X.A X.stack s H C8.E0) (c0 :: hds) cs)
    (TB : TabB X.base X.mg (He.cT X.K pd).1 (He.cT X.K pd).2) (hcode : X.env.code = .ref (He.cT X.K pd).1) (hr : Room n0 X.A) (hk : k + 2 ≤ n0) (gd : X.A.guards = some []) (L : LamS X.env.scope scope) (hdef : defaultsOf params X.env = ([], []))
    (hbind : ∀ (q : Str) (cl : List (Str × Addr)) (pm cv ctv : Value), bindArgs (PySem.W.kla_fn "<lambda>" q params body scope cl pm cv ctv) ⟨[], []⟩ = pure [])
    (hbody : ∀ (A : Around) (outer : List Env) (s : Shared) (H : L2.Hp) (E : L2.XK) (f c' : Addr), A.guards = some [] → Room k (A.deeper (lamEnv X scope s.heap.objs.size f c')) → PE (lamCx X A outer s H E scope f c') body (tE X.K (WF E) lam))
    (hdb : (x == ("__debug__" : Str)) = false := by decide) (hd : (a == ("__debug__" : Str)) = false := by decide) (hcd : (a == ("__classdict__" : Str)) = false := by decide) :
    PE X (.Call (.Name x p) [.Lambda params body scope lpos] [] pos) (tE X.K W (eTold j pd q cs nn fine lam)) := by
  subst hq
  subst hn
  refine ⟨fun pins s σ H Q I ⟨m, σD, g, rl, sl, hl, post⟩ => ?_⟩
  have nz : eTold j pd (X.env.qual ++ "<lambda>") cs Ng.length fine lam σD g ≠ .no := fun z => by
    rw [z] at post
    exact post.elim
  obtain ⟨hj, et⟩ := eTold_ok nz
  rw [et] at post
  obtain ⟨oc, od, dV, kV, doc, pm0, an, cdv, ct, osl, rfl, lk, hcg, _, _⟩ := F.ex
  refine wpAny_Call_Name_kw (ld_glob I hg hm ?_ hdb)
  refine PySem.W.callWith_K (h₀ := X.base) I.ok.mod.kin F.kp ?_ (by rfl) (by rfl)
  show wpAny _ _ (spliced ((false, eval (.Lambda params body scope lpos) X.env) :: backTo pos (starEach [] X.env))) _ _ s
  obtain ⟨aP, raP, faP, oP, haP, eaP, ps, eoP, triples, among⟩ := rl.cell j _ hj
  subst eaP
  subst eoP
  refine Calls.spliced_cons (lam_make3 I TB hcode haP triples (fun pos cv h => ?_) hdef (L.has I.ok) fun f c' pm' ctv H1 s' I1 gr lam_at f_none f_out => ?_)
  · obtain ⟨c, e1, e2⟩ := among pos cv h
    exact ⟨c, e1, rl.ex _ _ e2⟩
  obtain ⟨m1, le1, rl1⟩ := rl.grown hj haP gr
  refine Calls.spliced_nil ⟨I1.kIn, ?_⟩
  show wpAny _ _ (call (.ref (ga X.K x)) [.ref f]) _ _ _
  have rc : codeAny (model X.prog X.w) X.A (.call (.ref (ga X.K x)) ⟨[.ref f], []⟩) (CR C8.CX0 X.stack X.prog X.w H1 s' Q C8.E0) s' := by
    refine run_ofS (N := Ng) (ps := [a]) (us := [.ref f]) (vs := [.ref f]) lk hcg Sg (hr.mono hk) I1.env0 (bA s' [.ref f] rfl) (.cons rfl .nil) rfl fun hr' => ?_
    have un : (X.A.deeper (envOfC x sg s'.heap.objs.size (ga X.K x) cdv)).units + 50 < cLine := by
      have := hr'.un
      omega
    obtain ⟨w, w1, w2⟩ := nets_of (X := cxOf C8.CX0 X.prog X.w X.K X.mg X.base Ng x sg (ga X.K x) cdv X.A X.stack s' H1 C8.E0) (W := fun _ _ _ _ => False) rfl rfl Sg.nd LamX.takes0 gd un (hcl cdv s' H1)
    refine ⟨_, pss_cons (ps_tryN (X := cxOf C8.CX0 X.prog X.w X.K X.mg X.base Ng x sg (ga X.K x) cdv X.A X.stack s' H1 C8.E0) (w := w)
      (tb := fun W' D σZ HZ => ∃ Ech : L2.XK, (∀ cls d σ' H', σ'.length = Ng.length → Ech cls d H' → W' cls d σ' H') ∧ σZ[0]? = some (some (.ref f)) ∧ HZ c' = some (CodeO c' (X.env.qual ++ "<lambda>")) ∧ tE X.K (WF Ech) lam σ HZ fun _ H' => D.nx σZ H') rfl rfl
      (fun W' pn xe tk' _ => ⟨fun pinsZ sZ σZ HZ D IZ ⟨Ech, hW, h1, h2, h3⟩ => ?_⟩) w1) (pss_one (ps_ret pe_str)), ?_⟩
    · exact (pss_one (ps_expr (act3 I1 L lam_at f_none f_out (hbind _ _ _ _ _) tk' hW hr' (fun outer s H L0 hr2 => hbody _ outer s H Ech f c' gd hr2) hNg hva hd hcd) (hsw cdv X.A X.stack s' H1))).run pinsZ sZ σZ HZ D IZ ⟨h1, h2, h3⟩
    · refine ⟨fun cv dd H' => ∀ σ' : L2.St, σ'.length = Ng.length → w _ cv dd σ' H', fun cls d σ' H' hl' h => h σ' hl', h0 f, gr.code, m1, σD, g, rl1, sl.mono le1, hl, ?_⟩
      cases hlam : lam σD g with
      | ok d g' =>
        rw [hlam] at post
        exact fun m2 H2 v l2 r2 d2 => post m2 H2 (.str fine) (le1.trans l2) r2 .str
      | ex e g' =>
        rw [hlam] at post
        intro m2 H2 cv dd l2 r2 ex2 σ' hσ
        refine w2 _ e (List.replicate Ng.length none) g' m2 σ' H2 cv dd r2 ⟨fun i d q => ?_, ?_⟩ ex2 ?_
        · rw [List.getElem?_replicate] at q
          split at q <;> cases q
        · rw [List.length_replicate, hσ]
          exact Nat.le_refl _
        · unfold toldR at post
          dsimp only at post
          split at post
          · rename_i d2 g2 hn
            rw [hn]
            exact fun m3 H3 v l3 r3 d3 => post m3 H3 v ((le1.trans l2).trans l3) r3 d3
          · exact post.elim
      | no =>
        rw [hlam] at post
        exact post.elim
  refine wpAny_call (codeAny_mono rc fun r s2 hq => ?_)
  match r, hq with
  | .error e, hq => exact (show False from hq).elim
  | .ok (.ret u), hq => exact I1.after hq
  | .ok .next, hq => exact hq.elim
  | .ok .brk, hq => exact hq.elim
  | .ok .cont, hq => exact hq.elim
end
end AW
/-! Bx7: the facts of such exception classes, told by the top's state; a def whose code object is told. -/
namespace AW
open PySem PySem.Spec PyProof.Rows L2 PySem.W
abbrev FnC : Type := Option (Str × Str × Arguments × FuncBody × Scope × Addr × List Str × Addr)
def fnC (K : Frag) (a : Addr) : FnC := match K.lookup a with
  | some ⟨_, _, .func fd, _⟩ => some (fd.name, fd.qualname, fd.params, fd.body, fd.scope, fd.globals, fd.closure.map (·.1), fd.builtins)
  | _ => none
/-- an exception class with its own __init__ -/
structure ClD where
  x : Str
  b : XB
  fld : Str
  qual : Str
  params : Arguments
  body : List Stmt
  scope : Scope
  file : Str
def iniA (K : Frag) (x : Str) : Addr := match findIn K (.ref (ga K x)) "__init__" with
  | some (some (.ref f)) => f
  | _ => 0
def ClD.val (d : ClD) : FnC := some ("__init__", d.qual, d.params, .stmts d.body, d.scope, mainGlobals, ["__class__"], builtinsNs)
def codeFile (K : Frag) (q file : Str) (v : Value) : Bool := match v with
  | .ref c => codeIn K v q && (match K.lookup c with
    | some ⟨_, _, .fields vs, _⟩ => (match (vs[2]? : Option Value) with
      | some (Value.str f _) => decide (f = file)
      | _ => false)
    | _ => false)
  | _ => false
def cellB (K : Frag) (C : Addr) (a : Addr) : Bool := match K.lookup a with
  | some ⟨_, _, .cell (some (.ref c)), _⟩ => decide (c = C)
  | _ => false
def cloB (K : Frag) (C : Addr) : List (Str × Addr) → Bool
  | [(_, cc)] => cellB K C cc
  | _ => false
def noneB : Value → Bool
  | .none => true
  | _ => false
def ClD.ok (K : Frag) (d : ClD) : Bool :=
  (match K.lookup (iniA K d.x) with
    | some ⟨_, _, .func fd, _⟩ => codeFile K d.qual d.file fd.code && (cloB K (ga K d.x) fd.closure && noneB fd.defaults)
    | _ => false) &&
  ((match clsIn K (ga K d.x) with
    | some cd => cd.hasDict
    | none => false) && (decide (mroIn K (ga K d.x) (.ref (ga K d.x)) = some true) && (decide (nsIn K cStatics "thirdparty.any" = some none) && (excInitIn K (ga K d.x) d.b.bm d.b.nw &&
    (decide (ks_superIn K (ga K d.x) (ga K d.x) "__init__" = some (some (.builtin d.b.it))) && (decide (subIn K (.ref (ga K d.x)) (.type d.b.B) = some true) && (decide (findIn K (.ref (ga K d.x)) "__init__" = some (some (.ref (iniA K d.x)))) && (isFn K (.ref (iniA K d.x)) &&
    (decide (findIn K (.ref (ga K d.x)) "__setattr__" = some (some (.builtin "object.__setattr__"))) && (excOver K (ga K d.x) d.b.bm && (decide (takerIn K (ga K d.x) d.fld = some none) && (keepIn K (.ref (ga K d.x)) &&
    (decide (subIn K (.ref (ga K d.x)) (.type "BaseException") = some true) && decide (typeIn K (.ref (ga K d.x)) = some (.type "type")))))))))))))))
structure KPart (K : Frag) (d : ClD) (fI cda cc : Addr) : Prop where
  fn : ∃ oc od osl kV doc pm an ct, K.lookup fI = some ⟨oc, od, .func (ksFn "__init__" d.qual d.params d.body d.scope .none kV doc pm an (.ref cda) ct cc), osl⟩
  cd : codeIn K (.ref cda) d.qual = true
  code : ∃ (oc : Value) (od : Option Addr) (osl : Array (Option Value)) (vs : Array Value) (tk : Tok), K.lookup cda = some ⟨oc, od, .fields vs, osl⟩ ∧ vs[2]? = some (.str d.file tk)
  cell : ∃ (oc : Value) (od : Option Addr) (osl : Array (Option Value)), K.lookup cc = some ⟨oc, od, .cell (some (.ref (ga K d.x))), osl⟩
  cls : ∃ cd, clsIn K (ga K d.x) = some cd ∧ cd.hasDict = true
  sub : mroIn K (ga K d.x) (.ref (ga K d.x)) = some true
  thp : nsIn K cStatics "thirdparty.any" = some none
  exi : excInitIn K (ga K d.x) d.b.bm d.b.nw = true
  sup : ks_superIn K (ga K d.x) (ga K d.x) "__init__" = some (some (.builtin d.b.it))
  bas : subIn K (.ref (ga K d.x)) (.type d.b.B) = some true
  ini : findIn K (.ref (ga K d.x)) "__init__" = some (some (.ref fI))
  isf : isFn K (.ref fI) = true
  sa : findIn K (.ref (ga K d.x)) "__setattr__" = some (some (.builtin "object.__setattr__"))
  ovr : excOver K (ga K d.x) d.b.bm = true
  tkr : takerIn K (ga K d.x) d.fld = some none
  kC : keepIn K (.ref (ga K d.x)) = true
  xs : subIn K (.ref (ga K d.x)) (.type "BaseException") = some true
  ty : typeIn K (.ref (ga K d.x)) = some (.type "type")
theorem kpart_of {K : Frag} {d : ClD} (e : fnC K (iniA K d.x) = d.val) (h : d.ok K = true) : ∃ fI cda cc, KPart K d fI cda cc := by
  unfold ClD.ok at h
  simp only [Bool.and_eq_true, decide_eq_true_eq] at h
  obtain ⟨h0, h1, h2, h3, h4, h5, h6, h7, h8, h9, h10, h11, h12, h13, h14⟩ := h
  unfold fnC at e
  cases q : K.lookup (iniA K d.x) with
  | none => rw [q] at e; cases e
  | some o =>
    obtain ⟨oc, od, dt, osl⟩ := o
    rw [q] at e h0
    cases dt with
    | func fd =>
      obtain ⟨n1, n2, n3, n4, n5, n6, n7, n8, n9, n10, n11, n12, n13, n14, n15⟩ := fd
      have e2 : (some (n1, n2, n3, n4, n5, n6, n7.map (·.1), n15) : FnC) = d.val := e
      unfold ClD.val at e2
      simp only [Option.some.injEq, Prod.mk.injEq] at e2
      obtain ⟨rfl, rfl, rfl, rfl, rfl, rfl, e7, rfl⟩ := e2
      have h0' : (codeFile K d.qual d.file n13 && (cloB K (ga K d.x) n7 && noneB n8)) = true := h0
      rw [Bool.and_eq_true, Bool.and_eq_true] at h0'
      obtain ⟨c1, c2, c8⟩ := h0'
      obtain rfl : n8 = .none := by
        cases n8 with
        | none => rfl
        | _ => cases c8
      obtain ⟨cc, rfl⟩ : ∃ cc : Addr, n7 = [(("__class__" : Str), cc)] := by
        clear h0 e q c2 c8
        cases n7 with
        | nil => cases e7
        | cons p l =>
          cases l with
          | nil =>
            obtain ⟨a, cc⟩ := p
            simp only [List.map_cons, List.map_nil, List.cons.injEq, and_true] at e7
            exact ⟨cc, by rw [e7]⟩
          | cons p2 l2 => simp at e7
      unfold codeFile at c1
      split at c1
      · rename_i cda
        rw [Bool.and_eq_true] at c1
        obtain ⟨c3, c4⟩ := c1
        refine ⟨iniA K d.x, cda, cc, ⟨_, _, _, _, _, _, _, _, q⟩, c3, ?_, ?_, ?_, h2, h3, h4, h5, h6, h7, h8, h9, h10, h11, h12, h13, h14⟩
        · split at c4
          · rename_i a1 a2 vs a3 hl
            split at c4
            · rename_i f tk hf
              exact ⟨_, _, _, vs, tk, hl, by rw [hf, of_decide_eq_true c4]⟩
            · cases c4
          · cases c4
        · have c2' : cellB K (ga K d.x) cc = true := c2
          unfold cellB at c2'
          split at c2'
          · rename_i a1 a2 c a3 hl
            exact ⟨_, _, _, by rw [hl, of_decide_eq_true c2']⟩
          · cases c2'
        · split at h1
          · rename_i cd hcd
            exact ⟨cd, hcd, h1⟩
          · cases h1
      · cases c1
    | _ => cases e
end AW
/-! Bx8: the same by names; the head's Hook with such classes. -/
namespace AW
open PySem PySem.Spec PyProof.Rows L2 PySem.W
/-- what the text of such an __init__ shows -/
structure ClS (d : ClD) (me giv : Str) (a : XArg) (p0 p1 p2 p3 p4 p5 p6 p7 p8 : Pos) : Prop where
  hb : d.body = [.Expr (.Call (.Attribute (.Call (.Name "super" p0) [] [] p1) "__init__" p2) [a.e giv] [] p3) p4, .Assign [.Attribute (.Name me p5) d.fld p6] (.Name giv p7) p8]
  par : (d.params.posonlyargs ++ d.params.args).head?.map (·.arg) = some me
  bind : ∀ (body : List Stmt) (name : Str) (kV doc pm : Value) (an : Option Addr) (cda : Addr) (ct : Value) (cc : Addr) (x y : Value), bindArgs (ksFn name d.qual d.params body d.scope .none kV doc pm an (.ref cda) ct cc) ⟨[x, y], []⟩ = pure [(me, x), (giv, y)]
  ne : me ≠ giv
  ks : d.scope.names.lookup ("super" : Str) = some .globalImplicit
  kc : d.scope.names.lookup ("__class__" : Str) = some .free
  ka : d.scope.names.lookup me = some .local
  kg : d.scope.names.lookup giv = some .local
  kind : d.scope.kind = .function
  co : d.scope.isCoroutine = false
  gen : d.scope.isGenerator = false
  nocell : ∀ x ∈ d.scope.names, x.2 ≠ .cell
  kt : a.isStr = true → d.scope.names.lookup ("str" : Str) = some .globalImplicit
  dbS : (me == ("__debug__" : Str)) = false
  dbG : (giv == ("__debug__" : Str)) = false
  hst : ∀ L fI cda cc, starEach [a.e giv] (ksEnv d.qual d.scope L fI (.ref cda) cc) = (false, eval (a.e giv) (ksEnv d.qual d.scope L fI (.ref cda) cc)) :: starEach [] (ksEnv d.qual d.scope L fI (.ref cda) cc)
  hcall : ∀ L fI cda cc, ∃ pl : Sem Bool, eval (.Call (.Attribute (.Call (.Name "super" p0) [] [] p1) "__init__" p2) [a.e giv] [] p3) (ksEnv d.qual d.scope L fI (.ref cda) cc) = (do
      let ov ← attributeBase (.Call (.Name "super" p0) [] [] p1) "__init__" (ksEnv d.qual d.scope L fI (.ref cda) cc) (eval (.Call (.Name "super" p0) [] [] p1) (ksEnv d.qual d.scope L fI (.ref cda) cc))
      standAt p2.atName
      let (f, first) ← holding [ov] (getMethod ov "__init__" pl)
      callWith p3 f first (backTo p3 (starEach [a.e giv] (ksEnv d.qual d.scope L fI (.ref cda) cc))) [])
  hint : ∀ L fI cda cc, interactive (ksEnv d.qual d.scope L fI (.ref cda) cc) = false
  hsw : ∀ L fI cda cc, swapsWith (.Call (.Attribute (.Call (.Name "super" p0) [] [] p1) "__init__" p2) [a.e giv] [] p3) none p4.line (ksEnv d.qual d.scope L fI (.ref cda) cc) = pure false
  hsw2 : ∀ L fI cda cc, swapsWith (.Name giv p7) (some (.Attribute (.Name me p5) d.fld p6)) p8.line (ksEnv d.qual d.scope L fI (.ref cda) cc) = pure false
/-- x is such a class; isStr: its text is that of its field -/
def LowX (P : Program) (K : Frag) (mg : Str → Option Value) (x fld : Str) (isStr : Bool) : Prop :=
  ∃ (fI cda cc : Addr) (b : XB) (qual me giv : Str) (params : Arguments) (a : XArg) (scope : Scope) (p0 p1 p2 p3 p4 p5 p6 p7 p8 : Pos), a.isStr = isStr ∧ LowE P K mg x (ga K x) fI b fld qual me giv params a scope cda cc p0 p1 p2 p3 p4 p5 p6 p7 p8
/-- what is asked of the program -/
structure PK (P : Program) (file : Str) : Prop where
  file : ((P.main.file : Str) == file) = true
  top : (P.main.scope.names.lookup ("super" : Str)).isSome = false
theorem low_of {P : Program} {K : Frag} {mg : Str → Option Value} {d : ClD} {fI cda cc : Addr} {me giv : Str} {a : XArg} {p0 p1 p2 p3 p4 p5 p6 p7 p8 : Pos} (kp : KPart K d fI cda cc) (HP : PK P d.file) (hg : mg d.x = some (.ref (ga K d.x))) (mgS : mg "super" = none) (mgT : mg "str" = none)
    (st : ClS d me giv a p0 p1 p2 p3 p4 p5 p6 p7 p8) : LowX P K mg d.x d.fld a.isStr := by
  refine ⟨fI, cda, cc, d.b, d.qual, me, giv, d.params, a, d.scope, p0, p1, p2, p3, p4, p5, p6, p7, p8, rfl, ?_⟩
  refine ⟨⟨⟨?_, kp.cd, ?_, kp.cell⟩, st.par, fun name kV doc pm an ct x y => ?_, st.ne, kp.cls, kp.sub, kp.thp, kp.exi, kp.sup, kp.bas, kp.ini, kp.isf, kp.sa, kp.ovr, kp.tkr, st.ks, st.kc, st.ka, st.kg, st.kind, st.co, st.gen, st.nocell, HP.top, mgS⟩,
    mgT, st.kt, st.dbS, st.dbG, hg, kp.kC, kp.xs, kp.ty, fun L => st.hst L _ _ _, fun L => st.hcall L _ _ _, fun L => st.hint L _ _ _, fun L => st.hsw L _ _ _, fun L => st.hsw2 L _ _ _⟩
  · obtain ⟨oc, od, osl, kV, doc, pm, an, ct, h⟩ := kp.fn
    rw [st.hb] at h
    exact ⟨oc, od, osl, _, kV, doc, pm, an, ct, h⟩
  · obtain ⟨oc, od, osl, vs, tk, h1, h2⟩ := kp.code
    exact ⟨oc, od, osl, vs, _, tk, h1, h2, HP.file⟩
  · exact st.bind _ name kV doc pm an cda ct cc x y
/-! ### classes without an __init__ of their own -/
def ex0B (x : Str) (b : XB) (K : Frag) : Bool := excIn K (ga K x) b.bm b.nw && (keepIn K (.ref (ga K x)) && (decide (subIn K (.ref (ga K x)) (.type "BaseException") = some true) && decide (typeIn K (.ref (ga K x)) = some (.type "type"))))
/-- clause y: which classes it fits -/
def exTab (y : Str) (tab : List (Str × Bool)) (K : Frag) : Bool := tab.all fun p => decide (exmOne K (.ref (ga K p.1)) (.ref (ga K y)) = some p.2)
theorem exTab_of {y : Str} {tab : List (Str × Bool)} {K : Frag} (h : exTab y tab K = true) : ∀ p ∈ tab, exmOne K (.ref (ga K p.1)) (.ref (ga K y)) = some p.2 := fun p hp => of_decide_eq_true (List.all_eq_true.mp h p hp)
def xfF (x f : Str) (K : Frag) : Bool := xfB K (ga K x) && decide (findIn K (.ref (ga K x)) f = some none)
theorem xfF_1 {x f : Str} {K : Frag} (h : xfF x f K = true) : XfC K (ga K x) := xfB_ok (by unfold xfF at h; rw [Bool.and_eq_true] at h; exact h.1)
theorem xfF_2 {x f : Str} {K : Frag} (h : xfF x f K = true) : findIn K (.ref (ga K x)) f = some none := by
  unfold xfF at h
  rw [Bool.and_eq_true] at h
  exact of_decide_eq_true h.2
section
variable {X : Cx} {W : L2.WX}
theorem s_raiseL {x fld : Str} {isStr : Bool} {p pos pos' : Pos} {e : Expr} {ea : Ev} {j : Nat} (T : LowX X.prog X.K X.mg x fld isStr) (hc : X.calm = true) (tk : Takes X W) (gd : X.A.guards = some []) (hr : Room j X.A) (hj : 1 ≤ j) (hg : Gl X x) (he : PE X e (tE X.K W ea))
    (hs : starEach [e] X.env = (false, eval e X.env) :: starEach [] X.env := by rfl) (hdb : (x == ("__debug__" : Str)) = false := by decide) :
    PS X (.Raise (some (.Call (.Name x p) [e] [] pos)) none pos') (tS X.K W (sRaiseX isStr x fld ea)) := by
  obtain ⟨fI, cda, cc, b, qual, me, giv, params, a, scope, p0, p1, p2, p3, p4, p5, p6, p7, p8, rfl, L⟩ := T
  exact s_raiseX L rfl hc tk gd hr hj hg he hs hdb
theorem s_raiseZ {x msg : Str} {b : XB} {jj : Nat} {p p2 pos pos' : Pos} (h : ex0B x b X.K = true) (gC : X.mg x = some (.ref (ga X.K x))) (hc : X.calm = true) (tk : Takes X W) (hg : Gl X x) (hdb : (x == ("__debug__" : Str)) = false := by decide) :
    PS X (.Raise (some (.Call (.Name x p) [.Constant (.str msg) jj p2] [] pos)) none pos') (tS X.K W (sRaise0 x)) := by
  unfold ex0B at h
  simp only [Bool.and_eq_true, decide_eq_true_eq] at h
  exact s_raise0 b.fb h.1 gC h.2.1 h.2.2.1 h.2.2.2 rfl hc tk hg hdb
end
/-! ### a def whose code object is told -/
section
variable {P : Program} {w : World} {K : Frag} {mg : Str → Option Value} {base : Heap} {x qual : Str} {params : Arguments} {body : List Stmt} {scope : Scope} {dvs : List V} {kws : List (Str × V)} {f : Addr} {fd : FuncData}
abbrev BodyOkC (P : Program) (w : World) (K : Frag) (mg : Str → Option Value) (base : Heap) (N : List Str) (qual : Str) (scope : Scope) (f : Addr) (cd : Value) (body : List Stmt) (k : Nat) (b : Sx) : Prop :=
  ∀ (A : Around) (out : List Env) (s : Shared) (H : L2.Hp) (E : L2.XK), Room k (A.deeper (PyProof.Rows.envOfC qual scope s.heap.objs.size f cd)) → Gd A →
    PSs (cxOf (L2.CX P w) P w K mg base N qual scope f cd A out s H E) body (tS K (WF E) b)
theorem fn_okC {N ps : List Str} {n k : Nat} {b : Sx} {pd : He.Defn} (hpd : He.fAd K pd = f) (F : FunD K x qual params body scope dvs kws f fd) (S : FnScope N ps scope) (hn : ps.length = n)
    (bA : ∀ (s : Shared) (us : List Value), us.length = ps.length → BindsTo s fd ⟨us, []⟩ (ps.zip us)) (hb : BodyOkC P w K mg base N qual scope f (.ref (He.cT K pd).1) body k b) : FnG P w K mg base (k + 1) f (spOf K (callD n N.length b)) := fun A out s H us vs Q E hr hg e0 r h => by
  obtain ⟨oc, od, dV, kV, doc, pm, an, cd, ct, osl, rfl, lk, hcd, _, _⟩ := F.ex
  obtain ⟨c, rfl⟩ := He.codeIn_ref hcd
  have hc : (He.cT K pd).1 = c := by
    subst hpd
    exact He.codeOf_eq lk rfl
  rw [hc] at hb
  obtain ⟨m, g, ds, rl, hd, p⟩ := h
  by_cases hl : ds.length = n
  · have hv : vs.length = ps.length := by rw [← hd.length, hl, hn]
    refine LamX.run_ofS lk hcd S hr e0 (bA s us (by rw [← r.length]; exact hv)) r hv fun hr' => ?_
    refine ⟨_, hb A out s H E hr' hg, m, ds.map some ++ List.replicate (N.length - n) none, g, rl, slots_start hd hl, ?_⟩
    unfold callD at p
    rw [if_pos hl] at p
    cases hr2 : b (ds.map some ++ List.replicate (N.length - n) none) g with
    | nx σ g' => rw [hr2] at p; exact fun m' H' σv l r sl => settle_s rl l r .non p
    | rt d g' => rw [hr2] at p; exact fun m' H' v l r hd => settle_s rl l r hd p
    | ex σ e g' => rw [hr2] at p; exact fun m' H' σv cv dd l r sl hd => settleX_s rl l r hd p
    | bk σ g' => rw [hr2] at p; exact p.elim
    | ct σ g' => rw [hr2] at p; exact p.elim
    | no => rw [hr2] at p; exact p.elim
  · unfold callD at p
    rw [if_neg hl] at p
    exact p.elim
end
/-! ### the head -/
abbrev AlC : Type := AlB × (Bool × List FnC)
def obsC (n : Reach) (ex : List (Frag → Bool)) (fn : List He5.DefA) (ts : List He.Tab) (tf : List He.Defn) (cl : List ClD) (gt : Addr → Option Obj) : AlC :=
  (obsB n ex fn ts tf gt, cl.all fun d => d.ok (kB n gt), cl.map fun d => fnC (kB n gt) (iniA (kB n gt) d.x))
def valC (fn : List He5.DefA) (ts : List He.Tab) (cl : List ClD) (w : World) : AlC := (valB fn ts w, true, cl.map ClD.val)
/-- what is known of the classes -/
def Cls (cl : List ClD) (K : Frag) : Prop := ∀ (i : Nat) (d : ClD), cl[i]? = some d → ∃ fI cda cc, KPart K d fI cda cc
structure SaysC (ex : List (Frag → Bool)) (fn : List He5.DefA) (ts : List He.Tab) (tf : List He.Defn) (cl : List ClD) (w : World) (h : Heap) (K : Frag) : Prop where
  b : SaysB ex fn ts tf w h K
  c : Cls cl K
theorem saysC_of {n : Reach} {ex : List (Frag → Bool)} {fn : List He5.DefA} {ts : List He.Tab} {tf : List He.Defn} {cl : List ClD} {w : World} {h : Heap} (e : obsC n ex fn ts tf cl h.get? = valC fn ts cl w) : SaysC ex fn ts tf cl w h (kB n h.get?) := by
  have e1 : obsB n ex fn ts tf h.get? = valB fn ts w := congrArg Prod.fst e
  have e2 : (cl.all fun d => d.ok (kB n h.get?)) = true := congrArg (fun z => z.2.1) e
  have e3 : (cl.map fun d => fnC (kB n h.get?) (iniA (kB n h.get?) d.x)) = cl.map ClD.val := congrArg (fun z => z.2.2) e
  refine ⟨saysB_of e1, fun i d hd => ?_⟩
  have e4 : (cl.map fun d => fnC (kB n h.get?) (iniA (kB n h.get?) d.x))[i]? = (cl.map ClD.val)[i]? := by rw [e3]
  rw [List.getElem?_map, List.getElem?_map, hd] at e4
  exact kpart_of (Option.some.inj e4) (List.all_eq_true.mp e2 d (List.mem_of_getElem? hd))
def hookC (n : Reach) (ex : List (Frag → Bool)) (fn : List He5.DefA) (ts : List He.Tab) (tf : List He.Defn) (cl : List ClD) : PySem.W.Hook where
  α := AlC
  obs := fun s => obsC n ex fn ts tf cl s.heap.get?
  val := fun w => valC fn ts cl w
  says := fun w h => ∃ K : Frag, K.In h ∧ SaysC ex fn ts tf cl w h K
  of := fun _ h e => ⟨kB n h.heap.get?, He.frT_in, saysC_of e⟩
  keeps := fun _ _ _ ⟨K, hK, c⟩ k => ⟨K, PySem.W.Frag.In.keeps hK k, ⟨⟨c.b.ex, c.b.df, c.b.dv, c.b.tv, c.b.hd, c.b.out, fun p hp => k _ _ (c.b.emp p hp)⟩, c.c⟩⟩
theorem obsC_eq {n : Reach} {ex : List (Frag → Bool)} {fn : List He5.DefA} {ts : List He.Tab} {tf : List He.Defn} {cl : List ClD} {gt : Addr → Option Obj} {s : Shared} (h : ∀ a, gt a = s.heap.get? a) : obsC n ex fn ts tf cl gt = (hookC n ex fn ts tf cl).obs s := by
  rw [show gt = s.heap.get? from funext h]
  rfl
end AW
/-! Bx9: what is never reached; starred displays; {}. -/
namespace AW
open PySem PySem.Spec PyProof.Rows L2
theorem units50 {k : Nat} {A : Around} (r : Room k A) : A.units + 50 < cLine := by
  have := r.un
  omega
theorem lam_tk {X : Cx} {A : Around} {outer : List Env} {s : Shared} {H : L2.Hp} {E : L2.XK} {scope : Scope} {f c' : Addr} : Takes (LamX.lamCx X A outer s H E scope f c') (WF E) := takes_of rfl rfl rfl rfl
def eNever : Ev := fun _ _ => .no
section
variable {X : Cx} {W : L2.WX}
theorem x_never {e : Expr} : PE X e (tE X.K W eNever) := ⟨fun _ _ _ _ _ _ ⟨_, _, _, _, _, _, p⟩ => p.elim⟩
def tNever : Tv := fun _ _ => .no
theorem t_never {e : Expr} : PT X e (tT X.K W tNever) := ⟨fun _ _ _ _ _ _ ⟨_, _, _, _, _, _, p⟩ => p.elim⟩
/-- [*e, ..] -/
def aStar (a : Ev) (r : Av) : Av := fun σ g => (a σ g).bind fun x g1 => match sqOf g1 x with
  | some xs => (r σ g1).bind fun ys g2 => .ok (xs ++ ys) g2
  | none => .no
theorem a_star {e : Expr} {es : List Expr} {ee : Ev} {t : Av} {p : Pos} (ha : PE X e (tE X.K W ee)) (hr : PA X es (tA X.K W t)) (hs : starEach (.Starred e p :: es) X.env = (true, eval e X.env) :: starEach es X.env := by rfl) :
    PA X (.Starred e p :: es) (tA X.K W (aStar ee t)) := PA.imp (StX.pa_star ha hr hs) fun σ H Q h => by
  obtain ⟨m, σ', g, rl, sl, hl, p⟩ := h
  refine ⟨m, σ', g, rl, sl, hl, Post.bind p fun d g1 m1 H1 x l1 r1 d1 p1 => ?_⟩
  split at p1
  · rename_i xs hx
    obtain ⟨q, vs, rfl, h1, h2⟩ := sqOf_s r1 d1 hx
    refine ⟨q, vs, rfl, h1.symm, m1, σ', g1, r1, sl.mono l1, hl, Post.bind p1 fun ds g2 m2 H2 ys l2 r2 d2 p2 => ?_⟩
    exact fin_ok r2 ((h2.mono l2).append d2) p2
  · exact p1.elim
def eDct0 : Ev := fun _ g => .ok (.dct [] []) g
theorem x_dct0 {pos : Pos} : PE X (.Dict [] [] pos) (tE X.K W eDct0) := PE.imp pe_dnewK fun σ H Q h => by
  obtain ⟨m, σ', g, rl, sl, hl, p⟩ := h
  intro a ha
  exact p (m.put a (.dK [])) _ (.ref a) (le_put (rl.free ha)) (rl.put ha) (.dct (ks := []) (vs := []) (.inl (by show upd m.F a _ a = _; exact upd_same)) rfl .nil)
end
/-- the head's look, from its parts -/
theorem obsC_parts {n : Reach} {ex : List (PySem.W.Frag → Bool)} {fn : List He5.DefA} {ts : List He.Tab} {tf : List He.Defn} {cl : List ClD} {gt : Addr → Option Obj} {w : World} (hx : (ex.all fun b => b (kB n gt)) = true)
    (h3 : (obsB n [] fn ts tf gt, (cl.all fun d => d.ok (kB n gt)), cl.map fun d => fnC (kB n gt) (iniA (kB n gt) d.x)) = (valB fn ts w, true, cl.map ClD.val)) : obsC n ex fn ts tf cl gt = valC fn ts cl w := by
  have h4 : obsB n [] fn ts tf gt = valB fn ts w := congrArg Prod.fst h3
  have h5 := congrArg Prod.snd h3
  have hb : obsB n ex fn ts tf gt = valB fn ts w := by
    rw [← h4]
    unfold obsB
    rw [hx]
    rfl
  unfold obsC valC
  rw [hb]
  exact congrArg (fun z => (valB fn ts w, z)) h5
theorem map_two {α β γ δ : Type} {x : Option α} {f : α → β × γ} {h : α → δ} {a : β × γ} {c : δ} (h1 : x.map f = some a) (h3 : x.map h = some c) : x.map (fun s => ((f s).1, (f s).2, h s)) = some (a.1, a.2, c) := by
  cases x with
  | none => cases h1
  | some s =>
    cases h1
    cases h3
    rfl
end AW
/-! Bc1: list comprehensions with two fors (over lists that do not change). -/
namespace AW
open PySem PySem.Spec L2
def lc2L (gv : Gv) (tt : Tv) (iv1 : Ivv) (gv1 : Gv) (tt1 : Tv) (te : Ev) (vs1 : List Nat) (σ : Sg) : List D → G → Res (List D)
  | [], g => .ok [] g
  | d :: ds, g => match gv d σ g with
    | some (σ1, g2) => match tt σ1 g2 with
      | .ok true g3 => match iv1 σ1 g3 with
        | .ok (.fix ds1) g4 => match lcL gv1 tt1 te (wipeD σ1 vs1) ds1 g4 with
          | .ok zs g5 => match lc2L gv tt iv1 gv1 tt1 te vs1 σ ds g5 with
            | .ok ys g6 => .ok (zs ++ ys) g6
            | _ => .no
          | _ => .no
        | _ => .no
      | .ok false g3 => lc2L gv tt iv1 gv1 tt1 te vs1 σ ds g3
      | _ => .no
    | none => .no
def eLc2 (iv : Ivv) (gv : Gv) (tt : Tv) (iv1 : Ivv) (gv1 : Gv) (tt1 : Tv) (te : Ev) (vs vs1 : List Nat) : Ev := fun σ g => (iv σ g).bind fun v g1 => match v with
  | .fix ds => (noEx (lc2L gv tt iv1 gv1 tt1 te vs1 (wipeD σ vs) ds g1)).bind fun ys g2 => okIf (small ys) (.lst ys) g2
  | _ => .no
/-- one thing less is set aside -/
def Md.less (m : Md) (p : Addr) : Md := ⟨m.F, m.r, fun a => if a = p then none else m.hid a⟩
theorem slots_less {K : PySem.W.Frag} {m : Md} {p : Addr} {σ : Sg} {σv : L2.St} (h : SlotsL K m σ σv) : SlotsL K (m.less p) σ σv := ⟨fun i d q => by
  obtain ⟨v, h1, h2⟩ := h.1 i d q
  exact ⟨v, h1, den_md (m := m) (m' := m.less p) (fun _ _ z => z) (fun _ _ z => z) h2⟩, h.2⟩
theorem le_less {m m2 : Md} {p : Addr} (l : LeF m m2) (hh : ∀ a o, a ≠ p → m.hid a = some o → m2.hid a = some o) : Le (m.less p) m2 := ⟨l.F, l.r, fun a o e => by
  have e' : (if a = p then none else m.hid a) = some o := e
  by_cases h : a = p
  · rw [if_pos h] at e'; cases e'
  · rw [if_neg h] at e'; exact hh a o h e'⟩
/-- the inner loop, from a state in the middle of the outer one -/
theorem inner_s {K : PySem.W.Frag} {iv1 : Ivv} {gv1 : Gv} {tt1 : Tv} {te : Ev} {vs1 : List Nat} {t1 : TG} {σ1 : Sg} {σv : L2.St} {m0 m : Md} {g3 g4 g5 : G} {H : Hp} {Dl : Addr} {acc : List D} {accv : List V} {ds1 zs : List D} {Nx : Hp → Prop}
    (ct1 : CT K vs1 t1 gv1) (l0 : Le m0 m) (r : Rel K m g3 H) (sl : SlotsL K m σ1 σv) (hD : m.hid Dl = some (.lst accv)) (n0 : m0.hid Dl = none) (ha : Dens K m acc accv) (e1 : iv1 σ1 g3 = .ok (.fix ds1) g4) (e2 : lcL gv1 tt1 te (wipeD σ1 vs1) ds1 g4 = .ok zs g5)
    (hz : (acc ++ zs).length ≤ 100000) (k : ∀ m2 H2 accv2, Le m0 m2 → Rel K m2 g5 H2 → m2.hid Dl = some (.lst accv2) → Dens K m2 (acc ++ zs) accv2 → Nx H2) :
    tIt K W0 iv1 σv H fun J1 H4 => ∃ W1 : Nat → Nat → Hp → Prop, (∃ m, W1 0 m H4) ∧ ∀ j k H, W1 j k H →
      (J1.stop j H ∧ Nx H) ∨ (J1.go j H ∧ ∃ Nx1 : Hp → Prop, (∀ H', Nx1 H' → ∃ k', k' < k ∧ W1 (j + 1) k' H') ∧ ∀ x H', J1.yld j H x H' → t1 x (wipe σv vs1) H' fun σ3 H5 => wipe σ3 vs1 = wipe σv vs1 ∧ tT K W0 tt1 σ3 H5 fun b H6 =>
        if b = true then tE K W0 te σ3 H6 fun y H7 => ∃ acc, H7 Dl = some (.lst acc) ∧ acc.length < sizeLine ∧ Nx1 (upd H7 Dl (.lst (acc ++ [y]))) else Nx1 H6) := by
  refine ⟨m, σ1, g3, r, sl, ?_⟩
  rw [e1]
  intro m1 H1 J l1 r1 iok
  -- the base: m1 without the list in the making
  have b1 : Le (m1.less Dl) m1 := le_less ⟨fun _ _ z => z, fun _ _ z => z⟩ fun _ _ _ z => z
  have nb : (m1.less Dl).hid Dl = none := if_pos rfl
  have b0 : Le m0 (m1.less Dl) := ⟨fun a o z => l1.F a o (l0.F a o z), fun i a z => l1.r i a (l0.r i a z), fun a o z => by
    show (if a = Dl then none else m1.hid a) = some o
    rw [if_neg (fun q => by rw [q, n0] at z; cases z)]
    exact l1.hid a o (l0.hid a o z)⟩
  have sw : SlotsL K (m1.less Dl) (wipeD σ1 vs1) (wipe σv vs1) := slots_less (wipe_s (sl.mono l1) vs1)
  have iokF : ∀ m2, Le (m1.less Dl) m2 → LeF m1 m2 := fun m2 l => ⟨l.F, l.r⟩
  refine ⟨fun i n H => ∃ m2 g2 ac av rest, Le (m1.less Dl) m2 ∧ Rel K m2 g2 H ∧ m2.hid Dl = some (.lst av) ∧ Dens K m2 ac av ∧ lcL gv1 tt1 te (wipeD σ1 vs1) (ds1.drop i) g2 = .ok rest g5 ∧ ac ++ rest = acc ++ zs ∧ n = ds1.length - i ∧ i ≤ ds1.length,
    ⟨ds1.length, m1, g4, acc, accv, zs, b1, r1, l1.hid _ _ hD, ha.mono l1, e2, rfl, rfl, Nat.zero_le _⟩, ?_⟩
  rintro i n H2 ⟨m2, g2, ac, av, rest, l2, r2, h2, da, q2, q3, q4, q5⟩
  obtain ⟨hstop, hgo⟩ := iok m2 g2 H2 (iokF m2 l2) r2 i
  by_cases hi : i < ds1.length
  · rw [List.drop_eq_getElem_cons hi] at q2
    have q2' : (match lcT gv1 tt1 te (wipeD σ1 vs1) ds1[i] g2 with | .ok o g1 => lcPut o (lcL gv1 tt1 te (wipeD σ1 vs1) (ds1.drop (i + 1)) g1) | _ => .no) = Res.ok rest g5 := q2
    cases hT : lcT gv1 tt1 te (wipeD σ1 vs1) ds1[i] g2 with
    | no => rw [hT] at q2'; cases q2'
    | ex e g3 => rw [hT] at q2'; cases q2'
    | ok o g6 =>
      rw [hT] at q2'
      obtain ⟨ws, hz1, hz2⟩ := lcPut_ok q2'
      obtain ⟨go, hy⟩ := hgo ds1[i] (by simp [hi])
      refine .inr ⟨go, fun H => ∃ m2 g2 ac av rest, Le (m1.less Dl) m2 ∧ Rel K m2 g2 H ∧ m2.hid Dl = some (.lst av) ∧ Dens K m2 ac av ∧ lcL gv1 tt1 te (wipeD σ1 vs1) (ds1.drop (i + 1)) g2 = .ok rest g5 ∧ ac ++ rest = acc ++ zs,
        fun H' ⟨m3, g4, ac, av, rs, q1, q2, q3, q4, q5, q6⟩ => ⟨ds1.length - (i + 1), by omega, m3, g4, ac, av, rs, q1, q2, q3, q4, q5, q6, rfl, hi⟩, fun x H3 yl => ?_⟩
      obtain ⟨m3, l3, r3, hd⟩ := hy x H3 yl
      refine lcT_s (o := o) (acc := ac) (accv := av) (wipe_idem σv vs1) ct1 (l2.trans l3) r3 sw (l3.hid _ _ h2) nb (da.mono l3) (fun y hy' => ?_) hd hT fun m4 H4 av4 l4 r4 h4 d4 => ⟨m4, g6, addO ac o, av4, ws, l4, r4, h4, d4, hz1, ?_⟩
      · rw [hz2, hy'] at q3
        have := congrArg List.length q3
        rw [List.length_append] at this
        simp only [consO, List.length_cons] at this
        omega
      · rw [← app_put, ← hz2]
        exact q3
  · have hi' : i = ds1.length := by omega
    subst hi'
    rw [List.drop_length] at q2
    have q2' : Res.ok [] g2 = Res.ok rest g5 := q2
    cases q2'
    rw [List.append_nil] at q3
    exact .inl ⟨hstop (Nat.le_refl _), k m2 H2 av (b0.trans l2) r2 h2 (by rw [← q3]; exact da)⟩
/-- one turn of the outer loop -/
theorem outer_s {K : PySem.W.Frag} {gv gv1 : Gv} {tt tt1 : Tv} {iv1 : Ivv} {te : Ev} {vs vs1 : List Nat} {t t1 : TG} {σ : Sg} {σv : L2.St} {m0 m : Md} {d : D} {x : V} {g gF : G} {H : Hp} {Dl : Addr} {acc : List D} {accv : List V} {ds rest : List D} {Nx : Hp → Prop} {wq : L2.St} (hwq : wipe σv vs = wq)
    (ct : CT K vs t gv) (ct1 : CT K vs1 t1 gv1) (l0 : Le m0 m) (r : Rel K m g H) (sl : SlotsL K m0 σ σv) (hD : m.hid Dl = some (.lst accv)) (n0 : m0.hid Dl = none) (ha : Dens K m acc accv) (hd : Den K m d x) (e : lc2L gv tt iv1 gv1 tt1 te vs1 σ (d :: ds) g = .ok rest gF)
    (hz : (acc ++ rest).length ≤ 100000) (k : ∀ m2 H2 g2 acc2 accv2 rest2, Le m0 m2 → Rel K m2 g2 H2 → m2.hid Dl = some (.lst accv2) → Dens K m2 acc2 accv2 → lc2L gv tt iv1 gv1 tt1 te vs1 σ ds g2 = .ok rest2 gF → acc2 ++ rest2 = acc ++ rest → Nx H2) :
    t x σv H fun σ2 H2 => wipe σ2 vs = wq ∧ tT K W0 tt σ2 H2 fun b H3 =>
      if b = true then tIt K W0 iv1 σ2 H3 fun J1 H4 => ∃ W1 : Nat → Nat → Hp → Prop, (∃ m, W1 0 m H4) ∧ ∀ j k H, W1 j k H →
        (J1.stop j H ∧ Nx H) ∨ (J1.go j H ∧ ∃ Nx1 : Hp → Prop, (∀ H', Nx1 H' → ∃ k', k' < k ∧ W1 (j + 1) k' H') ∧ ∀ x H', J1.yld j H x H' → t1 x (wipe σ2 vs1) H' fun σ3 H5 => wipe σ3 vs1 = wipe σ2 vs1 ∧ tT K W0 tt1 σ3 H5 fun b H6 =>
          if b = true then tE K W0 te σ3 H6 fun y H7 => ∃ acc, H7 Dl = some (.lst acc) ∧ acc.length < sizeLine ∧ Nx1 (upd H7 Dl (.lst (acc ++ [y]))) else Nx1 H6)
      else Nx H3 := by
  unfold lc2L at e
  split at e
  · rename_i σ1 g2 hq
    refine ct m d x σ σv g H σ1 g2 _ r (sl.mono l0) hd hq fun σv2 s2 w2 r2 => ⟨w2.trans hwq, m, σ1, g2, r2, s2.1, s2.2, ?_⟩
    split at e
    · rename_i g3 ht
      rw [ht]
      refine fun m3 H3 b l3 r3 eb => ?_
      subst eb
      rw [if_pos rfl]
      split at e
      · rename_i ds1 g4 hv
        split at e
        · rename_i zs g5 hl
          split at e
          · rename_i ys g6 hy
            cases e
            refine inner_s (zs := zs) ct1 (l0.trans l3) r3 (s2.mono l3) (l3.hid _ _ hD) n0 (ha.mono l3) hv hl ?_ fun m4 H4 av l4 r4 h4 d4 => k m4 H4 g5 _ av ys l4 r4 h4 d4 hy (List.append_assoc _ _ _)
            rw [List.length_append] at hz ⊢
            rw [List.length_append] at hz
            omega
          · cases e
        · cases e
      · cases e
    · rename_i g3 ht
      rw [ht]
      refine fun m3 H3 b l3 r3 eb => ?_
      subst eb
      rw [if_neg Bool.false_ne_true]
      exact k m3 H3 g3 acc accv rest (l0.trans l3) r3 (l3.hid _ _ hD) (ha.mono l3) e rfl
    · cases e
  · cases e
section
variable {X : Cx} {W : WX} {elt tg iter tg1 iter1 : Expr} {ifs ifs1 : List Expr} {scope : Scope} {own : List (Str × Nat)} {vs1 : List Nat} {pos : Pos} {iv iv1 : Ivv} {t t1 : TG} {gv gv1 : Gv} {tt tt1 : Tv} {te : Ev}
theorem lc2_t {vs : List Nat} {σ : L2.St} {H : Hp} {Q : VK} (ct : CT X.K vs t gv) (ct1 : CT X.K vs1 t1 gv1) (h : tE X.K W (eLc2 iv gv tt iv1 gv1 tt1 te vs vs1) σ H Q) : tLc2 (tIt X.K W iv) t (tT X.K W0 tt) (tIt X.K W0 iv1) t1 (tT X.K W0 tt1) (tE X.K W0 te) vs vs1 σ H Q := by
  obtain ⟨m, σ', g, rl, sl, hl, p⟩ := h
  refine ⟨m, σ', g, rl, ⟨sl, hl⟩, Post.bind p fun v g1 m1 H1 J l1 r1 iok p1 => ?_⟩
  intro Dl hD
  have sw : SlotsL X.K m1 (wipeD σ' vs) (wipe σ vs) := wipe_s (SlotsL.mono l1 ⟨sl, hl⟩) vs
  have n0 := r1.hfree hD
  cases v with
  | dyn j => exact p1.elim
  | dynf j f => exact p1.elim
  | dyng f => exact p1.elim
  | fix ds =>
    have p1 : Post X.K W σ (Den X.K) ((noEx (lc2L gv tt iv1 gv1 tt1 te vs1 (wipeD σ' vs) ds g1)).bind fun ys g2 => okIf (small ys) (.lst ys) g2) m1 Q := p1
    cases hq : lc2L gv tt iv1 gv1 tt1 te vs1 (wipeD σ' vs) ds g1 with
    | no => rw [hq] at p1; exact p1.elim
    | ex e g2 => rw [hq] at p1; exact p1.elim
    | ok yall gF =>
      rw [hq] at p1
      have p1' : Post X.K W σ (Den X.K) (okIf (small yall) (.lst yall) gF) m1 Q := p1
      have hlen := okIf_len p1'
      have l0 : Le m1 (m1.hide Dl (.lst [])) := le_hide n0
      have h0 : (m1.hide Dl (.lst [])).hid Dl = some (.lst []) := by show upd m1.hid Dl _ Dl = _; exact upd_same
      refine ⟨fun i n H => ∃ m2 g2 acc accv rest, Le m1 m2 ∧ Rel X.K m2 g2 H ∧ m2.hid Dl = some (.lst accv) ∧ Dens X.K m2 acc accv ∧ lc2L gv tt iv1 gv1 tt1 te vs1 (wipeD σ' vs) (ds.drop i) g2 = .ok rest gF ∧ acc ++ rest = yall ∧ n = ds.length - i ∧ i ≤ ds.length,
        ⟨ds.length, m1.hide Dl (.lst []), g1, [], [], yall, l0, r1.hide hD, h0, .nil, hq, rfl, rfl, Nat.zero_le _⟩, ?_⟩
      rintro i n H2 ⟨m2, g2, acc, accv, rest, l2, r2, h2, da, e2, e3, e4, e5⟩
      obtain ⟨hstop, hgo⟩ := iok m2 g2 H2 l2.f r2 i
      by_cases hi : i < ds.length
      · rw [List.drop_eq_getElem_cons hi] at e2
        obtain ⟨go, hy⟩ := hgo ds[i] (by simp [hi])
        refine .inr ⟨go, fun H => ∃ m2 g2 acc accv rest, Le m1 m2 ∧ Rel X.K m2 g2 H ∧ m2.hid Dl = some (.lst accv) ∧ Dens X.K m2 acc accv ∧ lc2L gv tt iv1 gv1 tt1 te vs1 (wipeD σ' vs) (ds.drop (i + 1)) g2 = .ok rest gF ∧ acc ++ rest = yall,
          fun H' ⟨m3, g4, ac, av, rs, q1, q2, q3, q4, q5, q6⟩ => ⟨ds.length - (i + 1), by omega, m3, g4, ac, av, rs, q1, q2, q3, q4, q5, q6, rfl, hi⟩, fun x H3 yl => ?_⟩
        obtain ⟨m3, l3, r3, hd⟩ := hy x H3 yl
        exact outer_s (wipe_idem σ vs) ct ct1 (l2.trans l3) r3 sw (l3.hid _ _ h2) n0 (da.mono l3) hd e2 (by rw [e3]; exact hlen) fun m4 H4 g4 ac av rs l4 r4 h4 d4 q1 q2 => ⟨m4, g4, ac, av, rs, l4, r4, h4, d4, q1, q2.trans e3⟩
      · have hi' : i = ds.length := by omega
        subst hi'
        rw [List.drop_length] at e2
        have e2' : Res.ok [] g2 = Res.ok rest gF := e2
        cases e2'
        rw [List.append_nil] at e3
        subst e3
        refine .inl ⟨hstop (Nat.le_refl _), ?_⟩
        obtain ⟨c, p2⟩ := okIf_post p1'
        have hF := (r2.hid _ _ h2).2.1
        refine p2 _ _ _ ?_ (r2.freeze h2) (.lst (by show upd m2.F Dl _ Dl = _; exact upd_same) (dens_md (m := m2) (m' := ⟨upd m2.F Dl (.lst accv), m2.r, m2.unhide Dl none⟩) (fun a o e => by show upd m2.F Dl _ a = _; rw [upd_ne (ne_of_none e hF)]; exact e) (fun _ _ z => z) da))
        refine ⟨fun a o e => ?_, l2.r, fun a o e => ?_⟩
        · show upd m2.F Dl _ a = some o
          rw [upd_ne (ne_of_none (l2.F a o e) hF)]
          exact l2.F a o e
        · show (if a = Dl then none else m2.hid a) = some o
          rw [if_neg (fun z => by rw [z, n0] at e; cases e)]
          exact l2.hid a o e
theorem x_lc2 (hc : X.calm = true) (hN : X.N.Nodup) (hi : PI X tg iter (tIt X.K W iv)) (ok : BlkOk X.N X.env.scope scope own) (hv : ∀ i ∈ vs1, i ∈ own.map (·.2)) (ct : CT X.K (own.map (·.2)) t gv) (ct1 : CT X.K vs1 t1 gv1)
    (hg : ∀ (s : Shared) (H : Hp) (C : Addr) (cl : List (Str × Addr)) (fp : List Addr), PG (X.blk s H scope (compEnvC scope cl C X.env) fp) tg t) (ht : ∀ (s : Shared) (H : Hp) (C : Addr) (cl : List (Str × Addr)) (fp : List Addr), PTs (X.blk s H scope (compEnvC scope cl C X.env) fp) ifs (tT X.K W0 tt))
    (hi1 : ∀ (s : Shared) (H : Hp) (C : Addr) (cl : List (Str × Addr)) (fp : List Addr), PI (X.blk s H scope (compEnvC scope cl C X.env) fp) tg1 iter1 (tIt X.K W0 iv1))
    (hg1 : ∀ (s : Shared) (H : Hp) (C : Addr) (cl : List (Str × Addr)) (fp : List Addr), PG (X.blk s H scope (compEnvC scope cl C X.env) fp) tg1 t1) (ht1 : ∀ (s : Shared) (H : Hp) (C : Addr) (cl : List (Str × Addr)) (fp : List Addr), PTs (X.blk s H scope (compEnvC scope cl C X.env) fp) ifs1 (tT X.K W0 tt1))
    (he : ∀ (s : Shared) (H : Hp) (C : Addr) (cl : List (Str × Addr)) (fp : List Addr), PE (X.blk s H scope (compEnvC scope cl C X.env) fp) elt (tE X.K W0 te)) (hs : ∀ x, foldedSetIterable iter X.env x = pure x := by intro _; rfl) (hs1 : ∀ env x, foldedSetIterable iter1 env x = pure x := by intro _ _; rfl) :
    PE X (.ListComp elt [⟨tg, iter, ifs, 0⟩, ⟨tg1, iter1, ifs1, 0⟩] scope pos) (tE X.K W (eLc2 iv gv tt iv1 gv1 tt1 te (own.map (·.2)) vs1)) := PE.imp (pe_lc2 hc hN hi ok hv hg ht hi1 hg1 ht1 he hs hs1) fun σ H Q h => lc2_t ct ct1 h
theorem s_setLc2 {i : Nat} {y : Str} {py spos : Pos} (hc : X.calm = true) (hN : X.N.Nodup) (hy : X.N[i]? = some y) (hyl : X.env.scope.names.lookup y = some .local)
    (hsw : swapsWith (.ListComp elt [⟨tg, iter, ifs, 0⟩, ⟨tg1, iter1, ifs1, 0⟩] scope pos) (some (.Name y py)) spos.line X.env = pure true) (hi : PI X tg iter (tIt X.K W iv)) (ok : BlkOk X.N X.env.scope scope own) (hv : ∀ i ∈ vs1, i ∈ own.map (·.2)) (ct : CT X.K (own.map (·.2)) t gv) (ct1 : CT X.K vs1 t1 gv1)
    (hg : ∀ (s : Shared) (H : Hp) (C : Addr) (cl : List (Str × Addr)) (fp : List Addr), PG (X.blk s H scope (compEnvC scope cl C X.env) fp) tg t) (ht : ∀ (s : Shared) (H : Hp) (C : Addr) (cl : List (Str × Addr)) (fp : List Addr), PTs (X.blk s H scope (compEnvC scope cl C X.env) fp) ifs (tT X.K W0 tt))
    (hi1 : ∀ (s : Shared) (H : Hp) (C : Addr) (cl : List (Str × Addr)) (fp : List Addr), PI (X.blk s H scope (compEnvC scope cl C X.env) fp) tg1 iter1 (tIt X.K W0 iv1))
    (hg1 : ∀ (s : Shared) (H : Hp) (C : Addr) (cl : List (Str × Addr)) (fp : List Addr), PG (X.blk s H scope (compEnvC scope cl C X.env) fp) tg1 t1) (ht1 : ∀ (s : Shared) (H : Hp) (C : Addr) (cl : List (Str × Addr)) (fp : List Addr), PTs (X.blk s H scope (compEnvC scope cl C X.env) fp) ifs1 (tT X.K W0 tt1))
    (he : ∀ (s : Shared) (H : Hp) (C : Addr) (cl : List (Str × Addr)) (fp : List Addr), PE (X.blk s H scope (compEnvC scope cl C X.env) fp) elt (tE X.K W0 te)) (hs : ∀ x, foldedSetIterable iter X.env x = pure x := by intro _; rfl) (hs1 : ∀ env x, foldedSetIterable iter1 env x = pure x := by intro _ _; rfl) :
    PS X (.Assign [.Name y py] (.ListComp elt [⟨tg, iter, ifs, 0⟩, ⟨tg1, iter1, ifs1, 0⟩] scope pos) spos) (tS X.K W (sSet i (eLc2 iv gv tt iv1 gv1 tt1 te (own.map (·.2)) vs1))) := PS.imp (ps_setLc2 hc hN hy hyl hsw hi ok hv hg ht hi1 hg1 ht1 he hs hs1) fun D' σ H h => by
  obtain ⟨m, σ', g, rl, sl, p⟩ := h
  have h' : tE X.K W (eLc2 iv gv tt iv1 gv1 tt1 te (own.map (·.2)) vs1) σ H (fun x H1 => D'.nx (σ.set i (some x)) H1) := ⟨m, σ', g, rl, sl.1, sl.2, sBind_s sl p fun d g1 m1 H1 v l1 r1 d1 p1 => p1 m1 H1 _ (Le.refl m1) r1 ((sl.mono l1).set d1)⟩
  exact lc2_t ct ct1 h'
end
end AW
/-! Bt3: t * n, t a tuple that is not empty, n from 1 to 1000. -/
namespace AW
open PySem PySem.Spec PyProof.Rows L2
theorem tuple_mul1 (l : Addr) (items : Array Value) (n : Nat) (dd : Option Addr) (sl : Array (Option Value)) (u : Tok) :
    Meets (Builtin.«tuple.__mul__» ⟨[.ref l, .int 1 u], []⟩) (fun _ R s => s.heap.get? l = some { cls := .type "tuple", dict := dd, data := .seq items n, slots := sl } ∧
      R (.ok (.ret (Value.ref l))) s) :=
  .of_wp fun prog w A R s h => by
    obtain ⟨hp, g, d, tk, os⟩ := s
    obtain ⟨hl, h⟩ := h
    have f1 := AutoSeq1.idx_int
    wp_walk using wpAny_loadPart' hl
    exact ⟨_, rfl, h⟩
/-- t * 1 is t itself -/
def rRep1 (K : PySem.W.Frag) : R2 := fun x y H Q => ∃ l xs, x = .ref l ∧ y = .int 1 ∧ SqT K H l xs ∧ Q (.ref l) H
section
variable {X : Cx}
theorem op_rep1 : OpR X (binaryOp .Mult) (rRep1 X.K) := by
  intro pins s σ H x y v u Q I rx ry h
  obtain ⟨l, xs, rfl, rfl, hT, q⟩ := h
  cases rx
  obtain ⟨t, rfl⟩ := ry
  obtain ⟨its, r, ⟨⟨cls, dd, data, sl⟩, ho, hc, n, hd⟩, hs⟩ := I.tuple hT
  simp only at hc hd
  subst hc hd
  refine wpAny_binaryOp_repeat_ref (T := "tuple") (U := "int") (by decide) ⟨_, ho, rfl⟩ (fun s' => typeIs_int s' 1 t) noFill_tuple_mul F.fills_int_mul F.slot_int_rmul repeat_tuple F.slot_int_index.lookup
    (call_meets F.slot_int_rmul (typeIs_int s 1 t) F.entry_int_rmul (F.args_int_rmul_2 _ _) (int_rmul_tuple 1 t l its.toArray n dd sl)
      ⟨ho, rfl, ⟨_, ho, rfl⟩, call_meets F.slot_tuple_mul ⟨_, ho, rfl⟩ F.entry_tuple_mul (F.args_tuple_mul_2 _ _) (tuple_mul1 l its.toArray n dd sl t) ⟨ho, ?_⟩⟩)
  exact ⟨.ref l, H, I, rfl, q⟩
end
def oMulT : Op2 := fun x y g => match x, y with
  | .tup (z :: zs), .int k => okIf (decide (1 ≤ k) && (decide (k ≤ 1000) && decide ((z :: zs).length ≤ 1000))) (.tup (List.replicate k.toNat (z :: zs)).flatten) g
  | x, y => oMul x y g
def rMulT (K : PySem.W.Frag) : R2 := fun x y H Q => rRep1 K x y H Q ∨ (rRepT K x y H Q ∨ rMul1 x y H Q)
theorem op_mulT {X : Cx} : OpR X (binaryOp .Mult) (rMulT X.K) := opR_or op_rep1 (opR_or op_repT op_mul1)
theorem oMulT_s {K : PySem.W.Frag} {W : WX} : OpS K W (rMulT K) oMulT := fun σv m g H d e x y Q rl hd he p => by
  unfold oMulT at p
  split at p
  · rename_i z zs k
    obtain ⟨c, p⟩ := okIf_post p
    rw [Bool.and_eq_true, Bool.and_eq_true] at c
    obtain ⟨c1, c2, c3⟩ := c
    have c1 := of_decide_eq_true c1
    have c2 := of_decide_eq_true c2
    have c3 := of_decide_eq_true c3
    cases he
    cases hd with
    | tup h1 d1 =>
      rename_i a vs
      have hl := d1.length
      by_cases hk : k = 1
      · subst hk
        have e : (List.replicate (1 : Int).toNat (z :: zs)).flatten = z :: zs := by
          show (List.replicate 1 (z :: zs)).flatten = z :: zs
          rw [List.replicate_succ, List.replicate_zero, List.flatten_cons, List.flatten_nil, List.append_nil]
        rw [e] at p
        exact .inl ⟨a, vs, rfl, rfl, rl.seqT h1, fin_ok rl (Den.tup h1 d1) p⟩
      · refine .inr (.inl ⟨a, k, vs, rfl, rfl, rl.seqT h1, ?_, by omega, c2, by omega, fin_tup rl (d1.rep _) p⟩)
        rintro rfl
        simp at hl
  · exact .inr (.inr (oMul_s σv m g H _ _ x y Q rl hd he p))
theorem x_mulT {X : Cx} {W : WX} {a b : Expr} {ea eb : Ev} {pos : Pos} (ha : PE X a (tE X.K W ea)) (hb : PE X b (tE X.K W eb)) : PE X (.BinOp a .Mult b pos) (tE X.K W (eOp oMulT ea eb)) := x_op op_mulT oMulT_s ha hb
end AW
/-! Bk2: x == (), x != () for a tuple of any values. -/
namespace AW
open PySem PySem.Spec PyProof.Rows L2
def rT0 (K : PySem.W.Frag) (r : Bool) : R2 := fun x y H Q => ∃ (a b : Addr) (xs : List V), x = .ref a ∧ y = .ref b ∧ SqT K H a xs ∧ SqT K H b [] ∧ Q (.bl (if r = true then xs.isEmpty else !xs.isEmpty)) H
section
variable {X : Cx} {W : WX} {a b : Expr} {ea eb : Ev} {pos : Pos}
theorem emp_size {its : List Value} {xs : List V} (r : Vals xs its) : (its.toArray.size == 0) = xs.isEmpty := by
  cases r <;> rfl
theorem op_eqT0 (hu : X.A.units + 64 < cLine) : OpR X (compareOp .Eq) (rT0 X.K true) := by
  intro pins s σ H x y v u Q I rx ry h
  obtain ⟨a, b, xs, rfl, rfl, h1, h2, q⟩ := h
  cases (show v = Value.ref a from rx)
  cases (show u = Value.ref b from ry)
  obtain ⟨is, i1, i2, _⟩ := I.tuple h1
  obtain ⟨js, j1, j2, _⟩ := I.tuple h2
  cases j1
  refine SeqAt.RcAt.tuples (e := fun _ => true) i2 j2 (by omega) (fun j _ h => absurd h (by simp)) _ _ _ _ ⟨.bl xs.isEmpty, H, I, ?_, q⟩
  have e : ((List.range (min is.toArray.size ([] : List Value).toArray.size)).all (fun _ => true) && is.toArray.size == ([] : List Value).toArray.size) = xs.isEmpty := by
    rw [show ([] : List Value).toArray.size = 0 from rfl, Nat.min_zero, emp_size i1]
    rfl
  rw [e]
  rfl
theorem op_neT0 (hu : X.A.units + 64 < cLine) : OpR X (compareOp .NotEq) (rT0 X.K false) := by
  intro pins s σ H x y v u Q I rx ry h
  obtain ⟨a, b, xs, rfl, rfl, h1, h2, q⟩ := h
  cases (show v = Value.ref a from rx)
  cases (show u = Value.ref b from ry)
  obtain ⟨is, i1, i2, _⟩ := I.tuple h1
  obtain ⟨js, j1, j2, _⟩ := I.tuple h2
  cases j1
  refine SeqAt.RcNeAt.tuples (e := fun _ => true) i2 j2 (by omega) (fun j _ h => absurd h (by simp)) _ _ _ _ ⟨.bl (!xs.isEmpty), H, I, ?_, q⟩
  have e : ((List.range (min is.toArray.size ([] : List Value).toArray.size)).all (fun _ => true) && is.toArray.size == ([] : List Value).toArray.size) = xs.isEmpty := by
    rw [show ([] : List Value).toArray.size = 0 from rfl, Nat.min_zero, emp_size i1]
    rfl
  rw [e]
  rfl
end
def oEq0 : Op2 := fun x y g => match x, y with
  | .tup xs, .tup [] => .ok (.bl xs.isEmpty) g
  | x, y => oEq x y g
def oNe0 : Op2 := fun x y g => match x, y with
  | .tup xs, .tup [] => .ok (.bl (!xs.isEmpty)) g
  | x, y => oNe x y g
theorem emp_dens {K : PySem.W.Frag} {m : Md} {xs : List D} {vs : List V} (h : Dens K m xs vs) : xs.isEmpty = vs.isEmpty := by cases h <;> rfl
theorem oEq0_s {K : PySem.W.Frag} {W : WX} : OpS K W (fun x y H Q => rT0 K true x y H Q ∨ rEq1 K x y H Q) oEq0 := fun σv m g H d e x y Q rl hd he p => by
  unfold oEq0 at p
  split at p
  · cases hd with
    | tup h1 d1 =>
      cases he with
      | tup h2 d2 =>
        rename_i a vs b ws
        obtain rfl := d2.nilV
        refine .inl ⟨a, b, vs, rfl, rfl, rl.seqT h1, rl.seqT h2, ?_⟩
        rw [if_pos rfl, ← emp_dens d1]
        exact fin_ok rl .bl p
  · exact .inr (oEq_s σv m g H _ _ x y Q rl hd he p)
theorem oNe0_s {K : PySem.W.Frag} {W : WX} : OpS K W (fun x y H Q => rT0 K false x y H Q ∨ rNe1 K x y H Q) oNe0 := fun σv m g H d e x y Q rl hd he p => by
  unfold oNe0 at p
  split at p
  · cases hd with
    | tup h1 d1 =>
      cases he with
      | tup h2 d2 =>
        rename_i a vs b ws
        obtain rfl := d2.nilV
        refine .inl ⟨a, b, vs, rfl, rfl, rl.seqT h1, rl.seqT h2, ?_⟩
        rw [if_neg (by simp), ← emp_dens d1]
        exact fin_ok rl .bl p
  · exact .inr (oNe_s σv m g H _ _ x y Q rl hd he p)
section
variable {X : Cx} {W : WX} {a b : Expr} {ea eb : Ev} {pos : Pos}
theorem x_eq0 (hu : X.A.units + 64 < cLine) (ha : PE X a (tE X.K W ea)) (hb : PE X b (tE X.K W eb)) : PE X (.Compare a [.Eq] [b] pos) (tE X.K W (eOp oEq0 ea eb)) := x_cmp (opR_or (op_eqT0 hu) (op_eq1 hu)) oEq0_s ha hb (nomark _)
theorem x_ne0 (hu : X.A.units + 64 < cLine) (ha : PE X a (tE X.K W ea)) (hb : PE X b (tE X.K W eb)) : PE X (.Compare a [.NotEq] [b] pos) (tE X.K W (eOp oNe0 ea eb)) := x_cmp (opR_or (op_neT0 hu) (op_ne1 hu)) oNe0_s ha hb (nomark _)
end
end AW
/-! Bi1: instances of own classes with slots: made, stored into, read; properties; methods. -/
namespace AW
open PySem PySem.Spec PyProof.Rows L2
/-! ### slots -/
abbrev STab := List (Str × List Str)
def fIx : List Str → Str → Nat → Option Nat
  | [], _, _ => none
  | x :: r, f, i => if x = f then some i else fIx r f (i + 1)
def sIx : STab → Str → Str → Option Nat
  | [], _, _ => none
  | q :: r, c, f => if q.1 = c then fIx q.2 f 0 else sIx r c f
def slot1B (c f : Str) (i : Nat) (K : PySem.W.Frag) : Bool := match PySem.W.findIn K (.ref (ga K c)) f with
  | some (some (.ref p)) => decide (PySem.W.specialIn K (.ref p) "__get__" = some (some (.builtin "member_descriptor.__get__"))) && (decide (PySem.W.takesIn K (.ref p) = some true) &&
    (decide (PySem.W.typeIn K (.ref p) = some (.type "member_descriptor")) && (decide (PySem.W.slotIn K p (ga K c) = some i) && decide (i < 1000))))
  | _ => false
def allIx (P : Str → Nat → Bool) : List Str → Nat → Bool
  | [], _ => true
  | x :: r, i => P x i && allIx P r (i + 1)
def slotsB (tb : STab) (K : PySem.W.Frag) : Bool := tb.all fun q => clsB q.1 K && allIx (fun f i => slot1B q.1 f i K) q.2 0
structure SlF (tb : STab) (K : PySem.W.Frag) : Prop where
  at_ : ∀ c f i, sIx tb c f = some i → SlX.SCls K (ga K c) ∧ ∃ p, SlX.Slot1 K (ga K c) f p i
theorem allIx_s {P : Str → Nat → Bool} : ∀ {fs : List Str} {j : Nat} {f : Str} {i : Nat}, allIx P fs j = true → fIx fs f j = some i → P f i = true
  | [], _, _, _, _, e => by cases e
  | x :: r, j, f, i, h, e => by
    unfold allIx at h
    rw [Bool.and_eq_true] at h
    unfold fIx at e
    split at e
    · rename_i q
      cases e
      rw [← q]
      exact h.1
    · exact allIx_s h.2 e
theorem slot1B_s {c f : Str} {i : Nat} {K : PySem.W.Frag} (h : slot1B c f i K = true) : ∃ p, SlX.Slot1 K (ga K c) f p i := by
  unfold slot1B at h
  split at h
  · rename_i p hp
    simp only [Bool.and_eq_true, decide_eq_true_eq] at h
    obtain ⟨h1, h2, h3, h4, h5⟩ := h
    exact ⟨p, hp, h1, h2, h3, h4, h5⟩
  · cases h
theorem slF_of {K : PySem.W.Frag} : ∀ {tb : STab}, slotsB tb K = true → SlF tb K
  | [], _ => ⟨fun _ _ _ e => by cases e⟩
  | q :: r, h => by
    unfold slotsB at h
    rw [List.all_cons, Bool.and_eq_true, Bool.and_eq_true] at h
    obtain ⟨⟨h1, h2⟩, h3⟩ := h
    refine ⟨fun c f i e => ?_⟩
    unfold sIx at e
    split at e
    · rename_i hc
      subst hc
      exact ⟨(clsB_s h1).1, slot1B_s (allIx_s h2 e)⟩
    · exact (slF_of (tb := r) h3).at_ c f i e
/-! ### reading -/
def fldOf (tb : STab) (f : Str) (g : G) : D → Option D
  | .ins c xs => match sIx tb c f with
    | some i => xs[i]?
    | none => none
  | .ref k => match g[k]? with
    | some (.ins c j fs) => match g[j]? with
      | some .xd => match sIx tb c f with
        | some i => match fs[i]? with
          | some (some d) => some d
          | _ => none
        | none => none
      | _ => none
    | _ => none
  | _ => none
theorem fldOf_s {tb : STab} {f : Str} {K : PySem.W.Frag} {m : Md} {g : G} {H : Hp} {d e : D} {v : V} (F : SlF tb K) (r : Rel K m g H) (h : Den K m d v) (q : fldOf tb f g d = some e) :
    ∃ a C dx p vs i u, v = .ref a ∧ SlX.Slt H a C dx vs ∧ SlX.SCls K C ∧ SlX.Slot1 K C f p i ∧ vs[i]? = some (some u) ∧ Den K m e u := by
  unfold fldOf at q
  split at q
  · rename_i c xs
    split at q
    · rename_i i hi
      obtain ⟨a, dx, vs, rfl, h2, h3⟩ := ins_slt r h
      obtain ⟨hc, p, hp⟩ := F.at_ _ _ _ hi
      obtain ⟨u, h4, h5⟩ := h3.get q
      exact ⟨a, _, dx, p, _, i, u, rfl, h2, hc, hp, by rw [List.getElem?_map, h4]; rfl, h5⟩
    · cases q
  · rename_i k
    split at q
    · rename_i c j fs hk
      split at q
      · rename_i hx
        split at q
        · rename_i i hi
          split at q
          · rename_i d' hd
            cases q
            obtain ⟨a, dx, ws, rfl, _, _, _, h2, _, h3⟩ := cell_slt r h hk hx
            obtain ⟨hc, p, hp⟩ := F.at_ _ _ _ hi
            obtain ⟨u, h4, h5⟩ := h3 i _ hd
            exact ⟨a, _, dx, p, _, i, u, rfl, h2, hc, hp, h4, h5⟩
          · cases q
        · cases q
      · cases q
    · cases q
  · cases q
def prOf : List (Str × Fn) → Str → Option Fn
  | [], _ => none
  | q :: r, c => if q.1 = c then some q.2 else prOf r c
theorem prOf_mem : ∀ {ps : List (Str × Fn)} {c : Str} {fn : Fn}, prOf ps c = some fn → (c, fn) ∈ ps
  | [], _, _, e => by cases e
  | q :: r, c, fn, e => by
    unfold prOf at e
    split at e
    · rename_i h
      cases e
      rw [← h]
      exact List.mem_cons_self ..
    · exact List.mem_cons_of_mem _ (prOf_mem e)
/-- e.f: a slot or a property of one of the classes -/
def eAttr (tb : STab) (ps : List (Str × Fn)) (f : Str) (a : Ev) : Ev := fun σ g => (a σ g).bind fun d g1 => match fldOf tb f g1 d with
  | some e => .ok e g1
  | none => match insOf g1 d with
    | some c => match prOf ps c with
      | some fn => noEx (fn [d] g1)
      | none => .no
    | none => .no
/-- a property's getter -/
def prA (K : PySem.W.Frag) (c f : Str) : Addr := match PySem.W.recIn K (He.ma K (ga K c) f) "property" with
  | some (.ref g :: _) => g
  | _ => 0
def prB (c f : Str) (K : PySem.W.Frag) : Bool := decide (PySem.W.findIn K (.ref (ga K c)) f = some (some (.ref (He.ma K (ga K c) f)))) && (decide (PySem.W.specialIn K (.ref (He.ma K (ga K c) f)) "__get__" = some (some (.builtin "property.__get__"))) &&
  (decide (PySem.W.takesIn K (.ref (He.ma K (ga K c) f)) = some true) && (match PySem.W.recIn K (He.ma K (ga K c) f) "property" with
    | some (.ref _ :: _) => true
    | _ => false)))
theorem prB_s {c f : Str} {K : PySem.W.Frag} (h : prB c f K = true) : ∃ p, PySem.W.findIn K (.ref (ga K c)) f = some (some (.ref p)) ∧ PySem.W.specialIn K (.ref p) "__get__" = some (some (.builtin "property.__get__")) ∧ PySem.W.takesIn K (.ref p) = some true ∧
    ∃ rest, PySem.W.recIn K p "property" = some (.ref (prA K c f) :: rest) := by
  unfold prB at h
  simp only [Bool.and_eq_true, decide_eq_true_eq] at h
  obtain ⟨h1, h2, h3, h4⟩ := h
  refine ⟨_, h1, h2, h3, ?_⟩
  split at h4
  · rename_i g rest e
    refine ⟨rest, ?_⟩
    unfold prA
    rw [e]
  · cases h4
def PrF (tf : List He.Defn) (P : Program) (w : World) (K : PySem.W.Frag) (mg : Str → Option Value) (f : Str) (k : Nat) (ps : List (Str × Fn)) : Prop := ∀ q ∈ ps, SlX.SCls K (ga K q.1) ∧ prB q.1 f K = true ∧ OkA tf P w K mg (prA K q.1 f) k q.2
theorem prF_nil {tf : List He.Defn} {P : Program} {w : World} {K : PySem.W.Frag} {mg : Str → Option Value} {f : Str} {k : Nat} : PrF tf P w K mg f k [] := fun _ h => nomatch h
theorem OkA.mono {tf : List He.Defn} {P : Program} {w : World} {K : PySem.W.Frag} {mg : Str → Option Value} {a : Addr} {j k : Nat} {fn : Fn} (o : OkA tf P w K mg a j fn) (h : j ≤ k) : OkA tf P w K mg a k fn := ⟨o.1, fun b t => (o.2 b t).mono h⟩
theorem prF_cons {tf : List He.Defn} {P : Program} {w : World} {K : PySem.W.Frag} {mg : Str → Option Value} {f : Str} {j k : Nat} {ps : List (Str × Fn)} {c : Str} {fn : Fn} (hc : SlX.SCls K (ga K c)) (hp : prB c f K = true) (o : OkA tf P w K mg (prA K c f) j fn) (hj : j ≤ k)
    (r : PrF tf P w K mg f k ps) : PrF tf P w K mg f k ((c, fn) :: ps) := fun q hq => by
  rcases List.mem_cons.mp hq with e | e
  · subst e
    exact ⟨hc, hp, o.mono hj⟩
  · exact r q e
theorem noEx_s {α β : Type} {K : PySem.W.Frag} {W W' : WX} {σ σ' : L2.St} {R : Md → α → β → Prop} {r : Res α} {m : Md} {Q : β → Hp → Prop} (h : Post K W σ R (noEx r) m Q) : Post K W' σ' R r m Q := by
  cases r with
  | ok a g => exact h
  | ex e g => exact h.elim
  | no => exact h
section
variable {X : Cx} {W : WX} {tf : List He.Defn} {tb : STab} {ps : List (Str × Fn)} {j k : Nat} {f : Str} {pos : Pos} {e : Expr} {ea : Ev}
theorem gd_in1 {A : Around} (h : Gd A) : Gd A.in1 := h
theorem getprop_g {C a dx p fa : Addr} {vs : List (Option V)} {n : Nat} {sp : Sp} {b : Bool} {Q : VK} {pins : List (Addr × Obj)} {σ : L2.St} {H : Hp} {s : Shared} (I : Inv X pins σ H s) (h : SlX.Slt H a C dx vs) (c : SlX.SCls X.K C) (at_ : PySem.W.findIn X.K (.ref C) f = some (some (.ref p))) (get : PySem.W.specialIn X.K (.ref p) "__get__" = some (some (.builtin "property.__get__")))
    (tk : PySem.W.takesIn X.K (.ref p) = some true) (rc : ∃ rest, PySem.W.recIn X.K p "property" = some (.ref fa :: rest)) (F : FnG X.prog X.w X.K X.mg X.base n fa sp) (hr : Room (n + 1) X.A) (gd : Gd X.A)
    (q : sp [.ref a] H Q fun _ _ _ => False) : wpAny (model X.prog X.w) X.A (getAttr (.ref a) f b) (EP X pins σ Q) X.xe s := by
  obtain ⟨sl, od, _, J, _⟩ := SlX.slt_inst I h
  obtain ⟨rest, hrec⟩ := rc
  have I1 : Inv X pins σ H { s with toks := s.toks + 1 } := I.tok (s.toks + 1)
  refine PySem.W.get_bind I.kIn J (PySem.W.plainGet_of (c.get f)).1 (PySem.W.findObj_data c.ic at_ get tk) (PySem.W.plainGet_of (c.get f)).2 (wpAny_call (PySem.W.prop_get (s := { s with toks := s.toks + 1 }) I.kIn hrec ?_))
  refine codeAny_mono (F X.A.in1 X.stack { s with toks := s.toks + 1 } H [.ref a] [.ref a] Q (fun _ _ _ => False) hr.in1 (gd_in1 gd) I1.env0.in1 (.cons rfl .nil) q) fun r s' hq => ?_
  match r, hq with
  | .error e, hq =>
    obtain ⟨_, _, _, _, _, _, _, _, _, _, _, _, z⟩ := hq
    exact z.elim
  | .ok (.ret u), hq =>
    obtain ⟨v, H', I2, rv, q⟩ := I1.after hq
    exact wpAny_of_eq (PySem.W.handedOut_of (handed_of rv)) ⟨v, H', I2, rv, q⟩
  | .ok .next, hq => exact hq.elim
  | .ok .brk, hq => exact hq.elim
  | .ok .cont, hq => exact hq.elim
theorem x_attr (F : SlF tb X.K) (PF : PrF tf X.prog X.w X.K X.mg f k ps) (TB : TbB X.base X.mg tf X.K) (gd : Gd X.A) (hr : Room j X.A) (hj : k + 1 ≤ j) (ha : PE X e (tE X.K W ea)) (hb : attributeBase e f X.env (eval e X.env) = eval e X.env := by rfl) :
    PE X (.Attribute e f pos) (tE X.K W (eAttr tb ps f ea)) := by
  refine ⟨fun pins s σ H Q I ⟨m, σ', g, rl, sl, hl, q⟩ => ?_⟩
  refine attr_of hb ?_
  have arg : tE X.K W ea σ H fun v H1 => ∃ m1 g1 d, Rel X.K m1 g1 H1 ∧ Den X.K m1 d v ∧ Post X.K W σ (Den X.K) (match fldOf tb f g1 d with
      | some e => .ok e g1
      | none => match insOf g1 d with
        | some c => match prOf ps c with
          | some fn => noEx (fn [d] g1)
          | none => .no
        | none => .no) m1 Q := ⟨m, σ', g, rl, sl, hl, Post.bind q fun d g1 m1 H1 v l1 r1 d1 p1 => ⟨m1, g1, d, r1, d1, p1⟩⟩
  refine thn (ha.run pins s σ H _ I arg) fun u s1 ⟨v, H1, I1, rv, m1, g1, d, r1, d1, p1⟩ => ?_
  split at p1
  · rename_i e' he
    obtain ⟨a, C, dx, p, vs, i, w, rfl, h1, h2, h3, h4, h5⟩ := fldOf_s F r1 d1 he
    obtain rfl : u = Value.ref a := rv
    exact SlX.getslot_ok I1 h1 h2 h3 h4 fun u' s2 I2 ru => ⟨w, H1, I2, ru, p1 m1 H1 w (Le.refl m1) r1 h5⟩
  · split at p1
    · rename_i c hc
      split at p1
      · rename_i fn hfn
        obtain ⟨a, dx, ws, rfl, h1⟩ := insOf_s r1 d1 hc
        obtain rfl : u = Value.ref a := rv
        obtain ⟨h2, h3, h4, h5⟩ := PF _ (prOf_mem hfn)
        obtain ⟨p, e1, e2, e3, e4⟩ := prB_s h3
        exact getprop_g I1 h1 h2 e1 e2 e3 e4 (h5 X.base TB) (hr.mono hj) gd ⟨m1, g1, [d], r1, .cons d1 .nil, noEx_s p1⟩
      · exact p1.elim
    · exact p1.elim
end
/-! ### methods -/
def MeF (tf : List He.Defn) (P : Program) (w : World) (K : PySem.W.Frag) (mg : Str → Option Value) (f : Str) (k : Nat) (ps : List (Str × Fn)) : Prop := ∀ q ∈ ps, SlX.SCls K (ga K q.1) ∧ Meth K (ga K q.1) f (He.ma K (ga K q.1) f) ∧ OkA tf P w K mg (He.ma K (ga K q.1) f) k q.2
theorem meF_nil {tf : List He.Defn} {P : Program} {w : World} {K : PySem.W.Frag} {mg : Str → Option Value} {f : Str} {k : Nat} : MeF tf P w K mg f k [] := fun _ h => nomatch h
theorem meF_cons {tf : List He.Defn} {P : Program} {w : World} {K : PySem.W.Frag} {mg : Str → Option Value} {f : Str} {j k : Nat} {ps : List (Str × Fn)} {c : Str} {fn : Fn} (hc : SlX.SCls K (ga K c)) (hp : Meth K (ga K c) f (He.ma K (ga K c) f)) (o : OkA tf P w K mg (He.ma K (ga K c) f) j fn) (hj : j ≤ k)
    (r : MeF tf P w K mg f k ps) : MeF tf P w K mg f k ((c, fn) :: ps) := fun q hq => by
  rcases List.mem_cons.mp hq with e | e
  · subst e
    exact ⟨hc, hp, o.mono hj⟩
  · exact r q e
def eOwnM (ps : List (Str × Fn)) (a : Ev) (t : Av) : Ev := fun σ g => (a σ g).bind fun d g1 => match insOf g1 d with
  | some c => match prOf ps c with
    | some fn => (t σ g1).bind fun ds g2 => fn (d :: ds) g2
    | none => .no
  | none => .no
section
variable {X : Cx} {W : WX} {tf : List He.Defn} {ps : List (Str × Fn)} {j k : Nat} {m : Str} {pos apos : Pos} {o e : Expr} {es : List Expr} {ea : Ev} {t : Av}
theorem x_meth {pl : Sem Bool} (MF : MeF tf X.prog X.w X.K X.mg m k ps) (TB : TbB X.base X.mg tf X.K) (gd : Gd X.A) (hr : Room j X.A) (hj : k ≤ j) (tk : Takes X W) (ho : PE X o (tE X.K W ea)) (ha : PA X (e :: es) (tA X.K W t))
    (hst : starEach (e :: es) X.env = (false, eval e X.env) :: starEach es X.env := by rfl) (hpl : (backTo pos (starEach es X.env)).any (·.1) = false := by rfl)
    (ht : eval (.Call (.Attribute o m apos) (e :: es) [] pos) X.env = (do
      let ov ← eval o X.env
      standAt apos.atName
      let (f, first) ← holding [ov] (getMethod ov m pl)
      callWith pos f first (backTo pos (starEach (e :: es) X.env)) (backToKw pos (keywordEach [] X.env))) := by rfl) :
    PE X (.Call (.Attribute o m apos) (e :: es) [] pos) (tE X.K W (eOwnM ps ea t)) := by
  refine ⟨fun pins s σ H Q I ⟨m0, σ', g, rl, sl, hl, q⟩ => ?_⟩
  have arg : tE X.K W ea σ H fun v H1 => ∃ m1 g1 d, Le m0 m1 ∧ Rel X.K m1 g1 H1 ∧ Den X.K m1 d v ∧ Post X.K W σ (Den X.K) (match insOf g1 d with
      | some c => match prOf ps c with
        | some fn => (t σ' g1).bind fun ds g2 => fn (d :: ds) g2
        | none => .no
      | none => .no) m1 Q := ⟨m0, σ', g, rl, sl, hl, Post.bind q fun d g1 m1 H1 v l1 r1 d1 p1 => ⟨m1, g1, d, l1, r1, d1, p1⟩⟩
  refine PySem.W.methodCall_KW (pl := pl) (thn (ho.run pins s σ H _ I arg) fun u s1 ⟨x, H1, I1, rx, m1, g1, d, l1, r1, d1, p1⟩ => ?_) ht
  split at p1
  · rename_i c hc
    split at p1
    · rename_i fn hfn
      obtain ⟨a, dx, ws, rfl, h1⟩ := insOf_s r1 d1 hc
      obtain rfl : u = Value.ref a := rx
      obtain ⟨h2, h3, h4, h5⟩ := MF _ (prOf_mem hfn)
      refine SlX.getmethsl_ok I1 h1 h2 h3 ?_
      have arg2 : tA X.K W t σ H1 fun vs H2 => spOf X.K fn (V.ref a :: vs) H2 Q (WE W σ) := ⟨m1, σ', g1, r1, sl.mono l1, hl, Post.bind p1 fun ds g2 m2 H2 vs l2 r2 d2 p2 => sp_call r2 (.cons (d1.mono l2) d2) p2⟩
      refine PySem.W.callWith_K (first := [.ref a]) (h₀ := X.base) I.ok.mod.kin h3.kp (thn (ha.run pos pins s1 σ H1 _ I1 arg2) fun us s2 ⟨ws2, H2, I2, r, q2⟩ => ⟨I2.kIn, ?_⟩) hst hpl
      exact run_g (us := .ref a :: us) (vs := .ref a :: ws2) (h5 X.base TB) (hr.mono hj) gd tk I2 (.cons rfl r) q2
    · exact p1.elim
  · exact p1.elim
theorem x_meth0 {pl : Sem Bool} (MF : MeF tf X.prog X.w X.K X.mg m k ps) (TB : TbB X.base X.mg tf X.K) (gd : Gd X.A) (hr : Room j X.A) (hj : k ≤ j) (tk : Takes X W) (ho : PE X o (tE X.K W ea))
    (ht : eval (.Call (.Attribute o m apos) [] [] pos) X.env = (do
      let ov ← eval o X.env
      standAt apos.atName
      let (f, first) ← holding [ov] (getMethod ov m pl)
      callWith pos f first (backTo pos (starEach [] X.env)) (backToKw pos (keywordEach [] X.env))) := by rfl) :
    PE X (.Call (.Attribute o m apos) [] [] pos) (tE X.K W (eOwnM ps ea aNil)) := by
  refine ⟨fun pins s σ H Q I ⟨m0, σ', g, rl, sl, hl, q⟩ => ?_⟩
  have arg : tE X.K W ea σ H fun v H1 => ∃ m1 g1 d, Rel X.K m1 g1 H1 ∧ Den X.K m1 d v ∧ Post X.K W σ (Den X.K) (match insOf g1 d with
      | some c => match prOf ps c with
        | some fn => fn [d] g1
        | none => .no
      | none => .no) m1 Q := ⟨m0, σ', g, rl, sl, hl, Post.bind q fun d g1 m1 H1 v l1 r1 d1 p1 => ⟨m1, g1, d, r1, d1, p1⟩⟩
  refine PySem.W.methodCall_KW (pl := pl) (thn (ho.run pins s σ H _ I arg) fun u s1 ⟨x, H1, I1, rx, m1, g1, d, r1, d1, p1⟩ => ?_) ht
  split at p1
  · rename_i c hc
    split at p1
    · rename_i fn hfn
      obtain ⟨a, dx, ws, rfl, h1⟩ := insOf_s r1 d1 hc
      obtain rfl : u = Value.ref a := rx
      obtain ⟨h2, h3, h4, h5⟩ := MF _ (prOf_mem hfn)
      refine SlX.getmethsl_ok I1 h1 h2 h3 ?_
      exact PySem.W.callWith_K0 (first := [.ref a]) I1.kIn h3.kp (run_g (us := [.ref a]) (vs := [.ref a]) (h5 X.base TB) (hr.mono hj) gd tk I1 (.cons rfl .nil) (sp_call r1 (.cons d1 .nil) p1))
    · exact p1.elim
  · exact p1.elim
end
end AW
/-! Bi2: instances: making, storing; isinstance with a tuple of classes; defaults. -/
namespace AW
open PySem PySem.Spec PyProof.Rows L2
/-! ### storing -/
def putD (i : Nat) (d : D) (fs : List (Option D)) : List (Option D) := (fs ++ List.replicate (i + 1 - fs.length) none).set i (some d)
theorem putD_len {i : Nat} {d : D} {fs : List (Option D)} : (putD i d fs).length = max fs.length (i + 1) := by
  unfold putD
  simp only [List.length_set, List.length_append, List.length_replicate]
  omega
theorem putS_len {i : Nat} {v : V} {vs : List (Option V)} : (SlX.putS i v vs).length = max vs.length (i + 1) := by
  unfold SlX.putS
  simp only [List.length_set, List.length_append, List.length_replicate]
  omega
theorem putD_ne {i j : Nat} {d e : D} {fs : List (Option D)} (h : j ≠ i) (q : (putD i d fs)[j]? = some (some e)) : fs[j]? = some (some e) := by
  unfold putD at q
  rw [List.getElem?_set_ne (Ne.symm h)] at q
  by_cases hj : j < fs.length
  · rwa [List.getElem?_append_left hj] at q
  · rw [List.getElem?_append_right (by omega), List.getElem?_replicate] at q
    split at q <;> cases q
theorem putD_same {i : Nat} {d e : D} {fs : List (Option D)} (q : (putD i d fs)[i]? = some (some e)) : e = d := by
  unfold putD at q
  rw [List.getElem?_set_self (by simp only [List.length_append, List.length_replicate]; omega)] at q
  exact (Option.some.inj (Option.some.inj q)).symm
theorem fldOk_put {K : PySem.W.Frag} {m : Md} {fs : List (Option D)} {ws : List (Option V)} {i : Nat} {d : D} {v : V} (h : FldOk K m fs ws) (hd : Den K m d v) : FldOk K m (putD i d fs) (SlX.putS i v ws) := fun j e q => by
  by_cases hj : j = i
  · subst hj
    rw [putD_same q]
    exact ⟨v, SlX.putS_get _ _ _, hd⟩
  · obtain ⟨w, h1, h2⟩ := h j e (putD_ne hj q)
    exact ⟨w, (SlX.putS_ne hj).mpr h1, h2⟩
def insSet (tb : STab) (f : Str) (k : Nat) (d : D) (g : G) (c : Str) (j : Nat) (fs : List (Option D)) : Option G := match sIx tb c f with
  | some i => some ((g.set j .xd).set k (.ins c j (putD i d fs)))
  | none => none
def putFld (tb : STab) (f : Str) (ov d : D) (g : G) : Option G := match ov with
  | .ref k => match g[k]? with
    | some (.new c j) => insSet tb f k d g c j []
    | some (.ins c j fs) => match g[j]? with
      | some .xd => insSet tb f k d g c j fs
      | _ => none
    | _ => none
  | _ => none
theorem insSet_s {tb : STab} {f : Str} {K : PySem.W.Frag} {m : Md} {g g' : G} {H : Hp} {k j : Nat} {d : D} {y : V} {c : Str} {fs : List (Option D)} {a dx : Addr} {ws : List (Option V)} (F : SlF tb K) (r : Rel K m g H) (hd : Den K m d y) (ha : m.r k = some a) (hx : m.r j = some dx)
    (hs : SlX.Slt H a (ga K c) dx ws) (hl : ws.length ≤ fs.length) (hf : FldOk K m fs ws) (q : insSet tb f k d g c j fs = some g') :
    ∃ C p i, SlX.Slt H a C dx ws ∧ SlX.SCls K C ∧ SlX.Slot1 K C f p i ∧ Rel K m g' (SlX.slH H a C dx (SlX.putS i y ws)) := by
  unfold insSet at q
  split at q
  · rename_i i hi
    cases q
    obtain ⟨h1, p, h2⟩ := F.at_ _ _ _ hi
    refine ⟨_, p, i, hs, h1, h2, ?_⟩
    have r2 := r.cellSet (c := .xd) (o := .xd []) hx rfl
    exact r2.cellSet (c := .ins c j (putD i d fs)) ha ⟨dx, _, rfl, hx, by rw [putS_len, putD_len]; omega, fldOk_put hf hd⟩
  · cases q
theorem putFld_s {tb : STab} {f : Str} {K : PySem.W.Frag} {m : Md} {g g' : G} {H : Hp} {ov d : D} {x y : V} (F : SlF tb K) (r : Rel K m g H) (ho : Den K m ov x) (hd : Den K m d y) (q : putFld tb f ov d g = some g') :
    ∃ a C dx p vs i, x = .ref a ∧ SlX.Slt H a C dx vs ∧ SlX.SCls K C ∧ SlX.Slot1 K C f p i ∧ Rel K m g' (SlX.slH H a C dx (SlX.putS i y vs)) := by
  unfold putFld at q
  split at q
  · rename_i k
    split at q
    · rename_i c j hk
      cases ho with
      | ref h1 =>
        obtain ⟨a', e1, _, o, e2, dx, e3, e4⟩ := r.cell _ _ hk
        rw [h1] at e1
        cases e1
        subst e3
        obtain ⟨C, p, i, q1, q2, q3, q4⟩ := insSet_s F r hd h1 e4 (.inl ⟨e2, rfl⟩) (Nat.le_refl _) (fun i d z => by simp at z) q
        exact ⟨_, C, dx, p, _, i, rfl, q1, q2, q3, q4⟩
    · rename_i c j fs hk
      split at q
      · rename_i hx
        obtain ⟨a, dx, ws, rfl, h1, h2, _, h3, h4, h5⟩ := cell_slt r ho hk hx
        obtain ⟨C, p, i, q1, q2, q3, q4⟩ := insSet_s F r hd h1 h2 h3 h4 h5 q
        exact ⟨_, C, dx, p, _, i, rfl, q1, q2, q3, q4⟩
      · cases q
    · cases q
  · cases q
/-- o.f = e -/
def sFld (tb : STab) (f : Str) (o e : Ev) : Sx := fun σ g => sBind σ (e σ g) fun d g1 => sBind σ (o σ g1) fun ov g2 => match putFld tb f ov d g2 with
  | some g3 => .nx σ g3
  | none => .no
section
variable {X : Cx} {W : WX} {tb : STab} {f : Str} {pos pos' : Pos} {o value : Expr} {eo ev : Ev}
theorem s_fld (F : SlF tb X.K) (ho : PE X o (tE X.K W eo)) (hv : PE X value (tE X.K W ev)) (hs : swapsWith value (some (.Attribute o f pos')) pos.line X.env = pure false := by rfl) : PS X (.Assign [.Attribute o f pos'] value pos) (tS X.K W (sFld tb f eo ev)) :=
  PS.imp (SlX.ps_sl ho hv hs) fun D' σ H h => by
    obtain ⟨m, σ', g, rl, sl, p⟩ := h
    refine ⟨m, σ', g, rl, sl.1, sl.2, sBind_s sl p fun d g1 m1 H1 y l1 r1 d1 p1 => ?_⟩
    refine ⟨m1, σ', g1, r1, (sl.mono l1).1, sl.2, sBind_s (sl.mono l1) p1 fun ov g2 m2 H2 x l2 r2 d2 p2 => ?_⟩
    split at p2
    · rename_i g3 h3
      obtain ⟨a, C, dx, q, vs, i, e1, e2, e3, e4, e5⟩ := putFld_s F r2 d2 (d1.mono l2) h3
      exact ⟨a, C, dx, q, vs, i, e1, e2, e3, e4, p2 m2 _ σ (Le.refl m2) e5 ((sl.mono l1).mono l2)⟩
    · exact p2.elim
end
/-! ### making -/
def eMakeF (c : Str) (fn : Fn) : Fn := fun ds g => match fn (.ref (g.length + 1) :: ds) (g ++ [.own] ++ [.new c g.length]) with
  | .ok .non g' => settle g.length (.ref (g.length + 1)) g'
  | .ex e g' => settleX g.length e g'
  | _ => .no
theorem gd_make {A : Around} {C : Addr} {us : List Value} {kw : List (Str × Value)} (h : Gd A) : Gd (A.under (.builtin "type.__call__" ⟨.ref C :: us, kw⟩)) := by
  unfold Gd at *
  rw [← h]
  first | rfl | simp [Around.under, Code.guards, Code.isGuard, pushGuards]
section
variable {X : Cx} {W : WX} {tf : List He.Defn} {j k : Nat} {c x : Str} {fn : Fn} {p pos : Pos} {e : Expr} {es : List Expr} {t : Av}
theorem run_makeG {C f : Addr} {sp : Sp} {pins : List (Addr × Obj)} {σ : L2.St} {H : Hp} {s : Shared} {Q : VK} {us : List Value} {vs : List V} (M : Mk X.K C f) (F : FnG X.prog X.w X.K X.mg X.base k f sp) (hr : Room (k + 1) X.A) (gd : Gd X.A) (tk : Takes X W) (I : Inv X pins σ H s) (r : Vals vs us)
    (h : ∀ x dx, H x = Option.none → H dx = Option.none → dx ≠ x → sp (V.ref x :: vs) (upd (upd H dx (.own x)) x (.ins C dx [])) (fun v H2 => v = .non ∧ Q (.ref x) H2) (WE W σ)) :
    wpAny (model X.prog X.w) X.A (call (.ref C) us) (EP X pins σ Q) X.xe s := by
  have hq := h (s.heap.objs.size + 1) s.heap.objs.size (I.hok.fresh (Nat.le_succ _)) (I.hok.fresh (Nat.le_refl _)) (Nat.ne_of_lt (Nat.lt_succ_self _))
  have I2 := Inv.made (C := C) I
  have r2 : Vals (V.ref (s.heap.objs.size + 1) :: vs) (Value.ref (s.heap.objs.size + 1) :: us) := .cons rfl r
  refine wpAny_call (make_map (f := f) I.kIn M.makes M.init (beq_iff_eq.mp M.fn) (codeAny_mono (F _ X.stack _ _ (Value.ref (s.heap.objs.size + 1) :: us) _ _ _ (hr.make C us []) (gd_make gd) (I2.env0.make C us []) r2 hq) fun r s' hq' => ?_))
  match r, hq' with
  | .error e, hq' => exact passAt tk σ pins _ _ e s' I2 hq'
  | .ok (.ret u), hq' =>
    obtain ⟨v, H', I3, rv, ev, q3⟩ := I2.after hq'
    subst ev
    exact ⟨rv, ⟨V.ref (s.heap.objs.size + 1), H', I3, rfl, q3⟩⟩
  | .ok .next, hq' => exact hq'.elim
  | .ok .brk, hq' => exact hq'.elim
  | .ok .cont, hq' => exact hq'.elim
theorem sp_make {K : PySem.W.Frag} {σ : L2.St} {m : Md} {g : G} {H : Hp} {ds : List D} {vs : List V} {Q : VK} (r : Rel K m g H) (d : Dens K m ds vs) (h : Post K W σ (Den K) (eMakeF c fn ds g) m Q) (x dx : Addr) (hx : H x = none) (hd : H dx = none) (hne : dx ≠ x) :
    spOf K fn (V.ref x :: vs) (upd (upd H dx (.own x)) x (.ins (ga K c) dx [])) (fun v H2 => v = .non ∧ Q (.ref x) H2) (WE W σ) := by
  have r1 : Rel K (m.cell g.length dx) (g ++ [.own]) (upd H dx (.own x)) := r.cellAdd hd ⟨x, rfl⟩
  have hx1 : upd H dx (.own x) x = none := by rw [upd_ne (Ne.symm hne)]; exact hx
  have hrd : (m.cell g.length dx).r g.length = some dx := if_pos rfl
  have r2 : Rel K ((m.cell g.length dx).cell (g ++ [Cell.own]).length x) (g ++ [.own] ++ [.new c g.length]) (upd (upd H dx (.own x)) x (.ins (ga K c) dx [])) := r1.cellAdd hx1 ⟨dx, rfl, hrd⟩
  have l1 : Le m (m.cell g.length dx) := le_cell r.fresh
  have l2 : Le (m.cell g.length dx) ((m.cell g.length dx).cell (g ++ [Cell.own]).length x) := le_cell r1.fresh
  have hlen : (g ++ [Cell.own]).length = g.length + 1 := by simp
  have hself : ((m.cell g.length dx).cell (g ++ [Cell.own]).length x).r (g.length + 1) = some x := by
    rw [← hlen]
    exact if_pos rfl
  refine ⟨_, _, .ref (g.length + 1) :: ds, r2, .cons (.ref hself) (d.mono (l1.trans l2)), ?_⟩
  unfold eMakeF at h
  cases hf : fn (.ref (g.length + 1) :: ds) (g ++ [.own] ++ [.new c g.length]) with
  | no => rw [hf] at h; exact h.elim
  | ex e g2 =>
    rw [hf] at h
    exact fun m' H' cv dd l r' hd' => settleX_s r ((l1.trans l2).trans l) r' hd' h
  | ok d2 g2 =>
    rw [hf] at h
    cases d2 with
    | non =>
      refine fun m' H' v l r' hd' => ?_
      cases hd'
      exact ⟨rfl, settle_s r ((l1.trans l2).trans l) r' (.ref (l.r _ _ hself)) h⟩
    | _ => exact h.elim
theorem x_make (M : Mk X.K (ga X.K c) (He.ma X.K (ga X.K c) "__init__")) (o : OkA tf X.prog X.w X.K X.mg (He.ma X.K (ga X.K c) "__init__") k fn) (TB : TbB X.base X.mg tf X.K) (gd : Gd X.A) (hr : Room j X.A) (hj : k + 1 ≤ j) (tk : Takes X W) (hg : Gl X c) (hm : X.mg c = some (.ref (ga X.K c)))
    (ha : PA X (e :: es) (tA X.K W t)) (hdb : (c == ("__debug__" : Str)) = false := by decide) (he : starEach (e :: es) X.env = (false, eval e X.env) :: starEach es X.env := by rfl) (hpl : (backTo pos (starEach es X.env)).any (·.1) = false := by rfl) :
    PE X (.Call (.Name c p) (e :: es) [] pos) (tE X.K W (eCall (eMakeF c fn) t)) := by
  refine ⟨fun pins s σ H Q J ⟨m, σ', g, rl, sl, hl, q⟩ => wpAny_Call_Name_kw (ld_glob J hg hm ?_ hdb)⟩
  have arg : tA X.K W t σ H fun vs H1 => ∀ x dx, H1 x = none → H1 dx = none → dx ≠ x → spOf X.K fn (V.ref x :: vs) (upd (upd H1 dx (.own x)) x (.ins (ga X.K c) dx [])) (fun v H2 => v = .non ∧ Q (.ref x) H2) (WE W σ) :=
    ⟨m, σ', g, rl, sl, hl, Post.bind q fun ds g1 m1 H1 vs l1 r1 d1 p1 => sp_make r1 d1 p1⟩
  refine PySem.W.callWith_K (h₀ := X.base) J.ok.mod.kin M.kp (thn (ha.run pos pins s σ H _ J arg) fun us s1 ⟨vs, H1, J1, r, q1⟩ => ⟨J1.kIn, ?_⟩) he hpl
  exact run_makeG M (o.2 X.base TB) (hr.mono hj) gd tk J1 r q1
theorem x_make0 (M : Mk X.K (ga X.K c) (He.ma X.K (ga X.K c) "__init__")) (o : OkA tf X.prog X.w X.K X.mg (He.ma X.K (ga X.K c) "__init__") k fn) (TB : TbB X.base X.mg tf X.K) (gd : Gd X.A) (hr : Room j X.A) (hj : k + 1 ≤ j) (tk : Takes X W) (hg : Gl X c) (hm : X.mg c = some (.ref (ga X.K c)))
    (hdb : (c == ("__debug__" : Str)) = false := by decide) :
    PE X (.Call (.Name c p) [] [] pos) (tE X.K W (eCall (eMakeF c fn) aNil)) := by
  refine ⟨fun pins s σ H Q J ⟨m, σ', g, rl, sl, hl, q⟩ => wpAny_Call_Name_kw (ld_glob J hg hm ?_ hdb)⟩
  exact PySem.W.callWith_K0 J.kIn M.kp (run_makeG (us := []) M (o.2 X.base TB) (hr.mono hj) gd tk J .nil (sp_make rl .nil q))
end
/-! ### isinstance with a tuple of classes -/
def isiOfs (own : List Str) (g : G) (d : D) : List CK → Option Bool
  | [] => some false
  | ck :: r => match isiOf own g ck d with
    | some true => some true
    | some false => isiOfs own g d r
    | none => none
def eIsiT (own : List Str) (cks : List CK) (a : Ev) : Ev := fun σ g => (a σ g).bind fun d g1 => match isiOfs own g1 d cks with
  | some b => .ok (.bl b) g1
  | none => .no
/-- isinstance(x, (c1, ..)), x an instance with slots -/
def rIsiTSl (K : PySem.W.Frag) : List V → Hp → VK → Prop := fun xs H Q => ∃ (a C dx : Addr) (vs : List (Option V)) (tp : Addr) (cs : List V) (us : List Value) (b : Bool), xs = [V.ref a, .ref tp] ∧ H tp = some (.tup cs) ∧ Paired ClsV cs us ∧ SlX.Slt H a C dx vs ∧ SlX.SCls K C ∧ SlX.SIsi K C ∧
  PySem.W.kitAny K (.ref C) us = some b ∧ Q (.bl b) H
theorem call_isiTSl {X : Cx} : CallR X (.builtin "isinstance") (rIsiTSl X.K) := by
  intro pins s σ H xs us Q I r h
  obtain ⟨a, C, dx, vs, tp, cs, ws, b, rfl, hT, k, hsl, hc, hi, e, q⟩ := h
  obtain ⟨u1, u2, rfl, r1, r2⟩ := r.two
  cases (show u1 = Value.ref a from r1)
  cases (show u2 = Value.ref tp from r2)
  obtain ⟨_, its, rv, o, h1, h2, n, h3⟩ := (show ObjOk X.prog X.w H s.heap tp (.tup cs) from I.hok tp _ hT)
  have e3 := ClsV.all k rv
  subst e3
  obtain ⟨oc, od, dt, sl⟩ := o
  simp only at h2 h3
  subst h2 h3
  obtain ⟨sl', od', _, J, _⟩ := SlX.slt_inst I hsl
  exact PySem.W.kia_tup (OwX.kitx_slt hc.ic (hc.get _) hi.ca hi.cn hi.ct hi.cm) I.kIn J h1 e (fun z => nomatch z) fun tk => ⟨.bl b, H, I.tok tk, rfl, q⟩
theorem cks_pair (K : PySem.W.Frag) : ∀ cks : List CK, Paired ClsV (cks.map (CK.v K)) (cks.map (CK.u K))
  | [] => .nil
  | ck :: r => .cons (CK.clsV K ck) (cks_pair K r)
def tCks (K : PySem.W.Frag) (cks : List CK) : TA := fun _ H Q => Q (cks.map (CK.v K)) H
theorem cks_nil {X : Cx} : PA X [] (tCks X.K []) := pa_nil
theorem cks_cons {X : Cx} {a : Expr} {es : List Expr} {ck : CK} {cks : List CK} (h : PE X a (tC (ck.v X.K))) (hr : PA X es (tCks X.K cks)) (he : starEach (a :: es) X.env = (false, eval a X.env) :: starEach es X.env := by rfl) : PA X (a :: es) (tCks X.K (ck :: cks)) := pa_cons h hr he
section
variable {X : Cx} {W : WX} {own : List Str} {a : Expr} {es : List Expr} {ea : Ev} {p pos pt : Pos}
theorem isiOfs_ins {K : PySem.W.Frag} {g : G} {d : D} {c : Str} (I : IsF own K) (hc : insOf g d = some c) (hin : c ∈ own) : ∀ {cks : List CK} {b : Bool}, isiOfs own g d cks = some b → PySem.W.kitAny K (.ref (ga K c)) (cks.map (CK.u K)) = some b
  | [], b, e => e
  | ck :: r, b, e => by
    have one : ∀ b', isiOf own g ck d = some b' → PySem.W.kitOne K (.ref (ga K c)) (ck.u K) = some b' := fun b' hb => by
      unfold isiOf at hb
      rw [hc] at hb
      dsimp only at hb
      rw [if_pos hin] at hb
      cases ck with
      | bt k => cases hb; exact I.ob c hin k
      | own c' =>
        dsimp only at hb
        split at hb
        · rename_i hin'
          cases hb
          exact I.oo c hin c' hin'
        · cases hb
    unfold isiOfs at e
    split at e
    · rename_i hb
      cases e
      exact kitAny_cons (one _ hb) (fun z => nomatch z) fun _ => rfl
    · rename_i hb
      exact kitAny_cons (one _ hb) (fun _ => isiOfs_ins I hc hin e) fun z => nomatch z
    · cases e
theorem isiOfs_bt {K : PySem.W.Frag} {g : G} {d : D} {k : TK} (I : IsF own K) (hn : insOf g d = none) (hk : tkOf g d = some k) : ∀ {cks : List CK} {b : Bool}, isiOfs own g d cks = some b → PySem.W.kitAny K (.type k.name) (cks.map (CK.u K)) = some b
  | [], b, e => e
  | ck :: r, b, e => by
    have one : ∀ b', isiOf own g ck d = some b' → PySem.W.kitOne K (.type k.name) (ck.u K) = some b' := fun b' hb => by
      unfold isiOf at hb
      rw [hn, hk] at hb
      dsimp only at hb
      cases ck with
      | bt j => cases hb; exact TK.kit K k j
      | own c' =>
        dsimp only at hb
        split at hb
        · rename_i hin'
          cases hb
          exact I.bo c' hin' k
        · cases hb
    unfold isiOfs at e
    split at e
    · rename_i hb
      cases e
      exact kitAny_cons (one _ hb) (fun z => nomatch z) fun _ => rfl
    · rename_i hb
      exact kitAny_cons (one _ hb) (fun _ => isiOfs_bt I hn hk e) fun z => nomatch z
    · cases e
/-- the head of a tuple of classes tells what stands at the first test -/
theorem isiOf_case {g : G} {d : D} {ck : CK} {b : Bool} (e : isiOf own g ck d = some b) : (∃ c, insOf g d = some c ∧ c ∈ own) ∨ (insOf g d = none ∧ ∃ k, tkOf g d = some k) := by
  unfold isiOf at e
  split at e
  · rename_i c hc
    split at e
    · rename_i hin
      exact .inl ⟨c, hc, hin⟩
    · cases e
  · rename_i hc
    split at e
    · rename_i k hk
      exact .inr ⟨hc, k, hk⟩
    · cases e
theorem x_isiT (ck : CK) (cks : List CK) {k1} (I : IsF own X.K) (hg : Gl X "isinstance") (hm : X.mg "isinstance" = none) (h2 : PA X es (tCks X.K (ck :: cks))) (ha : PE X a (tE X.K W ea)) (hz : cks.length < 60 := by decide)
    (he : starEach [a, .Tuple es k1 pt] X.env = (false, eval a X.env) :: starEach [.Tuple es k1 pt] X.env := by rfl) (he2 : starEach [.Tuple es k1 pt] X.env = (false, eval (.Tuple es k1 pt) X.env) :: starEach [] X.env := by rfl) (hpl : (backTo pos (starEach [.Tuple es k1 pt] X.env)).any (·.1) = false := by rfl) :
    PE X (.Call (.Name "isinstance" p) [a, .Tuple es k1 pt] [] pos) (tE X.K W (eIsiT own (ck :: cks) ea)) :=
  PE.imp (pe_callB (callR_or call_isiT call_isiTSl) hg hm PyProof.Rows.boot_isinstance (pa_cons ha (pa_cons (pe_tup h2) pa_nil he2) he) (by decide) (by decide) he hpl) fun σ H Q h => by
    obtain ⟨m, σ', g, rl, sl, hl, q⟩ := h
    refine ⟨m, σ', g, rl, sl, hl, Post.bind q fun d g1 m1 H1 v l1 r1 d1 p1 => ?_⟩
    have hz2 : (60 : Nat) < sizeLine := by decide
    refine ⟨by rw [List.length_map, List.length_cons]; omega, fun tp htp => ?_⟩
    have r2 : Rel X.K (m1.hide tp (.tup ((ck :: cks).map (CK.v X.K)))) g1 (upd H1 tp (.tup ((ck :: cks).map (CK.v X.K)))) := r1.hide htp
    have l2 : Le m1 (m1.hide tp (.tup ((ck :: cks).map (CK.v X.K)))) := le_hide (r1.hfree htp)
    split at p1
    · rename_i b hb
      have fin := p1 _ _ (.bl b) l2 r2 .bl
      have hb0 : ∃ b0, isiOf own g1 ck d = some b0 := by
        unfold isiOfs at hb
        split at hb
        · rename_i z; exact ⟨_, z⟩
        · rename_i z; exact ⟨_, z⟩
        · cases hb
      obtain ⟨b0, hb0⟩ := hb0
      rcases isiOf_case hb0 with ⟨c, hc, hin⟩ | ⟨hn, k, hk⟩
      · obtain ⟨x, dx, ws, rfl, hs⟩ := insOf_s r2 (d1.mono l2) hc
        exact .inr ⟨x, ga X.K c, dx, ws, tp, _, _, b, rfl, upd_same, cks_pair X.K _, hs, I.sc c hin, I.si c hin, isiOfs_ins I hc hin hb, fin⟩
      · exact .inl ⟨v, tp, _, _, _, b, rfl, upd_same, cks_pair X.K _, tkOf_s r2 (d1.mono l2) hk, isiOfs_bt I hn hk hb, fin⟩
    · exact p1.elim
end
end AW
/-! Bi3: defs with one default; the reach of methods. -/
namespace AW
open PySem PySem.Spec PyProof.Rows L2
section
variable {P : Program} {w : World} {K : PySem.W.Frag} {mg : Str → Option Value} {base : Heap} {x qual : Str} {params : Arguments} {body : List Stmt} {scope : Scope} {dv : V} {kws : List (Str × V)} {f : Addr} {fd : FuncData}
theorem fn_anyF {N ps : List Str} {n k : Nat} {b : Sx} {fn : Fn} {d : D} (F : FunD K x qual params body scope [dv] kws f fd) (S : FnScope N ps scope)
    (hN : ∀ ds g, ds.length ≠ n → fn ds g = .no) (hn : ps.length = n) (hdv : ∀ m, Den K m d dv)
    (hb1 : ∀ (T : Addr) (kV doc pm : Value) (an : Option Addr) (cdv ct : Value) (us its : List Value), us.length + 1 = ps.length → its.length = 1 →
      ∃ k, bindArgs (PySem.W.fnOf x qual params body scope (.ref T) kV doc pm an cdv ct) ⟨us, []⟩ = seqItems? (.ref T) >>= k ∧ k (some its.toArray) = pure (ps.zip (us ++ its)))
    (hb0 : ∀ (T : Addr) (kV doc pm : Value) (an : Option Addr) (cdv ct : Value) (us its : List Value), us.length = ps.length → its.length = 1 →
      ∃ k, bindArgs (PySem.W.fnOf x qual params body scope (.ref T) kV doc pm an cdv ct) ⟨us, []⟩ = seqItems? (.ref T) >>= k ∧ k (some its.toArray) = pure (ps.zip us))
    (hb : BodyOk P w K mg base N qual scope f body k b)
    (hf : ∀ ds g, ds.length = n → ∀ (E : XK) (m : Md) (Q : VK) (H0 : Hp), Rel K m g H0 → Post K (WF E) [] (Den K) (fn ds g) m Q → PostS K (WF E) (b (ds.map some ++ List.replicate (N.length - n) none) g) m { nx := fun _ H' => Q .non H', rt := Q }) :
    FnG P w K mg base (k + 1) f (spOf K (callF n [d] fn)) := fun A out s H us vs Q E hr hg e0 r h => by
  obtain ⟨oc, od, dV, kV, doc, pm, an, cd, ct, osl, rfl, lk, hcd, hD, _⟩ := F.ex
  have KX : K.In s.heap := e0.mod.kin.keeps fun b o e => (e0.bs b o e).1
  rcases hD with ⟨e, _⟩ | ⟨_, T, o, its, mm, rfl, lT, oT, rT⟩
  · cases e
  have hits : its.length = 1 := rT.length.symm
  obtain ⟨m, g, ds, rl, hd, p⟩ := h
  unfold callF fillD at p
  have hdv' : ds.length = vs.length := hd.length
  have hus : vs.length = us.length := r.length
  by_cases hl : ds.length < n
  · rw [if_pos hl] at p
    have hz : ds.length + [d].length - n = 0 := by simp; omega
    rw [hz, List.drop_zero] at p
    by_cases h1 : (ds ++ [d]).length = n
    · have h1' : ds.length + 1 = n := by simpa using h1
      have hu1 : us.length + 1 = ps.length := by omega
      have hd2 : Dens K m (ds ++ [d]) (vs ++ [dv]) := hd.append (.cons (hdv m) .nil)
      obtain ⟨kk, e1, e2⟩ := hb1 T kV doc pm an cd ct us its hu1 hits
      have bind : BindsTo s (PySem.W.fnOf x qual params body scope (.ref T) kV doc pm an cd ct) ⟨us, []⟩ (ps.zip (us ++ its)) := BindsTo.of_looks fun M => by
        rw [e1]
        exact looks_items KX lT oT (.of_pure e2)
      refine LamX.run_ofS lk hcd S hr e0 bind (r.append rT) (by rw [List.length_append, ← hd.length, hn]; simpa using h1) fun hr' => ?_
      exact ⟨_, hb cd A out s H E hr' hg, m, (ds ++ [d]).map some ++ List.replicate (N.length - n) none, g, rl, slots_start hd2 h1, hf _ g h1 E m Q H rl p⟩
    · rw [hN _ g h1] at p
      exact p.elim
  · rw [if_neg hl] at p
    by_cases h1 : ds.length = n
    · have hu1 : us.length = ps.length := by omega
      obtain ⟨kk, e1, e2⟩ := hb0 T kV doc pm an cd ct us its hu1 hits
      have bind : BindsTo s (PySem.W.fnOf x qual params body scope (.ref T) kV doc pm an cd ct) ⟨us, []⟩ (ps.zip us) := BindsTo.of_looks fun M => by
        rw [e1]
        exact looks_items KX lT oT (.of_pure e2)
      refine LamX.run_ofS lk hcd S hr e0 bind r (by omega) fun hr' => ?_
      exact ⟨_, hb cd A out s H E hr' hg, m, ds.map some ++ List.replicate (N.length - n) none, g, rl, slots_start hd h1, hf ds g h1 E m Q H rl p⟩
    · rw [hN ds g h1] at p
      exact p.elim
theorem fn_okFK {N ps : List Str} {n k : Nat} {b : Sx} {d : D} (F : FunD K x qual params body scope [dv] kws f fd) (S : FnScope N ps scope) (hn : ps.length = n) (hdv : ∀ m, Den K m d dv)
    (hb1 : ∀ (T : Addr) (kV doc pm : Value) (an : Option Addr) (cdv ct : Value) (us its : List Value), us.length + 1 = ps.length → its.length = 1 →
      ∃ k, bindArgs (PySem.W.fnOf x qual params body scope (.ref T) kV doc pm an cdv ct) ⟨us, []⟩ = seqItems? (.ref T) >>= k ∧ k (some its.toArray) = pure (ps.zip (us ++ its)))
    (hb0 : ∀ (T : Addr) (kV doc pm : Value) (an : Option Addr) (cdv ct : Value) (us its : List Value), us.length = ps.length → its.length = 1 →
      ∃ k, bindArgs (PySem.W.fnOf x qual params body scope (.ref T) kV doc pm an cdv ct) ⟨us, []⟩ = seqItems? (.ref T) >>= k ∧ k (some its.toArray) = pure (ps.zip us))
    (hb : BodyOk P w K mg base N qual scope f body k b) : FnG P w K mg base (k + 1) f (spOf K (callF n [d] (callK n N.length b))) :=
  fn_anyF F S callK_no hn hdv hb1 hb0 hb fun ds g hl E m Q H rl p => by
    unfold callK at p
    rw [if_pos hl] at p
    cases hr' : b (ds.map some ++ List.replicate (N.length - n) none) g with
    | nx σ g' => rw [hr'] at p; exact fun m' H' σv l r sl => p m' H' .non l r .non
    | rt d g' => rw [hr'] at p; exact fun m' H' v l r hd => p m' H' v l r hd
    | ex σ e g' => rw [hr'] at p; exact fun m' H' σv cv dd l r sl hd => settleX_s rl l r hd p
    | bk σ g' => rw [hr'] at p; exact p.elim
    | ct σ g' => rw [hr'] at p; exact p.elim
    | no => rw [hr'] at p; exact p.elim
theorem fn_okFD {N ps : List Str} {n k : Nat} {b : Sx} {d : D} (F : FunD K x qual params body scope [dv] kws f fd) (S : FnScope N ps scope) (hn : ps.length = n) (hdv : ∀ m, Den K m d dv)
    (hb1 : ∀ (T : Addr) (kV doc pm : Value) (an : Option Addr) (cdv ct : Value) (us its : List Value), us.length + 1 = ps.length → its.length = 1 →
      ∃ k, bindArgs (PySem.W.fnOf x qual params body scope (.ref T) kV doc pm an cdv ct) ⟨us, []⟩ = seqItems? (.ref T) >>= k ∧ k (some its.toArray) = pure (ps.zip (us ++ its)))
    (hb0 : ∀ (T : Addr) (kV doc pm : Value) (an : Option Addr) (cdv ct : Value) (us its : List Value), us.length = ps.length → its.length = 1 →
      ∃ k, bindArgs (PySem.W.fnOf x qual params body scope (.ref T) kV doc pm an cdv ct) ⟨us, []⟩ = seqItems? (.ref T) >>= k ∧ k (some its.toArray) = pure (ps.zip us))
    (hb : BodyOk P w K mg base N qual scope f body k b) : FnG P w K mg base (k + 1) f (spOf K (callF n [d] (callD n N.length b))) :=
  fn_anyF F S callD_no hn hdv hb1 hb0 hb fun ds g hl E m Q H rl p => by
    unfold callD at p
    rw [if_pos hl] at p
    cases hr' : b (ds.map some ++ List.replicate (N.length - n) none) g with
    | nx σ g' => rw [hr'] at p; exact fun m' H' σv l r sl => settle_s rl l r .non p
    | rt d g' => rw [hr'] at p; exact fun m' H' v l r hd => settle_s rl l r hd p
    | ex σ e g' => rw [hr'] at p; exact fun m' H' σv cv dd l r sl hd => settleX_s rl l r hd p
    | bk σ g' => rw [hr'] at p; exact p.elim
    | ct σ g' => rw [hr'] at p; exact p.elim
    | no => rw [hr'] at p; exact p.elim
end
/-- what the classes zs reach in two steps, their defs ms and getters ps in two more -/
def asM (xs ys zs : List Str) (ms ps : List (Str × Str)) : Reach := fun g =>
  let c := growN g 2 (rootsN g zs)
  let K1 := He.frT g (mainGlobals :: c)
  asN xs ys g ++ (c ++ growN g 2 ((ms.map fun q => He.ma K1 (ga K1 q.1) q.2) ++ ps.map fun q => prA K1 q.1 q.2))
end AW
/-! Bi4: operators by own dunders: x op y (y of the same class or a whole number), -x. -/
namespace AW
open PySem PySem.Spec PyProof.Rows L2
/-- x op y: x an instance of c, y one of c or an int -/
def oOwn (ps : List (Str × Fn)) (f : Op2) : Op2 := fun x y g => match insOf g x with
  | some c => match prOf ps c with
    | some fn => match y with
      | .int _ => noEx (fn [x, y] g)
      | y => match insOf g y with
        | some c' => if c = c' then noEx (fn [x, y] g) else .no
        | none => .no
    | none => .no
  | none => f x y g
def bopB (c : Str) (nm : String) (K : PySem.W.Frag) : Bool := PySem.W.selfFirst K (ga K c) && (decide (PySem.W.findIn K (.ref (ga K c)) (PySem.dunder nm) = some (some (.ref (He.ma K (ga K c) (PySem.dunder nm))))) && (PySem.W.isFn K (.ref (He.ma K (ga K c) (PySem.dunder nm))) &&
  (decide (PySem.W.findIn K (.ref (ga K c)) (dunderR nm) = some none) && ((PySem.W.findIn K (.type "int") (PySem.dunder nm)).isSome && ((PySem.W.findIn K (.type "int") (dunderR nm)).isSome && decide (PySem.W.subIn K (.type "int") (.ref (ga K c)) = some false))))))
def BoF (tf : List He.Defn) (P : Program) (w : World) (K : PySem.W.Frag) (mg : Str → Option Value) (nm : String) (k : Nat) (ps : List (Str × Fn)) : Prop := ∀ q ∈ ps, bopB q.1 nm K = true ∧ OkA tf P w K mg (He.ma K (ga K q.1) (PySem.dunder nm)) k q.2
theorem boF_nil {tf : List He.Defn} {P : Program} {w : World} {K : PySem.W.Frag} {mg : Str → Option Value} {nm : String} {k : Nat} : BoF tf P w K mg nm k [] := fun _ h => nomatch h
theorem boF_cons {tf : List He.Defn} {P : Program} {w : World} {K : PySem.W.Frag} {mg : Str → Option Value} {nm : String} {j k : Nat} {ps : List (Str × Fn)} {c : Str} {fn : Fn} (hp : bopB c nm K = true) (o : OkA tf P w K mg (He.ma K (ga K c) (PySem.dunder nm)) j fn) (hj : j ≤ k)
    (r : BoF tf P w K mg nm k ps) : BoF tf P w K mg nm k ((c, fn) :: ps) := fun q hq => by
  rcases List.mem_cons.mp hq with e | e
  · subst e
    exact ⟨hp, o.mono hj⟩
  · exact r q e
/-- what the operator is told of -/
def rOwnB (K : PySem.W.Frag) (tf : List He.Defn) (ps : List (Str × Fn)) : R2 := fun x y H Q => ∃ a c fn dx vs, x = .ref a ∧ prOf ps c = some fn ∧ SlX.Slt H a (ga K c) dx vs ∧ ((∃ i, y = .int i) ∨ ∃ b dy ws, y = .ref b ∧ SlX.Slt H b (ga K c) dy ws) ∧ spOf K fn [x, y] H Q fun _ _ _ => False
section
variable {X : Cx} {W : WX} {tf : List He.Defn} {ps : List (Str × Fn)} {j k : Nat} {op : Operator}
/-- a call that lets nothing out -/
theorem run_q {f : Addr} {sp : Sp} {pins : List (Addr × Obj)} {σ : L2.St} {H : Hp} {s : Shared} {Q : VK} {us : List Value} {vs : List V} (F : FnG X.prog X.w X.K X.mg X.base k f sp) (hr : Room k X.A) (gd : Gd X.A) (J : Inv X pins σ H s) (r : Vals vs us) (h : sp vs H Q fun _ _ _ => False) :
    wpAny (model X.prog X.w) X.A (call (.ref f) us) (EP X pins σ Q) X.xe s := by
  have c := F X.A X.stack s H us vs Q (fun _ _ _ => False) hr gd J.env0 r h
  refine wpAny_call (codeAny_mono c fun z s' hz => ?_)
  match z, hz with
  | .error e, hz =>
    obtain ⟨_, _, _, _, _, _, _, _, _, _, _, _, z⟩ := hz
    exact z.elim
  | .ok (.ret u), hz => exact J.after hz
  | .ok .next, hz => exact hz.elim
  | .ok .brk, hz => exact hz.elim
  | .ok .cont, hz => exact hz.elim
theorem op_ownB (BF : BoF tf X.prog X.w X.K X.mg op.info.2 k ps) (TB : TbB X.base X.mg tf X.K) (gd : Gd X.A) (hr : Room j X.A) (hj : k ≤ j) : OpR X (binaryOp op) (rOwnB X.K tf ps) := by
  intro pins s σ H x y v u Q I rx ry h
  obtain ⟨a, c, fn, dx, vs, rfl, hfn, ha, hy, q⟩ := h
  cases (show v = Value.ref a from rx)
  obtain ⟨hb, h4, h5⟩ := BF _ (prOf_mem hfn)
  unfold bopB at hb
  simp only [Bool.and_eq_true, decide_eq_true_eq] at hb
  obtain ⟨b1, b2, b3, b4, b5, b6, b7⟩ := hb
  obtain ⟨sl, od, _, J, _⟩ := SlX.slt_inst I ha
  obtain ⟨m, hF⟩ := I.fr
  rcases hy with ⟨i, rfl⟩ | ⟨b, dy, ws, rfl, hb'⟩
  · obtain ⟨t, rfl⟩ : ∃ t, u = Value.int i t := ry
    obtain ⟨fo, e5⟩ := Option.isSome_iff_exists.mp b5
    obtain ⟨ro, e6⟩ := Option.isSome_iff_exists.mp b6
    refine PySem.W.ksp_binT (T := "int") hF I.ok.mod.kin J rfl b1 b2 b3 b4 (.inl rfl) e5 e6 b7 ?_
    refine wpAny_mono (run_q (us := [.ref a, .int i t]) (vs := [.ref a, .int i]) (h5 X.base TB) (hr.mono hj) gd I (.cons rfl (.cons ⟨t, rfl⟩ .nil)) q) (fun w s' z => ?_) fun _ _ x => x
    obtain ⟨z', H', I', rz, qz⟩ := z
    exact SlX.cmpback rz ⟨z', H', I', rz, qz⟩
  · cases (show u = Value.ref b from ry)
    obtain ⟨sl', od', _, J', _⟩ := SlX.slt_inst I hb'
    refine PySem.W.binop_K hF I.ok.mod.kin J J'.type b1 b2 b3 ?_
    refine wpAny_mono (run_q (us := [.ref a, .ref b]) (vs := [.ref a, .ref b]) (h5 X.base TB) (hr.mono hj) gd I (.cons rfl (.cons rfl .nil)) q) (fun w s' z => ?_) fun _ _ x => x
    obtain ⟨z', H', I', rz, qz⟩ := z
    exact SlX.cmpback rz ⟨z', H', I', rz, qz⟩
theorem oOwn_s {K : PySem.W.Frag} {r : R2} {f : Op2} (hs : OpS K W r f) : OpS K W (fun x y H Q => rOwnB K tf ps x y H Q ∨ r x y H Q) (oOwn ps f) := fun σv m g H d e x y Q rl hd he p => by
  unfold oOwn at p
  split at p
  · rename_i c hc
    obtain ⟨a, dx, ws, rfl, h1⟩ := insOf_s rl hd hc
    split at p
    · rename_i fn hfn
      split at p
      · rename_i i
        cases he
        exact .inl ⟨a, c, fn, dx, ws, rfl, hfn, h1, .inl ⟨i, rfl⟩, m, g, _, rl, .cons hd (.cons .int .nil), noEx_s p⟩
      · split at p
        · rename_i c' hc'
          split at p
          · rename_i hcc
            subst hcc
            obtain ⟨b, dy, ws', rfl, h2⟩ := insOf_s rl he hc'
            exact .inl ⟨a, c, fn, dx, ws, rfl, hfn, h1, .inr ⟨b, dy, ws', rfl, h2⟩, m, g, _, rl, .cons hd (.cons he .nil), noEx_s p⟩
          · exact p.elim
        · exact p.elim
    · exact p.elim
  · exact .inr (hs σv m g H d e x y Q rl hd he p)
variable {a b : Expr} {ea eb : Ev} {pos : Pos}
theorem x_opO {r : R2} {f : Op2} (ho : OpR X (binaryOp op) r) (hs : OpS X.K W r f) (BF : BoF tf X.prog X.w X.K X.mg op.info.2 k ps) (TB : TbB X.base X.mg tf X.K) (gd : Gd X.A) (hr : Room j X.A) (hj : k ≤ j) (ha : PE X a (tE X.K W ea)) (hb : PE X b (tE X.K W eb)) :
    PE X (.BinOp a op b pos) (tE X.K W (eOp (oOwn ps f) ea eb)) := x_op (opR_or (op_ownB BF TB gd hr hj) ho) (oOwn_s hs) ha hb
end
end AW
/-! Bi5: comparisons by own dunders (x == y, y an instance too, a whole number, a truth value, None or a text); -x. -/
namespace AW
open PySem PySem.Spec PyProof.Rows L2
/-- the kinds on the right side that are told -/
def rkOf : D → Option TK
  | .int _ => some .int
  | .bl _ => some .bl
  | .non => some .non
  | .str _ => some .str
  | _ => none
/-- x op y by the dunder of x's class -/
def oCmpO (ps : List (Str × Fn)) (own : List Str) (f : Op2) : Op2 := fun x y g => match insOf g x with
  | some c => match prOf ps c with
    | some fn => match rkOf y with
      | some _ => noEx (fn [x, y] g)
      | none => match insOf g y with
        | some c' => if c' ∈ own then noEx (fn [x, y] g) else .no
        | none => .no
    | none => .no
  | none => f x y g
def cmpB (c : Str) (own : List Str) (nm : Str) (K : PySem.W.Frag) : Bool := decide (PySem.W.findIn K (.ref (ga K c)) nm = some (some (.ref (He.ma K (ga K c) nm)))) && (PySem.W.isFn K (.ref (He.ma K (ga K c) nm)) &&
  ((own.all fun c' => PySem.W.notFirst K (ga K c) (.ref (ga K c'))) && ([TK.int, .bl, .non, .str].all fun k => PySem.W.notFirst K (ga K c) (.type k.name))))
def CmF (tf : List He.Defn) (P : Program) (w : World) (K : PySem.W.Frag) (mg : Str → Option Value) (own : List Str) (nm : Str) (k : Nat) (ps : List (Str × Fn)) : Prop := ∀ q ∈ ps, cmpB q.1 own nm K = true ∧ OkA tf P w K mg (He.ma K (ga K q.1) nm) k q.2
theorem cmF_nil {tf : List He.Defn} {P : Program} {w : World} {K : PySem.W.Frag} {mg : Str → Option Value} {own : List Str} {nm : Str} {k : Nat} : CmF tf P w K mg own nm k [] := fun _ h => nomatch h
theorem cmF_cons {tf : List He.Defn} {P : Program} {w : World} {K : PySem.W.Frag} {mg : Str → Option Value} {own : List Str} {nm : Str} {j k : Nat} {ps : List (Str × Fn)} {c : Str} {fn : Fn} (hp : cmpB c own nm K = true) (o : OkA tf P w K mg (He.ma K (ga K c) nm) j fn) (hj : j ≤ k)
    (r : CmF tf P w K mg own nm k ps) : CmF tf P w K mg own nm k ((c, fn) :: ps) := fun q hq => by
  rcases List.mem_cons.mp hq with e | e
  · subst e
    exact ⟨hp, o.mono hj⟩
  · exact r q e
/-- a value of one of the told kinds -/
inductive RK : V → TK → Prop
  | int (i : Int) : RK (.int i) .int
  | bl (b : Bool) : RK (.bl b) .bl
  | non : RK .non .non
  | str (x : Str) : RK (.str x) .str
def rCmpO (K : PySem.W.Frag) (ps : List (Str × Fn)) (own : List Str) : R2 := fun x y H Q => ∃ a c fn dx vs, x = .ref a ∧ prOf ps c = some fn ∧ SlX.Slt H a (ga K c) dx vs ∧ ((∃ k, RK y k) ∨ ∃ b c' dy ws, y = .ref b ∧ c' ∈ own ∧ SlX.Slt H b (ga K c') dy ws) ∧ spOf K fn [x, y] H Q fun _ _ _ => False
section
variable {X : Cx} {W : WX} {tf : List He.Defn} {ps : List (Str × Fn)} {own : List Str} {j k : Nat} {op : CmpOp}
theorem rk_type {y : V} {t : TK} {u : Value} (h : RK y t) (r : RelV y u) : typeOf u = pure (.type t.name) := by
  cases h with
  | int i => obtain ⟨t, rfl⟩ : ∃ t, u = Value.int i t := r; rfl
  | bl b => obtain rfl : u = Value.bool b := r; rfl
  | non => obtain rfl : u = Value.none := r; rfl
  | str x => obtain ⟨t, rfl⟩ : ∃ t, u = Value.str x t := r; rfl
theorem op_cmpO (hop : ∀ a b, compareOp op a b = richCompare op a b) (CF : CmF tf X.prog X.w X.K X.mg own (cmpInfo op).2.1 k ps) (TB : TbB X.base X.mg tf X.K) (gd : Gd X.A) (hr : Room j X.A) (hj : k ≤ j) : OpR X (compareOp op) (rCmpO X.K ps own) := by
  intro pins s σ H x y v u Q I rx ry h
  obtain ⟨a, c, fn, dx, vs, rfl, hfn, ha, hy, q⟩ := h
  cases (show v = Value.ref a from rx)
  obtain ⟨hb, h4, h5⟩ := CF _ (prOf_mem hfn)
  unfold cmpB at hb
  simp only [Bool.and_eq_true, decide_eq_true_eq, List.all_eq_true] at hb
  obtain ⟨b1, b2, b3, b4⟩ := hb
  obtain ⟨sl, od, _, J, _⟩ := SlX.slt_inst I ha
  obtain ⟨m, hF⟩ := I.fr
  rw [hop]
  have fin := run_q (us := [.ref a, u]) (vs := [.ref a, y]) (h5 X.base TB) (hr.mono hj) gd I (.cons rfl (.cons ry .nil)) q
  have fin2 := wpAny_mono (Q' := PySem.W.CmpBack (EP X pins σ Q)) fin (fun w s' z => by
    obtain ⟨z', H', I', rz, qz⟩ := z
    exact SlX.cmpback rz ⟨z', H', I', rz, qz⟩) fun _ _ x => x
  rcases hy with ⟨t, ht⟩ | ⟨b, c', dy, ws, rfl, hin, hb'⟩
  · exact PySem.W.cmp_K (op := op) (tb := .type t.name) hr.units0 hF I.ok.mod.kin J (PySem.W.Looks.of_pure (rk_type ht ry)) (b4 t (by cases ht <;> simp)) b1 b2 fin2
  · cases (show u = Value.ref b from ry)
    obtain ⟨sl', od', _, J', _⟩ := SlX.slt_inst I hb'
    exact PySem.W.cmp_K (op := op) (tb := .ref (ga X.K c')) hr.units0 hF I.ok.mod.kin J J'.type (b3 c' hin) b1 b2 fin2
theorem oCmpO_s {K : PySem.W.Frag} {r : R2} {f : Op2} (hs : OpS K W r f) : OpS K W (fun x y H Q => rCmpO K ps own x y H Q ∨ r x y H Q) (oCmpO ps own f) := fun σv m g H d e x y Q rl hd he p => by
  unfold oCmpO at p
  split at p
  · rename_i c hc
    obtain ⟨a, dx, ws, rfl, h1⟩ := insOf_s rl hd hc
    split at p
    · rename_i fn hfn
      split at p
      · rename_i t ht
        refine .inl ⟨a, c, fn, dx, ws, rfl, hfn, h1, .inl ?_, m, g, _, rl, .cons hd (.cons he .nil), noEx_s p⟩
        cases e <;> cases ht <;> cases he
        · exact ⟨_, .non⟩
        · exact ⟨_, .bl _⟩
        · exact ⟨_, .int _⟩
        · exact ⟨_, .str _⟩
      · split at p
        · rename_i c' hc'
          split at p
          · rename_i hin
            obtain ⟨b, dy, ws', rfl, h2⟩ := insOf_s rl he hc'
            exact .inl ⟨a, c, fn, dx, ws, rfl, hfn, h1, .inr ⟨b, c', dy, ws', rfl, hin, h2⟩, m, g, _, rl, .cons hd (.cons he .nil), noEx_s p⟩
          · exact p.elim
        · exact p.elim
    · exact p.elim
  · exact .inr (hs σv m g H d e x y Q rl hd he p)
variable {a b : Expr} {ea eb : Ev} {pos : Pos}
theorem x_cmpO {r : R2} {f : Op2} (hop : ∀ a b, compareOp op a b = richCompare op a b) (ho : OpR X (compareOp op) r) (hs : OpS X.K W r f) (CF : CmF tf X.prog X.w X.K X.mg own (cmpInfo op).2.1 k ps) (TB : TbB X.base X.mg tf X.K) (gd : Gd X.A) (hr : Room j X.A) (hj : k ≤ j) (ha : PE X a (tE X.K W ea)) (hb : PE X b (tE X.K W eb)) (hm : behindInMarks op b = false) :
    PE X (.Compare a [op] [b] pos) (tE X.K W (eOp (oCmpO ps own f) ea eb)) := x_cmp (opR_or (op_cmpO hop CF TB gd hr hj) ho) (oCmpO_s hs) ha hb hm
/-! -x -/
def oNegO (ps : List (Str × Fn)) : Op1 := fun x g => match insOf g x with
  | some c => match prOf ps c with
    | some fn => noEx (fn [x] g)
    | none => .no
  | none => oNeg x g
def negB (c : Str) (K : PySem.W.Frag) : Bool := decide (PySem.W.findIn K (.ref (ga K c)) "__neg__" = some (some (.ref (He.ma K (ga K c) "__neg__")))) && PySem.W.isFn K (.ref (He.ma K (ga K c) "__neg__"))
def NgF (tf : List He.Defn) (P : Program) (w : World) (K : PySem.W.Frag) (mg : Str → Option Value) (k : Nat) (ps : List (Str × Fn)) : Prop := ∀ q ∈ ps, negB q.1 K = true ∧ OkA tf P w K mg (He.ma K (ga K q.1) "__neg__") k q.2
theorem ngF_nil {tf : List He.Defn} {P : Program} {w : World} {K : PySem.W.Frag} {mg : Str → Option Value} {k : Nat} : NgF tf P w K mg k [] := fun _ h => nomatch h
theorem ngF_cons {tf : List He.Defn} {P : Program} {w : World} {K : PySem.W.Frag} {mg : Str → Option Value} {j k : Nat} {ps : List (Str × Fn)} {c : Str} {fn : Fn} (hp : negB c K = true) (o : OkA tf P w K mg (He.ma K (ga K c) "__neg__") j fn) (hj : j ≤ k)
    (r : NgF tf P w K mg k ps) : NgF tf P w K mg k ((c, fn) :: ps) := fun q hq => by
  rcases List.mem_cons.mp hq with e | e
  · subst e
    exact ⟨hp, o.mono hj⟩
  · exact r q e
def rNegO (K : PySem.W.Frag) (ps : List (Str × Fn)) : V → Hp → VK → Prop := fun x H Q => (∃ a c fn dx vs, x = .ref a ∧ prOf ps c = some fn ∧ SlX.Slt H a (ga K c) dx vs ∧ spOf K fn [x] H Q fun _ _ _ => False) ∨ rU (fun i => .int (-i)) x H Q
theorem un_negO (NF : NgF tf X.prog X.w X.K X.mg k ps) (TB : TbB X.base X.mg tf X.K) (gd : Gd X.A) (hr : Room j X.A) (hj : k ≤ j) : UnR X (unaryOp .USub) (rNegO X.K ps) := by
  intro pins s σ H x v Q I rx h
  rcases h with ⟨a, c, fn, dx, vs, rfl, hfn, ha, q⟩ | h
  · cases (show v = Value.ref a from rx)
    obtain ⟨hb, h4, h5⟩ := NF _ (prOf_mem hfn)
    unfold negB at hb
    simp only [Bool.and_eq_true, decide_eq_true_eq] at hb
    obtain ⟨sl, od, _, J, _⟩ := SlX.slt_inst I ha
    obtain ⟨m, hF⟩ := I.fr
    exact PySem.W.ksp_neg hF I.ok.mod.kin J hb.1 hb.2 (run_q (us := [.ref a]) (vs := [.ref a]) (h5 X.base TB) (hr.mono hj) gd I (.cons rfl .nil) q)
  · exact un_neg pins s σ H x v Q I rx h
theorem oNegO_s {K : PySem.W.Frag} : UnS K W (rNegO K ps) (oNegO ps) := fun σv m g H d x Q rl hd p => by
  unfold oNegO at p
  split at p
  · rename_i c hc
    obtain ⟨a, dx, ws, rfl, h1⟩ := insOf_s rl hd hc
    split at p
    · rename_i fn hfn
      exact .inl ⟨a, c, fn, dx, ws, rfl, hfn, h1, m, g, _, rl, .cons hd .nil, noEx_s p⟩
    · exact p.elim
  · exact .inr (oNeg_s σv m g H d x Q rl hd p)
theorem x_negO (NF : NgF tf X.prog X.w X.K X.mg k ps) (TB : TbB X.base X.mg tf X.K) (gd : Gd X.A) (hr : Room j X.A) (hj : k ≤ j) (ha : PE X a (tE X.K W ea)) : PE X (.UnaryOp .USub a pos) (tE X.K W (eUn (oNegO ps) ea)) := x_un (un_negO NF TB gd hr hj) oNegO_s ha
end
end AW
/-! Bk4: x != y by the own __eq__ of x's class; == of tuples within tuples that hold own instances, where all are equal. -/
namespace AW
open PySem PySem.Spec PyProof.Rows L2
section
variable {prog : Program} {w : World} {A : Around} {E : Value → Shared → Prop} {s : Shared} {K : PySem.W.Frag} {x C L f : Addr} {h₀ : Heap} {m : Str → Option Value} {ox : Obj} {od : Option Obj} {b tb : Value}
theorem ifBound_ne {M : Model} {args : List Value} {Q : Option Value → Shared → Prop} (X : K.In s.heap) (I : PySem.W.InstAt s.heap x ox C od) (hs : PySem.W.findIn K (.ref C) "__ne__" = some (some (.builtin "object.__ne__")))
    (h : wpAny M A (call (.builtin "object.__ne__") (.ref x :: args)) (fun v => Q (some v)) E s) : wpAny M A (callSpecialIfBound? (.ref x) "__ne__" args) Q E s := by
  simp only [callSpecialIfBound?, bindSpecialIfBound?]; refine wpAny_holding (wpAny_bind (wpAny_bind (wpAny_bind (I.type.here ((PySem.W.looks_findIn X hs).here (wpAny_bind (wpAny_askSetting (wpAny_ite ?_))))))))
  have fin : wpAny M A (call (.builtin "object.__ne__") ([.ref x] ++ args) >>= fun v => pure (some v)) Q E s := wpAny_bind (wpAny_mono h (fun v s' h' => wpAny_pure h') fun _ _ h' => h')
  split
  · exact wpAny_bind (wpAny_of_eq (F.cmp_object.ne.bind _) (wpAny_pure (by exact fin)))
  · exact wpAny_tryCatch (wpAny_bind (wpAny_of_eq (F.cmp_object.ne.bind _) (wpAny_pure (by exact fin))))
theorem entry_ne (X : K.In s.heap) (I : PySem.W.InstAt s.heap x ox C od) (he : PySem.W.findIn K (.ref C) "__eq__" = some (some (.ref f))) (hf : PySem.W.isFn K (.ref f) = true) (hu : A.units < cLine) {Q : Fin → Shared → Prop}
    (hcall : wpAny (model prog w) A (call (.ref f) [.ref x, b]) (fun v s' => ∃ k, v = .bool k ∧ Q (.done (.ret (.bool (!k)))) s') E s) :
    wpAny (model prog w) A (Builtin.«object.__ne__» ⟨[.ref x, b], []⟩) Q E s := by
  unfold Builtin.«object.__ne__»
  repeat (first
    | with_reducible refine wpAny_cRoomFor hu ?_
    | (refine wpAny_bind (m := callSpecialIfBound? (.ref x) (Str.ofString "__eq__") [b])
        (PySem.W.ifBound_K X I he hf (wpAny_mono hcall (fun r s' hr => by
          obtain ⟨k, rfl, hq⟩ := hr
          repeat (first | exact hq | exact wpAny_pure hq | exact wpAny_truthy_bool hq | (refine wpAny_bind (m := truthy (.bool _)) (wpAny_truthy_bool ?_)) | wp_step)) fun _ _ e => e)))
    | wp_step)
theorem ne_K {Q : Value → Shared → Prop} (hu : A.units + 1 < cLine) (F' : PyProof.Rows.Fr h₀ L s.heap m) (X₀ : K.In h₀) (I : PySem.W.InstAt s.heap x ox C od) (hb : PySem.W.Looks (model prog w) s.heap (typeOf b) tb) (hn : PySem.W.notFirst K C tb = true)
    (hm : PySem.W.mroIn K C (.type "object") = some true) (hs : PySem.W.findIn K (.ref C) "__ne__" = some (some (.builtin "object.__ne__"))) (he : PySem.W.findIn K (.ref C) "__eq__" = some (some (.ref f))) (hf : PySem.W.isFn K (.ref f) = true)
    (h : wpAny (model prog w) A.in1 (call (.ref f) [.ref x, b]) (fun v s' => ∃ k, v = .bool k ∧ Q (.bool (!k)) s') E s) : wpAny (model prog w) A (richCompare .NotEq (.ref x) b) Q E s := by
  have X := X₀.keeps F'.keep; have one : wpAny (model prog w) A (tryCompare (.ref x) "__ne__" b) (fun r s' => ∃ v, r = some v ∧ Q v s') E s := by
    unfold tryCompare
    refine wpAny_bind (ifBound_ne X I hs (wpAny_call (codeAny_call_builtin F.cmp_object.ne.plain F.cmpEntry_ne (PySem.W.check_slot F.cmpKind_ne F.cmpSplit_ne (I.type.andThen (PySem.W.looks_mroIn X hm)) (F.cmpArgs_ne _ _)
      (entry_ne (A := A.in1) X I he hf hu (wpAny_mono h (fun v s' hv => ?_) fun _ _ e => e))))))
    obtain ⟨k, rfl, hq⟩ := hv
    first | exact ⟨k, rfl, wpAny_pure ⟨_, rfl, hq⟩⟩ | exact ⟨k, rfl, wpAny_pure (wpAny_pure ⟨_, rfl, hq⟩)⟩
  unfold richCompare; simp only [oneThing_ref]; refine wpAny_holding (wpAny_bind (wpAny_cRoomFor (Nat.lt_of_succ_lt hu) (wpAny_bind (I.type.here (wpAny_bind (hb.here ?_))))))
  split
  · rename_i q
    have no : PySem.W.subIn K tb (.ref C) = some false := (Bool.or_eq_true_iff.mp hn).elim (fun z => by rw [beq_iff_eq.mp z] at q; simp at q) beq_iff_eq.mp
    refine wpAny_bind ((PySem.W.looks_subIn X no).here ?_); simp only [Bool.false_eq_true, if_false]; refine wpAny_bind (wpAny_mono one (fun r s' z => ?_) fun _ _ z => z)
    obtain ⟨v, rfl, hq⟩ := z; exact wpAny_pure hq
  · refine wpAny_bind (wpAny_pure ?_); simp only [Bool.false_eq_true, if_false]; refine wpAny_bind (wpAny_mono one (fun r s' z => ?_) fun _ _ z => z)
    obtain ⟨v, rfl, hq⟩ := z; exact wpAny_pure hq
end
/-- below the running body X, with room, and no guards -/
structure SubG (X : Cx) (n : Nat) (A : Around) : Prop where
  room : Room n A
  fr : A.frames = X.A.frames
  gd : Gd A
theorem SubG.down {X : Cx} {n : Nat} {A : Around} (s : SubG X (n + 1) A) : SubG X n A.in1 := ⟨s.room.in1, s.fr, s.gd⟩
theorem SubG.mono {X : Cx} {n m : Nat} {A : Around} (s : SubG X n A) (h : m ≤ n) : SubG X m A := ⟨s.room.mono h, s.fr, s.gd⟩
section
variable {X : Cx} {W : WX} {tf : List He.Defn} {ps : List (Str × Fn)} {own : List Str} {j k : Nat}
theorem run_qA {f : Addr} {sp : Sp} {pins : List (Addr × Obj)} {σ : L2.St} {H : Hp} {s : Shared} {Q : VK} {us : List Value} {vs : List V} {A : Around} (F : FnG X.prog X.w X.K X.mg X.base k f sp) (sb : SubG X k A) (J : Inv X pins σ H s) (r : Vals vs us) (h : sp vs H Q fun _ _ _ => False) :
    wpAny (model X.prog X.w) A (call (.ref f) us) (EP X pins σ Q) X.xe s := by
  have e := J.env0
  have e0 : Env0 X.prog X.w X.K X.mg X.base A X.stack s H := ⟨by rw [sb.fr]; exact e.frames, e.mod, e.bs, e.bsz, e.funs, e.frf, e.hok, e.bare⟩
  have c := F A X.stack s H us vs Q (fun _ _ _ => False) sb.room sb.gd e0 r h
  refine wpAny_call (codeAny_mono c fun z s' hz => ?_)
  match z, hz with
  | .error e, hz =>
    obtain ⟨_, _, _, _, _, _, _, _, _, _, _, _, z⟩ := hz
    exact z.elim
  | .ok (.ret u), hz => exact J.after hz
  | .ok .next, hz => exact hz.elim
  | .ok .brk, hz => exact hz.elim
  | .ok .cont, hz => exact hz.elim
/-! x != y -/
def notR : Res D → Res D
  | .ok (.bl b) g => .ok (.bl (!b)) g
  | _ => .no
def oNeO (ps : List (Str × Fn)) (own : List Str) (f : Op2) : Op2 := fun x y g => match insOf g x with
  | some c => match prOf ps c with
    | some fn => match rkOf y with
      | some _ => notR (fn [x, y] g)
      | none => match insOf g y with
        | some c' => if c' ∈ own then notR (fn [x, y] g) else .no
        | none => .no
    | none => .no
  | none => f x y g
def neB (c : Str) (own : List Str) (K : PySem.W.Frag) : Bool := cmpB c own "__eq__" K && (decide (PySem.W.findIn K (.ref (ga K c)) "__ne__" = some (some (.builtin "object.__ne__"))) && decide (PySem.W.mroIn K (ga K c) (.type "object") = some true))
def NeF (tf : List He.Defn) (P : Program) (w : World) (K : PySem.W.Frag) (mg : Str → Option Value) (own : List Str) (k : Nat) (ps : List (Str × Fn)) : Prop := ∀ q ∈ ps, neB q.1 own K = true ∧ OkA tf P w K mg (He.ma K (ga K q.1) "__eq__") k q.2
theorem neF_nil {tf : List He.Defn} {P : Program} {w : World} {K : PySem.W.Frag} {mg : Str → Option Value} {own : List Str} {k : Nat} : NeF tf P w K mg own k [] := fun _ h => nomatch h
theorem neF_cons {tf : List He.Defn} {P : Program} {w : World} {K : PySem.W.Frag} {mg : Str → Option Value} {own : List Str} {j k : Nat} {ps : List (Str × Fn)} {c : Str} {fn : Fn} (hp : neB c own K = true) (o : OkA tf P w K mg (He.ma K (ga K c) "__eq__") j fn) (hj : j ≤ k)
    (r : NeF tf P w K mg own k ps) : NeF tf P w K mg own k ((c, fn) :: ps) := fun q hq => (List.mem_cons.mp hq).elim (fun e => by subst e; exact ⟨hp, o.mono hj⟩) (r q)
def rNeO (K : PySem.W.Frag) (ps : List (Str × Fn)) (own : List Str) : R2 := fun x y H Q => ∃ a c fn dx vs, x = .ref a ∧ prOf ps c = some fn ∧ SlX.Slt H a (ga K c) dx vs ∧ ((∃ k, RK y k) ∨ ∃ b c' dy ws, y = .ref b ∧ c' ∈ own ∧ SlX.Slt H b (ga K c') dy ws) ∧ spOf K fn [x, y] H (fun v H' => ∃ b, v = .bl b ∧ Q (.bl (!b)) H') fun _ _ _ => False
theorem op_neO (NF : NeF tf X.prog X.w X.K X.mg own k ps) (TB : TbB X.base X.mg tf X.K) (gd : Gd X.A) (hr : Room j X.A) (hj : k + 1 ≤ j) : OpR X (compareOp .NotEq) (rNeO X.K ps own) := by
  intro pins s σ H x y v u Q I rx ry h
  obtain ⟨a, c, fn, dx, vs, rfl, hfn, ha, hy, q⟩ := h
  cases (show v = Value.ref a from rx)
  obtain ⟨hb, h5⟩ := NF _ (prOf_mem hfn)
  unfold neB cmpB at hb
  simp only [Bool.and_eq_true, decide_eq_true_eq, List.all_eq_true] at hb
  obtain ⟨⟨b1, b2, b3, b4⟩, b5, b6⟩ := hb
  obtain ⟨sl, od, _, J, _⟩ := SlX.slt_inst I ha
  obtain ⟨m, hF⟩ := I.fr
  have hrr : Room (k + 1) X.A := hr.mono hj
  have fin := run_qA (us := [.ref a, u]) (vs := [.ref a, y]) (h5.2 X.base TB) (SubG.down (X := X) (A := X.A) ⟨hrr, rfl, gd⟩) I (.cons rfl (.cons ry .nil)) q
  have fin2 := wpAny_mono (Q' := fun v s' => ∃ b, v = Value.bool b ∧ EP X pins σ Q (.bool (!b)) s') fin (fun w s' z => by
    obtain ⟨z', H', I', rz, b, e, qz⟩ := z
    subst e
    obtain rfl : w = Value.bool b := rz
    exact ⟨b, rfl, .bl (!b), H', I', rfl, qz⟩) fun _ _ x => x
  have hu : X.A.units + 1 < cLine := hrr.in1.units0
  show wpAny _ _ (richCompare .NotEq _ _) _ _ _
  rcases hy with ⟨t, ht⟩ | ⟨b, c', dy, ws, rfl, hin, hb'⟩
  · exact ne_K (tb := .type t.name) hu hF I.ok.mod.kin J (PySem.W.Looks.of_pure (rk_type ht ry)) (b4 t (by cases ht <;> simp)) b6 b5 b1 b2 fin2
  · cases (show u = Value.ref b from ry)
    obtain ⟨sl', od', _, J', _⟩ := SlX.slt_inst I hb'
    exact ne_K (tb := .ref (ga X.K c')) hu hF I.ok.mod.kin J J'.type (b3 c' hin) b6 b5 b1 b2 fin2
theorem notR_s {K : PySem.W.Frag} {W W' : WX} {σ σ' : L2.St} {r : Res D} {m : Md} {Q : VK} (h : Post K W σ (Den K) (notR r) m Q) : Post K W' σ' (Den K) r m fun v H' => ∃ b, v = .bl b ∧ Q (.bl (!b)) H' := by
  cases r with
  | ok d g =>
    cases d with
    | bl b =>
      intro m' H' v l rl hd
      cases hd
      exact ⟨b, rfl, h m' H' (.bl (!b)) l rl .bl⟩
    | _ => exact h.elim
  | ex e g => exact h.elim
  | no => exact h.elim
theorem oNeO_s {K : PySem.W.Frag} {r : R2} {f : Op2} (hs : OpS K W r f) : OpS K W (fun x y H Q => rNeO K ps own x y H Q ∨ r x y H Q) (oNeO ps own f) := fun σv m g H d e x y Q rl hd he p => by
  unfold oNeO at p
  split at p
  · rename_i c hc
    obtain ⟨a, dx, ws, rfl, h1⟩ := insOf_s rl hd hc
    split at p
    · rename_i fn hfn
      split at p
      · rename_i t ht
        refine .inl ⟨a, c, fn, dx, ws, rfl, hfn, h1, .inl ?_, m, g, _, rl, .cons hd (.cons he .nil), notR_s p⟩
        cases e <;> cases ht <;> cases he
        · exact ⟨_, .non⟩
        · exact ⟨_, .bl _⟩
        · exact ⟨_, .int _⟩
        · exact ⟨_, .str _⟩
      · split at p
        · rename_i c' hc'
          split at p
          · rename_i hin
            obtain ⟨b, dy, ws', rfl, h2⟩ := insOf_s rl he hc'
            exact .inl ⟨a, c, fn, dx, ws, rfl, hfn, h1, .inr ⟨b, c', dy, ws', rfl, hin, h2⟩, m, g, _, rl, .cons hd (.cons he .nil), notR_s p⟩
          · exact p.elim
        · exact p.elim
    · exact p.elim
  · exact .inr (hs σv m g H d e x y Q rl hd he p)
variable {a b : Expr} {ea eb : Ev} {pos : Pos}
theorem x_neO {r : R2} {f : Op2} (ho : OpR X (compareOp .NotEq) r) (hs : OpS X.K W r f) (NF : NeF tf X.prog X.w X.K X.mg own k ps) (TB : TbB X.base X.mg tf X.K) (gd : Gd X.A) (hr : Room j X.A) (hj : k + 1 ≤ j) (ha : PE X a (tE X.K W ea)) (hb : PE X b (tE X.K W eb)) (hm : behindInMarks .NotEq b = false) :
    PE X (.Compare a [.NotEq] [b] pos) (tE X.K W (eOp (oNeO ps own f) ea eb)) := x_cmp (opR_or (op_neO NF TB gd hr hj) ho) (oNeO_s hs) ha hb hm
/-! == of tuples, all equal -/
/-- equal at first sight -/
def flatE : D → D → Bool
  | .int i, .int j => decide (i = j)
  | .bl i, .bl j => decide (i = j)
  | .str i, .str j => decide (i = j)
  | .non, .non => true
  | _, _ => false
def All2 (P : D → D → Prop) : List D → List D → Prop
  | [], [] => True
  | x :: xs, y :: ys => P x y ∧ All2 P xs ys
  | _, _ => False
def InsP (ps : List (Str × Fn)) (g : G) (x y : D) : Prop := ∃ c fs gs fn, x = .ins c fs ∧ y = .ins c gs ∧ prOf ps c = some fn ∧ fn [x, y] g = .ok (.bl true) g
def TupP (P : D → D → Prop) (x y : D) : Prop := ∃ xs ys, x = .tup xs ∧ y = .tup ys ∧ All2 P xs ys
def EqP (ps : List (Str × Fn)) (g : G) : Nat → D → D → Prop
  | 0, x, y => flatE x y = true ∨ InsP ps g x y
  | n + 1, x, y => EqP ps g n x y ∨ TupP (EqP ps g n) x y
def LoopS (X : Cx) (pins : List (Addr × Obj)) (σ : L2.St) (g : G) (m : Md) (s' : Shared) : Prop := ∃ m1 H1, Inv X pins σ H1 s' ∧ Rel X.K m1 g H1 ∧ Le m m1
def EqS (X : Cx) (n : Nat) (g : G) (P : D → D → Prop) : Prop := ∀ (A : Around) (pins : List (Addr × Obj)) (s : Shared) (σ : L2.St) (H : Hp) (m : Md) (dx dy : D) (x y : V) (u v : Value), SubG X n A → Inv X pins σ H s → RelV x u → RelV y v → Rel X.K m g H → Den X.K m dx x → Den X.K m dy y → P dx dy →
  wpAny (model X.prog X.w) A (eqBool u v) (fun r s' => r = true ∧ LoopS X pins σ g m s') X.xe s
def RcS (X : Cx) (n : Nat) (g : G) (P : D → D → Prop) : Prop := ∀ (A : Around) (pins : List (Addr × Obj)) (s : Shared) (σ : L2.St) (H : Hp) (m : Md) (dx dy : D) (x y : V) (u v : Value), SubG X n A → Inv X pins σ H s → RelV x u → RelV y v → Rel X.K m g H → Den X.K m dx x → Den X.K m dy y → P dx dy →
  wpAny (model X.prog X.w) A (richCompare .Eq u v) (fun r s' => r = .bool true ∧ LoopS X pins σ g m s') X.xe s
variable {g : G} {n n' : Nat} {P P' : D → D → Prop}
theorem EqS.mono (h : EqS X n g P) (hn : n ≤ n') : EqS X n' g P := fun A pins s σ H m dx dy x y u v sb => h A pins s σ H m dx dy x y u v (sb.mono hn)
theorem EqS.or (h : EqS X n g P) (h' : EqS X n g P') : EqS X n g fun x y => P x y ∨ P' x y := fun A pins s σ H m dx dy x y u v sb I rx ry rl hx hy p => p.elim (h A pins s σ H m dx dy x y u v sb I rx ry rl hx hy) (h' A pins s σ H m dx dy x y u v sb I rx ry rl hx hy)
theorem rel_ext {K : PySem.W.Frag} {m : Md} {H H' : Hp} (r : Rel K m g H) (e : Ext H H') : Rel K m g H' :=
  ⟨fun a o h => e _ _ (r.ex a o h), fun i c h => let ⟨a, h1, h2, o, h3, h4⟩ := r.cell i c h; ⟨a, h1, h2, o, e _ _ h3, h4⟩, r.dom, r.inj, fun a o h => let ⟨h1, h2⟩ := r.hid a o h; ⟨e _ _ h1, h2⟩⟩
theorem flatE_v {K : PySem.W.Frag} {m : Md} {dx dy : D} {x y : V} (hx : Den K m dx x) (hy : Den K m dy y) (p : flatE dx dy = true) : flatV x = true ∧ flatV y = true ∧ eqV x y = true := by
  unfold flatE at p
  split at p
  · cases hx; cases hy; have := of_decide_eq_true p; subst this; exact ⟨rfl, rfl, by simp [eqV]⟩
  · cases hx; cases hy; have := of_decide_eq_true p; subst this; exact ⟨rfl, rfl, by simp [eqV]⟩
  · cases hx; cases hy; have := of_decide_eq_true p; subst this; exact ⟨rfl, rfl, by simp [eqV]⟩
  · cases hx; cases hy; exact ⟨rfl, rfl, by simp [eqV]⟩
  · cases p
theorem eqS_flat : EqS X 0 g fun x y => flatE x y = true := fun A pins s σ H m dx dy x y u v sb I rx ry rl hx hy p =>
  wpAny_mono (eqG_flat (X := X) A pins s σ H x y u v ⟨sb.room, sb.fr⟩ I rx ry (flatE_v hx hy p)) (fun r s' q => by
    obtain ⟨hr, H', I', e⟩ := q
    exact ⟨hr, m, H', I', rel_ext rl e, Le.refl m⟩) fun _ _ x => x
theorem RcS.eqS (h : RcS X n g P) (hr : ∀ dx dy, P dx dy → ((∃ xs, dx = .tup xs) ∨ ∃ c xs, dx = .ins c xs) ∧ ((∃ xs, dy = .tup xs) ∨ ∃ c xs, dy = .ins c xs)) : EqS X n g P := by
  intro A pins s σ H m dx dy x y u v sb I rx ry rl hx hy p
  have rf : ∀ {d : D} {z : V}, Den X.K m d z → ((∃ xs, d = .tup xs) ∨ ∃ c xs, d = .ins c xs) → ∃ a, z = .ref a := fun hd h => by
    rcases h with ⟨xs, rfl⟩ | ⟨c, xs, rfl⟩ <;> cases hd <;> exact ⟨_, rfl⟩
  obtain ⟨a, rfl⟩ := rf hx (hr _ _ p).1
  obtain ⟨b, rfl⟩ := rf hy (hr _ _ p).2
  cases (show u = Value.ref a from rx)
  cases (show v = Value.ref b from ry)
  by_cases hab : a = b
  · subst hab
    exact SeqAt.EqAt.same (A := A) (s := s) (.ref a) X.prog X.w X.xe _ ⟨rfl, m, H, I, rl, Le.refl m⟩
  · exact GQ.eqBool_refG hab (wpAny_mono (h A pins s σ H m dx dy (.ref a) (.ref b) _ _ sb I rfl rfl rl hx hy p) (fun r s' q => ⟨true, q.1, rfl, q.2⟩) fun _ _ x => x)
theorem all2_get {K : PySem.W.Frag} {m : Md} : ∀ {xs ys : List D} {vs ws : List V}, Dens K m xs vs → Dens K m ys ws → All2 P xs ys → vs.length = ws.length ∧ ∀ (i : Nat) (x y : V), vs[i]? = some x → ws[i]? = some y → ∃ dx dy, Den K m dx x ∧ Den K m dy y ∧ P dx dy
  | _, _, _, _, .nil, .nil, _ => ⟨rfl, fun i x y h _ => by simp at h⟩
  | _, _, _, _, .nil, .cons _ _, h => h.elim
  | _, _, _, _, .cons _ _, .nil, h => h.elim
  | _, _, _, _, .cons h1 t1, .cons h2 t2, ⟨p, q⟩ => by
    obtain ⟨e, r⟩ := all2_get t1 t2 q
    refine ⟨by rw [List.length_cons, List.length_cons, e], fun i x y hx hy => ?_⟩
    cases i with
    | zero =>
      cases hx
      cases hy
      exact ⟨_, _, h1, h2, p⟩
    | succ i => exact r i x y hx hy
theorem rcS_tup (h : EqS X n g P) : RcS X (n + 1) g (TupP P) := by
  intro A pins s σ H m dx dy x y u v sb I rx ry rl hx hy p
  obtain ⟨xs, ys, rfl, rfl, al⟩ := p
  cases hx with
  | tup h1 d1 =>
    cases hy with
    | tup h2 d2 =>
      rename_i a vs b ws
      cases (show u = Value.ref a from rx)
      cases (show v = Value.ref b from ry)
      obtain ⟨its, r1, e1, _⟩ := I.tuple (rl.seqT h1)
      obtain ⟨its2, r2, e2, _⟩ := I.tuple (rl.seqT h2)
      obtain ⟨hl, hp⟩ := all2_get d1 d2 al
      have l1 := r1.length
      have l2 := r2.length
      have hsz : its.toArray.size = its2.toArray.size := by rw [List.size_toArray, List.size_toArray]; omega
      refine GQ.rc_tupG hsz sb.room.units0 (fun _ s' => LoopS X pins σ g m s') e1 e2 (fun i h1 h2 s' q => ?_) (fun s' q => ⟨rfl, q⟩) ⟨m, H, I, rl, Le.refl m⟩
      obtain ⟨m1, H1, I1, rl1, le1⟩ := q
      have j1 : i < its.length := by simpa using h1
      have j2 : i < its2.length := by simpa using h2
      obtain ⟨u', hu, ru⟩ := r1.get (List.getElem?_eq_getElem (show i < vs.length by omega))
      obtain ⟨v', hv, rv⟩ := r2.get (List.getElem?_eq_getElem (show i < ws.length by omega))
      rw [List.getElem?_eq_getElem j1] at hu
      rw [List.getElem?_eq_getElem j2] at hv
      have eu : its.toArray[i] = u' := by simpa using Option.some.inj hu
      have ev : its2.toArray[i] = v' := by simpa using Option.some.inj hv
      rw [eu, ev]
      obtain ⟨dx, dy, hx, hy, pp⟩ := hp i _ _ (List.getElem?_eq_getElem (show i < vs.length by omega)) (List.getElem?_eq_getElem (show i < ws.length by omega))
      exact wpAny_mono (h A.in1 pins s' σ H1 m1 dx dy _ _ u' v' sb.down I1 ru rv rl1 (hx.mono le1) (hy.mono le1) pp) (fun r s2 q => by
        obtain ⟨hr, m2, H2, I2, rl2, le2⟩ := q
        exact ⟨hr, m2, H2, I2, rl2, le1.trans le2⟩) fun _ _ x => x
theorem rcS_ins (CF : CmF tf X.prog X.w X.K X.mg own "__eq__" k ps) (TB : TbB X.base X.mg tf X.K) : RcS X k g (InsP ps g) := by
  intro A pins s σ H m dx dy x y u v sb I rx ry rl hx hy p
  obtain ⟨c, fs, gs, fn, rfl, rfl, hfn, hq⟩ := p
  obtain ⟨hb, h4, h5⟩ := CF _ (prOf_mem hfn)
  unfold cmpB at hb
  simp only [Bool.and_eq_true, decide_eq_true_eq, List.all_eq_true] at hb
  obtain ⟨b1, b2, b3, b4⟩ := hb
  obtain ⟨a, dx', ws, rfl, h1⟩ := insOf_s rl hx (c := c) rfl
  obtain ⟨b, dy', ws', rfl, h2⟩ := insOf_s rl hy (c := c) rfl
  cases (show u = Value.ref a from rx)
  cases (show v = Value.ref b from ry)
  obtain ⟨sl, od, _, J, _⟩ := SlX.slt_inst I h1
  obtain ⟨sl', od', _, J', _⟩ := SlX.slt_inst I h2
  obtain ⟨mm, hF⟩ := I.fr
  have q : spOf X.K fn [.ref a, .ref b] H (fun w H' => w = .bl true ∧ ∃ m1, Rel X.K m1 g H' ∧ Le m m1) fun _ _ _ => False := by
    refine ⟨m, g, _, rl, .cons hx (.cons hy .nil), ?_⟩
    rw [hq]
    intro m2 H2 w l r d
    cases d
    exact ⟨rfl, m2, r, l⟩
  have fin := run_qA (us := [.ref a, .ref b]) (vs := [.ref a, .ref b]) (h5 X.base TB) sb I (.cons rfl (.cons rfl .nil)) q
  refine PySem.W.cmp_K (op := .Eq) (tb := .ref (ga X.K c)) sb.room.units0 hF I.ok.mod.kin J J'.type (by simp [PySem.W.notFirst]) b1 b2 (wpAny_mono fin (fun w s' z => ?_) fun _ _ x => x)
  obtain ⟨z', H', I', rz, e, m1, r1, l1⟩ := z
  subst e
  obtain rfl : w = Value.bool true := rz
  exact ⟨rfl, m1, H', I', r1, l1⟩
theorem eqS_P (CF : CmF tf X.prog X.w X.K X.mg own "__eq__" k ps) (TB : TbB X.base X.mg tf X.K) : ∀ i, EqS X (k + i) g (EqP ps g i)
  | 0 => (eqS_flat.mono (Nat.zero_le _)).or ((rcS_ins CF TB).eqS fun dx dy ⟨c, fs, gs, fn, h1, h2, _⟩ => ⟨.inr ⟨c, fs, h1⟩, .inr ⟨c, gs, h2⟩⟩)
  | i + 1 => ((eqS_P CF TB i).mono (Nat.le_succ _)).or ((rcS_tup (eqS_P CF TB i)).eqS fun dx dy ⟨xs, ys, h1, h2, _⟩ => ⟨.inl ⟨xs, h1⟩, .inl ⟨ys, h2⟩⟩)
open Classical in
noncomputable def oEqN (ps : List (Str × Fn)) (i : Nat) (f : Op2) : Op2 := fun x y g => if TupP (EqP ps g i) x y then .ok (.bl true) g else f x y g
theorem oEqN_yes {f : Op2} {i : Nat} {x y : D} (h : TupP (EqP ps g i) x y) : oEqN ps i f x y g = .ok (.bl true) g := if_pos h
def rEqN (K : PySem.W.Frag) (ps : List (Str × Fn)) (i : Nat) : R2 := fun x y H Q => ∃ m g dx dy, Rel K m g H ∧ Den K m dx x ∧ Den K m dy y ∧ TupP (EqP ps g i) dx dy ∧ ∀ m1 H1, Le m m1 → Rel K m1 g H1 → Q (.bl true) H1
theorem op_eqN {i : Nat} (CF : CmF tf X.prog X.w X.K X.mg own "__eq__" k ps) (TB : TbB X.base X.mg tf X.K) (gd : Gd X.A) (hr : Room j X.A) (hj : k + i + 1 ≤ j) : OpR X (compareOp .Eq) (rEqN X.K ps i) := by
  intro pins s σ H x y v u Q I rx ry h
  obtain ⟨m, g, dx, dy, rl, hx, hy, p, q⟩ := h
  show wpAny _ _ (richCompare .Eq _ _) _ _ _
  refine wpAny_mono (rcS_tup (eqS_P (g := g) CF TB i) X.A pins s σ H m dx dy x y v u ⟨hr.mono hj, rfl, gd⟩ I rx ry rl hx hy p) (fun r s' z => ?_) fun _ _ x => x
  obtain ⟨hr', m1, H1, I1, r1, l1⟩ := z
  subst hr'
  exact ⟨.bl true, H1, I1, rfl, q m1 H1 l1 r1⟩
theorem oEqN_s {K : PySem.W.Frag} {r : R2} {f : Op2} {i : Nat} (hs : OpS K W r f) : OpS K W (fun x y H Q => rEqN K ps i x y H Q ∨ r x y H Q) (oEqN ps i f) := fun σv m g H d e x y Q rl hd he p => by
  unfold oEqN at p
  split at p
  · rename_i h
    exact .inl ⟨m, g, d, e, rl, hd, he, h, fun m1 H1 l r1 => p m1 H1 (.bl true) l r1 .bl⟩
  · exact .inr (hs σv m g H d e x y Q rl hd he p)
end
end AW
/-! Bk5: a stored variable as a target: o.a, o.b = e. -/
namespace AW
open PySem PySem.Spec PyProof.Rows L2
def gvFld (tb : STab) (f : Str) (o : Ev) : Gv := fun d σ g => match o σ g with
  | .ok ov g1 => match putFld tb f ov d g1 with
    | some g2 => some (σ, g2)
    | none => none
  | _ => none
section
variable {X : Cx} {W : WX} {tb : STab} {f : Str} {pos : Pos} {o : Expr} {eo : Ev}
theorem g_fld (F : SlF tb X.K) (ho : PE X o (tE X.K W eo)) : PG X (.Attribute o f pos) (tGt X.K (gvFld tb f eo)) := by
  refine ⟨fun pins s σ H v u Q I r h => ?_⟩
  obtain ⟨m, d, σ', g, rl, sl, hd, p⟩ := h
  have post : Post X.K W σ (Den X.K) (eo σ' g) m fun x H1 => ∃ a C dx q vs i, x = .ref a ∧ SlX.Slt H1 a C dx vs ∧ SlX.SCls X.K C ∧ SlX.Slot1 X.K C f q i ∧ Q σ (SlX.slH H1 a C dx (SlX.putS i v vs)) := by
    unfold gvFld at p
    cases h1 : eo σ' g with
    | no => rw [h1] at p; exact p.elim
    | ex e g1 => rw [h1] at p; exact p.elim
    | ok ov g1 =>
      rw [h1] at p
      dsimp only at p
      intro m1 H1 x l1 r1 d1
      split at p
      · rename_i g2 h2
        obtain ⟨a, C, dx, q, vs, i, e1, e2, e3, e4, e5⟩ := putFld_s F r1 d1 (hd.mono l1) h2
        exact ⟨a, C, dx, q, vs, i, e1, e2, e3, e4, p m1 _ σ l1 e5 (sl.mono l1)⟩
      · exact p.elim
  rw [assign_Attribute]
  refine wpAny_bind (wpAny_holding (thn (ho.run pins s σ H _ I ⟨m, σ', g, rl, sl.1, sl.2, post⟩) fun ov s1 ⟨x, H1, I1, r1, a, C, dx, q, vs, i, ex, hsl, c, t, q2⟩ => ?_))
  subst ex
  obtain rfl : ov = Value.ref a := r1
  exact wpAny_bind (wpAny_standAt (wpAny_bind (wpAny_holding (SlX.setslot_ok I1 hsl c t r fun s2 I2 => wpAny_release ⟨σ, _, I2, q2⟩))))
end
end AW
/-! Bk8: bool(x) of an own instance with __bool__; any(xs) of a tuple or list of whole numbers. -/
namespace AW
open PySem PySem.Spec PyProof.Rows L2
section
variable {prog : Program} {w : World}
theorem bool_new_in (a : Addr) : MeetsIn prog w (Builtin.«bool.__new__» ⟨[.type "bool", .ref a], []⟩) (fun A R s => wpAny (model prog w) A.in1 (truthy (.ref a)) (fun b s' => R (.ok (.ret (.bool b))) s') (fun e s' => R (.error e) s') s) :=
  .of_wp fun A R s hs => by
    have f1 := F.conv_sub_bool
    obtain ⟨hp, g, d, tk, os⟩ := s
    unfold Builtin.«bool.__new__»
    dsimp only
    repeat (any_goals (first | assumption | (with_reducible refine wpAny_bind (m := truthy (.ref a)) (wpAny_mono hs (fun b s' hb => ?_) fun _ _ y => y)) | wp_step))
    all_goals first | exact ⟨_, rfl, hb⟩ | exact hb | skip
theorem call_bool_ref {A : Around} {E : Value → Shared → Prop} {s : Shared} {a : Addr} {Q : Value → Shared → Prop}
    (h : wpAny (model prog w) A.in1.in1 (truthy (.ref a)) (fun b s' => Q (.bool b) s') E s) : wpAny (model prog w) A (call (.type "bool") [.ref a]) Q E s :=
  callType_newIn F.called_bool F.newNe_bool (F.typeCall_bool_1 _) (F.newCall_bool_1 _) (fun obj => F.args_object_init_2 obj _) F.entry_bool_new (bool_new_in a)
    (wpAny_mono h (fun b s' hb => ⟨rfl, hb⟩) fun _ _ y => y)
end
def bolB (c : Str) (K : PySem.W.Frag) : Bool := decide (PySem.W.findIn K (.ref (ga K c)) "__bool__" = some (some (.ref (He.ma K (ga K c) "__bool__")))) && PySem.W.isFn K (.ref (He.ma K (ga K c) "__bool__"))
def BlF (tf : List He.Defn) (P : Program) (w : World) (K : PySem.W.Frag) (mg : Str → Option Value) (k : Nat) (ps : List (Str × Fn)) : Prop := ∀ q ∈ ps, bolB q.1 K = true ∧ OkA tf P w K mg (He.ma K (ga K q.1) "__bool__") k q.2
theorem blF_nil {tf : List He.Defn} {P : Program} {w : World} {K : PySem.W.Frag} {mg : Str → Option Value} {k : Nat} : BlF tf P w K mg k [] := fun _ h => nomatch h
theorem blF_cons {tf : List He.Defn} {P : Program} {w : World} {K : PySem.W.Frag} {mg : Str → Option Value} {j k : Nat} {ps : List (Str × Fn)} {c : Str} {fn : Fn} (hp : bolB c K = true) (o : OkA tf P w K mg (He.ma K (ga K c) "__bool__") j fn) (hj : j ≤ k)
    (r : BlF tf P w K mg k ps) : BlF tf P w K mg k ((c, fn) :: ps) := fun q hq => by
  rcases List.mem_cons.mp hq with e | e
  · subst e
    exact ⟨hp, o.mono hj⟩
  · exact r q e
def fBoolO (ps : List (Str × Fn)) : Fn := fun ds g => match ds with
  | [x] => match insOf g x with
    | some c => match prOf ps c with
      | some fn => (noEx (fn [x] g)).bind fun d g1 => match d with
        | .bl b => .ok (.bl b) g1
        | _ => .no
      | none => .no
    | none => fBool [x] g
  | _ => .no
section
variable {X : Cx} {W : WX} {tf : List He.Defn} {ps : List (Str × Fn)} {j k : Nat}
def rBoolO (K : PySem.W.Frag) (ps : List (Str × Fn)) : List V → Hp → VK → Prop := fun xs H Q => (∃ a c fn dx vs, xs = [.ref a] ∧ prOf ps c = some fn ∧ SlX.Slt H a (ga K c) dx vs ∧ spOf K fn [.ref a] H (fun v H' => ∃ b, v = V.bl b ∧ Q (V.bl b) H') fun _ _ _ => False) ∨
  ((∃ i, xs = [.int i] ∧ Q (.bl (i != 0)) H) ∨ ∃ k, xs = [.bl k] ∧ Q (.bl k) H)
theorem cr_boolO (BF : BlF tf X.prog X.w X.K X.mg k ps) (TB : TbB X.base X.mg tf X.K) (gd : Gd X.A) (hr : Room j X.A) (hj : k + 2 ≤ j) : CallR X (.type "bool") (rBoolO X.K ps) := by
  intro pins s σ H xs us Q I r h
  rcases h with ⟨a, c, fn, dx, vs, rfl, hfn, ha, q⟩ | h
  · rw [Vals.ref1 r]
    obtain ⟨hb, h4, h5⟩ := BF _ (prOf_mem hfn)
    unfold bolB at hb
    simp only [Bool.and_eq_true, decide_eq_true_eq] at hb
    obtain ⟨sl, od, _, J, _⟩ := SlX.slt_inst I ha
    obtain ⟨m, hF⟩ := I.fr
    refine call_bool_ref (PySem.W.truthy_K hF I.ok.mod.kin J hb.1 hb.2 ?_)
    refine wpAny_call (codeAny_mono (h5 X.base TB X.A.in1.in1 X.stack s H [.ref a] [.ref a] _ _ ((hr.mono hj).in1.in1) (gd_in1 (gd_in1 gd)) I.env0.in1.in1 (.cons rfl .nil) q) fun z s' hz => ?_)
    match z, hz with
    | .error e, hz =>
      obtain ⟨_, _, _, _, _, _, _, _, _, _, _, _, z⟩ := hz
      exact z.elim
    | .ok (.ret u), hz =>
      obtain ⟨v, H', I2, rv, b, rfl, q⟩ := I.after hz
      cases (show u = Value.bool b from rv)
      exact ⟨V.bl b, H', I2, rfl, q⟩
    | .ok .next, hz => exact hz.elim
    | .ok .brk, hz => exact hz.elim
    | .ok .cont, hz => exact hz.elim
  · exact call_bool1 pins s σ H xs us Q I r h
theorem fBoolO_s {K : PySem.W.Frag} {W : WX} : CalS K W (rBoolO K ps) (fBoolO ps) := fun σv m g H ds xs Q rl hd p => by
  unfold fBoolO at p
  split at p
  · rename_i x
    obtain ⟨v, ws, rfl, h1, h2⟩ := hd.consV
    obtain rfl := h2.nilV
    split at p
    · rename_i c hc
      obtain ⟨a, dx, ws, rfl, h3⟩ := insOf_s rl h1 hc
      split at p
      · rename_i fn hfn
        refine .inl ⟨a, c, fn, dx, ws, rfl, hfn, h3, m, g, _, rl, .cons h1 .nil, ?_⟩
        have p2 := Post.bind (R := Den K) (R' := Den K) (P := fun v H' => ∃ b, v = V.bl b ∧ Q (V.bl b) H') p fun d g1 m1 H1 v l1 r1 d1 p1 => by
          cases d1 with
          | bl => exact ⟨_, rfl, p1 m1 H1 _ (Le.refl m1) r1 .bl⟩
          | _ => exact p1.elim
        exact noEx_s p2
      · exact p.elim
    · exact .inr (fBool_s σv m g H _ _ Q rl (.cons h1 .nil) p)
  · exact p.elim
end
/-! any(xs) of whole numbers -/
theorem truth_ints {prog : Program} {w : World} {A : Around} {ns : List Int} {its : List Value} (e : Vals (ns.map V.int) its) :
    TruthOf prog w A (fun i v => its.toArray[i]? = some v) (fun i => (ns.map fun n => n != 0).getD i false) := fun i v s Q E hv hq => by
  have hv' : its[i]? = some v := by simpa using hv
  have hl := e.length
  have hi : i < its.length := by
    by_cases z : i < its.length
    · exact z
    · rw [List.getElem?_eq_none (by omega)] at hv'; cases hv'
  rw [List.length_map] at hl
  have hn : ns[i]? = some (ns[i]'(by omega)) := List.getElem?_eq_getElem _
  generalize ns[i]'(by omega) = n at hn
  obtain ⟨u, hu, t, rfl⟩ := e.get (x := V.int n) (i := i) (by rw [List.getElem?_map, hn]; rfl)
  rw [hv'] at hu
  cases hu
  have hg : (ns.map fun n => n != 0).getD i false = (n != 0) := by rw [List.getD_eq_getElem?_getD, List.getElem?_map, hn] <;> rfl
  have hq' : Q ((ns.map fun n => n != 0).getD i false) s := hq
  rw [hg] at hq'
  exact P.truthy_int hq'
theorem iter_anyT {prog : Program} {w : World} {A : Around} {E : Value → Shared → Prop} {s : Shared} {l : Addr} {items : Array Value} {Q : Value → Shared → Prop} (hl : s.heap.IsTuple l items)
    (h : ∀ s₂ : Shared, s₂ = { s with heap := s.heap.push { cls := .type "tuple_iterator", data := .fields #[.ref l, .int 0 0] } } →
      (s₂.heap.IsTupleIter s.heap.objs.size l 0 ∧ s₂.heap.IsTuple l items) → l ≠ s.heap.objs.size → Q (.ref s.heap.objs.size) s₂) : wpAny (model prog w) A (pyIter (.ref l)) Q E s := by
  have hlt : l < s.heap.objs.size := by obtain ⟨_, e, _⟩ := hl; exact Heap.lt_size e
  obtain ⟨o, ho, hc, n, hd⟩ := hl
  exact wpAny_pyIter_tuple ⟨o, ho, hc, n, hd⟩ (h _ rfl ⟨⟨_, Heap.get?_push_size _ rfl, rfl, rfl⟩, ⟨o, Heap.get?_push_of_some _ ho, hc, n, hd⟩⟩ (Nat.ne_of_lt hlt))
section
variable {X : Cx}
def rAnyI (K : PySem.W.Frag) : List V → Hp → VK → Prop := fun vs H Q => ∃ (a : Addr) (ns : List Int), vs = [V.ref a] ∧ (SqL K H a (ns.map V.int) ∨ SqT K H a (ns.map V.int)) ∧ Q (.bl (ns.any fun n => n != 0)) H
theorem any_ints (ns : List Int) : (List.range ns.length).any (fun i => (ns.map fun n => n != 0).getD i false) = ns.any fun n => n != 0 := by
  have := any_range (ns.map fun n => n != 0)
  rw [List.length_map] at this
  rw [this, List.any_map]
  rfl
theorem cr_anyI (hc : X.calm = true) : CallR X (.builtin "any") (rAnyI X.K) := by
  intro pins s σ H vs us Q I r h
  obtain ⟨a, ns, rfl, hs, q⟩ := h
  rw [Vals.ref1 r]
  rcases hs with hs | hs
  · obtain ⟨its, rv, hl, _⟩ := I.list hs
    have len := rv.length
    refine call_any_walk (iter_any hl.isList fun s₂ e2 st hne => ?_)
    subst e2
    refine ⟨_, _, _, _, _, _, _, rfl, Walks.list (A := X.A.in1) (I.ok.hd hc) _ a hne its.toArray, st, truth_ints rv, fun h' tk hk => ?_⟩
    refine ⟨.bl _, H, I.kept fun b o eo => hk b o (fun hmem => ?_) (Heap.get?_push_of_some _ eo), ?_, q⟩
    · rcases List.mem_cons.mp hmem with e1 | hmem
      · exact absurd (e1 ▸ Heap.lt_size eo) (Nat.lt_irrefl _)
      · cases hmem
    · show Value.bool _ = Value.bool _
      rw [List.length_map] at len
      rw [← any_ints, List.size_toArray, ← len]
  · obtain ⟨its, rv, hl, _⟩ := I.tuple hs
    have len := rv.length
    obtain ⟨o, ho, hcl, n, hd⟩ := hl
    refine call_any_walk (iter_anyT ⟨o, ho, hcl, n, hd⟩ fun s₂ e2 st hne => ?_)
    subst e2
    refine ⟨_, _, _, _, _, _, _, rfl, Walks.tuple (A := X.A.in1) (I.ok.hd hc) _ a hne its.toArray, st, truth_ints rv, fun h' tk hk => ?_⟩
    refine ⟨.bl _, H, I.kept fun b o eo => hk b o (fun hmem => ?_) (Heap.get?_push_of_some _ eo), ?_, q⟩
    · rcases List.mem_cons.mp hmem with e1 | hmem
      · exact absurd (e1 ▸ Heap.lt_size eo) (Nat.lt_irrefl _)
      · cases hmem
    · show Value.bool _ = Value.bool _
      rw [List.length_map] at len
      rw [← any_ints, List.size_toArray, ← len]
/-- any: bools as ever, whole numbers too -/
def fAnyI : Fn := fun ds g => match ds with
  | [.tup xs] => match intsOf xs with
    | some is => .ok (.bl (is.any fun n => n != 0)) g
    | none => .no
  | [d] => match lqOf g d with
    | some xs => match intsOf xs with
      | some is => .ok (.bl (is.any fun n => n != 0)) g
      | none => fAny [d] g
    | none => .no
  | _ => .no
theorem fAnyI_s {K : PySem.W.Frag} {W : WX} : CalS K W (fun vs H Q => rAny K vs H Q ∨ rAnyI K vs H Q) fAnyI := fun σv m g H ds xs Q rl hd p => by
  unfold fAnyI at p
  split at p
  · obtain ⟨v, ws, rfl, h1, h2⟩ := hd.consV
    obtain rfl := h2.nilV
    split at p
    · rename_i is hi
      cases h1 with
      | tup h3 h4 => exact .inr ⟨_, is, rfl, .inr (by rw [← intsOf_s h4 hi]; exact rl.seqT h3), fin_ok rl .bl p⟩
    · exact p.elim
  · obtain ⟨v, ws, rfl, h1, h2⟩ := hd.consV
    obtain rfl := h2.nilV
    split at p
    · rename_i ys hx
      obtain ⟨a, vs, rfl, h3, h4⟩ := lqOf_s rl h1 hx
      split at p
      · rename_i is hi
        exact .inr ⟨a, is, rfl, .inl (by rw [← intsOf_s h4 hi]; exact h3), fin_ok rl .bl p⟩
      · exact .inl (fAny_s σv m g H _ _ Q rl (.cons h1 .nil) p)
    · exact p.elim
  · exact p.elim
end
end AW
/-! Ap: what is due behind an evaluator, backwards (plain; no program in sight). -/
namespace AW
open PySem PySem.Spec L2
def Res.wp {α : Type} (r : Res α) (Q : α → G → Prop) : Prop := match r with
  | .ok a g => Q a g
  | _ => False
def SRes.wp (r : SRes) (N : Sg → G → Prop) (R : D → G → Prop) (B C : Sg → G → Prop) : Prop := match r with
  | .nx σ g => N σ g
  | .rt d g => R d g
  | .bk σ g => B σ g
  | .ct σ g => C σ g
  | _ => False
theorem Res.wp_mono {α : Type} {r : Res α} {Q Q' : α → G → Prop} (h : r.wp Q) (k : ∀ a g, Q a g → Q' a g) : r.wp Q' := by
  cases r <;> first | exact k _ _ h | exact h.elim
theorem SRes.wp_mono {r : SRes} {N N' B B' C C' : Sg → G → Prop} {R R' : D → G → Prop} (h : r.wp N R B C) (n : ∀ σ g, N σ g → N' σ g) (k : ∀ d g, R d g → R' d g) (b : ∀ σ g, B σ g → B' σ g) (c : ∀ σ g, C σ g → C' σ g) : r.wp N' R' B' C' := by
  cases r <;> first | exact n _ _ h | exact k _ _ h | exact b _ _ h | exact c _ _ h | exact h.elim
theorem Res.wp_eq {α : Type} {r : Res α} {Q : α → G → Prop} (h : r.wp Q) : ∃ a g, r = .ok a g ∧ Q a g := by
  cases r <;> first | exact ⟨_, _, rfl, h⟩ | exact h.elim
section
variable {α β : Type} {N B C : Sg → G → Prop} {R : D → G → Prop} {σ : Sg} {g : G} {d : D}
@[simp] theorem wp_ok {a : α} {Q : α → G → Prop} : (Res.ok a g).wp Q = Q a g := rfl
@[simp] theorem wp_no {Q : α → G → Prop} : (Res.no : Res α).wp Q = False := rfl
@[simp] theorem wp_bind {r : Res α} {f : α → G → Res β} {Q : β → G → Prop} : (r.bind f).wp Q = r.wp (fun a g1 => (f a g1).wp Q) := by cases r <;> rfl
@[simp] theorem wp_okIf {c : Bool} {a : α} {Q : α → G → Prop} : (okIf c a g).wp Q = (c = true ∧ Q a g) := by
  cases c
  · show False = _
    simp
  · show Q a g = _
    simp
@[simp] theorem wp_ite {c : Prop} [Decidable c] {a b : Res α} {Q : α → G → Prop} : (if c then a else b).wp Q = if c then a.wp Q else b.wp Q := by split <;> rfl
@[simp] theorem wp_nx : (SRes.nx σ g).wp N R B C = N σ g := rfl
@[simp] theorem wp_rt : (SRes.rt d g).wp N R B C = R d g := rfl
@[simp] theorem wp_bk : (SRes.bk σ g).wp N R B C = B σ g := rfl
@[simp] theorem wp_ct : (SRes.ct σ g).wp N R B C = C σ g := rfl
@[simp] theorem wp_sno : SRes.no.wp N R B C = False := rfl
@[simp] theorem wp_sbind {r : Res α} {f : α → G → SRes} : (sBind σ r f).wp N R B C = r.wp (fun a g1 => (f a g1).wp N R B C) := by cases r <;> rfl
@[simp] theorem wp_nil : (sNil σ g).wp N R B C = N σ g := rfl
@[simp] theorem wp_pass : (sPass σ g).wp N R B C = N σ g := rfl
@[simp] theorem wp_break : (sBreak σ g).wp N R B C = B σ g := rfl
@[simp] theorem wp_cont : (sCont σ g).wp N R B C = C σ g := rfl
@[simp] theorem wp_cons {a b : Sx} : (sCons a b σ g).wp N R B C = (a σ g).wp (fun σ1 g1 => (b σ1 g1).wp N R B C) R B C := by
  unfold sCons
  cases a σ g <;> rfl
theorem wp_cut {a b : Sx} (M : Sg → G → Prop) (h1 : (a σ g).wp M R B C) (h2 : ∀ σ1 g1, M σ1 g1 → (b σ1 g1).wp N R B C) : (sCons a b σ g).wp N R B C := by
  rw [wp_cons]
  exact SRes.wp_mono h1 h2 (fun _ _ q => q) (fun _ _ q => q) fun _ _ q => q
@[simp] theorem wp_expr {e : Ev} : (sExpr e σ g).wp N R B C = (e σ g).wp (fun _ g1 => N σ g1) := by unfold sExpr; rw [wp_sbind]; rfl
@[simp] theorem wp_ret {e : Ev} : (sRet e σ g).wp N R B C = (e σ g).wp R := by unfold sRet; rw [wp_sbind]; rfl
@[simp] theorem wp_retN : (sRetN σ g).wp N R B C = R .non g := rfl
def pick {α : Type} (c : Bool) (a b : α) : α := match c with
  | true => a
  | false => b
@[simp] theorem pick_t {α : Type} {a b : α} : pick true a b = a := rfl
@[simp] theorem pick_f {α : Type} {a b : α} : pick false a b = b := rfl
theorem pick_dec {p : Prop} [Decidable p] {a b : Prop} (h1 : p → a) (h2 : ¬p → b) : pick (decide p) a b := by
  by_cases h : p
  · rw [decide_eq_true h]; exact h1 h
  · rw [decide_eq_false h]; exact h2 h
theorem pick_bool {c : Bool} {a b : Prop} (h1 : c = true → a) (h2 : c = false → b) : pick c a b := by
  cases c
  · exact h2 rfl
  · exact h1 rfl
@[simp] theorem wp_if {c : Tv} {a b : Sx} : (sIf c a b σ g).wp N R B C = (c σ g).wp (fun k g1 => pick k ((a σ g1).wp N R B C) ((b σ g1).wp N R B C)) := by
  unfold sIf
  rw [wp_sbind]
  congr
  funext k g1
  cases k <;> rfl
@[simp] theorem wp_set {i : Nat} {e : Ev} : (sSet i e σ g).wp N R B C = (e σ g).wp (fun d g1 => N (σ.set i (some d)) g1) := by unfold sSet; rw [wp_sbind]; rfl
@[simp] theorem wp_par {i j : Nat} {a b : Ev} : (sPar i j (aCons a (aCons b aNil)) σ g).wp N R B C = (a σ g).wp (fun x g1 => (b σ g1).wp fun y g2 => N ((σ.set i (some x)).set j (some y)) g2) := by
  unfold sPar
  rw [wp_sbind]
  simp only [aCons, aNil, wp_bind, wp_ok]
  rfl
@[simp] theorem wp_par3 {i j k : Nat} {a b c : Ev} : (sPar3 i j k (aCons a (aCons b (aCons c aNil))) σ g).wp N R B C = (a σ g).wp (fun x g1 => (b σ g1).wp fun y g2 => (c σ g2).wp fun z g3 => N (((σ.set i (some x)).set j (some y)).set k (some z)) g3) := by
  unfold sPar3
  rw [wp_sbind]
  simp only [aCons, aNil, wp_bind, wp_ok]
  rfl
def gvP (r : Option (Sg × G)) (N : Sg → G → Prop) : Prop := match r with
  | some (σ, g) => N σ g
  | none => False
@[simp] theorem wp_asg {e : Ev} {gv : Gv} : (sAsg e gv σ g).wp N R B C = (e σ g).wp (fun d g1 => gvP (gv d σ g1) N) := by
  unfold sAsg
  rw [wp_sbind]
  congr
  funext d g1
  unfold gvP
  cases gv d σ g1 <;> rfl
@[simp] theorem gvP_name {i : Nat} : gvP (gvName i d σ g) N = N (σ.set i (some d)) g := rfl
@[simp] theorem gvP_tup {n : Nat} {b : Gvs} {ds : List D} : gvP (gvTup n b (.tup ds) σ g) N = (if ds.length = n then gvP (b ds σ g) N else False) := by
  show gvP (if _ then _ else _) N = _
  split <;> rfl
@[simp] theorem gvP_sqT {n : Nat} {b : Gvs} {ds : List D} : gvP (gvSq n b (.tup ds) σ g) N = (if ds.length = n then gvP (b ds σ g) N else False) := by
  show gvP (if _ then _ else _) N = _
  split <;> rfl
@[simp] theorem gvP_sqL {n : Nat} {b : Gvs} {ds : List D} : gvP (gvSq n b (.lst ds) σ g) N = (if ds.length = n then gvP (b ds σ g) N else False) := by
  show gvP (if _ then _ else _) N = _
  split <;> rfl
@[simp] theorem gvP_nil : gvP (gvNil [] σ g) N = N σ g := rfl
@[simp] theorem gvP_cons {a : Gv} {b : Gvs} {ds : List D} : gvP (gvCons a b (d :: ds) σ g) N = gvP (a d σ g) (fun σ1 g1 => gvP (b ds σ1 g1) N) := by
  show gvP (match a d σ g with | some (σ1, g1) => b ds σ1 g1 | none => none) N = _
  cases a d σ g <;> rfl
/-- a[i] = e -/
def setP (o i d : D) (g : G) (N : G → Prop) : Prop := match setAt o i d g with
  | some g1 => N g1
  | none => False
@[simp] theorem gvP_sub {o i : Ev} : gvP (gvSub o i d σ g) N = (o σ g).wp fun ov g1 => (i σ g1).wp fun iv g2 => setP ov iv d g2 fun g3 => N σ g3 := by
  unfold gvSub
  cases o σ g <;> first | rfl | skip
  rename_i ov g1
  dsimp only
  show _ = (i σ g1).wp _
  cases i σ g1 <;> first | rfl | skip
  rename_i iv g2
  dsimp only
  show _ = setP ov iv d g2 _
  unfold setP gvP
  cases setAt ov iv d g2 <;> rfl
theorem setP_at {k : Nat} {j : Int} {xs : List D} {M : G → Prop} (n : Nat) (hk : g[k]? = some (.lst xs)) (hn : ixN xs.length j = some n) : setP (.ref k) (.int j) d g M = M (g.set k (.lst (xs.set n d))) := by
  have h1 : lmOf g k = some xs := by unfold lmOf; rw [hk]
  unfold setP setAt
  dsimp only
  rw [h1]
  dsimp only
  rw [hn]
@[simp] theorem eVar_0 {s : Sg} : eVar 0 (some d :: s) g = .ok d g := rfl
@[simp] theorem eVar_succ {i : Nat} {x : Option D} {s : Sg} : eVar (i + 1) (x :: s) g = eVar i s g := rfl
@[simp] theorem eC_ok : eC d σ g = .ok d g := rfl
@[simp] theorem aNil_ok : aNil σ g = .ok [] g := rfl
variable {Q : D → G → Prop} {QB : Bool → G → Prop} {QL : List D → G → Prop} {a b c : Ev} {ta tb : Tv} {t : Av}
@[simp] theorem wp_eOp {f : Op2} : (eOp f a b σ g).wp Q = (a σ g).wp (fun x g1 => (b σ g1).wp fun y g2 => (f x y g2).wp Q) := by unfold eOp; simp only [wp_bind]
@[simp] theorem wp_eUn {f : Op1} : (eUn f a σ g).wp Q = (a σ g).wp (fun x g1 => (f x g1).wp Q) := by unfold eUn; simp only [wp_bind]
@[simp] theorem wp_aCons : (aCons a t σ g).wp QL = (a σ g).wp (fun x g1 => (t σ g1).wp fun xs g2 => QL (x :: xs) g2) := by unfold aCons; simp only [wp_bind, wp_ok]
@[simp] theorem wp_eTup : (eTup t σ g).wp Q = (t σ g).wp (fun xs g1 => small xs = true ∧ Q (.tup xs) g1) := by unfold eTup; simp only [wp_bind, wp_okIf]
@[simp] theorem wp_eLst : (eLst t σ g).wp Q = (t σ g).wp (fun xs g1 => small xs = true ∧ Q (.lst xs) g1) := by unfold eLst; simp only [wp_bind, wp_okIf]
@[simp] theorem wp_eLstM : (eLstM t σ g).wp Q = (t σ g).wp (fun xs g1 => small xs = true ∧ Q (.ref g1.length) (g1 ++ [.lst xs])) := by unfold eLstM; simp only [wp_bind, wp_okIf]
@[simp] theorem wp_eCall {f : Fn} : (eCall f t σ g).wp Q = (t σ g).wp (fun ds g1 => (f ds g1).wp Q) := by unfold eCall; simp only [wp_bind]
@[simp] theorem wp_eIsi {own : List Str} {k : CK} : (eIsi own k a σ g).wp Q = (a σ g).wp (fun d g1 => (fIsi own k d g1).wp Q) := by unfold eIsi; simp only [wp_bind]
def tstP (d : D) (g : G) (Q : Bool → G → Prop) : Prop := match d with
  | .bl c => Q c g
  | _ => False
@[simp] theorem tstP_bl {k : Bool} : tstP (.bl k) g QB = QB k g := rfl
@[simp] theorem wp_eTst : (eTst a σ g).wp QB = (a σ g).wp (fun d g1 => tstP d g1 QB) := by
  unfold eTst
  rw [wp_bind]
  congr
  funext d g1
  cases d <;> rfl
def truP (d : D) (g : G) (Q : Bool → Prop) : Prop := match truth g d with
  | some c => Q c
  | none => False
@[simp] theorem truP_bl {k : Bool} {Q : Bool → Prop} : truP (.bl k) g Q = Q k := rfl
@[simp] theorem truP_int {k : Int} {Q : Bool → Prop} : truP (.int k) g Q = Q (k != 0) := rfl
@[simp] theorem truP_non {Q : Bool → Prop} : truP .non g Q = Q false := rfl
@[simp] theorem truP_tup {xs : List D} {Q : Bool → Prop} : truP (.tup xs) g Q = Q (!xs.isEmpty) := rfl
@[simp] theorem truP_lst {xs : List D} {Q : Bool → Prop} : truP (.lst xs) g Q = Q (!xs.isEmpty) := rfl
@[simp] theorem truP_seq {xs : List D} {Q : Bool → Prop} : truP (.seq xs) g Q = Q (!xs.isEmpty) := rfl
theorem wp_trR : (trR g d).wp QB = truP d g (fun c => QB c g) := by
  unfold trR truP
  cases truth g d <;> rfl
@[simp] theorem wp_eTru : (eTru a σ g).wp QB = (a σ g).wp (fun d g1 => truP d g1 fun c => QB c g1) := by
  unfold eTru
  rw [wp_bind]
  congr
  funext d g1
  exact wp_trR
@[simp] theorem wp_eAndT : (eAndT ta tb σ g).wp QB = (ta σ g).wp (fun k g1 => pick k ((tb σ g1).wp QB) (QB false g1)) := by
  unfold eAndT
  rw [wp_bind]
  congr
  funext k g1
  cases k <;> rfl
@[simp] theorem wp_eOrT : (eOrT ta tb σ g).wp QB = (ta σ g).wp (fun k g1 => pick k (QB true g1) ((tb σ g1).wp QB)) := by
  unfold eOrT
  rw [wp_bind]
  congr
  funext k g1
  cases k <;> rfl
@[simp] theorem wp_eNotT : (eNotT ta σ g).wp QB = (ta σ g).wp (fun k g1 => QB (!k) g1) := by unfold eNotT; simp only [wp_bind, wp_ok]
@[simp] theorem wp_eAnd : (eAnd a b σ g).wp Q = (a σ g).wp (fun d g1 => truP d g1 fun k => pick k ((b σ g1).wp Q) (Q d g1)) := by
  unfold eAnd
  rw [wp_bind]
  congr
  funext d g1
  rw [wp_bind, wp_trR]
  congr
  funext k
  cases k <;> rfl
@[simp] theorem wp_eOr : (eOr a b σ g).wp Q = (a σ g).wp (fun d g1 => truP d g1 fun k => pick k (Q d g1) ((b σ g1).wp Q)) := by
  unfold eOr
  rw [wp_bind]
  congr
  funext d g1
  rw [wp_bind, wp_trR]
  congr
  funext k
  cases k <;> rfl
@[simp] theorem wp_eNot : (eNot a σ g).wp Q = (a σ g).wp (fun d g1 => truP d g1 fun k => Q (.bl (!k)) g1) := by
  unfold eNot
  rw [wp_bind]
  congr
  funext d g1
  rw [wp_bind, wp_trR]
  rfl
@[simp] theorem wp_eIf : (eIf ta a b σ g).wp Q = (ta σ g).wp (fun k g1 => pick k ((a σ g1).wp Q) ((b σ g1).wp Q)) := by
  unfold eIf
  rw [wp_bind]
  congr
  funext k g1
  cases k <;> rfl
@[simp] theorem wp_eChain {f f' : Op2} : (eChain f f' a b c σ g).wp Q = (a σ g).wp (fun x g1 => (b σ g1).wp fun y g2 => (f x y g2).wp fun z g3 => tstP z g3 fun k g4 => pick k ((c σ g4).wp fun w g5 => (f' y w g5).wp Q) (Q (.bl false) g4)) := by
  unfold eChain
  rw [wp_bind]
  congr
  funext x g1
  rw [wp_bind]
  congr
  funext y g2
  rw [wp_bind]
  congr
  funext z g3
  cases z <;> first | rfl | skip
  rename_i k
  cases k
  · rfl
  · show ((c σ g3).bind _).wp Q = _
    rw [wp_bind]
    rfl
/-! operators on ints -/
variable {i j : Int}
@[simp] theorem oAdd_ii : oAdd (.int i) (.int j) g = .ok (.int (i + j)) g := rfl
@[simp] theorem oSub_ii : oSub (.int i) (.int j) g = .ok (.int (i - j)) g := rfl
@[simp] theorem oNeg_i : oNeg (.int i) g = .ok (.int (-i)) g := rfl
@[simp] theorem oMul_ii : oMul (.int i) (.int j) g = okIf (cMul i j) (.int (i * j)) g := rfl
@[simp] theorem oAddI_ii : oAddI (.int i) (.int j) g = .ok (.int (i + j)) g := rfl
theorem oMod_p (h : 0 < j) : oMod (.int i) (.int j) g = .ok (.int (i % j)) g := by
  show (if decide (j ≠ 0) = true then _ else _) = _
  rw [if_pos (decide_eq_true (by omega)), Int.fmod_eq_emod_of_nonneg i (by omega)]
theorem lg_le {i : Int} (h : i.natAbs < 2 ^ 512) : i.natAbs.log2 < 513 := by
  by_cases z : i.natAbs = 0
  · rw [z]; decide
  · have := (Nat.log2_lt z).2 h
    omega
theorem big_abs {i : Int} (h : -115792089237316195423570985008687907853269984665640564039457584007913129639936 ≤ i) (h' : i ≤ 115792089237316195423570985008687907853269984665640564039457584007913129639936) : i.natAbs < 2 ^ 512 := by
  have : i.natAbs ≤ 115792089237316195423570985008687907853269984665640564039457584007913129639936 := by omega
  exact Nat.lt_of_le_of_lt this (by decide +kernel)
theorem cMul_b (h : -115792089237316195423570985008687907853269984665640564039457584007913129639936 ≤ i) (h' : i ≤ 115792089237316195423570985008687907853269984665640564039457584007913129639936) (k : -115792089237316195423570985008687907853269984665640564039457584007913129639936 ≤ j) (k' : j ≤ 115792089237316195423570985008687907853269984665640564039457584007913129639936) : cMul i j = true := by
  have h1 := lg_le (big_abs h h')
  have h2 := lg_le (big_abs k k')
  exact decide_eq_true (by omega)
theorem oFdiv_p (h : 0 < j) (h' : j ≤ 115792089237316195423570985008687907853269984665640564039457584007913129639936) : oFdiv (.int i) (.int j) g = .ok (.int (i / j)) g := by
  show (if cDiv i j = true then _ else _) = _
  have h1 := lg_le (i := j) (big_abs (by omega) h')
  have h2 : cDiv i j = true := by
    unfold cDiv
    rw [decide_eq_true (by omega), decide_eq_true (by omega)]
    rfl
  rw [if_pos h2, Int.fdiv_eq_ediv_of_nonneg i (by omega)]
theorem oPow_c (h : cPow i j = true) : oPow (.int i) (.int j) g = .ok (.int (i ^ j.toNat)) g := if_pos h
theorem oShl_c (h : cShl i j = true) : oShl (.int i) (.int j) g = .ok (.int (i * 2 ^ j.toNat)) g := if_pos h
@[simp] theorem oLt_ii : oLt (.int i) (.int j) g = .ok (.bl (decide (i < j))) g := rfl
@[simp] theorem oLe_ii : oLe (.int i) (.int j) g = .ok (.bl (decide (i ≤ j))) g := rfl
@[simp] theorem oGt_ii : oGt (.int i) (.int j) g = .ok (.bl (decide (j < i))) g := rfl
@[simp] theorem oGe_ii : oGe (.int i) (.int j) g = .ok (.bl (decide (j ≤ i))) g := rfl
@[simp] theorem oEq_ii : oEq (.int i) (.int j) g = .ok (.bl (decide (i = j))) g := rfl
@[simp] theorem oNe_ii : oNe (.int i) (.int j) g = .ok (.bl (!decide (i = j))) g := rfl
@[simp] theorem oEq_bb {p q : Bool} : oEq (.bl p) (.bl q) g = .ok (.bl (decide (p = q))) g := rfl
@[simp] theorem oNe_bb {p q : Bool} : oNe (.bl p) (.bl q) g = .ok (.bl (!decide (p = q))) g := rfl
@[simp] theorem oAnd_ii : oAnd (.int i) (.int j) g = .ok (.int (Builtin.bitAnd i j)) g := rfl
@[simp] theorem oOr_ii : oOr (.int i) (.int j) g = .ok (.int (Builtin.bitOr i j)) g := rfl
@[simp] theorem oXor_ii : oXor (.int i) (.int j) g = .ok (.int (Builtin.bitXor i j)) g := rfl
@[simp] theorem fInt_i : fInt [.int i] g = .ok (.int i) g := rfl
@[simp] theorem fInt_b {k : Bool} : fInt [.bl k] g = .ok (.int (if k then 1 else 0)) g := rfl
@[simp] theorem fAbs_i : fAbs [.int i] g = .ok (.int (if i < 0 then -i else i)) g := rfl
@[simp] theorem fMax2_ii : fMax2 [.int i, .int j] g = .ok (.int (if j > i then j else i)) g := rfl
@[simp] theorem fMin2_ii : fMin2 [.int i, .int j] g = .ok (.int (if j < i then j else i)) g := rfl
@[simp] theorem fLen_tup {xs : List D} : fLen [.tup xs] g = .ok (.int xs.length) g := rfl
@[simp] theorem fLen_lst {xs : List D} : fLen [.lst xs] g = .ok (.int xs.length) g := rfl
@[simp] theorem fLen_seq {xs : List D} : fLen [.seq xs] g = .ok (.int xs.length) g := rfl
theorem oIx_at {x : D} {xs : List D} (hs : ∀ z, x ≠ .str z) (hx : sqOf g x = some xs) (hd : atI xs i = some d) : oIx x (.int i) g = .ok d g := by
  unfold oIx
  cases x <;> first | exact absurd rfl (hs _) | (dsimp only; rw [hx]; dsimp only; rw [hd])
theorem atI_n {xs : List D} {n : Nat} (hn : xs[n]? = some d) (h : i = n) : atI xs i = some d := by
  subst h
  have hl : n < xs.length := by
    by_cases z : n < xs.length
    · exact z
    · rw [List.getElem?_eq_none (by omega)] at hn; cases hn
  unfold atI
  rw [show ixN xs.length (n : Int) = some n by
    unfold ixN
    simp
    omega]
  exact hn
theorem oIx_lst {xs : List D} {n : Nat} (hn : xs[n]? = some d) (h : i = n) : oIx (.lst xs) (.int i) g = .ok d g := oIx_at (fun _ e => nomatch e) rfl (atI_n hn h)
theorem oIx_tup {xs : List D} {n : Nat} (hn : xs[n]? = some d) (h : i = n) : oIx (.tup xs) (.int i) g = .ok d g := oIx_at (fun _ e => nomatch e) rfl (atI_n hn h)
theorem oIx_seq {xs : List D} {n : Nat} (hn : xs[n]? = some d) (h : i = n) : oIx (.seq xs) (.int i) g = .ok d g := oIx_at (fun _ e => nomatch e) rfl (atI_n hn h)
theorem oIx_ref {xs : List D} {k n : Nat} (hk : g[k]? = some (.lst xs)) (hn : xs[n]? = some d) (h : i = n) : oIx (.ref k) (.int i) g = .ok d g :=
  oIx_at (fun _ e => nomatch e) (by show lsOf g (.ref k) = some xs; unfold lsOf; simp [lmOf, hk]) (atI_n hn h)
/-! calls -/
theorem settle_same {n : Nat} (h : g.length = n) : settle n d g = .ok d g := if_pos h
theorem settle_0 {k : Bool} : (settle 0 (.bl k) g).wp fun d _ => d = .bl k := by
  unfold settle
  split
  · rfl
  · rw [if_pos (Nat.zero_le _)]
    rfl
theorem wp_callD {n tot : Nat} {bd : Sx} {ds : List D} (hl : ds.length = n) (h : (bd (ds.map some ++ List.replicate (tot - n) none) g).wp (fun _ g1 => (settle g.length .non g1).wp Q) (fun d g1 => (settle g.length d g1).wp Q) (fun _ _ => False) fun _ _ => False) : (callD n tot bd ds g).wp Q := by
  unfold callD
  rw [if_pos hl]
  revert h
  cases bd (ds.map some ++ List.replicate (tot - n) none) g <;> intro h <;> first | exact h | exact h.elim
theorem wp_callS {n tot : Nat} {bd : Sx} {ds : List D} (hl : ds.length = n) (h : (bd (ds.map some ++ List.replicate (tot - n) none) g).wp (fun _ g1 => g1.length = g.length ∧ Q .non g1) (fun d g1 => g1.length = g.length ∧ Q d g1) (fun _ _ => False) fun _ _ => False) : (callD n tot bd ds g).wp Q :=
  wp_callD hl (SRes.wp_mono h (fun _ _ q => by rw [settle_same q.1]; exact q.2) (fun _ _ q => by rw [settle_same q.1]; exact q.2) (fun _ _ q => q) fun _ _ q => q)
theorem wp_callK {n tot : Nat} {bd : Sx} {ds : List D} (hl : ds.length = n) (h : (bd (ds.map some ++ List.replicate (tot - n) none) g).wp (fun _ g1 => Q .non g1) Q (fun _ _ => False) fun _ _ => False) : (callK n tot bd ds g).wp Q := by
  unfold callK
  rw [if_pos hl]
  revert h
  cases bd (ds.map some ++ List.replicate (tot - n) none) g <;> intro h <;> first | exact h | exact h.elim
/-! loops -/
theorem wp_next {r : SRes} {k : Sx} : (sNext r k).wp N R B C = r.wp (fun σ g => (k σ g).wp N R B C) R (fun σ g => N σ g) (fun σ g => (k σ g).wp N R B C) := by
  cases r <;> rfl
theorem wp_forL {gv : Gv} {bd : Sx} (I : Nat → Sg → G → Prop) : ∀ (xs : List D) (n : Nat) (σ : Sg) (g : G), I n σ g →
    (∀ k σ g d, xs[k]? = some d → I (n + k) σ g → gvP (gv d σ g) fun σ1 g1 => (bd σ1 g1).wp (I (n + k + 1)) R N (I (n + k + 1))) →
    (∀ σ g, I (n + xs.length) σ g → N σ g) → (sForL gv bd xs σ g).wp N R B C
  | [], n, σ, g, h, _, f => f σ g h
  | d :: ds, n, σ, g, h, k, f => by
    have h1 := k 0 σ g d rfl h
    unfold sForL
    unfold gvP at h1
    revert h1
    cases gv d σ g with
    | none => exact fun h => h.elim
    | some p =>
      obtain ⟨σ1, g1⟩ := p
      intro h1
      show (sNext (bd σ1 g1) (sForL gv bd ds)).wp N R B C
      rw [wp_next]
      have rest : ∀ σ2 g2, I (n + 1) σ2 g2 → (sForL gv bd ds σ2 g2).wp N R B C := fun σ2 g2 h2 =>
        wp_forL I ds (n + 1) σ2 g2 h2 (fun k' σ g d hd hI => by
          have := k (k' + 1) σ g d (by simpa using hd) (by rw [show n + (k' + 1) = n + 1 + k' by omega]; exact hI)
          rw [show n + (k' + 1) = n + 1 + k' by omega] at this
          exact this) (fun σ g hI => f σ g (by rw [List.length_cons, show n + (ds.length + 1) = n + 1 + ds.length by omega]; exact hI))
      exact SRes.wp_mono h1 rest (fun _ _ q => q) (fun _ _ q => q) rest
/-- a loop over a fixed list -/
theorem wp_forI {iv : Ivv} {gv : Gv} {bd : Sx} (I : Nat → Sg → G → Prop) (h : (iv σ g).wp fun v g1 => ∃ xs, v = .fix xs ∧ I 0 σ g1 ∧ (∀ k σ g d, xs[k]? = some d → I k σ g → gvP (gv d σ g) fun σ1 g1 => (bd σ1 g1).wp (I (k + 1)) R N (I (k + 1))) ∧ ∀ σ g, I xs.length σ g → N σ g) :
    (sFor iv gv bd σ g).wp N R B C := by
  unfold sFor
  rw [wp_sbind]
  refine Res.wp_mono h fun v g1 ⟨xs, e, h0, h1, h2⟩ => ?_
  subst e
  exact wp_forL I xs 0 σ g1 h0 (fun k σ g d hd hI => by rw [Nat.zero_add] at hI ⊢; exact h1 k σ g d hd hI) fun σ g hI => h2 σ g (by rw [Nat.zero_add] at hI; exact hI)
theorem wp_for {iv : Ivv} {gv : Gv} {bd : Sx} (I : Nat → Sg → G → Prop) (P : List D → Prop) (h : (iv σ g).wp fun v g1 => ∃ xs, v = .fix xs ∧ P xs ∧ I 0 σ g1)
    (k : ∀ xs k σ g d, P xs → xs[k]? = some d → I k σ g → gvP (gv d σ g) fun σ1 g1 => (bd σ1 g1).wp (I (k + 1)) R N (I (k + 1))) (f : ∀ xs σ g, P xs → I xs.length σ g → N σ g) :
    (sFor iv gv bd σ g).wp N R B C :=
  wp_forI I (Res.wp_mono h fun v g1 ⟨xs, e, p, h0⟩ => ⟨xs, e, h0, fun n σ g d => k xs n σ g d p, fun σ g => f xs σ g p⟩)
theorem wp_while {c : Tv} {bd : Sx} (I : Nat → Sg → G → Prop) (fuel n : Nat) (hn : n < fuel) (σ : Sg) (g : G) (h : I n σ g)
    (k : ∀ n σ g, I n σ g → (c σ g).wp fun q g1 => pick q ((bd σ g1).wp (fun σ2 g2 => ∃ m, m < n ∧ I m σ2 g2) R N (fun σ2 g2 => ∃ m, m < n ∧ I m σ2 g2)) (N σ g1)) : (sxWhile c bd fuel σ g).wp N R B C := by
  induction fuel generalizing n σ g with
  | zero => omega
  | succ f ih =>
    unfold sxWhile
    rw [wp_sbind]
    refine Res.wp_mono (k n σ g h) fun q g1 hq => ?_
    cases q with
    | false => exact hq
    | true =>
      have hq' : (bd σ g1).wp (fun σ2 g2 => ∃ m, m < n ∧ I m σ2 g2) R N (fun σ2 g2 => ∃ m, m < n ∧ I m σ2 g2) := hq
      revert hq'
      cases bd σ g1 <;> intro hq' <;> first | (obtain ⟨m, hm, hI⟩ := hq'; exact ih m (by omega) _ _ hI) | exact hq' | exact hq'.elim
def intP (d : D) (P : Int → Prop) : Prop := match d with
  | .int j => P j
  | _ => False
@[simp] theorem intP_i {P : Int → Prop} : intP (.int i) P = P i := rfl
@[simp] theorem wp_iRange1 {QI : Iv → G → Prop} : (iRange1 (aCons a aNil) σ g).wp QI = (a σ g).wp (fun x g1 => intP x fun j => smallI j = true ∧ QI (.fix (rangeD 0 j.toNat)) g1) := by
  unfold iRange1
  simp only [wp_bind, wp_aCons, aNil_ok, wp_ok]
  congr
  funext x g1
  cases x <;> first | rfl | exact wp_okIf
@[simp] theorem wp_iRange2 {QI : Iv → G → Prop} : (iRange2 (aCons a (aCons b aNil)) σ g).wp QI = (a σ g).wp (fun x g1 => (b σ g1).wp fun y g2 => intP x fun i => intP y fun j => (smallI i && smallI j) = true ∧ QI (.fix (rangeD i (j - i).toNat)) g2) := by
  unfold iRange2
  simp only [wp_bind, wp_aCons, aNil_ok, wp_ok]
  congr
  funext x g1
  congr
  funext y g2
  cases x <;> cases y <;> first | rfl | exact wp_okIf
@[simp] theorem wp_iSeq {QI : Iv → G → Prop} : (iSeq a σ g).wp QI = (a σ g).wp (fun x g1 => (ivOf x g1).wp QI) := by
  unfold iSeq
  simp only [wp_bind]
@[simp] theorem ivOf_tup {xs : List D} : ivOf (.tup xs) g = .ok (.fix xs) g := rfl
@[simp] theorem ivOf_lst {xs : List D} : ivOf (.lst xs) g = .ok (.fix xs) g := rfl
@[simp] theorem ivOf_seq {xs : List D} : ivOf (.seq xs) g = .ok (.fix xs) g := rfl
/-- a comprehension without tests over a fixed list, each turn with a known answer -/
theorem lcL_map {gv : Gv} {te : Ev} {s : Sg} (F : D → D) : ∀ (xs : List D) (g : G), (∀ d ∈ xs, ∃ s1, gv d s g = some (s1, g) ∧ te s1 g = .ok (F d) g) → lcL gv tvYes te s xs g = .ok (xs.map F) g
  | [], g, _ => rfl
  | d :: ds, g, h => by
    obtain ⟨s1, h1, h2⟩ := h d (List.mem_cons_self ..)
    have ih := lcL_map F ds g fun e he => h e (List.mem_cons_of_mem _ he)
    unfold lcL
    have e : lcT gv tvYes te s d g = .ok (some (F d)) g := by
      unfold lcT
      rw [h1]
      show (match te s1 g with | .ok y g3 => Res.ok (some y) g3 | _ => .no) = _
      rw [h2]
    rw [e]
    dsimp only
    rw [ih]
    rfl
@[simp] theorem wp_eLc {iv : Ivv} {gv : Gv} {tt : Tv} {te : Ev} {vs : List Nat} : (eLc iv gv tt te vs σ g).wp Q = (iv σ g).wp (fun v g1 => (noEx (lcAll gv tt te (wipeD σ vs) v g1)).wp fun ys g2 => small ys = true ∧ Q (.lst ys) g2) := by
  unfold eLc
  simp only [wp_bind, wp_okIf]
@[simp] theorem wp_noEx {α : Type} {r : Res α} {P : α → G → Prop} : (noEx r).wp P = r.wp P := by cases r <;> rfl
@[simp] theorem wp_lcL_nil {gv : Gv} {tt : Tv} {te : Ev} {s : Sg} : (lcL gv tt te s [] g).wp QL = QL [] g := rfl
theorem lcL_cons {gv : Gv} {tt : Tv} {te : Ev} {s : Sg} {ds : List D} : lcL gv tt te s (d :: ds) g = match lcT gv tt te s d g with
  | .ok o g1 => lcPut o (lcL gv tt te s ds g1)
  | _ => .no := rfl
@[simp] theorem wp_lcL_cons {gv : Gv} {tt : Tv} {te : Ev} {s : Sg} {ds : List D} : (lcL gv tt te s (d :: ds) g).wp QL = gvP (gv d s g) fun s1 g1 => (tt s1 g1).wp fun k g2 =>
    pick k ((te s1 g2).wp fun y g3 => (lcL gv tt te s ds g3).wp fun ys g4 => QL (y :: ys) g4) ((lcL gv tt te s ds g2).wp QL) := by
  rw [lcL_cons]
  unfold lcT
  cases gv d s g with
  | none => rfl
  | some p =>
    obtain ⟨s1, g1⟩ := p
    show _ = (tt s1 g1).wp _
    dsimp only
    cases tt s1 g1 with
    | no => rfl
    | ex e g2 => rfl
    | ok k g2 =>
      cases k with
      | false => rfl
      | true =>
        dsimp only
        show _ = (te s1 g2).wp _
        cases te s1 g2 with
        | no => rfl
        | ex e g3 => rfl
        | ok y g3 =>
          dsimp only
          show (lcPut (some y) _).wp QL = (lcL gv tt te s ds g3).wp _
          unfold lcPut
          dsimp only
          cases lcL gv tt te s ds g3 <;> rfl
@[simp] theorem lcAll_fix {gv : Gv} {tt : Tv} {te : Ev} {s : Sg} {xs : List D} : lcAll gv tt te s (.fix xs) g = lcL gv tt te s xs g := rfl
@[simp] theorem wipeD_nil : wipeD σ [] = σ := by rfl
@[simp] theorem wipeD_cons {i : Nat} {is : List Nat} : wipeD σ (i :: is) = (wipeD σ is).set i none := by rfl
@[simp] theorem tvYes_ok : tvYes σ g = .ok true g := rfl
/-! a cell that is changed -/
theorem get_set {k : Nat} {c c' : Cell} (h : g[k]? = some c') : (g.set k c)[k]? = some c := by
  have hl : k < g.length := by
    by_cases z : k < g.length
    · exact z
    · rw [List.getElem?_eq_none (by omega)] at h; cases h
  rw [List.getElem?_set_self hl]
end
theorem mul_bd {a b A B : Int} (h1 : 0 ≤ a) (h2 : a < A) (h3 : 0 ≤ b) (h4 : b < B) : 0 ≤ a * b ∧ a * b < A * B := by
  refine ⟨Int.mul_nonneg h1 h3, ?_⟩
  have e1 : a * b ≤ a * B := Int.mul_le_mul_of_nonneg_left (by omega) h1
  have e2 : a * B < A * B := Int.mul_lt_mul_of_pos_right h2 (by omega)
  omega
end AW
/-! Aq: plain rules for lists of whole numbers, slices, sums, comprehensions with a test. -/
namespace AW
open PySem PySem.Spec L2
abbrev natsD (L : List Nat) : List D := L.map fun (n : Nat) => D.int (n : Int)
section
variable {N B C : Sg → G → Prop} {R : D → G → Prop} {σ : Sg} {g : G} {d : D} {Q : D → G → Prop} {QL : List D → G → Prop} {a : Ev}
theorem ok_of {α : Type} {r : Res α} {x : α} (h : r.wp fun y g1 => y = x ∧ g1 = g) : r = .ok x g := by
  obtain ⟨y, g1, h1, h2, h3⟩ := Res.wp_eq h
  rw [h1, h2, h3]
@[simp] theorem wp_eSl {lo hi : Ov} : (eSl a lo hi σ g).wp Q = (a σ g).wp fun x g1 => (lo σ g1).wp fun l g2 => (hi σ g2).wp fun h g3 => (slD g3 x l h).wp Q := by
  unfold eSl
  simp only [wp_bind]
@[simp] theorem oNo_ok : oNo σ g = .ok none g := rfl
@[simp] theorem wp_oPart {QO : Option Int → G → Prop} : (oPart a σ g).wp QO = (a σ g).wp fun x g1 => intP x fun i => QO (some i) g1 := by
  unfold oPart
  rw [wp_bind]
  congr
  funext x g1
  cases x <;> rfl
theorem cut_to {xs : List D} {n : Nat} {i : Int} (e : i = n) (h : n ≤ xs.length) : cutD xs none (some i) = xs.take n := by
  subst e
  unfold cutD
  rw [HT.sIx_nat]
  show (xs.drop 0).take (min n xs.length - 0) = _
  rw [Nat.min_eq_left h]
  rfl
theorem cut_from {xs : List D} {n : Nat} {i : Int} (e : i = n) (h : n ≤ xs.length) : cutD xs (some i) none = xs.drop n := by
  subst e
  unfold cutD
  rw [HT.sIx_nat, Nat.min_eq_left h]
  show (xs.drop n).take (xs.length - n) = _
  rw [List.take_of_length_le (by rw [List.length_drop]; exact Nat.le_refl _)]
@[simp] theorem slD_lst {xs : List D} {l h : Option Int} : slD g (.lst xs) l h = .ok (.lst (cutD xs l h)) g := rfl
@[simp] theorem slD_tup {xs : List D} {l h : Option Int} : slD g (.tup xs) l h = .ok (.tup (cutD xs l h)) g := rfl
theorem oAdd_ll {xs ys : List D} : oAdd (.lst xs) (.lst ys) g = okIf (small (xs ++ ys)) (.lst (xs ++ ys)) g := rfl
theorem small_of {xs : List D} {n : Nat} (h : xs.length = n) (h2 : n ≤ 100000) : small xs = true := by
  unfold small
  rw [h]
  exact decide_eq_true h2
theorem intsOf_f {L : List Nat} {f : Nat → Int} : intsOf (L.map fun n => D.int (f n)) = some (L.map f) := by
  induction L with
  | nil => rfl
  | cons n L ih =>
    show (match intsOf (L.map fun n => D.int (f n)) with | some is => some (f n :: is) | none => none) = _
    rw [ih]
    rfl
theorem lcL_F {gv : Gv} {tt : Tv} {te : Ev} {s : Sg} (F : D → Option D) : ∀ (xs : List D) (g : G), (∀ d ∈ xs, gvP (gv d s g) fun s1 g1 => g1 = g ∧ (tt s1 g).wp fun k g2 => g2 = g ∧ k = (F d).isSome ∧ (k = true → (te s1 g).wp fun y g3 => g3 = g ∧ F d = some y)) → lcL gv tt te s xs g = .ok (xs.filterMap F) g
  | [], g, _ => rfl
  | d :: ds, g, h => by
    refine ok_of ?_
    rw [wp_lcL_cons]
    have h1 := h d (List.mem_cons_self ..)
    have ih := lcL_F F ds g fun e he => h e (List.mem_cons_of_mem _ he)
    unfold gvP at h1 ⊢
    revert h1
    cases gv d s g with
    | none => exact fun h => h
    | some p =>
      obtain ⟨s1, g1⟩ := p
      rintro ⟨rfl, h1⟩
      refine Res.wp_mono h1 fun k g2 ⟨e1, e2, h2⟩ => ?_
      subst e1
      cases k with
      | true =>
        refine Res.wp_mono (h2 rfl) fun y g3 ⟨e3, e4⟩ => ?_
        subst e3
        rw [ih, List.filterMap_cons, e4]
        exact ⟨rfl, rfl⟩
      | false =>
        show (lcL gv tt te s ds g2).wp _
        rw [ih, List.filterMap_cons]
        cases hF : F d with
        | none => exact ⟨rfl, rfl⟩
        | some y => rw [hF] at e2; cases e2
end
/-- a comprehension over a range that keeps its own number -/
def keepF (F : Nat → Bool) (d : D) : Option D := match d with
  | .int i => if F i.toNat then some d else none
  | _ => none
theorem rangeD_filter (F : Nat → Bool) : ∀ (n : Nat) (lo : Nat), (rangeD (lo : Int) n).filterMap (keepF F) = natsD ((List.range' lo n).filter F)
  | 0, lo => rfl
  | n + 1, lo => by
    have ih := rangeD_filter F n (lo + 1)
    have e : ((lo + 1 : Nat) : Int) = (lo : Int) + 1 := by omega
    rw [e] at ih
    show ((D.int lo) :: rangeD ((lo : Int) + 1) n).filterMap _ = _
    rw [List.filterMap_cons, List.range'_succ, List.filter_cons, ih]
    have e2 : keepF F (D.int (lo : Int)) = if F lo then some (D.int (lo : Int)) else none := by
      unfold keepF
      dsimp only
      rw [Int.toNat_natCast]
    rw [e2]
    cases F lo <;> rfl
theorem pys_nats (L : List Nat) : D.pys (natsD L) = some (L.map fun (n : Nat) => PyData.int (n : Int)) := by
  induction L with
  | nil => exact D.pys.eq_1
  | cons n L ih =>
    show D.pys (D.int n :: natsD L) = _
    rw [D.pys.eq_2, ih, D.py.eq_3]
    rfl
theorem fSum_nats {L : List Nat} {f : Nat → Int} {g : G} : fSum [.lst (L.map fun n => D.int (f n))] g = .ok (.int ((L.map f).sum)) g := by
  show (match intsOf (L.map fun n => D.int (f n)) with | some is => Res.ok (D.int (isum is)) g | none => .no) = _
  rw [intsOf_f]
  dsimp only
  rw [isum_eq]
theorem canLay_nats (L : List Nat) : PyData.canLayAll0 (L.map fun (n : Nat) => PyData.int (n : Int)) = true := by
  induction L with
  | nil => rw [List.map_nil, PyData.canLayAll0.eq_1]
  | cons n L ih => rw [List.map_cons, PyData.canLayAll0.eq_2, ih, PyData.canLay0.eq_3]; rfl
theorem depth_nats (L : List Nat) : PyData.depthAll (L.map fun (n : Nat) => PyData.int (n : Int)) = 0 := by
  induction L with
  | nil => rw [List.map_nil, PyData.depthAll]
  | cons n L ih => rw [List.map_cons, PyData.depthAll, ih]; simp [PyData.depth]
theorem eqv_nats : ∀ (L M : List Nat), PyData.eqvAll (L.map fun (n : Nat) => PyData.int (n : Int)) (M.map fun (n : Nat) => PyData.int (n : Int)) = decide (L = M)
  | [], [] => by rw [List.map_nil, PyData.eqvAll]; rfl
  | [], m :: M => by rw [List.map_nil, List.map_cons, PyData.eqvAll]; rfl
  | l :: L, [] => by rw [List.map_nil, List.map_cons, PyData.eqvAll]; rfl
  | l :: L, m :: M => by
    rw [List.map_cons, List.map_cons, PyData.eqvAll, eqv_nats L M, PyData.eqv]
    rw [Bool.eq_iff_iff, Bool.and_eq_true, beq_iff_eq, decide_eq_true_iff, decide_eq_true_iff, List.cons.injEq]
    constructor
    · rintro ⟨h1, h2⟩; exact ⟨by omega, h2⟩
    · rintro ⟨h1, h2⟩; exact ⟨by omega, h2⟩
theorem shaped_nats (L : List Nat) : SeqAt.shaped (.list (L.map fun (n : Nat) => PyData.int (n : Int))) = true := by
  unfold SeqAt.shaped
  rw [PyData.canLay0, canLay_nats, PyData.depth, depth_nats]
  rfl
theorem eqD_nats {g : G} {L M : List Nat} : eqD g (.lst (natsD L)) (.lst (natsD M)) = some (decide (L = M)) := by
  have h : ∀ L : List Nat, pyG g (.lst (natsD L)) = some (.list (L.map fun (n : Nat) => PyData.int (n : Int))) := fun L => by
    show D.py (.lst (natsD L)) = _
    rw [D.py, pys_nats]
  show (match pyG g (.lst (natsD L)), pyG g (.lst (natsD M)) with | some p, some q => if (SeqAt.shaped p && SeqAt.shaped q) = true then some (PyData.eqv p q) else lenNe g (.lst (natsD L)) (.lst (natsD M)) | _, _ => lenNe g (.lst (natsD L)) (.lst (natsD M))) = _
  rw [h, h]
  dsimp only
  rw [shaped_nats, shaped_nats, PyData.eqv, eqv_nats]
  rfl
theorem oEq_nats {g : G} {L M : List Nat} : oEq (.lst (natsD L)) (.lst (natsD M)) g = .ok (.bl (decide (L = M))) g := by
  unfold oEq
  rw [eqD_nats]
theorem oNe_nats {g : G} {L M : List Nat} : oNe (.lst (natsD L)) (.lst (natsD M)) g = .ok (.bl (!decide (L = M))) g := by
  unfold oNe
  rw [eqD_nats]
theorem eqD_pair {g : G} {a b c d : Int} : eqD g (.tup [.int a, .int b]) (.tup [.int c, .int d]) = some (decide (a = c) && decide (b = d)) := by
  have h : ∀ a b : Int, pyG g (.tup [.int a, .int b]) = some (.tuple [.int a, .int b]) := fun a b => rfl
  have hs : ∀ a b : Int, SeqAt.shaped (.tuple [.int a, .int b]) = true := fun a b => rfl
  show (match pyG g (.tup [.int a, .int b]), pyG g (.tup [.int c, .int d]) with | some p, some q => if (SeqAt.shaped p && SeqAt.shaped q) = true then some (PyData.eqv p q) else lenNe g (.tup [.int a, .int b]) (.tup [.int c, .int d]) | _, _ => lenNe g (.tup [.int a, .int b]) (.tup [.int c, .int d])) = _
  rw [h, h]
  dsimp only
  rw [hs, hs]
  have e : PyData.eqv (.tuple [.int a, .int b]) (.tuple [.int c, .int d]) = (decide (a = c) && decide (b = d)) := by
    show ((a == c) && ((b == d) && true)) = _
    rw [Bool.and_true]
    rfl
  rw [e]
  rfl
theorem oEq_pair {g : G} {a b c d : Int} : oEq (.tup [.int a, .int b]) (.tup [.int c, .int d]) g = .ok (.bl (decide (a = c) && decide (b = d))) g := by
  unfold oEq
  rw [eqD_pair]
theorem oNe_pair {g : G} {a b c d : Int} : oNe (.tup [.int a, .int b]) (.tup [.int c, .int d]) g = .ok (.bl (!(decide (a = c) && decide (b = d)))) g := by
  unfold oNe
  rw [eqD_pair]
theorem nats_keep (F : Nat → Bool) : ∀ L : List Nat, (natsD L).filterMap (keepF F) = natsD (L.filter F)
  | [] => rfl
  | n :: L => by
    have ih := nats_keep F L
    show ((D.int (n : Int)) :: natsD L).filterMap _ = _
    have e2 : keepF F (D.int (n : Int)) = if F n then some (D.int (n : Int)) else none := by
      unfold keepF
      dsimp only
      rw [Int.toNat_natCast]
    rw [List.filterMap_cons, List.filter_cons, ih, e2]
    cases F n <;> rfl
theorem flat_nats (L : List Nat) : (natsD L).all flatD = true := by
  rw [List.all_eq_true]
  intro d hd
  obtain ⟨n, _, rfl⟩ := List.mem_map.1 hd
  rfl
theorem inF_nats (x : Nat) (L : List Nat) : inF (.int (x : Int)) (natsD L) = decide (x ∈ L) := by
  unfold inF
  rw [Bool.eq_iff_iff, List.any_eq_true, decide_eq_true_iff]
  constructor
  · rintro ⟨d, hd, h⟩
    obtain ⟨n, hn, rfl⟩ := List.mem_map.1 hd
    have h2 : ((n : Int) == (x : Int)) = true := h
    rw [beq_iff_eq] at h2
    have : n = x := by omega
    rwa [← this]
  · intro h
    exact ⟨_, List.mem_map.2 ⟨x, h, rfl⟩, by show ((x : Int) == (x : Int)) = true; exact beq_self_eq_true _⟩
theorem oIn_nats {x : Nat} {L : List Nat} {g : G} : oIn false (.int (x : Int)) (.lst (natsD L)) g = .ok (.bl (decide (x ∈ L))) g := by
  have e : inD g (.int (x : Int)) (.lst (natsD L)) = some (false, decide (x ∈ L)) := by
    show (if (true && (natsD L).all flatD) = true then some (false, inF (.int (x : Int)) (natsD L)) else _) = _
    rw [flat_nats, inF_nats]
    rfl
  unfold oIn
  rw [e]
  rfl
section
variable {N B C : Sg → G → Prop} {R : D → G → Prop} {σ : Sg} {g : G}
theorem wp_forF {iv : Ivv} {gv : Gv} {bd : Sx} (h : (iv σ g).wp fun v g1 => ∃ xs, v = .fix xs ∧ (sForL gv bd xs σ g1).wp N R B C) : (sFor iv gv bd σ g).wp N R B C := by
  unfold sFor
  rw [wp_sbind]
  refine Res.wp_mono h fun v g1 ⟨xs, e, h1⟩ => ?_
  subst e
  exact h1
@[simp] theorem wp_forL_nil {gv : Gv} {bd : Sx} : (sForL gv bd [] σ g).wp N R B C = N σ g := rfl
@[simp] theorem wp_forL_cons {gv : Gv} {bd : Sx} {d : D} {ds : List D} : (sForL gv bd (d :: ds) σ g).wp N R B C = gvP (gv d σ g) fun σ1 g1 => (bd σ1 g1).wp (fun σ2 g2 => (sForL gv bd ds σ2 g2).wp N R B C) R N (fun σ2 g2 => (sForL gv bd ds σ2 g2).wp N R B C) := by
  show (match gv d σ g with | some (σ1, g1) => sNext (bd σ1 g1) (sForL gv bd ds) | none => SRes.no).wp N R B C = _
  unfold gvP
  cases gv d σ g with
  | none => rfl
  | some q => exact wp_next
end
end AW
/-! Bcp: plain rules of comprehensions with two fors. -/
namespace AW
open PySem PySem.Spec L2
theorem wp_eLc2 {iv iv1 : Ivv} {gv gv1 : Gv} {tt tt1 : Tv} {te : Ev} {vs vs1 : List Nat} {σ : Sg} {g : G} {Q : D → G → Prop} (h : (iv σ g).wp fun v g1 => ∃ ds, v = .fix ds ∧ (lc2L gv tt iv1 gv1 tt1 te vs1 (wipeD σ vs) ds g1).wp fun ys g2 => small ys = true ∧ Q (.lst ys) g2) :
    (eLc2 iv gv tt iv1 gv1 tt1 te vs vs1 σ g).wp Q := by
  unfold eLc2
  rw [wp_bind]
  refine Res.wp_mono h fun v g1 ⟨ds, e, h1⟩ => ?_
  subst e
  show ((noEx (lc2L gv tt iv1 gv1 tt1 te vs1 (wipeD σ vs) ds g1)).bind _).wp Q
  rw [wp_bind, wp_noEx]
  refine Res.wp_mono h1 fun ys g2 h2 => ?_
  rw [wp_okIf]
  exact h2
/-- each turn with a known answer -/
theorem lc2L_map {gv gv1 : Gv} {tt tt1 : Tv} {iv1 : Ivv} {te : Ev} {vs1 : List Nat} {s : Sg} (F : D → List D) : ∀ (xs : List D) (g : G), (∀ d ∈ xs, ∃ s1 ds1, gv d s g = some (s1, g) ∧ tt s1 g = .ok true g ∧ iv1 s1 g = .ok (.fix ds1) g ∧ lcL gv1 tt1 te (wipeD s1 vs1) ds1 g = .ok (F d) g) →
    lc2L gv tt iv1 gv1 tt1 te vs1 s xs g = .ok (xs.flatMap F) g
  | [], g, _ => rfl
  | d :: ds, g, h => by
    obtain ⟨s1, ds1, h1, h2, h3, h4⟩ := h d (List.mem_cons_self ..)
    have ih := lc2L_map F ds g fun e he => h e (List.mem_cons_of_mem _ he)
    unfold lc2L
    rw [h1]
    dsimp only
    rw [h2]
    dsimp only
    rw [h3]
    dsimp only
    rw [h4]
    dsimp only
    rw [ih]
    rfl
end AW
namespace LW
open PySem PySem.Spec L2 AW
def top (i : Nat) : Stmt := PySem.Challenge.pw_squaretimes_k45_errors_of_eights.main.body.getD i (.Pass ⟨0, 0, 0, 0⟩)
def tf : List (He.Defn × Str) := [(("_law_algebras_right", none), "_law_algebras_right.<locals>.<lambda>"), (("_law_ways_right", none), "_law_ways_right.<locals>.<lambda>")]
def own : List Str := ["Terms", "Ratio", "Doubled", "Parts", "Element"]
def stab : STab := [("Terms", ["own_bottom", "own_top"]), ("Ratio", ["own_bottom", "own_top"]), ("Doubled", ["own_dimension", "own_squares"]), ("Parts", ["own_bottom", "own_entries"]), ("Element", ["own_algebra", "own_bottom", "own_entries"])]
abbrev s_require_algebra : Stmt := top 47
abbrev n_require_algebra : List Str := ["value"]
def b_require_algebra : Sx := (sCons (sIf (eNotT (eTru (eIsi own (.own "Doubled") (eVar 0))))
  (sCons (sRaise0 "InvalidAlgebra")
  sNil)
  sNil)
  sNil)
def f_require_algebra : Fn := callD 1 1 b_require_algebra
abbrev s_common_of : Stmt := top 18
abbrev n_common_of : List Str := ["one", "other"]
def b_common_of : Sx := (sCons (sPar 0 1 (aCons (eCall fAbs (aCons (eVar 0) aNil)) (aCons (eCall fAbs (aCons (eVar 1) aNil)) aNil)))
  (sCons (sxWhile (eTst (eOp oNe (eVar 1) (eC (.int 0)))) (sCons (sPar 0 1 (aCons (eVar 1) (aCons (eOp oMod (eVar 0) (eVar 1)) aNil)))
  sNil) 100000)
  (sCons (sRet (eVar 0))
  sNil)))
def f_common_of : Fn := callD 2 2 b_common_of
abbrev s_lowest : Stmt := top 33
abbrev n_lowest : List Str := ["entries", "bottom", "share", "entry"]
def b_lowest : Sx := (sCons (sSet 2 (eCall fAbs (aCons (eVar 1) aNil)))
  (sCons (sFor (iSeq (eVar 0)) (gvName 3) (sCons (sSet 2 (eCall f_common_of (aCons (eVar 2) (aCons (eVar 3) aNil))))
  sNil))
  (sCons (sIf (eTst (eOp oLt (eVar 1) (eC (.int 0))))
  (sCons (sSet 2 (eUn oNeg (eVar 2)))
  sNil)
  sNil)
  (sCons (sRet (eTup (aCons (eCall fTuple (aCons (eLc (iSeq (eVar 0)) (gvName 3) tvYes (eOp oFdiv (eVar 3) (eVar 2)) [3]) aNil)) (aCons (eOp oFdiv (eVar 1) (eVar 2)) aNil))))
  sNil))))
def f_lowest : Fn := callD 2 4 b_lowest
abbrev s_Parts___init__ : Stmt := (match top 41 with | .ClassDef (body := b) .. => b.getD 1 (.Pass ⟨0, 0, 0, 0⟩) | _ => .Pass ⟨0, 0, 0, 0⟩)
abbrev n_Parts___init__ : List Str := ["self", "entries", "bottom"]
def b_Parts___init__ : Sx := (sCons (sAsg (eCall f_lowest (aCons (eVar 1) (aCons (eVar 2) aNil))) (gvSq 2 (gvCons (gvFld stab "own_entries" (eVar 0)) (gvCons (gvFld stab "own_bottom" (eVar 0)) gvNil))))
  sNil)
def f_Parts___init__ : Fn := callK 3 3 b_Parts___init__
abbrev s_is_whole : Stmt := top 15
abbrev n_is_whole : List Str := ["value"]
def b_is_whole : Sx := (sCons (sRet (eAnd (eIsi own (.bt .int) (eVar 0)) (eNot (eIsi own (.bt .bl) (eVar 0)))))
  sNil)
def f_is_whole : Fn := callD 1 1 b_is_whole
abbrev s_is_integer : Stmt := top 16
abbrev n_is_integer : List Str := ["value"]
def b_is_integer : Sx := (sCons (sRet (eAnd (eCall f_is_whole (aCons (eVar 0) aNil)) (eChain oLt oLt (eUn oNeg (eC (.int (1000000000000000000000000000000000000000000000000000000000000)))) (eVar 0) (eC (.int (1000000000000000000000000000000000000000000000000000000000000))))))
  sNil)
def f_is_integer : Fn := callD 1 1 b_is_integer
abbrev s_parts_told : Stmt := top 42
abbrev n_parts_told : List Str := ["algebra", "entries", "bottom", "entry"]
def b_parts_told : Sx := (sCons (sIf (eTru (eIsi own (.own "Parts") (eVar 1)))
  (sCons (sRet (eVar 1))
  sNil)
  sNil)
  (sCons (sIf (eOrT (eNotT (eTru (eIsi own (.bt .tup) (eVar 1)))) (eTst (eOp oNe (eCall fLen (aCons (eVar 1) aNil)) (eAttr stab [] "own_dimension" (eVar 0)))))
  (sCons (sRaise0 "InvalidElement")
  sNil)
  sNil)
  (sCons (sIf (eNotT (eTru (eCall fAll (aCons (eLc (iSeq (eVar 1)) (gvName 3) tvYes (eCall f_is_integer (aCons (eVar 3) aNil)) [3]) aNil))))
  (sCons (sRaise0 "InvalidElement")
  sNil)
  sNil)
  (sCons (sIf (eOrT (eNotT (eTru (eCall f_is_integer (aCons (eVar 2) aNil)))) (eTst (eOp oEq (eVar 2) (eC (.int 0)))))
  (sCons (sRaiseX true "InvalidNumber" "given" (eVar 2))
  sNil)
  sNil)
  (sCons (sRet (eCall (eMakeF "Parts" f_Parts___init__) (aCons (eVar 1) (aCons (eVar 2) aNil))))
  sNil)))))
def f_parts_told : Fn := callD 3 4 b_parts_told
abbrev s_Element___init__ : Stmt := (match top 43 with | .ClassDef (body := b) .. => b.getD 1 (.Pass ⟨0, 0, 0, 0⟩) | _ => .Pass ⟨0, 0, 0, 0⟩)
abbrev n_Element___init__ : List Str := ["self", "algebra", "entries", "bottom", "parts"]
def b_Element___init__ : Sx := (sCons (sExpr (eCall f_require_algebra (aCons (eVar 1) aNil)))
  (sCons (sSet 4 (eCall f_parts_told (aCons (eVar 1) (aCons (eVar 2) (aCons (eVar 3) aNil)))))
  (sCons (sFld stab "own_algebra" (eVar 0) (eVar 1))
  (sCons (sFld stab "own_bottom" (eVar 0) (eAttr stab [] "own_bottom" (eVar 4)))
  (sCons (sFld stab "own_entries" (eVar 0) (eAttr stab [] "own_entries" (eVar 4)))
  sNil)))))
def f_Element___init__ : Fn := callF 4 [(.int (1))] (callK 4 5 b_Element___init__)
abbrev s_law_trough : Stmt := top 96
abbrev n_law_trough : List Str := ["_law_script", "_law_spot", "_law_cell", "_law_great"]
def b_law_trough : Sx := (sCons (sSet 2 (eIf (eTst (eOp oLt (eVar 1) (eCall fLen (aCons (eVar 0) aNil)))) (eCall fInt (aCons (eOp oIx (eVar 0) (eVar 1)) aNil)) (eOp oAdd (eOp oMul (eC (.int 101)) (eVar 1)) (eC (.int 41)))))
  (sCons (sSet 3 (eOp oMod (eCall fInt (aCons (eCall fAbs (aCons (eVar 2) aNil)) aNil)) (eOp oPow (eOp oPow (eC (.int 10)) (eC (.int 56))) (eC (.int 5)))))
  (sCons (sRet (eLstM (aCons (eCall fMax2 (aCons (eC (.int 0)) (aCons (eOp oSub (eVar 3) (eOp oPow (eC (.int 10)) (eC (.int 16)))) aNil))) (aCons (eOp oAdd (eOp oAdd (eOp oAdd (eOp oMul (eOp oMod (eCall fInt (aCons (eVar 3) aNil)) (eC (.int 2147483629))) (eC (.int 97))) (eOp oMul (eC (.int 613)) (eVar 1))) (eOp oMul (eC (.int 23)) (eCall fInt (aCons (eOp oLt (eVar 2) (eC (.int 0))) aNil)))) (eC (.int 5))) (aCons (eC (.int 0)) aNil)))))
  sNil)))
def f_law_trough : Fn := callK 2 4 b_law_trough
abbrev s_are_squares : Stmt := top 38
abbrev n_are_squares : List Str := ["value", "entry"]
def b_are_squares : Sx := (sCons (sIf (eOrT (eNotT (eTru (eIsi own (.bt .tup) (eVar 0)))) (eOrT (eTst (eOp oGt (eCall fLen (aCons (eVar 0) aNil)) (eC (.int (4))))) (eNotT (eTru (eCall fAll (aCons (eLc (iSeq (eVar 0)) (gvName 1) tvYes (eCall f_is_integer (aCons (eVar 1) aNil)) [1]) aNil))))))
  (sCons (sRet (eC (.bl false)))
  sNil)
  sNil)
  (sCons (sRet (eCall fAll (aCons (eLc (iSeq (eVar 0)) (gvName 1) tvYes (eAnd (eOp oNe (eVar 1) (eC (.int 0))) (eChain oLe oLe (eUn oNeg (eC (.int (1000000)))) (eVar 1) (eC (.int (1000000))))) [1]) aNil)))
  sNil))
def f_are_squares : Fn := callD 1 2 b_are_squares
abbrev s_norm_weights : Stmt := top 31
abbrev n_norm_weights : List Str := ["squares", "found", "square", "weight"]
def b_norm_weights : Sx := (sCons (sSet 1 (eTup (aCons (eC (.int 1)) aNil)))
  (sCons (sFor (iSeq (eVar 0)) (gvName 2) (sCons (sSet 1 (eOp oAdd (eVar 1) (eCall fTuple (aCons (eLc (iSeq (eVar 1)) (gvName 3) tvYes (eOp oMul (eUn oNeg (eVar 2)) (eVar 3)) [3]) aNil))))
  sNil))
  (sCons (sRet (eVar 1))
  sNil)))
def f_norm_weights : Fn := callD 1 4 b_norm_weights
abbrev s_Doubled___init__ : Stmt := (match top 39 with | .ClassDef (body := b) .. => b.getD 1 (.Pass ⟨0, 0, 0, 0⟩) | _ => .Pass ⟨0, 0, 0, 0⟩)
abbrev n_Doubled___init__ : List Str := ["self", "squares"]
def b_Doubled___init__ : Sx := (sCons (sIf (eNotT (eTru (eCall f_are_squares (aCons (eVar 1) aNil))))
  (sCons (sRaise0 "InvalidAlgebra")
  sNil)
  sNil)
  (sCons (sFld stab "own_squares" (eVar 0) (eVar 1))
  (sCons (sFld stab "own_dimension" (eVar 0) (eCall fLen (aCons (eCall f_norm_weights (aCons (eVar 1) aNil)) aNil)))
  sNil)))
def f_Doubled___init__ : Fn := callK 2 2 b_Doubled___init__
abbrev s_require_integer : Stmt := top 17
abbrev n_require_integer : List Str := ["value"]
def b_require_integer : Sx := (sCons (sIf (eNotT (eTru (eCall f_is_integer (aCons (eVar 0) aNil))))
  (sCons (sRaiseX true "InvalidNumber" "given" (eVar 0))
  sNil)
  sNil)
  sNil)
def f_require_integer : Fn := callD 1 1 b_require_integer
abbrev s_Ratio___init__ : Stmt := (match top 21 with | .ClassDef (body := b) .. => b.getD 1 (.Pass ⟨0, 0, 0, 0⟩) | _ => .Pass ⟨0, 0, 0, 0⟩)
abbrev n_Ratio___init__ : List Str := ["self", "top", "bottom", "shared", "less"]
def b_Ratio___init__ : Sx := (sCons (sIf (eTru (eIsi own (.own "Terms") (eVar 1)))
  (sCons (sPar 1 2 (aCons (eAttr stab [] "own_top" (eVar 1)) (aCons (eAttr stab [] "own_bottom" (eVar 1)) aNil)))
  sNil)
  (sCons (sExpr (eCall f_require_integer (aCons (eVar 1) aNil)))
  (sCons (sExpr (eCall f_require_integer (aCons (eVar 2) aNil)))
  (sCons (sIf (eTst (eOp oEq (eVar 2) (eC (.int 0))))
  (sCons (sRaiseX true "InvalidNumber" "given" (eVar 2))
  sNil)
  sNil)
  sNil))))
  (sCons (sSet 3 (eCall f_common_of (aCons (eVar 1) (aCons (eVar 2) aNil))))
  (sCons (sSet 4 (eIf (eTst (eOp oGt (eVar 2) (eC (.int 0)))) (eVar 3) (eUn oNeg (eVar 3))))
  (sCons (sFld stab "own_top" (eVar 0) (eOp oFdiv (eVar 1) (eVar 4)))
  (sCons (sFld stab "own_bottom" (eVar 0) (eOp oFdiv (eVar 2) (eVar 4)))
  sNil)))))
def f_Ratio___init__ : Fn := callF 3 [(.int (1))] (callK 3 5 b_Ratio___init__)
abbrev s_Terms___init__ : Stmt := (match top 20 with | .ClassDef (body := b) .. => b.getD 1 (.Pass ⟨0, 0, 0, 0⟩) | _ => .Pass ⟨0, 0, 0, 0⟩)
abbrev n_Terms___init__ : List Str := ["self", "top", "bottom"]
def b_Terms___init__ : Sx := (sCons (sFld stab "own_top" (eVar 0) (eVar 1))
  (sCons (sFld stab "own_bottom" (eVar 0) (eVar 2))
  sNil))
def f_Terms___init__ : Fn := callK 3 3 b_Terms___init__
abbrev s_ratio_of : Stmt := top 22
abbrev n_ratio_of : List Str := ["top", "bottom"]
def b_ratio_of : Sx := (sCons (sRet (eCall (eMakeF "Ratio" f_Ratio___init__) (aCons (eCall (eMakeF "Terms" f_Terms___init__) (aCons (eVar 0) (aCons (eVar 1) aNil))) (aCons (eC (.int 1)) aNil))))
  sNil)
def f_ratio_of : Fn := callD 2 2 b_ratio_of
abbrev s_told_ratio : Stmt := top 25
abbrev n_told_ratio : List Str := ["value"]
def b_told_ratio : Sx := (sCons (sIf (eTru (eIsi own (.own "Ratio") (eVar 0)))
  (sCons (sRet (eVar 0))
  sNil)
  sNil)
  (sCons (sIf (eNotT (eTru (eCall f_is_integer (aCons (eVar 0) aNil))))
  (sCons (sRaise0 "InvalidRatio")
  sNil)
  sNil)
  (sCons (sRet (eCall f_ratio_of (aCons (eVar 0) (aCons (eC (.int 1)) aNil))))
  sNil)))
def f_told_ratio : Fn := callD 1 1 b_told_ratio
abbrev s_element_made : Stmt := top 44
abbrev n_element_made : List Str := ["algebra", "entries", "bottom"]
def b_element_made : Sx := (sCons (sRet (eCall (eMakeF "Element" f_Element___init__) (aCons (eVar 0) (aCons (eCall (eMakeF "Parts" f_Parts___init__) (aCons (eVar 1) (aCons (eVar 2) aNil))) aNil))))
  sNil)
def f_element_made : Fn := callF 3 [(.int (1))] (callD 3 3 b_element_made)
abbrev s_raw_scaled : Stmt := top 29
abbrev n_raw_scaled : List Str := ["entries", "factor", "entry"]
def b_raw_scaled : Sx := (sCons (sRet (eCall fTuple (aCons (eLc (iSeq (eVar 0)) (gvName 2) tvYes (eOp oMul (eVar 1) (eVar 2)) [2]) aNil)))
  sNil)
def f_raw_scaled : Fn := callD 2 3 b_raw_scaled
abbrev s_Ratio_top : Stmt := (match top 21 with | .ClassDef (body := b) .. => b.getD 3 (.Pass ⟨0, 0, 0, 0⟩) | _ => .Pass ⟨0, 0, 0, 0⟩)
abbrev n_Ratio_top : List Str := ["self"]
def b_Ratio_top : Sx := (sCons (sRet (eAttr stab [] "own_top" (eVar 0)))
  sNil)
def f_Ratio_top : Fn := callD 1 1 b_Ratio_top
abbrev s_Ratio_bottom : Stmt := (match top 21 with | .ClassDef (body := b) .. => b.getD 4 (.Pass ⟨0, 0, 0, 0⟩) | _ => .Pass ⟨0, 0, 0, 0⟩)
abbrev n_Ratio_bottom : List Str := ["self"]
def b_Ratio_bottom : Sx := (sCons (sRet (eAttr stab [] "own_bottom" (eVar 0)))
  sNil)
def f_Ratio_bottom : Fn := callD 1 1 b_Ratio_bottom
abbrev s_Element_bottom : Stmt := (match top 43 with | .ClassDef (body := b) .. => b.getD 4 (.Pass ⟨0, 0, 0, 0⟩) | _ => .Pass ⟨0, 0, 0, 0⟩)
abbrev n_Element_bottom : List Str := ["self"]
def b_Element_bottom : Sx := (sCons (sRet (eAttr stab [] "own_bottom" (eVar 0)))
  sNil)
def f_Element_bottom : Fn := callD 1 1 b_Element_bottom
abbrev s_Element_scaled : Stmt := (match top 43 with | .ClassDef (body := b) .. => b.getD 11 (.Pass ⟨0, 0, 0, 0⟩) | _ => .Pass ⟨0, 0, 0, 0⟩)
abbrev n_Element_scaled : List Str := ["self", "ratio", "told"]
def b_Element_scaled : Sx := (sCons (sSet 2 (eCall f_told_ratio (aCons (eVar 1) aNil)))
  (sCons (sRet (eCall f_element_made (aCons (eAttr stab [] "own_algebra" (eVar 0)) (aCons (eCall f_raw_scaled (aCons (eAttr stab [] "own_entries" (eVar 0)) (aCons (eAttr stab [("Ratio", f_Ratio_top)] "top" (eVar 2)) aNil))) (aCons (eOp oMul (eAttr stab [] "own_bottom" (eVar 0)) (eAttr stab [("Ratio", f_Ratio_bottom), ("Element", f_Element_bottom)] "bottom" (eVar 2))) aNil)))))
  sNil))
def f_Element_scaled : Fn := callD 2 3 b_Element_scaled
abbrev s_law_ladle : Stmt := top 97
abbrev n_law_ladle : List Str := ["_law_trough_here", "_law_top", "_law_one", "_law_two", "_law_found"]
def b_law_ladle : Sx := (sCons (sIf (eTst (eOp oGt (eOp oIx (eVar 0) (eC (.int 0))) (eC (.int 0))))
  (sCons (sSet 4 (eOp oMod (eCall fInt (aCons (eOp oIx (eVar 0) (eC (.int 0))) aNil)) (eVar 1)))
  (sCons (sAsg (eOp oFdiv (eOp oIx (eVar 0) (eC (.int 0))) (eVar 1)) (gvSub (eVar 0) (eC (.int 0))))
  (sCons (sRet (eVar 4))
  sNil)))
  sNil)
  (sCons (sAsg (eOp oAdd (eOp oIx (eVar 0) (eC (.int 2))) (eC (.int 1))) (gvSub (eVar 0) (eC (.int 2))))
  (sCons (sSet 2 (eOp oMod (eCall fInt (aCons (eOp oAdd (eOp oIx (eVar 0) (eC (.int 1))) (eOp oMul (eC (.int 8191999)) (eOp oIx (eVar 0) (eC (.int 2))))) aNil)) (eC (.int 2305843009213693951))))
  (sCons (sSet 3 (eOp oAdd (eOp oMul (eOp oMod (eCall fInt (aCons (eOp oAdd (eOp oMul (eVar 2) (eVar 2)) (eOp oMul (eC (.int 157)) (eOp oIx (eVar 0) (eC (.int 2))))) aNil)) (eC (.int 2305843009213693951))) (eC (.int 7368787))) (eVar 2)))
  (sCons (sRet (eOp oMod (eCall fInt (aCons (eOp oFdiv (eVar 3) (eC (.int 65536))) aNil)) (eVar 1)))
  sNil)))))
def f_law_ladle : Fn := callD 2 5 b_law_ladle
abbrev s_law_one_of : Stmt := top 98
abbrev n_law_one_of : List Str := ["_law_trough_here", "_law_items"]
def b_law_one_of : Sx := (sCons (sRet (eOp oIx (eVar 1) (eCall f_law_ladle (aCons (eVar 0) (aCons (eCall fLen (aCons (eVar 1) aNil)) aNil)))))
  sNil)
def f_law_one_of : Fn := callD 2 2 b_law_one_of
abbrev s_unit_of : Stmt := top 45
abbrev n_unit_of : List Str := ["algebra", "index", "at"]
def b_unit_of : Sx := (sCons (sRet (eCall f_element_made (aCons (eVar 0) (aCons (eCall fTuple (aCons (eLc (iRange1 (aCons (eAttr stab [] "own_dimension" (eVar 0)) aNil)) (gvName 2) tvYes (eCall fInt (aCons (eOp oEq (eVar 2) (eVar 1)) aNil)) [2]) aNil)) aNil))))
  sNil)
def f_unit_of : Fn := callD 2 3 b_unit_of
abbrev s_Doubled_one : Stmt := (match top 39 with | .ClassDef (body := b) .. => b.getD 5 (.Pass ⟨0, 0, 0, 0⟩) | _ => .Pass ⟨0, 0, 0, 0⟩)
abbrev n_Doubled_one : List Str := ["self"]
def b_Doubled_one : Sx := (sCons (sRet (eCall f_unit_of (aCons (eVar 0) (aCons (eC (.int 0)) aNil))))
  sNil)
def f_Doubled_one : Fn := callD 1 1 b_Doubled_one
abbrev s_law_word : Stmt := top 99
abbrev n_law_word : List Str := ["_law_call", "error"]
def cs_law_word : List Cla := [⟨[("InvalidAlgebra", true), ("InvalidElement", false), ("InvalidNumber", false), ("InvalidRatio", false), ("TooMany", false), ("InvalidOperation", false)], none, .cst "algebra"⟩,
  ⟨[("InvalidAlgebra", false), ("InvalidElement", true), ("InvalidNumber", false), ("InvalidRatio", false), ("TooMany", false), ("InvalidOperation", false)], none, .cst "element"⟩,
  ⟨[("InvalidAlgebra", false), ("InvalidElement", false), ("InvalidNumber", false), ("InvalidRatio", false), ("TooMany", false), ("InvalidOperation", true)], none, .cst "operation"⟩,
  ⟨[("InvalidAlgebra", false), ("InvalidElement", false), ("InvalidNumber", true), ("InvalidRatio", false), ("TooMany", false), ("InvalidOperation", false)], some (1, "InvalidNumber"), (.pre "number " "given")⟩,
  ⟨[("InvalidAlgebra", false), ("InvalidElement", false), ("InvalidNumber", false), ("InvalidRatio", false), ("TooMany", true), ("InvalidOperation", false)], some (1, "TooMany"), (.pre "many " "most")⟩]
abbrev s_is_eight : Stmt := top 67
abbrev n_is_eight : List Str := ["value"]
def b_is_eight : Sx := (sCons (sRet (eAnd (eIsi own (.own "Doubled") (eVar 0)) (eOp oEq (eAttr stab [] "own_dimension" (eVar 0)) (eC (.int (8))))))
  sNil)
def f_is_eight : Fn := callD 1 1 b_is_eight
abbrev s_require_eights : Stmt := top 68
abbrev n_require_eights : List Str := ["values", "value"]
def b_require_eights : Sx := (sCons (sIf (eNotT (eTru (eCall fAll (aCons (eLc (iSeq (eVar 0)) (gvName 1) tvYes (eCall f_is_eight (aCons (eVar 1) aNil)) [1]) aNil))))
  (sCons (sRaise0 "InvalidAlgebra")
  sNil)
  sNil)
  sNil)
def f_require_eights : Fn := callD 1 2 b_require_eights
abbrev s_Doubled_is_definite : Stmt := (match top 39 with | .ClassDef (body := b) .. => b.getD 4 (.Pass ⟨0, 0, 0, 0⟩) | _ => .Pass ⟨0, 0, 0, 0⟩)
abbrev n_Doubled_is_definite : List Str := ["self", "square"]
def b_Doubled_is_definite : Sx := (sCons (sRet (eCall fAll (aCons (eLc (iSeq (eAttr stab [] "own_squares" (eVar 0))) (gvName 1) tvYes (eOp oLt (eVar 1) (eC (.int 0))) [1]) aNil)))
  sNil)
def f_Doubled_is_definite : Fn := callD 1 2 b_Doubled_is_definite
abbrev s_are_alike : Stmt := top 70
abbrev n_are_alike : List Str := ["one", "other"]
def b_are_alike : Sx := (sCons (sExpr (eCall f_require_eights (aCons (eTup (aCons (eVar 0) (aCons (eVar 1) aNil))) aNil)))
  (sCons (sRet (eOp oEq (eAttr stab [("Doubled", f_Doubled_is_definite)] "is_definite" (eVar 0)) (eAttr stab [("Doubled", f_Doubled_is_definite)] "is_definite" (eVar 1))))
  sNil))
def f_are_alike : Fn := callD 2 2 b_are_alike
abbrev s_require_small : Stmt := top 69
abbrev n_require_small : List Str := ["algebras", "algebra", "square"]
def b_require_small : Sx := (sCons (sIf (eTru (eCall fAny (aCons (eLc2 (iSeq (eVar 0)) (gvName 1) tvYes (iSeq (eAttr stab [] "own_squares" (eVar 1))) (gvName 2) tvYes (eOp oGt (eCall fAbs (aCons (eVar 2) aNil)) (eC (.int (30)))) [1, 2] [2]) aNil)))
  (sCons (sRaiseX true "TooMany" "most" (eC (.int (30))))
  sNil)
  sNil)
  sNil)
def f_require_small : Fn := callD 1 3 b_require_small
abbrev s_Element_algebra : Stmt := (match top 43 with | .ClassDef (body := b) .. => b.getD 2 (.Pass ⟨0, 0, 0, 0⟩) | _ => .Pass ⟨0, 0, 0, 0⟩)
abbrev n_Element_algebra : List Str := ["self"]
def b_Element_algebra : Sx := (sCons (sRet (eAttr stab [] "own_algebra" (eVar 0)))
  sNil)
def f_Element_algebra : Fn := callD 1 1 b_Element_algebra
abbrev s_Doubled___eq__ : Stmt := (match top 39 with | .ClassDef (body := b) .. => b.getD 7 (.Pass ⟨0, 0, 0, 0⟩) | _ => .Pass ⟨0, 0, 0, 0⟩)
abbrev n_Doubled___eq__ : List Str := ["self", "other"]
def b_Doubled___eq__ : Sx := (sCons (sRet (eAnd (eIsi own (.own "Doubled") (eVar 1)) (eOp oEq (eAttr stab [] "own_squares" (eVar 0)) (eAttr stab [] "own_squares" (eVar 1)))))
  sNil)
def f_Doubled___eq__ : Fn := callD 2 2 b_Doubled___eq__
abbrev s_require_same_algebra : Stmt := top 50
abbrev n_require_same_algebra : List Str := ["left", "right"]
def b_require_same_algebra : Sx := (sCons (sIf (eTst (eOp (oNeO [("Doubled", f_Doubled___eq__)] own oNe) (eAttr stab [] "own_algebra" (eVar 0)) (eAttr stab [] "own_algebra" (eVar 1))))
  (sCons (sRaise0 "InvalidOperation")
  sNil)
  sNil)
  sNil)
def f_require_same_algebra : Fn := callD 2 2 b_require_same_algebra
abbrev s_raw_sum : Stmt := top 28
abbrev n_raw_sum : List Str := ["left", "right", "entry", "more"]
def b_raw_sum : Sx := (sCons (sRet (eCall fTuple (aCons (eLc (iZipL (aCons (eVar 0) (aCons (eVar 1) aNil))) (gvTup 2 (gvCons (gvName 2) (gvCons (gvName 3) gvNil))) tvYes (eOp oAdd (eVar 2) (eVar 3)) [2, 3]) aNil)))
  sNil)
def f_raw_sum : Fn := callD 2 4 b_raw_sum
abbrev s_raw_mate : Stmt := top 27
abbrev n_raw_mate : List Str := ["entries", "entry"]
def b_raw_mate : Sx := (sCons (sRet (eTup (aCons (eOp oIx (eVar 0) (eC (.int 0))) (aStar (eLc (iSeq (eSl (eVar 0) (oPart (eC (.int 1))) oNo)) (gvName 1) tvYes (eUn oNeg (eVar 1)) [1]) aNil))))
  sNil)
def f_raw_mate : Fn := callD 1 2 b_raw_mate
abbrev s_raw_product : Stmt := top 30
abbrev n_raw_product : List Str := ["squares", "left", "right", "crossed", "first", "second", "half", "lower", "square", "x", "y", "u", "v"]
def b_raw_product (rec : Fn) : Sx := (sCons (sIf (eTst (eOp oEq0 (eVar 0) (eTup aNil)))
  (sCons (sRet (eTup (aCons (eOp oMul (eOp oIx (eVar 1) (eC (.int 0))) (eOp oIx (eVar 2) (eC (.int 0)))) aNil)))
  sNil)
  sNil)
  (sCons (sPar3 6 7 8 (aCons (eOp oFdiv (eCall fLen (aCons (eVar 1) aNil)) (eC (.int 2))) (aCons (eSl (eVar 0) oNo (oPart (eUn oNeg (eC (.int 1))))) (aCons (eOp oIx (eVar 0) (eUn oNeg (eC (.int 1)))) aNil))))
  (sCons (sAsg (eTup (aCons (eSl (eVar 1) oNo (oPart (eVar 6))) (aCons (eSl (eVar 1) (oPart (eVar 6)) oNo) (aCons (eSl (eVar 2) oNo (oPart (eVar 6))) (aCons (eSl (eVar 2) (oPart (eVar 6)) oNo) aNil))))) (gvSq 4 (gvCons (gvName 9) (gvCons (gvName 10) (gvCons (gvName 11) (gvCons (gvName 12) gvNil))))))
  (sCons (sSet 3 (eCall f_raw_scaled (aCons (eCall rec (aCons (eVar 7) (aCons (eCall f_raw_mate (aCons (eVar 12) aNil)) (aCons (eVar 10) aNil)))) (aCons (eVar 8) aNil))))
  (sCons (sSet 4 (eCall f_raw_sum (aCons (eCall rec (aCons (eVar 7) (aCons (eVar 9) (aCons (eVar 11) aNil)))) (aCons (eVar 3) aNil))))
  (sCons (sSet 5 (eCall f_raw_sum (aCons (eCall rec (aCons (eVar 7) (aCons (eVar 12) (aCons (eVar 9) aNil)))) (aCons (eCall rec (aCons (eVar 7) (aCons (eVar 10) (aCons (eCall f_raw_mate (aCons (eVar 11) aNil)) aNil)))) aNil))))
  (sCons (sRet (eOp oAdd (eVar 4) (eVar 5)))
  sNil)))))))
def fr_raw_product : Nat → Fn
  | 0 => fun _ _ => .no
  | z + 1 => callD 3 13 (b_raw_product (fr_raw_product z))
def f_raw_product : Fn := fr_raw_product 16
abbrev s_Element___mul__ : Stmt := (match top 43 with | .ClassDef (body := b) .. => b.getD 14 (.Pass ⟨0, 0, 0, 0⟩) | _ => .Pass ⟨0, 0, 0, 0⟩)
abbrev n_Element___mul__ : List Str := ["self", "other", "entries"]
def b_Element___mul__ : Sx := (sCons (sIf (eNotT (eTru (eIsi own (.own "Element") (eVar 1))))
  (sCons (sRet eNever)
  sNil)
  sNil)
  (sCons (sExpr (eCall f_require_same_algebra (aCons (eVar 0) (aCons (eVar 1) aNil))))
  (sCons (sSet 2 (eCall f_raw_product (aCons (eAttr stab [] "own_squares" (eAttr stab [] "own_algebra" (eVar 0))) (aCons (eAttr stab [] "own_entries" (eVar 0)) (aCons (eAttr stab [] "own_entries" (eVar 1)) aNil)))))
  (sCons (sRet (eCall f_element_made (aCons (eAttr stab [] "own_algebra" (eVar 0)) (aCons (eVar 2) (aCons (eOp oMul (eAttr stab [] "own_bottom" (eVar 0)) (eAttr stab [] "own_bottom" (eVar 1))) aNil)))))
  sNil))))
def f_Element___mul__ : Fn := callD 2 3 b_Element___mul__
abbrev s_units_by : Stmt := top 76
abbrev n_units_by : List Str := ["way", "both", "x", "y", "z"]
def b_units_by : Sx := (sCons (sAsg (eVar 0) (gvSq 3 (gvCons (gvName 2) (gvCons (gvName 3) (gvCons (gvName 4) gvNil)))))
  (sCons (sSet 1 (eOp (oOwn [("Element", f_Element___mul__)] oMul) (eVar 2) (eVar 3)))
  (sCons (sRet (eLst (aCons (eOwnM [("Doubled", f_Doubled_one)] (eAttr stab [("Element", f_Element_algebra)] "algebra" (eVar 2)) aNil) (aCons (eVar 2) (aCons (eVar 3) (aCons (eVar 1) (aCons (eVar 4) (aCons (eOp (oOwn [("Element", f_Element___mul__)] oMul) (eVar 2) (eVar 4)) (aCons (eOp (oOwn [("Element", f_Element___mul__)] oMul) (eVar 3) (eVar 4)) (aCons (eOp (oOwn [("Element", f_Element___mul__)] oMul) (eVar 1) (eVar 4)) aNil))))))))))
  sNil)))
def f_units_by : Fn := callD 1 5 b_units_by
abbrev s_Element___add__ : Stmt := (match top 43 with | .ClassDef (body := b) .. => b.getD 12 (.Pass ⟨0, 0, 0, 0⟩) | _ => .Pass ⟨0, 0, 0, 0⟩)
abbrev n_Element___add__ : List Str := ["self", "other", "left", "right"]
def b_Element___add__ : Sx := (sCons (sIf (eNotT (eTru (eIsi own (.own "Element") (eVar 1))))
  (sCons (sRet eNever)
  sNil)
  sNil)
  (sCons (sExpr (eCall f_require_same_algebra (aCons (eVar 0) (aCons (eVar 1) aNil))))
  (sCons (sSet 2 (eCall f_raw_scaled (aCons (eAttr stab [] "own_entries" (eVar 0)) (aCons (eAttr stab [] "own_bottom" (eVar 1)) aNil))))
  (sCons (sSet 3 (eCall f_raw_scaled (aCons (eAttr stab [] "own_entries" (eVar 1)) (aCons (eAttr stab [] "own_bottom" (eVar 0)) aNil))))
  (sCons (sRet (eCall f_element_made (aCons (eAttr stab [] "own_algebra" (eVar 0)) (aCons (eCall f_raw_sum (aCons (eVar 2) (aCons (eVar 3) aNil))) (aCons (eOp oMul (eAttr stab [] "own_bottom" (eVar 0)) (eAttr stab [] "own_bottom" (eVar 1))) aNil)))))
  sNil)))))
def f_Element___add__ : Fn := callD 2 4 b_Element___add__
abbrev s_sum_by : Stmt := top 77
abbrev n_sum_by : List Str := ["units", "ratios", "found", "unit", "ratio"]
def b_sum_by : Sx := (sCons (sSet 2 (eOwnM [("Element", f_Element_scaled)] (eOp oIx (eVar 0) (eC (.int 0))) (aCons (eOp oIx (eVar 1) (eC (.int 0))) aNil)))
  (sCons (sFor (iZipL (aCons (eSl (eVar 0) (oPart (eC (.int 1))) oNo) (aCons (eSl (eVar 1) (oPart (eC (.int 1))) oNo) aNil))) (gvSq 2 (gvCons (gvName 3) (gvCons (gvName 4) gvNil))) (sCons (sSet 2 (eOp (oOwn [("Element", f_Element___add__)] oAdd) (eVar 2) (eOwnM [("Element", f_Element_scaled)] (eVar 3) (aCons (eVar 4) aNil))))
  sNil))
  (sCons (sRet (eVar 2))
  sNil)))
def f_sum_by : Fn := callD 2 5 b_sum_by
abbrev s_led_by : Stmt := top 78
abbrev n_led_by : List Str := ["units", "element", "entry"]
def b_led_by : Sx := (sCons (sRet (eCall f_sum_by (aCons (eVar 0) (aCons (eLc (iSeq (eAttr stab [] "own_entries" (eVar 1))) (gvName 2) tvYes (eCall f_ratio_of (aCons (eVar 2) (aCons (eAttr stab [] "own_bottom" (eVar 1)) aNil))) [2]) aNil))))
  sNil)
def f_led_by : Fn := callD 2 3 b_led_by
abbrev s_way_on : Stmt := top 81
abbrev n_way_on : List Str := ["first", "second", "units", "part"]
def b_way_on : Sx := (sCons (sSet 2 (eCall f_units_by (aCons (eVar 1) aNil)))
  (sCons (sRet (eCall fTuple (aCons (eLc (iSeq (eVar 0)) (gvName 3) tvYes (eCall f_led_by (aCons (eVar 2) (aCons (eVar 3) aNil))) [3]) aNil)))
  sNil))
def f_way_on : Fn := callD 2 4 b_way_on
abbrev s_images : Stmt := top 90
abbrev n_images : List Str := ["one", "other", "plain"]
def b_images : Sx := (sCons (sExpr (eCall f_require_eights (aCons (eTup (aCons (eVar 0) (aCons (eVar 1) aNil))) aNil)))
  (sCons (sExpr (eCall f_require_small (aCons (eTup (aCons (eVar 0) (aCons (eVar 1) aNil))) aNil)))
  (sCons (sIf (eTst (eOp oNe (eAttr stab [("Doubled", f_Doubled_is_definite)] "is_definite" (eVar 0)) (eAttr stab [("Doubled", f_Doubled_is_definite)] "is_definite" (eVar 1))))
  (sCons (sRet (eC .non))
  sNil)
  sNil)
  (sCons (sSet 2 eNever)
  (sCons (sRet (eCall f_way_on (aCons eNever (aCons eNever aNil))))
  sNil)))))
def f_images : Fn := callD 2 3 b_images
abbrev s_Element___eq__ : Stmt := (match top 43 with | .ClassDef (body := b) .. => b.getD 16 (.Pass ⟨0, 0, 0, 0⟩) | _ => .Pass ⟨0, 0, 0, 0⟩)
abbrev n_Element___eq__ : List Str := ["self", "other"]
def b_Element___eq__ : Sx := (sCons (sIf (eOrT (eNotT (eTru (eIsi own (.own "Element") (eVar 1)))) (eTst (eOp (oNeO [("Doubled", f_Doubled___eq__)] own oNe) (eAttr stab [] "own_algebra" (eVar 0)) (eAttr stab [] "own_algebra" (eVar 1)))))
  (sCons (sRet (eC (.bl false)))
  sNil)
  sNil)
  (sCons (sRet (eAnd (eOp (oCmpO [("Doubled", f_Doubled___eq__)] own oEq) (eAttr stab [] "own_bottom" (eVar 0)) (eAttr stab [] "own_bottom" (eVar 1))) (eOp (oCmpO [("Doubled", f_Doubled___eq__)] own oEq) (eAttr stab [] "own_entries" (eVar 0)) (eAttr stab [] "own_entries" (eVar 1)))))
  sNil))
def f_Element___eq__ : Fn := callD 2 2 b_Element___eq__
abbrev s_Element___neg__ : Stmt := (match top 43 with | .ClassDef (body := b) .. => b.getD 15 (.Pass ⟨0, 0, 0, 0⟩) | _ => .Pass ⟨0, 0, 0, 0⟩)
abbrev n_Element___neg__ : List Str := ["self"]
def b_Element___neg__ : Sx := (sCons (sRet (eCall f_element_made (aCons (eAttr stab [] "own_algebra" (eVar 0)) (aCons (eCall f_raw_scaled (aCons (eAttr stab [] "own_entries" (eVar 0)) (aCons (eUn oNeg (eC (.int 1))) aNil))) (aCons (eAttr stab [] "own_bottom" (eVar 0)) aNil)))))
  sNil)
def f_Element___neg__ : Fn := callD 1 1 b_Element___neg__
abbrev s_do_turn : Stmt := top 72
abbrev n_do_turn : List Str := ["one", "other"]
def b_do_turn : Sx := (sCons (sRet (eOp (oCmpO [("Element", f_Element___eq__)] own oEq) (eOp (oOwn [("Element", f_Element___mul__)] oMul) (eVar 0) (eVar 1)) (eUn (oNegO [("Element", f_Element___neg__)]) (eOp (oOwn [("Element", f_Element___mul__)] oMul) (eVar 1) (eVar 0)))))
  sNil)
def f_do_turn : Fn := callD 2 2 b_do_turn
abbrev s_Element_is_ratio : Stmt := (match top 43 with | .ClassDef (body := b) .. => b.getD 7 (.Pass ⟨0, 0, 0, 0⟩) | _ => .Pass ⟨0, 0, 0, 0⟩)
abbrev n_Element_is_ratio : List Str := ["self"]
def b_Element_is_ratio : Sx := (sCons (sRet (eNot (eCall fAnyI (aCons (eSl (eAttr stab [] "own_entries" (eVar 0)) (oPart (eC (.int 1))) oNo) aNil))))
  sNil)
def f_Element_is_ratio : Fn := callD 1 1 b_Element_is_ratio
abbrev s_is_worth : Stmt := top 71
abbrev n_is_worth : List Str := ["element", "number"]
def b_is_worth : Sx := (sCons (sRet (eAnd (eOp oEq (eAttr stab [] "own_bottom" (eVar 0)) (eC (.int 1))) (eAnd (eOp oEq (eOp oIx (eAttr stab [] "own_entries" (eVar 0)) (eC (.int 0))) (eVar 1)) (eAttr stab [("Element", f_Element_is_ratio)] "is_ratio" (eVar 0)))))
  sNil)
def f_is_worth : Fn := callD 2 2 b_is_worth
abbrev s_is_element_of : Stmt := top 48
abbrev n_is_element_of : List Str := ["algebra", "value"]
def b_is_element_of : Sx := (sCons (sRet (eAnd (eIsi own (.own "Element") (eVar 1)) (eOp (oCmpO [("Doubled", f_Doubled___eq__)] own oEq) (eAttr stab [] "own_algebra" (eVar 1)) (eVar 0))))
  sNil)
def f_is_element_of : Fn := callD 2 2 b_is_element_of
abbrev s_are_images : Stmt := top 73
abbrev n_are_images : List Str := ["one", "other", "value", "x", "y", "z", "part", "square"]
def b_are_images : Sx := (sCons (sIf (eOrT (eNotT (eTru (eIsi own (.bt .tup) (eVar 2)))) (eOrT (eTst (eOp (oNeO [("Element", f_Element___eq__)] own oNe) (eCall fLen (aCons (eVar 2) aNil)) (eC (.int 3)))) (eNotT (eTru (eCall fAll (aCons (eLc (iSeq (eVar 2)) (gvName 6) tvYes (eCall f_is_element_of (aCons (eVar 1) (aCons (eVar 6) aNil))) [6]) aNil))))))
  (sCons (sRet (eC (.bl false)))
  sNil)
  sNil)
  (sCons (sIf (eNotT (eTru (eCall fAll (aCons (eLc (iZipL (aCons (eVar 2) (aCons (eAttr stab [] "own_squares" (eVar 0)) aNil))) (gvTup 2 (gvCons (gvName 6) (gvCons (gvName 7) gvNil))) tvYes (eCall f_is_worth (aCons (eOp (oOwn [("Element", f_Element___mul__)] oMul) (eVar 6) (eVar 6)) (aCons (eVar 7) aNil))) [6, 7]) aNil))))
  (sCons (sRet (eC (.bl false)))
  sNil)
  sNil)
  (sCons (sAsg (eVar 2) (gvSq 3 (gvCons (gvName 3) (gvCons (gvName 4) (gvCons (gvName 5) gvNil)))))
  (sCons (sRet (eAnd (eCall f_do_turn (aCons (eVar 3) (aCons (eVar 4) aNil))) (eAnd (eCall f_do_turn (aCons (eVar 3) (aCons (eVar 5) aNil))) (eAnd (eCall f_do_turn (aCons (eVar 4) (aCons (eVar 5) aNil))) (eCall f_do_turn (aCons (eOp (oOwn [("Element", f_Element___mul__)] oMul) (eVar 3) (eVar 4)) (aCons (eVar 5) aNil)))))))
  sNil))))
def f_are_images : Fn := callD 3 8 b_are_images
abbrev s_is_images : Stmt := top 74
abbrev n_is_images : List Str := ["one", "other", "value"]
def b_is_images : Sx := (sCons (sExpr (eCall f_require_eights (aCons (eTup (aCons (eVar 0) (aCons (eVar 1) aNil))) aNil)))
  (sCons (sRet (eCall f_are_images (aCons (eVar 0) (aCons (eVar 1) (aCons (eVar 2) aNil)))))
  sNil))
def f_is_images : Fn := callD 3 3 b_is_images
abbrev s_require_wanted : Stmt := top 91
abbrev n_require_wanted : List Str := ["value"]
def b_require_wanted : Sx := (sCons (sIf (eOrT (eNotT (eTru (eCall f_is_integer (aCons (eVar 0) aNil)))) (eOrT (eTst (eOp oEq (eVar 0) (eC (.int 0)))) (eNotT (eTst (eChain oLe oLe (eUn oNeg (eC (.int (1000)))) (eVar 0) (eC (.int (1000))))))))
  (sCons (sRaiseX true "InvalidNumber" "given" (eVar 0))
  sNil)
  sNil)
  sNil)
def f_require_wanted : Fn := callD 1 1 b_require_wanted
abbrev s_with_square : Stmt := top 93
abbrev n_with_square : List Str := ["algebra", "number", "entries", "bottom"]
def b_with_square : Sx := (sCons (sExpr (eCall f_require_eights (aCons (eTup (aCons (eVar 0) aNil)) aNil)))
  (sCons (sExpr (eCall f_require_wanted (aCons (eVar 1) aNil)))
  (sCons (sExpr (eCall f_require_small (aCons (eTup (aCons (eVar 0) aNil)) aNil)))
  (sCons (sIf (eAndT (eTru (eAttr stab [("Doubled", f_Doubled_is_definite)] "is_definite" (eVar 0))) (eTst (eOp oGt (eVar 1) (eC (.int 0)))))
  (sCons (sRet (eC .non))
  sNil)
  sNil)
  (sCons (sAsg eNever (gvSq 2 (gvCons (gvName 2) (gvCons (gvName 3) gvNil))))
  (sCons (sRet (eCall f_led_by (aCons (eCall f_units_by (aCons eNever aNil)) (aCons (eCall f_element_made (aCons eNever (aCons (eVar 2) (aCons (eVar 3) aNil)))) aNil))))
  sNil))))))
def f_with_square : Fn := callD 2 4 b_with_square
abbrev s_is_with_square : Stmt := top 94
abbrev n_is_with_square : List Str := ["algebra", "number", "value"]
def b_is_with_square : Sx := (sCons (sExpr (eCall f_require_eights (aCons (eTup (aCons (eVar 0) aNil)) aNil)))
  (sCons (sExpr (eCall f_require_wanted (aCons (eVar 1) aNil)))
  (sCons (sRet (eAnd (eCall f_is_element_of (aCons (eVar 0) (aCons (eVar 2) aNil))) (eAnd (eOp oEq (eOp oIx (eAttr stab [] "own_entries" (eVar 2)) (eC (.int 0))) (eC (.int 0))) (eCall f_is_worth (aCons (eOp oMul (eVar 2) (eVar 2)) (aCons (eVar 1) aNil))))))
  sNil)))
def f_is_with_square : Fn := callD 3 3 b_is_with_square
abbrev s_law_algebras_right : Stmt := top 100
abbrev n_law_algebras_right : List Str := ["_law_trough_here", "_law_eight", "_law_none", "_law_told", "_law_due", "_law_great", "_law_bad"]
def b_law_algebras_right : Sx := (sCons (sAsg (eTup (aCons (eCall (eMakeF "Doubled" f_Doubled___init__) (aCons (eTup (aCons (eUn oNeg (eC (.int 1))) (aCons (eCall f_law_one_of (aCons (eVar 0) (aCons (eLst (aCons (eC (.int 31)) (aCons (eUn oNeg (eC (.int 31))) (aCons (eOp oPow (eC (.int 10)) (eC (.int 6))) aNil)))) aNil))) (aCons (eUn oNeg (eC (.int 1))) aNil)))) aNil)) (aCons (eCall f_law_one_of (aCons (eVar 0) (aCons (eLst (aCons (eC (.int 0)) (aCons (eC (.int 1001)) (aCons (eUn oNeg (eC (.int 1001))) (aCons (eC .non) (aCons (eC (.bl true)) (aCons (eC (.str "1")) (aCons (eOp oPow (eC (.int 10)) (eC (.int 60))) aNil)))))))) aNil))) aNil))) (gvSq 2 (gvCons (gvName 5) (gvCons (gvName 6) gvNil))))
  (sCons (sSet 3 (eLstM (aCons (eTold 0 ("_law_algebras_right", none) "_law_algebras_right.<locals>.<lambda>" cs_law_word 2 "fine" (eCall f_are_alike (aCons (eVar 2) (aCons (eVar 2) aNil)))) aNil)))
  (sCons (sExpr (eAppend (eVar 3) (eTold 0 ("_law_algebras_right", none) "_law_algebras_right.<locals>.<lambda>" cs_law_word 2 "fine" (eCall f_are_alike (aCons (eVar 1) (aCons (eVar 2) aNil))))))
  (sCons (sExpr (eAppend (eVar 3) (eTold 0 ("_law_algebras_right", none) "_law_algebras_right.<locals>.<lambda>" cs_law_word 2 "fine" (eCall f_images (aCons (eVar 2) (aCons (eVar 5) aNil))))))
  (sCons (sExpr (eAppend (eVar 3) (eTold 0 ("_law_algebras_right", none) "_law_algebras_right.<locals>.<lambda>" cs_law_word 2 "fine" (eCall f_images (aCons (eVar 5) (aCons (eVar 2) aNil))))))
  (sCons (sExpr (eAppend (eVar 3) (eTold 0 ("_law_algebras_right", none) "_law_algebras_right.<locals>.<lambda>" cs_law_word 2 "fine" (eCall f_images (aCons (eVar 5) (aCons (eVar 1) aNil))))))
  (sCons (sExpr (eAppend (eVar 3) (eTold 0 ("_law_algebras_right", none) "_law_algebras_right.<locals>.<lambda>" cs_law_word 2 "fine" (eCall f_images (aCons (eVar 1) (aCons (eVar 5) aNil))))))
  (sCons (sExpr (eAppend (eVar 3) (eTold 0 ("_law_algebras_right", none) "_law_algebras_right.<locals>.<lambda>" cs_law_word 2 "fine" (eCall f_are_alike (aCons (eVar 5) (aCons (eVar 1) aNil))))))
  (sCons (sExpr (eAppend (eVar 3) (eTold 0 ("_law_algebras_right", none) "_law_algebras_right.<locals>.<lambda>" cs_law_word 2 "fine" (eCall f_is_images (aCons (eVar 2) (aCons (eVar 1) (aCons (eC .non) aNil)))))))
  (sCons (sExpr (eAppend (eVar 3) (eTold 0 ("_law_algebras_right", none) "_law_algebras_right.<locals>.<lambda>" cs_law_word 2 "fine" (eCall f_is_images (aCons (eVar 5) (aCons (eVar 2) (aCons (eC .non) aNil)))))))
  (sCons (sExpr (eAppend (eVar 3) (eTold 0 ("_law_algebras_right", none) "_law_algebras_right.<locals>.<lambda>" cs_law_word 2 "fine" (eCall f_is_images (aCons (eVar 5) (aCons (eVar 1) (aCons (eC .non) aNil)))))))
  (sCons (sExpr (eAppend (eVar 3) (eTold 0 ("_law_algebras_right", none) "_law_algebras_right.<locals>.<lambda>" cs_law_word 2 "fine" (eCall f_with_square (aCons (eVar 2) (aCons (eVar 6) aNil))))))
  (sCons (sExpr (eAppend (eVar 3) (eTold 0 ("_law_algebras_right", none) "_law_algebras_right.<locals>.<lambda>" cs_law_word 2 "fine" (eCall f_with_square (aCons (eVar 5) (aCons (eVar 6) aNil))))))
  (sCons (sExpr (eAppend (eVar 3) (eTold 0 ("_law_algebras_right", none) "_law_algebras_right.<locals>.<lambda>" cs_law_word 2 "fine" (eCall f_with_square (aCons (eVar 5) (aCons (eC (.int 5)) aNil))))))
  (sCons (sExpr (eAppend (eVar 3) (eTold 0 ("_law_algebras_right", none) "_law_algebras_right.<locals>.<lambda>" cs_law_word 2 "fine" (eCall f_is_with_square (aCons (eVar 2) (aCons (eVar 6) (aCons (eC .non) aNil)))))))
  (sCons (sExpr (eAppend (eVar 3) (eTold 0 ("_law_algebras_right", none) "_law_algebras_right.<locals>.<lambda>" cs_law_word 2 "fine" (eCall f_is_with_square (aCons (eVar 5) (aCons (eVar 6) (aCons (eC .non) aNil)))))))
  (sCons (sExpr (eAppend (eVar 3) (eTold 0 ("_law_algebras_right", none) "_law_algebras_right.<locals>.<lambda>" cs_law_word 2 "fine" (eCall f_is_with_square (aCons (eVar 5) (aCons (eUn oNeg (eC (.int 1000))) (aCons (eC .non) aNil)))))))
  (sCons (sSet 4 (eOp oAdd (eOp oMul (eLst (aCons (eC (.str "algebra")) aNil)) (eC (.int 4))) (eLst (aCons (eC (.str "many 30")) (aCons (eC (.str "many 30")) (aCons (eC (.str "fine")) (aCons (eC (.str "algebra")) (aCons (eC (.str "algebra")) (aCons (eC (.str "fine")) (aCons (eC (.str "algebra")) (aCons (eOp oAdd (eC (.str "number ")) (eCall fRepr (aCons (eVar 6) aNil))) aNil)))))))))))
  (sCons (sRet (eOp oEq (eVar 3) (eOp oAdd (eVar 4) (eLst (aCons (eC (.str "many 30")) (aCons (eC (.str "algebra")) (aCons (eOp oAdd (eC (.str "number ")) (eCall fRepr (aCons (eVar 6) aNil))) (aCons (eC (.str "fine")) aNil))))))))
  sNil)))))))))))))))))))
def f_law_algebras_right : Fn := callD 3 7 b_law_algebras_right
abbrev s_Doubled_units : Stmt := (match top 39 with | .ClassDef (body := b) .. => b.getD 6 (.Pass ⟨0, 0, 0, 0⟩) | _ => .Pass ⟨0, 0, 0, 0⟩)
abbrev n_Doubled_units : List Str := ["self", "index"]
def b_Doubled_units : Sx := (sCons (sRet (eCall fTuple (aCons (eLc (iRange1 (aCons (eAttr stab [] "own_dimension" (eVar 0)) aNil)) (gvName 1) tvYes (eCall f_unit_of (aCons (eVar 0) (aCons (eVar 1) aNil))) [1]) aNil)))
  sNil)
def f_Doubled_units : Fn := callD 1 2 b_Doubled_units
abbrev s_require_images : Stmt := top 75
abbrev n_require_images : List Str := ["one", "other", "way"]
def b_require_images : Sx := (sCons (sIf (eNotT (eTru (eCall f_are_images (aCons (eVar 0) (aCons (eVar 1) (aCons (eVar 2) aNil))))))
  (sCons (sRaise0 "InvalidOperation")
  sNil)
  sNil)
  sNil)
def f_require_images : Fn := callD 3 3 b_require_images
abbrev s_require_element_of : Stmt := top 49
abbrev n_require_element_of : List Str := ["algebra", "value"]
def b_require_element_of : Sx := (sCons (sIf (eNotT (eTru (eCall f_is_element_of (aCons (eVar 0) (aCons (eVar 1) aNil)))))
  (sCons (sRaise0 "InvalidElement")
  sNil)
  sNil)
  sNil)
def f_require_element_of : Fn := callD 2 2 b_require_element_of
abbrev s_led : Stmt := top 82
abbrev n_led : List Str := ["one", "other", "way", "element"]
def b_led : Sx := (sCons (sExpr (eCall f_require_eights (aCons (eTup (aCons (eVar 0) (aCons (eVar 1) aNil))) aNil)))
  (sCons (sExpr (eCall f_require_images (aCons (eVar 0) (aCons (eVar 1) (aCons (eVar 2) aNil)))))
  (sCons (sExpr (eCall f_require_element_of (aCons (eVar 0) (aCons (eVar 3) aNil))))
  (sCons (sRet (eCall f_led_by (aCons (eCall f_units_by (aCons (eVar 2) aNil)) (aCons (eVar 3) aNil))))
  sNil))))
def f_led : Fn := callD 4 4 b_led
abbrev s_taken_back : Stmt := top 83
abbrev n_taken_back : List Str := ["one", "other", "way"]
def b_taken_back : Sx := (sCons (sExpr (eCall f_require_eights (aCons (eTup (aCons (eVar 0) (aCons (eVar 1) aNil))) aNil)))
  (sCons (sExpr (eCall f_require_images (aCons (eVar 0) (aCons (eVar 1) (aCons (eVar 2) aNil)))))
  (sCons (sRet eNever)
  sNil)))
def f_taken_back : Fn := callD 3 3 b_taken_back
abbrev s_followed : Stmt := top 84
abbrev n_followed : List Str := ["one", "other", "third", "first", "second"]
def b_followed : Sx := (sCons (sExpr (eCall f_require_eights (aCons (eTup (aCons (eVar 0) (aCons (eVar 1) (aCons (eVar 2) aNil)))) aNil)))
  (sCons (sExpr (eCall f_require_images (aCons (eVar 0) (aCons (eVar 1) (aCons (eVar 3) aNil)))))
  (sCons (sExpr (eCall f_require_images (aCons (eVar 1) (aCons (eVar 2) (aCons (eVar 4) aNil)))))
  (sCons (sRet (eCall f_way_on (aCons (eVar 3) (aCons (eVar 4) aNil))))
  sNil))))
def f_followed : Fn := callD 5 5 b_followed
abbrev s_law_ways_right : Stmt := top 101
abbrev n_law_ways_right : List Str := ["_law_trough_here", "_law_eight", "_law_none", "_law_good", "_law_odd", "_law_thing", "_law_told", "_law_due", "_law_e", "_law_four"]
def b_law_ways_right : Sx := (sCons (sPar 8 9 (aCons (eOwnM [("Doubled", f_Doubled_units)] (eVar 1) aNil) (aCons (eCall (eMakeF "Doubled" f_Doubled___init__) (aCons (eTup (aCons (eUn oNeg (eC (.int 1))) (aCons (eUn oNeg (eC (.int 1))) aNil))) aNil)) aNil)))
  (sCons (sSet 3 (eTup (aCons (eOp oIx (eVar 8) (eC (.int 1))) (aCons (eOp oIx (eVar 8) (eC (.int 2))) (aCons (eOp oIx (eVar 8) (eC (.int 4))) aNil)))))
  (sCons (sSet 4 (eCall f_law_one_of (aCons (eVar 0) (aCons (eLst (aCons (eC .non) (aCons (eTup aNil) (aCons (eSl (eVar 3) oNo (oPart (eC (.int 2)))) (aCons (eCall fList (aCons (eVar 3) aNil)) (aCons (eTup (aCons (eOp oIx (eVar 8) (eC (.int 1))) (aCons (eOp oIx (eVar 8) (eC (.int 2))) (aCons (eOp oIx (eVar 8) (eC (.int 3))) aNil)))) (aCons (eTup (aCons (eOp oIx (eVar 8) (eC (.int 1))) (aCons (eOp oIx (eVar 8) (eC (.int 1))) (aCons (eOp oIx (eVar 8) (eC (.int 4))) aNil)))) (aCons (eOp oAdd (eVar 3) (eVar 3)) (aCons (eOp oIx (eVar 8) (eC (.int 1))) (aCons (eTup (aCons (eC (.int 1)) (aCons (eC (.int 2)) (aCons (eC (.int 4)) aNil)))) aNil)))))))))) aNil))))
  (sCons (sSet 5 (eCall f_law_one_of (aCons (eVar 0) (aCons (eLst (aCons (eC .non) (aCons (eC (.int 1)) (aCons (eOwnM [("Doubled", f_Doubled_one)] (eVar 9) aNil) (aCons (eOp oAdd (eTup (aCons (eC (.int 1)) aNil)) (eOp oMulT (eTup (aCons (eC (.int 0)) aNil)) (eC (.int 7)))) (aCons (eC (.str "e1")) (aCons (eVar 1) (aCons (eOwnM [("Doubled", f_Doubled_one)] (eCall (eMakeF "Doubled" f_Doubled___init__) (aCons (eTup (aCons (eUn oNeg (eC (.int 1))) (aCons (eUn oNeg (eC (.int 1))) (aCons (eC (.int 2)) aNil)))) aNil)) aNil) aNil)))))))) aNil))))
  (sCons (sSet 6 (eLstM (aCons (eTold 1 ("_law_ways_right", none) "_law_ways_right.<locals>.<lambda>" cs_law_word 2 "fine" (eCall f_led (aCons (eVar 2) (aCons (eVar 1) (aCons (eVar 4) (aCons (eVar 5) aNil)))))) aNil)))
  (sCons (sExpr (eAppend (eVar 6) (eTold 1 ("_law_ways_right", none) "_law_ways_right.<locals>.<lambda>" cs_law_word 2 "fine" (eCall f_led (aCons (eVar 1) (aCons (eVar 2) (aCons (eVar 4) (aCons (eVar 5) aNil))))))))
  (sCons (sExpr (eAppend (eVar 6) (eTold 1 ("_law_ways_right", none) "_law_ways_right.<locals>.<lambda>" cs_law_word 2 "fine" (eCall f_led (aCons (eVar 1) (aCons (eVar 1) (aCons (eVar 4) (aCons (eVar 5) aNil))))))))
  (sCons (sExpr (eAppend (eVar 6) (eTold 1 ("_law_ways_right", none) "_law_ways_right.<locals>.<lambda>" cs_law_word 2 "fine" (eCall f_led (aCons (eVar 1) (aCons (eVar 1) (aCons (eVar 3) (aCons (eVar 5) aNil))))))))
  (sCons (sExpr (eAppend (eVar 6) (eTold 1 ("_law_ways_right", none) "_law_ways_right.<locals>.<lambda>" cs_law_word 2 "fine" (eCall f_taken_back (aCons (eVar 2) (aCons (eVar 2) (aCons (eVar 4) aNil)))))))
  (sCons (sExpr (eAppend (eVar 6) (eTold 1 ("_law_ways_right", none) "_law_ways_right.<locals>.<lambda>" cs_law_word 2 "fine" (eCall f_taken_back (aCons (eVar 1) (aCons (eVar 2) (aCons (eVar 4) aNil)))))))
  (sCons (sExpr (eAppend (eVar 6) (eTold 1 ("_law_ways_right", none) "_law_ways_right.<locals>.<lambda>" cs_law_word 2 "fine" (eCall f_taken_back (aCons (eVar 1) (aCons (eVar 1) (aCons (eVar 4) aNil)))))))
  (sCons (sExpr (eAppend (eVar 6) (eTold 1 ("_law_ways_right", none) "_law_ways_right.<locals>.<lambda>" cs_law_word 2 "fine" (eCall f_followed (aCons (eVar 1) (aCons (eVar 1) (aCons (eVar 2) (aCons (eVar 4) (aCons (eVar 4) aNil)))))))))
  (sCons (sExpr (eAppend (eVar 6) (eTold 1 ("_law_ways_right", none) "_law_ways_right.<locals>.<lambda>" cs_law_word 2 "fine" (eCall f_followed (aCons (eVar 1) (aCons (eVar 1) (aCons (eVar 1) (aCons (eVar 4) (aCons (eVar 3) aNil)))))))))
  (sCons (sExpr (eAppend (eVar 6) (eTold 1 ("_law_ways_right", none) "_law_ways_right.<locals>.<lambda>" cs_law_word 2 "fine" (eCall f_followed (aCons (eVar 1) (aCons (eVar 1) (aCons (eVar 1) (aCons (eVar 3) (aCons (eVar 4) aNil)))))))))
  (sCons (sExpr (eAppend (eVar 6) (eTold 1 ("_law_ways_right", none) "_law_ways_right.<locals>.<lambda>" cs_law_word 2 "fine" (eCall f_followed (aCons (eVar 1) (aCons (eVar 1) (aCons (eVar 1) (aCons (eVar 3) (aCons (eVar 3) aNil)))))))))
  (sCons (sSet 7 (eLst (aCons (eC (.str "algebra")) (aCons (eC (.str "algebra")) (aCons (eC (.str "operation")) (aCons (eC (.str "element")) (aCons (eC (.str "algebra")) (aCons (eC (.str "algebra")) (aCons (eC (.str "operation")) (aCons (eC (.str "algebra")) (aCons (eC (.str "operation")) (aCons (eC (.str "operation")) aNil))))))))))))
  (sCons (sRet (eOp oEq (eVar 6) (eOp oAdd (eVar 7) (eLst (aCons (eC (.str "fine")) aNil)))))
  sNil)))))))))))))))))
def f_law_ways_right : Fn := callD 3 10 b_law_ways_right
abbrev s_law_right : Stmt := top 102
abbrev n_law_right : List Str := ["_law_trough_here", "_law_eight", "_law_some", "_law_none"]
def b_law_right : Sx := (sCons (sSet 1 (eCall (eMakeF "Doubled" f_Doubled___init__) (aCons (eTup (aCons (eUn oNeg (eC (.int 1))) (aCons (eUn oNeg (eC (.int 1))) (aCons (eUn oNeg (eC (.int 1))) aNil)))) aNil)))
  (sCons (sSet 2 (eLst (aCons (eC .non) (aCons (eC (.int 8)) (aCons (eTup (aCons (eUn oNeg (eC (.int 1))) (aCons (eUn oNeg (eC (.int 1))) (aCons (eUn oNeg (eC (.int 1))) aNil)))) (aCons (eC (.str "doubled by -1 -1 -1")) (aCons (eCall (eMakeF "Doubled" f_Doubled___init__) (aCons (eTup (aCons (eUn oNeg (eC (.int 1))) (aCons (eUn oNeg (eC (.int 1))) aNil))) aNil)) (aCons (eCall (eMakeF "Doubled" f_Doubled___init__) (aCons (eTup aNil) aNil)) (aCons (eCall (eMakeF "Doubled" f_Doubled___init__) (aCons (eTup (aCons (eUn oNeg (eC (.int 1))) (aCons (eUn oNeg (eC (.int 1))) (aCons (eUn oNeg (eC (.int 1))) (aCons (eUn oNeg (eC (.int 1))) aNil))))) aNil)) (aCons (eOwnM [("Doubled", f_Doubled_one)] (eVar 1) aNil) (aCons (eLst (aCons (eVar 1) aNil)) aNil)))))))))))
  (sCons (sSet 3 (eCall f_law_one_of (aCons (eVar 0) (aCons (eVar 2) aNil))))
  (sCons (sRet (eAnd (eCall f_law_algebras_right (aCons (eVar 0) (aCons (eVar 1) (aCons (eVar 3) aNil)))) (eCall f_law_ways_right (aCons (eVar 0) (aCons (eVar 1) (aCons (eVar 3) aNil))))))
  sNil))))
def f_law_right : Fn := callD 1 4 b_law_right
abbrev s_law : Stmt := top 103
abbrev n_law : List Str := ["_law_script", "_law_spot", "_law_trough_here"]
def b_law : Sx := (sCons (sFor (iRange1 (aCons (eCall fMax2 (aCons (eC (.int 1)) (aCons (eCall fMin2 (aCons (eC (.int 3)) (aCons (eCall fLen (aCons (eVar 0) aNil)) aNil))) aNil))) aNil)) (gvName 1) (sCons (sSet 2 (eCall f_law_trough (aCons (eVar 0) (aCons (eVar 1) aNil))))
  (sCons (sIf (eOrT (eNotT (eTru (eCall f_law_right (aCons (eVar 2) aNil)))) (eNotT (eTru (eCall f_law_right (aCons (eVar 2) aNil)))))
  (sCons (sRet (eC (.bl false)))
  sNil)
  sNil)
  sNil)))
  (sCons (sRet (eOp (oCmpO [("Element", f_Element___eq__)] own oEq) (eCall (eMakeF "Element" f_Element___init__) (aCons (eCall (eMakeF "Doubled" f_Doubled___init__) (aCons (eTup (aCons (eUn (oNegO [("Element", f_Element___neg__)]) (eC (.int 1))) (aCons (eUn (oNegO [("Element", f_Element___neg__)]) (eC (.int 1))) (aCons (eUn (oNegO [("Element", f_Element___neg__)]) (eC (.int 1))) aNil)))) aNil)) (aCons (eOp oMulT (eTup (aCons (eC (.int 0)) aNil)) (eC (.int 8))) aNil))) (eOwnM [("Element", f_Element_scaled)] (eOwnM [("Doubled", f_Doubled_one)] (eCall (eMakeF "Doubled" f_Doubled___init__) (aCons (eTup (aCons (eUn (oNegO [("Element", f_Element___neg__)]) (eC (.int 1))) (aCons (eUn (oNegO [("Element", f_Element___neg__)]) (eC (.int 1))) (aCons (eUn (oNegO [("Element", f_Element___neg__)]) (eC (.int 1))) aNil)))) aNil)) aNil) (aCons (eC (.int 0)) aNil))))
  sNil))
def f_law : Fn := callD 1 3 b_law
end LW
namespace LW
open PySem PySem.Spec L2 AW
def d_require_algebra : He5.DefA := ⟨fun K => ga K "require_algebra", "require_algebra", "require_algebra", defArgs s_require_algebra, defBody s_require_algebra, defScope s_require_algebra, [], []⟩
def d_common_of : He5.DefA := ⟨fun K => ga K "common_of", "common_of", "common_of", defArgs s_common_of, defBody s_common_of, defScope s_common_of, [], []⟩
def d_lowest : He5.DefA := ⟨fun K => ga K "lowest", "lowest", "lowest", defArgs s_lowest, defBody s_lowest, defScope s_lowest, [], []⟩
def d_Parts___init__ : He5.DefA := ⟨fun K => He.ma K (ga K "Parts") "__init__", "__init__", "Parts.__init__", defArgs s_Parts___init__, defBody s_Parts___init__, defScope s_Parts___init__, [], []⟩
def d_is_whole : He5.DefA := ⟨fun K => ga K "is_whole", "is_whole", "is_whole", defArgs s_is_whole, defBody s_is_whole, defScope s_is_whole, [], []⟩
def d_is_integer : He5.DefA := ⟨fun K => ga K "is_integer", "is_integer", "is_integer", defArgs s_is_integer, defBody s_is_integer, defScope s_is_integer, [], []⟩
def d_parts_told : He5.DefA := ⟨fun K => ga K "parts_told", "parts_told", "parts_told", defArgs s_parts_told, defBody s_parts_told, defScope s_parts_told, [], []⟩
def d_Element___init__ : He5.DefA := ⟨fun K => He.ma K (ga K "Element") "__init__", "__init__", "Element.__init__", defArgs s_Element___init__, defBody s_Element___init__, defScope s_Element___init__, [.int (1)], []⟩
def d_law_trough : He5.DefA := ⟨fun K => ga K "_law_trough", "_law_trough", "_law_trough", defArgs s_law_trough, defBody s_law_trough, defScope s_law_trough, [], []⟩
def d_are_squares : He5.DefA := ⟨fun K => ga K "are_squares", "are_squares", "are_squares", defArgs s_are_squares, defBody s_are_squares, defScope s_are_squares, [], []⟩
def d_norm_weights : He5.DefA := ⟨fun K => ga K "norm_weights", "norm_weights", "norm_weights", defArgs s_norm_weights, defBody s_norm_weights, defScope s_norm_weights, [], []⟩
def d_Doubled___init__ : He5.DefA := ⟨fun K => He.ma K (ga K "Doubled") "__init__", "__init__", "Doubled.__init__", defArgs s_Doubled___init__, defBody s_Doubled___init__, defScope s_Doubled___init__, [], []⟩
def d_require_integer : He5.DefA := ⟨fun K => ga K "require_integer", "require_integer", "require_integer", defArgs s_require_integer, defBody s_require_integer, defScope s_require_integer, [], []⟩
def d_Ratio___init__ : He5.DefA := ⟨fun K => He.ma K (ga K "Ratio") "__init__", "__init__", "Ratio.__init__", defArgs s_Ratio___init__, defBody s_Ratio___init__, defScope s_Ratio___init__, [.int (1)], []⟩
def d_Terms___init__ : He5.DefA := ⟨fun K => He.ma K (ga K "Terms") "__init__", "__init__", "Terms.__init__", defArgs s_Terms___init__, defBody s_Terms___init__, defScope s_Terms___init__, [], []⟩
def d_ratio_of : He5.DefA := ⟨fun K => ga K "ratio_of", "ratio_of", "ratio_of", defArgs s_ratio_of, defBody s_ratio_of, defScope s_ratio_of, [], []⟩
def d_told_ratio : He5.DefA := ⟨fun K => ga K "told_ratio", "told_ratio", "told_ratio", defArgs s_told_ratio, defBody s_told_ratio, defScope s_told_ratio, [], []⟩
def d_element_made : He5.DefA := ⟨fun K => ga K "element_made", "element_made", "element_made", defArgs s_element_made, defBody s_element_made, defScope s_element_made, [.int (1)], []⟩
def d_raw_scaled : He5.DefA := ⟨fun K => ga K "raw_scaled", "raw_scaled", "raw_scaled", defArgs s_raw_scaled, defBody s_raw_scaled, defScope s_raw_scaled, [], []⟩
def d_Ratio_top : He5.DefA := ⟨fun K => prA K "Ratio" "top", "top", "Ratio.top", defArgs s_Ratio_top, defBody s_Ratio_top, defScope s_Ratio_top, [], []⟩
def d_Ratio_bottom : He5.DefA := ⟨fun K => prA K "Ratio" "bottom", "bottom", "Ratio.bottom", defArgs s_Ratio_bottom, defBody s_Ratio_bottom, defScope s_Ratio_bottom, [], []⟩
def d_Element_bottom : He5.DefA := ⟨fun K => prA K "Element" "bottom", "bottom", "Element.bottom", defArgs s_Element_bottom, defBody s_Element_bottom, defScope s_Element_bottom, [], []⟩
def d_Element_scaled : He5.DefA := ⟨fun K => He.ma K (ga K "Element") "scaled", "scaled", "Element.scaled", defArgs s_Element_scaled, defBody s_Element_scaled, defScope s_Element_scaled, [], []⟩
def d_law_ladle : He5.DefA := ⟨fun K => ga K "_law_ladle", "_law_ladle", "_law_ladle", defArgs s_law_ladle, defBody s_law_ladle, defScope s_law_ladle, [], []⟩
def d_law_one_of : He5.DefA := ⟨fun K => ga K "_law_one_of", "_law_one_of", "_law_one_of", defArgs s_law_one_of, defBody s_law_one_of, defScope s_law_one_of, [], []⟩
def d_unit_of : He5.DefA := ⟨fun K => ga K "unit_of", "unit_of", "unit_of", defArgs s_unit_of, defBody s_unit_of, defScope s_unit_of, [], []⟩
def d_Doubled_one : He5.DefA := ⟨fun K => He.ma K (ga K "Doubled") "one", "one", "Doubled.one", defArgs s_Doubled_one, defBody s_Doubled_one, defScope s_Doubled_one, [], []⟩
def d_law_word : He5.DefA := ⟨fun K => ga K "_law_word", "_law_word", "_law_word", defArgs s_law_word, defBody s_law_word, defScope s_law_word, [], []⟩
def d_is_eight : He5.DefA := ⟨fun K => ga K "is_eight", "is_eight", "is_eight", defArgs s_is_eight, defBody s_is_eight, defScope s_is_eight, [], []⟩
def d_require_eights : He5.DefA := ⟨fun K => ga K "require_eights", "require_eights", "require_eights", defArgs s_require_eights, defBody s_require_eights, defScope s_require_eights, [], []⟩
def d_Doubled_is_definite : He5.DefA := ⟨fun K => prA K "Doubled" "is_definite", "is_definite", "Doubled.is_definite", defArgs s_Doubled_is_definite, defBody s_Doubled_is_definite, defScope s_Doubled_is_definite, [], []⟩
def d_are_alike : He5.DefA := ⟨fun K => ga K "are_alike", "are_alike", "are_alike", defArgs s_are_alike, defBody s_are_alike, defScope s_are_alike, [], []⟩
def d_require_small : He5.DefA := ⟨fun K => ga K "require_small", "require_small", "require_small", defArgs s_require_small, defBody s_require_small, defScope s_require_small, [], []⟩
def d_Element_algebra : He5.DefA := ⟨fun K => prA K "Element" "algebra", "algebra", "Element.algebra", defArgs s_Element_algebra, defBody s_Element_algebra, defScope s_Element_algebra, [], []⟩
def d_Doubled___eq__ : He5.DefA := ⟨fun K => He.ma K (ga K "Doubled") "__eq__", "__eq__", "Doubled.__eq__", defArgs s_Doubled___eq__, defBody s_Doubled___eq__, defScope s_Doubled___eq__, [], []⟩
def d_require_same_algebra : He5.DefA := ⟨fun K => ga K "require_same_algebra", "require_same_algebra", "require_same_algebra", defArgs s_require_same_algebra, defBody s_require_same_algebra, defScope s_require_same_algebra, [], []⟩
def d_raw_sum : He5.DefA := ⟨fun K => ga K "raw_sum", "raw_sum", "raw_sum", defArgs s_raw_sum, defBody s_raw_sum, defScope s_raw_sum, [], []⟩
def d_raw_mate : He5.DefA := ⟨fun K => ga K "raw_mate", "raw_mate", "raw_mate", defArgs s_raw_mate, defBody s_raw_mate, defScope s_raw_mate, [], []⟩
def d_raw_product : He5.DefA := ⟨fun K => ga K "raw_product", "raw_product", "raw_product", defArgs s_raw_product, defBody s_raw_product, defScope s_raw_product, [], []⟩
def d_Element___mul__ : He5.DefA := ⟨fun K => He.ma K (ga K "Element") "__mul__", "__mul__", "Element.__mul__", defArgs s_Element___mul__, defBody s_Element___mul__, defScope s_Element___mul__, [], []⟩
def d_units_by : He5.DefA := ⟨fun K => ga K "units_by", "units_by", "units_by", defArgs s_units_by, defBody s_units_by, defScope s_units_by, [], []⟩
def d_Element___add__ : He5.DefA := ⟨fun K => He.ma K (ga K "Element") "__add__", "__add__", "Element.__add__", defArgs s_Element___add__, defBody s_Element___add__, defScope s_Element___add__, [], []⟩
def d_sum_by : He5.DefA := ⟨fun K => ga K "sum_by", "sum_by", "sum_by", defArgs s_sum_by, defBody s_sum_by, defScope s_sum_by, [], []⟩
def d_led_by : He5.DefA := ⟨fun K => ga K "led_by", "led_by", "led_by", defArgs s_led_by, defBody s_led_by, defScope s_led_by, [], []⟩
def d_way_on : He5.DefA := ⟨fun K => ga K "way_on", "way_on", "way_on", defArgs s_way_on, defBody s_way_on, defScope s_way_on, [], []⟩
def d_images : He5.DefA := ⟨fun K => ga K "images", "images", "images", defArgs s_images, defBody s_images, defScope s_images, [], []⟩
def d_Element___eq__ : He5.DefA := ⟨fun K => He.ma K (ga K "Element") "__eq__", "__eq__", "Element.__eq__", defArgs s_Element___eq__, defBody s_Element___eq__, defScope s_Element___eq__, [], []⟩
def d_Element___neg__ : He5.DefA := ⟨fun K => He.ma K (ga K "Element") "__neg__", "__neg__", "Element.__neg__", defArgs s_Element___neg__, defBody s_Element___neg__, defScope s_Element___neg__, [], []⟩
def d_do_turn : He5.DefA := ⟨fun K => ga K "do_turn", "do_turn", "do_turn", defArgs s_do_turn, defBody s_do_turn, defScope s_do_turn, [], []⟩
def d_Element_is_ratio : He5.DefA := ⟨fun K => prA K "Element" "is_ratio", "is_ratio", "Element.is_ratio", defArgs s_Element_is_ratio, defBody s_Element_is_ratio, defScope s_Element_is_ratio, [], []⟩
def d_is_worth : He5.DefA := ⟨fun K => ga K "is_worth", "is_worth", "is_worth", defArgs s_is_worth, defBody s_is_worth, defScope s_is_worth, [], []⟩
def d_is_element_of : He5.DefA := ⟨fun K => ga K "is_element_of", "is_element_of", "is_element_of", defArgs s_is_element_of, defBody s_is_element_of, defScope s_is_element_of, [], []⟩
def d_are_images : He5.DefA := ⟨fun K => ga K "are_images", "are_images", "are_images", defArgs s_are_images, defBody s_are_images, defScope s_are_images, [], []⟩
def d_is_images : He5.DefA := ⟨fun K => ga K "is_images", "is_images", "is_images", defArgs s_is_images, defBody s_is_images, defScope s_is_images, [], []⟩
def d_require_wanted : He5.DefA := ⟨fun K => ga K "require_wanted", "require_wanted", "require_wanted", defArgs s_require_wanted, defBody s_require_wanted, defScope s_require_wanted, [], []⟩
def d_with_square : He5.DefA := ⟨fun K => ga K "with_square", "with_square", "with_square", defArgs s_with_square, defBody s_with_square, defScope s_with_square, [], []⟩
def d_is_with_square : He5.DefA := ⟨fun K => ga K "is_with_square", "is_with_square", "is_with_square", defArgs s_is_with_square, defBody s_is_with_square, defScope s_is_with_square, [], []⟩
def d_law_algebras_right : He5.DefA := ⟨fun K => ga K "_law_algebras_right", "_law_algebras_right", "_law_algebras_right", defArgs s_law_algebras_right, defBody s_law_algebras_right, defScope s_law_algebras_right, [], []⟩
def d_Doubled_units : He5.DefA := ⟨fun K => He.ma K (ga K "Doubled") "units", "units", "Doubled.units", defArgs s_Doubled_units, defBody s_Doubled_units, defScope s_Doubled_units, [], []⟩
def d_require_images : He5.DefA := ⟨fun K => ga K "require_images", "require_images", "require_images", defArgs s_require_images, defBody s_require_images, defScope s_require_images, [], []⟩
def d_require_element_of : He5.DefA := ⟨fun K => ga K "require_element_of", "require_element_of", "require_element_of", defArgs s_require_element_of, defBody s_require_element_of, defScope s_require_element_of, [], []⟩
def d_led : He5.DefA := ⟨fun K => ga K "led", "led", "led", defArgs s_led, defBody s_led, defScope s_led, [], []⟩
def d_taken_back : He5.DefA := ⟨fun K => ga K "taken_back", "taken_back", "taken_back", defArgs s_taken_back, defBody s_taken_back, defScope s_taken_back, [], []⟩
def d_followed : He5.DefA := ⟨fun K => ga K "followed", "followed", "followed", defArgs s_followed, defBody s_followed, defScope s_followed, [], []⟩
def d_law_ways_right : He5.DefA := ⟨fun K => ga K "_law_ways_right", "_law_ways_right", "_law_ways_right", defArgs s_law_ways_right, defBody s_law_ways_right, defScope s_law_ways_right, [], []⟩
def d_law_right : He5.DefA := ⟨fun K => ga K "_law_right", "_law_right", "_law_right", defArgs s_law_right, defBody s_law_right, defScope s_law_right, [], []⟩
def d_law : He5.DefA := ⟨fun K => ga K "law", "law", "law", defArgs s_law, defBody s_law, defScope s_law, [], []⟩
def fn : List He5.DefA := [d_require_algebra, d_common_of, d_lowest, d_Parts___init__, d_is_whole, d_is_integer, d_parts_told, d_Element___init__, d_law_trough, d_are_squares, d_norm_weights, d_Doubled___init__, d_require_integer, d_Ratio___init__, d_Terms___init__, d_ratio_of, d_told_ratio, d_element_made, d_raw_scaled, d_Ratio_top, d_Ratio_bottom, d_Element_bottom, d_Element_scaled, d_law_ladle, d_law_one_of, d_unit_of, d_Doubled_one, d_law_word, d_is_eight, d_require_eights, d_Doubled_is_definite, d_are_alike, d_require_small, d_Element_algebra, d_Doubled___eq__, d_require_same_algebra, d_raw_sum, d_raw_mate, d_raw_product, d_Element___mul__, d_units_by, d_Element___add__, d_sum_by, d_led_by, d_way_on, d_images, d_Element___eq__, d_Element___neg__, d_do_turn, d_Element_is_ratio, d_is_worth, d_is_element_of, d_are_images, d_is_images, d_require_wanted, d_with_square, d_is_with_square, d_law_algebras_right, d_Doubled_units, d_require_images, d_require_element_of, d_led, d_taken_back, d_followed, d_law_ways_right, d_law_right, d_law]
abbrev i_InvalidNumber : Stmt := (match top 9 with | .ClassDef (body := b) .. => b.getD 0 (.Pass ⟨0, 0, 0, 0⟩) | _ => .Pass ⟨0, 0, 0, 0⟩)
def c_InvalidNumber : ClD := ⟨"InvalidNumber", .ix, "given", "InvalidNumber.__init__", defArgs i_InvalidNumber, defBody i_InvalidNumber, defScope i_InvalidNumber, "/claim/cut.py"⟩
theorem st_InvalidNumber : ∃ (a : XArg) (p0 p1 p2 p3 p4 p5 p6 p7 p8 : Pos), a.isStr = true ∧ ClS c_InvalidNumber "self" "given" a p0 p1 p2 p3 p4 p5 p6 p7 p8 := ⟨(.str _ _ _), _, _, _, _, _, _, _, _, _, rfl, rfl, rfl, fun _ _ _ _ _ _ _ _ _ _ _ => rfl, by decide, rfl, rfl, rfl, rfl, rfl, rfl, rfl, by decide +kernel, fun _ => rfl, rfl, rfl, fun _ _ _ _ => rfl, fun _ _ _ _ => ⟨_, rfl⟩, fun _ _ _ _ => rfl, fun _ _ _ _ => rfl, fun _ _ _ _ => rfl⟩
abbrev i_TooMany : Stmt := (match top 10 with | .ClassDef (body := b) .. => b.getD 0 (.Pass ⟨0, 0, 0, 0⟩) | _ => .Pass ⟨0, 0, 0, 0⟩)
def c_TooMany : ClD := ⟨"TooMany", .ov, "most", "TooMany.__init__", defArgs i_TooMany, defBody i_TooMany, defScope i_TooMany, "/claim/cut.py"⟩
theorem st_TooMany : ∃ (a : XArg) (p0 p1 p2 p3 p4 p5 p6 p7 p8 : Pos), a.isStr = true ∧ ClS c_TooMany "self" "most" a p0 p1 p2 p3 p4 p5 p6 p7 p8 := ⟨(.str _ _ _), _, _, _, _, _, _, _, _, _, rfl, rfl, rfl, fun _ _ _ _ _ _ _ _ _ _ _ => rfl, by decide, rfl, rfl, rfl, rfl, rfl, rfl, rfl, by decide +kernel, fun _ => rfl, rfl, rfl, fun _ _ _ _ => rfl, fun _ _ _ _ => ⟨_, rfl⟩, fun _ _ _ _ => rfl, fun _ _ _ _ => rfl, fun _ _ _ _ => rfl⟩
def cl : List ClD := [c_InvalidNumber, c_TooMany]
def exs : List (PySem.W.Frag → Bool) := [(He.Fa.glo "require_algebra").okB,
  (He.Fa.glo "common_of").okB,
  (He.Fa.glo "lowest").okB,
  (He.Fa.glo "is_whole").okB,
  (He.Fa.glo "is_integer").okB,
  (He.Fa.glo "parts_told").okB,
  (He.Fa.glo "_law_trough").okB,
  (He.Fa.glo "are_squares").okB,
  (He.Fa.glo "norm_weights").okB,
  (He.Fa.glo "require_integer").okB,
  (He.Fa.glo "ratio_of").okB,
  (He.Fa.glo "told_ratio").okB,
  (He.Fa.glo "element_made").okB,
  (He.Fa.glo "raw_scaled").okB,
  (He.Fa.glo "_law_ladle").okB,
  (He.Fa.glo "_law_one_of").okB,
  (He.Fa.glo "unit_of").okB,
  (He.Fa.glo "_law_word").okB,
  (He.Fa.glo "is_eight").okB,
  (He.Fa.glo "require_eights").okB,
  (He.Fa.glo "are_alike").okB,
  (He.Fa.glo "require_small").okB,
  (He.Fa.glo "require_same_algebra").okB,
  (He.Fa.glo "raw_sum").okB,
  (He.Fa.glo "raw_mate").okB,
  (He.Fa.glo "raw_product").okB,
  (He.Fa.glo "units_by").okB,
  (He.Fa.glo "sum_by").okB,
  (He.Fa.glo "led_by").okB,
  (He.Fa.glo "way_on").okB,
  (He.Fa.glo "images").okB,
  (He.Fa.glo "do_turn").okB,
  (He.Fa.glo "is_worth").okB,
  (He.Fa.glo "is_element_of").okB,
  (He.Fa.glo "are_images").okB,
  (He.Fa.glo "is_images").okB,
  (He.Fa.glo "require_wanted").okB,
  (He.Fa.glo "with_square").okB,
  (He.Fa.glo "is_with_square").okB,
  (He.Fa.glo "_law_algebras_right").okB,
  (He.Fa.glo "require_images").okB,
  (He.Fa.glo "require_element_of").okB,
  (He.Fa.glo "led").okB,
  (He.Fa.glo "taken_back").okB,
  (He.Fa.glo "followed").okB,
  (He.Fa.glo "_law_ways_right").okB,
  (He.Fa.glo "_law_right").okB,
  (He.Fa.glo "law").okB,
  (He.Fa.glo "Terms").okB,
  (He.Fa.glo "Ratio").okB,
  (He.Fa.glo "Doubled").okB,
  (He.Fa.glo "Parts").okB,
  (He.Fa.glo "Element").okB,
  (He.Fa.free "abs").okB,
  (He.Fa.free "all").okB,
  (He.Fa.free "any").okB,
  (He.Fa.free "bool").okB,
  (He.Fa.free "int").okB,
  (He.Fa.free "isinstance").okB,
  (He.Fa.free "len").okB,
  (He.Fa.free "list").okB,
  (He.Fa.free "max").okB,
  (He.Fa.free "min").okB,
  (He.Fa.free "range").okB,
  (He.Fa.free "repr").okB,
  (He.Fa.free "tuple").okB,
  (He.Fa.free "zip").okB,
  (He.Fa.int "BEYOND" (1000000000000000000000000000000000000000000000000000000000000)).okB,
  (He.Fa.int "MANY_UNITS" (8)).okB,
  (He.Fa.int "MAX_DOUBLINGS" (4)).okB,
  (He.Fa.int "MAX_SQUARE_doubled" (1000000)).okB,
  (He.Fa.int "MAX_SQUARE_eights" (30)).okB,
  (He.Fa.int "MAX_WANTED" (1000)).okB,
  (He.Fa.glo "InvalidRatio").okB,
  (He.Fa.glo "InvalidAlgebra").okB,
  (He.Fa.glo "InvalidElement").okB,
  (He.Fa.glo "InvalidOperation").okB,
  (He.Fa.glo "InvalidNumber").okB,
  (He.Fa.glo "TooMany").okB,
  (He.Fa.free "super").okB,
  (He.Fa.free "str").okB,
  ex0B "InvalidAlgebra" .ve,
  isFB own,
  slotsB stab,
  ex0B "InvalidElement" .ve,
  (He.Fa.mkr "Parts").okB,
  (He.Fa.mkr "Ratio").okB,
  (He.Fa.mkr "Terms").okB,
  ex0B "InvalidRatio" .ve,
  (He.Fa.mkr "Element").okB,
  clsB "Ratio",
  prB "Ratio" "top",
  prB "Ratio" "bottom",
  clsB "Element",
  prB "Element" "bottom",
  clsB "Doubled",
  prB "Doubled" "is_definite",
  neB "Doubled" own,
  ex0B "InvalidOperation" .ve,
  bopB "Element" "mul",
  (He.Fa.meth "Doubled" "one").okB,
  prB "Element" "algebra",
  (He.Fa.meth "Element" "scaled").okB,
  bopB "Element" "add",
  cmpB "Doubled" own "__eq__",
  cmpB "Element" own "__eq__",
  negB "Element",
  prB "Element" "is_ratio",
  neB "Element" own,
  (He.Fa.mkr "Doubled").okB,
  exTab "InvalidAlgebra" [("InvalidAlgebra", true), ("InvalidElement", false), ("InvalidNumber", false), ("InvalidRatio", false), ("TooMany", false), ("InvalidOperation", false)],
  exTab "InvalidElement" [("InvalidAlgebra", false), ("InvalidElement", true), ("InvalidNumber", false), ("InvalidRatio", false), ("TooMany", false), ("InvalidOperation", false)],
  exTab "InvalidOperation" [("InvalidAlgebra", false), ("InvalidElement", false), ("InvalidNumber", false), ("InvalidRatio", false), ("TooMany", false), ("InvalidOperation", true)],
  exTab "InvalidNumber" [("InvalidAlgebra", false), ("InvalidElement", false), ("InvalidNumber", true), ("InvalidRatio", false), ("TooMany", false), ("InvalidOperation", false)],
  xfF "InvalidNumber" "given",
  exTab "TooMany" [("InvalidAlgebra", false), ("InvalidElement", false), ("InvalidNumber", false), ("InvalidRatio", false), ("TooMany", true), ("InvalidOperation", false)],
  xfF "TooMany" "most",
  (He.Fa.meth "Doubled" "units").okB,
  (fun K => decide ((tf.map fun p => (He.cT K p.1).2).Nodup))]
def ts : List He.Tab := []
def reach : Reach := asM ((["require_algebra", "common_of", "lowest", "is_whole", "is_integer", "parts_told", "_law_trough", "are_squares", "norm_weights", "require_integer", "ratio_of", "told_ratio", "element_made", "raw_scaled", "_law_ladle", "_law_one_of", "unit_of", "_law_word", "is_eight", "require_eights"] : List PySem.Str) ++ (["are_alike", "require_small", "require_same_algebra", "raw_sum", "raw_mate", "raw_product", "units_by", "sum_by", "led_by", "way_on", "images", "do_turn", "is_worth", "is_element_of", "are_images", "is_images", "require_wanted", "with_square", "is_with_square", "_law_algebras_right"] : List PySem.Str) ++ (["require_images", "require_element_of", "led", "taken_back", "followed", "_law_ways_right", "_law_right", "law", "InvalidRatio", "InvalidAlgebra", "InvalidElement", "InvalidOperation", "InvalidNumber", "TooMany"] : List PySem.Str)) ((["Terms", "Ratio", "Doubled", "Parts", "Element", "BEYOND", "MANY_UNITS", "MAX_DOUBLINGS", "MAX_SQUARE_doubled", "MAX_SQUARE_eights", "MAX_WANTED"] : List PySem.Str)) ["Terms", "Ratio", "Doubled", "Parts", "Element"] [("Parts", "__init__"), ("Element", "__init__"), ("Doubled", "__init__"), ("Ratio", "__init__"), ("Terms", "__init__"), ("Element", "scaled"), ("Doubled", "one"), ("Doubled", "__eq__"), ("Element", "__mul__"), ("Element", "__add__"), ("Element", "__eq__"), ("Element", "__neg__"), ("Doubled", "units")] [("Ratio", "top"), ("Ratio", "bottom"), ("Element", "bottom"), ("Doubled", "is_definite"), ("Element", "algebra"), ("Element", "is_ratio")]
end LW
namespace LW
open PySem PySem.Spec L2 AW
abbrev R : PySem.W.OpenRow := PySem.W.OpenLaw.row PySem.Challenge.rw_squaretimes_k45_errors_of_eights
abbrev hk : PySem.W.Hook := hookC reach exs fn ts (tf.map (·.1)) cl
def ob (s : PySem.W.SharedT) : AlC := obsC reach exs fn ts (tf.map (·.1)) cl (HandSHeadRun.getT s)
theorem ob_eq (s : PySem.W.SharedT) : ob s = hk.obs s.abs := obsC_eq (HandSHeadRun.getT_eq s)
def loose : List PySem.Str := (["_wall", "SquareError", "InvalidRatio", "InvalidAlgebra", "InvalidElement", "InvalidOperation", "ParseError", "InvalidNumber", "TooMany", "BEYOND", "MOST_FIGURES", "FIGURES", "is_whole", "is_integer", "require_integer", "common_of", "are_figures", "Terms", "Ratio", "ratio_of"] : List PySem.Str) ++ (["ratio_text", "is_ratio_or_integer", "told_ratio", "raw_mate", "raw_sum", "raw_scaled", "raw_product", "norm_weights", "raw_norm", "lowest", "text_of", "MAX_SQUARE_doubled", "MAX_DOUBLINGS", "are_squares", "Doubled", "squares_text", "Parts", "parts_told", "Element", "element_made"] : List PySem.Str) ++ (["unit_of", "norm_top", "require_algebra", "is_element_of", "require_element_of", "require_same_algebra", "MAX_SQUARED", "MOST_SQUARES", "is_two", "is_three", "is_whole_sum", "two_parts", "parts_of", "require_many", "whole_squares", "MAX_SQUARE_eights", "MAX_WANTED", "MANY_UNITS", "BELOW", "ABOVE"] : List PySem.Str) ++ (["is_eight", "require_eights", "require_small", "are_alike", "is_worth", "do_turn", "are_images", "is_images", "require_images", "units_by", "sum_by", "led_by", "places_by", "way_back", "way_on", "led", "taken_back", "followed", "rims_to", "norm_found"] : List PySem.Str) ++ (["with_goal", "plain_way", "plain_eight", "images", "require_wanted", "plain_entries", "with_square", "is_with_square", "_law_trough", "_law_ladle", "_law_one_of", "_law_word", "_law_algebras_right", "_law_ways_right", "_law_right"] : List PySem.Str)
theorem r1 (w : World) : (HandSHeadRun.wholeF (fun p => HandSHeadRun.stepQ (HandSHeadRun.denQ HandSHeadRun.tabQ) p w) HandSHeadRun.fenceQ 12000 R.prog).map (fun x => (HandSHeadRun.looksF R.prog x.1.heap x.2.abs, HandSHeadRun.seenQ (PySem.W.view R.prog [0, 103]) loose (importedModules R.prog.main.body) (fun s => PySem.W.xlAt (PySem.W.view R.prog [0, 103]) [] s && PySem.W.recOk R.toRowW.records s) x.2.abs)) = some ((true, PySem.W.openGood (PySem.W.view R.prog [0, 103]) loose)) := by
  kernel_rfl
theorem r2 (w : World) : (HandSHeadRun.wholeF (fun p => HandSHeadRun.stepQ (HandSHeadRun.denQ HandSHeadRun.tabQ) p w) HandSHeadRun.fenceQ 12000 R.prog).map (fun x => exs.all fun b => b (kB reach (HandSHeadRun.getT x.2))) = some (true) := by
  kernel_rfl
theorem r3 (w : World) : (HandSHeadRun.wholeF (fun p => HandSHeadRun.stepQ (HandSHeadRun.denQ HandSHeadRun.tabQ) p w) HandSHeadRun.fenceQ 12000 R.prog).map (fun x => (obsB reach [] fn ts (tf.map (·.1)) (HandSHeadRun.getT x.2), (cl.all fun d => d.ok (kB reach (HandSHeadRun.getT x.2))), cl.map fun d => fnC (kB reach (HandSHeadRun.getT x.2)) (iniA (kB reach (HandSHeadRun.getT x.2)) d.x))) = some ((valB fn ts w, true, cl.map ClD.val)) := by
  kernel_rfl
theorem r4 (w : World) : (HandSHeadRun.wholeF (fun p => HandSHeadRun.stepQ (HandSHeadRun.denQ HandSHeadRun.tabQ) p w) HandSHeadRun.fenceQ 12000 R.prog).map (fun x => ob x.2) = some (hk.val w) := by
  have h2 := r2 w
  have h3 := r3 w
  generalize (HandSHeadRun.wholeF (fun p => HandSHeadRun.stepQ (HandSHeadRun.denQ HandSHeadRun.tabQ) p w) HandSHeadRun.fenceQ 12000 R.prog) = x at h2 h3 ⊢
  cases x with
  | none => cases h2
  | some s => exact congrArg some (obsC_parts (Option.some.inj h2) (Option.some.inj h3))
theorem run (w : World) : HandSHeadRun.RunEqI R (PySem.W.view R.prog [0, 103]) hk ob 12000 loose w := by
  have h1 := r1 w
  have h4 := r4 w
  have h := map_two h1 h4
  exact h
end LW
namespace LW
open PySem PySem.Spec L2 AW
section
variable {P : Program} {w : World} {K : PySem.W.Frag} {mg : Str → Option Value}
theorem l_InvalidNumber (T : Tx exs fn ts w K mg) (TC : Cls cl K) (HP : PK P "/claim/cut.py") : LowX P K mg "InvalidNumber" "given" true := by
  obtain ⟨fI, cda, cc, kp⟩ := TC 0 c_InvalidNumber rfl
  obtain ⟨a, p0, p1, p2, p3, p4, p5, p6, p7, p8, ha, st⟩ := st_InvalidNumber
  rw [← ha]
  exact low_of kp HP (T.gl "InvalidNumber" (T.at_ 77 rfl)) (T.fr "super" (T.at_ 79 rfl)) (T.fr "str" (T.at_ 80 rfl)) st
theorem l_TooMany (T : Tx exs fn ts w K mg) (TC : Cls cl K) (HP : PK P "/claim/cut.py") : LowX P K mg "TooMany" "most" true := by
  obtain ⟨fI, cda, cc, kp⟩ := TC 1 c_TooMany rfl
  obtain ⟨a, p0, p1, p2, p3, p4, p5, p6, p7, p8, ha, st⟩ := st_TooMany
  rw [← ha]
  exact low_of kp HP (T.gl "TooMany" (T.at_ 78 rfl)) (T.fr "super" (T.at_ 79 rfl)) (T.fr "str" (T.at_ 80 rfl)) st
theorem sc_require_algebra : FnScope n_require_algebra ["value"] (defScope s_require_algebra) := ⟨rfl, rfl, rfl, by decide +kernel, rfl, by decide +kernel, by decide +kernel⟩
theorem o_require_algebra (T : Tx exs fn ts w K mg) (TC : Cls cl K) (HP : PK P "/claim/cut.py")  : Ok (tf.map (·.1)) P w K mg "require_algebra" 2 f_require_algebra := by
  obtain ⟨fd, F⟩ := T.fd 0 d_require_algebra rfl
  refine ⟨T.gl "require_algebra" (T.at_ 0 rfl), F.kp, fun base TB => fn_ok F sc_require_algebra rfl (F.bindsA fun _ _ _ _ _ _ us hl => match us, hl with | [_], _ => rfl) fun cd A out s H E hr gd => ?_⟩
  have hu := units64 hr
  have hu5 := units65 hr
  have hu3 := units50 hr
  have tk : Takes (cxOf (L2.CX P w) P w K mg base n_require_algebra "require_algebra" (defScope s_require_algebra) (ga K "require_algebra") cd A out s H E) (WF E) := takes_of rfl rfl rfl rfl
  exact (ss_cons (s_if (t_not (t_tru (x_isiC (c := "Doubled") (isF_of (T.at_ 82 rfl)) rfl (T.fr "isinstance" (T.at_ 58 rfl)) rfl (T.gl "Doubled" (T.at_ 50 rfl)) (x_var (pv 0)))))
  (ss_cons (s_raiseZ (T.at_ 81 rfl) (T.gl "InvalidAlgebra" (T.at_ 74 rfl)) rfl tk rfl)
  ss_nil)
  ss_nil)
  ss_nil)
theorem sc_common_of : FnScope n_common_of ["one", "other"] (defScope s_common_of) := ⟨rfl, rfl, rfl, by decide +kernel, rfl, by decide +kernel, by decide +kernel⟩
theorem o_common_of (T : Tx exs fn ts w K mg) (TC : Cls cl K) (HP : PK P "/claim/cut.py")  : Ok (tf.map (·.1)) P w K mg "common_of" 2 f_common_of := by
  obtain ⟨fd, F⟩ := T.fd 1 d_common_of rfl
  refine ⟨T.gl "common_of" (T.at_ 1 rfl), F.kp, fun base TB => fn_ok F sc_common_of rfl (F.bindsA fun _ _ _ _ _ _ us hl => match us, hl with | [_, _], _ => rfl) fun cd A out s H E hr gd => ?_⟩
  have hu := units64 hr
  have hu5 := units65 hr
  have hu3 := units50 hr
  have tk : Takes (cxOf (L2.CX P w) P w K mg base n_common_of "common_of" (defScope s_common_of) (ga K "common_of") cd A out s H E) (WF E) := takes_of rfl rfl rfl rfl
  exact (ss_cons (s_par (i := 0) (j := 1) rfl sc_common_of.nd rfl rfl (by decide) rfl rfl (a_cons (x_callB call_abs fAbs_s rfl (T.fr "abs" (T.at_ 53 rfl)) bt_abs (a_cons (x_var (pv 0)) a_nil)) (a_cons (x_callB call_abs fAbs_s rfl (T.fr "abs" (T.at_ 53 rfl)) bt_abs (a_cons (x_var (pv 1)) a_nil)) a_nil)) (by rfl))
  (ss_cons (s_while 100000 (passes_of rfl) (t_cmp (f := oNe) (op_ne1 hu) oNe_s (x_var (pv 1)) x_int (nomark _))
  (ss_cons (s_par (i := 0) (j := 1) rfl sc_common_of.nd rfl rfl (by decide) rfl rfl (a_cons (x_var (pv 1)) (a_cons (x_mod (x_var (pv 0)) (x_var (pv 1))) a_nil)) (by rfl))
  ss_nil))
  (ss_cons (s_ret (x_var (pv 0)))
  ss_nil)))
theorem sc_lowest : FnScope n_lowest ["entries", "bottom"] (defScope s_lowest) := ⟨rfl, rfl, rfl, by decide +kernel, rfl, by decide +kernel, by decide +kernel⟩
theorem o_lowest (T : Tx exs fn ts w K mg) (TC : Cls cl K) (HP : PK P "/claim/cut.py") (o_common_of : Ok (tf.map (·.1)) P w K mg "common_of" 2 f_common_of) : Ok (tf.map (·.1)) P w K mg "lowest" 3 f_lowest := by
  obtain ⟨fd, F⟩ := T.fd 2 d_lowest rfl
  refine ⟨T.gl "lowest" (T.at_ 2 rfl), F.kp, fun base TB => fn_ok F sc_lowest rfl (F.bindsA fun _ _ _ _ _ _ us hl => match us, hl with | [_, _], _ => rfl) fun cd A out s H E hr gd => ?_⟩
  have hu := units64 hr
  have hu5 := units65 hr
  have hu3 := units50 hr
  have tk : Takes (cxOf (L2.CX P w) P w K mg base n_lowest "lowest" (defScope s_lowest) (ga K "lowest") cd A out s H E) (WF E) := takes_of rfl rfl rfl rfl
  exact (ss_cons (s_set (i := 2) sc_lowest.nd rfl (by first | exact Or.inl rfl | exact Or.inr rfl) (x_callB call_abs fAbs_s rfl (T.fr "abs" (T.at_ 53 rfl)) bt_abs (a_cons (x_var (pv 1)) a_nil)))
  (ss_cons (s_for (passes_of rfl) rfl (i_seq (x_var (pv 0))) (g_name (i := 3) sc_lowest.nd rfl (by first | exact Or.inl rfl | exact Or.inr rfl))
  (ss_cons (s_set (i := 2) sc_lowest.nd rfl (by first | exact Or.inl rfl | exact Or.inr rfl) (x_callO o_common_of TB gd hr (by decide) tk rfl (a_cons (x_var (pv 2)) (a_cons (x_var (pv 3)) a_nil))))
  ss_nil))
  (ss_cons (s_if (t_cmp (f := oLt) op_lt oB0_s (x_var (pv 1)) x_int (nomark _))
  (ss_cons (s_set (i := 2) sc_lowest.nd rfl (by first | exact Or.inl rfl | exact Or.inr rfl) (x_neg (x_var (pv 2))))
  ss_nil)
  ss_nil)
  (ss_cons (s_ret (x_tup (a_cons (x_callTy call_tuple_of fTuple_s rfl (T.fr "tuple" (T.at_ 65 rfl)) bt_tuple (a_cons (x_lc (own := [("entry", 3)]) rfl sc_lowest.nd (i_seq (x_var (pv 0))) (blkOk_by (by kernel_rfl)) (ct_name (i := 3) (by decide)) (fun _ _ _ _ _ => (pg_name (i := 3) sc_lowest.nd rfl (by first | exact Or.inl rfl | exact Or.inr rfl))) (fun _ _ _ _ _ => ts_nil) (fun _ _ _ _ _ => (x_fdiv (x_var (pv 3)) (x_var (pv 2))))) a_nil)) (a_cons (x_fdiv (x_var (pv 1)) (x_var (pv 2))) a_nil))))
  ss_nil))))
theorem sc_Parts___init__ : FnScope n_Parts___init__ ["self", "entries", "bottom"] (defScope s_Parts___init__) := ⟨rfl, rfl, rfl, by decide +kernel, rfl, by decide +kernel, by decide +kernel⟩
theorem o_Parts___init__ (T : Tx exs fn ts w K mg) (TC : Cls cl K) (HP : PK P "/claim/cut.py") (o_lowest : Ok (tf.map (·.1)) P w K mg "lowest" 3 f_lowest) : OkA (tf.map (·.1)) P w K mg (He.ma K (ga K "Parts") "__init__") 4 f_Parts___init__ := by
  obtain ⟨fd, F⟩ := T.fd 3 d_Parts___init__ rfl
  refine ⟨F.kp, fun base TB => fn_okK F sc_Parts___init__ rfl (F.bindsA fun _ _ _ _ _ _ us hl => match us, hl with | [_, _, _], _ => rfl) fun cd A out s H E hr gd => ?_⟩
  have hu := units64 hr
  have hu5 := units65 hr
  have hu3 := units50 hr
  have tk : Takes (cxOf (L2.CX P w) P w K mg base n_Parts___init__ "Parts.__init__" (defScope s_Parts___init__) (He.ma K (ga K "Parts") "__init__") cd A out s H E) (WF E) := takes_of rfl rfl rfl rfl
  exact (ss_cons (s_asg (x_callO o_lowest TB gd hr (by decide) tk rfl (a_cons (x_var (pv 1)) (a_cons (x_var (pv 2)) a_nil))) (g_sq rfl (gs_cons (g_fld (W := WF E) (slF_of (T.at_ 83 rfl)) (x_var (pv 0))) (gs_cons (g_fld (W := WF E) (slF_of (T.at_ 83 rfl)) (x_var (pv 0))) gs_nil))))
  ss_nil)
theorem sc_is_whole : FnScope n_is_whole ["value"] (defScope s_is_whole) := ⟨rfl, rfl, rfl, by decide +kernel, rfl, by decide +kernel, by decide +kernel⟩
theorem o_is_whole (T : Tx exs fn ts w K mg) (TC : Cls cl K) (HP : PK P "/claim/cut.py")  : Ok (tf.map (·.1)) P w K mg "is_whole" 2 f_is_whole := by
  obtain ⟨fd, F⟩ := T.fd 4 d_is_whole rfl
  refine ⟨T.gl "is_whole" (T.at_ 3 rfl), F.kp, fun base TB => fn_ok F sc_is_whole rfl (F.bindsA fun _ _ _ _ _ _ us hl => match us, hl with | [_], _ => rfl) fun cd A out s H E hr gd => ?_⟩
  have hu := units64 hr
  have hu5 := units65 hr
  have hu3 := units50 hr
  have tk : Takes (cxOf (L2.CX P w) P w K mg base n_is_whole "is_whole" (defScope s_is_whole) (ga K "is_whole") cd A out s H E) (WF E) := takes_of rfl rfl rfl rfl
  exact (ss_cons (s_ret (x_and (x_isi .int (isF_of (T.at_ 82 rfl)) rfl (T.fr "isinstance" (T.at_ 58 rfl)) rfl (T.fr "int" (T.at_ 57 rfl)) bt_int (x_var (pv 0))) (x_one (x_not (x_isi .bl (isF_of (T.at_ 82 rfl)) rfl (T.fr "isinstance" (T.at_ 58 rfl)) rfl (T.fr "bool" (T.at_ 56 rfl)) bt_bool (x_var (pv 0)))))))
  ss_nil)
theorem sc_is_integer : FnScope n_is_integer ["value"] (defScope s_is_integer) := ⟨rfl, rfl, rfl, by decide +kernel, rfl, by decide +kernel, by decide +kernel⟩
theorem o_is_integer (T : Tx exs fn ts w K mg) (TC : Cls cl K) (HP : PK P "/claim/cut.py") (o_is_whole : Ok (tf.map (·.1)) P w K mg "is_whole" 2 f_is_whole) : Ok (tf.map (·.1)) P w K mg "is_integer" 3 f_is_integer := by
  obtain ⟨fd, F⟩ := T.fd 5 d_is_integer rfl
  obtain ⟨t_BEYOND, h_BEYOND⟩ := T.it "BEYOND" _ (T.at_ 67 rfl)
  refine ⟨T.gl "is_integer" (T.at_ 4 rfl), F.kp, fun base TB => fn_ok F sc_is_integer rfl (F.bindsA fun _ _ _ _ _ _ us hl => match us, hl with | [_], _ => rfl) fun cd A out s H E hr gd => ?_⟩
  have hu := units64 hr
  have hu5 := units65 hr
  have hu3 := units50 hr
  have tk : Takes (cxOf (L2.CX P w) P w K mg base n_is_integer "is_integer" (defScope s_is_integer) (ga K "is_integer") cd A out s H E) (WF E) := takes_of rfl rfl rfl rfl
  exact (ss_cons (s_ret (x_and (x_callO o_is_whole TB gd hr (by decide) tk rfl (a_cons (x_var (pv 0)) a_nil)) (x_one (x_chain (f := oLt) (f' := oLt) op_lt op_lt oB0_s oB0_s (x_neg (x_c (pe_glob (v := .int (1000000000000000000000000000000000000000000000000000000000000)) rfl h_BEYOND ⟨_, rfl⟩) fun _ => .int)) (x_var (pv 0)) (x_c (pe_glob (v := .int (1000000000000000000000000000000000000000000000000000000000000)) rfl h_BEYOND ⟨_, rfl⟩) fun _ => .int)))))
  ss_nil)
theorem sc_parts_told : FnScope n_parts_told ["algebra", "entries", "bottom"] (defScope s_parts_told) := ⟨rfl, rfl, rfl, by decide +kernel, rfl, by decide +kernel, by decide +kernel⟩
theorem o_parts_told (T : Tx exs fn ts w K mg) (TC : Cls cl K) (HP : PK P "/claim/cut.py") (o_Parts___init__ : OkA (tf.map (·.1)) P w K mg (He.ma K (ga K "Parts") "__init__") 4 f_Parts___init__) (o_is_integer : Ok (tf.map (·.1)) P w K mg "is_integer" 3 f_is_integer) : Ok (tf.map (·.1)) P w K mg "parts_told" 6 f_parts_told := by
  obtain ⟨fd, F⟩ := T.fd 6 d_parts_told rfl
  have l_InvalidNumber := l_InvalidNumber T TC HP
  refine ⟨T.gl "parts_told" (T.at_ 5 rfl), F.kp, fun base TB => fn_ok F sc_parts_told rfl (F.bindsA fun _ _ _ _ _ _ us hl => match us, hl with | [_, _, _], _ => rfl) fun cd A out s H E hr gd => ?_⟩
  have hu := units64 hr
  have hu5 := units65 hr
  have hu3 := units50 hr
  have tk : Takes (cxOf (L2.CX P w) P w K mg base n_parts_told "parts_told" (defScope s_parts_told) (ga K "parts_told") cd A out s H E) (WF E) := takes_of rfl rfl rfl rfl
  exact (ss_cons (s_if (t_tru (x_isiC (c := "Parts") (isF_of (T.at_ 82 rfl)) rfl (T.fr "isinstance" (T.at_ 58 rfl)) rfl (T.gl "Parts" (T.at_ 51 rfl)) (x_var (pv 1))))
  (ss_cons (s_ret (x_var (pv 1)))
  ss_nil)
  ss_nil)
  (ss_cons (s_if (PW.pt (w_or (t_not (t_tru (x_isi .tup (isF_of (T.at_ 82 rfl)) rfl (T.fr "isinstance" (T.at_ 58 rfl)) rfl (T.fr "tuple" (T.at_ 65 rfl)) bt_tuple (x_var (pv 1))))) (w_or1 (t_cmp (f := oNe) (op_ne1 hu) oNe_s (x_callB call_len fLen_s rfl (T.fr "len" (T.at_ 59 rfl)) bt_len (a_cons (x_var (pv 1)) a_nil)) (x_attr (k := 0) (slF_of (T.at_ 83 rfl)) prF_nil TB gd hr (by decide) (x_var (pv 0))) (nomark _)))))
  (ss_cons (s_raiseZ (T.at_ 84 rfl) (T.gl "InvalidElement" (T.at_ 75 rfl)) rfl tk rfl)
  ss_nil)
  ss_nil)
  (ss_cons (s_if (t_not (t_tru (x_callB (cr_all rfl) fAll_s rfl (T.fr "all" (T.at_ 54 rfl)) bt_all (a_cons (x_lc (own := [("entry", 3)]) rfl sc_parts_told.nd (i_seq (x_var (pv 1))) (blkOk_by (by kernel_rfl)) (ct_name (i := 3) (by decide)) (fun _ _ _ _ _ => (pg_name (i := 3) sc_parts_told.nd rfl (by first | exact Or.inl rfl | exact Or.inr rfl))) (fun _ _ _ _ _ => ts_nil) (fun _ _ _ _ _ => (x_callO o_is_integer TB gd hr (by decide) takes0 rfl (a_cons (x_var (pv 3)) a_nil)))) a_nil))))
  (ss_cons (s_raiseZ (T.at_ 84 rfl) (T.gl "InvalidElement" (T.at_ 75 rfl)) rfl tk rfl)
  ss_nil)
  ss_nil)
  (ss_cons (s_if (PW.pt (w_or (t_not (t_tru (x_callO o_is_integer TB gd hr (by decide) tk rfl (a_cons (x_var (pv 2)) a_nil)))) (w_or1 (t_cmp (f := oEq) (op_eq1 hu) oEq_s (x_var (pv 2)) x_int (nomark _)))))
  (ss_cons (s_raiseL l_InvalidNumber rfl tk gd hr (by decide) rfl (x_var (pv 2)))
  ss_nil)
  ss_nil)
  (ss_cons (s_ret (x_make (He.mkr_ok (T.at_ 85 rfl)) o_Parts___init__ TB gd hr (by decide) tk rfl (T.gl "Parts" (T.at_ 51 rfl)) (a_cons (x_var (pv 1)) (a_cons (x_var (pv 2)) a_nil))))
  ss_nil)))))
theorem sc_Element___init__ : FnScope n_Element___init__ ["self", "algebra", "entries", "bottom"] (defScope s_Element___init__) := ⟨rfl, rfl, rfl, by decide +kernel, rfl, by decide +kernel, by decide +kernel⟩
theorem o_Element___init__ (T : Tx exs fn ts w K mg) (TC : Cls cl K) (HP : PK P "/claim/cut.py") (o_parts_told : Ok (tf.map (·.1)) P w K mg "parts_told" 6 f_parts_told) (o_require_algebra : Ok (tf.map (·.1)) P w K mg "require_algebra" 2 f_require_algebra) : OkA (tf.map (·.1)) P w K mg (He.ma K (ga K "Element") "__init__") 7 f_Element___init__ := by
  obtain ⟨fd, F⟩ := T.fd 7 d_Element___init__ rfl
  refine ⟨F.kp, fun base TB => fn_okFK F sc_Element___init__ rfl (fun _ => .int) (fun _ _ _ _ _ _ _ us its hl h1 => match us, hl, its, h1 with | [_, _, _], _, [_], _ => ⟨_, rfl, rfl⟩) (fun _ _ _ _ _ _ _ us its hl h1 => match us, hl, its, h1 with | [_, _, _, _], _, [_], _ => ⟨_, rfl, rfl⟩) fun cd A out s H E hr gd => ?_⟩
  have hu := units64 hr
  have hu5 := units65 hr
  have hu3 := units50 hr
  have tk : Takes (cxOf (L2.CX P w) P w K mg base n_Element___init__ "Element.__init__" (defScope s_Element___init__) (He.ma K (ga K "Element") "__init__") cd A out s H E) (WF E) := takes_of rfl rfl rfl rfl
  exact (ss_cons (s_expr (x_callO o_require_algebra TB gd hr (by decide) tk rfl (a_cons (x_var (pv 1)) a_nil)))
  (ss_cons (s_set (i := 4) sc_Element___init__.nd rfl (by first | exact Or.inl rfl | exact Or.inr rfl) (x_callO o_parts_told TB gd hr (by decide) tk rfl (a_cons (x_var (pv 1)) (a_cons (x_var (pv 2)) (a_cons (x_var (pv 3)) a_nil)))))
  (ss_cons (s_fld (slF_of (T.at_ 83 rfl)) (x_var (pv 0)) (x_var (pv 1)))
  (ss_cons (s_fld (slF_of (T.at_ 83 rfl)) (x_var (pv 0)) (x_attr (k := 0) (slF_of (T.at_ 83 rfl)) prF_nil TB gd hr (by decide) (x_var (pv 4))))
  (ss_cons (s_fld (slF_of (T.at_ 83 rfl)) (x_var (pv 0)) (x_attr (k := 0) (slF_of (T.at_ 83 rfl)) prF_nil TB gd hr (by decide) (x_var (pv 4))))
  ss_nil)))))
theorem sc_law_trough : FnScope n_law_trough ["_law_script", "_law_spot"] (defScope s_law_trough) := ⟨rfl, rfl, rfl, by decide +kernel, rfl, by decide +kernel, by decide +kernel⟩
theorem o_law_trough (T : Tx exs fn ts w K mg) (TC : Cls cl K) (HP : PK P "/claim/cut.py")  : Ok (tf.map (·.1)) P w K mg "_law_trough" 2 f_law_trough := by
  obtain ⟨fd, F⟩ := T.fd 8 d_law_trough rfl
  refine ⟨T.gl "_law_trough" (T.at_ 6 rfl), F.kp, fun base TB => fn_okK F sc_law_trough rfl (F.bindsA fun _ _ _ _ _ _ us hl => match us, hl with | [_, _], _ => rfl) fun cd A out s H E hr gd => ?_⟩
  have hu := units64 hr
  have hu5 := units65 hr
  have hu3 := units50 hr
  have tk : Takes (cxOf (L2.CX P w) P w K mg base n_law_trough "_law_trough" (defScope s_law_trough) (ga K "_law_trough") cd A out s H E) (WF E) := takes_of rfl rfl rfl rfl
  exact (ss_cons (s_set (i := 2) sc_law_trough.nd rfl (by first | exact Or.inl rfl | exact Or.inr rfl) (x_if (t_cmp (f := oLt) op_lt oB0_s (x_var (pv 1)) (x_callB call_len fLen_s rfl (T.fr "len" (T.at_ 59 rfl)) bt_len (a_cons (x_var (pv 0)) a_nil)) (nomark _)) (x_callTy call_int1 fInt_s rfl (T.fr "int" (T.at_ 57 rfl)) bt_int (a_cons (x_ix (x_var (pv 0)) (x_var (pv 1))) a_nil)) (x_add (x_mul x_int (x_var (pv 1))) x_int)))
  (ss_cons (s_set (i := 3) sc_law_trough.nd rfl (by first | exact Or.inl rfl | exact Or.inr rfl) (x_mod (x_callTy call_int1 fInt_s rfl (T.fr "int" (T.at_ 57 rfl)) bt_int (a_cons (x_callB call_abs fAbs_s rfl (T.fr "abs" (T.at_ 53 rfl)) bt_abs (a_cons (x_var (pv 2)) a_nil)) a_nil)) (x_pow (x_pow x_int x_int) x_int)))
  (ss_cons (s_ret (x_lstM (a_cons (x_callB (call_max2 rfl) fInt2_s rfl (T.fr "max" (T.at_ 61 rfl)) bt_max (a_cons x_int (a_cons (x_sub (x_var (pv 3)) (x_pow x_int x_int)) a_nil))) (a_cons (x_add (x_add (x_add (x_mul (x_mod (x_callTy call_int1 fInt_s rfl (T.fr "int" (T.at_ 57 rfl)) bt_int (a_cons (x_var (pv 3)) a_nil)) x_int) x_int) (x_mul x_int (x_var (pv 1)))) (x_mul x_int (x_callTy call_int1 fInt_s rfl (T.fr "int" (T.at_ 57 rfl)) bt_int (a_cons (x_lt (x_var (pv 2)) x_int) a_nil)))) x_int) (a_cons x_int a_nil)))))
  ss_nil)))
theorem sc_are_squares : FnScope n_are_squares ["value"] (defScope s_are_squares) := ⟨rfl, rfl, rfl, by decide +kernel, rfl, by decide +kernel, by decide +kernel⟩
theorem o_are_squares (T : Tx exs fn ts w K mg) (TC : Cls cl K) (HP : PK P "/claim/cut.py") (o_is_integer : Ok (tf.map (·.1)) P w K mg "is_integer" 3 f_is_integer) : Ok (tf.map (·.1)) P w K mg "are_squares" 4 f_are_squares := by
  obtain ⟨fd, F⟩ := T.fd 9 d_are_squares rfl
  obtain ⟨t_MAX_DOUBLINGS, h_MAX_DOUBLINGS⟩ := T.it "MAX_DOUBLINGS" _ (T.at_ 69 rfl)
  obtain ⟨t_MAX_SQUARE_doubled, h_MAX_SQUARE_doubled⟩ := T.it "MAX_SQUARE_doubled" _ (T.at_ 70 rfl)
  refine ⟨T.gl "are_squares" (T.at_ 7 rfl), F.kp, fun base TB => fn_ok F sc_are_squares rfl (F.bindsA fun _ _ _ _ _ _ us hl => match us, hl with | [_], _ => rfl) fun cd A out s H E hr gd => ?_⟩
  have hu := units64 hr
  have hu5 := units65 hr
  have hu3 := units50 hr
  have tk : Takes (cxOf (L2.CX P w) P w K mg base n_are_squares "are_squares" (defScope s_are_squares) (ga K "are_squares") cd A out s H E) (WF E) := takes_of rfl rfl rfl rfl
  exact (ss_cons (s_if (PW.pt (w_or (t_not (t_tru (x_isi .tup (isF_of (T.at_ 82 rfl)) rfl (T.fr "isinstance" (T.at_ 58 rfl)) rfl (T.fr "tuple" (T.at_ 65 rfl)) bt_tuple (x_var (pv 0))))) (w_or (t_cmp (f := oGt) op_gt oB0_s (x_callB call_len fLen_s rfl (T.fr "len" (T.at_ 59 rfl)) bt_len (a_cons (x_var (pv 0)) a_nil)) (x_c (pe_glob (v := .int (4)) rfl h_MAX_DOUBLINGS ⟨_, rfl⟩) fun _ => .int) (nomark _)) (w_or1 (t_not (t_tru (x_callB (cr_all rfl) fAll_s rfl (T.fr "all" (T.at_ 54 rfl)) bt_all (a_cons (x_lc (own := [("entry", 1)]) rfl sc_are_squares.nd (i_seq (x_var (pv 0))) (blkOk_by (by kernel_rfl)) (ct_name (i := 1) (by decide)) (fun _ _ _ _ _ => (pg_name (i := 1) sc_are_squares.nd rfl (by first | exact Or.inl rfl | exact Or.inr rfl))) (fun _ _ _ _ _ => ts_nil) (fun _ _ _ _ _ => (x_callO o_is_integer TB gd hr (by decide) takes0 rfl (a_cons (x_var (pv 1)) a_nil)))) a_nil))))))))
  (ss_cons (s_ret x_bl)
  ss_nil)
  ss_nil)
  (ss_cons (s_ret (x_callB (cr_all rfl) fAll_s rfl (T.fr "all" (T.at_ 54 rfl)) bt_all (a_cons (x_lc (own := [("entry", 1)]) rfl sc_are_squares.nd (i_seq (x_var (pv 0))) (blkOk_by (by kernel_rfl)) (ct_name (i := 1) (by decide)) (fun _ _ _ _ _ => (pg_name (i := 1) sc_are_squares.nd rfl (by first | exact Or.inl rfl | exact Or.inr rfl))) (fun _ _ _ _ _ => ts_nil) (fun _ _ _ _ _ => (x_and (x_ne hu (x_var (pv 1)) x_int) (x_one (x_chain (f := oLe) (f' := oLe) op_le op_le oB0_s oB0_s (x_neg (x_c (pe_glob (v := .int (1000000)) rfl h_MAX_SQUARE_doubled ⟨_, rfl⟩) fun _ => .int)) (x_var (pv 1)) (x_c (pe_glob (v := .int (1000000)) rfl h_MAX_SQUARE_doubled ⟨_, rfl⟩) fun _ => .int)))))) a_nil)))
  ss_nil))
theorem sc_norm_weights : FnScope n_norm_weights ["squares"] (defScope s_norm_weights) := ⟨rfl, rfl, rfl, by decide +kernel, rfl, by decide +kernel, by decide +kernel⟩
theorem o_norm_weights (T : Tx exs fn ts w K mg) (TC : Cls cl K) (HP : PK P "/claim/cut.py")  : Ok (tf.map (·.1)) P w K mg "norm_weights" 2 f_norm_weights := by
  obtain ⟨fd, F⟩ := T.fd 10 d_norm_weights rfl
  refine ⟨T.gl "norm_weights" (T.at_ 8 rfl), F.kp, fun base TB => fn_ok F sc_norm_weights rfl (F.bindsA fun _ _ _ _ _ _ us hl => match us, hl with | [_], _ => rfl) fun cd A out s H E hr gd => ?_⟩
  have hu := units64 hr
  have hu5 := units65 hr
  have hu3 := units50 hr
  have tk : Takes (cxOf (L2.CX P w) P w K mg base n_norm_weights "norm_weights" (defScope s_norm_weights) (ga K "norm_weights") cd A out s H E) (WF E) := takes_of rfl rfl rfl rfl
  exact (ss_cons (s_set (i := 1) sc_norm_weights.nd rfl (by first | exact Or.inl rfl | exact Or.inr rfl) (x_tup (a_cons x_int a_nil)))
  (ss_cons (s_for (passes_of rfl) rfl (i_seq (x_var (pv 0))) (g_name (i := 2) sc_norm_weights.nd rfl (by first | exact Or.inl rfl | exact Or.inr rfl))
  (ss_cons (s_set (i := 1) sc_norm_weights.nd rfl (by first | exact Or.inl rfl | exact Or.inr rfl) (x_add (x_var (pv 1)) (x_callTy call_tuple_of fTuple_s rfl (T.fr "tuple" (T.at_ 65 rfl)) bt_tuple (a_cons (x_lc (own := [("weight", 3)]) rfl sc_norm_weights.nd (i_seq (x_var (pv 1))) (blkOk_by (by kernel_rfl)) (ct_name (i := 3) (by decide)) (fun _ _ _ _ _ => (pg_name (i := 3) sc_norm_weights.nd rfl (by first | exact Or.inl rfl | exact Or.inr rfl))) (fun _ _ _ _ _ => ts_nil) (fun _ _ _ _ _ => (x_mul (x_neg (x_var (pv 2))) (x_var (pv 3))))) a_nil))))
  ss_nil))
  (ss_cons (s_ret (x_var (pv 1)))
  ss_nil)))
theorem sc_Doubled___init__ : FnScope n_Doubled___init__ ["self", "squares"] (defScope s_Doubled___init__) := ⟨rfl, rfl, rfl, by decide +kernel, rfl, by decide +kernel, by decide +kernel⟩
theorem o_Doubled___init__ (T : Tx exs fn ts w K mg) (TC : Cls cl K) (HP : PK P "/claim/cut.py") (o_are_squares : Ok (tf.map (·.1)) P w K mg "are_squares" 4 f_are_squares) (o_norm_weights : Ok (tf.map (·.1)) P w K mg "norm_weights" 2 f_norm_weights) : OkA (tf.map (·.1)) P w K mg (He.ma K (ga K "Doubled") "__init__") 5 f_Doubled___init__ := by
  obtain ⟨fd, F⟩ := T.fd 11 d_Doubled___init__ rfl
  refine ⟨F.kp, fun base TB => fn_okK F sc_Doubled___init__ rfl (F.bindsA fun _ _ _ _ _ _ us hl => match us, hl with | [_, _], _ => rfl) fun cd A out s H E hr gd => ?_⟩
  have hu := units64 hr
  have hu5 := units65 hr
  have hu3 := units50 hr
  have tk : Takes (cxOf (L2.CX P w) P w K mg base n_Doubled___init__ "Doubled.__init__" (defScope s_Doubled___init__) (He.ma K (ga K "Doubled") "__init__") cd A out s H E) (WF E) := takes_of rfl rfl rfl rfl
  exact (ss_cons (s_if (t_not (t_tru (x_callO o_are_squares TB gd hr (by decide) tk rfl (a_cons (x_var (pv 1)) a_nil))))
  (ss_cons (s_raiseZ (T.at_ 81 rfl) (T.gl "InvalidAlgebra" (T.at_ 74 rfl)) rfl tk rfl)
  ss_nil)
  ss_nil)
  (ss_cons (s_fld (slF_of (T.at_ 83 rfl)) (x_var (pv 0)) (x_var (pv 1)))
  (ss_cons (s_fld (slF_of (T.at_ 83 rfl)) (x_var (pv 0)) (x_callB call_len fLen_s rfl (T.fr "len" (T.at_ 59 rfl)) bt_len (a_cons (x_callO o_norm_weights TB gd hr (by decide) tk rfl (a_cons (x_var (pv 1)) a_nil)) a_nil)))
  ss_nil)))
theorem sc_require_integer : FnScope n_require_integer ["value"] (defScope s_require_integer) := ⟨rfl, rfl, rfl, by decide +kernel, rfl, by decide +kernel, by decide +kernel⟩
theorem o_require_integer (T : Tx exs fn ts w K mg) (TC : Cls cl K) (HP : PK P "/claim/cut.py") (o_is_integer : Ok (tf.map (·.1)) P w K mg "is_integer" 3 f_is_integer) : Ok (tf.map (·.1)) P w K mg "require_integer" 4 f_require_integer := by
  obtain ⟨fd, F⟩ := T.fd 12 d_require_integer rfl
  have l_InvalidNumber := l_InvalidNumber T TC HP
  refine ⟨T.gl "require_integer" (T.at_ 9 rfl), F.kp, fun base TB => fn_ok F sc_require_integer rfl (F.bindsA fun _ _ _ _ _ _ us hl => match us, hl with | [_], _ => rfl) fun cd A out s H E hr gd => ?_⟩
  have hu := units64 hr
  have hu5 := units65 hr
  have hu3 := units50 hr
  have tk : Takes (cxOf (L2.CX P w) P w K mg base n_require_integer "require_integer" (defScope s_require_integer) (ga K "require_integer") cd A out s H E) (WF E) := takes_of rfl rfl rfl rfl
  exact (ss_cons (s_if (t_not (t_tru (x_callO o_is_integer TB gd hr (by decide) tk rfl (a_cons (x_var (pv 0)) a_nil))))
  (ss_cons (s_raiseL l_InvalidNumber rfl tk gd hr (by decide) rfl (x_var (pv 0)))
  ss_nil)
  ss_nil)
  ss_nil)
theorem sc_Ratio___init__ : FnScope n_Ratio___init__ ["self", "top", "bottom"] (defScope s_Ratio___init__) := ⟨rfl, rfl, rfl, by decide +kernel, rfl, by decide +kernel, by decide +kernel⟩
theorem o_Ratio___init__ (T : Tx exs fn ts w K mg) (TC : Cls cl K) (HP : PK P "/claim/cut.py") (o_common_of : Ok (tf.map (·.1)) P w K mg "common_of" 2 f_common_of) (o_require_integer : Ok (tf.map (·.1)) P w K mg "require_integer" 4 f_require_integer) : OkA (tf.map (·.1)) P w K mg (He.ma K (ga K "Ratio") "__init__") 5 f_Ratio___init__ := by
  obtain ⟨fd, F⟩ := T.fd 13 d_Ratio___init__ rfl
  have l_InvalidNumber := l_InvalidNumber T TC HP
  refine ⟨F.kp, fun base TB => fn_okFK F sc_Ratio___init__ rfl (fun _ => .int) (fun _ _ _ _ _ _ _ us its hl h1 => match us, hl, its, h1 with | [_, _], _, [_], _ => ⟨_, rfl, rfl⟩) (fun _ _ _ _ _ _ _ us its hl h1 => match us, hl, its, h1 with | [_, _, _], _, [_], _ => ⟨_, rfl, rfl⟩) fun cd A out s H E hr gd => ?_⟩
  have hu := units64 hr
  have hu5 := units65 hr
  have hu3 := units50 hr
  have tk : Takes (cxOf (L2.CX P w) P w K mg base n_Ratio___init__ "Ratio.__init__" (defScope s_Ratio___init__) (He.ma K (ga K "Ratio") "__init__") cd A out s H E) (WF E) := takes_of rfl rfl rfl rfl
  exact (ss_cons (s_if (t_tru (x_isiC (c := "Terms") (isF_of (T.at_ 82 rfl)) rfl (T.fr "isinstance" (T.at_ 58 rfl)) rfl (T.gl "Terms" (T.at_ 48 rfl)) (x_var (pv 1))))
  (ss_cons (s_par (i := 1) (j := 2) rfl sc_Ratio___init__.nd rfl rfl (by decide) rfl rfl (a_cons (x_attr (k := 0) (slF_of (T.at_ 83 rfl)) prF_nil TB gd hr (by decide) (x_var (pv 1))) (a_cons (x_attr (k := 0) (slF_of (T.at_ 83 rfl)) prF_nil TB gd hr (by decide) (x_var (pv 1))) a_nil)) (by rfl))
  ss_nil)
  (ss_cons (s_expr (x_callO o_require_integer TB gd hr (by decide) tk rfl (a_cons (x_var (pv 1)) a_nil)))
  (ss_cons (s_expr (x_callO o_require_integer TB gd hr (by decide) tk rfl (a_cons (x_var (pv 2)) a_nil)))
  (ss_cons (s_if (t_cmp (f := oEq) (op_eq1 hu) oEq_s (x_var (pv 2)) x_int (nomark _))
  (ss_cons (s_raiseL l_InvalidNumber rfl tk gd hr (by decide) rfl (x_var (pv 2)))
  ss_nil)
  ss_nil)
  ss_nil))))
  (ss_cons (s_set (i := 3) sc_Ratio___init__.nd rfl (by first | exact Or.inl rfl | exact Or.inr rfl) (x_callO o_common_of TB gd hr (by decide) tk rfl (a_cons (x_var (pv 1)) (a_cons (x_var (pv 2)) a_nil))))
  (ss_cons (s_set (i := 4) sc_Ratio___init__.nd rfl (by first | exact Or.inl rfl | exact Or.inr rfl) (x_if (t_cmp (f := oGt) op_gt oB0_s (x_var (pv 2)) x_int (nomark _)) (x_var (pv 3)) (x_neg (x_var (pv 3)))))
  (ss_cons (s_fld (slF_of (T.at_ 83 rfl)) (x_var (pv 0)) (x_fdiv (x_var (pv 1)) (x_var (pv 4))))
  (ss_cons (s_fld (slF_of (T.at_ 83 rfl)) (x_var (pv 0)) (x_fdiv (x_var (pv 2)) (x_var (pv 4))))
  ss_nil)))))
theorem sc_Terms___init__ : FnScope n_Terms___init__ ["self", "top", "bottom"] (defScope s_Terms___init__) := ⟨rfl, rfl, rfl, by decide +kernel, rfl, by decide +kernel, by decide +kernel⟩
theorem o_Terms___init__ (T : Tx exs fn ts w K mg) (TC : Cls cl K) (HP : PK P "/claim/cut.py")  : OkA (tf.map (·.1)) P w K mg (He.ma K (ga K "Terms") "__init__") 2 f_Terms___init__ := by
  obtain ⟨fd, F⟩ := T.fd 14 d_Terms___init__ rfl
  refine ⟨F.kp, fun base TB => fn_okK F sc_Terms___init__ rfl (F.bindsA fun _ _ _ _ _ _ us hl => match us, hl with | [_, _, _], _ => rfl) fun cd A out s H E hr gd => ?_⟩
  have hu := units64 hr
  have hu5 := units65 hr
  have hu3 := units50 hr
  have tk : Takes (cxOf (L2.CX P w) P w K mg base n_Terms___init__ "Terms.__init__" (defScope s_Terms___init__) (He.ma K (ga K "Terms") "__init__") cd A out s H E) (WF E) := takes_of rfl rfl rfl rfl
  exact (ss_cons (s_fld (slF_of (T.at_ 83 rfl)) (x_var (pv 0)) (x_var (pv 1)))
  (ss_cons (s_fld (slF_of (T.at_ 83 rfl)) (x_var (pv 0)) (x_var (pv 2)))
  ss_nil))
theorem sc_ratio_of : FnScope n_ratio_of ["top", "bottom"] (defScope s_ratio_of) := ⟨rfl, rfl, rfl, by decide +kernel, rfl, by decide +kernel, by decide +kernel⟩
theorem o_ratio_of (T : Tx exs fn ts w K mg) (TC : Cls cl K) (HP : PK P "/claim/cut.py") (o_Ratio___init__ : OkA (tf.map (·.1)) P w K mg (He.ma K (ga K "Ratio") "__init__") 5 f_Ratio___init__) (o_Terms___init__ : OkA (tf.map (·.1)) P w K mg (He.ma K (ga K "Terms") "__init__") 2 f_Terms___init__) : Ok (tf.map (·.1)) P w K mg "ratio_of" 7 f_ratio_of := by
  obtain ⟨fd, F⟩ := T.fd 15 d_ratio_of rfl
  refine ⟨T.gl "ratio_of" (T.at_ 10 rfl), F.kp, fun base TB => fn_ok F sc_ratio_of rfl (F.bindsA fun _ _ _ _ _ _ us hl => match us, hl with | [_, _], _ => rfl) fun cd A out s H E hr gd => ?_⟩
  have hu := units64 hr
  have hu5 := units65 hr
  have hu3 := units50 hr
  have tk : Takes (cxOf (L2.CX P w) P w K mg base n_ratio_of "ratio_of" (defScope s_ratio_of) (ga K "ratio_of") cd A out s H E) (WF E) := takes_of rfl rfl rfl rfl
  exact (ss_cons (s_ret (x_make (He.mkr_ok (T.at_ 86 rfl)) o_Ratio___init__ TB gd hr (by decide) tk rfl (T.gl "Ratio" (T.at_ 49 rfl)) (a_cons (x_make (He.mkr_ok (T.at_ 87 rfl)) o_Terms___init__ TB gd hr (by decide) tk rfl (T.gl "Terms" (T.at_ 48 rfl)) (a_cons (x_var (pv 0)) (a_cons (x_var (pv 1)) a_nil))) (a_cons x_int a_nil))))
  ss_nil)
theorem sc_told_ratio : FnScope n_told_ratio ["value"] (defScope s_told_ratio) := ⟨rfl, rfl, rfl, by decide +kernel, rfl, by decide +kernel, by decide +kernel⟩
theorem o_told_ratio (T : Tx exs fn ts w K mg) (TC : Cls cl K) (HP : PK P "/claim/cut.py") (o_is_integer : Ok (tf.map (·.1)) P w K mg "is_integer" 3 f_is_integer) (o_ratio_of : Ok (tf.map (·.1)) P w K mg "ratio_of" 7 f_ratio_of) : Ok (tf.map (·.1)) P w K mg "told_ratio" 8 f_told_ratio := by
  obtain ⟨fd, F⟩ := T.fd 16 d_told_ratio rfl
  refine ⟨T.gl "told_ratio" (T.at_ 11 rfl), F.kp, fun base TB => fn_ok F sc_told_ratio rfl (F.bindsA fun _ _ _ _ _ _ us hl => match us, hl with | [_], _ => rfl) fun cd A out s H E hr gd => ?_⟩
  have hu := units64 hr
  have hu5 := units65 hr
  have hu3 := units50 hr
  have tk : Takes (cxOf (L2.CX P w) P w K mg base n_told_ratio "told_ratio" (defScope s_told_ratio) (ga K "told_ratio") cd A out s H E) (WF E) := takes_of rfl rfl rfl rfl
  exact (ss_cons (s_if (t_tru (x_isiC (c := "Ratio") (isF_of (T.at_ 82 rfl)) rfl (T.fr "isinstance" (T.at_ 58 rfl)) rfl (T.gl "Ratio" (T.at_ 49 rfl)) (x_var (pv 0))))
  (ss_cons (s_ret (x_var (pv 0)))
  ss_nil)
  ss_nil)
  (ss_cons (s_if (t_not (t_tru (x_callO o_is_integer TB gd hr (by decide) tk rfl (a_cons (x_var (pv 0)) a_nil))))
  (ss_cons (s_raiseZ (T.at_ 88 rfl) (T.gl "InvalidRatio" (T.at_ 73 rfl)) rfl tk rfl)
  ss_nil)
  ss_nil)
  (ss_cons (s_ret (x_callO o_ratio_of TB gd hr (by decide) tk rfl (a_cons (x_var (pv 0)) (a_cons x_int a_nil))))
  ss_nil)))
theorem sc_element_made : FnScope n_element_made ["algebra", "entries", "bottom"] (defScope s_element_made) := ⟨rfl, rfl, rfl, by decide +kernel, rfl, by decide +kernel, by decide +kernel⟩
theorem o_element_made (T : Tx exs fn ts w K mg) (TC : Cls cl K) (HP : PK P "/claim/cut.py") (o_Element___init__ : OkA (tf.map (·.1)) P w K mg (He.ma K (ga K "Element") "__init__") 7 f_Element___init__) (o_Parts___init__ : OkA (tf.map (·.1)) P w K mg (He.ma K (ga K "Parts") "__init__") 4 f_Parts___init__) : Ok (tf.map (·.1)) P w K mg "element_made" 9 f_element_made := by
  obtain ⟨fd, F⟩ := T.fd 17 d_element_made rfl
  refine ⟨T.gl "element_made" (T.at_ 12 rfl), F.kp, fun base TB => fn_okFD F sc_element_made rfl (fun _ => .int) (fun _ _ _ _ _ _ _ us its hl h1 => match us, hl, its, h1 with | [_, _], _, [_], _ => ⟨_, rfl, rfl⟩) (fun _ _ _ _ _ _ _ us its hl h1 => match us, hl, its, h1 with | [_, _, _], _, [_], _ => ⟨_, rfl, rfl⟩) fun cd A out s H E hr gd => ?_⟩
  have hu := units64 hr
  have hu5 := units65 hr
  have hu3 := units50 hr
  have tk : Takes (cxOf (L2.CX P w) P w K mg base n_element_made "element_made" (defScope s_element_made) (ga K "element_made") cd A out s H E) (WF E) := takes_of rfl rfl rfl rfl
  exact (ss_cons (s_ret (x_make (He.mkr_ok (T.at_ 89 rfl)) o_Element___init__ TB gd hr (by decide) tk rfl (T.gl "Element" (T.at_ 52 rfl)) (a_cons (x_var (pv 0)) (a_cons (x_make (He.mkr_ok (T.at_ 85 rfl)) o_Parts___init__ TB gd hr (by decide) tk rfl (T.gl "Parts" (T.at_ 51 rfl)) (a_cons (x_var (pv 1)) (a_cons (x_var (pv 2)) a_nil))) a_nil))))
  ss_nil)
theorem sc_raw_scaled : FnScope n_raw_scaled ["entries", "factor"] (defScope s_raw_scaled) := ⟨rfl, rfl, rfl, by decide +kernel, rfl, by decide +kernel, by decide +kernel⟩
theorem o_raw_scaled (T : Tx exs fn ts w K mg) (TC : Cls cl K) (HP : PK P "/claim/cut.py")  : Ok (tf.map (·.1)) P w K mg "raw_scaled" 2 f_raw_scaled := by
  obtain ⟨fd, F⟩ := T.fd 18 d_raw_scaled rfl
  refine ⟨T.gl "raw_scaled" (T.at_ 13 rfl), F.kp, fun base TB => fn_ok F sc_raw_scaled rfl (F.bindsA fun _ _ _ _ _ _ us hl => match us, hl with | [_, _], _ => rfl) fun cd A out s H E hr gd => ?_⟩
  have hu := units64 hr
  have hu5 := units65 hr
  have hu3 := units50 hr
  have tk : Takes (cxOf (L2.CX P w) P w K mg base n_raw_scaled "raw_scaled" (defScope s_raw_scaled) (ga K "raw_scaled") cd A out s H E) (WF E) := takes_of rfl rfl rfl rfl
  exact (ss_cons (s_ret (x_callTy call_tuple_of fTuple_s rfl (T.fr "tuple" (T.at_ 65 rfl)) bt_tuple (a_cons (x_lc (own := [("entry", 2)]) rfl sc_raw_scaled.nd (i_seq (x_var (pv 0))) (blkOk_by (by kernel_rfl)) (ct_name (i := 2) (by decide)) (fun _ _ _ _ _ => (pg_name (i := 2) sc_raw_scaled.nd rfl (by first | exact Or.inl rfl | exact Or.inr rfl))) (fun _ _ _ _ _ => ts_nil) (fun _ _ _ _ _ => (x_mul (x_var (pv 1)) (x_var (pv 2))))) a_nil)))
  ss_nil)
theorem sc_Ratio_top : FnScope n_Ratio_top ["self"] (defScope s_Ratio_top) := ⟨rfl, rfl, rfl, by decide +kernel, rfl, by decide +kernel, by decide +kernel⟩
theorem o_Ratio_top (T : Tx exs fn ts w K mg) (TC : Cls cl K) (HP : PK P "/claim/cut.py")  : OkA (tf.map (·.1)) P w K mg (prA K "Ratio" "top") 2 f_Ratio_top := by
  obtain ⟨fd, F⟩ := T.fd 19 d_Ratio_top rfl
  refine ⟨F.kp, fun base TB => fn_ok F sc_Ratio_top rfl (F.bindsA fun _ _ _ _ _ _ us hl => match us, hl with | [_], _ => rfl) fun cd A out s H E hr gd => ?_⟩
  have hu := units64 hr
  have hu5 := units65 hr
  have hu3 := units50 hr
  have tk : Takes (cxOf (L2.CX P w) P w K mg base n_Ratio_top "Ratio.top" (defScope s_Ratio_top) (prA K "Ratio" "top") cd A out s H E) (WF E) := takes_of rfl rfl rfl rfl
  exact (ss_cons (s_ret (x_attr (k := 0) (slF_of (T.at_ 83 rfl)) prF_nil TB gd hr (by decide) (x_var (pv 0))))
  ss_nil)
theorem sc_Ratio_bottom : FnScope n_Ratio_bottom ["self"] (defScope s_Ratio_bottom) := ⟨rfl, rfl, rfl, by decide +kernel, rfl, by decide +kernel, by decide +kernel⟩
theorem o_Ratio_bottom (T : Tx exs fn ts w K mg) (TC : Cls cl K) (HP : PK P "/claim/cut.py")  : OkA (tf.map (·.1)) P w K mg (prA K "Ratio" "bottom") 2 f_Ratio_bottom := by
  obtain ⟨fd, F⟩ := T.fd 20 d_Ratio_bottom rfl
  refine ⟨F.kp, fun base TB => fn_ok F sc_Ratio_bottom rfl (F.bindsA fun _ _ _ _ _ _ us hl => match us, hl with | [_], _ => rfl) fun cd A out s H E hr gd => ?_⟩
  have hu := units64 hr
  have hu5 := units65 hr
  have hu3 := units50 hr
  have tk : Takes (cxOf (L2.CX P w) P w K mg base n_Ratio_bottom "Ratio.bottom" (defScope s_Ratio_bottom) (prA K "Ratio" "bottom") cd A out s H E) (WF E) := takes_of rfl rfl rfl rfl
  exact (ss_cons (s_ret (x_attr (k := 0) (slF_of (T.at_ 83 rfl)) prF_nil TB gd hr (by decide) (x_var (pv 0))))
  ss_nil)
theorem sc_Element_bottom : FnScope n_Element_bottom ["self"] (defScope s_Element_bottom) := ⟨rfl, rfl, rfl, by decide +kernel, rfl, by decide +kernel, by decide +kernel⟩
theorem o_Element_bottom (T : Tx exs fn ts w K mg) (TC : Cls cl K) (HP : PK P "/claim/cut.py")  : OkA (tf.map (·.1)) P w K mg (prA K "Element" "bottom") 2 f_Element_bottom := by
  obtain ⟨fd, F⟩ := T.fd 21 d_Element_bottom rfl
  refine ⟨F.kp, fun base TB => fn_ok F sc_Element_bottom rfl (F.bindsA fun _ _ _ _ _ _ us hl => match us, hl with | [_], _ => rfl) fun cd A out s H E hr gd => ?_⟩
  have hu := units64 hr
  have hu5 := units65 hr
  have hu3 := units50 hr
  have tk : Takes (cxOf (L2.CX P w) P w K mg base n_Element_bottom "Element.bottom" (defScope s_Element_bottom) (prA K "Element" "bottom") cd A out s H E) (WF E) := takes_of rfl rfl rfl rfl
  exact (ss_cons (s_ret (x_attr (k := 0) (slF_of (T.at_ 83 rfl)) prF_nil TB gd hr (by decide) (x_var (pv 0))))
  ss_nil)
theorem sc_Element_scaled : FnScope n_Element_scaled ["self", "ratio"] (defScope s_Element_scaled) := ⟨rfl, rfl, rfl, by decide +kernel, rfl, by decide +kernel, by decide +kernel⟩
theorem o_Element_scaled (T : Tx exs fn ts w K mg) (TC : Cls cl K) (HP : PK P "/claim/cut.py") (hs : OkA (tf.map (·.1)) P w K mg (prA K "Element" "bottom") 2 f_Element_bottom ∧ OkA (tf.map (·.1)) P w K mg (prA K "Ratio" "bottom") 2 f_Ratio_bottom ∧ OkA (tf.map (·.1)) P w K mg (prA K "Ratio" "top") 2 f_Ratio_top ∧ Ok (tf.map (·.1)) P w K mg "element_made" 9 f_element_made ∧ Ok (tf.map (·.1)) P w K mg "raw_scaled" 2 f_raw_scaled ∧ Ok (tf.map (·.1)) P w K mg "told_ratio" 8 f_told_ratio) : OkA (tf.map (·.1)) P w K mg (He.ma K (ga K "Element") "scaled") 10 f_Element_scaled := by
  obtain ⟨o_Element_bottom, o_Ratio_bottom, o_Ratio_top, o_element_made, o_raw_scaled, o_told_ratio⟩ := hs
  obtain ⟨fd, F⟩ := T.fd 22 d_Element_scaled rfl
  refine ⟨F.kp, fun base TB => fn_ok F sc_Element_scaled rfl (F.bindsA fun _ _ _ _ _ _ us hl => match us, hl with | [_, _], _ => rfl) fun cd A out s H E hr gd => ?_⟩
  have hu := units64 hr
  have hu5 := units65 hr
  have hu3 := units50 hr
  have tk : Takes (cxOf (L2.CX P w) P w K mg base n_Element_scaled "Element.scaled" (defScope s_Element_scaled) (He.ma K (ga K "Element") "scaled") cd A out s H E) (WF E) := takes_of rfl rfl rfl rfl
  exact (ss_cons (s_set (i := 2) sc_Element_scaled.nd rfl (by first | exact Or.inl rfl | exact Or.inr rfl) (x_callO o_told_ratio TB gd hr (by decide) tk rfl (a_cons (x_var (pv 1)) a_nil)))
  (ss_cons (s_ret (x_callO o_element_made TB gd hr (by decide) tk rfl (a_cons (x_attr (k := 0) (slF_of (T.at_ 83 rfl)) prF_nil TB gd hr (by decide) (x_var (pv 0))) (a_cons (x_callO o_raw_scaled TB gd hr (by decide) tk rfl (a_cons (x_attr (k := 0) (slF_of (T.at_ 83 rfl)) prF_nil TB gd hr (by decide) (x_var (pv 0))) (a_cons (x_attr (k := 2) (slF_of (T.at_ 83 rfl)) (prF_cons ((clsB_s (T.at_ 90 rfl)).1) (T.at_ 91 rfl) o_Ratio_top (by decide) prF_nil) TB gd hr (by decide) (x_var (pv 2))) a_nil))) (a_cons (x_mul (x_attr (k := 0) (slF_of (T.at_ 83 rfl)) prF_nil TB gd hr (by decide) (x_var (pv 0))) (x_attr (k := 2) (slF_of (T.at_ 83 rfl)) (prF_cons ((clsB_s (T.at_ 90 rfl)).1) (T.at_ 92 rfl) o_Ratio_bottom (by decide) (prF_cons ((clsB_s (T.at_ 93 rfl)).1) (T.at_ 94 rfl) o_Element_bottom (by decide) prF_nil)) TB gd hr (by decide) (x_var (pv 2)))) a_nil)))))
  ss_nil))
theorem sc_law_ladle : FnScope n_law_ladle ["_law_trough_here", "_law_top"] (defScope s_law_ladle) := ⟨rfl, rfl, rfl, by decide +kernel, rfl, by decide +kernel, by decide +kernel⟩
theorem o_law_ladle (T : Tx exs fn ts w K mg) (TC : Cls cl K) (HP : PK P "/claim/cut.py")  : Ok (tf.map (·.1)) P w K mg "_law_ladle" 2 f_law_ladle := by
  obtain ⟨fd, F⟩ := T.fd 23 d_law_ladle rfl
  refine ⟨T.gl "_law_ladle" (T.at_ 14 rfl), F.kp, fun base TB => fn_ok F sc_law_ladle rfl (F.bindsA fun _ _ _ _ _ _ us hl => match us, hl with | [_, _], _ => rfl) fun cd A out s H E hr gd => ?_⟩
  have hu := units64 hr
  have hu5 := units65 hr
  have hu3 := units50 hr
  have tk : Takes (cxOf (L2.CX P w) P w K mg base n_law_ladle "_law_ladle" (defScope s_law_ladle) (ga K "_law_ladle") cd A out s H E) (WF E) := takes_of rfl rfl rfl rfl
  exact (ss_cons (s_if (t_cmp (f := oGt) op_gt oB0_s (x_ix (x_var (pv 0)) x_int) x_int (nomark _))
  (ss_cons (s_set (i := 4) sc_law_ladle.nd rfl (by first | exact Or.inl rfl | exact Or.inr rfl) (x_mod (x_callTy call_int1 fInt_s rfl (T.fr "int" (T.at_ 57 rfl)) bt_int (a_cons (x_ix (x_var (pv 0)) x_int) a_nil)) (x_var (pv 1))))
  (ss_cons (s_asg (x_fdiv (x_ix (x_var (pv 0)) x_int) (x_var (pv 1))) (g_sub (W := WF E) (x_var (pv 0)) x_int))
  (ss_cons (s_ret (x_var (pv 4)))
  ss_nil)))
  ss_nil)
  (ss_cons (s_asg (x_add (x_ix (x_var (pv 0)) x_int) x_int) (g_sub (W := WF E) (x_var (pv 0)) x_int))
  (ss_cons (s_set (i := 2) sc_law_ladle.nd rfl (by first | exact Or.inl rfl | exact Or.inr rfl) (x_mod (x_callTy call_int1 fInt_s rfl (T.fr "int" (T.at_ 57 rfl)) bt_int (a_cons (x_add (x_ix (x_var (pv 0)) x_int) (x_mul x_int (x_ix (x_var (pv 0)) x_int))) a_nil)) x_int))
  (ss_cons (s_set (i := 3) sc_law_ladle.nd rfl (by first | exact Or.inl rfl | exact Or.inr rfl) (x_add (x_mul (x_mod (x_callTy call_int1 fInt_s rfl (T.fr "int" (T.at_ 57 rfl)) bt_int (a_cons (x_add (x_mul (x_var (pv 2)) (x_var (pv 2))) (x_mul x_int (x_ix (x_var (pv 0)) x_int))) a_nil)) x_int) x_int) (x_var (pv 2))))
  (ss_cons (s_ret (x_mod (x_callTy call_int1 fInt_s rfl (T.fr "int" (T.at_ 57 rfl)) bt_int (a_cons (x_fdiv (x_var (pv 3)) x_int) a_nil)) (x_var (pv 1))))
  ss_nil)))))
theorem sc_law_one_of : FnScope n_law_one_of ["_law_trough_here", "_law_items"] (defScope s_law_one_of) := ⟨rfl, rfl, rfl, by decide +kernel, rfl, by decide +kernel, by decide +kernel⟩
theorem o_law_one_of (T : Tx exs fn ts w K mg) (TC : Cls cl K) (HP : PK P "/claim/cut.py") (o_law_ladle : Ok (tf.map (·.1)) P w K mg "_law_ladle" 2 f_law_ladle) : Ok (tf.map (·.1)) P w K mg "_law_one_of" 3 f_law_one_of := by
  obtain ⟨fd, F⟩ := T.fd 24 d_law_one_of rfl
  refine ⟨T.gl "_law_one_of" (T.at_ 15 rfl), F.kp, fun base TB => fn_ok F sc_law_one_of rfl (F.bindsA fun _ _ _ _ _ _ us hl => match us, hl with | [_, _], _ => rfl) fun cd A out s H E hr gd => ?_⟩
  have hu := units64 hr
  have hu5 := units65 hr
  have hu3 := units50 hr
  have tk : Takes (cxOf (L2.CX P w) P w K mg base n_law_one_of "_law_one_of" (defScope s_law_one_of) (ga K "_law_one_of") cd A out s H E) (WF E) := takes_of rfl rfl rfl rfl
  exact (ss_cons (s_ret (x_ix (x_var (pv 1)) (x_callO o_law_ladle TB gd hr (by decide) tk rfl (a_cons (x_var (pv 0)) (a_cons (x_callB call_len fLen_s rfl (T.fr "len" (T.at_ 59 rfl)) bt_len (a_cons (x_var (pv 1)) a_nil)) a_nil)))))
  ss_nil)
theorem sc_unit_of : FnScope n_unit_of ["algebra", "index"] (defScope s_unit_of) := ⟨rfl, rfl, rfl, by decide +kernel, rfl, by decide +kernel, by decide +kernel⟩
theorem o_unit_of (T : Tx exs fn ts w K mg) (TC : Cls cl K) (HP : PK P "/claim/cut.py") (o_element_made : Ok (tf.map (·.1)) P w K mg "element_made" 9 f_element_made) : Ok (tf.map (·.1)) P w K mg "unit_of" 10 f_unit_of := by
  obtain ⟨fd, F⟩ := T.fd 25 d_unit_of rfl
  refine ⟨T.gl "unit_of" (T.at_ 16 rfl), F.kp, fun base TB => fn_ok F sc_unit_of rfl (F.bindsA fun _ _ _ _ _ _ us hl => match us, hl with | [_, _], _ => rfl) fun cd A out s H E hr gd => ?_⟩
  have hu := units64 hr
  have hu5 := units65 hr
  have hu3 := units50 hr
  have tk : Takes (cxOf (L2.CX P w) P w K mg base n_unit_of "unit_of" (defScope s_unit_of) (ga K "unit_of") cd A out s H E) (WF E) := takes_of rfl rfl rfl rfl
  exact (ss_cons (s_ret (x_callO o_element_made TB gd hr (by decide) tk rfl (a_cons (x_var (pv 0)) (a_cons (x_callTy call_tuple_of fTuple_s rfl (T.fr "tuple" (T.at_ 65 rfl)) bt_tuple (a_cons (x_lc (own := [("at", 2)]) rfl sc_unit_of.nd (i_range1 rfl (T.fr "range" (T.at_ 63 rfl)) (a_cons (x_attr (k := 0) (slF_of (T.at_ 83 rfl)) prF_nil TB gd hr (by decide) (x_var (pv 0))) a_nil)) (blkOk_by (by kernel_rfl)) (ct_name (i := 2) (by decide)) (fun _ _ _ _ _ => (pg_name (i := 2) sc_unit_of.nd rfl (by first | exact Or.inl rfl | exact Or.inr rfl))) (fun _ _ _ _ _ => ts_nil) (fun _ _ _ _ _ => (x_callTy call_int1 fInt_s rfl (T.fr "int" (T.at_ 57 rfl)) bt_int (a_cons (x_eq hu (x_var (pv 2)) (x_var (pv 1))) a_nil)))) a_nil)) a_nil))))
  ss_nil)
theorem sc_Doubled_one : FnScope n_Doubled_one ["self"] (defScope s_Doubled_one) := ⟨rfl, rfl, rfl, by decide +kernel, rfl, by decide +kernel, by decide +kernel⟩
theorem o_Doubled_one (T : Tx exs fn ts w K mg) (TC : Cls cl K) (HP : PK P "/claim/cut.py") (o_unit_of : Ok (tf.map (·.1)) P w K mg "unit_of" 10 f_unit_of) : OkA (tf.map (·.1)) P w K mg (He.ma K (ga K "Doubled") "one") 11 f_Doubled_one := by
  obtain ⟨fd, F⟩ := T.fd 26 d_Doubled_one rfl
  refine ⟨F.kp, fun base TB => fn_ok F sc_Doubled_one rfl (F.bindsA fun _ _ _ _ _ _ us hl => match us, hl with | [_], _ => rfl) fun cd A out s H E hr gd => ?_⟩
  have hu := units64 hr
  have hu5 := units65 hr
  have hu3 := units50 hr
  have tk : Takes (cxOf (L2.CX P w) P w K mg base n_Doubled_one "Doubled.one" (defScope s_Doubled_one) (He.ma K (ga K "Doubled") "one") cd A out s H E) (WF E) := takes_of rfl rfl rfl rfl
  exact (ss_cons (s_ret (x_callO o_unit_of TB gd hr (by decide) tk rfl (a_cons (x_var (pv 0)) (a_cons x_int a_nil))))
  ss_nil)
theorem sc_law_word : FnScope n_law_word ["_law_call"] (defScope s_law_word) := ⟨rfl, rfl, rfl, by decide +kernel, rfl, by decide +kernel, by decide +kernel⟩
theorem sc_is_eight : FnScope n_is_eight ["value"] (defScope s_is_eight) := ⟨rfl, rfl, rfl, by decide +kernel, rfl, by decide +kernel, by decide +kernel⟩
theorem o_is_eight (T : Tx exs fn ts w K mg) (TC : Cls cl K) (HP : PK P "/claim/cut.py")  : Ok (tf.map (·.1)) P w K mg "is_eight" 2 f_is_eight := by
  obtain ⟨fd, F⟩ := T.fd 28 d_is_eight rfl
  obtain ⟨t_MANY_UNITS, h_MANY_UNITS⟩ := T.it "MANY_UNITS" _ (T.at_ 68 rfl)
  refine ⟨T.gl "is_eight" (T.at_ 18 rfl), F.kp, fun base TB => fn_ok F sc_is_eight rfl (F.bindsA fun _ _ _ _ _ _ us hl => match us, hl with | [_], _ => rfl) fun cd A out s H E hr gd => ?_⟩
  have hu := units64 hr
  have hu5 := units65 hr
  have hu3 := units50 hr
  have tk : Takes (cxOf (L2.CX P w) P w K mg base n_is_eight "is_eight" (defScope s_is_eight) (ga K "is_eight") cd A out s H E) (WF E) := takes_of rfl rfl rfl rfl
  exact (ss_cons (s_ret (x_and (x_isiC (c := "Doubled") (isF_of (T.at_ 82 rfl)) rfl (T.fr "isinstance" (T.at_ 58 rfl)) rfl (T.gl "Doubled" (T.at_ 50 rfl)) (x_var (pv 0))) (x_one (x_eq hu (x_attr (k := 0) (slF_of (T.at_ 83 rfl)) prF_nil TB gd hr (by decide) (x_var (pv 0))) (x_c (pe_glob (v := .int (8)) rfl h_MANY_UNITS ⟨_, rfl⟩) fun _ => .int)))))
  ss_nil)
theorem sc_require_eights : FnScope n_require_eights ["values"] (defScope s_require_eights) := ⟨rfl, rfl, rfl, by decide +kernel, rfl, by decide +kernel, by decide +kernel⟩
theorem o_require_eights (T : Tx exs fn ts w K mg) (TC : Cls cl K) (HP : PK P "/claim/cut.py") (o_is_eight : Ok (tf.map (·.1)) P w K mg "is_eight" 2 f_is_eight) : Ok (tf.map (·.1)) P w K mg "require_eights" 3 f_require_eights := by
  obtain ⟨fd, F⟩ := T.fd 29 d_require_eights rfl
  refine ⟨T.gl "require_eights" (T.at_ 19 rfl), F.kp, fun base TB => fn_ok F sc_require_eights rfl (F.bindsA fun _ _ _ _ _ _ us hl => match us, hl with | [_], _ => rfl) fun cd A out s H E hr gd => ?_⟩
  have hu := units64 hr
  have hu5 := units65 hr
  have hu3 := units50 hr
  have tk : Takes (cxOf (L2.CX P w) P w K mg base n_require_eights "require_eights" (defScope s_require_eights) (ga K "require_eights") cd A out s H E) (WF E) := takes_of rfl rfl rfl rfl
  exact (ss_cons (s_if (t_not (t_tru (x_callB (cr_all rfl) fAll_s rfl (T.fr "all" (T.at_ 54 rfl)) bt_all (a_cons (x_lc (own := [("value", 1)]) rfl sc_require_eights.nd (i_seq (x_var (pv 0))) (blkOk_by (by kernel_rfl)) (ct_name (i := 1) (by decide)) (fun _ _ _ _ _ => (pg_name (i := 1) sc_require_eights.nd rfl (by first | exact Or.inl rfl | exact Or.inr rfl))) (fun _ _ _ _ _ => ts_nil) (fun _ _ _ _ _ => (x_callO o_is_eight TB gd hr (by decide) takes0 rfl (a_cons (x_var (pv 1)) a_nil)))) a_nil))))
  (ss_cons (s_raiseZ (T.at_ 81 rfl) (T.gl "InvalidAlgebra" (T.at_ 74 rfl)) rfl tk rfl)
  ss_nil)
  ss_nil)
  ss_nil)
theorem sc_Doubled_is_definite : FnScope n_Doubled_is_definite ["self"] (defScope s_Doubled_is_definite) := ⟨rfl, rfl, rfl, by decide +kernel, rfl, by decide +kernel, by decide +kernel⟩
theorem o_Doubled_is_definite (T : Tx exs fn ts w K mg) (TC : Cls cl K) (HP : PK P "/claim/cut.py")  : OkA (tf.map (·.1)) P w K mg (prA K "Doubled" "is_definite") 2 f_Doubled_is_definite := by
  obtain ⟨fd, F⟩ := T.fd 30 d_Doubled_is_definite rfl
  refine ⟨F.kp, fun base TB => fn_ok F sc_Doubled_is_definite rfl (F.bindsA fun _ _ _ _ _ _ us hl => match us, hl with | [_], _ => rfl) fun cd A out s H E hr gd => ?_⟩
  have hu := units64 hr
  have hu5 := units65 hr
  have hu3 := units50 hr
  have tk : Takes (cxOf (L2.CX P w) P w K mg base n_Doubled_is_definite "Doubled.is_definite" (defScope s_Doubled_is_definite) (prA K "Doubled" "is_definite") cd A out s H E) (WF E) := takes_of rfl rfl rfl rfl
  exact (ss_cons (s_ret (x_callB (cr_all rfl) fAll_s rfl (T.fr "all" (T.at_ 54 rfl)) bt_all (a_cons (x_lc (own := [("square", 1)]) rfl sc_Doubled_is_definite.nd (i_seq (x_attr (k := 0) (slF_of (T.at_ 83 rfl)) prF_nil TB gd hr (by decide) (x_var (pv 0)))) (blkOk_by (by kernel_rfl)) (ct_name (i := 1) (by decide)) (fun _ _ _ _ _ => (pg_name (i := 1) sc_Doubled_is_definite.nd rfl (by first | exact Or.inl rfl | exact Or.inr rfl))) (fun _ _ _ _ _ => ts_nil) (fun _ _ _ _ _ => (x_lt (x_var (pv 1)) x_int))) a_nil)))
  ss_nil)
theorem sc_are_alike : FnScope n_are_alike ["one", "other"] (defScope s_are_alike) := ⟨rfl, rfl, rfl, by decide +kernel, rfl, by decide +kernel, by decide +kernel⟩
theorem o_are_alike (T : Tx exs fn ts w K mg) (TC : Cls cl K) (HP : PK P "/claim/cut.py") (o_Doubled_is_definite : OkA (tf.map (·.1)) P w K mg (prA K "Doubled" "is_definite") 2 f_Doubled_is_definite) (o_require_eights : Ok (tf.map (·.1)) P w K mg "require_eights" 3 f_require_eights) : Ok (tf.map (·.1)) P w K mg "are_alike" 4 f_are_alike := by
  obtain ⟨fd, F⟩ := T.fd 31 d_are_alike rfl
  refine ⟨T.gl "are_alike" (T.at_ 20 rfl), F.kp, fun base TB => fn_ok F sc_are_alike rfl (F.bindsA fun _ _ _ _ _ _ us hl => match us, hl with | [_, _], _ => rfl) fun cd A out s H E hr gd => ?_⟩
  have hu := units64 hr
  have hu5 := units65 hr
  have hu3 := units50 hr
  have tk : Takes (cxOf (L2.CX P w) P w K mg base n_are_alike "are_alike" (defScope s_are_alike) (ga K "are_alike") cd A out s H E) (WF E) := takes_of rfl rfl rfl rfl
  exact (ss_cons (s_expr (x_callO o_require_eights TB gd hr (by decide) tk rfl (a_cons (x_tup (a_cons (x_var (pv 0)) (a_cons (x_var (pv 1)) a_nil))) a_nil)))
  (ss_cons (s_ret (x_eq hu (x_attr (k := 2) (slF_of (T.at_ 83 rfl)) (prF_cons ((clsB_s (T.at_ 95 rfl)).1) (T.at_ 96 rfl) o_Doubled_is_definite (by decide) prF_nil) TB gd hr (by decide) (x_var (pv 0))) (x_attr (k := 2) (slF_of (T.at_ 83 rfl)) (prF_cons ((clsB_s (T.at_ 95 rfl)).1) (T.at_ 96 rfl) o_Doubled_is_definite (by decide) prF_nil) TB gd hr (by decide) (x_var (pv 1)))))
  ss_nil))
theorem sc_require_small : FnScope n_require_small ["algebras"] (defScope s_require_small) := ⟨rfl, rfl, rfl, by decide +kernel, rfl, by decide +kernel, by decide +kernel⟩
theorem o_require_small (T : Tx exs fn ts w K mg) (TC : Cls cl K) (HP : PK P "/claim/cut.py")  : Ok (tf.map (·.1)) P w K mg "require_small" 2 f_require_small := by
  obtain ⟨fd, F⟩ := T.fd 32 d_require_small rfl
  obtain ⟨t_MAX_SQUARE_eights, h_MAX_SQUARE_eights⟩ := T.it "MAX_SQUARE_eights" _ (T.at_ 71 rfl)
  have l_TooMany := l_TooMany T TC HP
  refine ⟨T.gl "require_small" (T.at_ 21 rfl), F.kp, fun base TB => fn_ok F sc_require_small rfl (F.bindsA fun _ _ _ _ _ _ us hl => match us, hl with | [_], _ => rfl) fun cd A out s H E hr gd => ?_⟩
  have hu := units64 hr
  have hu5 := units65 hr
  have hu3 := units50 hr
  have tk : Takes (cxOf (L2.CX P w) P w K mg base n_require_small "require_small" (defScope s_require_small) (ga K "require_small") cd A out s H E) (WF E) := takes_of rfl rfl rfl rfl
  exact (ss_cons (s_if (t_tru (x_callB (cr_any rfl) fAny_s rfl (T.fr "any" (T.at_ 55 rfl)) bt_any (a_cons (x_lc2 (own := [("algebra", 1), ("square", 2)]) (vs1 := [2]) rfl sc_require_small.nd (i_seq (x_var (pv 0))) (blkOk_by (by kernel_rfl)) (by decide) (ct_name (i := 1) (by decide)) (ct_name (i := 2) (by decide)) (fun _ _ _ _ _ => (pg_name (i := 1) sc_require_small.nd rfl (by first | exact Or.inl rfl | exact Or.inr rfl))) (fun _ _ _ _ _ => ts_nil) (fun _ _ _ _ _ => (i_seq (x_attr (k := 0) (slF_of (T.at_ 83 rfl)) prF_nil TB gd hr (by decide) (x_var (pv 1))))) (fun _ _ _ _ _ => (pg_name (i := 2) sc_require_small.nd rfl (by first | exact Or.inl rfl | exact Or.inr rfl))) (fun _ _ _ _ _ => ts_nil) (fun _ _ _ _ _ => (x_gt (x_callB call_abs fAbs_s rfl (T.fr "abs" (T.at_ 53 rfl)) bt_abs (a_cons (x_var (pv 2)) a_nil)) (x_c (pe_glob (v := .int (30)) rfl h_MAX_SQUARE_eights ⟨_, rfl⟩) fun _ => .int)))) a_nil)))
  (ss_cons (s_raiseL l_TooMany rfl tk gd hr (by decide) rfl (x_c (pe_glob (v := .int (30)) rfl h_MAX_SQUARE_eights ⟨_, rfl⟩) fun _ => .int))
  ss_nil)
  ss_nil)
  ss_nil)
theorem sc_Element_algebra : FnScope n_Element_algebra ["self"] (defScope s_Element_algebra) := ⟨rfl, rfl, rfl, by decide +kernel, rfl, by decide +kernel, by decide +kernel⟩
theorem o_Element_algebra (T : Tx exs fn ts w K mg) (TC : Cls cl K) (HP : PK P "/claim/cut.py")  : OkA (tf.map (·.1)) P w K mg (prA K "Element" "algebra") 2 f_Element_algebra := by
  obtain ⟨fd, F⟩ := T.fd 33 d_Element_algebra rfl
  refine ⟨F.kp, fun base TB => fn_ok F sc_Element_algebra rfl (F.bindsA fun _ _ _ _ _ _ us hl => match us, hl with | [_], _ => rfl) fun cd A out s H E hr gd => ?_⟩
  have hu := units64 hr
  have hu5 := units65 hr
  have hu3 := units50 hr
  have tk : Takes (cxOf (L2.CX P w) P w K mg base n_Element_algebra "Element.algebra" (defScope s_Element_algebra) (prA K "Element" "algebra") cd A out s H E) (WF E) := takes_of rfl rfl rfl rfl
  exact (ss_cons (s_ret (x_attr (k := 0) (slF_of (T.at_ 83 rfl)) prF_nil TB gd hr (by decide) (x_var (pv 0))))
  ss_nil)
theorem sc_Doubled___eq__ : FnScope n_Doubled___eq__ ["self", "other"] (defScope s_Doubled___eq__) := ⟨rfl, rfl, rfl, by decide +kernel, rfl, by decide +kernel, by decide +kernel⟩
theorem o_Doubled___eq__ (T : Tx exs fn ts w K mg) (TC : Cls cl K) (HP : PK P "/claim/cut.py")  : OkA (tf.map (·.1)) P w K mg (He.ma K (ga K "Doubled") "__eq__") 2 f_Doubled___eq__ := by
  obtain ⟨fd, F⟩ := T.fd 34 d_Doubled___eq__ rfl
  refine ⟨F.kp, fun base TB => fn_ok F sc_Doubled___eq__ rfl (F.bindsA fun _ _ _ _ _ _ us hl => match us, hl with | [_, _], _ => rfl) fun cd A out s H E hr gd => ?_⟩
  have hu := units64 hr
  have hu5 := units65 hr
  have hu3 := units50 hr
  have tk : Takes (cxOf (L2.CX P w) P w K mg base n_Doubled___eq__ "Doubled.__eq__" (defScope s_Doubled___eq__) (He.ma K (ga K "Doubled") "__eq__") cd A out s H E) (WF E) := takes_of rfl rfl rfl rfl
  exact (ss_cons (s_ret (x_and (x_isiC (c := "Doubled") (isF_of (T.at_ 82 rfl)) rfl (T.fr "isinstance" (T.at_ 58 rfl)) rfl (T.gl "Doubled" (T.at_ 50 rfl)) (x_var (pv 1))) (x_one (x_eq hu (x_attr (k := 0) (slF_of (T.at_ 83 rfl)) prF_nil TB gd hr (by decide) (x_var (pv 0))) (x_attr (k := 0) (slF_of (T.at_ 83 rfl)) prF_nil TB gd hr (by decide) (x_var (pv 1)))))))
  ss_nil)
theorem sc_require_same_algebra : FnScope n_require_same_algebra ["left", "right"] (defScope s_require_same_algebra) := ⟨rfl, rfl, rfl, by decide +kernel, rfl, by decide +kernel, by decide +kernel⟩
theorem o_require_same_algebra (T : Tx exs fn ts w K mg) (TC : Cls cl K) (HP : PK P "/claim/cut.py") (o_Doubled___eq__ : OkA (tf.map (·.1)) P w K mg (He.ma K (ga K "Doubled") "__eq__") 2 f_Doubled___eq__) : Ok (tf.map (·.1)) P w K mg "require_same_algebra" 5 f_require_same_algebra := by
  obtain ⟨fd, F⟩ := T.fd 35 d_require_same_algebra rfl
  refine ⟨T.gl "require_same_algebra" (T.at_ 22 rfl), F.kp, fun base TB => fn_ok F sc_require_same_algebra rfl (F.bindsA fun _ _ _ _ _ _ us hl => match us, hl with | [_, _], _ => rfl) fun cd A out s H E hr gd => ?_⟩
  have hu := units64 hr
  have hu5 := units65 hr
  have hu3 := units50 hr
  have tk : Takes (cxOf (L2.CX P w) P w K mg base n_require_same_algebra "require_same_algebra" (defScope s_require_same_algebra) (ga K "require_same_algebra") cd A out s H E) (WF E) := takes_of rfl rfl rfl rfl
  exact (ss_cons (s_if (t_cmp (f := (oNeO [("Doubled", f_Doubled___eq__)] own oNe)) (opR_or (op_neO (k := 2) (own := own) (neF_cons (T.at_ 97 rfl) o_Doubled___eq__ (by decide) neF_nil) TB gd hr (by decide)) (op_ne1 hu)) (oNeO_s oNe_s) (x_attr (k := 0) (slF_of (T.at_ 83 rfl)) prF_nil TB gd hr (by decide) (x_var (pv 0))) (x_attr (k := 0) (slF_of (T.at_ 83 rfl)) prF_nil TB gd hr (by decide) (x_var (pv 1))) (nomark _))
  (ss_cons (s_raiseZ (T.at_ 98 rfl) (T.gl "InvalidOperation" (T.at_ 76 rfl)) rfl tk rfl)
  ss_nil)
  ss_nil)
  ss_nil)
theorem sc_raw_sum : FnScope n_raw_sum ["left", "right"] (defScope s_raw_sum) := ⟨rfl, rfl, rfl, by decide +kernel, rfl, by decide +kernel, by decide +kernel⟩
theorem o_raw_sum (T : Tx exs fn ts w K mg) (TC : Cls cl K) (HP : PK P "/claim/cut.py")  : Ok (tf.map (·.1)) P w K mg "raw_sum" 2 f_raw_sum := by
  obtain ⟨fd, F⟩ := T.fd 36 d_raw_sum rfl
  refine ⟨T.gl "raw_sum" (T.at_ 23 rfl), F.kp, fun base TB => fn_ok F sc_raw_sum rfl (F.bindsA fun _ _ _ _ _ _ us hl => match us, hl with | [_, _], _ => rfl) fun cd A out s H E hr gd => ?_⟩
  have hu := units64 hr
  have hu5 := units65 hr
  have hu3 := units50 hr
  have tk : Takes (cxOf (L2.CX P w) P w K mg base n_raw_sum "raw_sum" (defScope s_raw_sum) (ga K "raw_sum") cd A out s H E) (WF E) := takes_of rfl rfl rfl rfl
  exact (ss_cons (s_ret (x_callTy call_tuple_of fTuple_s rfl (T.fr "tuple" (T.at_ 65 rfl)) bt_tuple (a_cons (x_lc (own := [("entry", 2), ("more", 3)]) rfl sc_raw_sum.nd (i_zip rfl (T.fr "zip" (T.at_ 66 rfl)) (a_cons (x_var (pv 0)) (a_cons (x_var (pv 1)) a_nil))) (blkOk_by (by kernel_rfl)) (ct_tup (cts_cons (ct_name (i := 2) (by decide)) (cts_cons (ct_name (i := 3) (by decide)) cts_nil))) (fun _ _ _ _ _ => (pg_tup rfl (pgs_cons (pg_name (i := 2) sc_raw_sum.nd rfl (by first | exact Or.inl rfl | exact Or.inr rfl)) (pgs_cons (pg_name (i := 3) sc_raw_sum.nd rfl (by first | exact Or.inl rfl | exact Or.inr rfl)) pgs_nil)))) (fun _ _ _ _ _ => ts_nil) (fun _ _ _ _ _ => (x_add (x_var (pv 2)) (x_var (pv 3))))) a_nil)))
  ss_nil)
theorem sc_raw_mate : FnScope n_raw_mate ["entries"] (defScope s_raw_mate) := ⟨rfl, rfl, rfl, by decide +kernel, rfl, by decide +kernel, by decide +kernel⟩
theorem o_raw_mate (T : Tx exs fn ts w K mg) (TC : Cls cl K) (HP : PK P "/claim/cut.py")  : Ok (tf.map (·.1)) P w K mg "raw_mate" 2 f_raw_mate := by
  obtain ⟨fd, F⟩ := T.fd 37 d_raw_mate rfl
  refine ⟨T.gl "raw_mate" (T.at_ 24 rfl), F.kp, fun base TB => fn_ok F sc_raw_mate rfl (F.bindsA fun _ _ _ _ _ _ us hl => match us, hl with | [_], _ => rfl) fun cd A out s H E hr gd => ?_⟩
  have hu := units64 hr
  have hu5 := units65 hr
  have hu3 := units50 hr
  have tk : Takes (cxOf (L2.CX P w) P w K mg base n_raw_mate "raw_mate" (defScope s_raw_mate) (ga K "raw_mate") cd A out s H E) (WF E) := takes_of rfl rfl rfl rfl
  exact (ss_cons (s_ret (x_tup (a_cons (x_ix (x_var (pv 0)) x_int) (a_star (x_lc (own := [("entry", 1)]) rfl sc_raw_mate.nd (i_seq (x_sl (x_var (pv 0)) (o_some x_int) o_none)) (blkOk_by (by kernel_rfl)) (ct_name (i := 1) (by decide)) (fun _ _ _ _ _ => (pg_name (i := 1) sc_raw_mate.nd rfl (by first | exact Or.inl rfl | exact Or.inr rfl))) (fun _ _ _ _ _ => ts_nil) (fun _ _ _ _ _ => (x_neg (x_var (pv 1))))) a_nil))))
  ss_nil)
theorem sc_raw_product : FnScope n_raw_product ["squares", "left", "right"] (defScope s_raw_product) := ⟨rfl, rfl, rfl, by decide +kernel, rfl, by decide +kernel, by decide +kernel⟩
theorem or_raw_product (T : Tx exs fn ts w K mg) (TC : Cls cl K) (HP : PK P "/claim/cut.py") (o_raw_mate : Ok (tf.map (·.1)) P w K mg "raw_mate" 2 f_raw_mate) (o_raw_scaled : Ok (tf.map (·.1)) P w K mg "raw_scaled" 2 f_raw_scaled) (o_raw_sum : Ok (tf.map (·.1)) P w K mg "raw_sum" 2 f_raw_sum) (z : Nat) : Ok (tf.map (·.1)) P w K mg "raw_product" (3 + z) (fr_raw_product z) := by
  induction z with
  | zero =>
    obtain ⟨fd, F⟩ := T.fd 38 d_raw_product rfl
    exact ⟨T.gl "raw_product" (T.at_ 25 rfl), F.kp, fun base TB A out s H us vs Q E hr hg e0 r ⟨m, g, ds, _, _, p⟩ => p.elim⟩
  | succ z o_rec =>
    obtain ⟨fd, F⟩ := T.fd 38 d_raw_product rfl
    refine ⟨T.gl "raw_product" (T.at_ 25 rfl), F.kp, fun base TB => fn_ok F sc_raw_product rfl (F.bindsA fun _ _ _ _ _ _ us hl => match us, hl with | [_, _, _], _ => rfl) fun cd A out s H E hr gd => ?_⟩
    have hu := units64 hr
    have hu5 := units65 hr
    have hu3 := units50 hr
    have tk : Takes (cxOf (L2.CX P w) P w K mg base n_raw_product "raw_product" (defScope s_raw_product) (ga K "raw_product") cd A out s H E) (WF E) := takes_of rfl rfl rfl rfl
    exact (ss_cons (s_if (t_cmp (f := oEq0) (opR_or (op_eqT0 hu) (op_eq1 hu)) oEq0_s (x_var (pv 0)) (x_tup a_nil) (nomark _))
    (ss_cons (s_ret (x_tup (a_cons (x_mul (x_ix (x_var (pv 1)) x_int) (x_ix (x_var (pv 2)) x_int)) a_nil)))
    ss_nil)
    ss_nil)
    (ss_cons (s_par3 (i := 6) (j := 7) (l := 8) rfl sc_raw_product.nd rfl rfl rfl (by decide) (by decide) (by decide) rfl rfl rfl (a_cons (x_fdiv (x_callB call_len fLen_s rfl (T.fr "len" (T.at_ 59 rfl)) bt_len (a_cons (x_var (pv 1)) a_nil)) x_int) (a_cons (x_sl (x_var (pv 0)) o_none (o_some (x_neg x_int))) (a_cons (x_ix (x_var (pv 0)) (x_neg x_int)) a_nil))) (by rfl))
    (ss_cons (s_asg (x_tup (a_cons (x_sl (x_var (pv 1)) o_none (o_some (x_var (pv 6)))) (a_cons (x_sl (x_var (pv 1)) (o_some (x_var (pv 6))) o_none) (a_cons (x_sl (x_var (pv 2)) o_none (o_some (x_var (pv 6)))) (a_cons (x_sl (x_var (pv 2)) (o_some (x_var (pv 6))) o_none) a_nil))))) (g_sq rfl (gs_cons (g_name (i := 9) sc_raw_product.nd rfl (by first | exact Or.inl rfl | exact Or.inr rfl)) (gs_cons (g_name (i := 10) sc_raw_product.nd rfl (by first | exact Or.inl rfl | exact Or.inr rfl)) (gs_cons (g_name (i := 11) sc_raw_product.nd rfl (by first | exact Or.inl rfl | exact Or.inr rfl)) (gs_cons (g_name (i := 12) sc_raw_product.nd rfl (by first | exact Or.inl rfl | exact Or.inr rfl)) gs_nil))))))
    (ss_cons (s_set (i := 3) sc_raw_product.nd rfl (by first | exact Or.inl rfl | exact Or.inr rfl) (x_callO o_raw_scaled TB gd hr (by show _ ≤ 3 + z; omega) tk rfl (a_cons (x_callO o_rec TB gd hr (by show _ ≤ 3 + z; omega) tk rfl (a_cons (x_var (pv 7)) (a_cons (x_callO o_raw_mate TB gd hr (by show _ ≤ 3 + z; omega) tk rfl (a_cons (x_var (pv 12)) a_nil)) (a_cons (x_var (pv 10)) a_nil)))) (a_cons (x_var (pv 8)) a_nil))))
    (ss_cons (s_set (i := 4) sc_raw_product.nd rfl (by first | exact Or.inl rfl | exact Or.inr rfl) (x_callO o_raw_sum TB gd hr (by show _ ≤ 3 + z; omega) tk rfl (a_cons (x_callO o_rec TB gd hr (by show _ ≤ 3 + z; omega) tk rfl (a_cons (x_var (pv 7)) (a_cons (x_var (pv 9)) (a_cons (x_var (pv 11)) a_nil)))) (a_cons (x_var (pv 3)) a_nil))))
    (ss_cons (s_set (i := 5) sc_raw_product.nd rfl (by first | exact Or.inl rfl | exact Or.inr rfl) (x_callO o_raw_sum TB gd hr (by show _ ≤ 3 + z; omega) tk rfl (a_cons (x_callO o_rec TB gd hr (by show _ ≤ 3 + z; omega) tk rfl (a_cons (x_var (pv 7)) (a_cons (x_var (pv 12)) (a_cons (x_var (pv 9)) a_nil)))) (a_cons (x_callO o_rec TB gd hr (by show _ ≤ 3 + z; omega) tk rfl (a_cons (x_var (pv 7)) (a_cons (x_var (pv 10)) (a_cons (x_callO o_raw_mate TB gd hr (by show _ ≤ 3 + z; omega) tk rfl (a_cons (x_var (pv 11)) a_nil)) a_nil)))) a_nil))))
    (ss_cons (s_ret (x_add (x_var (pv 4)) (x_var (pv 5))))
    ss_nil)))))))
theorem o_raw_product (T : Tx exs fn ts w K mg) (TC : Cls cl K) (HP : PK P "/claim/cut.py") (o_raw_mate : Ok (tf.map (·.1)) P w K mg "raw_mate" 2 f_raw_mate) (o_raw_scaled : Ok (tf.map (·.1)) P w K mg "raw_scaled" 2 f_raw_scaled) (o_raw_sum : Ok (tf.map (·.1)) P w K mg "raw_sum" 2 f_raw_sum) : Ok (tf.map (·.1)) P w K mg "raw_product" 19 f_raw_product := or_raw_product T TC HP o_raw_mate o_raw_scaled o_raw_sum 16
theorem sc_Element___mul__ : FnScope n_Element___mul__ ["self", "other"] (defScope s_Element___mul__) := ⟨rfl, rfl, rfl, by decide +kernel, rfl, by decide +kernel, by decide +kernel⟩
theorem o_Element___mul__ (T : Tx exs fn ts w K mg) (TC : Cls cl K) (HP : PK P "/claim/cut.py") (o_element_made : Ok (tf.map (·.1)) P w K mg "element_made" 9 f_element_made) (o_raw_product : Ok (tf.map (·.1)) P w K mg "raw_product" 19 f_raw_product) (o_require_same_algebra : Ok (tf.map (·.1)) P w K mg "require_same_algebra" 5 f_require_same_algebra) : OkA (tf.map (·.1)) P w K mg (He.ma K (ga K "Element") "__mul__") 20 f_Element___mul__ := by
  obtain ⟨fd, F⟩ := T.fd 39 d_Element___mul__ rfl
  refine ⟨F.kp, fun base TB => fn_ok F sc_Element___mul__ rfl (F.bindsA fun _ _ _ _ _ _ us hl => match us, hl with | [_, _], _ => rfl) fun cd A out s H E hr gd => ?_⟩
  have hu := units64 hr
  have hu5 := units65 hr
  have hu3 := units50 hr
  have tk : Takes (cxOf (L2.CX P w) P w K mg base n_Element___mul__ "Element.__mul__" (defScope s_Element___mul__) (He.ma K (ga K "Element") "__mul__") cd A out s H E) (WF E) := takes_of rfl rfl rfl rfl
  exact (ss_cons (s_if (t_not (t_tru (x_isiC (c := "Element") (isF_of (T.at_ 82 rfl)) rfl (T.fr "isinstance" (T.at_ 58 rfl)) rfl (T.gl "Element" (T.at_ 52 rfl)) (x_var (pv 1)))))
  (ss_cons (s_ret x_never)
  ss_nil)
  ss_nil)
  (ss_cons (s_expr (x_callO o_require_same_algebra TB gd hr (by decide) tk rfl (a_cons (x_var (pv 0)) (a_cons (x_var (pv 1)) a_nil))))
  (ss_cons (s_set (i := 2) sc_Element___mul__.nd rfl (by first | exact Or.inl rfl | exact Or.inr rfl) (x_callO o_raw_product TB gd hr (by decide) tk rfl (a_cons (x_attr (k := 0) (slF_of (T.at_ 83 rfl)) prF_nil TB gd hr (by decide) (x_attr (k := 0) (slF_of (T.at_ 83 rfl)) prF_nil TB gd hr (by decide) (x_var (pv 0)))) (a_cons (x_attr (k := 0) (slF_of (T.at_ 83 rfl)) prF_nil TB gd hr (by decide) (x_var (pv 0))) (a_cons (x_attr (k := 0) (slF_of (T.at_ 83 rfl)) prF_nil TB gd hr (by decide) (x_var (pv 1))) a_nil)))))
  (ss_cons (s_ret (x_callO o_element_made TB gd hr (by decide) tk rfl (a_cons (x_attr (k := 0) (slF_of (T.at_ 83 rfl)) prF_nil TB gd hr (by decide) (x_var (pv 0))) (a_cons (x_var (pv 2)) (a_cons (x_mul (x_attr (k := 0) (slF_of (T.at_ 83 rfl)) prF_nil TB gd hr (by decide) (x_var (pv 0))) (x_attr (k := 0) (slF_of (T.at_ 83 rfl)) prF_nil TB gd hr (by decide) (x_var (pv 1)))) a_nil)))))
  ss_nil))))
theorem sc_units_by : FnScope n_units_by ["way"] (defScope s_units_by) := ⟨rfl, rfl, rfl, by decide +kernel, rfl, by decide +kernel, by decide +kernel⟩
theorem o_units_by (T : Tx exs fn ts w K mg) (TC : Cls cl K) (HP : PK P "/claim/cut.py") (o_Doubled_one : OkA (tf.map (·.1)) P w K mg (He.ma K (ga K "Doubled") "one") 11 f_Doubled_one) (o_Element___mul__ : OkA (tf.map (·.1)) P w K mg (He.ma K (ga K "Element") "__mul__") 20 f_Element___mul__) (o_Element_algebra : OkA (tf.map (·.1)) P w K mg (prA K "Element" "algebra") 2 f_Element_algebra) : Ok (tf.map (·.1)) P w K mg "units_by" 23 f_units_by := by
  obtain ⟨fd, F⟩ := T.fd 40 d_units_by rfl
  refine ⟨T.gl "units_by" (T.at_ 26 rfl), F.kp, fun base TB => fn_ok F sc_units_by rfl (F.bindsA fun _ _ _ _ _ _ us hl => match us, hl with | [_], _ => rfl) fun cd A out s H E hr gd => ?_⟩
  have hu := units64 hr
  have hu5 := units65 hr
  have hu3 := units50 hr
  have tk : Takes (cxOf (L2.CX P w) P w K mg base n_units_by "units_by" (defScope s_units_by) (ga K "units_by") cd A out s H E) (WF E) := takes_of rfl rfl rfl rfl
  exact (ss_cons (s_asg (x_var (pv 0)) (g_sq rfl (gs_cons (g_name (i := 2) sc_units_by.nd rfl (by first | exact Or.inl rfl | exact Or.inr rfl)) (gs_cons (g_name (i := 3) sc_units_by.nd rfl (by first | exact Or.inl rfl | exact Or.inr rfl)) (gs_cons (g_name (i := 4) sc_units_by.nd rfl (by first | exact Or.inl rfl | exact Or.inr rfl)) gs_nil)))))
  (ss_cons (s_set (i := 1) sc_units_by.nd rfl (by first | exact Or.inl rfl | exact Or.inr rfl) (x_opO (k := 20) op_mul1 oMul_s (boF_cons (T.at_ 99 rfl) o_Element___mul__ (by decide) boF_nil) TB gd hr (by decide) (x_var (pv 2)) (x_var (pv 3))))
  (ss_cons (s_ret (x_lst (a_cons (x_meth0 (k := 11) (meF_cons ((clsB_s (T.at_ 95 rfl)).1) (He.meth_ok (T.at_ 100 rfl)) o_Doubled_one (by decide) meF_nil) TB gd hr (by decide) tk (x_attr (k := 2) (slF_of (T.at_ 83 rfl)) (prF_cons ((clsB_s (T.at_ 93 rfl)).1) (T.at_ 101 rfl) o_Element_algebra (by decide) prF_nil) TB gd hr (by decide) (x_var (pv 2)))) (a_cons (x_var (pv 2)) (a_cons (x_var (pv 3)) (a_cons (x_var (pv 1)) (a_cons (x_var (pv 4)) (a_cons (x_opO (k := 20) op_mul1 oMul_s (boF_cons (T.at_ 99 rfl) o_Element___mul__ (by decide) boF_nil) TB gd hr (by decide) (x_var (pv 2)) (x_var (pv 4))) (a_cons (x_opO (k := 20) op_mul1 oMul_s (boF_cons (T.at_ 99 rfl) o_Element___mul__ (by decide) boF_nil) TB gd hr (by decide) (x_var (pv 3)) (x_var (pv 4))) (a_cons (x_opO (k := 20) op_mul1 oMul_s (boF_cons (T.at_ 99 rfl) o_Element___mul__ (by decide) boF_nil) TB gd hr (by decide) (x_var (pv 1)) (x_var (pv 4))) a_nil))))))))))
  ss_nil)))
theorem sc_Element___add__ : FnScope n_Element___add__ ["self", "other"] (defScope s_Element___add__) := ⟨rfl, rfl, rfl, by decide +kernel, rfl, by decide +kernel, by decide +kernel⟩
theorem o_Element___add__ (T : Tx exs fn ts w K mg) (TC : Cls cl K) (HP : PK P "/claim/cut.py") (o_element_made : Ok (tf.map (·.1)) P w K mg "element_made" 9 f_element_made) (o_raw_scaled : Ok (tf.map (·.1)) P w K mg "raw_scaled" 2 f_raw_scaled) (o_raw_sum : Ok (tf.map (·.1)) P w K mg "raw_sum" 2 f_raw_sum) (o_require_same_algebra : Ok (tf.map (·.1)) P w K mg "require_same_algebra" 5 f_require_same_algebra) : OkA (tf.map (·.1)) P w K mg (He.ma K (ga K "Element") "__add__") 10 f_Element___add__ := by
  obtain ⟨fd, F⟩ := T.fd 41 d_Element___add__ rfl
  refine ⟨F.kp, fun base TB => fn_ok F sc_Element___add__ rfl (F.bindsA fun _ _ _ _ _ _ us hl => match us, hl with | [_, _], _ => rfl) fun cd A out s H E hr gd => ?_⟩
  have hu := units64 hr
  have hu5 := units65 hr
  have hu3 := units50 hr
  have tk : Takes (cxOf (L2.CX P w) P w K mg base n_Element___add__ "Element.__add__" (defScope s_Element___add__) (He.ma K (ga K "Element") "__add__") cd A out s H E) (WF E) := takes_of rfl rfl rfl rfl
  exact (ss_cons (s_if (t_not (t_tru (x_isiC (c := "Element") (isF_of (T.at_ 82 rfl)) rfl (T.fr "isinstance" (T.at_ 58 rfl)) rfl (T.gl "Element" (T.at_ 52 rfl)) (x_var (pv 1)))))
  (ss_cons (s_ret x_never)
  ss_nil)
  ss_nil)
  (ss_cons (s_expr (x_callO o_require_same_algebra TB gd hr (by decide) tk rfl (a_cons (x_var (pv 0)) (a_cons (x_var (pv 1)) a_nil))))
  (ss_cons (s_set (i := 2) sc_Element___add__.nd rfl (by first | exact Or.inl rfl | exact Or.inr rfl) (x_callO o_raw_scaled TB gd hr (by decide) tk rfl (a_cons (x_attr (k := 0) (slF_of (T.at_ 83 rfl)) prF_nil TB gd hr (by decide) (x_var (pv 0))) (a_cons (x_attr (k := 0) (slF_of (T.at_ 83 rfl)) prF_nil TB gd hr (by decide) (x_var (pv 1))) a_nil))))
  (ss_cons (s_set (i := 3) sc_Element___add__.nd rfl (by first | exact Or.inl rfl | exact Or.inr rfl) (x_callO o_raw_scaled TB gd hr (by decide) tk rfl (a_cons (x_attr (k := 0) (slF_of (T.at_ 83 rfl)) prF_nil TB gd hr (by decide) (x_var (pv 1))) (a_cons (x_attr (k := 0) (slF_of (T.at_ 83 rfl)) prF_nil TB gd hr (by decide) (x_var (pv 0))) a_nil))))
  (ss_cons (s_ret (x_callO o_element_made TB gd hr (by decide) tk rfl (a_cons (x_attr (k := 0) (slF_of (T.at_ 83 rfl)) prF_nil TB gd hr (by decide) (x_var (pv 0))) (a_cons (x_callO o_raw_sum TB gd hr (by decide) tk rfl (a_cons (x_var (pv 2)) (a_cons (x_var (pv 3)) a_nil))) (a_cons (x_mul (x_attr (k := 0) (slF_of (T.at_ 83 rfl)) prF_nil TB gd hr (by decide) (x_var (pv 0))) (x_attr (k := 0) (slF_of (T.at_ 83 rfl)) prF_nil TB gd hr (by decide) (x_var (pv 1)))) a_nil)))))
  ss_nil)))))
theorem sc_sum_by : FnScope n_sum_by ["units", "ratios"] (defScope s_sum_by) := ⟨rfl, rfl, rfl, by decide +kernel, rfl, by decide +kernel, by decide +kernel⟩
theorem o_sum_by (T : Tx exs fn ts w K mg) (TC : Cls cl K) (HP : PK P "/claim/cut.py") (o_Element___add__ : OkA (tf.map (·.1)) P w K mg (He.ma K (ga K "Element") "__add__") 10 f_Element___add__) (o_Element_scaled : OkA (tf.map (·.1)) P w K mg (He.ma K (ga K "Element") "scaled") 10 f_Element_scaled) : Ok (tf.map (·.1)) P w K mg "sum_by" 13 f_sum_by := by
  obtain ⟨fd, F⟩ := T.fd 42 d_sum_by rfl
  refine ⟨T.gl "sum_by" (T.at_ 27 rfl), F.kp, fun base TB => fn_ok F sc_sum_by rfl (F.bindsA fun _ _ _ _ _ _ us hl => match us, hl with | [_, _], _ => rfl) fun cd A out s H E hr gd => ?_⟩
  have hu := units64 hr
  have hu5 := units65 hr
  have hu3 := units50 hr
  have tk : Takes (cxOf (L2.CX P w) P w K mg base n_sum_by "sum_by" (defScope s_sum_by) (ga K "sum_by") cd A out s H E) (WF E) := takes_of rfl rfl rfl rfl
  exact (ss_cons (s_set (i := 2) sc_sum_by.nd rfl (by first | exact Or.inl rfl | exact Or.inr rfl) (x_meth (k := 10) (meF_cons ((clsB_s (T.at_ 93 rfl)).1) (He.meth_ok (T.at_ 102 rfl)) o_Element_scaled (by decide) meF_nil) TB gd hr (by decide) tk (x_ix (x_var (pv 0)) x_int) (a_cons (x_ix (x_var (pv 1)) x_int) a_nil)))
  (ss_cons (s_for (passes_of rfl) rfl (i_zip rfl (T.fr "zip" (T.at_ 66 rfl)) (a_cons (x_sl (x_var (pv 0)) (o_some x_int) o_none) (a_cons (x_sl (x_var (pv 1)) (o_some x_int) o_none) a_nil))) (g_sq rfl (gs_cons (g_name (i := 3) sc_sum_by.nd rfl (by first | exact Or.inl rfl | exact Or.inr rfl)) (gs_cons (g_name (i := 4) sc_sum_by.nd rfl (by first | exact Or.inl rfl | exact Or.inr rfl)) gs_nil)))
  (ss_cons (s_set (i := 2) sc_sum_by.nd rfl (by first | exact Or.inl rfl | exact Or.inr rfl) (x_opO (k := 10) op_add1 oAdd_s (boF_cons (T.at_ 103 rfl) o_Element___add__ (by decide) boF_nil) TB gd hr (by decide) (x_var (pv 2)) (x_meth (k := 10) (meF_cons ((clsB_s (T.at_ 93 rfl)).1) (He.meth_ok (T.at_ 102 rfl)) o_Element_scaled (by decide) meF_nil) TB gd hr (by decide) tk (x_var (pv 3)) (a_cons (x_var (pv 4)) a_nil))))
  ss_nil))
  (ss_cons (s_ret (x_var (pv 2)))
  ss_nil)))
theorem sc_led_by : FnScope n_led_by ["units", "element"] (defScope s_led_by) := ⟨rfl, rfl, rfl, by decide +kernel, rfl, by decide +kernel, by decide +kernel⟩
theorem o_led_by (T : Tx exs fn ts w K mg) (TC : Cls cl K) (HP : PK P "/claim/cut.py") (o_ratio_of : Ok (tf.map (·.1)) P w K mg "ratio_of" 7 f_ratio_of) (o_sum_by : Ok (tf.map (·.1)) P w K mg "sum_by" 13 f_sum_by) : Ok (tf.map (·.1)) P w K mg "led_by" 14 f_led_by := by
  obtain ⟨fd, F⟩ := T.fd 43 d_led_by rfl
  refine ⟨T.gl "led_by" (T.at_ 28 rfl), F.kp, fun base TB => fn_ok F sc_led_by rfl (F.bindsA fun _ _ _ _ _ _ us hl => match us, hl with | [_, _], _ => rfl) fun cd A out s H E hr gd => ?_⟩
  have hu := units64 hr
  have hu5 := units65 hr
  have hu3 := units50 hr
  have tk : Takes (cxOf (L2.CX P w) P w K mg base n_led_by "led_by" (defScope s_led_by) (ga K "led_by") cd A out s H E) (WF E) := takes_of rfl rfl rfl rfl
  exact (ss_cons (s_ret (x_callO o_sum_by TB gd hr (by decide) tk rfl (a_cons (x_var (pv 0)) (a_cons (x_lc (own := [("entry", 2)]) rfl sc_led_by.nd (i_seq (x_attr (k := 0) (slF_of (T.at_ 83 rfl)) prF_nil TB gd hr (by decide) (x_var (pv 1)))) (blkOk_by (by kernel_rfl)) (ct_name (i := 2) (by decide)) (fun _ _ _ _ _ => (pg_name (i := 2) sc_led_by.nd rfl (by first | exact Or.inl rfl | exact Or.inr rfl))) (fun _ _ _ _ _ => ts_nil) (fun _ _ _ _ _ => (x_callO o_ratio_of TB gd hr (by decide) takes0 rfl (a_cons (x_var (pv 2)) (a_cons (x_attr (k := 0) (slF_of (T.at_ 83 rfl)) prF_nil TB gd hr (by decide) (x_var (pv 1))) a_nil))))) a_nil))))
  ss_nil)
theorem sc_way_on : FnScope n_way_on ["first", "second"] (defScope s_way_on) := ⟨rfl, rfl, rfl, by decide +kernel, rfl, by decide +kernel, by decide +kernel⟩
theorem o_way_on (T : Tx exs fn ts w K mg) (TC : Cls cl K) (HP : PK P "/claim/cut.py") (o_led_by : Ok (tf.map (·.1)) P w K mg "led_by" 14 f_led_by) (o_units_by : Ok (tf.map (·.1)) P w K mg "units_by" 23 f_units_by) : Ok (tf.map (·.1)) P w K mg "way_on" 24 f_way_on := by
  obtain ⟨fd, F⟩ := T.fd 44 d_way_on rfl
  refine ⟨T.gl "way_on" (T.at_ 29 rfl), F.kp, fun base TB => fn_ok F sc_way_on rfl (F.bindsA fun _ _ _ _ _ _ us hl => match us, hl with | [_, _], _ => rfl) fun cd A out s H E hr gd => ?_⟩
  have hu := units64 hr
  have hu5 := units65 hr
  have hu3 := units50 hr
  have tk : Takes (cxOf (L2.CX P w) P w K mg base n_way_on "way_on" (defScope s_way_on) (ga K "way_on") cd A out s H E) (WF E) := takes_of rfl rfl rfl rfl
  exact (ss_cons (s_set (i := 2) sc_way_on.nd rfl (by first | exact Or.inl rfl | exact Or.inr rfl) (x_callO o_units_by TB gd hr (by decide) tk rfl (a_cons (x_var (pv 1)) a_nil)))
  (ss_cons (s_ret (x_callTy call_tuple_of fTuple_s rfl (T.fr "tuple" (T.at_ 65 rfl)) bt_tuple (a_cons (x_lc (own := [("part", 3)]) rfl sc_way_on.nd (i_seq (x_var (pv 0))) (blkOk_by (by kernel_rfl)) (ct_name (i := 3) (by decide)) (fun _ _ _ _ _ => (pg_name (i := 3) sc_way_on.nd rfl (by first | exact Or.inl rfl | exact Or.inr rfl))) (fun _ _ _ _ _ => ts_nil) (fun _ _ _ _ _ => (x_callO o_led_by TB gd hr (by decide) takes0 rfl (a_cons (x_var (pv 2)) (a_cons (x_var (pv 3)) a_nil))))) a_nil)))
  ss_nil))
theorem sc_images : FnScope n_images ["one", "other"] (defScope s_images) := ⟨rfl, rfl, rfl, by decide +kernel, rfl, by decide +kernel, by decide +kernel⟩
theorem o_images (T : Tx exs fn ts w K mg) (TC : Cls cl K) (HP : PK P "/claim/cut.py") (o_Doubled_is_definite : OkA (tf.map (·.1)) P w K mg (prA K "Doubled" "is_definite") 2 f_Doubled_is_definite) (o_require_eights : Ok (tf.map (·.1)) P w K mg "require_eights" 3 f_require_eights) (o_require_small : Ok (tf.map (·.1)) P w K mg "require_small" 2 f_require_small) (o_way_on : Ok (tf.map (·.1)) P w K mg "way_on" 24 f_way_on) : Ok (tf.map (·.1)) P w K mg "images" 25 f_images := by
  obtain ⟨fd, F⟩ := T.fd 45 d_images rfl
  refine ⟨T.gl "images" (T.at_ 30 rfl), F.kp, fun base TB => fn_ok F sc_images rfl (F.bindsA fun _ _ _ _ _ _ us hl => match us, hl with | [_, _], _ => rfl) fun cd A out s H E hr gd => ?_⟩
  have hu := units64 hr
  have hu5 := units65 hr
  have hu3 := units50 hr
  have tk : Takes (cxOf (L2.CX P w) P w K mg base n_images "images" (defScope s_images) (ga K "images") cd A out s H E) (WF E) := takes_of rfl rfl rfl rfl
  exact (ss_cons (s_expr (x_callO o_require_eights TB gd hr (by decide) tk rfl (a_cons (x_tup (a_cons (x_var (pv 0)) (a_cons (x_var (pv 1)) a_nil))) a_nil)))
  (ss_cons (s_expr (x_callO o_require_small TB gd hr (by decide) tk rfl (a_cons (x_tup (a_cons (x_var (pv 0)) (a_cons (x_var (pv 1)) a_nil))) a_nil)))
  (ss_cons (s_if (t_cmp (f := oNe) (op_ne1 hu) oNe_s (x_attr (k := 2) (slF_of (T.at_ 83 rfl)) (prF_cons ((clsB_s (T.at_ 95 rfl)).1) (T.at_ 96 rfl) o_Doubled_is_definite (by decide) prF_nil) TB gd hr (by decide) (x_var (pv 0))) (x_attr (k := 2) (slF_of (T.at_ 83 rfl)) (prF_cons ((clsB_s (T.at_ 95 rfl)).1) (T.at_ 96 rfl) o_Doubled_is_definite (by decide) prF_nil) TB gd hr (by decide) (x_var (pv 1))) (nomark _))
  (ss_cons (s_ret x_non)
  ss_nil)
  ss_nil)
  (ss_cons (s_set (i := 2) sc_images.nd rfl (by first | exact Or.inl rfl | exact Or.inr rfl) x_never)
  (ss_cons (s_ret (x_callO o_way_on TB gd hr (by decide) tk rfl (a_cons x_never (a_cons x_never a_nil))))
  ss_nil)))))
theorem sc_Element___eq__ : FnScope n_Element___eq__ ["self", "other"] (defScope s_Element___eq__) := ⟨rfl, rfl, rfl, by decide +kernel, rfl, by decide +kernel, by decide +kernel⟩
theorem o_Element___eq__ (T : Tx exs fn ts w K mg) (TC : Cls cl K) (HP : PK P "/claim/cut.py") (o_Doubled___eq__ : OkA (tf.map (·.1)) P w K mg (He.ma K (ga K "Doubled") "__eq__") 2 f_Doubled___eq__) : OkA (tf.map (·.1)) P w K mg (He.ma K (ga K "Element") "__eq__") 5 f_Element___eq__ := by
  obtain ⟨fd, F⟩ := T.fd 46 d_Element___eq__ rfl
  refine ⟨F.kp, fun base TB => fn_ok F sc_Element___eq__ rfl (F.bindsA fun _ _ _ _ _ _ us hl => match us, hl with | [_, _], _ => rfl) fun cd A out s H E hr gd => ?_⟩
  have hu := units64 hr
  have hu5 := units65 hr
  have hu3 := units50 hr
  have tk : Takes (cxOf (L2.CX P w) P w K mg base n_Element___eq__ "Element.__eq__" (defScope s_Element___eq__) (He.ma K (ga K "Element") "__eq__") cd A out s H E) (WF E) := takes_of rfl rfl rfl rfl
  exact (ss_cons (s_if (PW.pt (w_or (t_not (t_tru (x_isiC (c := "Element") (isF_of (T.at_ 82 rfl)) rfl (T.fr "isinstance" (T.at_ 58 rfl)) rfl (T.gl "Element" (T.at_ 52 rfl)) (x_var (pv 1))))) (w_or1 (t_cmp (f := (oNeO [("Doubled", f_Doubled___eq__)] own oNe)) (opR_or (op_neO (k := 2) (own := own) (neF_cons (T.at_ 97 rfl) o_Doubled___eq__ (by decide) neF_nil) TB gd hr (by decide)) (op_ne1 hu)) (oNeO_s oNe_s) (x_attr (k := 0) (slF_of (T.at_ 83 rfl)) prF_nil TB gd hr (by decide) (x_var (pv 0))) (x_attr (k := 0) (slF_of (T.at_ 83 rfl)) prF_nil TB gd hr (by decide) (x_var (pv 1))) (nomark _)))))
  (ss_cons (s_ret x_bl)
  ss_nil)
  ss_nil)
  (ss_cons (s_ret (x_and (x_cmp (f := (oCmpO [("Doubled", f_Doubled___eq__)] own oEq)) (opR_or (op_cmpO (k := 2) (own := own) (fun _ _ => rfl) (cmF_cons (T.at_ 104 rfl) o_Doubled___eq__ (by decide) cmF_nil) TB gd hr (by decide)) (op_eq1 hu)) (oCmpO_s oEq_s) (x_attr (k := 0) (slF_of (T.at_ 83 rfl)) prF_nil TB gd hr (by decide) (x_var (pv 0))) (x_attr (k := 0) (slF_of (T.at_ 83 rfl)) prF_nil TB gd hr (by decide) (x_var (pv 1))) (nomark _)) (x_one (x_cmp (f := (oCmpO [("Doubled", f_Doubled___eq__)] own oEq)) (opR_or (op_cmpO (k := 2) (own := own) (fun _ _ => rfl) (cmF_cons (T.at_ 104 rfl) o_Doubled___eq__ (by decide) cmF_nil) TB gd hr (by decide)) (op_eq1 hu)) (oCmpO_s oEq_s) (x_attr (k := 0) (slF_of (T.at_ 83 rfl)) prF_nil TB gd hr (by decide) (x_var (pv 0))) (x_attr (k := 0) (slF_of (T.at_ 83 rfl)) prF_nil TB gd hr (by decide) (x_var (pv 1))) (nomark _)))))
  ss_nil))
theorem sc_Element___neg__ : FnScope n_Element___neg__ ["self"] (defScope s_Element___neg__) := ⟨rfl, rfl, rfl, by decide +kernel, rfl, by decide +kernel, by decide +kernel⟩
theorem o_Element___neg__ (T : Tx exs fn ts w K mg) (TC : Cls cl K) (HP : PK P "/claim/cut.py") (o_element_made : Ok (tf.map (·.1)) P w K mg "element_made" 9 f_element_made) (o_raw_scaled : Ok (tf.map (·.1)) P w K mg "raw_scaled" 2 f_raw_scaled) : OkA (tf.map (·.1)) P w K mg (He.ma K (ga K "Element") "__neg__") 10 f_Element___neg__ := by
  obtain ⟨fd, F⟩ := T.fd 47 d_Element___neg__ rfl
  refine ⟨F.kp, fun base TB => fn_ok F sc_Element___neg__ rfl (F.bindsA fun _ _ _ _ _ _ us hl => match us, hl with | [_], _ => rfl) fun cd A out s H E hr gd => ?_⟩
  have hu := units64 hr
  have hu5 := units65 hr
  have hu3 := units50 hr
  have tk : Takes (cxOf (L2.CX P w) P w K mg base n_Element___neg__ "Element.__neg__" (defScope s_Element___neg__) (He.ma K (ga K "Element") "__neg__") cd A out s H E) (WF E) := takes_of rfl rfl rfl rfl
  exact (ss_cons (s_ret (x_callO o_element_made TB gd hr (by decide) tk rfl (a_cons (x_attr (k := 0) (slF_of (T.at_ 83 rfl)) prF_nil TB gd hr (by decide) (x_var (pv 0))) (a_cons (x_callO o_raw_scaled TB gd hr (by decide) tk rfl (a_cons (x_attr (k := 0) (slF_of (T.at_ 83 rfl)) prF_nil TB gd hr (by decide) (x_var (pv 0))) (a_cons (x_neg x_int) a_nil))) (a_cons (x_attr (k := 0) (slF_of (T.at_ 83 rfl)) prF_nil TB gd hr (by decide) (x_var (pv 0))) a_nil)))))
  ss_nil)
theorem sc_do_turn : FnScope n_do_turn ["one", "other"] (defScope s_do_turn) := ⟨rfl, rfl, rfl, by decide +kernel, rfl, by decide +kernel, by decide +kernel⟩
theorem o_do_turn (T : Tx exs fn ts w K mg) (TC : Cls cl K) (HP : PK P "/claim/cut.py") (o_Element___eq__ : OkA (tf.map (·.1)) P w K mg (He.ma K (ga K "Element") "__eq__") 5 f_Element___eq__) (o_Element___mul__ : OkA (tf.map (·.1)) P w K mg (He.ma K (ga K "Element") "__mul__") 20 f_Element___mul__) (o_Element___neg__ : OkA (tf.map (·.1)) P w K mg (He.ma K (ga K "Element") "__neg__") 10 f_Element___neg__) : Ok (tf.map (·.1)) P w K mg "do_turn" 23 f_do_turn := by
  obtain ⟨fd, F⟩ := T.fd 48 d_do_turn rfl
  refine ⟨T.gl "do_turn" (T.at_ 31 rfl), F.kp, fun base TB => fn_ok F sc_do_turn rfl (F.bindsA fun _ _ _ _ _ _ us hl => match us, hl with | [_, _], _ => rfl) fun cd A out s H E hr gd => ?_⟩
  have hu := units64 hr
  have hu5 := units65 hr
  have hu3 := units50 hr
  have tk : Takes (cxOf (L2.CX P w) P w K mg base n_do_turn "do_turn" (defScope s_do_turn) (ga K "do_turn") cd A out s H E) (WF E) := takes_of rfl rfl rfl rfl
  exact (ss_cons (s_ret (x_cmp (f := (oCmpO [("Element", f_Element___eq__)] own oEq)) (opR_or (op_cmpO (k := 5) (own := own) (fun _ _ => rfl) (cmF_cons (T.at_ 105 rfl) o_Element___eq__ (by decide) cmF_nil) TB gd hr (by decide)) (op_eq1 hu)) (oCmpO_s oEq_s) (x_opO (k := 20) op_mul1 oMul_s (boF_cons (T.at_ 99 rfl) o_Element___mul__ (by decide) boF_nil) TB gd hr (by decide) (x_var (pv 0)) (x_var (pv 1))) (x_negO (k := 10) (ngF_cons (T.at_ 106 rfl) o_Element___neg__ (by decide) ngF_nil) TB gd hr (by decide) (x_opO (k := 20) op_mul1 oMul_s (boF_cons (T.at_ 99 rfl) o_Element___mul__ (by decide) boF_nil) TB gd hr (by decide) (x_var (pv 1)) (x_var (pv 0)))) (nomark _)))
  ss_nil)
theorem sc_Element_is_ratio : FnScope n_Element_is_ratio ["self"] (defScope s_Element_is_ratio) := ⟨rfl, rfl, rfl, by decide +kernel, rfl, by decide +kernel, by decide +kernel⟩
theorem o_Element_is_ratio (T : Tx exs fn ts w K mg) (TC : Cls cl K) (HP : PK P "/claim/cut.py")  : OkA (tf.map (·.1)) P w K mg (prA K "Element" "is_ratio") 2 f_Element_is_ratio := by
  obtain ⟨fd, F⟩ := T.fd 49 d_Element_is_ratio rfl
  refine ⟨F.kp, fun base TB => fn_ok F sc_Element_is_ratio rfl (F.bindsA fun _ _ _ _ _ _ us hl => match us, hl with | [_], _ => rfl) fun cd A out s H E hr gd => ?_⟩
  have hu := units64 hr
  have hu5 := units65 hr
  have hu3 := units50 hr
  have tk : Takes (cxOf (L2.CX P w) P w K mg base n_Element_is_ratio "Element.is_ratio" (defScope s_Element_is_ratio) (prA K "Element" "is_ratio") cd A out s H E) (WF E) := takes_of rfl rfl rfl rfl
  exact (ss_cons (s_ret (x_not (x_callB (callR_or (cr_any rfl) (cr_anyI rfl)) fAnyI_s rfl (T.fr "any" (T.at_ 55 rfl)) bt_any (a_cons (x_sl (x_attr (k := 0) (slF_of (T.at_ 83 rfl)) prF_nil TB gd hr (by decide) (x_var (pv 0))) (o_some x_int) o_none) a_nil))))
  ss_nil)
theorem sc_is_worth : FnScope n_is_worth ["element", "number"] (defScope s_is_worth) := ⟨rfl, rfl, rfl, by decide +kernel, rfl, by decide +kernel, by decide +kernel⟩
theorem o_is_worth (T : Tx exs fn ts w K mg) (TC : Cls cl K) (HP : PK P "/claim/cut.py") (o_Element_is_ratio : OkA (tf.map (·.1)) P w K mg (prA K "Element" "is_ratio") 2 f_Element_is_ratio) : Ok (tf.map (·.1)) P w K mg "is_worth" 4 f_is_worth := by
  obtain ⟨fd, F⟩ := T.fd 50 d_is_worth rfl
  refine ⟨T.gl "is_worth" (T.at_ 32 rfl), F.kp, fun base TB => fn_ok F sc_is_worth rfl (F.bindsA fun _ _ _ _ _ _ us hl => match us, hl with | [_, _], _ => rfl) fun cd A out s H E hr gd => ?_⟩
  have hu := units64 hr
  have hu5 := units65 hr
  have hu3 := units50 hr
  have tk : Takes (cxOf (L2.CX P w) P w K mg base n_is_worth "is_worth" (defScope s_is_worth) (ga K "is_worth") cd A out s H E) (WF E) := takes_of rfl rfl rfl rfl
  exact (ss_cons (s_ret (x_and (x_eq hu (x_attr (k := 0) (slF_of (T.at_ 83 rfl)) prF_nil TB gd hr (by decide) (x_var (pv 0))) x_int) (x_and (x_eq hu (x_ix (x_attr (k := 0) (slF_of (T.at_ 83 rfl)) prF_nil TB gd hr (by decide) (x_var (pv 0))) x_int) (x_var (pv 1))) (x_one (x_attr (k := 2) (slF_of (T.at_ 83 rfl)) (prF_cons ((clsB_s (T.at_ 93 rfl)).1) (T.at_ 107 rfl) o_Element_is_ratio (by decide) prF_nil) TB gd hr (by decide) (x_var (pv 0)))))))
  ss_nil)
theorem sc_is_element_of : FnScope n_is_element_of ["algebra", "value"] (defScope s_is_element_of) := ⟨rfl, rfl, rfl, by decide +kernel, rfl, by decide +kernel, by decide +kernel⟩
theorem o_is_element_of (T : Tx exs fn ts w K mg) (TC : Cls cl K) (HP : PK P "/claim/cut.py") (o_Doubled___eq__ : OkA (tf.map (·.1)) P w K mg (He.ma K (ga K "Doubled") "__eq__") 2 f_Doubled___eq__) : Ok (tf.map (·.1)) P w K mg "is_element_of" 5 f_is_element_of := by
  obtain ⟨fd, F⟩ := T.fd 51 d_is_element_of rfl
  refine ⟨T.gl "is_element_of" (T.at_ 33 rfl), F.kp, fun base TB => fn_ok F sc_is_element_of rfl (F.bindsA fun _ _ _ _ _ _ us hl => match us, hl with | [_, _], _ => rfl) fun cd A out s H E hr gd => ?_⟩
  have hu := units64 hr
  have hu5 := units65 hr
  have hu3 := units50 hr
  have tk : Takes (cxOf (L2.CX P w) P w K mg base n_is_element_of "is_element_of" (defScope s_is_element_of) (ga K "is_element_of") cd A out s H E) (WF E) := takes_of rfl rfl rfl rfl
  exact (ss_cons (s_ret (x_and (x_isiC (c := "Element") (isF_of (T.at_ 82 rfl)) rfl (T.fr "isinstance" (T.at_ 58 rfl)) rfl (T.gl "Element" (T.at_ 52 rfl)) (x_var (pv 1))) (x_one (x_cmp (f := (oCmpO [("Doubled", f_Doubled___eq__)] own oEq)) (opR_or (op_cmpO (k := 2) (own := own) (fun _ _ => rfl) (cmF_cons (T.at_ 104 rfl) o_Doubled___eq__ (by decide) cmF_nil) TB gd hr (by decide)) (op_eq1 hu)) (oCmpO_s oEq_s) (x_attr (k := 0) (slF_of (T.at_ 83 rfl)) prF_nil TB gd hr (by decide) (x_var (pv 1))) (x_var (pv 0)) (nomark _)))))
  ss_nil)
theorem sc_are_images : FnScope n_are_images ["one", "other", "value"] (defScope s_are_images) := ⟨rfl, rfl, rfl, by decide +kernel, rfl, by decide +kernel, by decide +kernel⟩
theorem o_are_images (T : Tx exs fn ts w K mg) (TC : Cls cl K) (HP : PK P "/claim/cut.py") (o_Element___eq__ : OkA (tf.map (·.1)) P w K mg (He.ma K (ga K "Element") "__eq__") 5 f_Element___eq__) (o_Element___mul__ : OkA (tf.map (·.1)) P w K mg (He.ma K (ga K "Element") "__mul__") 20 f_Element___mul__) (o_do_turn : Ok (tf.map (·.1)) P w K mg "do_turn" 23 f_do_turn) (o_is_element_of : Ok (tf.map (·.1)) P w K mg "is_element_of" 5 f_is_element_of) (o_is_worth : Ok (tf.map (·.1)) P w K mg "is_worth" 4 f_is_worth) : Ok (tf.map (·.1)) P w K mg "are_images" 25 f_are_images := by
  obtain ⟨fd, F⟩ := T.fd 52 d_are_images rfl
  refine ⟨T.gl "are_images" (T.at_ 34 rfl), F.kp, fun base TB => fn_ok F sc_are_images rfl (F.bindsA fun _ _ _ _ _ _ us hl => match us, hl with | [_, _, _], _ => rfl) fun cd A out s H E hr gd => ?_⟩
  have hu := units64 hr
  have hu5 := units65 hr
  have hu3 := units50 hr
  have tk : Takes (cxOf (L2.CX P w) P w K mg base n_are_images "are_images" (defScope s_are_images) (ga K "are_images") cd A out s H E) (WF E) := takes_of rfl rfl rfl rfl
  exact (ss_cons (s_if (PW.pt (w_or (t_not (t_tru (x_isi .tup (isF_of (T.at_ 82 rfl)) rfl (T.fr "isinstance" (T.at_ 58 rfl)) rfl (T.fr "tuple" (T.at_ 65 rfl)) bt_tuple (x_var (pv 2))))) (w_or (t_cmp (f := (oNeO [("Element", f_Element___eq__)] own oNe)) (opR_or (op_neO (k := 5) (own := own) (neF_cons (T.at_ 108 rfl) o_Element___eq__ (by decide) neF_nil) TB gd hr (by decide)) (op_ne1 hu)) (oNeO_s oNe_s) (x_callB call_len fLen_s rfl (T.fr "len" (T.at_ 59 rfl)) bt_len (a_cons (x_var (pv 2)) a_nil)) x_int (nomark _)) (w_or1 (t_not (t_tru (x_callB (cr_all rfl) fAll_s rfl (T.fr "all" (T.at_ 54 rfl)) bt_all (a_cons (x_lc (own := [("part", 6)]) rfl sc_are_images.nd (i_seq (x_var (pv 2))) (blkOk_by (by kernel_rfl)) (ct_name (i := 6) (by decide)) (fun _ _ _ _ _ => (pg_name (i := 6) sc_are_images.nd rfl (by first | exact Or.inl rfl | exact Or.inr rfl))) (fun _ _ _ _ _ => ts_nil) (fun _ _ _ _ _ => (x_callO o_is_element_of TB gd hr (by decide) takes0 rfl (a_cons (x_var (pv 1)) (a_cons (x_var (pv 6)) a_nil))))) a_nil))))))))
  (ss_cons (s_ret x_bl)
  ss_nil)
  ss_nil)
  (ss_cons (s_if (t_not (t_tru (x_callB (cr_all rfl) fAll_s rfl (T.fr "all" (T.at_ 54 rfl)) bt_all (a_cons (x_lc (own := [("part", 6), ("square", 7)]) rfl sc_are_images.nd (i_zip rfl (T.fr "zip" (T.at_ 66 rfl)) (a_cons (x_var (pv 2)) (a_cons (x_attr (k := 0) (slF_of (T.at_ 83 rfl)) prF_nil TB gd hr (by decide) (x_var (pv 0))) a_nil))) (blkOk_by (by kernel_rfl)) (ct_tup (cts_cons (ct_name (i := 6) (by decide)) (cts_cons (ct_name (i := 7) (by decide)) cts_nil))) (fun _ _ _ _ _ => (pg_tup rfl (pgs_cons (pg_name (i := 6) sc_are_images.nd rfl (by first | exact Or.inl rfl | exact Or.inr rfl)) (pgs_cons (pg_name (i := 7) sc_are_images.nd rfl (by first | exact Or.inl rfl | exact Or.inr rfl)) pgs_nil)))) (fun _ _ _ _ _ => ts_nil) (fun _ _ _ _ _ => (x_callO o_is_worth TB gd hr (by decide) takes0 rfl (a_cons (x_opO (k := 20) op_mul1 oMul_s (boF_cons (T.at_ 99 rfl) o_Element___mul__ (by decide) boF_nil) TB gd hr (by decide) (x_var (pv 6)) (x_var (pv 6))) (a_cons (x_var (pv 7)) a_nil))))) a_nil))))
  (ss_cons (s_ret x_bl)
  ss_nil)
  ss_nil)
  (ss_cons (s_asg (x_var (pv 2)) (g_sq rfl (gs_cons (g_name (i := 3) sc_are_images.nd rfl (by first | exact Or.inl rfl | exact Or.inr rfl)) (gs_cons (g_name (i := 4) sc_are_images.nd rfl (by first | exact Or.inl rfl | exact Or.inr rfl)) (gs_cons (g_name (i := 5) sc_are_images.nd rfl (by first | exact Or.inl rfl | exact Or.inr rfl)) gs_nil)))))
  (ss_cons (s_ret (x_and (x_callO o_do_turn TB gd hr (by decide) tk rfl (a_cons (x_var (pv 3)) (a_cons (x_var (pv 4)) a_nil))) (x_and (x_callO o_do_turn TB gd hr (by decide) tk rfl (a_cons (x_var (pv 3)) (a_cons (x_var (pv 5)) a_nil))) (x_and (x_callO o_do_turn TB gd hr (by decide) tk rfl (a_cons (x_var (pv 4)) (a_cons (x_var (pv 5)) a_nil))) (x_one (x_callO o_do_turn TB gd hr (by decide) tk rfl (a_cons (x_opO (k := 20) op_mul1 oMul_s (boF_cons (T.at_ 99 rfl) o_Element___mul__ (by decide) boF_nil) TB gd hr (by decide) (x_var (pv 3)) (x_var (pv 4))) (a_cons (x_var (pv 5)) a_nil))))))))
  ss_nil))))
theorem sc_is_images : FnScope n_is_images ["one", "other", "value"] (defScope s_is_images) := ⟨rfl, rfl, rfl, by decide +kernel, rfl, by decide +kernel, by decide +kernel⟩
theorem o_is_images (T : Tx exs fn ts w K mg) (TC : Cls cl K) (HP : PK P "/claim/cut.py") (o_are_images : Ok (tf.map (·.1)) P w K mg "are_images" 25 f_are_images) (o_require_eights : Ok (tf.map (·.1)) P w K mg "require_eights" 3 f_require_eights) : Ok (tf.map (·.1)) P w K mg "is_images" 26 f_is_images := by
  obtain ⟨fd, F⟩ := T.fd 53 d_is_images rfl
  refine ⟨T.gl "is_images" (T.at_ 35 rfl), F.kp, fun base TB => fn_ok F sc_is_images rfl (F.bindsA fun _ _ _ _ _ _ us hl => match us, hl with | [_, _, _], _ => rfl) fun cd A out s H E hr gd => ?_⟩
  have hu := units64 hr
  have hu5 := units65 hr
  have hu3 := units50 hr
  have tk : Takes (cxOf (L2.CX P w) P w K mg base n_is_images "is_images" (defScope s_is_images) (ga K "is_images") cd A out s H E) (WF E) := takes_of rfl rfl rfl rfl
  exact (ss_cons (s_expr (x_callO o_require_eights TB gd hr (by decide) tk rfl (a_cons (x_tup (a_cons (x_var (pv 0)) (a_cons (x_var (pv 1)) a_nil))) a_nil)))
  (ss_cons (s_ret (x_callO o_are_images TB gd hr (by decide) tk rfl (a_cons (x_var (pv 0)) (a_cons (x_var (pv 1)) (a_cons (x_var (pv 2)) a_nil)))))
  ss_nil))
theorem sc_require_wanted : FnScope n_require_wanted ["value"] (defScope s_require_wanted) := ⟨rfl, rfl, rfl, by decide +kernel, rfl, by decide +kernel, by decide +kernel⟩
theorem o_require_wanted (T : Tx exs fn ts w K mg) (TC : Cls cl K) (HP : PK P "/claim/cut.py") (o_is_integer : Ok (tf.map (·.1)) P w K mg "is_integer" 3 f_is_integer) : Ok (tf.map (·.1)) P w K mg "require_wanted" 4 f_require_wanted := by
  obtain ⟨fd, F⟩ := T.fd 54 d_require_wanted rfl
  obtain ⟨t_MAX_WANTED, h_MAX_WANTED⟩ := T.it "MAX_WANTED" _ (T.at_ 72 rfl)
  have l_InvalidNumber := l_InvalidNumber T TC HP
  refine ⟨T.gl "require_wanted" (T.at_ 36 rfl), F.kp, fun base TB => fn_ok F sc_require_wanted rfl (F.bindsA fun _ _ _ _ _ _ us hl => match us, hl with | [_], _ => rfl) fun cd A out s H E hr gd => ?_⟩
  have hu := units64 hr
  have hu5 := units65 hr
  have hu3 := units50 hr
  have tk : Takes (cxOf (L2.CX P w) P w K mg base n_require_wanted "require_wanted" (defScope s_require_wanted) (ga K "require_wanted") cd A out s H E) (WF E) := takes_of rfl rfl rfl rfl
  exact (ss_cons (s_if (PW.pt (w_or (t_not (t_tru (x_callO o_is_integer TB gd hr (by decide) tk rfl (a_cons (x_var (pv 0)) a_nil)))) (w_or (t_cmp (f := oEq) (op_eq1 hu) oEq_s (x_var (pv 0)) x_int (nomark _)) (w_or1 (t_not (t_chain (f := oLe) (f' := oLe) op_le op_le oB0_s oB0_s (x_neg (x_c (pe_glob (v := .int (1000)) rfl h_MAX_WANTED ⟨_, rfl⟩) fun _ => .int)) (x_var (pv 0)) (x_c (pe_glob (v := .int (1000)) rfl h_MAX_WANTED ⟨_, rfl⟩) fun _ => .int)))))))
  (ss_cons (s_raiseL l_InvalidNumber rfl tk gd hr (by decide) rfl (x_var (pv 0)))
  ss_nil)
  ss_nil)
  ss_nil)
theorem sc_with_square : FnScope n_with_square ["algebra", "number"] (defScope s_with_square) := ⟨rfl, rfl, rfl, by decide +kernel, rfl, by decide +kernel, by decide +kernel⟩
theorem o_with_square (T : Tx exs fn ts w K mg) (TC : Cls cl K) (HP : PK P "/claim/cut.py") (hs : OkA (tf.map (·.1)) P w K mg (prA K "Doubled" "is_definite") 2 f_Doubled_is_definite ∧ Ok (tf.map (·.1)) P w K mg "element_made" 9 f_element_made ∧ Ok (tf.map (·.1)) P w K mg "led_by" 14 f_led_by ∧ Ok (tf.map (·.1)) P w K mg "require_eights" 3 f_require_eights ∧ Ok (tf.map (·.1)) P w K mg "require_small" 2 f_require_small ∧ Ok (tf.map (·.1)) P w K mg "require_wanted" 4 f_require_wanted ∧ Ok (tf.map (·.1)) P w K mg "units_by" 23 f_units_by) : Ok (tf.map (·.1)) P w K mg "with_square" 24 f_with_square := by
  obtain ⟨o_Doubled_is_definite, o_element_made, o_led_by, o_require_eights, o_require_small, o_require_wanted, o_units_by⟩ := hs
  obtain ⟨fd, F⟩ := T.fd 55 d_with_square rfl
  refine ⟨T.gl "with_square" (T.at_ 37 rfl), F.kp, fun base TB => fn_ok F sc_with_square rfl (F.bindsA fun _ _ _ _ _ _ us hl => match us, hl with | [_, _], _ => rfl) fun cd A out s H E hr gd => ?_⟩
  have hu := units64 hr
  have hu5 := units65 hr
  have hu3 := units50 hr
  have tk : Takes (cxOf (L2.CX P w) P w K mg base n_with_square "with_square" (defScope s_with_square) (ga K "with_square") cd A out s H E) (WF E) := takes_of rfl rfl rfl rfl
  exact (ss_cons (s_expr (x_callO o_require_eights TB gd hr (by decide) tk rfl (a_cons (x_tup (a_cons (x_var (pv 0)) a_nil)) a_nil)))
  (ss_cons (s_expr (x_callO o_require_wanted TB gd hr (by decide) tk rfl (a_cons (x_var (pv 1)) a_nil)))
  (ss_cons (s_expr (x_callO o_require_small TB gd hr (by decide) tk rfl (a_cons (x_tup (a_cons (x_var (pv 0)) a_nil)) a_nil)))
  (ss_cons (s_if (PW.pt (w_and (t_tru (x_attr (k := 2) (slF_of (T.at_ 83 rfl)) (prF_cons ((clsB_s (T.at_ 95 rfl)).1) (T.at_ 96 rfl) o_Doubled_is_definite (by decide) prF_nil) TB gd hr (by decide) (x_var (pv 0)))) (w_and1 (t_cmp (f := oGt) op_gt oB0_s (x_var (pv 1)) x_int (nomark _)))))
  (ss_cons (s_ret x_non)
  ss_nil)
  ss_nil)
  (ss_cons (s_asg x_never (g_sq rfl (gs_cons (g_name (i := 2) sc_with_square.nd rfl (by first | exact Or.inl rfl | exact Or.inr rfl)) (gs_cons (g_name (i := 3) sc_with_square.nd rfl (by first | exact Or.inl rfl | exact Or.inr rfl)) gs_nil))))
  (ss_cons (s_ret (x_callO o_led_by TB gd hr (by decide) tk rfl (a_cons (x_callO o_units_by TB gd hr (by decide) tk rfl (a_cons x_never a_nil)) (a_cons (x_callO o_element_made TB gd hr (by decide) tk rfl (a_cons x_never (a_cons (x_var (pv 2)) (a_cons (x_var (pv 3)) a_nil)))) a_nil))))
  ss_nil))))))
theorem sc_is_with_square : FnScope n_is_with_square ["algebra", "number", "value"] (defScope s_is_with_square) := ⟨rfl, rfl, rfl, by decide +kernel, rfl, by decide +kernel, by decide +kernel⟩
theorem o_is_with_square (T : Tx exs fn ts w K mg) (TC : Cls cl K) (HP : PK P "/claim/cut.py") (o_is_element_of : Ok (tf.map (·.1)) P w K mg "is_element_of" 5 f_is_element_of) (o_is_worth : Ok (tf.map (·.1)) P w K mg "is_worth" 4 f_is_worth) (o_require_eights : Ok (tf.map (·.1)) P w K mg "require_eights" 3 f_require_eights) (o_require_wanted : Ok (tf.map (·.1)) P w K mg "require_wanted" 4 f_require_wanted) : Ok (tf.map (·.1)) P w K mg "is_with_square" 6 f_is_with_square := by
  obtain ⟨fd, F⟩ := T.fd 56 d_is_with_square rfl
  refine ⟨T.gl "is_with_square" (T.at_ 38 rfl), F.kp, fun base TB => fn_ok F sc_is_with_square rfl (F.bindsA fun _ _ _ _ _ _ us hl => match us, hl with | [_, _, _], _ => rfl) fun cd A out s H E hr gd => ?_⟩
  have hu := units64 hr
  have hu5 := units65 hr
  have hu3 := units50 hr
  have tk : Takes (cxOf (L2.CX P w) P w K mg base n_is_with_square "is_with_square" (defScope s_is_with_square) (ga K "is_with_square") cd A out s H E) (WF E) := takes_of rfl rfl rfl rfl
  exact (ss_cons (s_expr (x_callO o_require_eights TB gd hr (by decide) tk rfl (a_cons (x_tup (a_cons (x_var (pv 0)) a_nil)) a_nil)))
  (ss_cons (s_expr (x_callO o_require_wanted TB gd hr (by decide) tk rfl (a_cons (x_var (pv 1)) a_nil)))
  (ss_cons (s_ret (x_and (x_callO o_is_element_of TB gd hr (by decide) tk rfl (a_cons (x_var (pv 0)) (a_cons (x_var (pv 2)) a_nil))) (x_and (x_eq hu (x_ix (x_attr (k := 0) (slF_of (T.at_ 83 rfl)) prF_nil TB gd hr (by decide) (x_var (pv 2))) x_int) x_int) (x_one (x_callO o_is_worth TB gd hr (by decide) tk rfl (a_cons (x_mul (x_var (pv 2)) (x_var (pv 2))) (a_cons (x_var (pv 1)) a_nil)))))))
  ss_nil)))
theorem sc_law_algebras_right : FnScope n_law_algebras_right ["_law_trough_here", "_law_eight", "_law_none"] (defScope s_law_algebras_right) := ⟨rfl, rfl, rfl, by decide +kernel, rfl, by decide +kernel, by decide +kernel⟩
theorem o_law_algebras_right (T : Tx exs fn ts w K mg) (TC : Cls cl K) (HP : PK P "/claim/cut.py") (hs : OkA (tf.map (·.1)) P w K mg (He.ma K (ga K "Doubled") "__init__") 5 f_Doubled___init__ ∧ Ok (tf.map (·.1)) P w K mg "_law_one_of" 3 f_law_one_of ∧ Ok (tf.map (·.1)) P w K mg "are_alike" 4 f_are_alike ∧ Ok (tf.map (·.1)) P w K mg "images" 25 f_images ∧ Ok (tf.map (·.1)) P w K mg "is_images" 26 f_is_images ∧ Ok (tf.map (·.1)) P w K mg "is_with_square" 6 f_is_with_square ∧ Ok (tf.map (·.1)) P w K mg "with_square" 24 f_with_square) : Ok (tf.map (·.1)) P w K mg "_law_algebras_right" 29 f_law_algebras_right := by
  obtain ⟨o_Doubled___init__, o_law_one_of, o_are_alike, o_images, o_is_images, o_is_with_square, o_with_square⟩ := hs
  obtain ⟨fd, F⟩ := T.fd 57 d_law_algebras_right rfl
  obtain ⟨fd_law_word, F_law_word⟩ := T.fd 27 d_law_word rfl
  refine ⟨T.gl "_law_algebras_right" (T.at_ 39 rfl), F.kp, fun base TB => fn_okC (pd := ("_law_algebras_right", none)) rfl F sc_law_algebras_right rfl (F.bindsA fun _ _ _ _ _ _ us hl => match us, hl with | [_, _, _], _ => rfl) fun A out s H E hr gd => ?_⟩
  have hu := units64 hr
  have hu5 := units65 hr
  have hu3 := units50 hr
  have tk : Takes (cxOf (L2.CX P w) P w K mg base n_law_algebras_right "_law_algebras_right" (defScope s_law_algebras_right) (ga K "_law_algebras_right") (.ref (He.cT K ("_law_algebras_right", none)).1) A out s H E) (WF E) := takes_of rfl rfl rfl rfl
  exact (ss_cons (s_asg (x_tup (a_cons (x_make (He.mkr_ok (T.at_ 109 rfl)) o_Doubled___init__ TB gd hr (by decide) tk rfl (T.gl "Doubled" (T.at_ 50 rfl)) (a_cons (x_tup (a_cons (x_neg x_int) (a_cons (x_callO o_law_one_of TB gd hr (by decide) tk rfl (a_cons (x_var (pv 0)) (a_cons (x_lst (a_cons x_int (a_cons (x_neg x_int) (a_cons (x_pow x_int x_int) a_nil)))) a_nil))) (a_cons (x_neg x_int) a_nil)))) a_nil)) (a_cons (x_callO o_law_one_of TB gd hr (by decide) tk rfl (a_cons (x_var (pv 0)) (a_cons (x_lst (a_cons x_int (a_cons x_int (a_cons (x_neg x_int) (a_cons x_non (a_cons x_bl (a_cons x_str (a_cons (x_pow x_int x_int) a_nil)))))))) a_nil))) a_nil))) (g_sq rfl (gs_cons (g_name (i := 5) sc_law_algebras_right.nd rfl (by first | exact Or.inl rfl | exact Or.inr rfl)) (gs_cons (g_name (i := 6) sc_law_algebras_right.nd rfl (by first | exact Or.inl rfl | exact Or.inr rfl)) gs_nil))))
  (ss_cons (s_set (i := 3) sc_law_algebras_right.nd rfl (by first | exact Or.inl rfl | exact Or.inr rfl) (x_lstM (a_cons (x_told (k := 4) (j := 0) (pd := ("_law_algebras_right", none)) (cs := cs_law_word) (by kernel_rfl) (by rfl) (by rfl) (T.gl "_law_word" (T.at_ 17 rfl)) F_law_word (F_law_word.bindsA fun _ _ _ _ _ _ us hl => match us, hl with | [_], _ => rfl) sc_law_word (by rfl) (by first | exact Or.inl rfl | exact Or.inr rfl) (fun _ => by rfl) (fun _ _ _ _ _ => by rfl) (fun _ _ _ => by exact (.only ⟨rfl, rfl, .inl (T.gl "InvalidAlgebra" (T.at_ 74 rfl))⟩ (exTab_of (T.at_ 110 rfl)) (.only ⟨rfl, rfl, .inl (T.gl "InvalidElement" (T.at_ 75 rfl))⟩ (exTab_of (T.at_ 111 rfl)) (.only ⟨rfl, rfl, .inl (T.gl "InvalidOperation" (T.at_ 76 rfl))⟩ (exTab_of (T.at_ 112 rfl)) (.named ⟨rfl, rfl, .inl (T.gl "InvalidNumber" (T.at_ 77 rfl))⟩ (exTab_of (T.at_ 113 rfl)) rfl rfl (by first | exact Or.inl rfl | exact Or.inr rfl) (.pre rfl rfl (T.fr "repr" (T.at_ 64 rfl)) rfl) (xfF_1 (T.at_ 114 rfl)) (xfF_2 (T.at_ 114 rfl)) (by decide) (by decide) (.named ⟨rfl, rfl, .inl (T.gl "TooMany" (T.at_ 78 rfl))⟩ (exTab_of (T.at_ 115 rfl)) rfl rfl (by first | exact Or.inl rfl | exact Or.inr rfl) (.pre rfl rfl (T.fr "repr" (T.at_ 64 rfl)) rfl) (xfF_1 (T.at_ 116 rfl)) (xfF_2 (T.at_ 116 rfl)) (by decide) (by decide) .nil)))))) (TB _ (.head _)) (by rfl) hr (by decide) gd (LamX.lamS_by (by kernel_rfl)) (by rfl) (fun _ _ _ _ _ => by rfl) (fun A outer s H E f c' gd hr => by
    have hu := units64 hr
    have hu5 := units65 hr
    have hu3 := units50 hr
    exact (x_callO o_are_alike TB gd hr (by decide) lam_tk rfl (a_cons (x_var (pv 2)) (a_cons (x_var (pv 2)) a_nil))))) a_nil)))
  (ss_cons (s_expr (x_append (x_var (pv 3)) (x_told (k := 4) (j := 0) (pd := ("_law_algebras_right", none)) (cs := cs_law_word) (by kernel_rfl) (by rfl) (by rfl) (T.gl "_law_word" (T.at_ 17 rfl)) F_law_word (F_law_word.bindsA fun _ _ _ _ _ _ us hl => match us, hl with | [_], _ => rfl) sc_law_word (by rfl) (by first | exact Or.inl rfl | exact Or.inr rfl) (fun _ => by rfl) (fun _ _ _ _ _ => by rfl) (fun _ _ _ => by exact (.only ⟨rfl, rfl, .inl (T.gl "InvalidAlgebra" (T.at_ 74 rfl))⟩ (exTab_of (T.at_ 110 rfl)) (.only ⟨rfl, rfl, .inl (T.gl "InvalidElement" (T.at_ 75 rfl))⟩ (exTab_of (T.at_ 111 rfl)) (.only ⟨rfl, rfl, .inl (T.gl "InvalidOperation" (T.at_ 76 rfl))⟩ (exTab_of (T.at_ 112 rfl)) (.named ⟨rfl, rfl, .inl (T.gl "InvalidNumber" (T.at_ 77 rfl))⟩ (exTab_of (T.at_ 113 rfl)) rfl rfl (by first | exact Or.inl rfl | exact Or.inr rfl) (.pre rfl rfl (T.fr "repr" (T.at_ 64 rfl)) rfl) (xfF_1 (T.at_ 114 rfl)) (xfF_2 (T.at_ 114 rfl)) (by decide) (by decide) (.named ⟨rfl, rfl, .inl (T.gl "TooMany" (T.at_ 78 rfl))⟩ (exTab_of (T.at_ 115 rfl)) rfl rfl (by first | exact Or.inl rfl | exact Or.inr rfl) (.pre rfl rfl (T.fr "repr" (T.at_ 64 rfl)) rfl) (xfF_1 (T.at_ 116 rfl)) (xfF_2 (T.at_ 116 rfl)) (by decide) (by decide) .nil)))))) (TB _ (.head _)) (by rfl) hr (by decide) gd (LamX.lamS_by (by kernel_rfl)) (by rfl) (fun _ _ _ _ _ => by rfl) (fun A outer s H E f c' gd hr => by
    have hu := units64 hr
    have hu5 := units65 hr
    have hu3 := units50 hr
    exact (x_callO o_are_alike TB gd hr (by decide) lam_tk rfl (a_cons (x_var (pv 1)) (a_cons (x_var (pv 2)) a_nil)))))))
  (ss_cons (s_expr (x_append (x_var (pv 3)) (x_told (k := 25) (j := 0) (pd := ("_law_algebras_right", none)) (cs := cs_law_word) (by kernel_rfl) (by rfl) (by rfl) (T.gl "_law_word" (T.at_ 17 rfl)) F_law_word (F_law_word.bindsA fun _ _ _ _ _ _ us hl => match us, hl with | [_], _ => rfl) sc_law_word (by rfl) (by first | exact Or.inl rfl | exact Or.inr rfl) (fun _ => by rfl) (fun _ _ _ _ _ => by rfl) (fun _ _ _ => by exact (.only ⟨rfl, rfl, .inl (T.gl "InvalidAlgebra" (T.at_ 74 rfl))⟩ (exTab_of (T.at_ 110 rfl)) (.only ⟨rfl, rfl, .inl (T.gl "InvalidElement" (T.at_ 75 rfl))⟩ (exTab_of (T.at_ 111 rfl)) (.only ⟨rfl, rfl, .inl (T.gl "InvalidOperation" (T.at_ 76 rfl))⟩ (exTab_of (T.at_ 112 rfl)) (.named ⟨rfl, rfl, .inl (T.gl "InvalidNumber" (T.at_ 77 rfl))⟩ (exTab_of (T.at_ 113 rfl)) rfl rfl (by first | exact Or.inl rfl | exact Or.inr rfl) (.pre rfl rfl (T.fr "repr" (T.at_ 64 rfl)) rfl) (xfF_1 (T.at_ 114 rfl)) (xfF_2 (T.at_ 114 rfl)) (by decide) (by decide) (.named ⟨rfl, rfl, .inl (T.gl "TooMany" (T.at_ 78 rfl))⟩ (exTab_of (T.at_ 115 rfl)) rfl rfl (by first | exact Or.inl rfl | exact Or.inr rfl) (.pre rfl rfl (T.fr "repr" (T.at_ 64 rfl)) rfl) (xfF_1 (T.at_ 116 rfl)) (xfF_2 (T.at_ 116 rfl)) (by decide) (by decide) .nil)))))) (TB _ (.head _)) (by rfl) hr (by decide) gd (LamX.lamS_by (by kernel_rfl)) (by rfl) (fun _ _ _ _ _ => by rfl) (fun A outer s H E f c' gd hr => by
    have hu := units64 hr
    have hu5 := units65 hr
    have hu3 := units50 hr
    exact (x_callO o_images TB gd hr (by decide) lam_tk rfl (a_cons (x_var (pv 2)) (a_cons (x_var (pv 5)) a_nil)))))))
  (ss_cons (s_expr (x_append (x_var (pv 3)) (x_told (k := 25) (j := 0) (pd := ("_law_algebras_right", none)) (cs := cs_law_word) (by kernel_rfl) (by rfl) (by rfl) (T.gl "_law_word" (T.at_ 17 rfl)) F_law_word (F_law_word.bindsA fun _ _ _ _ _ _ us hl => match us, hl with | [_], _ => rfl) sc_law_word (by rfl) (by first | exact Or.inl rfl | exact Or.inr rfl) (fun _ => by rfl) (fun _ _ _ _ _ => by rfl) (fun _ _ _ => by exact (.only ⟨rfl, rfl, .inl (T.gl "InvalidAlgebra" (T.at_ 74 rfl))⟩ (exTab_of (T.at_ 110 rfl)) (.only ⟨rfl, rfl, .inl (T.gl "InvalidElement" (T.at_ 75 rfl))⟩ (exTab_of (T.at_ 111 rfl)) (.only ⟨rfl, rfl, .inl (T.gl "InvalidOperation" (T.at_ 76 rfl))⟩ (exTab_of (T.at_ 112 rfl)) (.named ⟨rfl, rfl, .inl (T.gl "InvalidNumber" (T.at_ 77 rfl))⟩ (exTab_of (T.at_ 113 rfl)) rfl rfl (by first | exact Or.inl rfl | exact Or.inr rfl) (.pre rfl rfl (T.fr "repr" (T.at_ 64 rfl)) rfl) (xfF_1 (T.at_ 114 rfl)) (xfF_2 (T.at_ 114 rfl)) (by decide) (by decide) (.named ⟨rfl, rfl, .inl (T.gl "TooMany" (T.at_ 78 rfl))⟩ (exTab_of (T.at_ 115 rfl)) rfl rfl (by first | exact Or.inl rfl | exact Or.inr rfl) (.pre rfl rfl (T.fr "repr" (T.at_ 64 rfl)) rfl) (xfF_1 (T.at_ 116 rfl)) (xfF_2 (T.at_ 116 rfl)) (by decide) (by decide) .nil)))))) (TB _ (.head _)) (by rfl) hr (by decide) gd (LamX.lamS_by (by kernel_rfl)) (by rfl) (fun _ _ _ _ _ => by rfl) (fun A outer s H E f c' gd hr => by
    have hu := units64 hr
    have hu5 := units65 hr
    have hu3 := units50 hr
    exact (x_callO o_images TB gd hr (by decide) lam_tk rfl (a_cons (x_var (pv 5)) (a_cons (x_var (pv 2)) a_nil)))))))
  (ss_cons (s_expr (x_append (x_var (pv 3)) (x_told (k := 25) (j := 0) (pd := ("_law_algebras_right", none)) (cs := cs_law_word) (by kernel_rfl) (by rfl) (by rfl) (T.gl "_law_word" (T.at_ 17 rfl)) F_law_word (F_law_word.bindsA fun _ _ _ _ _ _ us hl => match us, hl with | [_], _ => rfl) sc_law_word (by rfl) (by first | exact Or.inl rfl | exact Or.inr rfl) (fun _ => by rfl) (fun _ _ _ _ _ => by rfl) (fun _ _ _ => by exact (.only ⟨rfl, rfl, .inl (T.gl "InvalidAlgebra" (T.at_ 74 rfl))⟩ (exTab_of (T.at_ 110 rfl)) (.only ⟨rfl, rfl, .inl (T.gl "InvalidElement" (T.at_ 75 rfl))⟩ (exTab_of (T.at_ 111 rfl)) (.only ⟨rfl, rfl, .inl (T.gl "InvalidOperation" (T.at_ 76 rfl))⟩ (exTab_of (T.at_ 112 rfl)) (.named ⟨rfl, rfl, .inl (T.gl "InvalidNumber" (T.at_ 77 rfl))⟩ (exTab_of (T.at_ 113 rfl)) rfl rfl (by first | exact Or.inl rfl | exact Or.inr rfl) (.pre rfl rfl (T.fr "repr" (T.at_ 64 rfl)) rfl) (xfF_1 (T.at_ 114 rfl)) (xfF_2 (T.at_ 114 rfl)) (by decide) (by decide) (.named ⟨rfl, rfl, .inl (T.gl "TooMany" (T.at_ 78 rfl))⟩ (exTab_of (T.at_ 115 rfl)) rfl rfl (by first | exact Or.inl rfl | exact Or.inr rfl) (.pre rfl rfl (T.fr "repr" (T.at_ 64 rfl)) rfl) (xfF_1 (T.at_ 116 rfl)) (xfF_2 (T.at_ 116 rfl)) (by decide) (by decide) .nil)))))) (TB _ (.head _)) (by rfl) hr (by decide) gd (LamX.lamS_by (by kernel_rfl)) (by rfl) (fun _ _ _ _ _ => by rfl) (fun A outer s H E f c' gd hr => by
    have hu := units64 hr
    have hu5 := units65 hr
    have hu3 := units50 hr
    exact (x_callO o_images TB gd hr (by decide) lam_tk rfl (a_cons (x_var (pv 5)) (a_cons (x_var (pv 1)) a_nil)))))))
  (ss_cons (s_expr (x_append (x_var (pv 3)) (x_told (k := 25) (j := 0) (pd := ("_law_algebras_right", none)) (cs := cs_law_word) (by kernel_rfl) (by rfl) (by rfl) (T.gl "_law_word" (T.at_ 17 rfl)) F_law_word (F_law_word.bindsA fun _ _ _ _ _ _ us hl => match us, hl with | [_], _ => rfl) sc_law_word (by rfl) (by first | exact Or.inl rfl | exact Or.inr rfl) (fun _ => by rfl) (fun _ _ _ _ _ => by rfl) (fun _ _ _ => by exact (.only ⟨rfl, rfl, .inl (T.gl "InvalidAlgebra" (T.at_ 74 rfl))⟩ (exTab_of (T.at_ 110 rfl)) (.only ⟨rfl, rfl, .inl (T.gl "InvalidElement" (T.at_ 75 rfl))⟩ (exTab_of (T.at_ 111 rfl)) (.only ⟨rfl, rfl, .inl (T.gl "InvalidOperation" (T.at_ 76 rfl))⟩ (exTab_of (T.at_ 112 rfl)) (.named ⟨rfl, rfl, .inl (T.gl "InvalidNumber" (T.at_ 77 rfl))⟩ (exTab_of (T.at_ 113 rfl)) rfl rfl (by first | exact Or.inl rfl | exact Or.inr rfl) (.pre rfl rfl (T.fr "repr" (T.at_ 64 rfl)) rfl) (xfF_1 (T.at_ 114 rfl)) (xfF_2 (T.at_ 114 rfl)) (by decide) (by decide) (.named ⟨rfl, rfl, .inl (T.gl "TooMany" (T.at_ 78 rfl))⟩ (exTab_of (T.at_ 115 rfl)) rfl rfl (by first | exact Or.inl rfl | exact Or.inr rfl) (.pre rfl rfl (T.fr "repr" (T.at_ 64 rfl)) rfl) (xfF_1 (T.at_ 116 rfl)) (xfF_2 (T.at_ 116 rfl)) (by decide) (by decide) .nil)))))) (TB _ (.head _)) (by rfl) hr (by decide) gd (LamX.lamS_by (by kernel_rfl)) (by rfl) (fun _ _ _ _ _ => by rfl) (fun A outer s H E f c' gd hr => by
    have hu := units64 hr
    have hu5 := units65 hr
    have hu3 := units50 hr
    exact (x_callO o_images TB gd hr (by decide) lam_tk rfl (a_cons (x_var (pv 1)) (a_cons (x_var (pv 5)) a_nil)))))))
  (ss_cons (s_expr (x_append (x_var (pv 3)) (x_told (k := 4) (j := 0) (pd := ("_law_algebras_right", none)) (cs := cs_law_word) (by kernel_rfl) (by rfl) (by rfl) (T.gl "_law_word" (T.at_ 17 rfl)) F_law_word (F_law_word.bindsA fun _ _ _ _ _ _ us hl => match us, hl with | [_], _ => rfl) sc_law_word (by rfl) (by first | exact Or.inl rfl | exact Or.inr rfl) (fun _ => by rfl) (fun _ _ _ _ _ => by rfl) (fun _ _ _ => by exact (.only ⟨rfl, rfl, .inl (T.gl "InvalidAlgebra" (T.at_ 74 rfl))⟩ (exTab_of (T.at_ 110 rfl)) (.only ⟨rfl, rfl, .inl (T.gl "InvalidElement" (T.at_ 75 rfl))⟩ (exTab_of (T.at_ 111 rfl)) (.only ⟨rfl, rfl, .inl (T.gl "InvalidOperation" (T.at_ 76 rfl))⟩ (exTab_of (T.at_ 112 rfl)) (.named ⟨rfl, rfl, .inl (T.gl "InvalidNumber" (T.at_ 77 rfl))⟩ (exTab_of (T.at_ 113 rfl)) rfl rfl (by first | exact Or.inl rfl | exact Or.inr rfl) (.pre rfl rfl (T.fr "repr" (T.at_ 64 rfl)) rfl) (xfF_1 (T.at_ 114 rfl)) (xfF_2 (T.at_ 114 rfl)) (by decide) (by decide) (.named ⟨rfl, rfl, .inl (T.gl "TooMany" (T.at_ 78 rfl))⟩ (exTab_of (T.at_ 115 rfl)) rfl rfl (by first | exact Or.inl rfl | exact Or.inr rfl) (.pre rfl rfl (T.fr "repr" (T.at_ 64 rfl)) rfl) (xfF_1 (T.at_ 116 rfl)) (xfF_2 (T.at_ 116 rfl)) (by decide) (by decide) .nil)))))) (TB _ (.head _)) (by rfl) hr (by decide) gd (LamX.lamS_by (by kernel_rfl)) (by rfl) (fun _ _ _ _ _ => by rfl) (fun A outer s H E f c' gd hr => by
    have hu := units64 hr
    have hu5 := units65 hr
    have hu3 := units50 hr
    exact (x_callO o_are_alike TB gd hr (by decide) lam_tk rfl (a_cons (x_var (pv 5)) (a_cons (x_var (pv 1)) a_nil)))))))
  (ss_cons (s_expr (x_append (x_var (pv 3)) (x_told (k := 26) (j := 0) (pd := ("_law_algebras_right", none)) (cs := cs_law_word) (by kernel_rfl) (by rfl) (by rfl) (T.gl "_law_word" (T.at_ 17 rfl)) F_law_word (F_law_word.bindsA fun _ _ _ _ _ _ us hl => match us, hl with | [_], _ => rfl) sc_law_word (by rfl) (by first | exact Or.inl rfl | exact Or.inr rfl) (fun _ => by rfl) (fun _ _ _ _ _ => by rfl) (fun _ _ _ => by exact (.only ⟨rfl, rfl, .inl (T.gl "InvalidAlgebra" (T.at_ 74 rfl))⟩ (exTab_of (T.at_ 110 rfl)) (.only ⟨rfl, rfl, .inl (T.gl "InvalidElement" (T.at_ 75 rfl))⟩ (exTab_of (T.at_ 111 rfl)) (.only ⟨rfl, rfl, .inl (T.gl "InvalidOperation" (T.at_ 76 rfl))⟩ (exTab_of (T.at_ 112 rfl)) (.named ⟨rfl, rfl, .inl (T.gl "InvalidNumber" (T.at_ 77 rfl))⟩ (exTab_of (T.at_ 113 rfl)) rfl rfl (by first | exact Or.inl rfl | exact Or.inr rfl) (.pre rfl rfl (T.fr "repr" (T.at_ 64 rfl)) rfl) (xfF_1 (T.at_ 114 rfl)) (xfF_2 (T.at_ 114 rfl)) (by decide) (by decide) (.named ⟨rfl, rfl, .inl (T.gl "TooMany" (T.at_ 78 rfl))⟩ (exTab_of (T.at_ 115 rfl)) rfl rfl (by first | exact Or.inl rfl | exact Or.inr rfl) (.pre rfl rfl (T.fr "repr" (T.at_ 64 rfl)) rfl) (xfF_1 (T.at_ 116 rfl)) (xfF_2 (T.at_ 116 rfl)) (by decide) (by decide) .nil)))))) (TB _ (.head _)) (by rfl) hr (by decide) gd (LamX.lamS_by (by kernel_rfl)) (by rfl) (fun _ _ _ _ _ => by rfl) (fun A outer s H E f c' gd hr => by
    have hu := units64 hr
    have hu5 := units65 hr
    have hu3 := units50 hr
    exact (x_callO o_is_images TB gd hr (by decide) lam_tk rfl (a_cons (x_var (pv 2)) (a_cons (x_var (pv 1)) (a_cons x_non a_nil))))))))
  (ss_cons (s_expr (x_append (x_var (pv 3)) (x_told (k := 26) (j := 0) (pd := ("_law_algebras_right", none)) (cs := cs_law_word) (by kernel_rfl) (by rfl) (by rfl) (T.gl "_law_word" (T.at_ 17 rfl)) F_law_word (F_law_word.bindsA fun _ _ _ _ _ _ us hl => match us, hl with | [_], _ => rfl) sc_law_word (by rfl) (by first | exact Or.inl rfl | exact Or.inr rfl) (fun _ => by rfl) (fun _ _ _ _ _ => by rfl) (fun _ _ _ => by exact (.only ⟨rfl, rfl, .inl (T.gl "InvalidAlgebra" (T.at_ 74 rfl))⟩ (exTab_of (T.at_ 110 rfl)) (.only ⟨rfl, rfl, .inl (T.gl "InvalidElement" (T.at_ 75 rfl))⟩ (exTab_of (T.at_ 111 rfl)) (.only ⟨rfl, rfl, .inl (T.gl "InvalidOperation" (T.at_ 76 rfl))⟩ (exTab_of (T.at_ 112 rfl)) (.named ⟨rfl, rfl, .inl (T.gl "InvalidNumber" (T.at_ 77 rfl))⟩ (exTab_of (T.at_ 113 rfl)) rfl rfl (by first | exact Or.inl rfl | exact Or.inr rfl) (.pre rfl rfl (T.fr "repr" (T.at_ 64 rfl)) rfl) (xfF_1 (T.at_ 114 rfl)) (xfF_2 (T.at_ 114 rfl)) (by decide) (by decide) (.named ⟨rfl, rfl, .inl (T.gl "TooMany" (T.at_ 78 rfl))⟩ (exTab_of (T.at_ 115 rfl)) rfl rfl (by first | exact Or.inl rfl | exact Or.inr rfl) (.pre rfl rfl (T.fr "repr" (T.at_ 64 rfl)) rfl) (xfF_1 (T.at_ 116 rfl)) (xfF_2 (T.at_ 116 rfl)) (by decide) (by decide) .nil)))))) (TB _ (.head _)) (by rfl) hr (by decide) gd (LamX.lamS_by (by kernel_rfl)) (by rfl) (fun _ _ _ _ _ => by rfl) (fun A outer s H E f c' gd hr => by
    have hu := units64 hr
    have hu5 := units65 hr
    have hu3 := units50 hr
    exact (x_callO o_is_images TB gd hr (by decide) lam_tk rfl (a_cons (x_var (pv 5)) (a_cons (x_var (pv 2)) (a_cons x_non a_nil))))))))
  (ss_cons (s_expr (x_append (x_var (pv 3)) (x_told (k := 26) (j := 0) (pd := ("_law_algebras_right", none)) (cs := cs_law_word) (by kernel_rfl) (by rfl) (by rfl) (T.gl "_law_word" (T.at_ 17 rfl)) F_law_word (F_law_word.bindsA fun _ _ _ _ _ _ us hl => match us, hl with | [_], _ => rfl) sc_law_word (by rfl) (by first | exact Or.inl rfl | exact Or.inr rfl) (fun _ => by rfl) (fun _ _ _ _ _ => by rfl) (fun _ _ _ => by exact (.only ⟨rfl, rfl, .inl (T.gl "InvalidAlgebra" (T.at_ 74 rfl))⟩ (exTab_of (T.at_ 110 rfl)) (.only ⟨rfl, rfl, .inl (T.gl "InvalidElement" (T.at_ 75 rfl))⟩ (exTab_of (T.at_ 111 rfl)) (.only ⟨rfl, rfl, .inl (T.gl "InvalidOperation" (T.at_ 76 rfl))⟩ (exTab_of (T.at_ 112 rfl)) (.named ⟨rfl, rfl, .inl (T.gl "InvalidNumber" (T.at_ 77 rfl))⟩ (exTab_of (T.at_ 113 rfl)) rfl rfl (by first | exact Or.inl rfl | exact Or.inr rfl) (.pre rfl rfl (T.fr "repr" (T.at_ 64 rfl)) rfl) (xfF_1 (T.at_ 114 rfl)) (xfF_2 (T.at_ 114 rfl)) (by decide) (by decide) (.named ⟨rfl, rfl, .inl (T.gl "TooMany" (T.at_ 78 rfl))⟩ (exTab_of (T.at_ 115 rfl)) rfl rfl (by first | exact Or.inl rfl | exact Or.inr rfl) (.pre rfl rfl (T.fr "repr" (T.at_ 64 rfl)) rfl) (xfF_1 (T.at_ 116 rfl)) (xfF_2 (T.at_ 116 rfl)) (by decide) (by decide) .nil)))))) (TB _ (.head _)) (by rfl) hr (by decide) gd (LamX.lamS_by (by kernel_rfl)) (by rfl) (fun _ _ _ _ _ => by rfl) (fun A outer s H E f c' gd hr => by
    have hu := units64 hr
    have hu5 := units65 hr
    have hu3 := units50 hr
    exact (x_callO o_is_images TB gd hr (by decide) lam_tk rfl (a_cons (x_var (pv 5)) (a_cons (x_var (pv 1)) (a_cons x_non a_nil))))))))
  (ss_cons (s_expr (x_append (x_var (pv 3)) (x_told (k := 24) (j := 0) (pd := ("_law_algebras_right", none)) (cs := cs_law_word) (by kernel_rfl) (by rfl) (by rfl) (T.gl "_law_word" (T.at_ 17 rfl)) F_law_word (F_law_word.bindsA fun _ _ _ _ _ _ us hl => match us, hl with | [_], _ => rfl) sc_law_word (by rfl) (by first | exact Or.inl rfl | exact Or.inr rfl) (fun _ => by rfl) (fun _ _ _ _ _ => by rfl) (fun _ _ _ => by exact (.only ⟨rfl, rfl, .inl (T.gl "InvalidAlgebra" (T.at_ 74 rfl))⟩ (exTab_of (T.at_ 110 rfl)) (.only ⟨rfl, rfl, .inl (T.gl "InvalidElement" (T.at_ 75 rfl))⟩ (exTab_of (T.at_ 111 rfl)) (.only ⟨rfl, rfl, .inl (T.gl "InvalidOperation" (T.at_ 76 rfl))⟩ (exTab_of (T.at_ 112 rfl)) (.named ⟨rfl, rfl, .inl (T.gl "InvalidNumber" (T.at_ 77 rfl))⟩ (exTab_of (T.at_ 113 rfl)) rfl rfl (by first | exact Or.inl rfl | exact Or.inr rfl) (.pre rfl rfl (T.fr "repr" (T.at_ 64 rfl)) rfl) (xfF_1 (T.at_ 114 rfl)) (xfF_2 (T.at_ 114 rfl)) (by decide) (by decide) (.named ⟨rfl, rfl, .inl (T.gl "TooMany" (T.at_ 78 rfl))⟩ (exTab_of (T.at_ 115 rfl)) rfl rfl (by first | exact Or.inl rfl | exact Or.inr rfl) (.pre rfl rfl (T.fr "repr" (T.at_ 64 rfl)) rfl) (xfF_1 (T.at_ 116 rfl)) (xfF_2 (T.at_ 116 rfl)) (by decide) (by decide) .nil)))))) (TB _ (.head _)) (by rfl) hr (by decide) gd (LamX.lamS_by (by kernel_rfl)) (by rfl) (fun _ _ _ _ _ => by rfl) (fun A outer s H E f c' gd hr => by
    have hu := units64 hr
    have hu5 := units65 hr
    have hu3 := units50 hr
    exact (x_callO o_with_square TB gd hr (by decide) lam_tk rfl (a_cons (x_var (pv 2)) (a_cons (x_var (pv 6)) a_nil)))))))
  (ss_cons (s_expr (x_append (x_var (pv 3)) (x_told (k := 24) (j := 0) (pd := ("_law_algebras_right", none)) (cs := cs_law_word) (by kernel_rfl) (by rfl) (by rfl) (T.gl "_law_word" (T.at_ 17 rfl)) F_law_word (F_law_word.bindsA fun _ _ _ _ _ _ us hl => match us, hl with | [_], _ => rfl) sc_law_word (by rfl) (by first | exact Or.inl rfl | exact Or.inr rfl) (fun _ => by rfl) (fun _ _ _ _ _ => by rfl) (fun _ _ _ => by exact (.only ⟨rfl, rfl, .inl (T.gl "InvalidAlgebra" (T.at_ 74 rfl))⟩ (exTab_of (T.at_ 110 rfl)) (.only ⟨rfl, rfl, .inl (T.gl "InvalidElement" (T.at_ 75 rfl))⟩ (exTab_of (T.at_ 111 rfl)) (.only ⟨rfl, rfl, .inl (T.gl "InvalidOperation" (T.at_ 76 rfl))⟩ (exTab_of (T.at_ 112 rfl)) (.named ⟨rfl, rfl, .inl (T.gl "InvalidNumber" (T.at_ 77 rfl))⟩ (exTab_of (T.at_ 113 rfl)) rfl rfl (by first | exact Or.inl rfl | exact Or.inr rfl) (.pre rfl rfl (T.fr "repr" (T.at_ 64 rfl)) rfl) (xfF_1 (T.at_ 114 rfl)) (xfF_2 (T.at_ 114 rfl)) (by decide) (by decide) (.named ⟨rfl, rfl, .inl (T.gl "TooMany" (T.at_ 78 rfl))⟩ (exTab_of (T.at_ 115 rfl)) rfl rfl (by first | exact Or.inl rfl | exact Or.inr rfl) (.pre rfl rfl (T.fr "repr" (T.at_ 64 rfl)) rfl) (xfF_1 (T.at_ 116 rfl)) (xfF_2 (T.at_ 116 rfl)) (by decide) (by decide) .nil)))))) (TB _ (.head _)) (by rfl) hr (by decide) gd (LamX.lamS_by (by kernel_rfl)) (by rfl) (fun _ _ _ _ _ => by rfl) (fun A outer s H E f c' gd hr => by
    have hu := units64 hr
    have hu5 := units65 hr
    have hu3 := units50 hr
    exact (x_callO o_with_square TB gd hr (by decide) lam_tk rfl (a_cons (x_var (pv 5)) (a_cons (x_var (pv 6)) a_nil)))))))
  (ss_cons (s_expr (x_append (x_var (pv 3)) (x_told (k := 24) (j := 0) (pd := ("_law_algebras_right", none)) (cs := cs_law_word) (by kernel_rfl) (by rfl) (by rfl) (T.gl "_law_word" (T.at_ 17 rfl)) F_law_word (F_law_word.bindsA fun _ _ _ _ _ _ us hl => match us, hl with | [_], _ => rfl) sc_law_word (by rfl) (by first | exact Or.inl rfl | exact Or.inr rfl) (fun _ => by rfl) (fun _ _ _ _ _ => by rfl) (fun _ _ _ => by exact (.only ⟨rfl, rfl, .inl (T.gl "InvalidAlgebra" (T.at_ 74 rfl))⟩ (exTab_of (T.at_ 110 rfl)) (.only ⟨rfl, rfl, .inl (T.gl "InvalidElement" (T.at_ 75 rfl))⟩ (exTab_of (T.at_ 111 rfl)) (.only ⟨rfl, rfl, .inl (T.gl "InvalidOperation" (T.at_ 76 rfl))⟩ (exTab_of (T.at_ 112 rfl)) (.named ⟨rfl, rfl, .inl (T.gl "InvalidNumber" (T.at_ 77 rfl))⟩ (exTab_of (T.at_ 113 rfl)) rfl rfl (by first | exact Or.inl rfl | exact Or.inr rfl) (.pre rfl rfl (T.fr "repr" (T.at_ 64 rfl)) rfl) (xfF_1 (T.at_ 114 rfl)) (xfF_2 (T.at_ 114 rfl)) (by decide) (by decide) (.named ⟨rfl, rfl, .inl (T.gl "TooMany" (T.at_ 78 rfl))⟩ (exTab_of (T.at_ 115 rfl)) rfl rfl (by first | exact Or.inl rfl | exact Or.inr rfl) (.pre rfl rfl (T.fr "repr" (T.at_ 64 rfl)) rfl) (xfF_1 (T.at_ 116 rfl)) (xfF_2 (T.at_ 116 rfl)) (by decide) (by decide) .nil)))))) (TB _ (.head _)) (by rfl) hr (by decide) gd (LamX.lamS_by (by kernel_rfl)) (by rfl) (fun _ _ _ _ _ => by rfl) (fun A outer s H E f c' gd hr => by
    have hu := units64 hr
    have hu5 := units65 hr
    have hu3 := units50 hr
    exact (x_callO o_with_square TB gd hr (by decide) lam_tk rfl (a_cons (x_var (pv 5)) (a_cons x_int a_nil)))))))
  (ss_cons (s_expr (x_append (x_var (pv 3)) (x_told (k := 6) (j := 0) (pd := ("_law_algebras_right", none)) (cs := cs_law_word) (by kernel_rfl) (by rfl) (by rfl) (T.gl "_law_word" (T.at_ 17 rfl)) F_law_word (F_law_word.bindsA fun _ _ _ _ _ _ us hl => match us, hl with | [_], _ => rfl) sc_law_word (by rfl) (by first | exact Or.inl rfl | exact Or.inr rfl) (fun _ => by rfl) (fun _ _ _ _ _ => by rfl) (fun _ _ _ => by exact (.only ⟨rfl, rfl, .inl (T.gl "InvalidAlgebra" (T.at_ 74 rfl))⟩ (exTab_of (T.at_ 110 rfl)) (.only ⟨rfl, rfl, .inl (T.gl "InvalidElement" (T.at_ 75 rfl))⟩ (exTab_of (T.at_ 111 rfl)) (.only ⟨rfl, rfl, .inl (T.gl "InvalidOperation" (T.at_ 76 rfl))⟩ (exTab_of (T.at_ 112 rfl)) (.named ⟨rfl, rfl, .inl (T.gl "InvalidNumber" (T.at_ 77 rfl))⟩ (exTab_of (T.at_ 113 rfl)) rfl rfl (by first | exact Or.inl rfl | exact Or.inr rfl) (.pre rfl rfl (T.fr "repr" (T.at_ 64 rfl)) rfl) (xfF_1 (T.at_ 114 rfl)) (xfF_2 (T.at_ 114 rfl)) (by decide) (by decide) (.named ⟨rfl, rfl, .inl (T.gl "TooMany" (T.at_ 78 rfl))⟩ (exTab_of (T.at_ 115 rfl)) rfl rfl (by first | exact Or.inl rfl | exact Or.inr rfl) (.pre rfl rfl (T.fr "repr" (T.at_ 64 rfl)) rfl) (xfF_1 (T.at_ 116 rfl)) (xfF_2 (T.at_ 116 rfl)) (by decide) (by decide) .nil)))))) (TB _ (.head _)) (by rfl) hr (by decide) gd (LamX.lamS_by (by kernel_rfl)) (by rfl) (fun _ _ _ _ _ => by rfl) (fun A outer s H E f c' gd hr => by
    have hu := units64 hr
    have hu5 := units65 hr
    have hu3 := units50 hr
    exact (x_callO o_is_with_square TB gd hr (by decide) lam_tk rfl (a_cons (x_var (pv 2)) (a_cons (x_var (pv 6)) (a_cons x_non a_nil))))))))
  (ss_cons (s_expr (x_append (x_var (pv 3)) (x_told (k := 6) (j := 0) (pd := ("_law_algebras_right", none)) (cs := cs_law_word) (by kernel_rfl) (by rfl) (by rfl) (T.gl "_law_word" (T.at_ 17 rfl)) F_law_word (F_law_word.bindsA fun _ _ _ _ _ _ us hl => match us, hl with | [_], _ => rfl) sc_law_word (by rfl) (by first | exact Or.inl rfl | exact Or.inr rfl) (fun _ => by rfl) (fun _ _ _ _ _ => by rfl) (fun _ _ _ => by exact (.only ⟨rfl, rfl, .inl (T.gl "InvalidAlgebra" (T.at_ 74 rfl))⟩ (exTab_of (T.at_ 110 rfl)) (.only ⟨rfl, rfl, .inl (T.gl "InvalidElement" (T.at_ 75 rfl))⟩ (exTab_of (T.at_ 111 rfl)) (.only ⟨rfl, rfl, .inl (T.gl "InvalidOperation" (T.at_ 76 rfl))⟩ (exTab_of (T.at_ 112 rfl)) (.named ⟨rfl, rfl, .inl (T.gl "InvalidNumber" (T.at_ 77 rfl))⟩ (exTab_of (T.at_ 113 rfl)) rfl rfl (by first | exact Or.inl rfl | exact Or.inr rfl) (.pre rfl rfl (T.fr "repr" (T.at_ 64 rfl)) rfl) (xfF_1 (T.at_ 114 rfl)) (xfF_2 (T.at_ 114 rfl)) (by decide) (by decide) (.named ⟨rfl, rfl, .inl (T.gl "TooMany" (T.at_ 78 rfl))⟩ (exTab_of (T.at_ 115 rfl)) rfl rfl (by first | exact Or.inl rfl | exact Or.inr rfl) (.pre rfl rfl (T.fr "repr" (T.at_ 64 rfl)) rfl) (xfF_1 (T.at_ 116 rfl)) (xfF_2 (T.at_ 116 rfl)) (by decide) (by decide) .nil)))))) (TB _ (.head _)) (by rfl) hr (by decide) gd (LamX.lamS_by (by kernel_rfl)) (by rfl) (fun _ _ _ _ _ => by rfl) (fun A outer s H E f c' gd hr => by
    have hu := units64 hr
    have hu5 := units65 hr
    have hu3 := units50 hr
    exact (x_callO o_is_with_square TB gd hr (by decide) lam_tk rfl (a_cons (x_var (pv 5)) (a_cons (x_var (pv 6)) (a_cons x_non a_nil))))))))
  (ss_cons (s_expr (x_append (x_var (pv 3)) (x_told (k := 6) (j := 0) (pd := ("_law_algebras_right", none)) (cs := cs_law_word) (by kernel_rfl) (by rfl) (by rfl) (T.gl "_law_word" (T.at_ 17 rfl)) F_law_word (F_law_word.bindsA fun _ _ _ _ _ _ us hl => match us, hl with | [_], _ => rfl) sc_law_word (by rfl) (by first | exact Or.inl rfl | exact Or.inr rfl) (fun _ => by rfl) (fun _ _ _ _ _ => by rfl) (fun _ _ _ => by exact (.only ⟨rfl, rfl, .inl (T.gl "InvalidAlgebra" (T.at_ 74 rfl))⟩ (exTab_of (T.at_ 110 rfl)) (.only ⟨rfl, rfl, .inl (T.gl "InvalidElement" (T.at_ 75 rfl))⟩ (exTab_of (T.at_ 111 rfl)) (.only ⟨rfl, rfl, .inl (T.gl "InvalidOperation" (T.at_ 76 rfl))⟩ (exTab_of (T.at_ 112 rfl)) (.named ⟨rfl, rfl, .inl (T.gl "InvalidNumber" (T.at_ 77 rfl))⟩ (exTab_of (T.at_ 113 rfl)) rfl rfl (by first | exact Or.inl rfl | exact Or.inr rfl) (.pre rfl rfl (T.fr "repr" (T.at_ 64 rfl)) rfl) (xfF_1 (T.at_ 114 rfl)) (xfF_2 (T.at_ 114 rfl)) (by decide) (by decide) (.named ⟨rfl, rfl, .inl (T.gl "TooMany" (T.at_ 78 rfl))⟩ (exTab_of (T.at_ 115 rfl)) rfl rfl (by first | exact Or.inl rfl | exact Or.inr rfl) (.pre rfl rfl (T.fr "repr" (T.at_ 64 rfl)) rfl) (xfF_1 (T.at_ 116 rfl)) (xfF_2 (T.at_ 116 rfl)) (by decide) (by decide) .nil)))))) (TB _ (.head _)) (by rfl) hr (by decide) gd (LamX.lamS_by (by kernel_rfl)) (by rfl) (fun _ _ _ _ _ => by rfl) (fun A outer s H E f c' gd hr => by
    have hu := units64 hr
    have hu5 := units65 hr
    have hu3 := units50 hr
    exact (x_callO o_is_with_square TB gd hr (by decide) lam_tk rfl (a_cons (x_var (pv 5)) (a_cons (x_neg x_int) (a_cons x_non a_nil))))))))
  (ss_cons (s_set (i := 4) sc_law_algebras_right.nd rfl (by first | exact Or.inl rfl | exact Or.inr rfl) (x_add (x_mul (x_lst (a_cons x_str a_nil)) x_int) (x_lst (a_cons x_str (a_cons x_str (a_cons x_str (a_cons x_str (a_cons x_str (a_cons x_str (a_cons x_str (a_cons (x_add x_str (x_callB (call_repr gd hu3) fRepr_s rfl (T.fr "repr" (T.at_ 64 rfl)) (by kernel_rfl) (a_cons (x_var (pv 6)) a_nil))) a_nil)))))))))))
  (ss_cons (s_ret (x_eq hu (x_var (pv 3)) (x_add (x_var (pv 4)) (x_lst (a_cons x_str (a_cons x_str (a_cons (x_add x_str (x_callB (call_repr gd hu3) fRepr_s rfl (T.fr "repr" (T.at_ 64 rfl)) (by kernel_rfl) (a_cons (x_var (pv 6)) a_nil))) (a_cons x_str a_nil))))))))
  ss_nil)))))))))))))))))))
theorem sc_Doubled_units : FnScope n_Doubled_units ["self"] (defScope s_Doubled_units) := ⟨rfl, rfl, rfl, by decide +kernel, rfl, by decide +kernel, by decide +kernel⟩
theorem o_Doubled_units (T : Tx exs fn ts w K mg) (TC : Cls cl K) (HP : PK P "/claim/cut.py") (o_unit_of : Ok (tf.map (·.1)) P w K mg "unit_of" 10 f_unit_of) : OkA (tf.map (·.1)) P w K mg (He.ma K (ga K "Doubled") "units") 11 f_Doubled_units := by
  obtain ⟨fd, F⟩ := T.fd 58 d_Doubled_units rfl
  refine ⟨F.kp, fun base TB => fn_ok F sc_Doubled_units rfl (F.bindsA fun _ _ _ _ _ _ us hl => match us, hl with | [_], _ => rfl) fun cd A out s H E hr gd => ?_⟩
  have hu := units64 hr
  have hu5 := units65 hr
  have hu3 := units50 hr
  have tk : Takes (cxOf (L2.CX P w) P w K mg base n_Doubled_units "Doubled.units" (defScope s_Doubled_units) (He.ma K (ga K "Doubled") "units") cd A out s H E) (WF E) := takes_of rfl rfl rfl rfl
  exact (ss_cons (s_ret (x_callTy call_tuple_of fTuple_s rfl (T.fr "tuple" (T.at_ 65 rfl)) bt_tuple (a_cons (x_lc (own := [("index", 1)]) rfl sc_Doubled_units.nd (i_range1 rfl (T.fr "range" (T.at_ 63 rfl)) (a_cons (x_attr (k := 0) (slF_of (T.at_ 83 rfl)) prF_nil TB gd hr (by decide) (x_var (pv 0))) a_nil)) (blkOk_by (by kernel_rfl)) (ct_name (i := 1) (by decide)) (fun _ _ _ _ _ => (pg_name (i := 1) sc_Doubled_units.nd rfl (by first | exact Or.inl rfl | exact Or.inr rfl))) (fun _ _ _ _ _ => ts_nil) (fun _ _ _ _ _ => (x_callO o_unit_of TB gd hr (by decide) takes0 rfl (a_cons (x_var (pv 0)) (a_cons (x_var (pv 1)) a_nil))))) a_nil)))
  ss_nil)
theorem sc_require_images : FnScope n_require_images ["one", "other", "way"] (defScope s_require_images) := ⟨rfl, rfl, rfl, by decide +kernel, rfl, by decide +kernel, by decide +kernel⟩
theorem o_require_images (T : Tx exs fn ts w K mg) (TC : Cls cl K) (HP : PK P "/claim/cut.py") (o_are_images : Ok (tf.map (·.1)) P w K mg "are_images" 25 f_are_images) : Ok (tf.map (·.1)) P w K mg "require_images" 26 f_require_images := by
  obtain ⟨fd, F⟩ := T.fd 59 d_require_images rfl
  refine ⟨T.gl "require_images" (T.at_ 40 rfl), F.kp, fun base TB => fn_ok F sc_require_images rfl (F.bindsA fun _ _ _ _ _ _ us hl => match us, hl with | [_, _, _], _ => rfl) fun cd A out s H E hr gd => ?_⟩
  have hu := units64 hr
  have hu5 := units65 hr
  have hu3 := units50 hr
  have tk : Takes (cxOf (L2.CX P w) P w K mg base n_require_images "require_images" (defScope s_require_images) (ga K "require_images") cd A out s H E) (WF E) := takes_of rfl rfl rfl rfl
  exact (ss_cons (s_if (t_not (t_tru (x_callO o_are_images TB gd hr (by decide) tk rfl (a_cons (x_var (pv 0)) (a_cons (x_var (pv 1)) (a_cons (x_var (pv 2)) a_nil))))))
  (ss_cons (s_raiseZ (T.at_ 98 rfl) (T.gl "InvalidOperation" (T.at_ 76 rfl)) rfl tk rfl)
  ss_nil)
  ss_nil)
  ss_nil)
theorem sc_require_element_of : FnScope n_require_element_of ["algebra", "value"] (defScope s_require_element_of) := ⟨rfl, rfl, rfl, by decide +kernel, rfl, by decide +kernel, by decide +kernel⟩
theorem o_require_element_of (T : Tx exs fn ts w K mg) (TC : Cls cl K) (HP : PK P "/claim/cut.py") (o_is_element_of : Ok (tf.map (·.1)) P w K mg "is_element_of" 5 f_is_element_of) : Ok (tf.map (·.1)) P w K mg "require_element_of" 6 f_require_element_of := by
  obtain ⟨fd, F⟩ := T.fd 60 d_require_element_of rfl
  refine ⟨T.gl "require_element_of" (T.at_ 41 rfl), F.kp, fun base TB => fn_ok F sc_require_element_of rfl (F.bindsA fun _ _ _ _ _ _ us hl => match us, hl with | [_, _], _ => rfl) fun cd A out s H E hr gd => ?_⟩
  have hu := units64 hr
  have hu5 := units65 hr
  have hu3 := units50 hr
  have tk : Takes (cxOf (L2.CX P w) P w K mg base n_require_element_of "require_element_of" (defScope s_require_element_of) (ga K "require_element_of") cd A out s H E) (WF E) := takes_of rfl rfl rfl rfl
  exact (ss_cons (s_if (t_not (t_tru (x_callO o_is_element_of TB gd hr (by decide) tk rfl (a_cons (x_var (pv 0)) (a_cons (x_var (pv 1)) a_nil)))))
  (ss_cons (s_raiseZ (T.at_ 84 rfl) (T.gl "InvalidElement" (T.at_ 75 rfl)) rfl tk rfl)
  ss_nil)
  ss_nil)
  ss_nil)
theorem sc_led : FnScope n_led ["one", "other", "way", "element"] (defScope s_led) := ⟨rfl, rfl, rfl, by decide +kernel, rfl, by decide +kernel, by decide +kernel⟩
theorem o_led (T : Tx exs fn ts w K mg) (TC : Cls cl K) (HP : PK P "/claim/cut.py") (o_led_by : Ok (tf.map (·.1)) P w K mg "led_by" 14 f_led_by) (o_require_eights : Ok (tf.map (·.1)) P w K mg "require_eights" 3 f_require_eights) (o_require_element_of : Ok (tf.map (·.1)) P w K mg "require_element_of" 6 f_require_element_of) (o_require_images : Ok (tf.map (·.1)) P w K mg "require_images" 26 f_require_images) (o_units_by : Ok (tf.map (·.1)) P w K mg "units_by" 23 f_units_by) : Ok (tf.map (·.1)) P w K mg "led" 27 f_led := by
  obtain ⟨fd, F⟩ := T.fd 61 d_led rfl
  refine ⟨T.gl "led" (T.at_ 42 rfl), F.kp, fun base TB => fn_ok F sc_led rfl (F.bindsA fun _ _ _ _ _ _ us hl => match us, hl with | [_, _, _, _], _ => rfl) fun cd A out s H E hr gd => ?_⟩
  have hu := units64 hr
  have hu5 := units65 hr
  have hu3 := units50 hr
  have tk : Takes (cxOf (L2.CX P w) P w K mg base n_led "led" (defScope s_led) (ga K "led") cd A out s H E) (WF E) := takes_of rfl rfl rfl rfl
  exact (ss_cons (s_expr (x_callO o_require_eights TB gd hr (by decide) tk rfl (a_cons (x_tup (a_cons (x_var (pv 0)) (a_cons (x_var (pv 1)) a_nil))) a_nil)))
  (ss_cons (s_expr (x_callO o_require_images TB gd hr (by decide) tk rfl (a_cons (x_var (pv 0)) (a_cons (x_var (pv 1)) (a_cons (x_var (pv 2)) a_nil)))))
  (ss_cons (s_expr (x_callO o_require_element_of TB gd hr (by decide) tk rfl (a_cons (x_var (pv 0)) (a_cons (x_var (pv 3)) a_nil))))
  (ss_cons (s_ret (x_callO o_led_by TB gd hr (by decide) tk rfl (a_cons (x_callO o_units_by TB gd hr (by decide) tk rfl (a_cons (x_var (pv 2)) a_nil)) (a_cons (x_var (pv 3)) a_nil))))
  ss_nil))))
theorem sc_taken_back : FnScope n_taken_back ["one", "other", "way"] (defScope s_taken_back) := ⟨rfl, rfl, rfl, by decide +kernel, rfl, by decide +kernel, by decide +kernel⟩
theorem o_taken_back (T : Tx exs fn ts w K mg) (TC : Cls cl K) (HP : PK P "/claim/cut.py") (o_require_eights : Ok (tf.map (·.1)) P w K mg "require_eights" 3 f_require_eights) (o_require_images : Ok (tf.map (·.1)) P w K mg "require_images" 26 f_require_images) : Ok (tf.map (·.1)) P w K mg "taken_back" 27 f_taken_back := by
  obtain ⟨fd, F⟩ := T.fd 62 d_taken_back rfl
  refine ⟨T.gl "taken_back" (T.at_ 43 rfl), F.kp, fun base TB => fn_ok F sc_taken_back rfl (F.bindsA fun _ _ _ _ _ _ us hl => match us, hl with | [_, _, _], _ => rfl) fun cd A out s H E hr gd => ?_⟩
  have hu := units64 hr
  have hu5 := units65 hr
  have hu3 := units50 hr
  have tk : Takes (cxOf (L2.CX P w) P w K mg base n_taken_back "taken_back" (defScope s_taken_back) (ga K "taken_back") cd A out s H E) (WF E) := takes_of rfl rfl rfl rfl
  exact (ss_cons (s_expr (x_callO o_require_eights TB gd hr (by decide) tk rfl (a_cons (x_tup (a_cons (x_var (pv 0)) (a_cons (x_var (pv 1)) a_nil))) a_nil)))
  (ss_cons (s_expr (x_callO o_require_images TB gd hr (by decide) tk rfl (a_cons (x_var (pv 0)) (a_cons (x_var (pv 1)) (a_cons (x_var (pv 2)) a_nil)))))
  (ss_cons (s_ret x_never)
  ss_nil)))
theorem sc_followed : FnScope n_followed ["one", "other", "third", "first", "second"] (defScope s_followed) := ⟨rfl, rfl, rfl, by decide +kernel, rfl, by decide +kernel, by decide +kernel⟩
theorem o_followed (T : Tx exs fn ts w K mg) (TC : Cls cl K) (HP : PK P "/claim/cut.py") (o_require_eights : Ok (tf.map (·.1)) P w K mg "require_eights" 3 f_require_eights) (o_require_images : Ok (tf.map (·.1)) P w K mg "require_images" 26 f_require_images) (o_way_on : Ok (tf.map (·.1)) P w K mg "way_on" 24 f_way_on) : Ok (tf.map (·.1)) P w K mg "followed" 27 f_followed := by
  obtain ⟨fd, F⟩ := T.fd 63 d_followed rfl
  refine ⟨T.gl "followed" (T.at_ 44 rfl), F.kp, fun base TB => fn_ok F sc_followed rfl (F.bindsA fun _ _ _ _ _ _ us hl => match us, hl with | [_, _, _, _, _], _ => rfl) fun cd A out s H E hr gd => ?_⟩
  have hu := units64 hr
  have hu5 := units65 hr
  have hu3 := units50 hr
  have tk : Takes (cxOf (L2.CX P w) P w K mg base n_followed "followed" (defScope s_followed) (ga K "followed") cd A out s H E) (WF E) := takes_of rfl rfl rfl rfl
  exact (ss_cons (s_expr (x_callO o_require_eights TB gd hr (by decide) tk rfl (a_cons (x_tup (a_cons (x_var (pv 0)) (a_cons (x_var (pv 1)) (a_cons (x_var (pv 2)) a_nil)))) a_nil)))
  (ss_cons (s_expr (x_callO o_require_images TB gd hr (by decide) tk rfl (a_cons (x_var (pv 0)) (a_cons (x_var (pv 1)) (a_cons (x_var (pv 3)) a_nil)))))
  (ss_cons (s_expr (x_callO o_require_images TB gd hr (by decide) tk rfl (a_cons (x_var (pv 1)) (a_cons (x_var (pv 2)) (a_cons (x_var (pv 4)) a_nil)))))
  (ss_cons (s_ret (x_callO o_way_on TB gd hr (by decide) tk rfl (a_cons (x_var (pv 3)) (a_cons (x_var (pv 4)) a_nil))))
  ss_nil))))
theorem sc_law_ways_right : FnScope n_law_ways_right ["_law_trough_here", "_law_eight", "_law_none"] (defScope s_law_ways_right) := ⟨rfl, rfl, rfl, by decide +kernel, rfl, by decide +kernel, by decide +kernel⟩
theorem o_law_ways_right (T : Tx exs fn ts w K mg) (TC : Cls cl K) (HP : PK P "/claim/cut.py") (hs : OkA (tf.map (·.1)) P w K mg (He.ma K (ga K "Doubled") "__init__") 5 f_Doubled___init__ ∧ OkA (tf.map (·.1)) P w K mg (He.ma K (ga K "Doubled") "one") 11 f_Doubled_one ∧ OkA (tf.map (·.1)) P w K mg (He.ma K (ga K "Doubled") "units") 11 f_Doubled_units ∧ Ok (tf.map (·.1)) P w K mg "_law_one_of" 3 f_law_one_of ∧ Ok (tf.map (·.1)) P w K mg "followed" 27 f_followed ∧ Ok (tf.map (·.1)) P w K mg "led" 27 f_led ∧ Ok (tf.map (·.1)) P w K mg "taken_back" 27 f_taken_back) : Ok (tf.map (·.1)) P w K mg "_law_ways_right" 30 f_law_ways_right := by
  obtain ⟨o_Doubled___init__, o_Doubled_one, o_Doubled_units, o_law_one_of, o_followed, o_led, o_taken_back⟩ := hs
  obtain ⟨fd, F⟩ := T.fd 64 d_law_ways_right rfl
  obtain ⟨fd_law_word, F_law_word⟩ := T.fd 27 d_law_word rfl
  refine ⟨T.gl "_law_ways_right" (T.at_ 45 rfl), F.kp, fun base TB => fn_okC (pd := ("_law_ways_right", none)) rfl F sc_law_ways_right rfl (F.bindsA fun _ _ _ _ _ _ us hl => match us, hl with | [_, _, _], _ => rfl) fun A out s H E hr gd => ?_⟩
  have hu := units64 hr
  have hu5 := units65 hr
  have hu3 := units50 hr
  have tk : Takes (cxOf (L2.CX P w) P w K mg base n_law_ways_right "_law_ways_right" (defScope s_law_ways_right) (ga K "_law_ways_right") (.ref (He.cT K ("_law_ways_right", none)).1) A out s H E) (WF E) := takes_of rfl rfl rfl rfl
  exact (ss_cons (s_par (i := 8) (j := 9) rfl sc_law_ways_right.nd rfl rfl (by decide) rfl rfl (a_cons (x_meth0 (k := 11) (meF_cons ((clsB_s (T.at_ 95 rfl)).1) (He.meth_ok (T.at_ 117 rfl)) o_Doubled_units (by decide) meF_nil) TB gd hr (by decide) tk (x_var (pv 1))) (a_cons (x_make (He.mkr_ok (T.at_ 109 rfl)) o_Doubled___init__ TB gd hr (by decide) tk rfl (T.gl "Doubled" (T.at_ 50 rfl)) (a_cons (x_tup (a_cons (x_neg x_int) (a_cons (x_neg x_int) a_nil))) a_nil)) a_nil)) (by rfl))
  (ss_cons (s_set (i := 3) sc_law_ways_right.nd rfl (by first | exact Or.inl rfl | exact Or.inr rfl) (x_tup (a_cons (x_ix (x_var (pv 8)) x_int) (a_cons (x_ix (x_var (pv 8)) x_int) (a_cons (x_ix (x_var (pv 8)) x_int) a_nil)))))
  (ss_cons (s_set (i := 4) sc_law_ways_right.nd rfl (by first | exact Or.inl rfl | exact Or.inr rfl) (x_callO o_law_one_of TB gd hr (by decide) tk rfl (a_cons (x_var (pv 0)) (a_cons (x_lst (a_cons x_non (a_cons (x_tup a_nil) (a_cons (x_sl (x_var (pv 3)) o_none (o_some x_int)) (a_cons (x_callTy call_list_of fList_s rfl (T.fr "list" (T.at_ 60 rfl)) bt_list (a_cons (x_var (pv 3)) a_nil)) (a_cons (x_tup (a_cons (x_ix (x_var (pv 8)) x_int) (a_cons (x_ix (x_var (pv 8)) x_int) (a_cons (x_ix (x_var (pv 8)) x_int) a_nil)))) (a_cons (x_tup (a_cons (x_ix (x_var (pv 8)) x_int) (a_cons (x_ix (x_var (pv 8)) x_int) (a_cons (x_ix (x_var (pv 8)) x_int) a_nil)))) (a_cons (x_add (x_var (pv 3)) (x_var (pv 3))) (a_cons (x_ix (x_var (pv 8)) x_int) (a_cons (x_tup (a_cons x_int (a_cons x_int (a_cons x_int a_nil)))) a_nil)))))))))) a_nil))))
  (ss_cons (s_set (i := 5) sc_law_ways_right.nd rfl (by first | exact Or.inl rfl | exact Or.inr rfl) (x_callO o_law_one_of TB gd hr (by decide) tk rfl (a_cons (x_var (pv 0)) (a_cons (x_lst (a_cons x_non (a_cons x_int (a_cons (x_meth0 (k := 11) (meF_cons ((clsB_s (T.at_ 95 rfl)).1) (He.meth_ok (T.at_ 100 rfl)) o_Doubled_one (by decide) meF_nil) TB gd hr (by decide) tk (x_var (pv 9))) (a_cons (x_add (x_tup (a_cons x_int a_nil)) (x_mulT (x_tup (a_cons x_int a_nil)) x_int)) (a_cons x_str (a_cons (x_var (pv 1)) (a_cons (x_meth0 (k := 11) (meF_cons ((clsB_s (T.at_ 95 rfl)).1) (He.meth_ok (T.at_ 100 rfl)) o_Doubled_one (by decide) meF_nil) TB gd hr (by decide) tk (x_make (He.mkr_ok (T.at_ 109 rfl)) o_Doubled___init__ TB gd hr (by decide) tk rfl (T.gl "Doubled" (T.at_ 50 rfl)) (a_cons (x_tup (a_cons (x_neg x_int) (a_cons (x_neg x_int) (a_cons x_int a_nil)))) a_nil))) a_nil)))))))) a_nil))))
  (ss_cons (s_set (i := 6) sc_law_ways_right.nd rfl (by first | exact Or.inl rfl | exact Or.inr rfl) (x_lstM (a_cons (x_told (k := 27) (j := 1) (pd := ("_law_ways_right", none)) (cs := cs_law_word) (by kernel_rfl) (by rfl) (by rfl) (T.gl "_law_word" (T.at_ 17 rfl)) F_law_word (F_law_word.bindsA fun _ _ _ _ _ _ us hl => match us, hl with | [_], _ => rfl) sc_law_word (by rfl) (by first | exact Or.inl rfl | exact Or.inr rfl) (fun _ => by rfl) (fun _ _ _ _ _ => by rfl) (fun _ _ _ => by exact (.only ⟨rfl, rfl, .inl (T.gl "InvalidAlgebra" (T.at_ 74 rfl))⟩ (exTab_of (T.at_ 110 rfl)) (.only ⟨rfl, rfl, .inl (T.gl "InvalidElement" (T.at_ 75 rfl))⟩ (exTab_of (T.at_ 111 rfl)) (.only ⟨rfl, rfl, .inl (T.gl "InvalidOperation" (T.at_ 76 rfl))⟩ (exTab_of (T.at_ 112 rfl)) (.named ⟨rfl, rfl, .inl (T.gl "InvalidNumber" (T.at_ 77 rfl))⟩ (exTab_of (T.at_ 113 rfl)) rfl rfl (by first | exact Or.inl rfl | exact Or.inr rfl) (.pre rfl rfl (T.fr "repr" (T.at_ 64 rfl)) rfl) (xfF_1 (T.at_ 114 rfl)) (xfF_2 (T.at_ 114 rfl)) (by decide) (by decide) (.named ⟨rfl, rfl, .inl (T.gl "TooMany" (T.at_ 78 rfl))⟩ (exTab_of (T.at_ 115 rfl)) rfl rfl (by first | exact Or.inl rfl | exact Or.inr rfl) (.pre rfl rfl (T.fr "repr" (T.at_ 64 rfl)) rfl) (xfF_1 (T.at_ 116 rfl)) (xfF_2 (T.at_ 116 rfl)) (by decide) (by decide) .nil)))))) (TB _ (.tail _ (.head _))) (by rfl) hr (by decide) gd (LamX.lamS_by (by kernel_rfl)) (by rfl) (fun _ _ _ _ _ => by rfl) (fun A outer s H E f c' gd hr => by
    have hu := units64 hr
    have hu5 := units65 hr
    have hu3 := units50 hr
    exact (x_callO o_led TB gd hr (by decide) lam_tk rfl (a_cons (x_var (pv 2)) (a_cons (x_var (pv 1)) (a_cons (x_var (pv 4)) (a_cons (x_var (pv 5)) a_nil))))))) a_nil)))
  (ss_cons (s_expr (x_append (x_var (pv 6)) (x_told (k := 27) (j := 1) (pd := ("_law_ways_right", none)) (cs := cs_law_word) (by kernel_rfl) (by rfl) (by rfl) (T.gl "_law_word" (T.at_ 17 rfl)) F_law_word (F_law_word.bindsA fun _ _ _ _ _ _ us hl => match us, hl with | [_], _ => rfl) sc_law_word (by rfl) (by first | exact Or.inl rfl | exact Or.inr rfl) (fun _ => by rfl) (fun _ _ _ _ _ => by rfl) (fun _ _ _ => by exact (.only ⟨rfl, rfl, .inl (T.gl "InvalidAlgebra" (T.at_ 74 rfl))⟩ (exTab_of (T.at_ 110 rfl)) (.only ⟨rfl, rfl, .inl (T.gl "InvalidElement" (T.at_ 75 rfl))⟩ (exTab_of (T.at_ 111 rfl)) (.only ⟨rfl, rfl, .inl (T.gl "InvalidOperation" (T.at_ 76 rfl))⟩ (exTab_of (T.at_ 112 rfl)) (.named ⟨rfl, rfl, .inl (T.gl "InvalidNumber" (T.at_ 77 rfl))⟩ (exTab_of (T.at_ 113 rfl)) rfl rfl (by first | exact Or.inl rfl | exact Or.inr rfl) (.pre rfl rfl (T.fr "repr" (T.at_ 64 rfl)) rfl) (xfF_1 (T.at_ 114 rfl)) (xfF_2 (T.at_ 114 rfl)) (by decide) (by decide) (.named ⟨rfl, rfl, .inl (T.gl "TooMany" (T.at_ 78 rfl))⟩ (exTab_of (T.at_ 115 rfl)) rfl rfl (by first | exact Or.inl rfl | exact Or.inr rfl) (.pre rfl rfl (T.fr "repr" (T.at_ 64 rfl)) rfl) (xfF_1 (T.at_ 116 rfl)) (xfF_2 (T.at_ 116 rfl)) (by decide) (by decide) .nil)))))) (TB _ (.tail _ (.head _))) (by rfl) hr (by decide) gd (LamX.lamS_by (by kernel_rfl)) (by rfl) (fun _ _ _ _ _ => by rfl) (fun A outer s H E f c' gd hr => by
    have hu := units64 hr
    have hu5 := units65 hr
    have hu3 := units50 hr
    exact (x_callO o_led TB gd hr (by decide) lam_tk rfl (a_cons (x_var (pv 1)) (a_cons (x_var (pv 2)) (a_cons (x_var (pv 4)) (a_cons (x_var (pv 5)) a_nil)))))))))
  (ss_cons (s_expr (x_append (x_var (pv 6)) (x_told (k := 27) (j := 1) (pd := ("_law_ways_right", none)) (cs := cs_law_word) (by kernel_rfl) (by rfl) (by rfl) (T.gl "_law_word" (T.at_ 17 rfl)) F_law_word (F_law_word.bindsA fun _ _ _ _ _ _ us hl => match us, hl with | [_], _ => rfl) sc_law_word (by rfl) (by first | exact Or.inl rfl | exact Or.inr rfl) (fun _ => by rfl) (fun _ _ _ _ _ => by rfl) (fun _ _ _ => by exact (.only ⟨rfl, rfl, .inl (T.gl "InvalidAlgebra" (T.at_ 74 rfl))⟩ (exTab_of (T.at_ 110 rfl)) (.only ⟨rfl, rfl, .inl (T.gl "InvalidElement" (T.at_ 75 rfl))⟩ (exTab_of (T.at_ 111 rfl)) (.only ⟨rfl, rfl, .inl (T.gl "InvalidOperation" (T.at_ 76 rfl))⟩ (exTab_of (T.at_ 112 rfl)) (.named ⟨rfl, rfl, .inl (T.gl "InvalidNumber" (T.at_ 77 rfl))⟩ (exTab_of (T.at_ 113 rfl)) rfl rfl (by first | exact Or.inl rfl | exact Or.inr rfl) (.pre rfl rfl (T.fr "repr" (T.at_ 64 rfl)) rfl) (xfF_1 (T.at_ 114 rfl)) (xfF_2 (T.at_ 114 rfl)) (by decide) (by decide) (.named ⟨rfl, rfl, .inl (T.gl "TooMany" (T.at_ 78 rfl))⟩ (exTab_of (T.at_ 115 rfl)) rfl rfl (by first | exact Or.inl rfl | exact Or.inr rfl) (.pre rfl rfl (T.fr "repr" (T.at_ 64 rfl)) rfl) (xfF_1 (T.at_ 116 rfl)) (xfF_2 (T.at_ 116 rfl)) (by decide) (by decide) .nil)))))) (TB _ (.tail _ (.head _))) (by rfl) hr (by decide) gd (LamX.lamS_by (by kernel_rfl)) (by rfl) (fun _ _ _ _ _ => by rfl) (fun A outer s H E f c' gd hr => by
    have hu := units64 hr
    have hu5 := units65 hr
    have hu3 := units50 hr
    exact (x_callO o_led TB gd hr (by decide) lam_tk rfl (a_cons (x_var (pv 1)) (a_cons (x_var (pv 1)) (a_cons (x_var (pv 4)) (a_cons (x_var (pv 5)) a_nil)))))))))
  (ss_cons (s_expr (x_append (x_var (pv 6)) (x_told (k := 27) (j := 1) (pd := ("_law_ways_right", none)) (cs := cs_law_word) (by kernel_rfl) (by rfl) (by rfl) (T.gl "_law_word" (T.at_ 17 rfl)) F_law_word (F_law_word.bindsA fun _ _ _ _ _ _ us hl => match us, hl with | [_], _ => rfl) sc_law_word (by rfl) (by first | exact Or.inl rfl | exact Or.inr rfl) (fun _ => by rfl) (fun _ _ _ _ _ => by rfl) (fun _ _ _ => by exact (.only ⟨rfl, rfl, .inl (T.gl "InvalidAlgebra" (T.at_ 74 rfl))⟩ (exTab_of (T.at_ 110 rfl)) (.only ⟨rfl, rfl, .inl (T.gl "InvalidElement" (T.at_ 75 rfl))⟩ (exTab_of (T.at_ 111 rfl)) (.only ⟨rfl, rfl, .inl (T.gl "InvalidOperation" (T.at_ 76 rfl))⟩ (exTab_of (T.at_ 112 rfl)) (.named ⟨rfl, rfl, .inl (T.gl "InvalidNumber" (T.at_ 77 rfl))⟩ (exTab_of (T.at_ 113 rfl)) rfl rfl (by first | exact Or.inl rfl | exact Or.inr rfl) (.pre rfl rfl (T.fr "repr" (T.at_ 64 rfl)) rfl) (xfF_1 (T.at_ 114 rfl)) (xfF_2 (T.at_ 114 rfl)) (by decide) (by decide) (.named ⟨rfl, rfl, .inl (T.gl "TooMany" (T.at_ 78 rfl))⟩ (exTab_of (T.at_ 115 rfl)) rfl rfl (by first | exact Or.inl rfl | exact Or.inr rfl) (.pre rfl rfl (T.fr "repr" (T.at_ 64 rfl)) rfl) (xfF_1 (T.at_ 116 rfl)) (xfF_2 (T.at_ 116 rfl)) (by decide) (by decide) .nil)))))) (TB _ (.tail _ (.head _))) (by rfl) hr (by decide) gd (LamX.lamS_by (by kernel_rfl)) (by rfl) (fun _ _ _ _ _ => by rfl) (fun A outer s H E f c' gd hr => by
    have hu := units64 hr
    have hu5 := units65 hr
    have hu3 := units50 hr
    exact (x_callO o_led TB gd hr (by decide) lam_tk rfl (a_cons (x_var (pv 1)) (a_cons (x_var (pv 1)) (a_cons (x_var (pv 3)) (a_cons (x_var (pv 5)) a_nil)))))))))
  (ss_cons (s_expr (x_append (x_var (pv 6)) (x_told (k := 27) (j := 1) (pd := ("_law_ways_right", none)) (cs := cs_law_word) (by kernel_rfl) (by rfl) (by rfl) (T.gl "_law_word" (T.at_ 17 rfl)) F_law_word (F_law_word.bindsA fun _ _ _ _ _ _ us hl => match us, hl with | [_], _ => rfl) sc_law_word (by rfl) (by first | exact Or.inl rfl | exact Or.inr rfl) (fun _ => by rfl) (fun _ _ _ _ _ => by rfl) (fun _ _ _ => by exact (.only ⟨rfl, rfl, .inl (T.gl "InvalidAlgebra" (T.at_ 74 rfl))⟩ (exTab_of (T.at_ 110 rfl)) (.only ⟨rfl, rfl, .inl (T.gl "InvalidElement" (T.at_ 75 rfl))⟩ (exTab_of (T.at_ 111 rfl)) (.only ⟨rfl, rfl, .inl (T.gl "InvalidOperation" (T.at_ 76 rfl))⟩ (exTab_of (T.at_ 112 rfl)) (.named ⟨rfl, rfl, .inl (T.gl "InvalidNumber" (T.at_ 77 rfl))⟩ (exTab_of (T.at_ 113 rfl)) rfl rfl (by first | exact Or.inl rfl | exact Or.inr rfl) (.pre rfl rfl (T.fr "repr" (T.at_ 64 rfl)) rfl) (xfF_1 (T.at_ 114 rfl)) (xfF_2 (T.at_ 114 rfl)) (by decide) (by decide) (.named ⟨rfl, rfl, .inl (T.gl "TooMany" (T.at_ 78 rfl))⟩ (exTab_of (T.at_ 115 rfl)) rfl rfl (by first | exact Or.inl rfl | exact Or.inr rfl) (.pre rfl rfl (T.fr "repr" (T.at_ 64 rfl)) rfl) (xfF_1 (T.at_ 116 rfl)) (xfF_2 (T.at_ 116 rfl)) (by decide) (by decide) .nil)))))) (TB _ (.tail _ (.head _))) (by rfl) hr (by decide) gd (LamX.lamS_by (by kernel_rfl)) (by rfl) (fun _ _ _ _ _ => by rfl) (fun A outer s H E f c' gd hr => by
    have hu := units64 hr
    have hu5 := units65 hr
    have hu3 := units50 hr
    exact (x_callO o_taken_back TB gd hr (by decide) lam_tk rfl (a_cons (x_var (pv 2)) (a_cons (x_var (pv 2)) (a_cons (x_var (pv 4)) a_nil))))))))
  (ss_cons (s_expr (x_append (x_var (pv 6)) (x_told (k := 27) (j := 1) (pd := ("_law_ways_right", none)) (cs := cs_law_word) (by kernel_rfl) (by rfl) (by rfl) (T.gl "_law_word" (T.at_ 17 rfl)) F_law_word (F_law_word.bindsA fun _ _ _ _ _ _ us hl => match us, hl with | [_], _ => rfl) sc_law_word (by rfl) (by first | exact Or.inl rfl | exact Or.inr rfl) (fun _ => by rfl) (fun _ _ _ _ _ => by rfl) (fun _ _ _ => by exact (.only ⟨rfl, rfl, .inl (T.gl "InvalidAlgebra" (T.at_ 74 rfl))⟩ (exTab_of (T.at_ 110 rfl)) (.only ⟨rfl, rfl, .inl (T.gl "InvalidElement" (T.at_ 75 rfl))⟩ (exTab_of (T.at_ 111 rfl)) (.only ⟨rfl, rfl, .inl (T.gl "InvalidOperation" (T.at_ 76 rfl))⟩ (exTab_of (T.at_ 112 rfl)) (.named ⟨rfl, rfl, .inl (T.gl "InvalidNumber" (T.at_ 77 rfl))⟩ (exTab_of (T.at_ 113 rfl)) rfl rfl (by first | exact Or.inl rfl | exact Or.inr rfl) (.pre rfl rfl (T.fr "repr" (T.at_ 64 rfl)) rfl) (xfF_1 (T.at_ 114 rfl)) (xfF_2 (T.at_ 114 rfl)) (by decide) (by decide) (.named ⟨rfl, rfl, .inl (T.gl "TooMany" (T.at_ 78 rfl))⟩ (exTab_of (T.at_ 115 rfl)) rfl rfl (by first | exact Or.inl rfl | exact Or.inr rfl) (.pre rfl rfl (T.fr "repr" (T.at_ 64 rfl)) rfl) (xfF_1 (T.at_ 116 rfl)) (xfF_2 (T.at_ 116 rfl)) (by decide) (by decide) .nil)))))) (TB _ (.tail _ (.head _))) (by rfl) hr (by decide) gd (LamX.lamS_by (by kernel_rfl)) (by rfl) (fun _ _ _ _ _ => by rfl) (fun A outer s H E f c' gd hr => by
    have hu := units64 hr
    have hu5 := units65 hr
    have hu3 := units50 hr
    exact (x_callO o_taken_back TB gd hr (by decide) lam_tk rfl (a_cons (x_var (pv 1)) (a_cons (x_var (pv 2)) (a_cons (x_var (pv 4)) a_nil))))))))
  (ss_cons (s_expr (x_append (x_var (pv 6)) (x_told (k := 27) (j := 1) (pd := ("_law_ways_right", none)) (cs := cs_law_word) (by kernel_rfl) (by rfl) (by rfl) (T.gl "_law_word" (T.at_ 17 rfl)) F_law_word (F_law_word.bindsA fun _ _ _ _ _ _ us hl => match us, hl with | [_], _ => rfl) sc_law_word (by rfl) (by first | exact Or.inl rfl | exact Or.inr rfl) (fun _ => by rfl) (fun _ _ _ _ _ => by rfl) (fun _ _ _ => by exact (.only ⟨rfl, rfl, .inl (T.gl "InvalidAlgebra" (T.at_ 74 rfl))⟩ (exTab_of (T.at_ 110 rfl)) (.only ⟨rfl, rfl, .inl (T.gl "InvalidElement" (T.at_ 75 rfl))⟩ (exTab_of (T.at_ 111 rfl)) (.only ⟨rfl, rfl, .inl (T.gl "InvalidOperation" (T.at_ 76 rfl))⟩ (exTab_of (T.at_ 112 rfl)) (.named ⟨rfl, rfl, .inl (T.gl "InvalidNumber" (T.at_ 77 rfl))⟩ (exTab_of (T.at_ 113 rfl)) rfl rfl (by first | exact Or.inl rfl | exact Or.inr rfl) (.pre rfl rfl (T.fr "repr" (T.at_ 64 rfl)) rfl) (xfF_1 (T.at_ 114 rfl)) (xfF_2 (T.at_ 114 rfl)) (by decide) (by decide) (.named ⟨rfl, rfl, .inl (T.gl "TooMany" (T.at_ 78 rfl))⟩ (exTab_of (T.at_ 115 rfl)) rfl rfl (by first | exact Or.inl rfl | exact Or.inr rfl) (.pre rfl rfl (T.fr "repr" (T.at_ 64 rfl)) rfl) (xfF_1 (T.at_ 116 rfl)) (xfF_2 (T.at_ 116 rfl)) (by decide) (by decide) .nil)))))) (TB _ (.tail _ (.head _))) (by rfl) hr (by decide) gd (LamX.lamS_by (by kernel_rfl)) (by rfl) (fun _ _ _ _ _ => by rfl) (fun A outer s H E f c' gd hr => by
    have hu := units64 hr
    have hu5 := units65 hr
    have hu3 := units50 hr
    exact (x_callO o_taken_back TB gd hr (by decide) lam_tk rfl (a_cons (x_var (pv 1)) (a_cons (x_var (pv 1)) (a_cons (x_var (pv 4)) a_nil))))))))
  (ss_cons (s_expr (x_append (x_var (pv 6)) (x_told (k := 27) (j := 1) (pd := ("_law_ways_right", none)) (cs := cs_law_word) (by kernel_rfl) (by rfl) (by rfl) (T.gl "_law_word" (T.at_ 17 rfl)) F_law_word (F_law_word.bindsA fun _ _ _ _ _ _ us hl => match us, hl with | [_], _ => rfl) sc_law_word (by rfl) (by first | exact Or.inl rfl | exact Or.inr rfl) (fun _ => by rfl) (fun _ _ _ _ _ => by rfl) (fun _ _ _ => by exact (.only ⟨rfl, rfl, .inl (T.gl "InvalidAlgebra" (T.at_ 74 rfl))⟩ (exTab_of (T.at_ 110 rfl)) (.only ⟨rfl, rfl, .inl (T.gl "InvalidElement" (T.at_ 75 rfl))⟩ (exTab_of (T.at_ 111 rfl)) (.only ⟨rfl, rfl, .inl (T.gl "InvalidOperation" (T.at_ 76 rfl))⟩ (exTab_of (T.at_ 112 rfl)) (.named ⟨rfl, rfl, .inl (T.gl "InvalidNumber" (T.at_ 77 rfl))⟩ (exTab_of (T.at_ 113 rfl)) rfl rfl (by first | exact Or.inl rfl | exact Or.inr rfl) (.pre rfl rfl (T.fr "repr" (T.at_ 64 rfl)) rfl) (xfF_1 (T.at_ 114 rfl)) (xfF_2 (T.at_ 114 rfl)) (by decide) (by decide) (.named ⟨rfl, rfl, .inl (T.gl "TooMany" (T.at_ 78 rfl))⟩ (exTab_of (T.at_ 115 rfl)) rfl rfl (by first | exact Or.inl rfl | exact Or.inr rfl) (.pre rfl rfl (T.fr "repr" (T.at_ 64 rfl)) rfl) (xfF_1 (T.at_ 116 rfl)) (xfF_2 (T.at_ 116 rfl)) (by decide) (by decide) .nil)))))) (TB _ (.tail _ (.head _))) (by rfl) hr (by decide) gd (LamX.lamS_by (by kernel_rfl)) (by rfl) (fun _ _ _ _ _ => by rfl) (fun A outer s H E f c' gd hr => by
    have hu := units64 hr
    have hu5 := units65 hr
    have hu3 := units50 hr
    exact (x_callO o_followed TB gd hr (by decide) lam_tk rfl (a_cons (x_var (pv 1)) (a_cons (x_var (pv 1)) (a_cons (x_var (pv 2)) (a_cons (x_var (pv 4)) (a_cons (x_var (pv 4)) a_nil))))))))))
  (ss_cons (s_expr (x_append (x_var (pv 6)) (x_told (k := 27) (j := 1) (pd := ("_law_ways_right", none)) (cs := cs_law_word) (by kernel_rfl) (by rfl) (by rfl) (T.gl "_law_word" (T.at_ 17 rfl)) F_law_word (F_law_word.bindsA fun _ _ _ _ _ _ us hl => match us, hl with | [_], _ => rfl) sc_law_word (by rfl) (by first | exact Or.inl rfl | exact Or.inr rfl) (fun _ => by rfl) (fun _ _ _ _ _ => by rfl) (fun _ _ _ => by exact (.only ⟨rfl, rfl, .inl (T.gl "InvalidAlgebra" (T.at_ 74 rfl))⟩ (exTab_of (T.at_ 110 rfl)) (.only ⟨rfl, rfl, .inl (T.gl "InvalidElement" (T.at_ 75 rfl))⟩ (exTab_of (T.at_ 111 rfl)) (.only ⟨rfl, rfl, .inl (T.gl "InvalidOperation" (T.at_ 76 rfl))⟩ (exTab_of (T.at_ 112 rfl)) (.named ⟨rfl, rfl, .inl (T.gl "InvalidNumber" (T.at_ 77 rfl))⟩ (exTab_of (T.at_ 113 rfl)) rfl rfl (by first | exact Or.inl rfl | exact Or.inr rfl) (.pre rfl rfl (T.fr "repr" (T.at_ 64 rfl)) rfl) (xfF_1 (T.at_ 114 rfl)) (xfF_2 (T.at_ 114 rfl)) (by decide) (by decide) (.named ⟨rfl, rfl, .inl (T.gl "TooMany" (T.at_ 78 rfl))⟩ (exTab_of (T.at_ 115 rfl)) rfl rfl (by first | exact Or.inl rfl | exact Or.inr rfl) (.pre rfl rfl (T.fr "repr" (T.at_ 64 rfl)) rfl) (xfF_1 (T.at_ 116 rfl)) (xfF_2 (T.at_ 116 rfl)) (by decide) (by decide) .nil)))))) (TB _ (.tail _ (.head _))) (by rfl) hr (by decide) gd (LamX.lamS_by (by kernel_rfl)) (by rfl) (fun _ _ _ _ _ => by rfl) (fun A outer s H E f c' gd hr => by
    have hu := units64 hr
    have hu5 := units65 hr
    have hu3 := units50 hr
    exact (x_callO o_followed TB gd hr (by decide) lam_tk rfl (a_cons (x_var (pv 1)) (a_cons (x_var (pv 1)) (a_cons (x_var (pv 1)) (a_cons (x_var (pv 4)) (a_cons (x_var (pv 3)) a_nil))))))))))
  (ss_cons (s_expr (x_append (x_var (pv 6)) (x_told (k := 27) (j := 1) (pd := ("_law_ways_right", none)) (cs := cs_law_word) (by kernel_rfl) (by rfl) (by rfl) (T.gl "_law_word" (T.at_ 17 rfl)) F_law_word (F_law_word.bindsA fun _ _ _ _ _ _ us hl => match us, hl with | [_], _ => rfl) sc_law_word (by rfl) (by first | exact Or.inl rfl | exact Or.inr rfl) (fun _ => by rfl) (fun _ _ _ _ _ => by rfl) (fun _ _ _ => by exact (.only ⟨rfl, rfl, .inl (T.gl "InvalidAlgebra" (T.at_ 74 rfl))⟩ (exTab_of (T.at_ 110 rfl)) (.only ⟨rfl, rfl, .inl (T.gl "InvalidElement" (T.at_ 75 rfl))⟩ (exTab_of (T.at_ 111 rfl)) (.only ⟨rfl, rfl, .inl (T.gl "InvalidOperation" (T.at_ 76 rfl))⟩ (exTab_of (T.at_ 112 rfl)) (.named ⟨rfl, rfl, .inl (T.gl "InvalidNumber" (T.at_ 77 rfl))⟩ (exTab_of (T.at_ 113 rfl)) rfl rfl (by first | exact Or.inl rfl | exact Or.inr rfl) (.pre rfl rfl (T.fr "repr" (T.at_ 64 rfl)) rfl) (xfF_1 (T.at_ 114 rfl)) (xfF_2 (T.at_ 114 rfl)) (by decide) (by decide) (.named ⟨rfl, rfl, .inl (T.gl "TooMany" (T.at_ 78 rfl))⟩ (exTab_of (T.at_ 115 rfl)) rfl rfl (by first | exact Or.inl rfl | exact Or.inr rfl) (.pre rfl rfl (T.fr "repr" (T.at_ 64 rfl)) rfl) (xfF_1 (T.at_ 116 rfl)) (xfF_2 (T.at_ 116 rfl)) (by decide) (by decide) .nil)))))) (TB _ (.tail _ (.head _))) (by rfl) hr (by decide) gd (LamX.lamS_by (by kernel_rfl)) (by rfl) (fun _ _ _ _ _ => by rfl) (fun A outer s H E f c' gd hr => by
    have hu := units64 hr
    have hu5 := units65 hr
    have hu3 := units50 hr
    exact (x_callO o_followed TB gd hr (by decide) lam_tk rfl (a_cons (x_var (pv 1)) (a_cons (x_var (pv 1)) (a_cons (x_var (pv 1)) (a_cons (x_var (pv 3)) (a_cons (x_var (pv 4)) a_nil))))))))))
  (ss_cons (s_expr (x_append (x_var (pv 6)) (x_told (k := 27) (j := 1) (pd := ("_law_ways_right", none)) (cs := cs_law_word) (by kernel_rfl) (by rfl) (by rfl) (T.gl "_law_word" (T.at_ 17 rfl)) F_law_word (F_law_word.bindsA fun _ _ _ _ _ _ us hl => match us, hl with | [_], _ => rfl) sc_law_word (by rfl) (by first | exact Or.inl rfl | exact Or.inr rfl) (fun _ => by rfl) (fun _ _ _ _ _ => by rfl) (fun _ _ _ => by exact (.only ⟨rfl, rfl, .inl (T.gl "InvalidAlgebra" (T.at_ 74 rfl))⟩ (exTab_of (T.at_ 110 rfl)) (.only ⟨rfl, rfl, .inl (T.gl "InvalidElement" (T.at_ 75 rfl))⟩ (exTab_of (T.at_ 111 rfl)) (.only ⟨rfl, rfl, .inl (T.gl "InvalidOperation" (T.at_ 76 rfl))⟩ (exTab_of (T.at_ 112 rfl)) (.named ⟨rfl, rfl, .inl (T.gl "InvalidNumber" (T.at_ 77 rfl))⟩ (exTab_of (T.at_ 113 rfl)) rfl rfl (by first | exact Or.inl rfl | exact Or.inr rfl) (.pre rfl rfl (T.fr "repr" (T.at_ 64 rfl)) rfl) (xfF_1 (T.at_ 114 rfl)) (xfF_2 (T.at_ 114 rfl)) (by decide) (by decide) (.named ⟨rfl, rfl, .inl (T.gl "TooMany" (T.at_ 78 rfl))⟩ (exTab_of (T.at_ 115 rfl)) rfl rfl (by first | exact Or.inl rfl | exact Or.inr rfl) (.pre rfl rfl (T.fr "repr" (T.at_ 64 rfl)) rfl) (xfF_1 (T.at_ 116 rfl)) (xfF_2 (T.at_ 116 rfl)) (by decide) (by decide) .nil)))))) (TB _ (.tail _ (.head _))) (by rfl) hr (by decide) gd (LamX.lamS_by (by kernel_rfl)) (by rfl) (fun _ _ _ _ _ => by rfl) (fun A outer s H E f c' gd hr => by
    have hu := units64 hr
    have hu5 := units65 hr
    have hu3 := units50 hr
    exact (x_callO o_followed TB gd hr (by decide) lam_tk rfl (a_cons (x_var (pv 1)) (a_cons (x_var (pv 1)) (a_cons (x_var (pv 1)) (a_cons (x_var (pv 3)) (a_cons (x_var (pv 3)) a_nil))))))))))
  (ss_cons (s_set (i := 7) sc_law_ways_right.nd rfl (by first | exact Or.inl rfl | exact Or.inr rfl) (x_lst (a_cons x_str (a_cons x_str (a_cons x_str (a_cons x_str (a_cons x_str (a_cons x_str (a_cons x_str (a_cons x_str (a_cons x_str (a_cons x_str a_nil))))))))))))
  (ss_cons (s_ret (x_eq hu (x_var (pv 6)) (x_add (x_var (pv 7)) (x_lst (a_cons x_str a_nil)))))
  ss_nil)))))))))))))))))
theorem sc_law_right : FnScope n_law_right ["_law_trough_here"] (defScope s_law_right) := ⟨rfl, rfl, rfl, by decide +kernel, rfl, by decide +kernel, by decide +kernel⟩
theorem o_law_right (T : Tx exs fn ts w K mg) (TC : Cls cl K) (HP : PK P "/claim/cut.py") (o_Doubled___init__ : OkA (tf.map (·.1)) P w K mg (He.ma K (ga K "Doubled") "__init__") 5 f_Doubled___init__) (o_Doubled_one : OkA (tf.map (·.1)) P w K mg (He.ma K (ga K "Doubled") "one") 11 f_Doubled_one) (o_law_algebras_right : Ok (tf.map (·.1)) P w K mg "_law_algebras_right" 29 f_law_algebras_right) (o_law_one_of : Ok (tf.map (·.1)) P w K mg "_law_one_of" 3 f_law_one_of) (o_law_ways_right : Ok (tf.map (·.1)) P w K mg "_law_ways_right" 30 f_law_ways_right) : Ok (tf.map (·.1)) P w K mg "_law_right" 31 f_law_right := by
  obtain ⟨fd, F⟩ := T.fd 65 d_law_right rfl
  refine ⟨T.gl "_law_right" (T.at_ 46 rfl), F.kp, fun base TB => fn_ok F sc_law_right rfl (F.bindsA fun _ _ _ _ _ _ us hl => match us, hl with | [_], _ => rfl) fun cd A out s H E hr gd => ?_⟩
  have hu := units64 hr
  have hu5 := units65 hr
  have hu3 := units50 hr
  have tk : Takes (cxOf (L2.CX P w) P w K mg base n_law_right "_law_right" (defScope s_law_right) (ga K "_law_right") cd A out s H E) (WF E) := takes_of rfl rfl rfl rfl
  exact (ss_cons (s_set (i := 1) sc_law_right.nd rfl (by first | exact Or.inl rfl | exact Or.inr rfl) (x_make (He.mkr_ok (T.at_ 109 rfl)) o_Doubled___init__ TB gd hr (by decide) tk rfl (T.gl "Doubled" (T.at_ 50 rfl)) (a_cons (x_tup (a_cons (x_neg x_int) (a_cons (x_neg x_int) (a_cons (x_neg x_int) a_nil)))) a_nil)))
  (ss_cons (s_set (i := 2) sc_law_right.nd rfl (by first | exact Or.inl rfl | exact Or.inr rfl) (x_lst (a_cons x_non (a_cons x_int (a_cons (x_tup (a_cons (x_neg x_int) (a_cons (x_neg x_int) (a_cons (x_neg x_int) a_nil)))) (a_cons x_str (a_cons (x_make (He.mkr_ok (T.at_ 109 rfl)) o_Doubled___init__ TB gd hr (by decide) tk rfl (T.gl "Doubled" (T.at_ 50 rfl)) (a_cons (x_tup (a_cons (x_neg x_int) (a_cons (x_neg x_int) a_nil))) a_nil)) (a_cons (x_make (He.mkr_ok (T.at_ 109 rfl)) o_Doubled___init__ TB gd hr (by decide) tk rfl (T.gl "Doubled" (T.at_ 50 rfl)) (a_cons (x_tup a_nil) a_nil)) (a_cons (x_make (He.mkr_ok (T.at_ 109 rfl)) o_Doubled___init__ TB gd hr (by decide) tk rfl (T.gl "Doubled" (T.at_ 50 rfl)) (a_cons (x_tup (a_cons (x_neg x_int) (a_cons (x_neg x_int) (a_cons (x_neg x_int) (a_cons (x_neg x_int) a_nil))))) a_nil)) (a_cons (x_meth0 (k := 11) (meF_cons ((clsB_s (T.at_ 95 rfl)).1) (He.meth_ok (T.at_ 100 rfl)) o_Doubled_one (by decide) meF_nil) TB gd hr (by decide) tk (x_var (pv 1))) (a_cons (x_lst (a_cons (x_var (pv 1)) a_nil)) a_nil)))))))))))
  (ss_cons (s_set (i := 3) sc_law_right.nd rfl (by first | exact Or.inl rfl | exact Or.inr rfl) (x_callO o_law_one_of TB gd hr (by decide) tk rfl (a_cons (x_var (pv 0)) (a_cons (x_var (pv 2)) a_nil))))
  (ss_cons (s_ret (x_and (x_callO o_law_algebras_right TB gd hr (by decide) tk rfl (a_cons (x_var (pv 0)) (a_cons (x_var (pv 1)) (a_cons (x_var (pv 3)) a_nil)))) (x_one (x_callO o_law_ways_right TB gd hr (by decide) tk rfl (a_cons (x_var (pv 0)) (a_cons (x_var (pv 1)) (a_cons (x_var (pv 3)) a_nil)))))))
  ss_nil))))
theorem sc_law : FnScope n_law ["_law_script"] (defScope s_law) := ⟨rfl, rfl, rfl, by decide +kernel, rfl, by decide +kernel, by decide +kernel⟩
theorem o_law (T : Tx exs fn ts w K mg) (TC : Cls cl K) (HP : PK P "/claim/cut.py") (hs : OkA (tf.map (·.1)) P w K mg (He.ma K (ga K "Doubled") "__init__") 5 f_Doubled___init__ ∧ OkA (tf.map (·.1)) P w K mg (He.ma K (ga K "Doubled") "one") 11 f_Doubled_one ∧ OkA (tf.map (·.1)) P w K mg (He.ma K (ga K "Element") "__eq__") 5 f_Element___eq__ ∧ OkA (tf.map (·.1)) P w K mg (He.ma K (ga K "Element") "__init__") 7 f_Element___init__ ∧ OkA (tf.map (·.1)) P w K mg (He.ma K (ga K "Element") "__neg__") 10 f_Element___neg__ ∧ OkA (tf.map (·.1)) P w K mg (He.ma K (ga K "Element") "scaled") 10 f_Element_scaled ∧ Ok (tf.map (·.1)) P w K mg "_law_right" 31 f_law_right ∧ Ok (tf.map (·.1)) P w K mg "_law_trough" 2 f_law_trough) : Ok (tf.map (·.1)) P w K mg "law" 33 f_law := by
  obtain ⟨o_Doubled___init__, o_Doubled_one, o_Element___eq__, o_Element___init__, o_Element___neg__, o_Element_scaled, o_law_right, o_law_trough⟩ := hs
  obtain ⟨fd, F⟩ := T.fd 66 d_law rfl
  refine ⟨T.gl "law" (T.at_ 47 rfl), F.kp, fun base TB => fn_ok F sc_law rfl (F.bindsA fun _ _ _ _ _ _ us hl => match us, hl with | [_], _ => rfl) fun cd A out s H E hr gd => ?_⟩
  have hu := units64 hr
  have hu5 := units65 hr
  have hu3 := units50 hr
  have tk : Takes (cxOf (L2.CX P w) P w K mg base n_law "law" (defScope s_law) (ga K "law") cd A out s H E) (WF E) := takes_of rfl rfl rfl rfl
  exact (ss_cons (s_for (passes_of rfl) rfl (i_range1 rfl (T.fr "range" (T.at_ 63 rfl)) (a_cons (x_callB (call_max2 rfl) fInt2_s rfl (T.fr "max" (T.at_ 61 rfl)) bt_max (a_cons x_int (a_cons (x_callB (call_min2 rfl) fInt2_s rfl (T.fr "min" (T.at_ 62 rfl)) bt_min (a_cons x_int (a_cons (x_callB call_len fLen_s rfl (T.fr "len" (T.at_ 59 rfl)) bt_len (a_cons (x_var (pv 0)) a_nil)) a_nil))) a_nil))) a_nil)) (g_name (i := 1) sc_law.nd rfl (by first | exact Or.inl rfl | exact Or.inr rfl))
  (ss_cons (s_set (i := 2) sc_law.nd rfl (by first | exact Or.inl rfl | exact Or.inr rfl) (x_callO o_law_trough TB gd hr (by decide) tk rfl (a_cons (x_var (pv 0)) (a_cons (x_var (pv 1)) a_nil))))
  (ss_cons (s_if (PW.pt (w_or (t_not (t_tru (x_callO o_law_right TB gd hr (by decide) tk rfl (a_cons (x_var (pv 2)) a_nil)))) (w_or1 (t_not (t_tru (x_callO o_law_right TB gd hr (by decide) tk rfl (a_cons (x_var (pv 2)) a_nil)))))))
  (ss_cons (s_ret x_bl)
  ss_nil)
  ss_nil)
  ss_nil)))
  (ss_cons (s_ret (x_cmp (f := (oCmpO [("Element", f_Element___eq__)] own oEq)) (opR_or (op_cmpO (k := 5) (own := own) (fun _ _ => rfl) (cmF_cons (T.at_ 105 rfl) o_Element___eq__ (by decide) cmF_nil) TB gd hr (by decide)) (op_eq1 hu)) (oCmpO_s oEq_s) (x_make (He.mkr_ok (T.at_ 89 rfl)) o_Element___init__ TB gd hr (by decide) tk rfl (T.gl "Element" (T.at_ 52 rfl)) (a_cons (x_make (He.mkr_ok (T.at_ 109 rfl)) o_Doubled___init__ TB gd hr (by decide) tk rfl (T.gl "Doubled" (T.at_ 50 rfl)) (a_cons (x_tup (a_cons (x_negO (k := 10) (ngF_cons (T.at_ 106 rfl) o_Element___neg__ (by decide) ngF_nil) TB gd hr (by decide) x_int) (a_cons (x_negO (k := 10) (ngF_cons (T.at_ 106 rfl) o_Element___neg__ (by decide) ngF_nil) TB gd hr (by decide) x_int) (a_cons (x_negO (k := 10) (ngF_cons (T.at_ 106 rfl) o_Element___neg__ (by decide) ngF_nil) TB gd hr (by decide) x_int) a_nil)))) a_nil)) (a_cons (x_mulT (x_tup (a_cons x_int a_nil)) x_int) a_nil))) (x_meth (k := 10) (meF_cons ((clsB_s (T.at_ 93 rfl)).1) (He.meth_ok (T.at_ 102 rfl)) o_Element_scaled (by decide) meF_nil) TB gd hr (by decide) tk (x_meth0 (k := 11) (meF_cons ((clsB_s (T.at_ 95 rfl)).1) (He.meth_ok (T.at_ 100 rfl)) o_Doubled_one (by decide) meF_nil) TB gd hr (by decide) tk (x_make (He.mkr_ok (T.at_ 109 rfl)) o_Doubled___init__ TB gd hr (by decide) tk rfl (T.gl "Doubled" (T.at_ 50 rfl)) (a_cons (x_tup (a_cons (x_negO (k := 10) (ngF_cons (T.at_ 106 rfl) o_Element___neg__ (by decide) ngF_nil) TB gd hr (by decide) x_int) (a_cons (x_negO (k := 10) (ngF_cons (T.at_ 106 rfl) o_Element___neg__ (by decide) ngF_nil) TB gd hr (by decide) x_int) (a_cons (x_negO (k := 10) (ngF_cons (T.at_ 106 rfl) o_Element___neg__ (by decide) ngF_nil) TB gd hr (by decide) x_int) a_nil)))) a_nil))) (a_cons x_int a_nil)) (nomark _)))
  ss_nil))
theorem all (T : Tx exs fn ts w K mg) (TC : Cls cl K) (HP : PK P "/claim/cut.py") : Ok (tf.map (·.1)) P w K mg "law" 33 f_law := by
  have q_require_algebra := o_require_algebra (P := P) (w := w) T TC HP 
  have q_common_of := o_common_of (P := P) (w := w) T TC HP 
  have q_lowest := o_lowest (P := P) (w := w) T TC HP q_common_of
  have q_Parts___init__ := o_Parts___init__ (P := P) (w := w) T TC HP q_lowest
  have q_is_whole := o_is_whole (P := P) (w := w) T TC HP 
  have q_is_integer := o_is_integer (P := P) (w := w) T TC HP q_is_whole
  have q_parts_told := o_parts_told (P := P) (w := w) T TC HP q_Parts___init__ q_is_integer
  have q_Element___init__ := o_Element___init__ (P := P) (w := w) T TC HP q_parts_told q_require_algebra
  have q_law_trough := o_law_trough (P := P) (w := w) T TC HP 
  have q_are_squares := o_are_squares (P := P) (w := w) T TC HP q_is_integer
  have q_norm_weights := o_norm_weights (P := P) (w := w) T TC HP 
  have q_Doubled___init__ := o_Doubled___init__ (P := P) (w := w) T TC HP q_are_squares q_norm_weights
  have q_require_integer := o_require_integer (P := P) (w := w) T TC HP q_is_integer
  have q_Ratio___init__ := o_Ratio___init__ (P := P) (w := w) T TC HP q_common_of q_require_integer
  have q_Terms___init__ := o_Terms___init__ (P := P) (w := w) T TC HP 
  have q_ratio_of := o_ratio_of (P := P) (w := w) T TC HP q_Ratio___init__ q_Terms___init__
  have q_told_ratio := o_told_ratio (P := P) (w := w) T TC HP q_is_integer q_ratio_of
  have q_element_made := o_element_made (P := P) (w := w) T TC HP q_Element___init__ q_Parts___init__
  have q_raw_scaled := o_raw_scaled (P := P) (w := w) T TC HP 
  have q_Ratio_top := o_Ratio_top (P := P) (w := w) T TC HP 
  have q_Ratio_bottom := o_Ratio_bottom (P := P) (w := w) T TC HP 
  have q_Element_bottom := o_Element_bottom (P := P) (w := w) T TC HP 
  have q_Element_scaled := o_Element_scaled (P := P) (w := w) T TC HP ⟨q_Element_bottom, q_Ratio_bottom, q_Ratio_top, q_element_made, q_raw_scaled, q_told_ratio⟩
  have q_law_ladle := o_law_ladle (P := P) (w := w) T TC HP 
  have q_law_one_of := o_law_one_of (P := P) (w := w) T TC HP q_law_ladle
  have q_unit_of := o_unit_of (P := P) (w := w) T TC HP q_element_made
  have q_Doubled_one := o_Doubled_one (P := P) (w := w) T TC HP q_unit_of
  have q_is_eight := o_is_eight (P := P) (w := w) T TC HP 
  have q_require_eights := o_require_eights (P := P) (w := w) T TC HP q_is_eight
  have q_Doubled_is_definite := o_Doubled_is_definite (P := P) (w := w) T TC HP 
  have q_are_alike := o_are_alike (P := P) (w := w) T TC HP q_Doubled_is_definite q_require_eights
  have q_require_small := o_require_small (P := P) (w := w) T TC HP 
  have q_Element_algebra := o_Element_algebra (P := P) (w := w) T TC HP 
  have q_Doubled___eq__ := o_Doubled___eq__ (P := P) (w := w) T TC HP 
  have q_require_same_algebra := o_require_same_algebra (P := P) (w := w) T TC HP q_Doubled___eq__
  have q_raw_sum := o_raw_sum (P := P) (w := w) T TC HP 
  have q_raw_mate := o_raw_mate (P := P) (w := w) T TC HP 
  have q_raw_product := o_raw_product (P := P) (w := w) T TC HP q_raw_mate q_raw_scaled q_raw_sum
  have q_Element___mul__ := o_Element___mul__ (P := P) (w := w) T TC HP q_element_made q_raw_product q_require_same_algebra
  have q_units_by := o_units_by (P := P) (w := w) T TC HP q_Doubled_one q_Element___mul__ q_Element_algebra
  have q_Element___add__ := o_Element___add__ (P := P) (w := w) T TC HP q_element_made q_raw_scaled q_raw_sum q_require_same_algebra
  have q_sum_by := o_sum_by (P := P) (w := w) T TC HP q_Element___add__ q_Element_scaled
  have q_led_by := o_led_by (P := P) (w := w) T TC HP q_ratio_of q_sum_by
  have q_way_on := o_way_on (P := P) (w := w) T TC HP q_led_by q_units_by
  have q_images := o_images (P := P) (w := w) T TC HP q_Doubled_is_definite q_require_eights q_require_small q_way_on
  have q_Element___eq__ := o_Element___eq__ (P := P) (w := w) T TC HP q_Doubled___eq__
  have q_Element___neg__ := o_Element___neg__ (P := P) (w := w) T TC HP q_element_made q_raw_scaled
  have q_do_turn := o_do_turn (P := P) (w := w) T TC HP q_Element___eq__ q_Element___mul__ q_Element___neg__
  have q_Element_is_ratio := o_Element_is_ratio (P := P) (w := w) T TC HP 
  have q_is_worth := o_is_worth (P := P) (w := w) T TC HP q_Element_is_ratio
  have q_is_element_of := o_is_element_of (P := P) (w := w) T TC HP q_Doubled___eq__
  have q_are_images := o_are_images (P := P) (w := w) T TC HP q_Element___eq__ q_Element___mul__ q_do_turn q_is_element_of q_is_worth
  have q_is_images := o_is_images (P := P) (w := w) T TC HP q_are_images q_require_eights
  have q_require_wanted := o_require_wanted (P := P) (w := w) T TC HP q_is_integer
  have q_with_square := o_with_square (P := P) (w := w) T TC HP ⟨q_Doubled_is_definite, q_element_made, q_led_by, q_require_eights, q_require_small, q_require_wanted, q_units_by⟩
  have q_is_with_square := o_is_with_square (P := P) (w := w) T TC HP q_is_element_of q_is_worth q_require_eights q_require_wanted
  have q_law_algebras_right := o_law_algebras_right (P := P) (w := w) T TC HP ⟨q_Doubled___init__, q_law_one_of, q_are_alike, q_images, q_is_images, q_is_with_square, q_with_square⟩
  have q_Doubled_units := o_Doubled_units (P := P) (w := w) T TC HP q_unit_of
  have q_require_images := o_require_images (P := P) (w := w) T TC HP q_are_images
  have q_require_element_of := o_require_element_of (P := P) (w := w) T TC HP q_is_element_of
  have q_led := o_led (P := P) (w := w) T TC HP q_led_by q_require_eights q_require_element_of q_require_images q_units_by
  have q_taken_back := o_taken_back (P := P) (w := w) T TC HP q_require_eights q_require_images
  have q_followed := o_followed (P := P) (w := w) T TC HP q_require_eights q_require_images q_way_on
  have q_law_ways_right := o_law_ways_right (P := P) (w := w) T TC HP ⟨q_Doubled___init__, q_Doubled_one, q_Doubled_units, q_law_one_of, q_followed, q_led, q_taken_back⟩
  have q_law_right := o_law_right (P := P) (w := w) T TC HP q_Doubled___init__ q_Doubled_one q_law_algebras_right q_law_one_of q_law_ways_right
  have q_law := o_law (P := P) (w := w) T TC HP ⟨q_Doubled___init__, q_Doubled_one, q_Element___eq__, q_Element___init__, q_Element___neg__, q_Element_scaled, q_law_right, q_law_trough⟩
  exact q_law
end
theorem tabs {w : World} {K : PySem.W.Frag} {mg : Str → Option Value} (T : Tx exs fn ts w K mg) : (tf.map fun p => (He.cT K p.1).2).Nodup := by
  exact of_decide_eq_true (T.at_ 118 rfl)
end LW
namespace LW
open PySem PySem.Spec L2 AW
theorem lt_some {α : Type} {L : List α} {i : Nat} {x : α} (h : L[i]? = some x) : i < L.length := by
  by_cases z : i < L.length
  · exact z
  · rw [List.getElem?_eq_none (by omega)] at h; cases h
theorem get_last {g : G} {c : Cell} : (g ++ [c])[g.length]? = some c := by simp
def JG (x : Cell) : Prop := ∃ a b c : Int, x = .lst [.int a, .int b, .int c]
def Pots (g : G) : Prop := ∃ js : G, g = g0 tf ++ js ∧ ∀ x ∈ js, JG x
theorem t2_len : (g0 tf).length = 2 := rfl
theorem pots_set {g : G} {i : Nat} {a b c : Int} (h : Pots g) (hi : 2 ≤ i) : Pots (g.set i (.lst [.int a, .int b, .int c])) := by
  obtain ⟨js, rfl, h⟩ := h
  refine ⟨js.set (i - 2) (.lst [.int a, .int b, .int c]), ?_, fun x hx => ?_⟩
  · rw [List.set_append, t2_len, if_neg (by omega)]
  · rcases List.mem_or_eq_of_mem_set hx with h1 | h1
    · exact h x h1
    · exact ⟨a, b, c, h1⟩
theorem pots_add {g : G} {a b c : Int} (h : Pots g) : Pots (g ++ [.lst [.int a, .int b, .int c]]) := by
  obtain ⟨js, rfl, h⟩ := h
  refine ⟨js ++ [.lst [.int a, .int b, .int c]], by rw [List.append_assoc], fun x hx => ?_⟩
  rcases List.mem_append.1 hx with h1 | h1
  · exact h x h1
  · exact ⟨a, b, c, List.mem_singleton.1 h1⟩
theorem pots_len {g : G} (h : Pots g) : 2 ≤ g.length := by
  obtain ⟨js, rfl, h⟩ := h
  rw [List.length_append, t2_len]
  omega
def Pot (i : Nat) (k : Int) (g : G) : Prop := (Pots g ∧ 2 ≤ i) ∧ ∃ a b c, g[i]? = some (.lst [.int a, .int b, .int c]) ∧ 0 ≤ a ∧ 0 ≤ b ∧ b < 1000000000000000000000000000 ∧ 0 ≤ c ∧ c ≤ k
theorem Pot.lt {i : Nat} {k : Int} {g : G} (h : Pot i k g) : i < g.length := by
  obtain ⟨_, _, _, _, h, _⟩ := h
  exact lt_some h
theorem Pot.mono {i : Nat} {k l : Int} {g : G} (h : Pot i k g) (hk : k ≤ l) : Pot i l g := by
  obtain ⟨h0, a, b, c, h1, h2, h3, h4, h5, h6⟩ := h
  exact ⟨h0, a, b, c, h1, h2, h3, h4, h5, by omega⟩
theorem ladle_wp {i : Nat} {k n : Int} {g cs : G} {Q : D → G → Prop} (h : Pot i k g) (hk : k < 1000000000) (h0 : 0 < n) (h1 : n < 1000000000000)
    (q : ∀ r g', 0 ≤ r → r < n → Pot i (k + 1) g' → g'.length = g.length → Q (.int r) (g' ++ cs)) : (f_law_ladle [.ref i, .int n] (g ++ cs)).wp Q := by
  have hi := h.lt
  obtain ⟨hcl, a, b, c, hg0, ha, hb, hb', hc, hc'⟩ := h
  have hg : (g ++ cs)[i]? = some (.lst [.int a, .int b, .int c]) := by
    rw [List.getElem?_append_left hi]
    exact hg0
  have fin : ∀ r a' c', 0 ≤ r → r < n → 0 ≤ a' → 0 ≤ c' → c' ≤ c + 1 → Q (.int r) ((g ++ cs).set i (.lst [.int a', .int b, .int c'])) := by
    intro r a' c' h2 h3 h4 h5 h6
    rw [List.set_append, if_pos hi]
    exact q r _ h2 h3 ⟨⟨pots_set hcl.1 hcl.2, hcl.2⟩, a', b, c', get_set hg0, h4, hb, hb', h5, by omega⟩ (by simp)
  clear q hg0
  generalize g ++ cs = g at *
  have e0 : oIx (.ref i) (.int 0) g = .ok (.int a) g := oIx_ref hg (n := 0) rfl rfl
  have e2 : oIx (.ref i) (.int 2) g = .ok (.int c) g := oIx_ref hg (n := 2) rfl rfl
  have f1 : oIx (.ref i) (.int 1) (g.set i (.lst [.int a, .int b, .int (c + 1)])) = .ok (.int b) _ := oIx_ref (get_set hg) (n := 1) rfl rfl
  have f2 : oIx (.ref i) (.int 2) (g.set i (.lst [.int a, .int b, .int (c + 1)])) = .ok (.int (c + 1)) _ := oIx_ref (get_set hg) (n := 2) rfl rfl
  refine wp_callS rfl ?_
  unfold b_law_ladle
  have h2 : n ≤ 115792089237316195423570985008687907853269984665640564039457584007913129639936 := by omega
  simp -implicitDefEqProofs [e0, oMod_p, oFdiv_p, h0, h2, setP_at (j := 0) 0 hg rfl, setP_at (j := 2) 2 hg rfl, e2, f1, f2]
  refine pick_dec (fun h => ?_) fun h => ?_
  · exact fin _ _ _ (Int.emod_nonneg _ (by omega)) (Int.emod_lt_of_pos _ h0) (Int.ediv_nonneg ha (by omega)) hc (by omega)
  · have m1 := Int.emod_nonneg (b + 8191999 * (c + 1)) (b := 2305843009213693951) (by omega)
    have m2 := Int.emod_lt_of_pos (b + 8191999 * (c + 1)) (b := 2305843009213693951) (by omega)
    generalize (b + 8191999 * (c + 1)) % 2305843009213693951 = x at m1 m2
    have m3 := Int.emod_nonneg (x * x + 157 * (c + 1)) (b := 2305843009213693951) (by omega)
    have m4 := Int.emod_lt_of_pos (x * x + 157 * (c + 1)) (b := 2305843009213693951) (by omega)
    refine ⟨cMul_b (by omega) (by omega) (by omega) (by omega), cMul_b (by omega) (by omega) (by omega) (by omega), cMul_b (by omega) (by omega) (by omega) (by omega), cMul_b (by omega) (by omega) (by omega) (by omega), ?_⟩
    exact fin _ a (c + 1) (Int.emod_nonneg _ (by omega)) (Int.emod_lt_of_pos _ h0) ha (by omega) (by omega)
theorem ladle_wp0 {i : Nat} {k n : Int} {g : G} {Q : D → G → Prop} (h : Pot i k g) (hk : k < 1000000000) (h0 : 0 < n) (h1 : n < 1000000000000)
    (q : ∀ r g', 0 ≤ r → r < n → Pot i (k + 1) g' → g'.length = g.length → Q (.int r) g') : (f_law_ladle [.ref i, .int n] g).wp Q := by
  have := ladle_wp (cs := []) h hk h0 h1 (Q := Q) fun r g' a b c d => by
    rw [List.append_nil]
    exact q r g' a b c d
  rw [List.append_nil] at this
  exact this
theorem pot_wp {ns : List Int} {at' : Nat} {g : G} {Q : D → G → Prop} (ha : at' < 100) (hps : Pots g)
    (q : ∀ g', Pot g.length 0 g' → g'.length = g.length + 1 → Q (.ref g.length) g') : (f_law_trough [.seq (ns.map D.int), .int at'] g).wp Q := by
  refine wp_callK rfl ?_
  unfold b_law_trough
  rw [wp_cons, wp_set]
  refine Res.wp_mono (Q := fun d g' => g' = g ∧ ∃ v, d = .int v) ?_ ?_
  · simp -implicitDefEqProofs
    refine pick_dec (fun h => ?_) fun h => cMul_b (by omega) (by omega) (by omega) (by omega)
    have e : (ns.map D.int)[at']? = some (D.int (ns[at'])) := by simp [h]
    rw [oIx_seq e rfl]
    exact ⟨rfl, _, rfl⟩
  · rintro d g' ⟨rfl, v, rfl⟩
    have p1 : oPow (.int 10) (.int 56) = fun g => .ok (.int 100000000000000000000000000000000000000000000000000000000) g := by funext g; exact oPow_c (by decide +kernel)
    have p2 : oPow (.int 100000000000000000000000000000000000000000000000000000000) (.int 5) = fun g => .ok (.int (100000000000000000000000000000000000000000000000000000000 ^ 5)) g := by funext g; exact oPow_c (by decide +kernel)
    have p3 : oPow (.int 10) (.int 16) = fun g => .ok (.int (10 ^ 16)) g := by funext g; exact oPow_c (by decide +kernel)
    have hp : (0 : Int) < 100000000000000000000000000000000000000000000000000000000 ^ 5 := by decide +kernel
    generalize (100000000000000000000000000000000000000000000000000000000 ^ 5 : Int) = gr at hp p2
    simp -implicitDefEqProofs [p1, p2, p3, oMod_p, hp]
    generalize ((if v < 0 then -v else v) % gr) = x
    have m3 := Int.emod_nonneg x (b := 2147483629) (by omega)
    have m4 := Int.emod_lt_of_pos x (b := 2147483629) (by omega)
    refine ⟨cMul_b (by omega) (by omega) (by omega) (by omega), cMul_b (by omega) (by omega) (by omega) (by omega), cMul_b (by omega) (by omega) (by split <;> omega) (by split <;> omega), by rfl, ?_⟩
    refine q _ ⟨⟨pots_add hps, pots_len hps⟩, _, _, _, get_last, ?_, ?_, ?_, by omega, by omega⟩ (by simp) <;> repeat' split
    all_goals omega
theorem one_of_wp {i : Nat} {k : Int} {g cs : G} {xs : List D} {Q : D → G → Prop} (h : Pot i k g) (hk : k < 1000000) (h0 : 0 < xs.length) (h1 : xs.length < 1000)
    (q : ∀ d g', d ∈ xs → Pot i (k + 1) g' → g'.length = g.length → Q d (g' ++ cs)) : (f_law_one_of [.ref i, .lst xs] (g ++ cs)).wp Q := by
  refine wp_callS rfl ?_
  unfold b_law_one_of
  rw [show (List.map some [D.ref i, .lst xs] ++ List.replicate (2 - 2) none) = [some (.ref i), some (.lst xs)] from rfl]
  rw [wp_cons, wp_ret, wp_eOp, eVar_succ, eVar_0, wp_ok, wp_eCall, wp_aCons, eVar_0, wp_ok, wp_aCons, wp_eCall, wp_aCons, eVar_succ, eVar_0, wp_ok, aNil_ok, wp_ok, fLen_lst, wp_ok, aNil_ok, wp_ok]
  refine ladle_wp h (by omega) (by omega) (by omega) fun r g' hr0 hr1 p1 l1 => ?_
  have hi : r.toNat < xs.length := by omega
  rw [oIx_lst (n := r.toNat) (List.getElem?_eq_getElem hi) (by omega), wp_ok]
  exact ⟨by rw [List.length_append, List.length_append, l1], q _ _ (List.getElem_mem hi) p1 l1⟩
theorem nx_of {r : SRes} {σ : Sg} {g : G} {N B C : Sg → G → Prop} {R : D → G → Prop} (h : r = .nx σ g) (q : N σ g) : r.wp N R B C := by
  rw [h]
  exact q
theorem rt_of {r : SRes} {d : D} {g : G} {N B C : Sg → G → Prop} {R : D → G → Prop} (h : r = .rt d g) (q : R d g) : r.wp N R B C := by
  rw [h]
  exact q
theorem val_of {α : Type} {r : Res α} {d : α} {g : G} {Q : α → G → Prop} (h : r = .ok d g) (q : Q d g) : r.wp Q := by
  rw [h]
  exact q
theorem wp_appendL {o a : Ev} {σ : Sg} {g : G} {d : D} {Q : D → G → Prop} {xs : List D} (ho : o σ (g ++ [.lst xs]) = .ok (.ref g.length) (g ++ [.lst xs])) (ha : a σ (g ++ [.lst xs]) = .ok d (g ++ [.lst xs])) (hl : xs.length < 100000) (q : Q .non (g ++ [.lst (xs ++ [d])])) : (eAppend o a σ (g ++ [.lst xs])).wp Q := by
  have hk : lmOf (g ++ [.lst xs]) g.length = some xs := by unfold lmOf; simp
  unfold eAppend eMeth
  rw [ho]
  show (match lmOf (g ++ [.lst xs]) g.length with | some _ => _ | none => _ : Res D).wp Q
  rw [hk]
  dsimp only
  unfold aCons aNil
  rw [ha]
  show (mAppend g.length [d] (g ++ [.lst xs])).wp Q
  unfold mAppend
  dsimp only
  rw [hk]
  dsimp only
  rw [wp_okIf]
  refine ⟨decide_eq_true hl, ?_⟩
  rw [List.set_append, if_neg (by omega), Nat.sub_self]
  exact q
theorem cl_pots4 {g : G} (h : Pots g) : ∀ n, g.all (Cell.cln n) = true := by
  obtain ⟨js, rfl, h⟩ := h
  intro n
  rw [List.all_append]
  have e1 : (g0 tf).all (Cell.cln n) = true := rfl
  rw [e1, Bool.true_and, List.all_eq_true]
  intro x hx
  obtain ⟨a, b, c, rfl⟩ := h x hx
  rfl
theorem settle_pots {b : Bool} {g cs : G} {n : Nat} {Q : D → G → Prop} (h : Pots g) (hn : g.length = n) (q : Q (.bl b) g) : (AW.settle n (.bl b) (g ++ cs)).wp Q := by
  unfold AW.settle
  by_cases z : (g ++ cs).length = n
  · rw [if_pos z]
    have : cs = [] := by rw [List.length_append] at z; exact List.length_eq_zero_iff.1 (by omega)
    rw [this, List.append_nil]
    exact q
  · rw [if_neg z, if_pos (by rw [List.length_append]; omega)]
    have e1 : (g ++ cs).take n = g := by rw [← hn]; simp
    rw [e1, cl_pots4 h]
    exact q
def jg (t : Int × Int × Int) : Cell := .lst [.int t.1, .int t.2.1, .int t.2.2]
def sp (ts : List (Int × Int × Int)) : G := g0 tf ++ ts.map jg
/-- true at each of the three spines -/
def Ev3 (P : G → Prop) : Prop := (∀ t, P (sp [t])) ∧ (∀ t u, P (sp [t, u])) ∧ ∀ t u v, P (sp [t, u, v])
theorem jgs_of : ∀ {js : G}, (∀ x ∈ js, JG x) → ∃ ts : List (Int × Int × Int), js = ts.map jg
  | [], _ => ⟨[], rfl⟩
  | x :: js, h => by
    obtain ⟨ts, rfl⟩ := jgs_of (js := js) fun y hy => h y (List.mem_cons_of_mem _ hy)
    obtain ⟨a, b, c, rfl⟩ := h x List.mem_cons_self
    exact ⟨(a, b, c) :: ts, rfl⟩
theorem ev3 {P : G → Prop} (e : Ev3 P) {g : G} {k : Nat} (h : Pots g) (hl : g.length = 2 + (k + 1)) (hk : k ≤ 2) : P g := by
  obtain ⟨js, rfl, h⟩ := h
  obtain ⟨ts, rfl⟩ := jgs_of h
  rw [List.length_append, t2_len, List.length_map] at hl
  match k, hk, ts, hl with
  | 0, _, [t], _ => exact e.1 t
  | 1, _, [t, u], _ => exact e.2.1 t u
  | 2, _, [t, u, v], _ => exact e.2.2 t u v
  | 0, _, [], hl => simp at hl
  | 1, _, [], hl => simp at hl
  | 2, _, [], hl => simp at hl
  | 1, _, [_], hl => simp at hl
  | 2, _, [_], hl => simp at hl
  | 2, _, [_, _], hl => simp at hl
  | 0, _, _ :: _ :: _, hl => (simp at hl; omega)
  | 1, _, _ :: _ :: _ :: _, hl => (simp at hl; omega)
  | 2, _, _ :: _ :: _ :: _ :: _, hl => (simp at hl; omega)
end LW
namespace LW
open PySem PySem.Spec L2 AW
def Cl (g : G) : Prop := ∀ n, g.all (Cell.cln n) = true
def Sz (k : Nat) (i : Int) : Prop := i.natAbs < 2 ^ k
theorem Sz.mul {a b : Nat} {i j : Int} (h : Sz a i) (h' : Sz b j) : Sz (a + b) (i * j) := by
  unfold Sz at *
  rw [Int.natAbs_mul, Nat.pow_add]
  exact Nat.mul_lt_mul'' h h'
theorem Sz.add {a : Nat} {i j : Int} (h : Sz a i) (h' : Sz a j) : Sz (a + 1) (i + j) := by
  unfold Sz at *
  have := Int.natAbs_add_le i j
  rw [Nat.pow_succ]
  omega
theorem Sz.mono {a b : Nat} {i : Int} (h : Sz a i) (l : a ≤ b) : Sz b i := Nat.lt_of_lt_of_le h (Nat.pow_le_pow_right (by decide) l)
theorem lgS {k : Nat} {i : Int} (h : Sz k i) : i.natAbs.log2 ≤ k := by
  by_cases z : i.natAbs = 0
  · rw [z]; exact Nat.zero_le _
  · exact Nat.le_of_lt ((Nat.log2_lt z).2 h)
theorem cMul_z {a b : Nat} {i j : Int} (h : Sz a i) (h' : Sz b j) (l : a + b < 900000) : cMul i j = true := by
  have h1 := lgS h
  have h2 := lgS h'
  exact decide_eq_true (by omega)
section
variable {g : G} {x t b : Int} {d : D} {xs : List D}
def gI (g : G) (a b n : Nat) (σ : Sg) (g' : G) : Prop := g' = g ∧ ∃ x y : Nat, σ = [some (.int (x : Int)), some (.int (y : Int))] ∧ Nat.gcd x y = Nat.gcd a b ∧ ((y ≤ x ∧ x * y < 2 ^ n) ∨ ∃ m, n = m + 1 ∧ x * y < 2 ^ m)
theorem abs_nat (a : Int) : (if a < 0 then -a else a) = ((a.natAbs : Nat) : Int) := by split <;> omega
theorem common_eq {a b : Int} (ha : Sz 900 a) (hb : Sz 900 b) : f_common_of [.int a, .int b] g = .ok (.int ((Nat.gcd a.natAbs b.natAbs : Nat) : Int)) g := by
  refine ok_of (wp_callS rfl ?_)
  unfold b_common_of
  refine wp_cut (fun σ g' => g' = g ∧ σ = [some (.int ((a.natAbs : Nat) : Int)), some (.int ((b.natAbs : Nat) : Int))]) ?_ ?_
  · simp -implicitDefEqProofs only [wp_par, wp_eCall, wp_aCons, aNil_ok, List.map, List.cons_append, List.nil_append, eVar_0, eVar_succ, wp_ok, fAbs_i, abs_nat]
    refine ⟨?_, ?_⟩ <;> first | trivial | rfl
  rintro _ g ⟨rfl, rfl⟩
  refine wp_cut (fun σ g2 => g2 = g ∧ ∃ y : D, σ = [some (.int ((Nat.gcd a.natAbs b.natAbs : Nat) : Int)), some y]) ?_ ?_
  · refine wp_while (gI g a.natAbs b.natAbs) 100000 1801 (by omega) _ _ ⟨rfl, a.natAbs, b.natAbs, rfl, rfl, .inr ⟨1800, rfl, ?_⟩⟩ ?_
    · rw [show (1800 : Nat) = 900 + 900 from rfl, Nat.pow_add]
      exact Nat.mul_lt_mul'' ha hb
    · rintro n σ g ⟨rfl, x, y, rfl, hg, hm⟩
      simp -implicitDefEqProofs only [wp_eTst, wp_eOp, eVar_0, eVar_succ, wp_ok, eC_ok, oNe_ii, tstP_bl]
      by_cases hy : y = 0
      · subst hy
        rw [show (!decide (((0 : Nat) : Int) = 0)) = false from rfl, pick_f]
        rw [Nat.gcd_zero_right] at hg
        exact ⟨by first | trivial | rfl, .int 0, by rw [hg]; rfl⟩
      · have hyp : 0 < y := Nat.pos_of_ne_zero hy
        rw [show (!decide ((y : Int) = 0)) = true by rw [decide_eq_false (by omega)]; rfl, pick_t]
        simp -implicitDefEqProofs only [wp_cons, wp_nil, wp_par, wp_eOp, eVar_0, eVar_succ, wp_ok]
        rw [oMod_p (by omega), wp_ok]
        have hml : x % y < y := Nat.mod_lt _ hyp
        have hmx : x % y ≤ x := Nat.mod_le _ _
        have hgc : Nat.gcd y (x % y) = Nat.gcd a.natAbs b.natAbs := by
          rw [← hg, Nat.gcd_comm x y, Nat.gcd_rec y x, Nat.gcd_comm]
        have key : ∃ m, m < n ∧ y * (x % y) < 2 ^ m := by
          rcases hm with ⟨h1, h2⟩ | ⟨m, rfl, h2⟩
          · have h3 : 2 * (x % y) ≤ x := by
              have := Nat.div_add_mod x y
              have h4 : 1 ≤ x / y := (Nat.one_le_div_iff hyp).2 h1
              have h5 : y * 1 ≤ y * (x / y) := Nat.mul_le_mul_left y h4
              omega
            cases n with
            | zero =>
              have : 1 ≤ x * y := Nat.mul_pos (by omega) hyp
              simp at h2
              omega
            | succ n =>
              refine ⟨n, Nat.lt_succ_self n, ?_⟩
              rw [Nat.pow_succ] at h2
              have h6 : y * (2 * (x % y)) ≤ y * x := Nat.mul_le_mul_left y h3
              have h7 : y * (2 * (x % y)) = 2 * (y * (x % y)) := by rw [Nat.mul_left_comm]
              have h8 : y * x = x * y := Nat.mul_comm _ _
              omega
          · refine ⟨m, Nat.lt_succ_self m, Nat.lt_of_le_of_lt ?_ h2⟩
            rw [Nat.mul_comm x y]
            exact Nat.mul_le_mul_left y hmx
        obtain ⟨m, hmn, hlt⟩ := key
        exact ⟨m, hmn, rfl, y, x % y, by simp [List.set], hgc, .inl ⟨Nat.le_of_lt hml, hlt⟩⟩
  rintro _ g ⟨rfl, y, rfl⟩
  simp -implicitDefEqProofs only [wp_cons, wp_ret, eVar_0, wp_ok]
  refine ⟨?_, ?_, ?_⟩ <;> first | trivial | rfl
end
def fldP (tb : STab) (f : Str) (ov d : D) (g : G) (N : G → Prop) : Prop := match putFld tb f ov d g with
  | some g2 => N g2
  | none => False
theorem wp_fld {tb : STab} {f : Str} {o e : Ev} {σ : Sg} {N B C : Sg → G → Prop} {R : D → G → Prop} : (AW.sFld tb f o e σ g).wp N R B C = (e σ g).wp fun d g1 => (o σ g1).wp fun ov g2 => fldP tb f ov d g2 fun g3 => N σ g3 := by
  unfold AW.sFld
  rw [wp_sbind]
  congr
  funext d g1
  rw [wp_sbind]
  congr
  funext ov g2
  unfold fldP
  cases putFld tb f ov d g2 <;> rfl
section
variable {g : G} {x t b : Int} {d : D} {xs : List D}
theorem set_0 {a b c : Cell} : (g ++ [a, b]).set g.length c = g ++ [c, b] := by
  induction g with
  | nil => rfl
  | cons x g ih => simp [ih]
theorem set_1 {a b c : Cell} : (g ++ [a, b]).set (g.length + 1) c = g ++ [a, c] := by
  induction g with
  | nil => rfl
  | cons x g ih => simp [ih]
theorem get_0 {a b : Cell} : (g ++ [a, b])[g.length]? = some a := by simp
theorem get_1 {a b : Cell} : (g ++ [a, b])[g.length + 1]? = some b := by
  rw [List.getElem?_append_right (by omega)]
  simp
end
section
variable {g : G} {c : Str}
theorem wp_eq_g {r : Res D} {d : D} {g1 : G} (h : r.wp fun y g2 => y = d ∧ g2 = g1) : r = .ok d g1 := by
  obtain ⟨y, g2, h1, rfl, rfl⟩ := Res.wp_eq h
  exact h1
theorem eAttr_sl {tb : STab} {ps : List (Str × Fn)} {f : Str} {a : Ev} {σ : Sg} {d r : D} (h : a σ g = .ok d g) (e1 : fldOf tb f g d = some r) : eAttr tb ps f a σ g = .ok r g := by
  unfold eAttr
  rw [h]
  dsimp only [Res.bind]
  rw [e1]
end
def mD (xs : List Int) : D := .tup (xs.map D.int)
section
variable {g : G}
theorem pys_ints : ∀ L : List Int, D.pys (L.map D.int) = some (L.map PyData.int)
  | [] => rfl
  | n :: L => by
    rw [List.map_cons, List.map_cons, D.pys, D.py, pys_ints L]
theorem canLay_ints : ∀ L : List Int, PyData.canLayAll0 (L.map PyData.int) = true
  | [] => by rw [List.map_nil, PyData.canLayAll0.eq_1]
  | n :: L => by rw [List.map_cons, PyData.canLayAll0.eq_2, canLay_ints L, PyData.canLay0.eq_3]; rfl
theorem depth_ints : ∀ L : List Int, PyData.depthAll (L.map PyData.int) = 0
  | [] => by rw [List.map_nil, PyData.depthAll]
  | n :: L => by rw [List.map_cons, PyData.depthAll, depth_ints L]; simp [PyData.depth]
theorem eqv_ints : ∀ (L M : List Int), PyData.eqvAll (L.map PyData.int) (M.map PyData.int) = decide (L = M)
  | [], [] => by rw [List.map_nil, PyData.eqvAll]; rfl
  | [], m :: M => by rw [List.map_nil, List.map_cons, PyData.eqvAll]; rfl
  | l :: L, [] => by rw [List.map_nil, List.map_cons, PyData.eqvAll]; rfl
  | l :: L, m :: M => by
    rw [List.map_cons, List.map_cons, PyData.eqvAll, eqv_ints L M, PyData.eqv]
    rw [Bool.eq_iff_iff, Bool.and_eq_true, beq_iff_eq, decide_eq_true_iff, decide_eq_true_iff, List.cons.injEq]
theorem shaped_tup (L : List Int) : SeqAt.shaped (.tuple (L.map PyData.int)) = true := by
  unfold SeqAt.shaped
  rw [PyData.canLay0, canLay_ints, PyData.depth, depth_ints]
  rfl
theorem eqD_mD {a b : List Int} : eqD g (mD a) (mD b) = some (decide (a = b)) := by
  have h : ∀ L : List Int, pyG g (mD L) = some (.tuple (L.map PyData.int)) := fun L => by
    show D.py (.tup (L.map D.int)) = _
    rw [D.py, pys_ints]
  show (match pyG g (mD a), pyG g (mD b) with | some p, some q => if (SeqAt.shaped p && SeqAt.shaped q) = true then some (PyData.eqv p q) else lenNe g (mD a) (mD b) | _, _ => lenNe g (mD a) (mD b)) = _
  rw [h, h]
  dsimp only
  rw [shaped_tup, shaped_tup, PyData.eqv, eqv_ints]
  rfl
theorem oEq_mD {a b : List Int} : oEq (mD a) (mD b) g = .ok (.bl (decide (a = b))) g := by
  unfold oEq
  rw [eqD_mD]
theorem lcL_a {α : Type} {gv : Gv} {te : Ev} {s : Sg} (P : α → D) (F : α → D) : ∀ (xs : List α), (∀ x ∈ xs, ∃ s1, gv (P x) s g = some (s1, g) ∧ te s1 g = .ok (F x) g) → lcL gv tvYes te s (xs.map P) g = .ok (xs.map F) g
  | [], _ => rfl
  | x :: r, h => by
    obtain ⟨s1, h1, h2⟩ := h x (List.mem_cons_self ..)
    have ih := lcL_a P F r fun e he => h e (List.mem_cons_of_mem _ he)
    rw [List.map_cons, lcL_cons]
    have e : lcT gv tvYes te s (P x) g = .ok (some (F x)) g := by
      unfold lcT
      rw [h1]
      show (match te s1 g with | .ok y g3 => Res.ok (some y) g3 | _ => .no) = _
      rw [h2]
    rw [e]
    dsimp only
    rw [ih]
    rfl
theorem blsOf_map {α : Type} (f : α → Bool) : ∀ L : List α, blsOf (L.map fun x => D.bl (f x)) = some (L.map f)
  | [] => rfl
  | x :: L => by
    show (match blsOf (L.map fun x => D.bl (f x)) with | some is => some (f x :: is) | none => none) = _
    rw [blsOf_map f L]
    rfl
theorem fAll_map {α : Type} {f : α → Bool} {L : List α} : fAll [.lst (L.map fun x => D.bl (f x))] g = .ok (.bl (L.all f)) g := by
  show (match blsOf (L.map fun x => D.bl (f x)) with | some is => Res.ok (D.bl (is.all id)) g | none => .no) = _
  rw [blsOf_map]
  dsimp only
  rw [List.all_map]
  rfl
theorem ints_map : ∀ L : List Int, intsOf (L.map D.int) = some L
  | [] => rfl
  | i :: L => by
    show (match intsOf (L.map D.int) with | some is => some (i :: is) | none => none) = _
    rw [ints_map L]
theorem small_le {xs : List D} (h : xs.length ≤ 100000) : small xs = true := decide_eq_true h
theorem frz_ints {g : G} {k z : Nat} : ∀ L : List Int, omap (frz g k (z + 1)) (L.map D.int) = some (L.map D.int)
  | [] => rfl
  | i :: L => by
    rw [List.map_cons, omap, frz_ints L]
    rfl
theorem frz_m {g : G} {k z : Nat} (a : List Int) : frz g k (z + 2) (mD a) = some (mD a) := by
  show (match omap (frz g k (z + 1)) (a.map D.int) with | some ys => some (D.tup ys) | none => none) = _
  rw [frz_ints]
  rfl
theorem isTup {xs : List D} : fIsi own (.bt .tup) (.tup xs) g = .ok (.bl true) g := by kernel_rfl
theorem len_m {a : List Int} : fLen [mD a] g = .ok (.int (a.length : Int)) g := by
  show fLen [.tup (a.map D.int)] g = _
  rw [fLen_tup, List.length_map]
theorem tup_l {xs : List D} : fTuple [.lst xs] g = .ok (.tup xs) g := rfl
theorem sl_to {L : List D} {n : Nat} (h : n ≤ L.length) : cutD L none (some (n : Int)) = L.take n := cut_to rfl h
theorem sl_from {L : List D} {n : Nat} (h : n ≤ L.length) : cutD L (some (n : Int)) none = L.drop n := cut_from rfl h
def gF (e : List Int) (b : Int) : Nat := e.foldl (fun s x => Nat.gcd s x.natAbs) b.natAbs
def lessF (e : List Int) (b : Int) : Int := if b < 0 then -((gF e b : Nat) : Int) else ((gF e b : Nat) : Int)
def lowE (e : List Int) (b : Int) : List Int := e.map fun x => Int.fdiv x (lessF e b)
def lowB (e : List Int) (b : Int) : Int := Int.fdiv b (lessF e b)
theorem gfold_dvd : ∀ (e : List Int) (n : Nat), e.foldl (fun s x => Nat.gcd s x.natAbs) n ∣ n ∧ ∀ x ∈ e, e.foldl (fun s x => Nat.gcd s x.natAbs) n ∣ x.natAbs
  | [], n => ⟨Nat.dvd_refl n, fun x h => by cases h⟩
  | y :: e, n => by
    obtain ⟨h1, h2⟩ := gfold_dvd e (Nat.gcd n y.natAbs)
    rw [List.foldl_cons]
    refine ⟨Nat.dvd_trans h1 (Nat.gcd_dvd_left _ _), fun x hx => ?_⟩
    rcases List.mem_cons.1 hx with rfl | hx
    · exact Nat.dvd_trans h1 (Nat.gcd_dvd_right _ _)
    · exact h2 x hx
theorem gfold_mul (k : Nat) : ∀ (e : List Int) (m : Int) (n : Nat), m.natAbs = k → (e.map (m * ·)).foldl (fun s x => Nat.gcd s x.natAbs) (k * n) = k * e.foldl (fun s x => Nat.gcd s x.natAbs) n
  | [], m, n, _ => rfl
  | y :: e, m, n, h => by
    rw [List.map_cons, List.foldl_cons, List.foldl_cons, Int.natAbs_mul, h, Nat.gcd_mul_left]
    exact gfold_mul k e m _ h
theorem gF_b {e : List Int} {b : Int} : gF e b ∣ b.natAbs := (gfold_dvd e b.natAbs).1
theorem gF_e {e : List Int} {b x : Int} (h : x ∈ e) : gF e b ∣ x.natAbs := (gfold_dvd e b.natAbs).2 x h
theorem gF_pos {e : List Int} {b : Int} (hb : b ≠ 0) : 0 < gF e b := Nat.pos_of_dvd_of_pos gF_b (by omega)
theorem less_ne' {e : List Int} {b : Int} (hb : b ≠ 0) : lessF e b ≠ 0 := by
  have := gF_pos (e := e) hb
  unfold lessF
  split <;> omega
theorem less_abs {e : List Int} {b : Int} : (lessF e b).natAbs = gF e b := by unfold lessF; split <;> omega
theorem less_dvd {e : List Int} {b x : Int} (h : x ∈ e) : lessF e b ∣ x := Int.natAbs_dvd_natAbs.1 (by rw [less_abs]; exact gF_e h)
theorem less_dvdb {e : List Int} {b : Int} : lessF e b ∣ b := Int.natAbs_dvd_natAbs.1 (by rw [less_abs]; exact gF_b)
theorem fdiv_c {c q : Int} (hc : c ≠ 0) : Int.fdiv (c * q) c = q := by rw [Int.fdiv_eq_ediv_of_dvd (Int.dvd_mul_right c q), Int.mul_ediv_cancel_left q hc]
theorem back_e {e : List Int} {b : Int} (hb : b ≠ 0) : (lowE e b).map (lessF e b * ·) = e := by
  unfold lowE
  rw [List.map_map]
  refine (List.map_congr_left fun x hx => ?_).trans (List.map_id _)
  obtain ⟨q, hq⟩ := less_dvd (b := b) hx
  show lessF e b * Int.fdiv x (lessF e b) = x
  rw [hq, fdiv_c (less_ne' hb)]
theorem back_b {e : List Int} {b : Int} (hb : b ≠ 0) : lessF e b * lowB e b = b := by
  have h0 := less_ne' (e := e) hb
  obtain ⟨q, hq⟩ := less_dvdb (e := e) (b := b)
  unfold lowB
  generalize lessF e b = l at *
  rw [hq, fdiv_c h0]
theorem gF_mul {e : List Int} {b k : Int} : gF (e.map (k * ·)) (k * b) = k.natAbs * gF e b := by
  unfold gF
  rw [Int.natAbs_mul]
  exact gfold_mul k.natAbs e k b.natAbs rfl
theorem less_mul {e : List Int} {b k : Int} (hk : k ≠ 0) (hb : b ≠ 0) : lessF (e.map (k * ·)) (k * b) = k * lessF e b := by
  have hg := gF_pos (e := e) hb
  unfold lessF
  rw [gF_mul]
  generalize gF e b = n at *
  by_cases h1 : 0 < k
  · by_cases h2 : b < 0
    · rw [if_pos (Int.mul_neg_of_pos_of_neg h1 h2), if_pos h2, Int.natCast_mul, Int.mul_neg]
      congr 2
      omega
    · rw [if_neg (by have := Int.mul_pos h1 (show 0 < b by omega); omega), if_neg h2, Int.natCast_mul]
      congr 1
      omega
  · by_cases h2 : b < 0
    · rw [if_neg (by have := Int.mul_pos_of_neg_of_neg (show k < 0 by omega) h2; omega), if_pos h2, Int.natCast_mul, Int.mul_neg, ← Int.neg_mul]
      congr 1
      omega
    · rw [if_pos (Int.mul_neg_of_neg_of_pos (show k < 0 by omega) (show 0 < b by omega)), if_neg h2, Int.natCast_mul, ← Int.neg_mul]
      congr 1
      omega
theorem lowE_mul {e : List Int} {b k : Int} (hk : k ≠ 0) (hb : b ≠ 0) : lowE (e.map (k * ·)) (k * b) = lowE e b := by
  have h0 := less_ne' (e := e) hb
  unfold lowE
  rw [List.map_map, less_mul hk hb]
  refine List.map_congr_left fun x hx => ?_
  obtain ⟨q, hq⟩ := less_dvd (b := b) hx
  show Int.fdiv (k * x) (k * lessF e b) = Int.fdiv x (lessF e b)
  generalize lessF e b = l at *
  rw [hq, fdiv_c h0, ← Int.mul_assoc, fdiv_c (by intro z; rcases Int.mul_eq_zero.1 z with z | z <;> contradiction)]
theorem lowB_mul {e : List Int} {b k : Int} (hk : k ≠ 0) (hb : b ≠ 0) : lowB (e.map (k * ·)) (k * b) = lowB e b := by
  have h0 := less_ne' (e := e) hb
  obtain ⟨q, hq⟩ := less_dvdb (e := e) (b := b)
  unfold lowB
  rw [less_mul hk hb]
  generalize lessF e b = l at *
  rw [hq, fdiv_c h0, ← Int.mul_assoc, fdiv_c (by intro z; rcases Int.mul_eq_zero.1 z with z | z <;> contradiction)]
theorem lowB_pos {e : List Int} {b : Int} (hb : b ≠ 0) : 0 < lowB e b := by
  have h1 := back_b (e := e) hb
  have h2 := gF_pos (e := e) hb
  have h3 : lessF e b = if b < 0 then -((gF e b : Nat) : Int) else ((gF e b : Nat) : Int) := rfl
  generalize lowB e b = c at *
  by_cases z : b < 0
  · rw [if_pos z] at h3
    by_cases y : 0 < c
    · exact y
    · have := Int.mul_nonneg_of_nonpos_of_nonpos (a := lessF e b) (b := c) (by omega) (by omega)
      omega
  · rw [if_neg z] at h3
    by_cases y : 0 < c
    · exact y
    · have := Int.mul_nonpos_of_nonneg_of_nonpos (a := lessF e b) (b := c) (by omega) (by omega)
      omega
theorem q_le {x l q : Int} (hl : l ≠ 0) (h : x = l * q) : q.natAbs ≤ x.natAbs := by
  rw [h, Int.natAbs_mul]
  exact Nat.le_mul_of_pos_left _ (by omega)
theorem lowE_sz {e : List Int} {b : Int} {k : Nat} (hb : b ≠ 0) (h : ∀ x ∈ e, Sz k x) : ∀ x ∈ lowE e b, Sz k x := fun x hx => by
  obtain ⟨y, hy, rfl⟩ := List.mem_map.1 hx
  obtain ⟨q, hq⟩ := less_dvd (b := b) hy
  have h0 := less_ne' (e := e) hb
  have hs := h y hy
  show Sz k (Int.fdiv y (lessF e b))
  generalize lessF e b = l at *
  have := q_le h0 hq
  rw [hq, fdiv_c h0]
  exact Nat.lt_of_le_of_lt this hs
theorem lowB_sz {e : List Int} {b : Int} {k : Nat} (hb : b ≠ 0) (h : Sz k b) : Sz k (lowB e b) := by
  obtain ⟨q, hq⟩ := less_dvdb (e := e) (b := b)
  have h0 := less_ne' (e := e) hb
  unfold lowB
  generalize lessF e b = l at *
  have := q_le h0 hq
  rw [hq, fdiv_c h0]
  exact Nat.lt_of_le_of_lt this h
theorem lowE_len {e : List Int} {b : Int} : (lowE e b).length = e.length := by unfold lowE; rw [List.length_map]
theorem shares_wp {A B : D} {N B' C : Sg → G → Prop} {R : D → G → Prop} : ∀ (e : List Int) (n : Nat) (c : Option D), 0 < n → n < 2 ^ 900 → (∀ x ∈ e, Sz 900 x) → (∀ c', N [some A, some B, some (.int ((e.foldl (fun s x => Nat.gcd s x.natAbs) n : Nat) : Int)), c'] g) →
    (sForL (gvName 3) (sCons (sSet 2 (eCall f_common_of (aCons (eVar 2) (aCons (eVar 3) aNil)))) sNil) (e.map D.int) [some A, some B, some (.int (n : Int)), c] g).wp N R B' C
  | [], n, c, _, _, _, q => q c
  | x :: e, n, c, h0, hn, hs, q => by
    have hg : 0 < Nat.gcd n x.natAbs := Nat.gcd_pos_of_pos_left _ h0
    have hl : Nat.gcd n x.natAbs < 2 ^ 900 := Nat.lt_of_le_of_lt (Nat.gcd_le_left _ h0) hn
    have ce : f_common_of [.int (n : Int), .int x] g = .ok (.int ((Nat.gcd n x.natAbs : Nat) : Int)) g := common_eq (a := (n : Int)) hn (hs x (List.mem_cons_self ..))
    rw [List.map_cons, wp_forL_cons, gvP_name]
    show SRes.wp (sCons _ _ [some A, some B, some (.int (n : Int)), some (.int x)] g) _ _ _ _
    have ih := shares_wp (A := A) (B := B) (N := N) (B' := B') (C := C) (R := R) e (Nat.gcd n x.natAbs) (some (.int x)) hg hl (fun y hy => hs y (List.mem_cons_of_mem _ hy)) q
    rw [wp_cons, wp_set, wp_eCall, wp_aCons]
    show (Res.wp (Res.ok (D.int (n : Int)) g) _)
    rw [wp_ok, wp_aCons]
    show (Res.wp (Res.ok (D.int x) g) _)
    rw [wp_ok, aNil_ok, wp_ok, ce, wp_ok, wp_nil]
    exact ih
theorem fdiv_l {e : List Int} {b x : Int} (hb : b ≠ 0) (h : Sz 900 b) : oFdiv (.int x) (.int (lessF e b)) g = .ok (.int (Int.fdiv x (lessF e b))) g := by
  show (if cDiv x (lessF e b) = true then _ else _) = _
  have h0 := less_ne' (e := e) hb
  have h1 : Sz 900 (lessF e b) := by
    show (lessF e b).natAbs < 2 ^ 900
    rw [less_abs]
    exact Nat.lt_of_le_of_lt (Nat.le_of_dvd (by omega) gF_b) h
  have h3 := lgS h1
  have h2 : cDiv x (lessF e b) = true := by
    unfold cDiv
    rw [decide_eq_true (by omega), decide_eq_true (by omega)]
    rfl
  rw [if_pos h2]
theorem lowest_eq {e : List Int} {b : Int} (hb : b ≠ 0) (hs : ∀ x ∈ e, Sz 900 x) (hz : Sz 900 b) (hl : e.length ≤ 1000) : f_lowest [mD e, .int b] g = .ok (.tup [mD (lowE e b), .int (lowB e b)]) g := by
  refine ok_of ?_
  unfold f_lowest
  generalize hds : [mD e, D.int b] = ds
  refine wp_callS (by rw [← hds]; rfl) ?_
  rw [← hds]
  unfold b_lowest
  rw [show (List.map some [mD e, D.int b] ++ List.replicate (4 - 2) none) = [some (mD e), some (.int b), none, none] from rfl]
  refine wp_cut (fun σ g' => g' = g ∧ σ = [some (mD e), some (.int b), some (.int ((b.natAbs : Nat) : Int)), none]) ?_ ?_
  · rw [wp_set, wp_eCall, wp_aCons, eVar_succ, eVar_0, wp_ok, aNil_ok, wp_ok, fAbs_i, abs_nat, wp_ok]
    exact ⟨rfl, rfl⟩
  rintro _ g' ⟨eg, rfl⟩
  subst eg
  refine wp_cut (fun σ g2 => g2 = g' ∧ ∃ c, σ = [some (mD e), some (.int b), some (.int ((gF e b : Nat) : Int)), c]) ?_ ?_
  · refine wp_forF ?_
    rw [wp_iSeq, eVar_0, wp_ok]
    show (Res.wp (ivOf (.tup (e.map D.int)) g') _)
    rw [ivOf_tup, wp_ok]
    exact ⟨_, rfl, shares_wp e b.natAbs none (by omega) hz hs fun c' => ⟨rfl, c', rfl⟩⟩
  rintro _ g2 ⟨eg, c, rfl⟩
  subst eg
  refine wp_cut (fun σ g3 => g3 = g2 ∧ ∃ c, σ = [some (mD e), some (.int b), some (.int (lessF e b)), c]) ?_ ?_
  · rw [wp_if, wp_eTst, wp_eOp, eVar_succ, eVar_0, wp_ok, eC_ok, wp_ok, oLt_ii, wp_ok, tstP_bl]
    unfold lessF
    refine pick_dec (fun h => ?_) fun h => ?_
    · rw [if_pos h, wp_cons, wp_set, wp_eUn, eVar_succ, eVar_succ, eVar_0, wp_ok, oNeg_i, wp_ok, wp_nil]
      exact ⟨rfl, c, rfl⟩
    · rw [if_neg h, wp_nil]
      exact ⟨rfl, c, rfl⟩
  rintro _ g3 ⟨eg, c, rfl⟩
  subst eg
  have l1 : lcL (gvName 3) tvYes (eOp oFdiv (eVar 3) (eVar 2)) [some (mD e), some (.int b), some (.int (lessF e b)), none] (e.map D.int) g3 = .ok ((lowE e b).map D.int) g3 := by
    unfold lowE
    rw [List.map_map]
    refine lcL_a _ _ e fun x hx => ⟨[some (mD e), some (.int b), some (.int (lessF e b)), some (.int x)], rfl, ?_⟩
    refine ok_of ?_
    rw [wp_eOp]
    show (Res.wp (Res.ok (D.int x) g3) _)
    rw [wp_ok]
    show (Res.wp (Res.ok (D.int (lessF e b)) g3) _)
    rw [wp_ok, fdiv_l hb hz]
    exact ⟨rfl, rfl⟩
  rw [wp_cons, wp_ret, wp_eTup, wp_aCons, wp_eCall, wp_aCons, wp_eLc, wp_iSeq, eVar_0, wp_ok]
  show (Res.wp (ivOf (.tup (e.map D.int)) g3) _)
  rw [ivOf_tup, wp_ok, wp_noEx, lcAll_fix, wipeD_cons, wipeD_nil]
  show (lcL _ _ _ [some (mD e), some (.int b), some (.int (lessF e b)), none] (e.map D.int) g3).wp _
  rw [l1, wp_ok]
  refine ⟨small_le (by rw [List.length_map, lowE_len]; omega), ?_⟩
  rw [aNil_ok, wp_ok, tup_l, wp_ok, wp_aCons, wp_eOp, eVar_succ, eVar_0, wp_ok, eVar_succ, eVar_succ, eVar_0, wp_ok, fdiv_l hb hz, wp_ok, aNil_ok, wp_ok]
  exact ⟨rfl, rfl, rfl, rfl⟩
end
section
variable {g : G}
theorem gvP_fld {tb : STab} {f : Str} {o : Ev} {d : D} {σ : Sg} {N : Sg → G → Prop} {ov : D} (h : o σ g = .ok ov g) : gvP (gvFld tb f o d σ g) N = fldP tb f ov d g (fun g2 => N σ g2) := by
  unfold gvFld fldP gvP
  rw [h]
  dsimp only
  cases putFld tb f ov d g <;> rfl
theorem put_new {c f : Str} {i : Nat} {d : D} {N : G → Prop} (hc : sIx stab c f = some i) (h : N (g ++ [.xd, .ins c g.length (putD i d [])])) : fldP stab f (.ref (g.length + 1)) d (g ++ [.own, .new c g.length]) N := by
  have e : putFld stab f (.ref (g.length + 1)) d (g ++ [.own, .new c g.length]) = some (g ++ [.xd, .ins c g.length (putD i d [])]) := by
    unfold putFld
    dsimp only
    rw [get_1]
    dsimp only
    unfold insSet
    rw [hc]
    dsimp only
    rw [set_0, set_1]
  unfold fldP
  rw [e]
  exact h
theorem put_more {c f : Str} {i : Nat} {d : D} {fs : List (Option D)} {N : G → Prop} (hc : sIx stab c f = some i) (h : N (g ++ [.xd, .ins c g.length (putD i d fs)])) : fldP stab f (.ref (g.length + 1)) d (g ++ [.xd, .ins c g.length fs]) N := by
  have e : putFld stab f (.ref (g.length + 1)) d (g ++ [.xd, .ins c g.length fs]) = some (g ++ [.xd, .ins c g.length (putD i d fs)]) := by
    unfold putFld
    dsimp only
    rw [get_1]
    dsimp only
    rw [get_0]
    dsimp only
    unfold insSet
    rw [hc]
    dsimp only
    rw [set_0, set_1]
  unfold fldP
  rw [e]
  exact h
theorem settle_n {c : Str} {fs : List (Option D)} {xs : List D} (hg : g.all (Cell.cln g.length) = true) (ha : allSome fs = some xs) (hx : ∀ k g, omap (frz g k 63) xs = some xs) : AW.settle g.length (.ref (g.length + 1)) (g ++ [.xd, .ins c g.length fs]) = .ok (.ins c xs) g := by
  unfold AW.settle
  rw [if_neg (by simp), if_pos (by simp)]
  have e1 : (g ++ [Cell.xd, .ins c g.length fs]).take g.length = g := by simp
  rw [e1, hg]
  have e2 : frz (g ++ [Cell.xd, .ins c g.length fs]) g.length 64 (.ref (g.length + 1)) = some (.ins c xs) := by
    show frz _ _ (63 + 1) _ = _
    unfold frz
    dsimp only
    rw [if_neg (by omega), get_1]
    dsimp only
    rw [if_neg (by omega), get_0]
    dsimp only
    rw [ha]
    dsimp only
    rw [hx]
  rw [e2]
theorem makeN {c : Str} {fn : Fn} {ds : List D} {fs : List (Option D)} {xs : List D} (hg : g.all (Cell.cln g.length) = true) (ha : allSome fs = some xs) (hx : ∀ k g, omap (frz g k 63) xs = some xs) (h : fn (.ref (g.length + 1) :: ds) (g ++ [.own, .new c g.length]) = .ok .non (g ++ [.xd, .ins c g.length fs])) : eMakeF c fn ds g = .ok (.ins c xs) g := by
  unfold eMakeF
  rw [List.append_assoc]
  show (match fn (.ref (g.length + 1) :: ds) (g ++ [.own, .new c g.length]) with | .ok .non g' => AW.settle g.length (.ref (g.length + 1)) g' | .ex e g' => settleX g.length e g' | _ => Res.no) = _
  rw [h]
  exact settle_n hg ha hx
theorem sPe : sIx stab "Parts" "own_entries" = some 1 := by kernel_rfl
theorem sPb : sIx stab "Parts" "own_bottom" = some 0 := by kernel_rfl
theorem sEa : sIx stab "Element" "own_algebra" = some 0 := by kernel_rfl
theorem sEb : sIx stab "Element" "own_bottom" = some 1 := by kernel_rfl
theorem sEe : sIx stab "Element" "own_entries" = some 2 := by kernel_rfl
def alg (s : List Int) : D := .ins "Doubled" [.int ((2 ^ s.length : Nat) : Int), mD s]
def Pt (e : List Int) (b : Int) : D := .ins "Parts" [.int (lowB e b), mD (lowE e b)]
def El (s e : List Int) (b : Int) : D := .ins "Element" [alg s, .int (lowB e b), mD (lowE e b)]
theorem omap_2 {h : D → Option D} {x y : D} (hx : h x = some x) (hy : h y = some y) : omap h [x, y] = some [x, y] := by
  rw [omap, omap, omap, hx, hy]
theorem omap_3 {h : D → Option D} {x y z : D} (hx : h x = some x) (hy : h y = some y) (hz : h z = some z) : omap h [x, y, z] = some [x, y, z] := by
  rw [omap, omap, omap, omap, hx, hy, hz]
theorem frz_i {g : G} {k z : Nat} {i : Int} : frz g k (z + 1) (.int i) = some (.int i) := rfl
theorem frz_alg {g : G} {k : Nat} {s : List Int} : frz g k 63 (alg s) = some (alg s) := by
  show frz g k (62 + 1) (.ins "Doubled" [.int ((2 ^ s.length : Nat) : Int), mD s]) = _
  unfold frz
  dsimp only
  rw [omap_2 (h := frz g k 62) (frz_i (z := 61)) (frz_m (z := 60) s)]
  rfl
theorem frz_m63 {g : G} {k : Nat} {a : List Int} : frz g k 63 (mD a) = some (mD a) := frz_m (z := 61) a
theorem parts_eq {e : List Int} {b : Int} (hg : g.all (Cell.cln g.length) = true) (hb : b ≠ 0) (hs : ∀ x ∈ e, Sz 900 x) (hz : Sz 900 b) (hl : e.length ≤ 1000) : eMakeF "Parts" f_Parts___init__ [mD e, .int b] g = .ok (Pt e b) g := by
  refine makeN (fs := [some (.int (lowB e b)), some (mD (lowE e b))]) hg rfl (fun k g => omap_2 (frz_i (z := 62)) frz_m63) (wp_eq_g ?_)
  unfold f_Parts___init__
  generalize hds : [D.ref (g.length + 1), mD e, .int b] = ds
  refine wp_callK (by rw [← hds]; rfl) ?_
  rw [← hds]
  unfold b_Parts___init__
  rw [show (List.map some [D.ref (g.length + 1), mD e, .int b] ++ List.replicate (3 - 3) none) = [some (.ref (g.length + 1)), some (mD e), some (.int b)] from rfl]
  rw [wp_cons, wp_asg, wp_eCall, wp_aCons, eVar_succ, eVar_0, wp_ok, wp_aCons, eVar_succ, eVar_succ, eVar_0, wp_ok, aNil_ok, wp_ok, lowest_eq hb hs hz hl, wp_ok, gvP_sqT, if_pos (show [mD (lowE e b), D.int (lowB e b)].length = 2 from rfl), gvP_cons, gvP_fld (ov := .ref (g.length + 1)) rfl]
  refine put_new sPe ?_
  rw [gvP_cons, gvP_fld (ov := .ref (g.length + 1)) rfl]
  refine put_more sPb ?_
  rw [gvP_nil, wp_nil]
  exact ⟨rfl, rfl⟩
theorem isParts {e : List Int} {b : Int} : fIsi own (.own "Parts") (Pt e b) g = .ok (.bl true) g := by
  unfold Pt
  generalize [D.int (lowB e b), mD (lowE e b)] = xs
  kernel_rfl
theorem isAlg {s : List Int} : fIsi own (.own "Doubled") (alg s) g = .ok (.bl true) g := by
  unfold alg
  generalize [D.int ((2 ^ s.length : Nat) : Int), mD s] = xs
  kernel_rfl
theorem reqalg_eq {s : List Int} : f_require_algebra [alg s] g = .ok .non g := by
  refine ok_of (wp_callS rfl ?_)
  unfold b_require_algebra
  rw [wp_cons, wp_if, wp_eNotT, wp_eTru, wp_eIsi]
  show (Res.wp (Res.ok (alg s) g) _)
  rw [wp_ok, isAlg, wp_ok, truP_bl, Bool.not_true, pick_f, wp_nil, wp_nil]
  refine ⟨?_, ?_, ?_⟩ <;> first | trivial | rfl
theorem ptold_p {s e : List Int} {b : Int} {z : D} : f_parts_told [alg s, Pt e b, z] g = .ok (Pt e b) g := by
  refine ok_of (wp_callS rfl ?_)
  unfold b_parts_told
  rw [show (List.map some [alg s, Pt e b, z] ++ List.replicate (4 - 3) none) = [some (alg s), some (Pt e b), some z, none] from rfl]
  rw [wp_cons, wp_if, wp_eTru, wp_eIsi, eVar_succ, eVar_0, wp_ok, isParts, wp_ok, truP_bl, pick_t, wp_cons, wp_ret, eVar_succ, eVar_0, wp_ok]
  refine ⟨?_, ?_, ?_⟩ <;> first | trivial | rfl
theorem fP_b {e : List Int} {b : Int} {σ : Sg} {a : Ev} (h : a σ g = .ok (Pt e b) g) : eAttr stab [] "own_bottom" a σ g = .ok (.int (lowB e b)) g := eAttr_sl h (by
  unfold Pt
  generalize D.int (lowB e b) = x
  generalize mD (lowE e b) = y
  kernel_rfl)
theorem fP_e {e : List Int} {b : Int} {σ : Sg} {a : Ev} (h : a σ g = .ok (Pt e b) g) : eAttr stab [] "own_entries" a σ g = .ok (mD (lowE e b)) g := eAttr_sl h (by
  unfold Pt
  generalize D.int (lowB e b) = x
  generalize mD (lowE e b) = y
  kernel_rfl)
theorem initE_eq {s e : List Int} {b : Int} {x z : D} (h : f_parts_told [alg s, x, z] (g ++ [.own, .new "Element" g.length]) = .ok (Pt e b) (g ++ [.own, .new "Element" g.length])) : callK 4 5 b_Element___init__ [.ref (g.length + 1), alg s, x, z] (g ++ [.own, .new "Element" g.length]) = .ok .non (g ++ [.xd, .ins "Element" g.length [some (alg s), some (.int (lowB e b)), some (mD (lowE e b))]]) := by
  refine wp_eq_g ?_
  generalize hds : [D.ref (g.length + 1), alg s, x, z] = ds
  refine wp_callK (by rw [← hds]; rfl) ?_
  rw [← hds]
  unfold b_Element___init__
  rw [show (List.map some [D.ref (g.length + 1), alg s, x, z] ++ List.replicate (5 - 4) none) = [some (.ref (g.length + 1)), some (alg s), some x, some z, none] from rfl]
  rw [wp_cons, wp_expr, wp_eCall, wp_aCons, eVar_succ, eVar_0, wp_ok, aNil_ok, wp_ok, reqalg_eq, wp_ok]
  rw [wp_cons, wp_set, wp_eCall, wp_aCons, eVar_succ, eVar_0, wp_ok, wp_aCons, eVar_succ, eVar_succ, eVar_0, wp_ok, wp_aCons, eVar_succ, eVar_succ, eVar_succ, eVar_0, wp_ok, aNil_ok, wp_ok, h, wp_ok]
  have v4 : ∀ g : G, eVar 4 [some (.ref (g.length + 1)), some (alg s), some x, some z, some (Pt e b)] g = .ok (Pt e b) g := fun _ => rfl
  generalize hs0 : ([some (D.ref (g.length + 1)), some (alg s), some x, some z, none] : Sg).set 4 (some (Pt e b)) = s0
  have v0 : ∀ g', eVar 0 s0 g' = .ok (.ref (g.length + 1)) g' := fun g' => by rw [← hs0]; rfl
  have v1 : ∀ g', eVar 1 s0 g' = .ok (alg s) g' := fun g' => by rw [← hs0]; rfl
  have v4 : ∀ g', eVar 4 s0 g' = .ok (Pt e b) g' := fun g' => by rw [← hs0]; rfl
  rw [wp_cons, wp_fld, v1, wp_ok, v0, wp_ok]
  refine put_new sEa ?_
  rw [wp_cons, wp_fld, fP_b (v4 _), wp_ok, v0, wp_ok]
  refine put_more sEb ?_
  rw [wp_cons, wp_fld, fP_e (v4 _), wp_ok, v0, wp_ok]
  refine put_more sEe ?_
  rw [wp_nil]
  exact ⟨rfl, rfl⟩
theorem elem_of {s e : List Int} {b : Int} {ds : List D} (hg : Cl g) (h : f_Element___init__ (.ref (g.length + 1) :: ds) (g ++ [.own, .new "Element" g.length]) = .ok .non (g ++ [.xd, .ins "Element" g.length [some (alg s), some (.int (lowB e b)), some (mD (lowE e b))]])) : eMakeF "Element" f_Element___init__ ds g = .ok (El s e b) g :=
  makeN (fs := [some (alg s), some (.int (lowB e b)), some (mD (lowE e b))]) (hg _) rfl (fun k g => omap_3 frz_alg (frz_i (z := 62)) frz_m63) h
theorem made_eq {s e : List Int} {b : Int} (hg : Cl g) (hb : b ≠ 0) (hs : ∀ x ∈ e, Sz 900 x) (hz : Sz 900 b) (hl : e.length ≤ 1000) : f_element_made [alg s, mD e, .int b] g = .ok (El s e b) g := by
  have e1 : eMakeF "Element" f_Element___init__ [alg s, Pt e b] g = .ok (El s e b) g := by
    refine elem_of hg ?_
    show callK 4 5 b_Element___init__ [.ref (g.length + 1), alg s, Pt e b, .int 1] _ = _
    exact initE_eq ptold_p
  have e0 : f_element_made [alg s, mD e, .int b] = callD 3 3 b_element_made [alg s, mD e, .int b] := rfl
  rw [e0]
  refine ok_of (wp_callS rfl ?_)
  unfold b_element_made
  rw [show (List.map some [alg s, mD e, D.int b] ++ List.replicate (3 - 3) none) = [some (alg s), some (mD e), some (.int b)] from rfl]
  rw [wp_cons, wp_ret, wp_eCall, wp_aCons, eVar_0, wp_ok, wp_aCons, wp_eCall, wp_aCons, eVar_succ, eVar_0, wp_ok, wp_aCons, eVar_succ, eVar_succ, eVar_0, wp_ok, aNil_ok, wp_ok, parts_eq (hg _) hb hs hz hl, wp_ok, aNil_ok, wp_ok, e1, wp_ok]
  refine ⟨?_, ?_, ?_⟩ <;> first | trivial | rfl
theorem fA_d {s : List Int} {σ : Sg} {a : Ev} (h : a σ g = .ok (alg s) g) : eAttr stab [] "own_dimension" a σ g = .ok (.int ((2 ^ s.length : Nat) : Int)) g := eAttr_sl h (by
  unfold alg
  generalize D.int ((2 ^ s.length : Nat) : Int) = x
  generalize mD s = y
  kernel_rfl)
theorem fA_s {s : List Int} {σ : Sg} {a : Ev} (h : a σ g = .ok (alg s) g) : eAttr stab [] "own_squares" a σ g = .ok (mD s) g := eAttr_sl h (by
  unfold alg
  generalize D.int ((2 ^ s.length : Nat) : Int) = x
  generalize mD s = y
  kernel_rfl)
theorem fE_a {s e : List Int} {b : Int} {σ : Sg} {a : Ev} (h : a σ g = .ok (El s e b) g) : eAttr stab [] "own_algebra" a σ g = .ok (alg s) g := eAttr_sl h (by
  unfold El
  generalize alg s = w
  generalize D.int (lowB e b) = x
  generalize mD (lowE e b) = y
  kernel_rfl)
theorem fE_b {s e : List Int} {b : Int} {σ : Sg} {a : Ev} (h : a σ g = .ok (El s e b) g) : eAttr stab [] "own_bottom" a σ g = .ok (.int (lowB e b)) g := eAttr_sl h (by
  unfold El
  generalize alg s = w
  generalize D.int (lowB e b) = x
  generalize mD (lowE e b) = y
  kernel_rfl)
theorem fE_e {s e : List Int} {b : Int} {σ : Sg} {a : Ev} (h : a σ g = .ok (El s e b) g) : eAttr stab [] "own_entries" a σ g = .ok (mD (lowE e b)) g := eAttr_sl h (by
  unfold El
  generalize alg s = w
  generalize D.int (lowB e b) = x
  generalize mD (lowE e b) = y
  kernel_rfl)
end
def scL (e : List Int) (f : Int) : List Int := e.map fun x => f * x
def mateL : List Int → List Int
  | [] => []
  | x :: e => x :: e.map fun y => -y
def sumL (a b : List Int) : List Int := (a.zip b).map fun q => q.1 + q.2
def rawP : List Int → List Int → List Int → List Int
  | [], l, r => [l.getD 0 0 * r.getD 0 0]
  | q :: rs, l, r => sumL (rawP rs (l.take (2 ^ rs.length)) (r.take (2 ^ rs.length))) (scL (rawP rs (mateL (r.drop (2 ^ rs.length))) (l.drop (2 ^ rs.length))) q) ++
      sumL (rawP rs (r.drop (2 ^ rs.length)) (l.take (2 ^ rs.length))) (rawP rs (l.drop (2 ^ rs.length)) (mateL (r.take (2 ^ rs.length))))
theorem mate_len {e : List Int} : (mateL e).length = e.length := by
  cases e with
  | nil => rfl
  | cons x e => show (e.map _).length + 1 = _; rw [List.length_map]; rfl
theorem sc_len {e : List Int} {f : Int} : (scL e f).length = e.length := by unfold scL; rw [List.length_map]
theorem sum_len {a b : List Int} : (sumL a b).length = min a.length b.length := by unfold sumL; rw [List.length_map, List.length_zip]
theorem raw_len : ∀ (rs l r : List Int), l.length = 2 ^ rs.length → r.length = 2 ^ rs.length → (rawP rs l r).length = 2 ^ rs.length
  | [], l, r, _, _ => rfl
  | q :: rs, l, r, hl, hr => by
    have e : 2 ^ (q :: rs).length = 2 ^ rs.length + 2 ^ rs.length := by rw [List.length_cons, Nat.pow_succ]; omega
    rw [e] at hl hr ⊢
    have t1 : (l.take (2 ^ rs.length)).length = 2 ^ rs.length := by rw [List.length_take]; omega
    have t2 : (r.take (2 ^ rs.length)).length = 2 ^ rs.length := by rw [List.length_take]; omega
    have d1 : (l.drop (2 ^ rs.length)).length = 2 ^ rs.length := by rw [List.length_drop]; omega
    have d2 : (r.drop (2 ^ rs.length)).length = 2 ^ rs.length := by rw [List.length_drop]; omega
    unfold rawP
    rw [List.length_append, sum_len, sum_len, sc_len, raw_len rs _ _ t1 t2, raw_len rs _ _ (by rw [mate_len]; exact d2) d1, raw_len rs _ _ d2 t1, raw_len rs _ _ d1 (by rw [mate_len]; exact t2)]
    omega
def SzL (k : Nat) (e : List Int) : Prop := ∀ x ∈ e, Sz k x
theorem SzL.mono {a b : Nat} {e : List Int} (h : SzL a e) (l : a ≤ b) : SzL b e := fun x hx => (h x hx).mono l
theorem sz_neg {k : Nat} {x : Int} (h : Sz k x) : Sz k (-x) := by unfold Sz at *; omega
theorem SzL.mate {k : Nat} {e : List Int} (h : SzL k e) : SzL k (mateL e) := by
  cases e with
  | nil => exact h
  | cons x e =>
    intro y hy
    rcases List.mem_cons.1 hy with rfl | hy
    · exact h y (List.mem_cons_self ..)
    · obtain ⟨z, hz, rfl⟩ := List.mem_map.1 hy
      exact sz_neg (h z (List.mem_cons_of_mem _ hz))
theorem SzL.sc {a b : Nat} {e : List Int} {f : Int} (h : SzL a e) (hf : Sz b f) : SzL (b + a) (scL e f) := fun x hx => by
  obtain ⟨y, hy, rfl⟩ := List.mem_map.1 hx
  exact hf.mul (h y hy)
theorem SzL.sum {k : Nat} {a b : List Int} (h : SzL k a) (h' : SzL k b) : SzL (k + 1) (sumL a b) := fun x hx => by
  obtain ⟨⟨y, z⟩, hy, rfl⟩ := List.mem_map.1 hx
  obtain ⟨h1, h2⟩ := List.of_mem_zip hy
  exact (h y h1).add (h' z h2)
theorem SzL.take {k n : Nat} {e : List Int} (h : SzL k e) : SzL k (e.take n) := fun x hx => h x (List.mem_of_mem_take hx)
theorem SzL.drop {k n : Nat} {e : List Int} (h : SzL k e) : SzL k (e.drop n) := fun x hx => h x (List.mem_of_mem_drop hx)
theorem SzL.app {k : Nat} {a b : List Int} (h : SzL k a) (h' : SzL k b) : SzL k (a ++ b) := fun x hx => (List.mem_append.1 hx).elim (h x) (h' x)
theorem sz_get {k : Nat} {e : List Int} (h : SzL k e) : Sz k (e.getD 0 0) := by
  cases e with
  | nil => show (0 : Int).natAbs < 2 ^ k; exact Nat.two_pow_pos k
  | cons x e => exact h x (List.mem_cons_self ..)
theorem raw_sz {c : Nat} : ∀ (rs l r : List Int) (a b : Nat), SzL c rs → SzL a l → SzL b r → SzL (a + b + rs.length * (c + 1)) (rawP rs l r)
  | [], l, r, a, b, _, hl, hr => fun x hx => by
    rw [List.mem_singleton.1 hx]
    exact ((sz_get hl).mul (sz_get hr)).mono (by omega)
  | q :: rs, l, r, a, b, hq, hl, hr => by
    have hq' : SzL c rs := fun x hx => hq x (List.mem_cons_of_mem _ hx)
    have hq0 := hq q (List.mem_cons_self ..)
    have e : a + b + (q :: rs).length * (c + 1) = (c + (a + b + rs.length * (c + 1))) + 1 := by
      rw [List.length_cons, Nat.succ_mul]
      omega
    rw [e]
    unfold rawP
    have z1 := raw_sz rs _ _ a b hq' (hl.take (n := 2 ^ rs.length)) (hr.take (n := 2 ^ rs.length))
    have z2 := raw_sz rs _ _ b a hq' (hr.drop (n := 2 ^ rs.length)).mate (hl.drop (n := 2 ^ rs.length))
    have z3 := raw_sz rs _ _ b a hq' (hr.drop (n := 2 ^ rs.length)) (hl.take (n := 2 ^ rs.length))
    have z4 := raw_sz rs _ _ a b hq' (hl.drop (n := 2 ^ rs.length)) (hr.take (n := 2 ^ rs.length)).mate
    refine SzL.app (SzL.sum (z1.mono (by omega)) ((z2.sc hq0).mono (by omega))) (SzL.sum (z3.mono (by omega)) (z4.mono (by omega)))
theorem sc_sc {e : List Int} {f k : Int} : scL (e.map (k * ·)) f = (scL e f).map (k * ·) := by
  unfold scL
  rw [List.map_map, List.map_map]
  refine List.map_congr_left fun x _ => ?_
  show f * (k * x) = k * (f * x)
  rw [Int.mul_left_comm]
theorem mate_sc {e : List Int} {k : Int} : mateL (e.map (k * ·)) = (mateL e).map (k * ·) := by
  cases e with
  | nil => rfl
  | cons x e =>
    show (k * x) :: (e.map (k * ·)).map (fun y => -y) = k * x :: (e.map fun y => -y).map (k * ·)
    rw [List.map_map, List.map_map]
    congr 1
    refine List.map_congr_left fun y _ => ?_
    show -(k * y) = k * -y
    rw [Int.mul_neg]
theorem sum_sc {a b : List Int} {k : Int} : sumL (a.map (k * ·)) (b.map (k * ·)) = (sumL a b).map (k * ·) := by
  unfold sumL
  rw [List.zip_map, List.map_map, List.map_map]
  refine List.map_congr_left fun q _ => ?_
  show k * q.1 + k * q.2 = k * (q.1 + q.2)
  rw [Int.mul_add]
theorem get_sc {e : List Int} {k : Int} : (e.map (k * ·)).getD 0 0 = k * e.getD 0 0 := by
  cases e with
  | nil => show (0 : Int) = k * 0; rw [Int.mul_zero]
  | cons x e => rfl
theorem raw_lr : ∀ (rs l r : List Int) (k : Int), rawP rs (l.map (k * ·)) r = (rawP rs l r).map (k * ·) ∧ rawP rs l (r.map (k * ·)) = (rawP rs l r).map (k * ·)
  | [], l, r, k => by
    refine ⟨?_, ?_⟩
    · show [(l.map (k * ·)).getD 0 0 * r.getD 0 0] = [k * (l.getD 0 0 * r.getD 0 0)]
      rw [get_sc, Int.mul_assoc]
    · show [l.getD 0 0 * (r.map (k * ·)).getD 0 0] = [k * (l.getD 0 0 * r.getD 0 0)]
      rw [get_sc, Int.mul_left_comm]
  | q :: rs, l, r, k => by
    have L := fun a b => (raw_lr rs a b k).1
    have R := fun a b => (raw_lr rs a b k).2
    refine ⟨?_, ?_⟩
    · unfold rawP
      rw [← List.map_take, ← List.map_drop, L, L, R, R, sc_sc, sum_sc, sum_sc, List.map_append]
    · unfold rawP
      rw [← List.map_take, ← List.map_drop, mate_sc, mate_sc, R, R, L, L, sc_sc, sum_sc, sum_sc, List.map_append]
theorem raw_l (rs l r : List Int) (k : Int) : rawP rs (l.map (k * ·)) r = (rawP rs l r).map (k * ·) := (raw_lr rs l r k).1
theorem raw_r (rs l r : List Int) (k : Int) : rawP rs l (r.map (k * ·)) = (rawP rs l r).map (k * ·) := (raw_lr rs l r k).2
theorem wp_aStar {a : Ev} {r : Av} {σ : Sg} {g : G} {xs : List D} {d : D} {g1 : G} {Q : List D → G → Prop} (h : a σ g = .ok d g1) (e : sqOf g1 d = some xs) : (aStar a r σ g).wp Q = (r σ g1).wp fun ys g2 => Q (xs ++ ys) g2 := by
  unfold aStar
  rw [h]
  dsimp only [Res.bind]
  rw [e]
  dsimp only
  rw [wp_bind]
  rfl
theorem cut_last {L : List D} {x : D} : cutD (L ++ [x]) none (some (-1)) = L := by
  have e : HT.sIx (L ++ [x]).length (L ++ [x]).length (some (-1)) = L.length := by
    show (if (-1 : Int) < 0 then ((-1 : Int) + ((L ++ [x]).length : Int)).toNat else min (-1 : Int).toNat (L ++ [x]).length) = _
    rw [if_pos (by omega), List.length_append]
    simp
    omega
  unfold cutD
  rw [e]
  show ((L ++ [x]).drop 0).take (L.length - 0) = L
  simp
theorem last_ix {g : G} {L : List D} {x : D} : oIx (.tup (L ++ [x])) (.int (-1)) g = .ok x g := by
  refine oIx_at (xs := L ++ [x]) (fun _ e => nomatch e) rfl ?_
  unfold atI ixN
  simp
  rw [if_pos (by omega)]
  show (L ++ [x])[(-1 + ((L.length : Int) + 1)).toNat]? = some x
  rw [show (-1 + ((L.length : Int) + 1)).toNat = L.length by omega]
  simp
section
variable {g : G}
theorem scaled_eq {e : List Int} {f : Int} {a b : Nat} (h : SzL a e) (hf : Sz b f) (hab : a + b < 800000) (hl : e.length ≤ 1000) : f_raw_scaled [mD e, .int f] g = .ok (mD (scL e f)) g := by
  have l1 : lcL (gvName 2) tvYes (eOp oMul (eVar 1) (eVar 2)) [some (mD e), some (.int f), none] (e.map D.int) g = .ok ((scL e f).map D.int) g := by
    unfold scL
    rw [List.map_map]
    refine lcL_a _ _ e fun x hx => ⟨[some (mD e), some (.int f), some (.int x)], rfl, ?_⟩
    refine ok_of ?_
    rw [wp_eOp]
    show (Res.wp (Res.ok (D.int f) g) _)
    rw [wp_ok]
    show (Res.wp (Res.ok (D.int x) g) _)
    rw [wp_ok, oMul_ii, wp_okIf]
    exact ⟨cMul_z hf (h x hx) (by omega), rfl, rfl⟩
  refine ok_of (wp_callS rfl ?_)
  unfold b_raw_scaled
  rw [show (List.map some [mD e, D.int f] ++ List.replicate (3 - 2) none) = [some (mD e), some (.int f), none] from rfl]
  rw [wp_cons, wp_ret, wp_eCall, wp_aCons, wp_eLc, wp_iSeq, eVar_0, wp_ok]
  show (Res.wp (ivOf (.tup (e.map D.int)) g) _)
  rw [ivOf_tup, wp_ok, wp_noEx, lcAll_fix, wipeD_cons, wipeD_nil]
  show (lcL _ _ _ [some (mD e), some (.int f), none] (e.map D.int) g).wp _
  rw [l1, wp_ok]
  refine ⟨small_le (by rw [List.length_map, sc_len]; omega), ?_⟩
  rw [aNil_ok, wp_ok, tup_l, wp_ok]
  refine ⟨?_, ?_, ?_⟩ <;> first | trivial | rfl
theorem zip_int : ∀ a b : List Int, zipD (a.map D.int) (b.map D.int) = (a.zip b).map fun q => D.tup [.int q.1, .int q.2]
  | [], _ => rfl
  | _ :: _, [] => rfl
  | x :: a, y :: b => by
    show D.tup [.int x, .int y] :: zipD (a.map D.int) (b.map D.int) = _
    rw [zip_int a b]
    rfl
theorem sum_eq {a b : List Int} (hl : a.length ≤ 1000) : f_raw_sum [mD a, mD b] g = .ok (mD (sumL a b)) g := by
  have l1 : lcL (gvTup 2 (gvCons (gvName 2) (gvCons (gvName 3) gvNil))) tvYes (eOp oAdd (eVar 2) (eVar 3)) [some (mD a), some (mD b), none, none] (zipD (a.map D.int) (b.map D.int)) g = .ok ((sumL a b).map D.int) g := by
    unfold sumL
    rw [zip_int, List.map_map]
    refine lcL_a _ _ (a.zip b) fun q hq => ⟨[some (mD a), some (mD b), some (.int q.1), some (.int q.2)], rfl, ?_⟩
    rfl
  have iz : iZipL (aCons (eVar 0) (aCons (eVar 1) aNil)) [some (mD a), some (mD b), none, none] g = .ok (.fix (zipD (a.map D.int) (b.map D.int))) g := rfl
  refine ok_of (wp_callS rfl ?_)
  unfold b_raw_sum
  rw [show (List.map some [mD a, mD b] ++ List.replicate (4 - 2) none) = [some (mD a), some (mD b), none, none] from rfl]
  rw [wp_cons, wp_ret, wp_eCall, wp_aCons, wp_eLc, iz, wp_ok, wp_noEx, lcAll_fix, wipeD_cons, wipeD_cons, wipeD_nil]
  show (lcL _ _ _ [some (mD a), some (mD b), none, none] (zipD (a.map D.int) (b.map D.int)) g).wp _
  rw [l1, wp_ok]
  refine ⟨small_le (by rw [List.length_map, sum_len]; omega), ?_⟩
  rw [aNil_ok, wp_ok, tup_l, wp_ok]
  refine ⟨?_, ?_, ?_⟩ <;> first | trivial | rfl
theorem mate_eq {e : List Int} (h0 : 0 < e.length) (hl : e.length ≤ 1000) : f_raw_mate [mD e] g = .ok (mD (mateL e)) g := by
  obtain ⟨x, e, rfl⟩ : ∃ x e', e = x :: e' := by
    cases e with
    | nil => simp at h0
    | cons x e => exact ⟨x, e, rfl⟩
  have l1 : lcL (gvName 1) tvYes (eUn oNeg (eVar 1)) [some (mD (x :: e)), none] (e.map D.int) g = .ok ((e.map fun y => -y).map D.int) g := by
    rw [List.map_map]
    exact lcL_a _ _ e fun y hy => ⟨[some (mD (x :: e)), some (.int y)], rfl, rfl⟩
  have c1 : cutD ((x :: e).map D.int) (some 1) none = e.map D.int := sl_from (n := 1) (by simp)
  have e1 : (eLc (iSeq (eSl (eVar 0) (oPart (eC (.int 1))) oNo)) (gvName 1) tvYes (eUn oNeg (eVar 1)) [1]) [some (mD (x :: e)), none] g = .ok (.lst ((e.map fun y => -y).map D.int)) g := by
    refine ok_of ?_
    rw [wp_eLc, wp_iSeq, wp_eSl, eVar_0, wp_ok, wp_oPart, eC_ok, wp_ok, intP_i, oNo_ok, wp_ok]
    show (Res.wp (slD g (.tup ((x :: e).map D.int)) _ _) _)
    rw [slD_tup, wp_ok, c1, ivOf_tup, wp_ok, wp_noEx, lcAll_fix, wipeD_cons, wipeD_nil]
    show (lcL _ _ _ [some (mD (x :: e)), none] (e.map D.int) g).wp _
    rw [l1, wp_ok]
    exact ⟨small_le (by rw [List.length_map, List.length_map]; simp at hl; omega), rfl, rfl⟩
  have i0 : oIx (mD (x :: e)) (.int 0) g = .ok (.int x) g := oIx_tup (n := 0) rfl rfl
  refine ok_of (wp_callS rfl ?_)
  unfold b_raw_mate
  rw [show (List.map some [mD (x :: e)] ++ List.replicate (2 - 1) none) = [some (mD (x :: e)), none] from rfl]
  rw [wp_cons, wp_ret, wp_eTup, wp_aCons, wp_eOp, eVar_0, wp_ok, eC_ok, wp_ok, i0, wp_ok, wp_aStar e1 rfl, aNil_ok, wp_ok, List.append_nil]
  refine ⟨small_le (by rw [List.length_cons, List.length_map, List.length_map]; simp at hl; omega), ?_, ?_, ?_⟩ <;> first | trivial | rfl
def rS (S L R : D) (a b c d e f x y u v : Option D) : Sg := [some S, some L, some R, a, b, c, d, e, f, x, y, u, v]
theorem raw_eq {c : Nat} : ∀ (rs l r : List Int) (a b z : Nat), rs.length < z → rs.length ≤ 8 → SzL c rs → SzL a l → SzL b r → a + b + 20 * (c + 1) < 800000 → l.length = 2 ^ rs.length → r.length = 2 ^ rs.length → fr_raw_product z [mD rs.reverse, mD l, mD r] g = .ok (mD (rawP rs l r)) g
  | [], l, r, a, b, 0, h, _, _, _, _, _, _, _ => by simp at h
  | _ :: _, l, r, a, b, 0, h, _, _, _, _, _, _, _ => by simp at h
  | [], l, r, a, b, z + 1, _, _, _, hl, hr, hab, ll, lr => by
    obtain ⟨x, rfl⟩ := List.length_eq_one_iff.1 ll
    obtain ⟨y, rfl⟩ := List.length_eq_one_iff.1 lr
    have i1 : ∀ x : Int, oIx (mD [x]) (.int 0) g = .ok (.int x) g := fun x => oIx_tup (n := 0) rfl rfl
    refine ok_of ?_
    show (callD 3 13 (b_raw_product (fr_raw_product z)) _ g).wp _
    refine wp_callS rfl ?_
    unfold b_raw_product
    rw [show (List.map some [mD ([] : List Int).reverse, mD [x], mD [y]] ++ List.replicate (13 - 3) none) = rS (.tup []) (mD [x]) (mD [y]) none none none none none none none none none none from rfl]
    rw [wp_cons, wp_if, wp_eTst, wp_eOp]
    show (Res.wp (Res.ok (D.tup []) g) _)
    rw [wp_ok, wp_eTup, aNil_ok, wp_ok]
    refine ⟨rfl, ?_⟩
    show (Res.wp (Res.ok (D.bl true) g) _)
    rw [wp_ok, tstP_bl, pick_t, wp_cons, wp_ret, wp_eTup, wp_aCons, wp_eOp, wp_eOp]
    show (Res.wp (Res.ok (mD [x]) g) _)
    rw [wp_ok, eC_ok, wp_ok, i1, wp_ok, wp_eOp]
    show (Res.wp (Res.ok (mD [y]) g) _)
    rw [wp_ok, eC_ok, wp_ok, i1, wp_ok, oMul_ii, wp_okIf]
    refine ⟨cMul_z (hl x (List.mem_cons_self ..)) (hr y (List.mem_cons_self ..)) (by omega), ?_⟩
    rw [aNil_ok, wp_ok]
    exact ⟨rfl, rfl, rfl, rfl⟩
  | q :: rs, l, r, a, b, z + 1, hz, h8, hs, hl, hr, hab, ll, lr => by
    have hz' : rs.length < z := by rw [List.length_cons] at hz; omega
    have h8' : rs.length ≤ 8 := by rw [List.length_cons] at h8; omega
    have hs' : SzL c rs := fun x hx => hs x (List.mem_cons_of_mem _ hx)
    have hq := hs q (List.mem_cons_self ..)
    have e2 : 2 ^ (q :: rs).length = 2 ^ rs.length + 2 ^ rs.length := by rw [List.length_cons, Nat.pow_succ]; omega
    rw [e2] at ll lr
    have hp : 0 < 2 ^ rs.length := Nat.two_pow_pos _
    have hp2 : 2 ^ rs.length ≤ 256 := Nat.pow_le_pow_right (n := 2) (by omega) h8'
    have hm : rs.length * (c + 1) ≤ 8 * (c + 1) := Nat.mul_le_mul_right _ h8'
    have sz := @raw_sz c rs
    have rl := raw_len rs
    have R : ∀ (l r : List Int) (a' b' : Nat), SzL a' l → SzL b' r → a' + b' = a + b → l.length = 2 ^ rs.length → r.length = 2 ^ rs.length → fr_raw_product z [mD rs.reverse, mD l, mD r] g = .ok (mD (rawP rs l r)) g := fun l r a' b' h1 h2 h3 h4 h5 => raw_eq rs l r a' b' z hz' h8' hs' h1 h2 (by omega) h4 h5
    rw [List.reverse_cons]
    have sq : mD (rs.reverse ++ [q]) = .tup (rs.reverse.map D.int ++ [.int q]) := by unfold mD; rw [List.map_append]; rfl
    have ne : oEq0 (mD (rs.reverse ++ [q])) (.tup []) g = .ok (.bl false) g := by
      rw [sq]
      show Res.ok (D.bl (rs.reverse.map D.int ++ [D.int q]).isEmpty) g = _
      rw [show (rs.reverse.map D.int ++ [D.int q]).isEmpty = false by rw [List.isEmpty_eq_false_iff]; simp]
    have c1 : slD g (mD (rs.reverse ++ [q])) none (some (-1)) = .ok (mD rs.reverse) g := by
      rw [sq, slD_tup, cut_last]
      rfl
    have c2 : oIx (mD (rs.reverse ++ [q])) (.int (-1)) g = .ok (.int q) g := by rw [sq]; exact last_ix
    have hf : oFdiv (.int (l.length : Int)) (.int 2) g = .ok (.int ((2 ^ rs.length : Nat) : Int)) g := by
      rw [oFdiv_p (by omega) (by omega), ll]
      congr 2
      omega
    have st : ∀ e : List Int, e.length = 2 ^ rs.length + 2 ^ rs.length → slD g (mD e) none (some ((2 ^ rs.length : Nat) : Int)) = .ok (mD (e.take (2 ^ rs.length))) g := fun e he => by
      show slD g (.tup (e.map D.int)) _ _ = _
      rw [slD_tup, sl_to (by rw [List.length_map]; omega), ← List.map_take]
      rfl
    have sd : ∀ e : List Int, e.length = 2 ^ rs.length + 2 ^ rs.length → slD g (mD e) (some ((2 ^ rs.length : Nat) : Int)) none = .ok (mD (e.drop (2 ^ rs.length))) g := fun e he => by
      show slD g (.tup (e.map D.int)) _ _ = _
      rw [slD_tup, sl_from (by rw [List.length_map]; omega), ← List.map_drop]
      rfl
    have t1 : (l.take (2 ^ rs.length)).length = 2 ^ rs.length := by rw [List.length_take]; omega
    have t2 : (r.take (2 ^ rs.length)).length = 2 ^ rs.length := by rw [List.length_take]; omega
    have d1 : (l.drop (2 ^ rs.length)).length = 2 ^ rs.length := by rw [List.length_drop]; omega
    have d2 : (r.drop (2 ^ rs.length)).length = 2 ^ rs.length := by rw [List.length_drop]; omega
    have Sx := hl.take (n := 2 ^ rs.length)
    have Sy := hl.drop (n := 2 ^ rs.length)
    have Su := hr.take (n := 2 ^ rs.length)
    have Sv := hr.drop (n := 2 ^ rs.length)
    have sL := st l ll
    have sR := st r lr
    have dL := sd l ll
    have dR := sd r lr
    have fin : mD (rawP (q :: rs) l r) = mD (sumL (rawP rs (l.take (2 ^ rs.length)) (r.take (2 ^ rs.length))) (scL (rawP rs (mateL (r.drop (2 ^ rs.length))) (l.drop (2 ^ rs.length))) q) ++ sumL (rawP rs (r.drop (2 ^ rs.length)) (l.take (2 ^ rs.length))) (rawP rs (l.drop (2 ^ rs.length)) (mateL (r.take (2 ^ rs.length))))) := rfl
    rw [fin]
    generalize hx : l.take (2 ^ rs.length) = x at *
    generalize hy : l.drop (2 ^ rs.length) = y at *
    generalize hu : r.take (2 ^ rs.length) = u at *
    generalize hv : r.drop (2 ^ rs.length) = v at *
    generalize 2 ^ rs.length = H at *
    have m1 := mate_eq (g := g) (e := v) (by omega) (by omega)
    have m2 := mate_eq (g := g) (e := u) (by omega) (by omega)
    have p1 := R (mateL v) y b a Sv.mate Sy (by omega) (by rw [mate_len]; exact d2) d1
    have p2 := R x u a b Sx Su rfl t1 t2
    have p3 := R v x b a Sv Sx (by omega) d2 t1
    have p4 := R y (mateL u) a b Sy Su.mate rfl d1 (by rw [mate_len]; exact t2)
    have k1 := sz (mateL v) y b a hs' Sv.mate Sy
    have n1 := rl (mateL v) y (by rw [mate_len]; exact d2) d1
    have n2 := rl x u t1 t2
    have n3 := rl v x d2 t1
    have q1 := scaled_eq (g := g) k1 hq (by omega) (by omega)
    generalize rawP rs (mateL v) y = P1 at *
    generalize rawP rs x u = P2 at *
    generalize rawP rs v x = P3 at *
    generalize rawP rs y (mateL u) = P4 at *
    have q2 := sum_eq (g := g) (a := P2) (b := scL P1 q) (by omega)
    have q3 := sum_eq (g := g) (a := P3) (b := P4) (by omega)
    generalize hrec : fr_raw_product z = rec at *
    refine ok_of ?_
    show (callD 3 13 (b_raw_product (fr_raw_product z)) _ g).wp _
    rw [hrec]
    refine wp_callS rfl ?_
    unfold b_raw_product
    rw [show (List.map some [mD (rs.reverse ++ [q]), mD l, mD r] ++ List.replicate (13 - 3) none) = rS (mD (rs.reverse ++ [q])) (mD l) (mD r) none none none none none none none none none none from rfl]
    rw [wp_cons, wp_if, wp_eTst, wp_eOp]
    show (Res.wp (Res.ok (mD (rs.reverse ++ [q])) g) _)
    rw [wp_ok, wp_eTup, aNil_ok, wp_ok]
    refine ⟨rfl, ?_⟩
    rw [ne, wp_ok, tstP_bl, pick_f, wp_nil]
    refine wp_cut (fun σ g' => g' = g ∧ σ = rS (mD (rs.reverse ++ [q])) (mD l) (mD r) none none none (some (.int (H : Int))) (some (mD rs.reverse)) (some (.int q)) none none none none) ?_ ?_
    · rw [wp_par3, wp_eOp, wp_eCall, wp_aCons]
      show (Res.wp (Res.ok (mD l) g) _)
      rw [wp_ok, aNil_ok, wp_ok, len_m, wp_ok, eC_ok, wp_ok, hf, wp_ok, wp_eSl]
      show (Res.wp (Res.ok (mD (rs.reverse ++ [q])) g) _)
      rw [wp_ok, oNo_ok, wp_ok, wp_oPart, wp_eUn, eC_ok, wp_ok, oNeg_i, wp_ok, intP_i, c1, wp_ok, wp_eOp]
      show (Res.wp (Res.ok (mD (rs.reverse ++ [q])) g) _)
      rw [wp_ok, wp_eUn, eC_ok, wp_ok, oNeg_i, wp_ok, c2, wp_ok]
      exact ⟨rfl, rfl⟩
    rintro _ g' ⟨eg, rfl⟩
    subst eg
    refine wp_cut (fun σ g2 => g2 = g' ∧ σ = rS (mD (rs.reverse ++ [q])) (mD l) (mD r) none none none (some (.int (H : Int))) (some (mD rs.reverse)) (some (.int q)) (some (mD x)) (some (mD y)) (some (mD u)) (some (mD v))) ?_ ?_
    · have w1 : ∀ a b c d : Option D, eVar 1 (rS (mD (rs.reverse ++ [q])) (mD l) (mD r) none none none (some (.int (H : Int))) (some (mD rs.reverse)) (some (.int q)) a b c d) g' = .ok (mD l) g' := fun _ _ _ _ => rfl
      have w2 : ∀ a b c d : Option D, eVar 2 (rS (mD (rs.reverse ++ [q])) (mD l) (mD r) none none none (some (.int (H : Int))) (some (mD rs.reverse)) (some (.int q)) a b c d) g' = .ok (mD r) g' := fun _ _ _ _ => rfl
      have w6 : ∀ a b c d : Option D, eVar 6 (rS (mD (rs.reverse ++ [q])) (mD l) (mD r) none none none (some (.int (H : Int))) (some (mD rs.reverse)) (some (.int q)) a b c d) g' = .ok (.int (H : Int)) g' := fun _ _ _ _ => rfl
      rw [wp_asg, wp_eTup, wp_aCons, wp_eSl, w1, wp_ok, oNo_ok, wp_ok, wp_oPart, w6, wp_ok, intP_i, sL, wp_ok, wp_aCons, wp_eSl, w1, wp_ok, wp_oPart, w6, wp_ok, intP_i, oNo_ok, wp_ok, dL, wp_ok, wp_aCons, wp_eSl, w2, wp_ok, oNo_ok, wp_ok, wp_oPart, w6, wp_ok, intP_i, sR, wp_ok, wp_aCons, wp_eSl, w2, wp_ok, wp_oPart, w6, wp_ok, intP_i, oNo_ok, wp_ok, dR, wp_ok, aNil_ok, wp_ok]
      refine ⟨rfl, ?_⟩
      rw [gvP_sqT, if_pos (show [mD x, mD y, mD u, mD v].length = 4 from rfl), gvP_cons, gvP_name, gvP_cons, gvP_name, gvP_cons, gvP_name, gvP_cons, gvP_name, gvP_nil]
      exact ⟨rfl, rfl⟩
    rintro _ g ⟨eg, rfl⟩
    subst eg
    have w7 : ∀ a b c : Option D, eVar 7 (rS (mD (rs.reverse ++ [q])) (mD l) (mD r) a b c (some (.int (H : Int))) (some (mD rs.reverse)) (some (.int q)) (some (mD x)) (some (mD y)) (some (mD u)) (some (mD v))) g = .ok (mD rs.reverse) g := fun _ _ _ => rfl
    have w8 : ∀ a b c : Option D, eVar 8 (rS (mD (rs.reverse ++ [q])) (mD l) (mD r) a b c (some (.int (H : Int))) (some (mD rs.reverse)) (some (.int q)) (some (mD x)) (some (mD y)) (some (mD u)) (some (mD v))) g = .ok (.int q) g := fun _ _ _ => rfl
    have w9 : ∀ a b c : Option D, eVar 9 (rS (mD (rs.reverse ++ [q])) (mD l) (mD r) a b c (some (.int (H : Int))) (some (mD rs.reverse)) (some (.int q)) (some (mD x)) (some (mD y)) (some (mD u)) (some (mD v))) g = .ok (mD x) g := fun _ _ _ => rfl
    have w10 : ∀ a b c : Option D, eVar 10 (rS (mD (rs.reverse ++ [q])) (mD l) (mD r) a b c (some (.int (H : Int))) (some (mD rs.reverse)) (some (.int q)) (some (mD x)) (some (mD y)) (some (mD u)) (some (mD v))) g = .ok (mD y) g := fun _ _ _ => rfl
    have w11 : ∀ a b c : Option D, eVar 11 (rS (mD (rs.reverse ++ [q])) (mD l) (mD r) a b c (some (.int (H : Int))) (some (mD rs.reverse)) (some (.int q)) (some (mD x)) (some (mD y)) (some (mD u)) (some (mD v))) g = .ok (mD u) g := fun _ _ _ => rfl
    have w12 : ∀ a b c : Option D, eVar 12 (rS (mD (rs.reverse ++ [q])) (mD l) (mD r) a b c (some (.int (H : Int))) (some (mD rs.reverse)) (some (.int q)) (some (mD x)) (some (mD y)) (some (mD u)) (some (mD v))) g = .ok (mD v) g := fun _ _ _ => rfl
    refine wp_cut (fun σ g2 => g2 = g ∧ σ = rS (mD (rs.reverse ++ [q])) (mD l) (mD r) (some (mD (scL P1 q))) none none (some (.int (H : Int))) (some (mD rs.reverse)) (some (.int q)) (some (mD x)) (some (mD y)) (some (mD u)) (some (mD v))) ?_ ?_
    · rw [wp_set, wp_eCall, wp_aCons, wp_eCall, wp_aCons, w7, wp_ok, wp_aCons, wp_eCall, wp_aCons, w12, wp_ok, aNil_ok, wp_ok, m1, wp_ok, wp_aCons, w10, wp_ok, aNil_ok, wp_ok, p1, wp_ok, wp_aCons, w8, wp_ok, aNil_ok, wp_ok, q1, wp_ok]
      exact ⟨rfl, rfl⟩
    rintro _ g2 ⟨eg, rfl⟩
    subst eg
    refine wp_cut (fun σ g3 => g3 = g2 ∧ σ = rS (mD (rs.reverse ++ [q])) (mD l) (mD r) (some (mD (scL P1 q))) (some (mD (sumL P2 (scL P1 q)))) none (some (.int (H : Int))) (some (mD rs.reverse)) (some (.int q)) (some (mD x)) (some (mD y)) (some (mD u)) (some (mD v))) ?_ ?_
    · rw [wp_set, wp_eCall, wp_aCons, wp_eCall, wp_aCons, w7, wp_ok, wp_aCons, w9, wp_ok, wp_aCons, w11, wp_ok, aNil_ok, wp_ok, p2, wp_ok, wp_aCons]
      show (Res.wp (Res.ok (mD (scL P1 q)) g2) _)
      rw [wp_ok, aNil_ok, wp_ok, q2, wp_ok]
      exact ⟨rfl, rfl⟩
    rintro _ g3 ⟨eg, rfl⟩
    subst eg
    refine wp_cut (fun σ g4 => g4 = g3 ∧ σ = rS (mD (rs.reverse ++ [q])) (mD l) (mD r) (some (mD (scL P1 q))) (some (mD (sumL P2 (scL P1 q)))) (some (mD (sumL P3 P4))) (some (.int (H : Int))) (some (mD rs.reverse)) (some (.int q)) (some (mD x)) (some (mD y)) (some (mD u)) (some (mD v))) ?_ ?_
    · rw [wp_set, wp_eCall, wp_aCons, wp_eCall, wp_aCons, w7, wp_ok, wp_aCons, w12, wp_ok, wp_aCons, w9, wp_ok, aNil_ok, wp_ok, p3, wp_ok, wp_aCons, wp_eCall, wp_aCons, w7, wp_ok, wp_aCons, w10, wp_ok, wp_aCons, wp_eCall, wp_aCons, w11, wp_ok, aNil_ok, wp_ok, m2, wp_ok, aNil_ok, wp_ok, p4, wp_ok, aNil_ok, wp_ok, q3, wp_ok]
      exact ⟨rfl, rfl⟩
    rintro _ g4 ⟨eg, rfl⟩
    subst eg
    rw [wp_cons, wp_ret, wp_eOp]
    show (Res.wp (Res.ok (mD (sumL P2 (scL P1 q))) g4) _)
    rw [wp_ok]
    show (Res.wp (Res.ok (mD (sumL P3 P4)) g4) _)
    rw [wp_ok]
    show (Res.wp (okIf (small ((sumL P2 (scL P1 q)).map D.int ++ (sumL P3 P4).map D.int)) (D.tup ((sumL P2 (scL P1 q)).map D.int ++ (sumL P3 P4).map D.int)) g4) _)
    rw [wp_okIf, ← List.map_append]
    exact ⟨small_le (by rw [List.length_map, List.length_append, sum_len, sum_len]; omega), rfl, rfl, rfl⟩
end
abbrev psD : List (Str × Fn) := [("Doubled", f_Doubled___eq__)]
abbrev psE : List (Str × Fn) := [("Element", f_Element___eq__)]
section
variable {g : G} {s e e' : List Int} {b b' : Int}
theorem ins_alg : insOf g (alg s) = some ("Doubled" : Str) := rfl
theorem ins_el : insOf g (El s e b) = some ("Element" : Str) := rfl
theorem own_D : ("Doubled" : Str) ∈ own := by decide +kernel
theorem own_E : ("Element" : Str) ∈ own := by decide +kernel
theorem isElem : fIsi own (.own "Element") (El s e b) g = .ok (.bl true) g := by
  unfold El
  generalize [alg s, D.int (lowB e b), mD (lowE e b)] = xs
  kernel_rfl
theorem eqA : f_Doubled___eq__ [alg s, alg s] g = .ok (.bl true) g := by
  have v0 : eVar 0 [some (alg s), some (alg s)] g = .ok (alg s) g := rfl
  have v1 : eVar 1 [some (alg s), some (alg s)] g = .ok (alg s) g := rfl
  refine ok_of (wp_callS rfl ?_)
  unfold b_Doubled___eq__
  rw [show (List.map some [alg s, alg s] ++ List.replicate (2 - 2) none) = [some (alg s), some (alg s)] from rfl]
  rw [wp_cons, wp_ret, wp_eAnd, wp_eIsi, v1, wp_ok, isAlg, wp_ok, truP_bl, pick_t, wp_eOp, fA_s v0, wp_ok, fA_s v1, wp_ok, oEq_mD, decide_eq_true rfl]
  refine ⟨?_, ?_, ?_⟩ <;> first | trivial | rfl
theorem neA : oNeO psD own oNe (alg s) (alg s) g = .ok (.bl false) g := by
  have hp : prOf psD "Doubled" = some f_Doubled___eq__ := rfl
  have hr : rkOf (alg s) = none := rfl
  unfold oNeO
  rw [ins_alg]
  dsimp only
  rw [hp]
  dsimp only
  rw [hr]
  dsimp only
  rw [if_pos own_D, eqA]
  rfl
theorem cmp_i {i j : Int} : oCmpO psD own oEq (.int i) (.int j) g = .ok (.bl (decide (i = j))) g := oEq_ii
theorem cmp_m {x y : List Int} : oCmpO psD own oEq (mD x) (mD y) g = .ok (.bl (decide (x = y))) g := oEq_mD
theorem eqE : f_Element___eq__ [El s e b, El s e' b'] g = .ok (.bl (decide (lowB e b = lowB e' b') && decide (lowE e b = lowE e' b'))) g := by
  have v0 : eVar 0 [some (El s e b), some (El s e' b')] g = .ok (El s e b) g := rfl
  have v1 : eVar 1 [some (El s e b), some (El s e' b')] g = .ok (El s e' b') g := rfl
  refine ok_of (wp_callS rfl ?_)
  unfold b_Element___eq__
  rw [show (List.map some [El s e b, El s e' b'] ++ List.replicate (2 - 2) none) = [some (El s e b), some (El s e' b')] from rfl]
  rw [wp_cons, wp_if, wp_eOrT, wp_eNotT, wp_eTru, wp_eIsi, v1, wp_ok, isElem, wp_ok, truP_bl, Bool.not_true, pick_f, wp_eTst, wp_eOp, fE_a v0, wp_ok, fE_a v1, wp_ok, neA, wp_ok, tstP_bl, pick_f, wp_nil]
  rw [wp_cons, wp_ret, wp_eAnd, wp_eOp, fE_b v0, wp_ok, fE_b v1, wp_ok, cmp_i, wp_ok, truP_bl]
  cases decide (lowB e b = lowB e' b') with
  | true =>
    rw [pick_t, wp_eOp, fE_e v0, wp_ok, fE_e v1, wp_ok, cmp_m, wp_ok]
    refine ⟨?_, ?_, ?_⟩ <;> first | trivial | rfl
  | false =>
    rw [pick_f]
    refine ⟨?_, ?_, ?_⟩ <;> first | trivial | rfl
theorem eq_t : oCmpO psE own oEq (El s e b) (El s e' b') g = .ok (.bl (decide (lowB e b = lowB e' b') && decide (lowE e b = lowE e' b'))) g := by
  have hp : prOf psE "Element" = some f_Element___eq__ := rfl
  have hr : rkOf (El s e' b') = none := rfl
  unfold oCmpO
  rw [ins_el]
  dsimp only
  rw [hp]
  dsimp only
  rw [hr]
  dsimp only
  rw [ins_el]
  dsimp only
  rw [if_pos own_E, eqE]
  rfl
theorem req_same : f_require_same_algebra [El s e b, El s e' b'] g = .ok .non g := by
  have v0 : eVar 0 [some (El s e b), some (El s e' b')] g = .ok (El s e b) g := rfl
  have v1 : eVar 1 [some (El s e b), some (El s e' b')] g = .ok (El s e' b') g := rfl
  refine ok_of (wp_callS rfl ?_)
  unfold b_require_same_algebra
  rw [show (List.map some [El s e b, El s e' b'] ++ List.replicate (2 - 2) none) = [some (El s e b), some (El s e' b')] from rfl]
  rw [wp_cons, wp_if, wp_eTst, wp_eOp, fE_a v0, wp_ok, fE_a v1, wp_ok, neA, wp_ok, tstP_bl, pick_f, wp_nil, wp_nil]
  refine ⟨?_, ?_, ?_⟩ <;> first | trivial | rfl
theorem El_mul {k : Int} (hk : k ≠ 0) (hb : b ≠ 0) : El s (e.map (k * ·)) (k * b) = El s e b := by
  unfold El
  rw [lowE_mul hk hb, lowB_mul hk hb]
structure Ok (s : List Int) (k : Nat) (e : List Int) (b : Int) : Prop where
  b0 : b ≠ 0
  len : e.length = 2 ^ s.length
  se : SzL k e
  sb : Sz k b
structure Sq (s : List Int) : Prop where
  l4 : s.length ≤ 4
  sz : SzL 10 s
  n0 : ∀ q ∈ s, q ≠ 0
theorem Sq.dim (h : Sq s) : 2 ^ s.length ≤ 16 := Nat.pow_le_pow_right (n := 2) (by omega) h.l4
theorem low_ok {k : Nat} (h : Ok s k e b) : Ok s k (lowE e b) (lowB e b) := ⟨by have := lowB_pos (e := e) h.b0; omega, by rw [lowE_len]; exact h.len, lowE_sz h.b0 h.se, lowB_sz h.b0 h.sb⟩
theorem mul_ok {k k' : Nat} (hs : Sq s) (h : Ok s k e b) (h' : Ok s k' e' b') : Ok s (k + k' + 44) (rawP s.reverse e e') (b * b') := by
  have hl : s.reverse.length = s.length := List.length_reverse
  have hm : s.reverse.length * (10 + 1) ≤ 4 * 11 := by rw [hl]; have := hs.l4; omega
  refine ⟨fun z => (Int.mul_eq_zero.1 z).elim h.b0 h'.b0, ?_, ?_, (h.sb.mul h'.sb).mono (by omega)⟩
  · rw [raw_len _ _ _ (by rw [hl]; exact h.len) (by rw [hl]; exact h'.len), hl]
  · exact (raw_sz (c := 10) s.reverse e e' k k' (fun x hx => hs.sz x (List.mem_reverse.1 hx)) h.se h'.se).mono (by omega)
theorem mulE_rep {k k' : Nat} (h : Ok s k e b) (h' : Ok s k' e' b') : El s (rawP s.reverse (lowE e b) (lowE e' b')) (lowB e b * lowB e' b') = El s (rawP s.reverse e e') (b * b') := by
  have e1 := back_e (e := e) h.b0
  have e2 := back_e (e := e') h'.b0
  have e3 := back_b (e := e) h.b0
  have e4 := back_b (e := e') h'.b0
  have k1 := less_ne' (e := e) h.b0
  have k2 := less_ne' (e := e') h'.b0
  have c1 := lowB_pos (e := e) h.b0
  have c2 := lowB_pos (e := e') h'.b0
  generalize lessF e b = l1 at *
  generalize lessF e' b' = l2 at *
  generalize lowE e b = u at *
  generalize lowE e' b' = v at *
  generalize lowB e b = p at *
  generalize lowB e' b' = q at *
  subst e1 e2 e3 e4
  rw [raw_l, raw_r, show l1 * p * (l2 * q) = l1 * (l2 * (p * q)) by rw [Int.mul_assoc, Int.mul_left_comm p]]
  have hpq : p * q ≠ 0 := fun z => by rcases Int.mul_eq_zero.1 z with z | z <;> omega
  rw [El_mul k1 (fun z => (Int.mul_eq_zero.1 z).elim k2 hpq), El_mul k2 hpq]
theorem mulE_eq {k k' : Nat} (hs : Sq s) (hg : Cl g) (h : Ok s k e b) (h' : Ok s k' e' b') (hk : k + k' + 44 ≤ 900) : f_Element___mul__ [El s e b, El s e' b'] g = .ok (El s (rawP s.reverse e e') (b * b')) g := by
  have o1 := low_ok h
  have o2 := low_ok h'
  have o3 := mul_ok hs o1 o2
  have hl : s.reverse.length = s.length := List.length_reverse
  have dim := hs.dim
  have l4 := hs.l4
  have rw1 : f_raw_product [mD s, mD (lowE e b), mD (lowE e' b')] g = .ok (mD (rawP s.reverse (lowE e b) (lowE e' b'))) g := by
    have := raw_eq (g := g) (c := 10) s.reverse (lowE e b) (lowE e' b') k k' 16 (by omega) (by omega) (fun x hx => hs.sz x (List.mem_reverse.1 hx)) o1.se o2.se (by omega) (by rw [hl]; exact o1.len) (by rw [hl]; exact o2.len)
    rw [List.reverse_reverse] at this
    exact this
  have md := made_eq (g := g) (s := s) hg o3.b0 (fun x hx => (o3.se x hx).mono hk) (o3.sb.mono hk) (by rw [o3.len]; omega)
  rw [mulE_rep h h'] at md
  have cm : cMul (lowB e b) (lowB e' b') = true := cMul_z o1.sb o2.sb (by omega)
  refine ok_of (wp_callS rfl ?_)
  unfold b_Element___mul__
  have v0 : ∀ z, eVar 0 [some (El s e b), some (El s e' b'), z] g = .ok (El s e b) g := fun _ => rfl
  have v1 : ∀ z, eVar 1 [some (El s e b), some (El s e' b'), z] g = .ok (El s e' b') g := fun _ => rfl
  rw [show (List.map some [El s e b, El s e' b'] ++ List.replicate (3 - 2) none) = [some (El s e b), some (El s e' b'), none] from rfl]
  rw [wp_cons, wp_if, wp_eNotT, wp_eTru, wp_eIsi, v1, wp_ok, isElem, wp_ok, truP_bl, Bool.not_true, pick_f, wp_nil]
  rw [wp_cons, wp_expr, wp_eCall, wp_aCons, v0, wp_ok, wp_aCons, v1, wp_ok, aNil_ok, wp_ok, req_same, wp_ok]
  rw [wp_cons, wp_set, wp_eCall, wp_aCons, fA_s (fE_a (v0 _)), wp_ok, wp_aCons, fE_e (v0 _), wp_ok, wp_aCons, fE_e (v1 _), wp_ok, aNil_ok, wp_ok, rw1, wp_ok]
  show SRes.wp (sCons _ _ [some (El s e b), some (El s e' b'), some (mD (rawP s.reverse (lowE e b) (lowE e' b')))] g) _ _ _ _
  rw [wp_cons, wp_ret, wp_eCall, wp_aCons, fE_a (v0 _), wp_ok, wp_aCons]
  show (Res.wp (Res.ok (mD (rawP s.reverse (lowE e b) (lowE e' b'))) g) _)
  rw [wp_ok, wp_aCons, wp_eOp, fE_b (v0 _), wp_ok, fE_b (v1 _), wp_ok, oMul_ii, wp_okIf]
  refine ⟨cm, ?_⟩
  rw [aNil_ok, wp_ok, md, wp_ok]
  refine ⟨?_, ?_, ?_⟩ <;> first | trivial | rfl
def addL (e e' : List Int) (b b' : Int) : List Int := sumL (scL e b') (scL e' b)
theorem add_ok {k : Nat} (h : Ok s k e b) (h' : Ok s k e' b') : Ok s (k + k + 1) (addL e e' b b') (b * b') := by
  refine ⟨fun z => (Int.mul_eq_zero.1 z).elim h.b0 h'.b0, ?_, (h.se.sc h'.sb).sum (h'.se.sc h.sb), (h.sb.mul h'.sb).mono (by omega)⟩
  unfold addL
  rw [sum_len, sc_len, sc_len, h.len, h'.len, Nat.min_self]
theorem sc_r {e : List Int} {f k : Int} : scL e (k * f) = (scL e f).map (k * ·) := by
  unfold scL
  rw [List.map_map]
  refine List.map_congr_left fun x _ => ?_
  show k * f * x = k * (f * x)
  rw [Int.mul_assoc]
theorem sc_l {e : List Int} {f k : Int} : scL (e.map (k * ·)) f = (scL e f).map (k * ·) := sc_sc
theorem addE_rep {k k' : Nat} (h : Ok s k e b) (h' : Ok s k' e' b') : El s (addL (lowE e b) (lowE e' b') (lowB e b) (lowB e' b')) (lowB e b * lowB e' b') = El s (addL e e' b b') (b * b') := by
  have e1 := back_e (e := e) h.b0
  have e2 := back_e (e := e') h'.b0
  have e3 := back_b (e := e) h.b0
  have e4 := back_b (e := e') h'.b0
  have k1 := less_ne' (e := e) h.b0
  have k2 := less_ne' (e := e') h'.b0
  have c1 := lowB_pos (e := e) h.b0
  have c2 := lowB_pos (e := e') h'.b0
  generalize lessF e b = l1 at *
  generalize lessF e' b' = l2 at *
  generalize lowE e b = u at *
  generalize lowE e' b' = v at *
  generalize lowB e b = p at *
  generalize lowB e' b' = q at *
  subst e1 e2 e3 e4
  have hpq : p * q ≠ 0 := fun z => by rcases Int.mul_eq_zero.1 z with z | z <;> omega
  have ex : addL (u.map (l1 * ·)) (v.map (l2 * ·)) (l1 * p) (l2 * q) = ((addL u v p q).map (l2 * ·)).map (l1 * ·) := by
    unfold addL
    rw [sc_l, sc_l, sc_r, sc_r, ← sum_sc, ← sum_sc]
    congr 1
    rw [List.map_map, List.map_map]
    refine List.map_congr_left fun x _ => ?_
    show l2 * (l1 * x) = l1 * (l2 * x)
    rw [Int.mul_left_comm]
  rw [ex, show l1 * p * (l2 * q) = l1 * (l2 * (p * q)) by rw [Int.mul_assoc, Int.mul_left_comm p]]
  rw [El_mul k1 (fun z => (Int.mul_eq_zero.1 z).elim k2 hpq), El_mul k2 hpq]
theorem addE_eq {k : Nat} (hs : Sq s) (hg : Cl g) (h : Ok s k e b) (h' : Ok s k e' b') (hk : k + k + 1 ≤ 900) : f_Element___add__ [El s e b, El s e' b'] g = .ok (El s (addL e e' b b') (b * b')) g := by
  have o1 := low_ok h
  have o2 := low_ok h'
  have o3 := add_ok o1 o2
  have dim := hs.dim
  have md := made_eq (g := g) (s := s) hg o3.b0 (fun x hx => (o3.se x hx).mono hk) (o3.sb.mono hk) (by rw [o3.len]; omega)
  rw [addE_rep h h'] at md
  have cm : cMul (lowB e b) (lowB e' b') = true := cMul_z o1.sb o2.sb (by omega)
  have s1 := scaled_eq (g := g) o1.se o2.sb (by omega) (by rw [o1.len]; omega)
  have s2 := scaled_eq (g := g) o2.se o1.sb (by omega) (by rw [o2.len]; omega)
  have s3 := sum_eq (g := g) (a := scL (lowE e b) (lowB e' b')) (b := scL (lowE e' b') (lowB e b)) (by rw [sc_len, o1.len]; omega)
  refine ok_of (wp_callS rfl ?_)
  unfold b_Element___add__
  have v0 : ∀ y z, eVar 0 [some (El s e b), some (El s e' b'), y, z] g = .ok (El s e b) g := fun _ _ => rfl
  have v1 : ∀ y z, eVar 1 [some (El s e b), some (El s e' b'), y, z] g = .ok (El s e' b') g := fun _ _ => rfl
  rw [show (List.map some [El s e b, El s e' b'] ++ List.replicate (4 - 2) none) = [some (El s e b), some (El s e' b'), none, none] from rfl]
  rw [wp_cons, wp_if, wp_eNotT, wp_eTru, wp_eIsi, v1, wp_ok, isElem, wp_ok, truP_bl, Bool.not_true, pick_f, wp_nil]
  rw [wp_cons, wp_expr, wp_eCall, wp_aCons, v0, wp_ok, wp_aCons, v1, wp_ok, aNil_ok, wp_ok, req_same, wp_ok]
  rw [wp_cons, wp_set, wp_eCall, wp_aCons, fE_e (v0 _ _), wp_ok, wp_aCons, fE_b (v1 _ _), wp_ok, aNil_ok, wp_ok, s1, wp_ok]
  show SRes.wp (sCons _ _ [some (El s e b), some (El s e' b'), some (mD (scL (lowE e b) (lowB e' b'))), none] g) _ _ _ _
  rw [wp_cons, wp_set, wp_eCall, wp_aCons, fE_e (v1 _ _), wp_ok, wp_aCons, fE_b (v0 _ _), wp_ok, aNil_ok, wp_ok, s2, wp_ok]
  show SRes.wp (sCons _ _ [some (El s e b), some (El s e' b'), some (mD (scL (lowE e b) (lowB e' b'))), some (mD (scL (lowE e' b') (lowB e b)))] g) _ _ _ _
  rw [wp_cons, wp_ret, wp_eCall, wp_aCons, fE_a (v0 _ _), wp_ok, wp_aCons, wp_eCall, wp_aCons]
  show (Res.wp (Res.ok (mD (scL (lowE e b) (lowB e' b'))) g) _)
  rw [wp_ok, wp_aCons]
  show (Res.wp (Res.ok (mD (scL (lowE e' b') (lowB e b))) g) _)
  rw [wp_ok, aNil_ok, wp_ok, s3, wp_ok, wp_aCons, wp_eOp, fE_b (v0 _ _), wp_ok, fE_b (v1 _ _), wp_ok, oMul_ii, wp_okIf]
  refine ⟨cm, ?_⟩
  rw [aNil_ok, wp_ok]
  show (Res.wp (f_element_made [alg s, mD (addL (lowE e b) (lowE e' b') (lowB e b) (lowB e' b')), .int (lowB e b * lowB e' b')] g) _)
  rw [md, wp_ok]
  refine ⟨?_, ?_, ?_⟩ <;> first | trivial | rfl
theorem neg_ok {k : Nat} (h : Ok s k e b) : Ok s (k + 1) (scL e (-1)) b := ⟨h.b0, by rw [sc_len]; exact h.len, (h.se.sc (b := 1) (by unfold Sz; decide)).mono (by omega), h.sb.mono (by omega)⟩
theorem negE_rep {k : Nat} (h : Ok s k e b) : El s (scL (lowE e b) (-1)) (lowB e b) = El s (scL e (-1)) b := by
  have e1 := back_e (e := e) h.b0
  have e3 := back_b (e := e) h.b0
  have k1 := less_ne' (e := e) h.b0
  have c1 := lowB_pos (e := e) h.b0
  generalize lessF e b = l1 at *
  generalize lowE e b = u at *
  generalize lowB e b = p at *
  subst e1 e3
  rw [sc_l, El_mul k1 (by omega)]
theorem negE_eq {k : Nat} (hs : Sq s) (hg : Cl g) (h : Ok s k e b) (hk : k + 1 ≤ 900) : f_Element___neg__ [El s e b] g = .ok (El s (scL e (-1)) b) g := by
  have o1 := low_ok h
  have o3 := neg_ok o1
  have dim := hs.dim
  have md := made_eq (g := g) (s := s) hg o3.b0 (fun x hx => (o3.se x hx).mono hk) (o3.sb.mono hk) (by rw [o3.len]; omega)
  rw [negE_rep h] at md
  have s1 := scaled_eq (g := g) (f := -1) (b := 1) o1.se (by unfold Sz; decide) (by omega) (by rw [o1.len]; omega)
  refine ok_of (wp_callS rfl ?_)
  unfold b_Element___neg__
  have v0 : eVar 0 [some (El s e b)] g = .ok (El s e b) g := rfl
  rw [show (List.map some [El s e b] ++ List.replicate (1 - 1) none) = [some (El s e b)] from rfl]
  rw [wp_cons, wp_ret, wp_eCall, wp_aCons, fE_a v0, wp_ok, wp_aCons, wp_eCall, wp_aCons, fE_e v0, wp_ok, wp_aCons, wp_eUn, eC_ok, wp_ok, oNeg_i, wp_ok, aNil_ok, wp_ok, s1, wp_ok, wp_aCons, fE_b v0, wp_ok, aNil_ok, wp_ok, md, wp_ok]
  refine ⟨?_, ?_, ?_⟩ <;> first | trivial | rfl
end
section
variable {g : G} {s e e' : List Int} {b b' : Int} {σ : Sg} {a c : Ev} {k k' : Nat}
abbrev psM : List (Str × Fn) := [("Element", f_Element___mul__)]
abbrev psA : List (Str × Fn) := [("Element", f_Element___add__)]
abbrev psN : List (Str × Fn) := [("Element", f_Element___neg__)]
theorem pM : prOf psM "Element" = some f_Element___mul__ := rfl
theorem pA : prOf psA "Element" = some f_Element___add__ := rfl
theorem pN : prOf psN "Element" = some f_Element___neg__ := rfl
theorem mul_t {ps : List (Str × Fn)} (hp : prOf ps "Element" = some f_Element___mul__) (hs : Sq s) (hg : Cl g) (h : Ok s k e b) (h' : Ok s k' e' b') (hk : k + k' + 44 ≤ 900) : oOwn ps oMul (El s e b) (El s e' b') g = .ok (El s (rawP s.reverse e e') (b * b')) g := by
  have q := mulE_eq hs hg h h' hk
  unfold oOwn
  rw [ins_el]
  try dsimp only
  rw [hp]
  unfold El at *
  show (if ("Element" : Str) = "Element" then noEx (f_Element___mul__ [.ins "Element" [alg s, .int (lowB e b), mD (lowE e b)], .ins "Element" [alg s, .int (lowB e' b'), mD (lowE e' b')]] g) else Res.no) = _
  rw [if_pos rfl, q]
  rfl
theorem add_t {ps : List (Str × Fn)} (hp : prOf ps "Element" = some f_Element___add__) (hs : Sq s) (hg : Cl g) (h : Ok s k e b) (h' : Ok s k e' b') (hk : k + k + 1 ≤ 900) : oOwn ps oAdd (El s e b) (El s e' b') g = .ok (El s (addL e e' b b') (b * b')) g := by
  have q := addE_eq hs hg h h' hk
  unfold oOwn
  rw [ins_el]
  try dsimp only
  rw [hp]
  unfold El at *
  show (if ("Element" : Str) = "Element" then noEx (f_Element___add__ [.ins "Element" [alg s, .int (lowB e b), mD (lowE e b)], .ins "Element" [alg s, .int (lowB e' b'), mD (lowE e' b')]] g) else Res.no) = _
  rw [if_pos rfl, q]
  rfl
theorem neg_t {ps : List (Str × Fn)} (hp : prOf ps "Element" = some f_Element___neg__) (hs : Sq s) (hg : Cl g) (h : Ok s k e b) (hk : k + 1 ≤ 900) : oNegO ps (El s e b) g = .ok (El s (scL e (-1)) b) g := by
  have q := negE_eq hs hg h hk
  unfold oNegO
  rw [ins_el]
  try dsimp only
  rw [hp]
  try dsimp only
  rw [q]
  rfl
structure Is (s : List Int) (g : G) (σ : Sg) (a : Ev) (k : Nat) (e : List Int) (b : Int) : Prop where
  val : a σ g = .ok (El s e b) g
  ok : Ok s k e b
theorem Is.mul (h : Is s g σ a k e b) (h' : Is s g σ c k' e' b') (hs : Sq s) (hg : Cl g) (hk : k + k' + 44 ≤ 900) : Is s g σ (eOp (oOwn psM oMul) a c) (k + k' + 44) (rawP s.reverse e e') (b * b') := by
  refine ⟨ok_of ?_, mul_ok hs h.ok h'.ok⟩
  rw [wp_eOp, h.val, wp_ok, h'.val, wp_ok, mul_t pM hs hg h.ok h'.ok hk]
  exact ⟨rfl, rfl⟩
theorem Is.add (h : Is s g σ a k e b) (h' : Is s g σ c k e' b') (hs : Sq s) (hg : Cl g) (hk : k + k + 1 ≤ 900) : Is s g σ (eOp (oOwn psA oAdd) a c) (k + k + 1) (addL e e' b b') (b * b') := by
  refine ⟨ok_of ?_, add_ok h.ok h'.ok⟩
  rw [wp_eOp, h.val, wp_ok, h'.val, wp_ok, add_t pA hs hg h.ok h'.ok hk]
  exact ⟨rfl, rfl⟩
end
section
variable {g : G} {s : List Int}
structure SqB (s : List Int) : Prop where
  l4 : s.length ≤ 4
  bd : ∀ q ∈ s, q.natAbs ≤ 1000000
  n0 : ∀ q ∈ s, q ≠ 0
theorem SqB.sz {s : List Int} (h : SqB s) : SzL 20 s := fun q hq => by
  have := h.bd q hq
  unfold Sz
  omega
theorem SqB.dim {s : List Int} (h : SqB s) : 2 ^ s.length ≤ 16 := Nat.pow_le_pow_right (n := 2) (by omega) h.l4
theorem Sq.toB {s : List Int} (h : Sq s) : SqB s := ⟨h.l4, fun q hq => by have : q.natAbs < 1024 := h.sz q hq; omega, h.n0⟩
end
section
variable {g : G} {s e : List Int} {b f : Int}
theorem eAttr_pr {tb : STab} {ps : List (Str × Fn)} {f : Str} {a : Ev} {σ : Sg} {g : G} {d r : D} {c : Str} {fn : Fn} (h : a σ g = .ok d g) (e1 : fldOf tb f g d = none) (e2 : insOf g d = some c) (e3 : prOf ps c = some fn) (e4 : fn [d] g = .ok r g) : eAttr tb ps f a σ g = .ok r g := by
  unfold eAttr
  rw [h]
  dsimp only [Res.bind]
  rw [e1]
  dsimp only
  rw [e2]
  dsimp only
  rw [e3]
  dsimp only
  rw [e4]
  rfl
end
section
variable {g : G} {σ : Sg} {e1 e2 : Ev} {x y z : D}
theorem op_v {f : Op2} (h1 : e1 σ g = .ok x g) (h2 : e2 σ g = .ok y g) (h : f x y g = .ok z g) : eOp f e1 e2 σ g = .ok z g := ok_of (by rw [wp_eOp, h1, wp_ok, h2, wp_ok, h, wp_ok]; exact ⟨rfl, rfl⟩)
theorem un_v {f : Op1} (h1 : e1 σ g = .ok x g) (h : f x g = .ok z g) : eUn f e1 σ g = .ok z g := ok_of (by rw [wp_eUn, h1, wp_ok, h, wp_ok]; exact ⟨rfl, rfl⟩)
theorem call1_v {f : Fn} (h1 : e1 σ g = .ok x g) (h : f [x] g = .ok z g) : eCall f (aCons e1 aNil) σ g = .ok z g := ok_of (by rw [wp_eCall, wp_aCons, h1, wp_ok, aNil_ok, wp_ok, h, wp_ok]; exact ⟨rfl, rfl⟩)
theorem call2_v {f : Fn} (h1 : e1 σ g = .ok x g) (h2 : e2 σ g = .ok y g) (h : f [x, y] g = .ok z g) : eCall f (aCons e1 (aCons e2 aNil)) σ g = .ok z g := ok_of (by rw [wp_eCall, wp_aCons, h1, wp_ok, wp_aCons, h2, wp_ok, aNil_ok, wp_ok, h, wp_ok]; exact ⟨rfl, rfl⟩)
theorem call3_v {f : Fn} {e3 : Ev} {w : D} (h1 : e1 σ g = .ok x g) (h2 : e2 σ g = .ok y g) (h3 : e3 σ g = .ok w g) (h : f [x, y, w] g = .ok z g) : eCall f (aCons e1 (aCons e2 (aCons e3 aNil))) σ g = .ok z g := ok_of (by rw [wp_eCall, wp_aCons, h1, wp_ok, wp_aCons, h2, wp_ok, wp_aCons, h3, wp_ok, aNil_ok, wp_ok, h, wp_ok]; exact ⟨rfl, rfl⟩)
theorem nt_v {e : Ev} {b : Bool} (h : e σ g = .ok (.bl b) g) : eNotT (eTru e) σ g = .ok (!b) g := by
  unfold eNotT eTru
  rw [h]
  rfl
theorem ts_v {e : Ev} {b : Bool} (h : e σ g = .ok (.bl b) g) : eTst e σ g = .ok b g := by
  unfold eTst
  rw [h]
  try rfl
theorem if_no {t : Tv} {A r : Sx} {N B C : Sg → G → Prop} {R : D → G → Prop} (h : t σ g = .ok false g) (q : (r σ g).wp N R B C) : (sCons (sIf t A sNil) r σ g).wp N R B C := by
  rw [wp_cons, wp_if, h, wp_ok, pick_f, wp_nil]
  exact q
theorem ret_v {e : Ev} {r : Sx} {d : D} {N B C : Sg → G → Prop} {R : D → G → Prop} (h : e σ g = .ok d g) (q : R d g) : (sCons (sRet e) r σ g).wp N R B C := by
  rw [wp_cons, wp_ret, h, wp_ok]
  exact q
end
section
variable {g : G} {s e : List Int}
end
section
variable {g : G} {i : Nat} {k : Int} {s : List Int}
section
variable {g : G} {σ : Sg} {ta tb : Tv} {e1 e2 : Ev} {d : D} {b : Bool}
theorem or_yes (h1 : ta σ g = .ok true g) : eOrT ta tb σ g = .ok true g := by
  unfold eOrT
  rw [h1]
theorem or_snd (h1 : ta σ g = .ok false g) (h2 : tb σ g = .ok b g) : eOrT ta tb σ g = .ok b g := by
  unfold eOrT
  rw [h1]
  exact h2
end
end
def agn (s e f : List Int) : Bool := decide (sumL (rawP s.reverse e f) (rawP s.reverse f e) = List.replicate 8 0)
def isq (s e : List Int) (b q : Int) : Bool := decide (rawP s.reverse e e = (q * b * b) :: List.replicate 7 0)
theorem sum_opp : ∀ {P Q : List Int}, P.length = Q.length → (P = scL Q (-1) ↔ sumL P Q = List.replicate P.length 0)
  | [], [], _ => ⟨fun _ => rfl, fun _ => rfl⟩
  | [], _ :: _, h => by simp at h
  | _ :: _, [], h => by simp at h
  | x :: P, y :: Q, h => by
    have ih := sum_opp (P := P) (Q := Q) (by simpa using h)
    show (x :: P = (-1 * y) :: scL Q (-1)) ↔ ((x + y) :: sumL P Q = 0 :: List.replicate P.length 0)
    rw [List.cons.injEq, List.cons.injEq, ih]
    constructor
    · rintro ⟨h1, h2⟩
      exact ⟨by omega, h2⟩
    · rintro ⟨h1, h2⟩
      exact ⟨by omega, h2⟩
theorem same_low {P P' : List Int} {B : Int} (hB : B ≠ 0) : (decide (lowB P B = lowB P' B) && decide (lowE P B = lowE P' B)) = decide (P = P') := by
  rw [Bool.eq_iff_iff, Bool.and_eq_true, decide_eq_true_iff, decide_eq_true_iff, decide_eq_true_iff]
  constructor
  · rintro ⟨h1, h2⟩
    have b1 := back_b (e := P) hB
    have b2 := back_b (e := P') hB
    have p1 := lowB_pos (e := P) hB
    have e1 := back_e (e := P) hB
    have e2 := back_e (e := P') hB
    have hl : lessF P B = lessF P' B := by
      rw [← h1] at b2
      exact Int.eq_of_mul_eq_mul_right (by omega) (b1.trans b2.symm)
    rw [← e1, ← e2, h2, hl]
  · rintro rfl
    exact ⟨rfl, rfl⟩
section
variable {g : G} {s e e' : List Int} {b b' q : Int} {k k' : Nat}
theorem turn_eq (hs : Sq s) (h3 : s.length = 3) (hg : Cl g) (h : Ok s k e b) (h' : Ok s k' e' b') (hk : k + k' + 45 ≤ 900) : f_do_turn [El s e b, El s e' b'] g = .ok (.bl (agn s e e')) g := by
  have hv : s.reverse.length = s.length := List.length_reverse
  have o1 := mul_ok hs h h'
  have o2 := mul_ok hs h' h
  have m1 := mul_t (g := g) pM hs hg h h' (by omega)
  have m2 := mul_t (g := g) pM hs hg h' h (by omega)
  have n2 := neg_t (g := g) pN hs hg o2 (by omega)
  have r1 := raw_len s.reverse e e' (by rw [hv]; exact h.len) (by rw [hv]; exact h'.len)
  have r2 := raw_len s.reverse e' e (by rw [hv]; exact h'.len) (by rw [hv]; exact h.len)
  have res : (decide (lowB (rawP s.reverse e e') (b * b') = lowB (scL (rawP s.reverse e' e) (-1)) (b' * b)) && decide (lowE (rawP s.reverse e e') (b * b') = lowE (scL (rawP s.reverse e' e) (-1)) (b' * b))) = agn s e e' := by
    rw [Int.mul_comm b' b, same_low o1.b0]
    unfold agn
    refine decide_eq_decide.2 ?_
    have := sum_opp (P := rawP s.reverse e e') (Q := rawP s.reverse e' e) (by rw [r1, r2])
    rw [r1, hv, h3] at this
    exact this
  have v0 : eVar 0 [some (El s e b), some (El s e' b')] g = .ok (El s e b) g := rfl
  have v1 : eVar 1 [some (El s e b), some (El s e' b')] g = .ok (El s e' b') g := rfl
  refine ok_of (wp_callS rfl ?_)
  unfold b_do_turn
  rw [show (List.map some [El s e b, El s e' b'] ++ List.replicate (2 - 2) none) = [some (El s e b), some (El s e' b')] from rfl]
  exact ret_v (op_v (op_v v0 v1 m1) (un_v (op_v v1 v0 m2) n2) (by rw [eq_t, res])) ⟨rfl, rfl, rfl⟩
theorem one_low {e : List Int} : lowB e 1 = 1 ∧ lowE e 1 = e := by
  have b1 := back_b (e := e) (b := 1) (by omega)
  have p1 := lowB_pos (e := e) (b := 1) (by omega)
  have e1 := back_e (e := e) (b := 1) (by omega)
  have h1 : lowB e 1 ∣ 1 := ⟨lessF e 1, by rw [Int.mul_comm]; exact b1.symm⟩
  have h2 : lowB e 1 = 1 := by
    have := Int.le_of_dvd (by omega) h1
    omega
  rw [h2, Int.mul_one] at b1
  refine ⟨h2, ?_⟩
  rw [b1] at e1
  simpa using e1
theorem worth_iff {P : List Int} {B q : Int} (hB : B ≠ 0) (hl : P.length = 8) : (decide (lowB P B = 1) && (decide ((lowE P B).getD 0 0 = q) && !((lowE P B).drop 1).any fun n => n != 0)) = decide (P = (q * B) :: List.replicate 7 0) := by
  rw [Bool.eq_iff_iff, Bool.and_eq_true, Bool.and_eq_true, decide_eq_true_iff, decide_eq_true_iff, decide_eq_true_iff]
  constructor
  · rintro ⟨h1, h2, h3⟩
    have b1 := back_b (e := P) hB
    rw [h1, Int.mul_one] at b1
    have e1 := back_e (e := P) hB
    rw [b1] at e1
    have ll : (lowE P B).length = 8 := by rw [lowE_len, hl]
    generalize lowE P B = L at *
    cases L with
    | nil => simp at ll
    | cons x L =>
      have hx : x = q := h2
      have hL : L = List.replicate 7 0 := by
        refine List.eq_replicate_iff.2 ⟨by simpa using ll, fun y hy => ?_⟩
        have h4 : (L.any fun n => n != 0) = false := by simpa using h3
        have := (List.any_eq_false.1 h4) y hy
        simpa using this
      rw [← e1, hx, hL, List.map_cons, List.map_replicate, Int.mul_zero, Int.mul_comm]
  · intro h
    have e : P = ((q :: List.replicate 7 0).map (B * ·)) := by
      rw [h, List.map_cons, List.map_replicate, Int.mul_zero, Int.mul_comm]
    have h1 : lowB P B = 1 := by
      have := lowB_mul (e := q :: List.replicate 7 0) (b := 1) (k := B) hB (by omega)
      rw [← e, Int.mul_one] at this
      rw [this]
      exact one_low.1
    have h2 : lowE P B = q :: List.replicate 7 0 := by
      have := lowE_mul (e := q :: List.replicate 7 0) (b := 1) (k := B) hB (by omega)
      rw [← e, Int.mul_one] at this
      rw [this]
      exact one_low.2
    rw [h2]
    exact ⟨h1, rfl, rfl⟩
end
section
variable {g : G} {s s' e e' : List Int} {b b' q : Int} {k k' : Nat} {σ : Sg} {e1 e2 : Ev} {x y : Bool} {d : D}
theorem and_v (h1 : e1 σ g = .ok (.bl x) g) (h2 : e2 σ g = .ok (.bl y) g) : eAnd e1 e2 σ g = .ok (.bl (x && y)) g := by
  refine ok_of ?_
  rw [wp_eAnd, h1, wp_ok, truP_bl]
  cases x with
  | true =>
    rw [pick_t, h2, wp_ok]
    exact ⟨rfl, rfl⟩
  | false =>
    rw [pick_f]
    exact ⟨rfl, rfl⟩
theorem and_no (h1 : e1 σ g = .ok (.bl false) g) : eAnd e1 e2 σ g = .ok (.bl false) g := by
  refine ok_of ?_
  rw [wp_eAnd, h1, wp_ok, truP_bl, pick_f]
  exact ⟨rfl, rfl⟩
theorem any_tup {L : List Int} : fAnyI [mD L] g = .ok (.bl (L.any fun n => n != 0)) g := by
  show (match intsOf (L.map D.int) with | some is => Res.ok (D.bl (is.any fun n => n != 0)) g | none => .no) = _
  rw [ints_map]
theorem isratio_m (hl : 1 ≤ e.length) : f_Element_is_ratio [El s e b] g = .ok (.bl (!((lowE e b).drop 1).any fun n => n != 0)) g := by
  have v0 : eVar 0 [some (El s e b)] g = .ok (El s e b) g := rfl
  have c1 : cutD ((lowE e b).map D.int) (some 1) none = ((lowE e b).drop 1).map D.int := by
    rw [List.map_drop]
    exact sl_from (n := 1) (by rw [List.length_map, lowE_len]; exact hl)
  have sv : eSl (eAttr stab [] "own_entries" (eVar 0)) (oPart (eC (.int 1))) oNo [some (El s e b)] g = .ok (mD ((lowE e b).drop 1)) g := by
    refine ok_of ?_
    rw [wp_eSl, fE_e v0, wp_ok, wp_oPart, eC_ok, wp_ok, intP_i, oNo_ok, wp_ok]
    show (Res.wp (slD g (.tup ((lowE e b).map D.int)) _ _) _)
    rw [slD_tup, wp_ok, c1]
    exact ⟨rfl, rfl⟩
  refine ok_of (wp_callS rfl ?_)
  unfold b_Element_is_ratio
  rw [show (List.map some [El s e b] ++ List.replicate (1 - 1) none) = [some (El s e b)] from rfl]
  rw [wp_cons, wp_ret, wp_eNot, call1_v sv any_tup, wp_ok, truP_bl]
  exact ⟨rfl, rfl, rfl⟩
theorem nf_ir {xs : List D} : fldOf stab "is_ratio" g (.ins "Element" xs) = none := by kernel_rfl
theorem worth_eq (hb : b ≠ 0) (hl : e.length = 8) : f_is_worth [El s e b, .int q] g = .ok (.bl (decide (e = (q * b) :: List.replicate 7 0))) g := by
  have v0 : eVar 0 [some (El s e b), some (.int q)] g = .ok (El s e b) g := rfl
  have v1 : eVar 1 [some (El s e b), some (.int q)] g = .ok (.int q) g := rfl
  have ir := isratio_m (g := g) (s := s) (e := e) (b := b) (by omega)
  have ll : (lowE e b).length = 8 := by rw [lowE_len, hl]
  have ix : oIx (mD (lowE e b)) (.int 0) g = .ok (.int ((lowE e b).getD 0 0)) g := by
    generalize lowE e b = L at ll
    cases L with
    | nil => simp at ll
    | cons x L => exact oIx_tup (n := 0) rfl rfl
  have a3 : eAttr stab [("Element", f_Element_is_ratio)] "is_ratio" (eVar 0) [some (El s e b), some (.int q)] g = .ok (.bl (!((lowE e b).drop 1).any fun n => n != 0)) g := eAttr_pr (c := "Element") v0 nf_ir rfl (by kernel_rfl) ir
  refine ok_of (wp_callS rfl ?_)
  unfold b_is_worth
  rw [show (List.map some [El s e b, D.int q] ++ List.replicate (2 - 2) none) = [some (El s e b), some (.int q)] from rfl]
  rw [← worth_iff hb hl]
  exact ret_v (and_v (op_v (fE_b v0) (eC_ok (d := .int 1)) oEq_ii) (and_v (op_v (op_v (fE_e v0) (eC_ok (d := .int 0)) ix) v1 oEq_ii) a3)) ⟨rfl, rfl, rfl⟩
theorem eqA' : f_Doubled___eq__ [alg s, alg s'] g = .ok (.bl (decide (s = s'))) g := by
  have v0 : eVar 0 [some (alg s), some (alg s')] g = .ok (alg s) g := rfl
  have v1 : eVar 1 [some (alg s), some (alg s')] g = .ok (alg s') g := rfl
  refine ok_of (wp_callS rfl ?_)
  unfold b_Doubled___eq__
  rw [show (List.map some [alg s, alg s'] ++ List.replicate (2 - 2) none) = [some (alg s), some (alg s')] from rfl]
  rw [wp_cons, wp_ret, wp_eAnd, wp_eIsi, v1, wp_ok, isAlg, wp_ok, truP_bl, pick_t, wp_eOp, fA_s v0, wp_ok, fA_s v1, wp_ok, oEq_mD]
  refine ⟨?_, ?_, ?_⟩ <;> first | trivial | rfl
theorem cmpA {f : Op2} : oCmpO psD own f (alg s) (alg s') g = .ok (.bl (decide (s = s'))) g := by
  have hp : prOf psD "Doubled" = some f_Doubled___eq__ := rfl
  have hr : rkOf (alg s') = none := rfl
  unfold oCmpO
  rw [ins_alg]
  dsimp only
  rw [hp]
  dsimp only
  rw [hr]
  dsimp only
  rw [ins_alg]
  dsimp only
  rw [if_pos own_D, eqA']
  rfl
theorem eof_el : f_is_element_of [alg s, El s' e b] g = .ok (.bl (decide (s' = s))) g := by
  have v0 : eVar 0 [some (alg s), some (El s' e b)] g = .ok (alg s) g := rfl
  have v1 : eVar 1 [some (alg s), some (El s' e b)] g = .ok (El s' e b) g := rfl
  refine ok_of (wp_callS rfl ?_)
  unfold b_is_element_of
  rw [show (List.map some [alg s, El s' e b] ++ List.replicate (2 - 2) none) = [some (alg s), some (El s' e b)] from rfl]
  refine ret_v (and_v (x := true) (ok_of ?_) (op_v (fE_a v1) v0 cmpA)) ⟨rfl, by rw [Bool.true_and], rfl⟩
  rw [wp_eIsi, v1, wp_ok, isElem, wp_ok]
  exact ⟨rfl, rfl⟩
theorem eof_no (h : fIsi own (.own "Element") d g = .ok (.bl false) g) : f_is_element_of [alg s, d] g = .ok (.bl false) g := by
  have v1 : eVar 1 [some (alg s), some d] g = .ok d g := rfl
  refine ok_of (wp_callS rfl ?_)
  unfold b_is_element_of
  rw [show (List.map some [alg s, d] ++ List.replicate (2 - 2) none) = [some (alg s), some d] from rfl]
  refine ret_v (and_no (ok_of ?_)) ⟨rfl, rfl, rfl⟩
  rw [wp_eIsi, v1, wp_ok, h, wp_ok]
  exact ⟨rfl, rfl⟩
inductive Mb (s : List Int) (k : Nat) : D → Nat → Prop
  | el {e : List Int} {b : Int} (h : Ok s k e b) : Mb s k (El s e b) 0
  | far {s' e : List Int} {b : Int} (h : s' ≠ s) : Mb s k (El s' e b) 1
  | no {d : D} (h : ∀ g : G, fIsi own (.own "Element") d g = .ok (.bl false) g) : Mb s k d 2
theorem eof_m {n : Nat} (h : Mb s k d n) : f_is_element_of [alg s, d] g = .ok (.bl (decide (n = 0))) g := by
  cases h with
  | el h => rw [eof_el, decide_eq_true rfl, decide_eq_true rfl]
  | far h => rw [eof_el, decide_eq_false h, decide_eq_false (by omega)]
  | no h => rw [eof_no (h g), decide_eq_false (by omega)]
theorem eight_a (h : s.length = 3) : f_is_eight [alg s] g = .ok (.bl true) g := by
  have v0 : eVar 0 [some (alg s)] g = .ok (alg s) g := rfl
  have hd := fA_d v0
  rw [h] at hd
  refine ok_of (wp_callS rfl ?_)
  unfold b_is_eight
  rw [show (List.map some [alg s] ++ List.replicate (1 - 1) none) = [some (alg s)] from rfl]
  refine ret_v (and_v (x := true) (y := true) (ok_of ?_) (op_v hd (eC_ok (d := .int 8)) rfl)) ⟨rfl, rfl, rfl⟩
  rw [wp_eIsi, v0, wp_ok, isAlg, wp_ok]
  exact ⟨rfl, rfl⟩
end
def sqs (s : List Int) (e1 e2 e3 : List Int) (b1 b2 b3 q1 q2 q3 : Int) : Bool := isq s e1 b1 q1 && (isq s e2 b2 q2 && isq s e3 b3 q3)
def tns (s : List Int) (e1 e2 e3 : List Int) : Bool := agn s e1 e2 && (agn s e1 e3 && (agn s e2 e3 && agn s (rawP s.reverse e1 e2) e3))
def Jg (s : List Int) (e1 e2 e3 : List Int) (b1 b2 b3 q1 q2 q3 : Int) : Bool := sqs s e1 e2 e3 b1 b2 b3 q1 q2 q3 && tns s e1 e2 e3
section
variable {g : G} {s f e1 e2 e3 : List Int} {b1 b2 b3 q1 q2 q3 : Int} {k : Nat} {d d1 d2 d3 : D}
abbrev iS (f s : List Int) (v : D) (x y z : Option D) : Sg := [some (alg f), some (alg s), some v, x, y, z, none, none]
theorem iv2 {x y z : Option D} : eVar 2 (iS f s d x y z) g = .ok d g := rfl
theorem ti_v {ty : CK} {σ : Sg} {e : Ev} {b : Bool} (h : e σ g = .ok d g) (hi : fIsi own ty d g = .ok (.bl b) g) : eIsi own ty e σ g = .ok (.bl b) g := ok_of (by rw [wp_eIsi, h, wp_ok, hi, wp_ok]; exact ⟨rfl, rfl⟩)
theorem img_no (h : fIsi own (.bt .tup) d g = .ok (.bl false) g) : f_are_images [alg f, alg s, d] g = .ok (.bl false) g := by
  refine ok_of (wp_callS rfl ?_)
  unfold b_are_images
  rw [show (List.map some [alg f, alg s, d] ++ List.replicate (8 - 3) none) = iS f s d none none none from rfl]
  rw [wp_cons, wp_if, or_yes (nt_v (ti_v iv2 h)), wp_ok, pick_t]
  exact ret_v (eC_ok ..) ⟨rfl, rfl, rfl⟩
theorem ne_len {ds : List D} {n : Int} (h : (ds.length : Int) ≠ n) {ps : List (Str × Fn)} : oNeO ps own oNe (.int (ds.length : Int)) (.int n) g = .ok (.bl true) g := by
  show oNe (.int (ds.length : Int)) (.int n) g = _
  rw [oNe_ii, decide_eq_false h]
  rfl
theorem img_len {ds : List D} (h : ds.length ≠ 3) : f_are_images [alg f, alg s, .tup ds] g = .ok (.bl false) g := by
  refine ok_of (wp_callS rfl ?_)
  unfold b_are_images
  rw [show (List.map some [alg f, alg s, D.tup ds] ++ List.replicate (8 - 3) none) = iS f s (.tup ds) none none none from rfl]
  rw [wp_cons, wp_if, or_snd (nt_v (ti_v iv2 isTup)) (or_yes (ts_v (op_v (call1_v iv2 (fLen_tup ..)) (eC_ok (d := .int 3)) (ne_len (by omega))))), wp_ok, pick_t]
  exact ret_v (eC_ok ..) ⟨rfl, rfl, rfl⟩
theorem all_v {n1 n2 n3 : Nat} (m1 : Mb s k d1 n1) (m2 : Mb s k d2 n2) (m3 : Mb s k d3 n3) : eNotT (eTru (eCall fAll (aCons (eLc (iSeq (eVar 2)) (gvName 6) tvYes (eCall f_is_element_of (aCons (eVar 1) (aCons (eVar 6) aNil))) [6]) aNil))) (iS f s (.tup [d1, d2, d3]) none none none) g = .ok (!(decide (n1 = 0) && (decide (n2 = 0) && decide (n3 = 0)))) g := by
  have l1 : lcL (gvName 6) tvYes (eCall f_is_element_of (aCons (eVar 1) (aCons (eVar 6) aNil))) (iS f s (.tup [d1, d2, d3]) none none none) ([(d1, n1), (d2, n2), (d3, n3)].map Prod.fst) g = .ok ([(d1, n1), (d2, n2), (d3, n3)].map fun p => D.bl (decide (p.2 = 0))) g := by
    refine lcL_a _ _ _ fun p hp => ⟨[some (alg f), some (alg s), some (.tup [d1, d2, d3]), none, none, none, some p.1, none], rfl, ?_⟩
    have hm : Mb s k p.1 p.2 := by
      simp only [List.mem_cons, List.not_mem_nil, or_false] at hp
      rcases hp with rfl | rfl | rfl
      · exact m1
      · exact m2
      · exact m3
    exact call2_v (x := alg s) (y := p.1) rfl rfl (eof_m hm)
  have lc : (eLc (iSeq (eVar 2)) (gvName 6) tvYes (eCall f_is_element_of (aCons (eVar 1) (aCons (eVar 6) aNil))) [6]) (iS f s (.tup [d1, d2, d3]) none none none) g = .ok (.lst ([(d1, n1), (d2, n2), (d3, n3)].map fun p => D.bl (decide (p.2 = 0)))) g := by
    refine ok_of ?_
    rw [wp_eLc, wp_iSeq, iv2, wp_ok, ivOf_tup, wp_ok, wp_noEx, lcAll_fix, wipeD_cons, wipeD_nil]
    show (lcL _ _ _ (iS f s (.tup [d1, d2, d3]) none none none) ([(d1, n1), (d2, n2), (d3, n3)].map Prod.fst) g).wp _
    rw [l1, wp_ok]
    exact ⟨rfl, rfl, rfl⟩
  have := nt_v (call1_v lc fAll_map)
  rw [this]
  simp only [List.all_cons, List.all_nil, Bool.and_true]
theorem three_v {d1 d2 d3 : D} : eTst (eOp (oNeO [("Element", f_Element___eq__)] own oNe) (eCall fLen (aCons (eVar 2) aNil)) (eC (.int 3))) (iS f s (.tup [d1, d2, d3]) none none none) g = .ok false g := ts_v (op_v (x := .int 3) (call1_v iv2 rfl) (eC_ok (d := .int 3)) rfl)
theorem img_odd {n1 n2 n3 : Nat} (m1 : Mb s k d1 n1) (m2 : Mb s k d2 n2) (m3 : Mb s k d3 n3) (h : ¬ (n1 = 0 ∧ n2 = 0 ∧ n3 = 0)) : f_are_images [alg f, alg s, .tup [d1, d2, d3]] g = .ok (.bl false) g := by
  have hb : (decide (n1 = 0) && (decide (n2 = 0) && decide (n3 = 0))) = false := by
    rw [Bool.eq_false_iff]
    intro hc
    rw [Bool.and_eq_true, Bool.and_eq_true, decide_eq_true_iff, decide_eq_true_iff, decide_eq_true_iff] at hc
    exact h hc
  have av := all_v (g := g) (f := f) m1 m2 m3
  rw [hb] at av
  refine ok_of (wp_callS rfl ?_)
  unfold b_are_images
  rw [show (List.map some [alg f, alg s, D.tup [d1, d2, d3]] ++ List.replicate (8 - 3) none) = iS f s (.tup [d1, d2, d3]) none none none from rfl]
  rw [wp_cons, wp_if, or_snd (nt_v (ti_v iv2 isTup)) (or_snd three_v av), wp_ok, Bool.not_false, pick_t]
  exact ret_v (eC_ok ..) ⟨rfl, rfl, rfl⟩
theorem wsq (hs : Sq s) (h3 : s.length = 3) (hg : Cl g) (o : Ok s k e1 b1) (hk : k + k + 45 ≤ 900) {σ : Sg} (v6 : eVar 6 σ g = .ok (El s e1 b1) g) (v7 : eVar 7 σ g = .ok (.int q1) g) : eCall f_is_worth (aCons (eOp (oOwn [("Element", f_Element___mul__)] oMul) (eVar 6) (eVar 6)) (aCons (eVar 7) aNil)) σ g = .ok (.bl (isq s e1 b1 q1)) g := by
  have hv : s.reverse.length = s.length := List.length_reverse
  have m := mul_t (g := g) pM hs hg o o (by omega)
  have o2 := mul_ok hs o o
  have r := raw_len s.reverse e1 e1 (by rw [hv]; exact o.len) (by rw [hv]; exact o.len)
  rw [hv, h3] at r
  have w := worth_eq (g := g) (s := s) (q := q1) o2.b0 r
  rw [show q1 * (b1 * b1) = q1 * b1 * b1 from (Int.mul_assoc ..).symm] at w
  exact call2_v (op_v v6 v6 m) v7 w
theorem img_eq (hs : Sq s) (h3 : s.length = 3) (hg : Cl g) (o1 : Ok s k e1 b1) (o2 : Ok s k e2 b2) (o3 : Ok s k e3 b3) (hk : k + k + 44 + k + 45 ≤ 900) : f_are_images [alg [q1, q2, q3], alg s, .tup [El s e1 b1, El s e2 b2, El s e3 b3]] g = .ok (.bl (Jg s e1 e2 e3 b1 b2 b3 q1 q2 q3)) g := by
  have av := all_v (g := g) (f := [q1, q2, q3]) (Mb.el o1) (Mb.el o2) (Mb.el o3)
  rw [show (!(decide (0 = 0) && (decide (0 = 0) && decide (0 = 0)))) = false from rfl] at av
  generalize hX : El s e1 b1 = X at *
  generalize hY : El s e2 b2 = Y at *
  generalize hZ : El s e3 b3 = Z at *
  have hd : ∀ x ∈ [(X, q1, isq s e1 b1 q1), (Y, q2, isq s e2 b2 q2), (Z, q3, isq s e3 b3 q3)], ∀ σ : Sg, eVar 6 σ g = .ok x.1 g → eVar 7 σ g = .ok (.int x.2.1) g → eCall f_is_worth (aCons (eOp (oOwn [("Element", f_Element___mul__)] oMul) (eVar 6) (eVar 6)) (aCons (eVar 7) aNil)) σ g = .ok (.bl x.2.2) g := by
    intro x hx σ v6 v7
    simp only [List.mem_cons, List.not_mem_nil, or_false] at hx
    rcases hx with rfl | rfl | rfl
    · exact wsq hs h3 hg o1 (by omega) (by rw [hX]; exact v6) v7
    · exact wsq hs h3 hg o2 (by omega) (by rw [hY]; exact v6) v7
    · exact wsq hs h3 hg o3 (by omega) (by rw [hZ]; exact v6) v7
  have l1 : lcL (gvTup 2 (gvCons (gvName 6) (gvCons (gvName 7) gvNil))) tvYes (eCall f_is_worth (aCons (eOp (oOwn [("Element", f_Element___mul__)] oMul) (eVar 6) (eVar 6)) (aCons (eVar 7) aNil))) (iS [q1, q2, q3] s (.tup [X, Y, Z]) none none none) ([(X, q1, isq s e1 b1 q1), (Y, q2, isq s e2 b2 q2), (Z, q3, isq s e3 b3 q3)].map fun x => D.tup [x.1, .int x.2.1]) g = .ok ([(X, q1, isq s e1 b1 q1), (Y, q2, isq s e2 b2 q2), (Z, q3, isq s e3 b3 q3)].map fun x => D.bl x.2.2) g :=
    lcL_a _ _ _ fun x hx => ⟨[some (alg [q1, q2, q3]), some (alg s), some (.tup [X, Y, Z]), none, none, none, some x.1, some (.int x.2.1)], rfl, hd x hx _ rfl rfl⟩
  have iz : iZipL (aCons (eVar 2) (aCons (eAttr stab [] "own_squares" (eVar 0)) aNil)) (iS [q1, q2, q3] s (.tup [X, Y, Z]) none none none) g = .ok (.fix ([(X, q1, isq s e1 b1 q1), (Y, q2, isq s e2 b2 q2), (Z, q3, isq s e3 b3 q3)].map fun x => D.tup [x.1, .int x.2.1])) g := by
    have ac : aCons (eVar 2) (aCons (eAttr stab [] "own_squares" (eVar 0)) aNil) (iS [q1, q2, q3] s (.tup [X, Y, Z]) none none none) g = .ok [.tup [X, Y, Z], mD [q1, q2, q3]] g := ok_of (by
      rw [wp_aCons, iv2, wp_ok, wp_aCons, fA_s (s := [q1, q2, q3]) (show eVar 0 (iS [q1, q2, q3] s (.tup [X, Y, Z]) none none none) g = .ok (alg [q1, q2, q3]) g from rfl), wp_ok, aNil_ok, wp_ok]
      exact ⟨rfl, rfl⟩)
    unfold iZipL
    rw [ac]
    rfl
  have lc : (eLc (iZipL (aCons (eVar 2) (aCons (eAttr stab [] "own_squares" (eVar 0)) aNil))) (gvTup 2 (gvCons (gvName 6) (gvCons (gvName 7) gvNil))) tvYes (eCall f_is_worth (aCons (eOp (oOwn [("Element", f_Element___mul__)] oMul) (eVar 6) (eVar 6)) (aCons (eVar 7) aNil))) [6, 7]) (iS [q1, q2, q3] s (.tup [X, Y, Z]) none none none) g = .ok (.lst ([(X, q1, isq s e1 b1 q1), (Y, q2, isq s e2 b2 q2), (Z, q3, isq s e3 b3 q3)].map fun x => D.bl x.2.2)) g := by
    refine ok_of ?_
    rw [wp_eLc, iz, wp_ok, wp_noEx, lcAll_fix, wipeD_cons, wipeD_cons, wipeD_nil]
    show (lcL _ _ _ (iS [q1, q2, q3] s (.tup [X, Y, Z]) none none none) _ g).wp _
    rw [l1, wp_ok]
    exact ⟨rfl, rfl, rfl⟩
  have c2 := nt_v (call1_v lc fAll_map)
  rw [show (([(X, q1, isq s e1 b1 q1), (Y, q2, isq s e2 b2 q2), (Z, q3, isq s e3 b3 q3)].all fun x => x.2.2) = sqs s e1 e2 e3 b1 b2 b3 q1 q2 q3) by unfold sqs; simp only [List.all_cons, List.all_nil, Bool.and_true]] at c2
  refine ok_of (wp_callS rfl ?_)
  unfold b_are_images
  rw [show (List.map some [alg [q1, q2, q3], alg s, D.tup [X, Y, Z]] ++ List.replicate (8 - 3) none) = iS [q1, q2, q3] s (.tup [X, Y, Z]) none none none from rfl]
  refine if_no (or_snd (nt_v (ti_v iv2 isTup)) (or_snd three_v av)) ?_
  rw [wp_cons, wp_if, c2, wp_ok]
  unfold Jg
  cases sqs s e1 e2 e3 b1 b2 b3 q1 q2 q3 with
  | false =>
    rw [Bool.not_false, pick_t]
    exact ret_v (eC_ok ..) ⟨rfl, rfl, rfl⟩
  | true =>
    rw [Bool.not_true, pick_f, wp_nil, wp_cons, wp_asg, iv2, wp_ok, gvP_sqT, if_pos (show [X, Y, Z].length = 3 from rfl), gvP_cons, gvP_name, gvP_cons, gvP_name, gvP_cons, gvP_name, gvP_nil]
    show SRes.wp (sCons _ _ (iS [q1, q2, q3] s (.tup [X, Y, Z]) (some X) (some Y) (some Z)) g) _ _ _ _
    have v3 : eVar 3 (iS [q1, q2, q3] s (.tup [X, Y, Z]) (some X) (some Y) (some Z)) g = .ok X g := rfl
    have v4 : eVar 4 (iS [q1, q2, q3] s (.tup [X, Y, Z]) (some X) (some Y) (some Z)) g = .ok Y g := rfl
    have v5 : eVar 5 (iS [q1, q2, q3] s (.tup [X, Y, Z]) (some X) (some Y) (some Z)) g = .ok Z g := rfl
    have t12 := turn_eq (g := g) hs h3 hg o1 o2 (by omega)
    have t13 := turn_eq (g := g) hs h3 hg o1 o3 (by omega)
    have t23 := turn_eq (g := g) hs h3 hg o2 o3 (by omega)
    have m12 := mul_t (g := g) pM hs hg o1 o2 (by omega)
    have t123 := turn_eq (g := g) hs h3 hg (mul_ok hs o1 o2) o3 (by omega)
    rw [hX, hY] at t12 m12
    rw [hX, hZ] at t13
    rw [hY, hZ] at t23
    rw [hZ] at t123
    exact ret_v (and_v (call2_v v3 v4 t12) (and_v (call2_v v3 v5 t13) (and_v (call2_v v4 v5 t23) (call2_v (op_v v3 v4 m12) v5 t123)))) ⟨rfl, by unfold tns; rw [Bool.true_and], rfl⟩
end
section
variable {g : G} {s f e e' : List Int} {b q : Int} {k a c : Nat} {d : D} {σ : Sg}
theorem images_v {v r : D} (h1 : f.length = 3) (h2 : s.length = 3) (h : f_are_images [alg f, alg s, v] g = .ok r g) : f_is_images [alg f, alg s, v] g = .ok r g := by
  have rq : f_require_eights [.tup [alg f, alg s]] g = .ok .non g := by
    have l1 : lcL (gvName 1) tvYes (eCall f_is_eight (aCons (eVar 1) aNil)) [some (.tup [alg f, alg s]), none] ([f, s].map alg) g = .ok ([f, s].map fun _ => D.bl true) g := by
      refine lcL_a _ _ [f, s] fun x hx => ⟨[some (.tup [alg f, alg s]), some (alg x)], rfl, call1_v (x := alg x) rfl (eight_a ?_)⟩
      simp only [List.mem_cons, List.not_mem_nil, or_false] at hx
      rcases hx with rfl | rfl
      · exact h1
      · exact h2
    have lc : (eLc (iSeq (eVar 0)) (gvName 1) tvYes (eCall f_is_eight (aCons (eVar 1) aNil)) [1]) [some (.tup [alg f, alg s]), none] g = .ok (.lst ([f, s].map fun _ => D.bl true)) g := by
      refine ok_of ?_
      rw [wp_eLc, wp_iSeq]
      show (Res.wp (Res.ok (D.tup ([f, s].map alg)) g) _)
      rw [wp_ok, ivOf_tup, wp_ok, wp_noEx, lcAll_fix, wipeD_cons, wipeD_nil]
      show (lcL _ _ _ [some (.tup [alg f, alg s]), none] ([f, s].map alg) g).wp _
      rw [l1, wp_ok]
      exact ⟨rfl, rfl, rfl⟩
    refine ok_of (wp_callS rfl ?_)
    unfold b_require_eights
    rw [show (List.map some [D.tup [alg f, alg s]] ++ List.replicate (2 - 1) none) = [some (.tup [alg f, alg s]), none] from rfl]
    refine if_no (nt_v (b := true) (call1_v lc fAll_map)) ?_
    rw [wp_nil]
    exact ⟨rfl, rfl, rfl⟩
  have v0 : eVar 0 [some (alg f), some (alg s), some v] g = .ok (alg f) g := rfl
  have v1 : eVar 1 [some (alg f), some (alg s), some v] g = .ok (alg s) g := rfl
  have v2 : eVar 2 [some (alg f), some (alg s), some v] g = .ok v g := rfl
  refine ok_of (wp_callS rfl ?_)
  unfold b_is_images
  rw [show (List.map some [alg f, alg s, v] ++ List.replicate (3 - 3) none) = [some (alg f), some (alg s), some v] from rfl]
  rw [wp_cons, wp_expr, wp_eCall, wp_aCons, wp_eTup, wp_aCons, v0, wp_ok, wp_aCons, v1, wp_ok, aNil_ok, wp_ok]
  refine ⟨rfl, ?_⟩
  rw [aNil_ok, wp_ok, rq, wp_ok]
  exact ret_v (call3_v v0 v1 v2 h) ⟨rfl, rfl, rfl⟩
end
end LW
namespace LW
open PySem PySem.Spec L2 AW
def el (s es : List Int) : D := .ins "Element" [alg s, .int 1, mD es]
abbrev m3 : List Int := [-1, -1, -1]
def eight : D := alg m3
def gr (s : Int) : D := alg [-1, s, -1]
def ue (k : Nat) : List Int := (List.range 8).map fun i => if i = k then 1 else 0
def un (k : Nat) : D := el m3 (ue k)
def goodD : D := .tup [un 1, un 2, un 4]
def unD : D := .tup ((List.range 8).map un)
def noneL : List D := [.non, .int 8, mD m3, .str "doubled by -1 -1 -1", alg [-1, -1], alg [], alg [-1, -1, -1, -1], un 0, .lst [eight]]
def sqL : List Int := [31, -31, 10 ^ 6]
def badP : List (D × Str) := [(.int 0, "number 0"), (.int 1001, "number 1001"), (.int (-1001), "number -1001"), (.non, "number None"), (.bl true, "number True"), (.str "1", "number '1'"), (.int (10 ^ 60), "number 1000000000000000000000000000000000000000000000000000000000000")]
def badL : List D := [.int 0, .int 1001, .int (-1001), .non, .bl true, .str "1", .int (10 ^ 60)]
def oddL : List D := [.non, .tup [], .tup [un 1, un 2], .lst [un 1, un 2, un 4], .tup [un 1, un 2, un 3], .tup [un 1, un 1, un 4], .tup [un 1, un 2, un 4, un 1, un 2, un 4], un 1, .tup [.int 1, .int 2, .int 4]]
def thingL : List D := [.non, .int 1, el [-1, -1] [1, 0, 0, 0], mD (ue 0), .str "e1", eight, el [-1, -1, 2] (ue 0)]
abbrev tA (e : Ev) : Ev := eTold 0 ("_law_algebras_right", none) "_law_algebras_right.<locals>.<lambda>" cs_law_word 2 "fine" e
abbrev tW (e : Ev) : Ev := eTold 1 ("_law_ways_right", none) "_law_ways_right.<locals>.<lambda>" cs_law_word 2 "fine" e
abbrev aS (tr nn : D) (td du : Option D) (s : Int) (bad : D) : Sg := [some tr, some eight, some nn, td, du, some (gr s), some bad]
abbrev wS (tr nn odd thing : D) (td du : Option D) : Sg := [some tr, some eight, some nn, some goodD, some odd, some thing, td, du, some unD, some (alg [-1, -1])]
theorem a_w1 : Ev3 fun g => ∀ (tr nn bad : D) (td : Option D) (s : Int), nn ∈ noneL → tA (eCall f_are_alike (aCons (eVar 2) (aCons (eVar 2) aNil))) (aS tr nn td none s bad) (g) = .ok (.str "algebra") (g) := by
  refine ⟨fun t tr nn bad td s h => ?_, fun t u tr nn bad td s h => ?_, fun t u v tr nn bad td s h => ?_⟩ <;> (unfold noneL at h; simp only [List.mem_cons, List.not_mem_nil, or_false] at h; rcases h with rfl | rfl | rfl | rfl | rfl | rfl | rfl | rfl | rfl <;> kernel_rfl)
theorem a_w2 : Ev3 fun g => ∀ (tr nn bad : D) (td : Option D) (s : Int) (x1 : Str), nn ∈ noneL → tA (eCall f_are_alike (aCons (eVar 1) (aCons (eVar 2) aNil))) (aS tr nn td none s bad) (g ++ [.lst [.str x1]]) = .ok (.str "algebra") (g ++ [.lst [.str x1]]) := by
  refine ⟨fun t tr nn bad td s x1 h => ?_, fun t u tr nn bad td s x1 h => ?_, fun t u v tr nn bad td s x1 h => ?_⟩ <;> (unfold noneL at h; simp only [List.mem_cons, List.not_mem_nil, or_false] at h; rcases h with rfl | rfl | rfl | rfl | rfl | rfl | rfl | rfl | rfl <;> kernel_rfl)
theorem a_w3 : Ev3 fun g => ∀ (tr nn bad : D) (td : Option D) (s : Int) (x1 x2 : Str), nn ∈ noneL → tA (eCall f_images (aCons (eVar 2) (aCons (eVar 5) aNil))) (aS tr nn td none s bad) (g ++ [.lst [.str x1, .str x2]]) = .ok (.str "algebra") (g ++ [.lst [.str x1, .str x2]]) := by
  refine ⟨fun t tr nn bad td s x1 x2 h => ?_, fun t u tr nn bad td s x1 x2 h => ?_, fun t u v tr nn bad td s x1 x2 h => ?_⟩ <;> (unfold noneL at h; simp only [List.mem_cons, List.not_mem_nil, or_false] at h; rcases h with rfl | rfl | rfl | rfl | rfl | rfl | rfl | rfl | rfl <;> kernel_rfl)
theorem a_w4 : Ev3 fun g => ∀ (tr nn bad : D) (td : Option D) (s : Int) (x1 x2 x3 : Str), nn ∈ noneL → tA (eCall f_images (aCons (eVar 5) (aCons (eVar 2) aNil))) (aS tr nn td none s bad) (g ++ [.lst [.str x1, .str x2, .str x3]]) = .ok (.str "algebra") (g ++ [.lst [.str x1, .str x2, .str x3]]) := by
  refine ⟨fun t tr nn bad td s x1 x2 x3 h => ?_, fun t u tr nn bad td s x1 x2 x3 h => ?_, fun t u v tr nn bad td s x1 x2 x3 h => ?_⟩ <;> (unfold noneL at h; simp only [List.mem_cons, List.not_mem_nil, or_false] at h; rcases h with rfl | rfl | rfl | rfl | rfl | rfl | rfl | rfl | rfl <;> kernel_rfl)
theorem a_w5 : Ev3 fun g => ∀ (tr nn bad : D) (td : Option D) (s : Int) (x1 x2 x3 x4 : Str), s ∈ sqL → tA (eCall f_images (aCons (eVar 5) (aCons (eVar 1) aNil))) (aS tr nn td none s bad) (g ++ [.lst [.str x1, .str x2, .str x3, .str x4]]) = .ok (.str "many 30") (g ++ [.lst [.str x1, .str x2, .str x3, .str x4]]) := by
  refine ⟨fun t tr nn bad td s x1 x2 x3 x4 h => ?_, fun t u tr nn bad td s x1 x2 x3 x4 h => ?_, fun t u v tr nn bad td s x1 x2 x3 x4 h => ?_⟩ <;> (unfold sqL at h; simp only [List.mem_cons, List.not_mem_nil, or_false] at h; rcases h with rfl | rfl | rfl <;> kernel_rfl)
theorem a_w6 : Ev3 fun g => ∀ (tr nn bad : D) (td : Option D) (s : Int) (x1 x2 x3 x4 x5 : Str), s ∈ sqL → tA (eCall f_images (aCons (eVar 1) (aCons (eVar 5) aNil))) (aS tr nn td none s bad) (g ++ [.lst [.str x1, .str x2, .str x3, .str x4, .str x5]]) = .ok (.str "many 30") (g ++ [.lst [.str x1, .str x2, .str x3, .str x4, .str x5]]) := by
  refine ⟨fun t tr nn bad td s x1 x2 x3 x4 x5 h => ?_, fun t u tr nn bad td s x1 x2 x3 x4 x5 h => ?_, fun t u v tr nn bad td s x1 x2 x3 x4 x5 h => ?_⟩ <;> (unfold sqL at h; simp only [List.mem_cons, List.not_mem_nil, or_false] at h; rcases h with rfl | rfl | rfl <;> kernel_rfl)
theorem a_w7 : Ev3 fun g => ∀ (tr nn bad : D) (td : Option D) (s : Int) (x1 x2 x3 x4 x5 x6 : Str), s ∈ sqL → tA (eCall f_are_alike (aCons (eVar 5) (aCons (eVar 1) aNil))) (aS tr nn td none s bad) (g ++ [.lst [.str x1, .str x2, .str x3, .str x4, .str x5, .str x6]]) = .ok (.str "fine") (g ++ [.lst [.str x1, .str x2, .str x3, .str x4, .str x5, .str x6]]) := by
  refine ⟨fun t tr nn bad td s x1 x2 x3 x4 x5 x6 h => ?_, fun t u tr nn bad td s x1 x2 x3 x4 x5 x6 h => ?_, fun t u v tr nn bad td s x1 x2 x3 x4 x5 x6 h => ?_⟩ <;> (unfold sqL at h; simp only [List.mem_cons, List.not_mem_nil, or_false] at h; rcases h with rfl | rfl | rfl <;> kernel_rfl)
theorem a_w8 : Ev3 fun g => ∀ (tr nn bad : D) (td : Option D) (s : Int) (x1 x2 x3 x4 x5 x6 x7 : Str), nn ∈ noneL → tA (eCall f_is_images (aCons (eVar 2) (aCons (eVar 1) (aCons (eC .non) aNil)))) (aS tr nn td none s bad) (g ++ [.lst [.str x1, .str x2, .str x3, .str x4, .str x5, .str x6, .str x7]]) = .ok (.str "algebra") (g ++ [.lst [.str x1, .str x2, .str x3, .str x4, .str x5, .str x6, .str x7]]) := by
  refine ⟨fun t tr nn bad td s x1 x2 x3 x4 x5 x6 x7 h => ?_, fun t u tr nn bad td s x1 x2 x3 x4 x5 x6 x7 h => ?_, fun t u v tr nn bad td s x1 x2 x3 x4 x5 x6 x7 h => ?_⟩ <;> (unfold noneL at h; simp only [List.mem_cons, List.not_mem_nil, or_false] at h; rcases h with rfl | rfl | rfl | rfl | rfl | rfl | rfl | rfl | rfl <;> kernel_rfl)
theorem a_w9 : Ev3 fun g => ∀ (tr nn bad : D) (td : Option D) (s : Int) (x1 x2 x3 x4 x5 x6 x7 x8 : Str), nn ∈ noneL → tA (eCall f_is_images (aCons (eVar 5) (aCons (eVar 2) (aCons (eC .non) aNil)))) (aS tr nn td none s bad) (g ++ [.lst [.str x1, .str x2, .str x3, .str x4, .str x5, .str x6, .str x7, .str x8]]) = .ok (.str "algebra") (g ++ [.lst [.str x1, .str x2, .str x3, .str x4, .str x5, .str x6, .str x7, .str x8]]) := by
  refine ⟨fun t tr nn bad td s x1 x2 x3 x4 x5 x6 x7 x8 h => ?_, fun t u tr nn bad td s x1 x2 x3 x4 x5 x6 x7 x8 h => ?_, fun t u v tr nn bad td s x1 x2 x3 x4 x5 x6 x7 x8 h => ?_⟩ <;> (unfold noneL at h; simp only [List.mem_cons, List.not_mem_nil, or_false] at h; rcases h with rfl | rfl | rfl | rfl | rfl | rfl | rfl | rfl | rfl <;> kernel_rfl)
theorem a_w10 : Ev3 fun g => ∀ (tr nn bad : D) (td : Option D) (s : Int) (x1 x2 x3 x4 x5 x6 x7 x8 x9 : Str), tA (eCall f_is_images (aCons (eVar 5) (aCons (eVar 1) (aCons (eC .non) aNil)))) (aS tr nn td none s bad) (g ++ [.lst [.str x1, .str x2, .str x3, .str x4, .str x5, .str x6, .str x7, .str x8, .str x9]]) = .ok (.str "fine") (g ++ [.lst [.str x1, .str x2, .str x3, .str x4, .str x5, .str x6, .str x7, .str x8, .str x9]]) := by
  refine ⟨fun t tr nn bad td s x1 x2 x3 x4 x5 x6 x7 x8 x9 => ?_, fun t u tr nn bad td s x1 x2 x3 x4 x5 x6 x7 x8 x9 => ?_, fun t u v tr nn bad td s x1 x2 x3 x4 x5 x6 x7 x8 x9 => ?_⟩ <;> kernel_rfl
theorem a_w11 : Ev3 fun g => ∀ (tr nn bad : D) (td : Option D) (s : Int) (x1 x2 x3 x4 x5 x6 x7 x8 x9 x10 : Str), nn ∈ noneL → tA (eCall f_with_square (aCons (eVar 2) (aCons (eVar 6) aNil))) (aS tr nn td none s bad) (g ++ [.lst [.str x1, .str x2, .str x3, .str x4, .str x5, .str x6, .str x7, .str x8, .str x9, .str x10]]) = .ok (.str "algebra") (g ++ [.lst [.str x1, .str x2, .str x3, .str x4, .str x5, .str x6, .str x7, .str x8, .str x9, .str x10]]) := by
  refine ⟨fun t tr nn bad td s x1 x2 x3 x4 x5 x6 x7 x8 x9 x10 h => ?_, fun t u tr nn bad td s x1 x2 x3 x4 x5 x6 x7 x8 x9 x10 h => ?_, fun t u v tr nn bad td s x1 x2 x3 x4 x5 x6 x7 x8 x9 x10 h => ?_⟩ <;> (unfold noneL at h; simp only [List.mem_cons, List.not_mem_nil, or_false] at h; rcases h with rfl | rfl | rfl | rfl | rfl | rfl | rfl | rfl | rfl <;> kernel_rfl)
theorem a_w12 : Ev3 fun g => ∀ (tr nn bad : D) (td : Option D) (s : Int) (x1 x2 x3 x4 x5 x6 x7 x8 x9 x10 x11 : Str) (x : Str), (bad, x) ∈ badP → tA (eCall f_with_square (aCons (eVar 5) (aCons (eVar 6) aNil))) (aS tr nn td none s bad) (g ++ [.lst [.str x1, .str x2, .str x3, .str x4, .str x5, .str x6, .str x7, .str x8, .str x9, .str x10, .str x11]]) = .ok (.str x) (g ++ [.lst [.str x1, .str x2, .str x3, .str x4, .str x5, .str x6, .str x7, .str x8, .str x9, .str x10, .str x11]]) := by
  refine ⟨fun t tr nn bad td s x1 x2 x3 x4 x5 x6 x7 x8 x9 x10 x11 x h => ?_, fun t u tr nn bad td s x1 x2 x3 x4 x5 x6 x7 x8 x9 x10 x11 x h => ?_, fun t u v tr nn bad td s x1 x2 x3 x4 x5 x6 x7 x8 x9 x10 x11 x h => ?_⟩ <;> (unfold badP at h; simp only [List.mem_cons, List.not_mem_nil, or_false, Prod.mk.injEq] at h; rcases h with ⟨rfl, rfl⟩ | ⟨rfl, rfl⟩ | ⟨rfl, rfl⟩ | ⟨rfl, rfl⟩ | ⟨rfl, rfl⟩ | ⟨rfl, rfl⟩ | ⟨rfl, rfl⟩ <;> kernel_rfl)
theorem a_w13 : Ev3 fun g => ∀ (tr nn bad : D) (td : Option D) (s : Int) (x1 x2 x3 x4 x5 x6 x7 x8 x9 x10 x11 x12 : Str), s ∈ sqL → tA (eCall f_with_square (aCons (eVar 5) (aCons (eC (.int 5)) aNil))) (aS tr nn td none s bad) (g ++ [.lst [.str x1, .str x2, .str x3, .str x4, .str x5, .str x6, .str x7, .str x8, .str x9, .str x10, .str x11, .str x12]]) = .ok (.str "many 30") (g ++ [.lst [.str x1, .str x2, .str x3, .str x4, .str x5, .str x6, .str x7, .str x8, .str x9, .str x10, .str x11, .str x12]]) := by
  refine ⟨fun t tr nn bad td s x1 x2 x3 x4 x5 x6 x7 x8 x9 x10 x11 x12 h => ?_, fun t u tr nn bad td s x1 x2 x3 x4 x5 x6 x7 x8 x9 x10 x11 x12 h => ?_, fun t u v tr nn bad td s x1 x2 x3 x4 x5 x6 x7 x8 x9 x10 x11 x12 h => ?_⟩ <;> (unfold sqL at h; simp only [List.mem_cons, List.not_mem_nil, or_false] at h; rcases h with rfl | rfl | rfl <;> kernel_rfl)
theorem a_w14 : Ev3 fun g => ∀ (tr nn bad : D) (td : Option D) (s : Int) (x1 x2 x3 x4 x5 x6 x7 x8 x9 x10 x11 x12 x13 : Str), nn ∈ noneL → tA (eCall f_is_with_square (aCons (eVar 2) (aCons (eVar 6) (aCons (eC .non) aNil)))) (aS tr nn td none s bad) (g ++ [.lst [.str x1, .str x2, .str x3, .str x4, .str x5, .str x6, .str x7, .str x8, .str x9, .str x10, .str x11, .str x12, .str x13]]) = .ok (.str "algebra") (g ++ [.lst [.str x1, .str x2, .str x3, .str x4, .str x5, .str x6, .str x7, .str x8, .str x9, .str x10, .str x11, .str x12, .str x13]]) := by
  refine ⟨fun t tr nn bad td s x1 x2 x3 x4 x5 x6 x7 x8 x9 x10 x11 x12 x13 h => ?_, fun t u tr nn bad td s x1 x2 x3 x4 x5 x6 x7 x8 x9 x10 x11 x12 x13 h => ?_, fun t u v tr nn bad td s x1 x2 x3 x4 x5 x6 x7 x8 x9 x10 x11 x12 x13 h => ?_⟩ <;> (unfold noneL at h; simp only [List.mem_cons, List.not_mem_nil, or_false] at h; rcases h with rfl | rfl | rfl | rfl | rfl | rfl | rfl | rfl | rfl <;> kernel_rfl)
theorem a_w15 : Ev3 fun g => ∀ (tr nn bad : D) (td : Option D) (s : Int) (x1 x2 x3 x4 x5 x6 x7 x8 x9 x10 x11 x12 x13 x14 : Str) (x : Str), (bad, x) ∈ badP → tA (eCall f_is_with_square (aCons (eVar 5) (aCons (eVar 6) (aCons (eC .non) aNil)))) (aS tr nn td none s bad) (g ++ [.lst [.str x1, .str x2, .str x3, .str x4, .str x5, .str x6, .str x7, .str x8, .str x9, .str x10, .str x11, .str x12, .str x13, .str x14]]) = .ok (.str x) (g ++ [.lst [.str x1, .str x2, .str x3, .str x4, .str x5, .str x6, .str x7, .str x8, .str x9, .str x10, .str x11, .str x12, .str x13, .str x14]]) := by
  refine ⟨fun t tr nn bad td s x1 x2 x3 x4 x5 x6 x7 x8 x9 x10 x11 x12 x13 x14 x h => ?_, fun t u tr nn bad td s x1 x2 x3 x4 x5 x6 x7 x8 x9 x10 x11 x12 x13 x14 x h => ?_, fun t u v tr nn bad td s x1 x2 x3 x4 x5 x6 x7 x8 x9 x10 x11 x12 x13 x14 x h => ?_⟩ <;> (unfold badP at h; simp only [List.mem_cons, List.not_mem_nil, or_false, Prod.mk.injEq] at h; rcases h with ⟨rfl, rfl⟩ | ⟨rfl, rfl⟩ | ⟨rfl, rfl⟩ | ⟨rfl, rfl⟩ | ⟨rfl, rfl⟩ | ⟨rfl, rfl⟩ | ⟨rfl, rfl⟩ <;> kernel_rfl)
theorem a_w16 : Ev3 fun g => ∀ (tr nn bad : D) (td : Option D) (s : Int) (x1 x2 x3 x4 x5 x6 x7 x8 x9 x10 x11 x12 x13 x14 x15 : Str), tA (eCall f_is_with_square (aCons (eVar 5) (aCons (eUn oNeg (eC (.int 1000))) (aCons (eC .non) aNil)))) (aS tr nn td none s bad) (g ++ [.lst [.str x1, .str x2, .str x3, .str x4, .str x5, .str x6, .str x7, .str x8, .str x9, .str x10, .str x11, .str x12, .str x13, .str x14, .str x15]]) = .ok (.str "fine") (g ++ [.lst [.str x1, .str x2, .str x3, .str x4, .str x5, .str x6, .str x7, .str x8, .str x9, .str x10, .str x11, .str x12, .str x13, .str x14, .str x15]]) := by
  refine ⟨fun t tr nn bad td s x1 x2 x3 x4 x5 x6 x7 x8 x9 x10 x11 x12 x13 x14 x15 => ?_, fun t u tr nn bad td s x1 x2 x3 x4 x5 x6 x7 x8 x9 x10 x11 x12 x13 x14 x15 => ?_, fun t u v tr nn bad td s x1 x2 x3 x4 x5 x6 x7 x8 x9 x10 x11 x12 x13 x14 x15 => ?_⟩ <;> kernel_rfl
theorem a_end : Ev3 fun g => ∀ (tr nn bad : D) (s : Int) (x : Str), (bad, x) ∈ badP → (sCons (sSet 4 (eOp oAdd (eOp oMul (eLst (aCons (eC (.str "algebra")) aNil)) (eC (.int 4))) (eLst (aCons (eC (.str "many 30")) (aCons (eC (.str "many 30")) (aCons (eC (.str "fine")) (aCons (eC (.str "algebra")) (aCons (eC (.str "algebra")) (aCons (eC (.str "fine")) (aCons (eC (.str "algebra")) (aCons (eOp oAdd (eC (.str "number ")) (eCall fRepr (aCons (eVar 6) aNil))) aNil)))))))))))
  (sCons (sRet (eOp oEq (eVar 3) (eOp oAdd (eVar 4) (eLst (aCons (eC (.str "many 30")) (aCons (eC (.str "algebra")) (aCons (eOp oAdd (eC (.str "number ")) (eCall fRepr (aCons (eVar 6) aNil))) (aCons (eC (.str "fine")) aNil))))))))
  sNil)) (aS tr nn (some (.ref g.length)) none s bad) (g ++ [.lst [.str "algebra", .str "algebra", .str "algebra", .str "algebra", .str "many 30", .str "many 30", .str "fine", .str "algebra", .str "algebra", .str "fine", .str "algebra", .str x, .str "many 30", .str "algebra", .str x, .str "fine"]]) = .rt (.bl true) (g ++ [.lst [.str "algebra", .str "algebra", .str "algebra", .str "algebra", .str "many 30", .str "many 30", .str "fine", .str "algebra", .str "algebra", .str "fine", .str "algebra", .str x, .str "many 30", .str "algebra", .str x, .str "fine"]]) := by
  refine ⟨fun t tr nn bad s x h => ?_, fun t u tr nn bad s x h => ?_, fun t u v tr nn bad s x h => ?_⟩ <;> (unfold badP at h; simp only [List.mem_cons, List.not_mem_nil, or_false, Prod.mk.injEq] at h; rcases h with ⟨rfl, rfl⟩ | ⟨rfl, rfl⟩ | ⟨rfl, rfl⟩ | ⟨rfl, rfl⟩ | ⟨rfl, rfl⟩ | ⟨rfl, rfl⟩ | ⟨rfl, rfl⟩ <;> kernel_rfl)
theorem w_w1 : Ev3 fun g => ∀ (tr nn odd thing : D) (td : Option D), nn ∈ noneL → tW (eCall f_led (aCons (eVar 2) (aCons (eVar 1) (aCons (eVar 4) (aCons (eVar 5) aNil))))) (wS tr nn odd thing td none) (g) = .ok (.str "algebra") (g) := by
  refine ⟨fun t tr nn odd thing td h => ?_, fun t u tr nn odd thing td h => ?_, fun t u v tr nn odd thing td h => ?_⟩ <;> (unfold noneL at h; simp only [List.mem_cons, List.not_mem_nil, or_false] at h; rcases h with rfl | rfl | rfl | rfl | rfl | rfl | rfl | rfl | rfl <;> kernel_rfl)
theorem w_w2 : Ev3 fun g => ∀ (tr nn odd thing : D) (td : Option D) (x1 : Str), nn ∈ noneL → tW (eCall f_led (aCons (eVar 1) (aCons (eVar 2) (aCons (eVar 4) (aCons (eVar 5) aNil))))) (wS tr nn odd thing td none) (g ++ [.lst [.str x1]]) = .ok (.str "algebra") (g ++ [.lst [.str x1]]) := by
  refine ⟨fun t tr nn odd thing td x1 h => ?_, fun t u tr nn odd thing td x1 h => ?_, fun t u v tr nn odd thing td x1 h => ?_⟩ <;> (unfold noneL at h; simp only [List.mem_cons, List.not_mem_nil, or_false] at h; rcases h with rfl | rfl | rfl | rfl | rfl | rfl | rfl | rfl | rfl <;> kernel_rfl)
theorem w_w5 : Ev3 fun g => ∀ (tr nn odd thing : D) (td : Option D) (x1 x2 x3 x4 : Str), nn ∈ noneL → tW (eCall f_taken_back (aCons (eVar 2) (aCons (eVar 2) (aCons (eVar 4) aNil)))) (wS tr nn odd thing td none) (g ++ [.lst [.str x1, .str x2, .str x3, .str x4]]) = .ok (.str "algebra") (g ++ [.lst [.str x1, .str x2, .str x3, .str x4]]) := by
  refine ⟨fun t tr nn odd thing td x1 x2 x3 x4 h => ?_, fun t u tr nn odd thing td x1 x2 x3 x4 h => ?_, fun t u v tr nn odd thing td x1 x2 x3 x4 h => ?_⟩ <;> (unfold noneL at h; simp only [List.mem_cons, List.not_mem_nil, or_false] at h; rcases h with rfl | rfl | rfl | rfl | rfl | rfl | rfl | rfl | rfl <;> kernel_rfl)
theorem w_w6 : Ev3 fun g => ∀ (tr nn odd thing : D) (td : Option D) (x1 x2 x3 x4 x5 : Str), nn ∈ noneL → tW (eCall f_taken_back (aCons (eVar 1) (aCons (eVar 2) (aCons (eVar 4) aNil)))) (wS tr nn odd thing td none) (g ++ [.lst [.str x1, .str x2, .str x3, .str x4, .str x5]]) = .ok (.str "algebra") (g ++ [.lst [.str x1, .str x2, .str x3, .str x4, .str x5]]) := by
  refine ⟨fun t tr nn odd thing td x1 x2 x3 x4 x5 h => ?_, fun t u tr nn odd thing td x1 x2 x3 x4 x5 h => ?_, fun t u v tr nn odd thing td x1 x2 x3 x4 x5 h => ?_⟩ <;> (unfold noneL at h; simp only [List.mem_cons, List.not_mem_nil, or_false] at h; rcases h with rfl | rfl | rfl | rfl | rfl | rfl | rfl | rfl | rfl <;> kernel_rfl)
theorem w_w8 : Ev3 fun g => ∀ (tr nn odd thing : D) (td : Option D) (x1 x2 x3 x4 x5 x6 x7 : Str), nn ∈ noneL → tW (eCall f_followed (aCons (eVar 1) (aCons (eVar 1) (aCons (eVar 2) (aCons (eVar 4) (aCons (eVar 4) aNil)))))) (wS tr nn odd thing td none) (g ++ [.lst [.str x1, .str x2, .str x3, .str x4, .str x5, .str x6, .str x7]]) = .ok (.str "algebra") (g ++ [.lst [.str x1, .str x2, .str x3, .str x4, .str x5, .str x6, .str x7]]) := by
  refine ⟨fun t tr nn odd thing td x1 x2 x3 x4 x5 x6 x7 h => ?_, fun t u tr nn odd thing td x1 x2 x3 x4 x5 x6 x7 h => ?_, fun t u v tr nn odd thing td x1 x2 x3 x4 x5 x6 x7 h => ?_⟩ <;> (unfold noneL at h; simp only [List.mem_cons, List.not_mem_nil, or_false] at h; rcases h with rfl | rfl | rfl | rfl | rfl | rfl | rfl | rfl | rfl <;> kernel_rfl)
theorem w_par : Ev3 fun g => ∀ (tr nn : D), (sPar 8 9 (aCons (eOwnM [("Doubled", f_Doubled_units)] (eVar 1) aNil) (aCons (eCall (eMakeF "Doubled" f_Doubled___init__) (aCons (eTup (aCons (eUn oNeg (eC (.int 1))) (aCons (eUn oNeg (eC (.int 1))) aNil))) aNil)) aNil))) [some tr, some eight, some nn, none, none, none, none, none, none, none] g = .nx [some tr, some eight, some nn, none, none, none, none, none, some unD, some (alg [-1, -1])] g := by
  refine ⟨fun t tr nn => ?_, fun t u tr nn => ?_, fun t u v tr nn => ?_⟩ <;> kernel_rfl
theorem w_odd : Ev3 fun g => ∀ (tr nn : D), (aCons (eVar 0) (aCons (eLst (aCons (eC .non) (aCons (eTup aNil) (aCons (eSl (eVar 3) oNo (oPart (eC (.int 2)))) (aCons (eCall fList (aCons (eVar 3) aNil)) (aCons (eTup (aCons (eOp oIx (eVar 8) (eC (.int 1))) (aCons (eOp oIx (eVar 8) (eC (.int 2))) (aCons (eOp oIx (eVar 8) (eC (.int 3))) aNil)))) (aCons (eTup (aCons (eOp oIx (eVar 8) (eC (.int 1))) (aCons (eOp oIx (eVar 8) (eC (.int 1))) (aCons (eOp oIx (eVar 8) (eC (.int 4))) aNil)))) (aCons (eOp oAdd (eVar 3) (eVar 3)) (aCons (eOp oIx (eVar 8) (eC (.int 1))) (aCons (eTup (aCons (eC (.int 1)) (aCons (eC (.int 2)) (aCons (eC (.int 4)) aNil)))) aNil)))))))))) aNil)) [some tr, some eight, some nn, some goodD, none, none, none, none, some unD, some (alg [-1, -1])] g = .ok [tr, .lst oddL] g := by
  refine ⟨fun t tr nn => ?_, fun t u tr nn => ?_, fun t u v tr nn => ?_⟩ <;> kernel_rfl
theorem w_thing : Ev3 fun g => ∀ (tr nn odd : D), (aCons (eVar 0) (aCons (eLst (aCons (eC .non) (aCons (eC (.int 1)) (aCons (eOwnM [("Doubled", f_Doubled_one)] (eVar 9) aNil) (aCons (eOp oAdd (eTup (aCons (eC (.int 1)) aNil)) (eOp oMulT (eTup (aCons (eC (.int 0)) aNil)) (eC (.int 7)))) (aCons (eC (.str "e1")) (aCons (eVar 1) (aCons (eOwnM [("Doubled", f_Doubled_one)] (eCall (eMakeF "Doubled" f_Doubled___init__) (aCons (eTup (aCons (eUn oNeg (eC (.int 1))) (aCons (eUn oNeg (eC (.int 1))) (aCons (eC (.int 2)) aNil)))) aNil)) aNil) aNil)))))))) aNil)) [some tr, some eight, some nn, some goodD, some odd, none, none, none, some unD, some (alg [-1, -1])] g = .ok [tr, .lst thingL] g := by
  refine ⟨fun t tr nn odd => ?_, fun t u tr nn odd => ?_, fun t u v tr nn odd => ?_⟩ <;> kernel_rfl
theorem w_good (tr nn : D) (g : G) : (sSet 3 (eTup (aCons (eOp oIx (eVar 8) (eC (.int 1))) (aCons (eOp oIx (eVar 8) (eC (.int 2))) (aCons (eOp oIx (eVar 8) (eC (.int 4))) aNil))))) [some tr, some eight, some nn, none, none, none, none, none, some unD, some (alg [-1, -1])] g = .nx [some tr, some eight, some nn, some goodD, none, none, none, none, some unD, some (alg [-1, -1])] g := by kernel_rfl
theorem w_end : Ev3 fun g => ∀ (tr nn odd thing : D), (sCons (sSet 7 (eLst (aCons (eC (.str "algebra")) (aCons (eC (.str "algebra")) (aCons (eC (.str "operation")) (aCons (eC (.str "element")) (aCons (eC (.str "algebra")) (aCons (eC (.str "algebra")) (aCons (eC (.str "operation")) (aCons (eC (.str "algebra")) (aCons (eC (.str "operation")) (aCons (eC (.str "operation")) aNil))))))))))))
  (sCons (sRet (eOp oEq (eVar 6) (eOp oAdd (eVar 7) (eLst (aCons (eC (.str "fine")) aNil)))))
  sNil)) (wS tr nn odd thing (some (.ref g.length)) none) (g ++ [.lst [.str "algebra", .str "algebra", .str "operation", .str "element", .str "algebra", .str "algebra", .str "operation", .str "algebra", .str "operation", .str "operation", .str "fine"]]) = .rt (.bl true) (g ++ [.lst [.str "algebra", .str "algebra", .str "operation", .str "element", .str "algebra", .str "algebra", .str "operation", .str "algebra", .str "operation", .str "operation", .str "fine"]]) := by
  refine ⟨fun t tr nn odd thing => ?_, fun t u tr nn odd thing => ?_, fun t u v tr nn odd thing => ?_⟩ <;> kernel_rfl
theorem r_1 : Ev3 fun g => ∀ (tr : D), (sSet 1 (eCall (eMakeF "Doubled" f_Doubled___init__) (aCons (eTup (aCons (eUn oNeg (eC (.int 1))) (aCons (eUn oNeg (eC (.int 1))) (aCons (eUn oNeg (eC (.int 1))) aNil)))) aNil))) [some tr, none, none, none] g = .nx [some tr, some eight, none, none] g := by
  refine ⟨fun t tr => ?_, fun t u tr => ?_, fun t u v tr => ?_⟩ <;> kernel_rfl
theorem r_2 : Ev3 fun g => ∀ (tr : D), (sSet 2 (eLst (aCons (eC .non) (aCons (eC (.int 8)) (aCons (eTup (aCons (eUn oNeg (eC (.int 1))) (aCons (eUn oNeg (eC (.int 1))) (aCons (eUn oNeg (eC (.int 1))) aNil)))) (aCons (eC (.str "doubled by -1 -1 -1")) (aCons (eCall (eMakeF "Doubled" f_Doubled___init__) (aCons (eTup (aCons (eUn oNeg (eC (.int 1))) (aCons (eUn oNeg (eC (.int 1))) aNil))) aNil)) (aCons (eCall (eMakeF "Doubled" f_Doubled___init__) (aCons (eTup aNil) aNil)) (aCons (eCall (eMakeF "Doubled" f_Doubled___init__) (aCons (eTup (aCons (eUn oNeg (eC (.int 1))) (aCons (eUn oNeg (eC (.int 1))) (aCons (eUn oNeg (eC (.int 1))) (aCons (eUn oNeg (eC (.int 1))) aNil))))) aNil)) (aCons (eOwnM [("Doubled", f_Doubled_one)] (eVar 1) aNil) (aCons (eLst (aCons (eVar 1) aNil)) aNil))))))))))) [some tr, some eight, none, none] g = .nx [some tr, some eight, some (.lst noneL), none] g := by
  refine ⟨fun t tr => ?_, fun t u tr => ?_, fun t u v tr => ?_⟩ <;> kernel_rfl
theorem l_end : Ev3 fun g => ∀ (a : D) (b c : Option D), (sCons (sRet (eOp (oCmpO [("Element", f_Element___eq__)] own oEq) (eCall (eMakeF "Element" f_Element___init__) (aCons (eCall (eMakeF "Doubled" f_Doubled___init__) (aCons (eTup (aCons (eUn (oNegO [("Element", f_Element___neg__)]) (eC (.int 1))) (aCons (eUn (oNegO [("Element", f_Element___neg__)]) (eC (.int 1))) (aCons (eUn (oNegO [("Element", f_Element___neg__)]) (eC (.int 1))) aNil)))) aNil)) (aCons (eOp oMulT (eTup (aCons (eC (.int 0)) aNil)) (eC (.int 8))) aNil))) (eOwnM [("Element", f_Element_scaled)] (eOwnM [("Doubled", f_Doubled_one)] (eCall (eMakeF "Doubled" f_Doubled___init__) (aCons (eTup (aCons (eUn (oNegO [("Element", f_Element___neg__)]) (eC (.int 1))) (aCons (eUn (oNegO [("Element", f_Element___neg__)]) (eC (.int 1))) (aCons (eUn (oNegO [("Element", f_Element___neg__)]) (eC (.int 1))) aNil)))) aNil)) aNil) (aCons (eC (.int 0)) aNil))))
  sNil) [some a, b, c] g = .rt (.bl true) g := by
  refine ⟨fun t a b c => ?_, fun t u a b c => ?_, fun t u v a b c => ?_⟩ <;> kernel_rfl
theorem w_on : Ev3 fun g => f_way_on [goodD, goodD] (g ++ [.lst [.str "algebra", .str "algebra", .str "operation", .str "element", .str "algebra", .str "algebra", .str "operation", .str "algebra", .str "operation", .str "operation"]]) = .ok goodD (g ++ [.lst [.str "algebra", .str "algebra", .str "operation", .str "element", .str "algebra", .str "algebra", .str "operation", .str "algebra", .str "operation", .str "operation"]]) := ⟨fun t => by kernel_rfl, fun t u => by kernel_rfl, fun t u v => by kernel_rfl⟩
end LW
namespace LW
open PySem PySem.Spec L2 AW
section
variable {n tot : Nat} {b : Sx} {ds : List D} {g : G} {σ : Sg} {e : Exn} {d : D}
theorem callD_ex (hl : ds.length = n) (h : b (ds.map some ++ List.replicate (tot - n) none) g = .ex σ e g) : callD n tot b ds g = .ex e g := by
  unfold callD
  rw [if_pos hl, h]
  exact if_pos rfl
theorem callD_nx (hl : ds.length = n) (h : b (ds.map some ++ List.replicate (tot - n) none) g = .nx σ g) : callD n tot b ds g = .ok .non g := by
  unfold callD
  rw [if_pos hl, h]
  exact if_pos rfl
theorem callD_rt' (hl : ds.length = n) (h : b (ds.map some ++ List.replicate (tot - n) none) g = .rt d g) : callD n tot b ds g = .ok d g := by
  unfold callD
  rw [if_pos hl, h]
  exact if_pos rfl
theorem first_ex {a : Ev} {r : Sx} (h : a σ g = .ex e g) : sCons (sExpr a) r σ g = .ex σ e g := by
  unfold sCons sExpr sBind
  rw [h]
theorem first_ok {a : Ev} {r : Sx} (h : a σ g = .ok d g) : sCons (sExpr a) r σ g = r σ g := by
  unfold sCons sExpr sBind
  rw [h]
theorem ret_ok {a : Ev} {r : Sx} (h : a σ g = .ok d g) : sCons (sRet a) r σ g = .rt d g := by
  unfold sCons sRet sBind
  rw [h]
theorem if_f {c : Tv} {a r : Sx} (h : c σ g = .ok false g) : sCons (sIf c a sNil) r σ g = r σ g := by
  unfold sCons sIf sBind
  rw [h]
  rfl
theorem if_t {c : Tv} {a r : Sx} (h : c σ g = .ok true g) (h2 : a σ g = .ex σ e g) : sCons (sIf c a sNil) r σ g = .ex σ e g := by
  unfold sCons sIf sBind
  rw [h]
  dsimp only
  rw [h2]
theorem eTold_eq {j : Nat} {pd : He.Defn} {q : Str} {cs : List Cla} {n : Nat} {fine : Str} {lam : Ev} {r : Res D} (hj : g[j]? = some (.tab pd q)) (hl : lam σ g = r) (h : toldR cs n fine r = .ok d g) : eTold j pd q cs n fine lam σ g = .ok d g := by
  unfold eTold
  rw [hj]
  dsimp only
  rw [if_pos ⟨rfl, rfl⟩, hl, h]
end
def opX (g : G) : Res D := .ex ⟨"InvalidOperation", []⟩ g
def elX (g : G) : Res D := .ex ⟨"InvalidElement", []⟩ g
section
variable {g : G} {v odd thing : D}
theorem told_op : toldR cs_law_word 2 "fine" (opX g) = .ok (.str "operation") g := by kernel_rfl
theorem told_el : toldR cs_law_word 2 "fine" (elX g) = .ok (.str "element") g := by kernel_rfl
theorem req_e {fs : List (List Int)} (hf : ∀ f ∈ fs, f.length = 3) (hl : fs.length ≤ 10) : f_require_eights [.tup (fs.map alg)] g = .ok .non g := by
  have l1 : lcL (gvName 1) tvYes (eCall f_is_eight (aCons (eVar 1) aNil)) [some (.tup (fs.map alg)), none] (fs.map alg) g = .ok (fs.map fun _ => D.bl true) g :=
    lcL_a _ _ fs fun x hx => ⟨[some (.tup (fs.map alg)), some (alg x)], rfl, call1_v (x := alg x) rfl (eight_a (hf x hx))⟩
  have lc : (eLc (iSeq (eVar 0)) (gvName 1) tvYes (eCall f_is_eight (aCons (eVar 1) aNil)) [1]) [some (.tup (fs.map alg)), none] g = .ok (.lst (fs.map fun _ => D.bl true)) g := by
    refine ok_of ?_
    rw [wp_eLc, wp_iSeq]
    show (Res.wp (Res.ok (D.tup (fs.map alg)) g) _)
    rw [wp_ok, ivOf_tup, wp_ok, wp_noEx, lcAll_fix, wipeD_cons, wipeD_nil]
    show (lcL _ _ _ [some (.tup (fs.map alg)), none] (fs.map alg) g).wp _
    rw [l1, wp_ok]
    exact ⟨small_le (by rw [List.length_map]; omega), rfl, rfl⟩
  have al : (fs.all fun _ => true) = true := List.all_eq_true.2 fun _ _ => rfl
  have e := call1_v (f := fAll) lc fAll_map
  rw [al] at e
  exact callD_nx (σ := [some (.tup (fs.map alg)), none]) rfl ((if_f (nt_v (b := true) e)).trans rfl)
theorem m3_q {q : Int} (h : q ∈ m3) : q = -1 := by
  simp only [m3, List.mem_cons, List.not_mem_nil, or_false] at h
  omega
theorem sq3 : Sq m3 := ⟨by decide, fun q hq => (by rw [m3_q hq]; show (-1 : Int).natAbs < 2 ^ 10; decide), fun q hq => (by rw [m3_q hq]; decide)⟩
theorem ue_ok : ∀ k, k < 8 → ((ue k).length = 8 ∧ ∀ x ∈ ue k, x.natAbs < 2 ^ 2) := by decide +kernel
theorem un_ok {k : Nat} (h : k < 8) : Ok m3 2 (ue k) 1 := ⟨by decide, (ue_ok k h).1, (ue_ok k h).2, by show (1 : Int).natAbs < 2 ^ 2; decide⟩
theorem un_El : ∀ k ∈ [1, 2, 3, 4], lowE (ue k) 1 = ue k ∧ lowB (ue k) 1 = 1 := by decide +kernel
theorem un_eq {k : Nat} (h : k ∈ [1, 2, 3, 4]) : El m3 (ue k) 1 = un k := by
  unfold El un el
  rw [(un_El k h).1, (un_El k h).2]
theorem img3 {i j k : Nat} (hi : i ∈ [1, 2, 3, 4]) (hj : j ∈ [1, 2, 3, 4]) (hk : k ∈ [1, 2, 3, 4]) (hg : Cl g) : f_are_images [eight, eight, .tup [un i, un j, un k]] g = .ok (.bl (Jg m3 (ue i) (ue j) (ue k) 1 1 1 (-1) (-1) (-1))) g := by
  have l8 : ∀ k ∈ [1, 2, 3, 4], k < 8 := by decide
  have := img_eq (g := g) (q1 := -1) (q2 := -1) (q3 := -1) sq3 rfl hg (un_ok (l8 i hi)) (un_ok (l8 j hj)) (un_ok (l8 k hk)) (by omega)
  rw [un_eq hi, un_eq hj, un_eq hk] at this
  exact this
theorem good_im (hg : Cl g) : f_are_images [eight, eight, goodD] g = .ok (.bl true) g := by
  have e : Jg m3 (ue 1) (ue 2) (ue 4) 1 1 1 (-1) (-1) (-1) = true := by decide +kernel
  have := img3 (g := g) (i := 1) (j := 2) (k := 4) (by decide) (by decide) (by decide) hg
  rw [e] at this
  exact this
theorem odd_im (h : odd ∈ oddL) (hg : Cl g) : f_are_images [eight, eight, odd] g = .ok (.bl false) g := by
  unfold oddL at h
  simp only [List.mem_cons, List.not_mem_nil, or_false] at h
  rcases h with rfl | rfl | rfl | rfl | rfl | rfl | rfl | rfl | rfl
  · exact img_no rfl
  · exact img_len (by decide)
  · exact img_len (by decide)
  · exact img_no rfl
  · have e : Jg m3 (ue 1) (ue 2) (ue 3) 1 1 1 (-1) (-1) (-1) = false := by decide +kernel
    have := img3 (g := g) (i := 1) (j := 2) (k := 3) (by decide) (by decide) (by decide) hg
    rw [e] at this
    exact this
  · have e : Jg m3 (ue 1) (ue 1) (ue 4) 1 1 1 (-1) (-1) (-1) = false := by decide +kernel
    have := img3 (g := g) (i := 1) (j := 1) (k := 4) (by decide) (by decide) (by decide) hg
    rw [e] at this
    exact this
  · exact img_len (by decide)
  · exact img_no rfl
  · exact img_odd (k := 2) (n1 := 2) (n2 := 2) (n3 := 2) (.no fun _ => rfl) (.no fun _ => rfl) (.no fun _ => rfl) (by decide)
theorem ri_no (h : odd ∈ oddL) (hg : Cl g) : f_require_images [eight, eight, odd] g = opX g :=
  callD_ex (σ := [some eight, some eight, some odd]) rfl (if_t (nt_v (b := false) (call3_v (x := eight) (y := eight) (w := odd) rfl rfl rfl (odd_im h hg))) rfl)
theorem ri_ok (hg : Cl g) : f_require_images [eight, eight, goodD] g = .ok .non g :=
  callD_nx (σ := [some eight, some eight, some goodD]) rfl ((if_f (nt_v (b := true) (call3_v (x := eight) (y := eight) (w := goodD) rfl rfl rfl (good_im hg)))).trans rfl)
theorem re_no (h : thing ∈ thingL) : f_require_element_of [eight, thing] g = elX g := by
  have e : f_is_element_of [eight, thing] g = .ok (.bl false) g := by
    unfold thingL at h
    simp only [List.mem_cons, List.not_mem_nil, or_false] at h
    rcases h with rfl | rfl | rfl | rfl | rfl | rfl | rfl
    · exact eof_m (s := m3) (k := 2) (n := 2) (.no fun _ => rfl)
    · exact eof_m (s := m3) (k := 2) (n := 2) (.no fun _ => rfl)
    · exact eof_m (s := m3) (k := 2) (n := 1) (.far (s' := [-1, -1]) (e := [1, 0, 0, 0]) (b := 1) (by decide))
    · exact eof_m (s := m3) (k := 2) (n := 2) (.no fun _ => rfl)
    · exact eof_m (s := m3) (k := 2) (n := 2) (.no fun _ => rfl)
    · exact eof_m (s := m3) (k := 2) (n := 2) (.no fun _ => rfl)
    · exact eof_m (s := m3) (k := 2) (n := 1) (.far (s' := [-1, -1, 2]) (e := ue 0) (b := 1) (by decide))
  exact callD_ex (σ := [some eight, some thing]) rfl (if_t (nt_v (b := false) (call2_v (x := eight) (y := thing) rfl rfl e)) rfl)
theorem two_e : f_require_eights [.tup [eight, eight]] g = .ok .non g := req_e (fs := [m3, m3]) (by decide) (by decide)
theorem three_e : f_require_eights [.tup [eight, eight, eight]] g = .ok .non g := req_e (fs := [m3, m3, m3]) (by decide) (by decide)
theorem led_op (h : odd ∈ oddL) (hg : Cl g) : f_led [eight, eight, odd, thing] g = opX g :=
  callD_ex (σ := [some eight, some eight, some odd, some thing]) rfl ((first_ok (call1_v (x := .tup [eight, eight]) rfl two_e)).trans (first_ex (ri_no h hg)))
theorem led_el (h : thing ∈ thingL) (hg : Cl g) : f_led [eight, eight, goodD, thing] g = elX g :=
  callD_ex (σ := [some eight, some eight, some goodD, some thing]) rfl ((first_ok (call1_v (x := .tup [eight, eight]) rfl two_e)).trans ((first_ok (call3_v (x := eight) (y := eight) (w := goodD) rfl rfl rfl (ri_ok hg))).trans (first_ex (re_no h))))
theorem back_op (h : odd ∈ oddL) (hg : Cl g) : f_taken_back [eight, eight, odd] g = opX g :=
  callD_ex (σ := [some eight, some eight, some odd]) rfl ((first_ok (call1_v (x := .tup [eight, eight]) rfl two_e)).trans (first_ex (ri_no h hg)))
theorem foll_1 (h : odd ∈ oddL) (hg : Cl g) : f_followed [eight, eight, eight, odd, v] g = opX g :=
  callD_ex (σ := [some eight, some eight, some eight, some odd, some v]) rfl ((first_ok (call1_v (x := .tup [eight, eight, eight]) rfl three_e)).trans (first_ex (ri_no h hg)))
theorem foll_2 (h : odd ∈ oddL) (hg : Cl g) : f_followed [eight, eight, eight, goodD, odd] g = opX g :=
  callD_ex (σ := [some eight, some eight, some eight, some goodD, some odd]) rfl ((first_ok (call1_v (x := .tup [eight, eight, eight]) rfl three_e)).trans ((first_ok (call3_v (x := eight) (y := eight) (w := goodD) rfl rfl rfl (ri_ok hg))).trans (first_ex (ri_no h hg))))
theorem foll_3 (hg : Cl g) (hw : f_way_on [goodD, goodD] g = .ok goodD g) : f_followed [eight, eight, eight, goodD, goodD] g = .ok goodD g :=
  callD_rt' rfl ((first_ok (call1_v (σ := [some eight, some eight, some eight, some goodD, some goodD]) (x := .tup [eight, eight, eight]) rfl three_e)).trans ((first_ok (call3_v (x := eight) (y := eight) (w := goodD) rfl rfl rfl (ri_ok hg))).trans ((first_ok (call3_v (x := eight) (y := eight) (w := goodD) rfl rfl rfl (ri_ok hg))).trans (ret_ok (call2_v (x := goodD) (y := goodD) rfl rfl hw)))))
end
end LW
namespace LW
open PySem PySem.Spec L2 AW
theorem mk_gr : Ev3 fun g => ∀ s : Int, s ∈ sqL → eMakeF "Doubled" f_Doubled___init__ [.tup [.int (-1), .int s, .int (-1)]] g = .ok (gr s) g := by
  refine ⟨fun t s h => ?_, fun t u s h => ?_, fun t u v s h => ?_⟩ <;> (unfold sqL at h; simp only [List.mem_cons, List.not_mem_nil, or_false] at h; rcases h with rfl | rfl | rfl <;> kernel_rfl)
section
variable {σ : Sg} {g : G} {f : Fn} {e1 e2 e3 e4 e5 : Ev} {x y w z v : D} {r : Res D}
theorem call3x {f : Fn} (h1 : e1 σ g = .ok x g) (h2 : e2 σ g = .ok y g) (h3 : e3 σ g = .ok w g) (h : f [x, y, w] g = r) : eCall f (aCons e1 (aCons e2 (aCons e3 aNil))) σ g = r := by
  unfold eCall aCons aNil
  rw [h1]
  dsimp only [Res.bind]
  rw [h2]
  dsimp only
  rw [h3]
  exact h
theorem call4_v {f : Fn} (h1 : e1 σ g = .ok x g) (h2 : e2 σ g = .ok y g) (h3 : e3 σ g = .ok w g) (h4 : e4 σ g = .ok z g) (h : f [x, y, w, z] g = r) : eCall f (aCons e1 (aCons e2 (aCons e3 (aCons e4 aNil)))) σ g = r := by
  unfold eCall aCons aNil
  rw [h1]
  dsimp only [Res.bind]
  rw [h2]
  dsimp only
  rw [h3]
  dsimp only
  rw [h4]
  exact h
theorem call5_v {f : Fn} (h1 : e1 σ g = .ok x g) (h2 : e2 σ g = .ok y g) (h3 : e3 σ g = .ok w g) (h4 : e4 σ g = .ok z g) (h5 : e5 σ g = .ok v g) (h : f [x, y, w, z, v] g = r) : eCall f (aCons e1 (aCons e2 (aCons e3 (aCons e4 (aCons e5 aNil))))) σ g = r := by
  unfold eCall aCons aNil
  rw [h1]
  dsimp only [Res.bind]
  rw [h2]
  dsimp only
  rw [h3]
  dsimp only
  rw [h4]
  dsimp only
  rw [h5]
  exact h
end
theorem one_of_wp0 {i : Nat} {k : Int} {g : G} {xs : List D} {Q : D → G → Prop} (h : Pot i k g) (hk : k < 1000000) (h0 : 0 < xs.length) (h1 : xs.length < 1000)
    (q : ∀ d g', d ∈ xs → Pot i (k + 1) g' → g'.length = g.length → Q d g') : (f_law_one_of [.ref i, .lst xs] g).wp Q := by
  have := one_of_wp (cs := []) (Q := Q) h hk h0 h1 (fun d g' hd hp hl => by rw [List.append_nil]; exact q d g' hd hp hl)
  rwa [List.append_nil] at this
theorem bad_of {d : D} (h : d ∈ badL) : ∃ x, (d, x) ∈ badP := by
  unfold badL at h
  simp only [List.mem_cons, List.not_mem_nil, or_false] at h
  unfold badP
  rcases h with rfl | rfl | rfl | rfl | rfl | rfl | rfl
  · exact ⟨_, List.mem_cons_self⟩
  · exact ⟨_, List.mem_cons_of_mem _ List.mem_cons_self⟩
  · exact ⟨_, List.mem_cons_of_mem _ (List.mem_cons_of_mem _ List.mem_cons_self)⟩
  · exact ⟨_, List.mem_cons_of_mem _ (List.mem_cons_of_mem _ (List.mem_cons_of_mem _ List.mem_cons_self))⟩
  · exact ⟨_, List.mem_cons_of_mem _ (List.mem_cons_of_mem _ (List.mem_cons_of_mem _ (List.mem_cons_of_mem _ List.mem_cons_self)))⟩
  · exact ⟨_, List.mem_cons_of_mem _ (List.mem_cons_of_mem _ (List.mem_cons_of_mem _ (List.mem_cons_of_mem _ (List.mem_cons_of_mem _ List.mem_cons_self))))⟩
  · exact ⟨_, List.mem_cons_of_mem _ (List.mem_cons_of_mem _ (List.mem_cons_of_mem _ (List.mem_cons_of_mem _ (List.mem_cons_of_mem _ (List.mem_cons_of_mem _ List.mem_cons_self)))))⟩
theorem clns_all' {n : Nat} : ∀ {xs : List D}, (∀ d ∈ xs, D.cln n d = true) → D.clns n xs = true
  | [], _ => rfl
  | x :: xs, h => by
    rw [D.clns, h x (List.mem_cons_self ..), clns_all' fun d hd => h d (List.mem_cons_of_mem _ hd)]
    rfl
theorem tab_1 {g cs : G} (h : Pots g) : (g ++ cs)[1]? = some (.tab ("_law_ways_right", none) "_law_ways_right.<locals>.<lambda>") := by
  obtain ⟨js, rfl, h⟩ := h
  rw [List.append_assoc]
  rfl
theorem cl_told {g : G} {xs : List Str} (h : Pots g) : Cl (g ++ [.lst (xs.map D.str)]) := fun n => by
  rw [List.all_append, cl_pots4 h n, Bool.true_and, List.all_cons, List.all_nil, Bool.and_true]
  show D.clns n _ = true
  refine clns_all' fun d hd => ?_
  obtain ⟨x, _, rfl⟩ := List.mem_map.1 hd
  rfl
theorem algebras_wp {i : Nat} {k : Int} {g : G} {n : Nat} {nn : D} {Q : D → G → Prop} (h : Pot i k g) (hk : k < 1000) (hl : g.length = 2 + (n + 1)) (hn2 : n ≤ 2) (hn : nn ∈ noneL) (q : ∀ g', Pot i (k + 2) g' → g'.length = g.length → Q (.bl true) g') : (f_law_algebras_right [.ref i, eight, nn] g).wp Q := by
  unfold f_law_algebras_right
  generalize hds : [D.ref i, eight, nn] = ds
  refine wp_callD (by rw [← hds]; rfl) ?_
  rw [← hds]
  unfold b_law_algebras_right
  rw [show (List.map some [D.ref i, eight, nn] ++ List.replicate (7 - 3) none) = [some (.ref i), some eight, some nn, none, none, none, none] from rfl]
  rw [wp_cons, wp_asg, wp_eTup, wp_aCons, wp_eCall, wp_aCons, wp_eTup, wp_aCons, wp_eUn, eC_ok, wp_ok, oNeg_i, wp_ok, wp_aCons, wp_eCall]
  refine val_of (d := [.ref i, .lst [.int 31, .int (-31), .int (10 ^ 6)]]) (g := g) (by kernel_rfl) ?_
  refine one_of_wp0 h (by omega) (by decide) (by decide) fun sd g1 hsd h1 l1 => ?_
  obtain ⟨s, hs, rfl⟩ : ∃ s, s ∈ sqL ∧ sd = .int s := by
    simp only [List.mem_cons, List.not_mem_nil, or_false] at hsd
    rcases hsd with rfl | rfl | rfl
    · exact ⟨31, by decide, rfl⟩
    · exact ⟨-31, by decide, rfl⟩
    · exact ⟨10 ^ 6, by decide, rfl⟩
  rw [wp_aCons, wp_eUn, eC_ok, wp_ok, oNeg_i, wp_ok, aNil_ok, wp_ok]
  refine ⟨rfl, ?_⟩
  rw [aNil_ok, wp_ok]
  refine val_of (ev3 mk_gr h1.1.1 (by omega) hn2 s hs) ?_
  rw [wp_aCons, wp_eCall]
  refine val_of (d := [.ref i, .lst badL]) (g := g1) (by kernel_rfl) ?_
  refine one_of_wp0 h1 (by omega) (by decide) (by decide) fun bad g2 hbad h2 l2 => ?_
  obtain ⟨x, hb⟩ := bad_of hbad
  rw [aNil_ok, wp_ok]
  refine ⟨rfl, ?_⟩
  rw [gvP_sqT, if_pos (show [gr s, bad].length = 2 from rfl), gvP_cons, gvP_name, gvP_cons, gvP_name, gvP_nil]
  have hl2 : g2.length = 2 + (n + 1) := by omega
  have hp2 := h2.1.1
  show SRes.wp (sCons _ _ (aS (.ref i) nn none none s bad) g2) _ _ _ _
  rw [wp_cons, wp_set, wp_eLstM, wp_aCons]
  refine val_of (ev3 a_w1 hp2 hl2 hn2 (.ref i) nn bad none s hn) ?_
  rw [aNil_ok, wp_ok]
  refine ⟨rfl, ?_⟩
  show SRes.wp (sCons _ _ (aS (.ref i) nn (some (.ref g2.length)) none s bad) (g2 ++ [.lst [.str "algebra"]])) _ _ _ _
  rw [wp_cons, wp_expr]
  refine wp_appendL (xs := [.str "algebra"]) (d := .str "algebra") rfl (ev3 a_w2 hp2 hl2 hn2 (.ref i) nn bad (some (.ref g2.length)) s "algebra" hn) (by simp) ?_
  show SRes.wp (sCons _ _ (aS (.ref i) nn (some (.ref g2.length)) none s bad) (g2 ++ [.lst [.str "algebra", .str "algebra"]])) _ _ _ _
  rw [wp_cons, wp_expr]
  refine wp_appendL (xs := [.str "algebra", .str "algebra"]) (d := .str "algebra") rfl (ev3 a_w3 hp2 hl2 hn2 (.ref i) nn bad (some (.ref g2.length)) s "algebra" "algebra" hn) (by simp) ?_
  show SRes.wp (sCons _ _ (aS (.ref i) nn (some (.ref g2.length)) none s bad) (g2 ++ [.lst [.str "algebra", .str "algebra", .str "algebra"]])) _ _ _ _
  rw [wp_cons, wp_expr]
  refine wp_appendL (xs := [.str "algebra", .str "algebra", .str "algebra"]) (d := .str "algebra") rfl (ev3 a_w4 hp2 hl2 hn2 (.ref i) nn bad (some (.ref g2.length)) s "algebra" "algebra" "algebra" hn) (by simp) ?_
  show SRes.wp (sCons _ _ (aS (.ref i) nn (some (.ref g2.length)) none s bad) (g2 ++ [.lst [.str "algebra", .str "algebra", .str "algebra", .str "algebra"]])) _ _ _ _
  rw [wp_cons, wp_expr]
  refine wp_appendL (xs := [.str "algebra", .str "algebra", .str "algebra", .str "algebra"]) (d := .str "many 30") rfl (ev3 a_w5 hp2 hl2 hn2 (.ref i) nn bad (some (.ref g2.length)) s "algebra" "algebra" "algebra" "algebra" hs) (by simp) ?_
  show SRes.wp (sCons _ _ (aS (.ref i) nn (some (.ref g2.length)) none s bad) (g2 ++ [.lst [.str "algebra", .str "algebra", .str "algebra", .str "algebra", .str "many 30"]])) _ _ _ _
  rw [wp_cons, wp_expr]
  refine wp_appendL (xs := [.str "algebra", .str "algebra", .str "algebra", .str "algebra", .str "many 30"]) (d := .str "many 30") rfl (ev3 a_w6 hp2 hl2 hn2 (.ref i) nn bad (some (.ref g2.length)) s "algebra" "algebra" "algebra" "algebra" "many 30" hs) (by simp) ?_
  show SRes.wp (sCons _ _ (aS (.ref i) nn (some (.ref g2.length)) none s bad) (g2 ++ [.lst [.str "algebra", .str "algebra", .str "algebra", .str "algebra", .str "many 30", .str "many 30"]])) _ _ _ _
  rw [wp_cons, wp_expr]
  refine wp_appendL (xs := [.str "algebra", .str "algebra", .str "algebra", .str "algebra", .str "many 30", .str "many 30"]) (d := .str "fine") rfl (ev3 a_w7 hp2 hl2 hn2 (.ref i) nn bad (some (.ref g2.length)) s "algebra" "algebra" "algebra" "algebra" "many 30" "many 30" hs) (by simp) ?_
  show SRes.wp (sCons _ _ (aS (.ref i) nn (some (.ref g2.length)) none s bad) (g2 ++ [.lst [.str "algebra", .str "algebra", .str "algebra", .str "algebra", .str "many 30", .str "many 30", .str "fine"]])) _ _ _ _
  rw [wp_cons, wp_expr]
  refine wp_appendL (xs := [.str "algebra", .str "algebra", .str "algebra", .str "algebra", .str "many 30", .str "many 30", .str "fine"]) (d := .str "algebra") rfl (ev3 a_w8 hp2 hl2 hn2 (.ref i) nn bad (some (.ref g2.length)) s "algebra" "algebra" "algebra" "algebra" "many 30" "many 30" "fine" hn) (by simp) ?_
  show SRes.wp (sCons _ _ (aS (.ref i) nn (some (.ref g2.length)) none s bad) (g2 ++ [.lst [.str "algebra", .str "algebra", .str "algebra", .str "algebra", .str "many 30", .str "many 30", .str "fine", .str "algebra"]])) _ _ _ _
  rw [wp_cons, wp_expr]
  refine wp_appendL (xs := [.str "algebra", .str "algebra", .str "algebra", .str "algebra", .str "many 30", .str "many 30", .str "fine", .str "algebra"]) (d := .str "algebra") rfl (ev3 a_w9 hp2 hl2 hn2 (.ref i) nn bad (some (.ref g2.length)) s "algebra" "algebra" "algebra" "algebra" "many 30" "many 30" "fine" "algebra" hn) (by simp) ?_
  show SRes.wp (sCons _ _ (aS (.ref i) nn (some (.ref g2.length)) none s bad) (g2 ++ [.lst [.str "algebra", .str "algebra", .str "algebra", .str "algebra", .str "many 30", .str "many 30", .str "fine", .str "algebra", .str "algebra"]])) _ _ _ _
  rw [wp_cons, wp_expr]
  refine wp_appendL (xs := [.str "algebra", .str "algebra", .str "algebra", .str "algebra", .str "many 30", .str "many 30", .str "fine", .str "algebra", .str "algebra"]) (d := .str "fine") rfl (ev3 a_w10 hp2 hl2 hn2 (.ref i) nn bad (some (.ref g2.length)) s "algebra" "algebra" "algebra" "algebra" "many 30" "many 30" "fine" "algebra" "algebra") (by simp) ?_
  show SRes.wp (sCons _ _ (aS (.ref i) nn (some (.ref g2.length)) none s bad) (g2 ++ [.lst [.str "algebra", .str "algebra", .str "algebra", .str "algebra", .str "many 30", .str "many 30", .str "fine", .str "algebra", .str "algebra", .str "fine"]])) _ _ _ _
  rw [wp_cons, wp_expr]
  refine wp_appendL (xs := [.str "algebra", .str "algebra", .str "algebra", .str "algebra", .str "many 30", .str "many 30", .str "fine", .str "algebra", .str "algebra", .str "fine"]) (d := .str "algebra") rfl (ev3 a_w11 hp2 hl2 hn2 (.ref i) nn bad (some (.ref g2.length)) s "algebra" "algebra" "algebra" "algebra" "many 30" "many 30" "fine" "algebra" "algebra" "fine" hn) (by simp) ?_
  show SRes.wp (sCons _ _ (aS (.ref i) nn (some (.ref g2.length)) none s bad) (g2 ++ [.lst [.str "algebra", .str "algebra", .str "algebra", .str "algebra", .str "many 30", .str "many 30", .str "fine", .str "algebra", .str "algebra", .str "fine", .str "algebra"]])) _ _ _ _
  rw [wp_cons, wp_expr]
  refine wp_appendL (xs := [.str "algebra", .str "algebra", .str "algebra", .str "algebra", .str "many 30", .str "many 30", .str "fine", .str "algebra", .str "algebra", .str "fine", .str "algebra"]) (d := .str x) rfl (ev3 a_w12 hp2 hl2 hn2 (.ref i) nn bad (some (.ref g2.length)) s "algebra" "algebra" "algebra" "algebra" "many 30" "many 30" "fine" "algebra" "algebra" "fine" "algebra" x hb) (by simp) ?_
  show SRes.wp (sCons _ _ (aS (.ref i) nn (some (.ref g2.length)) none s bad) (g2 ++ [.lst [.str "algebra", .str "algebra", .str "algebra", .str "algebra", .str "many 30", .str "many 30", .str "fine", .str "algebra", .str "algebra", .str "fine", .str "algebra", .str x]])) _ _ _ _
  rw [wp_cons, wp_expr]
  refine wp_appendL (xs := [.str "algebra", .str "algebra", .str "algebra", .str "algebra", .str "many 30", .str "many 30", .str "fine", .str "algebra", .str "algebra", .str "fine", .str "algebra", .str x]) (d := .str "many 30") rfl (ev3 a_w13 hp2 hl2 hn2 (.ref i) nn bad (some (.ref g2.length)) s "algebra" "algebra" "algebra" "algebra" "many 30" "many 30" "fine" "algebra" "algebra" "fine" "algebra" x hs) (by simp) ?_
  show SRes.wp (sCons _ _ (aS (.ref i) nn (some (.ref g2.length)) none s bad) (g2 ++ [.lst [.str "algebra", .str "algebra", .str "algebra", .str "algebra", .str "many 30", .str "many 30", .str "fine", .str "algebra", .str "algebra", .str "fine", .str "algebra", .str x, .str "many 30"]])) _ _ _ _
  rw [wp_cons, wp_expr]
  refine wp_appendL (xs := [.str "algebra", .str "algebra", .str "algebra", .str "algebra", .str "many 30", .str "many 30", .str "fine", .str "algebra", .str "algebra", .str "fine", .str "algebra", .str x, .str "many 30"]) (d := .str "algebra") rfl (ev3 a_w14 hp2 hl2 hn2 (.ref i) nn bad (some (.ref g2.length)) s "algebra" "algebra" "algebra" "algebra" "many 30" "many 30" "fine" "algebra" "algebra" "fine" "algebra" x "many 30" hn) (by simp) ?_
  show SRes.wp (sCons _ _ (aS (.ref i) nn (some (.ref g2.length)) none s bad) (g2 ++ [.lst [.str "algebra", .str "algebra", .str "algebra", .str "algebra", .str "many 30", .str "many 30", .str "fine", .str "algebra", .str "algebra", .str "fine", .str "algebra", .str x, .str "many 30", .str "algebra"]])) _ _ _ _
  rw [wp_cons, wp_expr]
  refine wp_appendL (xs := [.str "algebra", .str "algebra", .str "algebra", .str "algebra", .str "many 30", .str "many 30", .str "fine", .str "algebra", .str "algebra", .str "fine", .str "algebra", .str x, .str "many 30", .str "algebra"]) (d := .str x) rfl (ev3 a_w15 hp2 hl2 hn2 (.ref i) nn bad (some (.ref g2.length)) s "algebra" "algebra" "algebra" "algebra" "many 30" "many 30" "fine" "algebra" "algebra" "fine" "algebra" x "many 30" "algebra" x hb) (by simp) ?_
  show SRes.wp (sCons _ _ (aS (.ref i) nn (some (.ref g2.length)) none s bad) (g2 ++ [.lst [.str "algebra", .str "algebra", .str "algebra", .str "algebra", .str "many 30", .str "many 30", .str "fine", .str "algebra", .str "algebra", .str "fine", .str "algebra", .str x, .str "many 30", .str "algebra", .str x]])) _ _ _ _
  rw [wp_cons, wp_expr]
  refine wp_appendL (xs := [.str "algebra", .str "algebra", .str "algebra", .str "algebra", .str "many 30", .str "many 30", .str "fine", .str "algebra", .str "algebra", .str "fine", .str "algebra", .str x, .str "many 30", .str "algebra", .str x]) (d := .str "fine") rfl (ev3 a_w16 hp2 hl2 hn2 (.ref i) nn bad (some (.ref g2.length)) s "algebra" "algebra" "algebra" "algebra" "many 30" "many 30" "fine" "algebra" "algebra" "fine" "algebra" x "many 30" "algebra" x) (by simp) ?_
  show SRes.wp _ _ _ _ _
  refine rt_of (ev3 a_end hp2 hl2 hn2 (.ref i) nn bad s x hb) ?_
  refine settle_pots hp2 (by omega) (q _ (h2.mono (by omega)) (by omega))
theorem ways_wp {i : Nat} {k : Int} {g : G} {n : Nat} {nn : D} {Q : D → G → Prop} (h : Pot i k g) (hk : k < 1000) (hl : g.length = 2 + (n + 1)) (hn2 : n ≤ 2) (hn : nn ∈ noneL) (q : ∀ g', Pot i (k + 2) g' → g'.length = g.length → Q (.bl true) g') : (f_law_ways_right [.ref i, eight, nn] g).wp Q := by
  unfold f_law_ways_right
  generalize hds : [D.ref i, eight, nn] = ds
  refine wp_callD (by rw [← hds]; rfl) ?_
  rw [← hds]
  unfold b_law_ways_right
  rw [show (List.map some [D.ref i, eight, nn] ++ List.replicate (10 - 3) none) = [some (.ref i), some eight, some nn, none, none, none, none, none, none, none] from rfl]
  rw [wp_cons]
  refine nx_of (ev3 w_par h.1.1 hl hn2 (.ref i) nn) ?_
  rw [wp_cons]
  refine nx_of (w_good (.ref i) nn g) ?_
  rw [wp_cons, wp_set, wp_eCall]
  refine val_of (ev3 w_odd h.1.1 hl hn2 (.ref i) nn) ?_
  refine one_of_wp0 h (by omega) (by decide) (by decide) fun odd g1 ho h1 l1 => ?_
  show SRes.wp (sCons _ _ [some (.ref i), some eight, some nn, some goodD, some odd, none, none, none, some unD, some (alg [-1, -1])] g1) _ _ _ _
  rw [wp_cons, wp_set, wp_eCall]
  refine val_of (ev3 w_thing h1.1.1 (by omega) hn2 (.ref i) nn odd) ?_
  refine one_of_wp0 h1 (by omega) (by decide) (by decide) fun thing g2 ht h2 l2 => ?_
  have hl2 : g2.length = 2 + (n + 1) := by omega
  have hp2 := h2.1.1
  have tb := fun cs : G => tab_1 (cs := cs) hp2
  have cl := fun (xs : List Str) => cl_told (xs := xs) hp2
  show SRes.wp (sCons _ _ (wS (.ref i) nn odd thing none none) g2) _ _ _ _
  rw [wp_cons, wp_set, wp_eLstM, wp_aCons]
  refine val_of (ev3 w_w1 hp2 hl2 hn2 (.ref i) nn odd thing none hn) ?_
  rw [aNil_ok, wp_ok]
  refine ⟨rfl, ?_⟩
  show SRes.wp (sCons _ _ (wS (.ref i) nn odd thing (some (.ref g2.length)) none) (g2 ++ [.lst [.str "algebra"]])) _ _ _ _
  rw [wp_cons, wp_expr]
  refine wp_appendL (xs := [.str "algebra"]) (d := .str "algebra") rfl (ev3 w_w2 hp2 hl2 hn2 (.ref i) nn odd thing (some (.ref g2.length)) "algebra" hn) (by simp) ?_
  show SRes.wp (sCons _ _ (wS (.ref i) nn odd thing (some (.ref g2.length)) none) (g2 ++ [.lst [.str "algebra", .str "algebra"]])) _ _ _ _
  rw [wp_cons, wp_expr]
  have hcl : Cl (g2 ++ [.lst [.str "algebra", .str "algebra"]]) := cl ["algebra", "algebra"]
  refine wp_appendL (xs := [.str "algebra", .str "algebra"]) (d := .str "operation") rfl (eTold_eq (tb _) (call4_v (x := eight) (y := eight) (w := odd) (z := thing) rfl rfl rfl rfl (led_op ho hcl)) told_op) (by simp) ?_
  clear hcl
  show SRes.wp (sCons _ _ (wS (.ref i) nn odd thing (some (.ref g2.length)) none) (g2 ++ [.lst [.str "algebra", .str "algebra", .str "operation"]])) _ _ _ _
  rw [wp_cons, wp_expr]
  have hcl : Cl (g2 ++ [.lst [.str "algebra", .str "algebra", .str "operation"]]) := cl ["algebra", "algebra", "operation"]
  refine wp_appendL (xs := [.str "algebra", .str "algebra", .str "operation"]) (d := .str "element") rfl (eTold_eq (tb _) (call4_v (x := eight) (y := eight) (w := goodD) (z := thing) rfl rfl rfl rfl (led_el ht hcl)) told_el) (by simp) ?_
  clear hcl
  show SRes.wp (sCons _ _ (wS (.ref i) nn odd thing (some (.ref g2.length)) none) (g2 ++ [.lst [.str "algebra", .str "algebra", .str "operation", .str "element"]])) _ _ _ _
  rw [wp_cons, wp_expr]
  refine wp_appendL (xs := [.str "algebra", .str "algebra", .str "operation", .str "element"]) (d := .str "algebra") rfl (ev3 w_w5 hp2 hl2 hn2 (.ref i) nn odd thing (some (.ref g2.length)) "algebra" "algebra" "operation" "element" hn) (by simp) ?_
  show SRes.wp (sCons _ _ (wS (.ref i) nn odd thing (some (.ref g2.length)) none) (g2 ++ [.lst [.str "algebra", .str "algebra", .str "operation", .str "element", .str "algebra"]])) _ _ _ _
  rw [wp_cons, wp_expr]
  refine wp_appendL (xs := [.str "algebra", .str "algebra", .str "operation", .str "element", .str "algebra"]) (d := .str "algebra") rfl (ev3 w_w6 hp2 hl2 hn2 (.ref i) nn odd thing (some (.ref g2.length)) "algebra" "algebra" "operation" "element" "algebra" hn) (by simp) ?_
  show SRes.wp (sCons _ _ (wS (.ref i) nn odd thing (some (.ref g2.length)) none) (g2 ++ [.lst [.str "algebra", .str "algebra", .str "operation", .str "element", .str "algebra", .str "algebra"]])) _ _ _ _
  rw [wp_cons, wp_expr]
  have hcl : Cl (g2 ++ [.lst [.str "algebra", .str "algebra", .str "operation", .str "element", .str "algebra", .str "algebra"]]) := cl ["algebra", "algebra", "operation", "element", "algebra", "algebra"]
  refine wp_appendL (xs := [.str "algebra", .str "algebra", .str "operation", .str "element", .str "algebra", .str "algebra"]) (d := .str "operation") rfl (eTold_eq (tb _) (call3x (x := eight) (y := eight) (w := odd) rfl rfl rfl (back_op ho hcl)) told_op) (by simp) ?_
  clear hcl
  show SRes.wp (sCons _ _ (wS (.ref i) nn odd thing (some (.ref g2.length)) none) (g2 ++ [.lst [.str "algebra", .str "algebra", .str "operation", .str "element", .str "algebra", .str "algebra", .str "operation"]])) _ _ _ _
  rw [wp_cons, wp_expr]
  refine wp_appendL (xs := [.str "algebra", .str "algebra", .str "operation", .str "element", .str "algebra", .str "algebra", .str "operation"]) (d := .str "algebra") rfl (ev3 w_w8 hp2 hl2 hn2 (.ref i) nn odd thing (some (.ref g2.length)) "algebra" "algebra" "operation" "element" "algebra" "algebra" "operation" hn) (by simp) ?_
  show SRes.wp (sCons _ _ (wS (.ref i) nn odd thing (some (.ref g2.length)) none) (g2 ++ [.lst [.str "algebra", .str "algebra", .str "operation", .str "element", .str "algebra", .str "algebra", .str "operation", .str "algebra"]])) _ _ _ _
  rw [wp_cons, wp_expr]
  have hcl : Cl (g2 ++ [.lst [.str "algebra", .str "algebra", .str "operation", .str "element", .str "algebra", .str "algebra", .str "operation", .str "algebra"]]) := cl ["algebra", "algebra", "operation", "element", "algebra", "algebra", "operation", "algebra"]
  refine wp_appendL (xs := [.str "algebra", .str "algebra", .str "operation", .str "element", .str "algebra", .str "algebra", .str "operation", .str "algebra"]) (d := .str "operation") rfl (eTold_eq (tb _) (call5_v (x := eight) (y := eight) (w := eight) (z := odd) (v := goodD) rfl rfl rfl rfl rfl (foll_1 ho hcl)) told_op) (by simp) ?_
  clear hcl
  show SRes.wp (sCons _ _ (wS (.ref i) nn odd thing (some (.ref g2.length)) none) (g2 ++ [.lst [.str "algebra", .str "algebra", .str "operation", .str "element", .str "algebra", .str "algebra", .str "operation", .str "algebra", .str "operation"]])) _ _ _ _
  rw [wp_cons, wp_expr]
  have hcl : Cl (g2 ++ [.lst [.str "algebra", .str "algebra", .str "operation", .str "element", .str "algebra", .str "algebra", .str "operation", .str "algebra", .str "operation"]]) := cl ["algebra", "algebra", "operation", "element", "algebra", "algebra", "operation", "algebra", "operation"]
  refine wp_appendL (xs := [.str "algebra", .str "algebra", .str "operation", .str "element", .str "algebra", .str "algebra", .str "operation", .str "algebra", .str "operation"]) (d := .str "operation") rfl (eTold_eq (tb _) (call5_v (x := eight) (y := eight) (w := eight) (z := goodD) (v := odd) rfl rfl rfl rfl rfl (foll_2 ho hcl)) told_op) (by simp) ?_
  clear hcl
  show SRes.wp (sCons _ _ (wS (.ref i) nn odd thing (some (.ref g2.length)) none) (g2 ++ [.lst [.str "algebra", .str "algebra", .str "operation", .str "element", .str "algebra", .str "algebra", .str "operation", .str "algebra", .str "operation", .str "operation"]])) _ _ _ _
  rw [wp_cons, wp_expr]
  have hcl : Cl (g2 ++ [.lst [.str "algebra", .str "algebra", .str "operation", .str "element", .str "algebra", .str "algebra", .str "operation", .str "algebra", .str "operation", .str "operation"]]) := cl ["algebra", "algebra", "operation", "element", "algebra", "algebra", "operation", "algebra", "operation", "operation"]
  refine wp_appendL (xs := [.str "algebra", .str "algebra", .str "operation", .str "element", .str "algebra", .str "algebra", .str "operation", .str "algebra", .str "operation", .str "operation"]) (d := .str "fine") rfl (eTold_eq (tb _) (call5_v (x := eight) (y := eight) (w := eight) (z := goodD) (v := goodD) rfl rfl rfl rfl rfl (foll_3 hcl (ev3 w_on hp2 hl2 hn2))) rfl) (by simp) ?_
  clear hcl
  show SRes.wp _ _ _ _ _
  refine rt_of (ev3 w_end hp2 hl2 hn2 (.ref i) nn odd thing) ?_
  refine settle_pots hp2 (by omega) (q _ (h2.mono (by omega)) (by omega))
theorem right_wp {i : Nat} {k : Int} {g : G} {n : Nat} {Q : D → G → Prop} (h : Pot i k g) (hk : k < 500) (hl : g.length = 2 + (n + 1)) (hn2 : n ≤ 2) (q : ∀ g', Pot i (k + 5) g' → g'.length = g.length → Q (.bl true) g') : (f_law_right [.ref i] g).wp Q := by
  have aw := fun {k : Int} {g : G} {nn : D} {Q : D → G → Prop} (h : Pot i k g) (hk : k < 1000) (hl : g.length = 2 + (n + 1)) (hn : nn ∈ noneL) (q : ∀ g', Pot i (k + 2) g' → g'.length = g.length → Q (.bl true) g') => algebras_wp h hk hl hn2 hn q
  have ww := fun {k : Int} {g : G} {nn : D} {Q : D → G → Prop} (h : Pot i k g) (hk : k < 1000) (hl : g.length = 2 + (n + 1)) (hn : nn ∈ noneL) (q : ∀ g', Pot i (k + 2) g' → g'.length = g.length → Q (.bl true) g') => ways_wp h hk hl hn2 hn q
  refine wp_callS rfl ?_
  unfold b_law_right
  generalize f_law_algebras_right = fa at *
  generalize f_law_ways_right = fw at *
  rw [show (List.map some [D.ref i] ++ List.replicate (4 - 1) none) = [some (.ref i), none, none, none] from rfl]
  rw [wp_cons]
  refine nx_of (ev3 r_1 h.1.1 hl hn2 (.ref i)) ?_
  rw [wp_cons]
  refine nx_of (ev3 r_2 h.1.1 hl hn2 (.ref i)) ?_
  rw [wp_cons, wp_set, wp_eCall, wp_aCons, eVar_0, wp_ok, wp_aCons, eVar_succ, eVar_succ, eVar_0, wp_ok, aNil_ok, wp_ok]
  refine one_of_wp0 h (by omega) (by decide) (by decide) fun nn g1 hn h1 l1 => ?_
  show SRes.wp (sCons _ _ [some (.ref i), some eight, some (.lst noneL), some nn] g1) _ _ _ _
  rw [wp_cons, wp_ret, wp_eAnd, wp_eCall, wp_aCons, eVar_0, wp_ok, wp_aCons, eVar_succ, eVar_0, wp_ok, wp_aCons, eVar_succ, eVar_succ, eVar_succ, eVar_0, wp_ok, aNil_ok, wp_ok]
  refine aw h1 (by omega) (by omega) hn fun g2 h2 l2 => ?_
  rw [truP_bl, pick_t, wp_eCall, wp_aCons, eVar_0, wp_ok, wp_aCons, eVar_succ, eVar_0, wp_ok, wp_aCons, eVar_succ, eVar_succ, eVar_succ, eVar_0, wp_ok, aNil_ok, wp_ok]
  refine ww h2 (by omega) (by omega) hn fun g3 h3 l3 => ?_
  exact ⟨by omega, q g3 (h3.mono (by omega)) (by omega)⟩
end LW
namespace LW
open PySem PySem.Spec L2 AW
theorem pots_0 : Pots (g0 tf) := ⟨[], rfl, fun x hx => nomatch hx⟩
def lI (ns : List Int) (k : Nat) (σ : Sg) (g : G) : Prop := Pots g ∧ g.length = 2 + k ∧ ∃ a b : Option D, σ = [some (.seq (ns.map D.int)), a, b]
theorem pure : ∀ ns : List Int, ns.length ≤ 63 → (f_law [.seq (ns.map D.int)] (g0 tf)).wpB := by
  intro ns hl
  suffices h : (f_law [.seq (ns.map D.int)] (g0 tf)).wp (fun d _ => d = .bl true) by
    obtain ⟨d, g, h1, h2⟩ := Res.wp_eq h
    rw [h1, h2]
    exact trivial
  unfold f_law
  refine wp_callD rfl ?_
  unfold b_law
  refine wp_cut (fun σ g => Pots g ∧ (∃ k, k ≤ 2 ∧ g.length = 2 + (k + 1)) ∧ ∃ a b : Option D, σ = [some (.seq (ns.map D.int)), a, b]) ?_ ?_
  · refine wp_for (lI ns) (fun xs => ∃ n, 1 ≤ n ∧ n ≤ 3 ∧ xs = rangeD 0 n) ?_ ?_ ?_
    · simp -implicitDefEqProofs only [wp_iRange1, wp_eCall, wp_aCons, eC_ok, wp_ok, eVar_0, aNil_ok, fLen_seq, List.length_map, fMin2_ii, fMax2_ii, intP_i, List.map, List.cons_append]
      refine ⟨?_, _, rfl, ⟨_, ?_, ?_, rfl⟩, pots_0, rfl, none, none, rfl⟩
      · unfold smallI
        rw [decide_eq_true, decide_eq_true]
        · rfl
        · split <;> split <;> omega
        · split <;> split <;> omega
      · split <;> split <;> omega
      · split <;> split <;> omega
    · rintro xs k σ g d ⟨n, hn1, hn, rfl⟩ hd ⟨hps, hlen, a, b, rfl⟩
      obtain ⟨hk, rfl⟩ := rangeD_get _ _ _ _ hd
      rw [Int.zero_add, gvP_name]
      have c1 := fun {i : Nat} {c : Int} {g : G} {Q : D → G → Prop} (h : Pot i c g) (hc : c < 500) (hl : g.length = 2 + (k + 1)) (q : ∀ g', Pot i (c + 5) g' → g'.length = g.length → Q (.bl true) g') => right_wp h hc hl (by omega) q
      generalize f_law_right = fr at *
      obtain ⟨kd, hkd⟩ : ∃ kd, kd = D.int (k : Int) := ⟨_, rfl⟩
      rw [← hkd]
      show SRes.wp (sCons _ _ [some (.seq (ns.map D.int)), some kd, b] g) _ _ _ _
      rw [wp_cons, wp_set, wp_eCall, wp_aCons, eVar_0, wp_ok, wp_aCons, eVar_succ, eVar_0, wp_ok, aNil_ok, wp_ok, hkd]
      refine pot_wp (by omega) hps fun g1 h1 l1 => ?_
      rw [← hkd]
      show SRes.wp (sCons _ _ [some (.seq (ns.map D.int)), some kd, some (.ref g.length)] g1) _ _ _ _
      rw [wp_cons, wp_if, wp_eOrT, wp_eNotT, wp_eTru, wp_eCall, wp_aCons, eVar_succ, eVar_succ, eVar_0, wp_ok, aNil_ok, wp_ok]
      refine c1 h1 (by omega) (by omega) fun g2 h2 l2 => ?_
      rw [truP_bl, Bool.not_true, pick_f, wp_eNotT, wp_eTru, wp_eCall, wp_aCons, eVar_succ, eVar_succ, eVar_0, wp_ok, aNil_ok, wp_ok]
      refine c1 h2 (by omega) (by omega) fun g3 h3 l3 => ?_
      rw [truP_bl, Bool.not_true, pick_f, wp_nil, wp_nil]
      exact ⟨h3.1.1, by omega, _, _, rfl⟩
    · rintro xs σ g ⟨n, hn1, hn, rfl⟩ ⟨hps, hlen, a, b, rfl⟩
      rw [rangeD_len] at hlen
      exact ⟨hps, ⟨n - 1, by omega, by omega⟩, a, b, rfl⟩
  rintro σ g ⟨hps, ⟨k, hk, hlen⟩, a, b, rfl⟩
  refine rt_of (ev3 l_end hps hlen hk (.seq (ns.map D.int)) a b) ?_
  have e : ∀ G : G, Pots G → (AW.settle (g0 tf).length (.bl true) G).wp fun d _ => d = .bl true := fun G hG => by
    obtain ⟨js, rfl, hj⟩ := hG
    exact settle_pots (cs := js) pots_0 rfl rfl
  exact e g hps
end LW
open PySem PySem.W PySem.Calls PyProof.Rows
set_option maxRecDepth 100000 in
set_option maxHeartbeats 0 in
theorem PySem.Challenge.cw_squaretimes_k45_errors_of_eights_holds : PySem.Challenge.rw_squaretimes_k45_errors_of_eights.Holds := by
  w_on; o_law
  refine HandSHeadRun.head_imp (r := OpenLaw.row PySem.Challenge.rw_squaretimes_k45_errors_of_eights) (q := view (OpenLaw.row PySem.Challenge.rw_squaretimes_k45_errors_of_eights).prog [0, 103]) (H := LW.hk) (ob := LW.ob) (M := 12000) (loose := LW.loose) (d := HandSHeadRun.topDef (OpenLaw.row PySem.Challenge.rw_squaretimes_k45_errors_of_eights).prog 103) (kwd := []) LW.ob_eq
    LW.run (by kernel_rfl) (by kernel_rfl) (by kernel_rfl) (by rfl) (by first | assumption | decide +kernel) (by decide +kernel) ⟨rfl, rfl, rfl, rfl, rfl, by decide +kernel⟩ ?hw ?hc
  case hw => w_witness2
  case hc =>
    refine AW.endG (l := PySem.Challenge.rw_squaretimes_k45_errors_of_eights) (n := 63) (k := 33) (f := LW.f_law) (tf := LW.tf) rfl (by decide) (by kernel_rfl) ⟨rfl, by decide, by decide⟩ (by decide) LW.pure ?F
    intro w mg fa h Y N hmg0
    obtain ⟨K, KX, c⟩ := Y
    have e : (HandSHeadRun.topDef (OpenLaw.row PySem.Challenge.rw_squaretimes_k45_errors_of_eights).prog 103).name = ("law" : PySem.Str) := by kernel_rfl
    rw [e] at hmg0 ⊢
    have T := AW.tx_of KX N c.b
    have HP : AW.PK (OpenLaw.row PySem.Challenge.rw_squaretimes_k45_errors_of_eights).prog "/claim/cut.py" := ⟨by kernel_rfl, by kernel_rfl⟩
    refine ⟨K, KX, fun p hp => c.b.emp _ (List.mem_map.mpr ⟨p, hp, rfl⟩), fun p hp => c.b.out _ (List.mem_map.mpr ⟨p, hp, rfl⟩), fun p hp => PySem.W.codeHd_of_K KX (c.b.hd _ (List.mem_map.mpr ⟨p, hp, rfl⟩)), LW.tabs T, Value.ref.inj (Option.some.inj (hmg0.symm.trans (T.gl "law" (T.at_ 47 rfl)))), LW.all T c.c HP⟩
