import PyProof.Rows.All
import Wide.All
import OpenK.AllK
import Wide.FinOn
import KE.KStateDown
import Lean
import HandS.Base
import HandS.Call
import HandS.List
import HandS.Comp
import HandS.Ends
import HandS.More
import HandS.Exc
import HandS.ExcOwn
import HandS.Words
import HandS.WordsExc
import HandS.Defaults
import HandS.Wide
import HandS.Flow
import HandS.Slots
import HandS.Lambda
import HandS.HeadHook1
import HandS.HeadHook2
import HandS.HeadHook4
import HandS.TupAny
import HandS.WideBits
import HandS.Deep
import HandS.Text
import HandS.SortInts
import HandS.Conv
import HandS.Style
import HandS.Zip
import HandS.HeadEnd
import HandS.EndTab
import HandS.Head0
import HandS.Head1
import HandS.Head2
import HandS.EndBits
import HandS.IsInst
import HandS.HeadWalk
import HandS.SlotsOwn
import HandS.HeadNt
import HandS.HeadHook3
import KE.KExcMake
import KE.KExcSuper
import KE.KExcPX
import KE.KSuper
import PyProof.ReprRoads
import PyProof.CallFns
import PyProof.CallStr
import HandS.TryMany
import HandS.TryOnly
import HandS.ExcField
import HandS.Codes
import HandS.Star
import HandS.Gcd
import Flt.RightSqrt
import OpenK.KMeth
import KE.KOpsOwn
import HandS.ClsMeth
import HandS.Strs
import PyProof.Rows.SetFrom
import HandS.OwnEq
import HandS.FStr
import KE.KCallOwn
import HandS.Iter
import PySem.Challenge.RW_squaretimes_k16_whole_texts_of_sign_tabl
import KE.IntTextLaws
set_option Elab.async false
set_option linter.all false
set_option maxRecDepth 100000
set_option maxHeartbeats 4000000
/-! Aw: every construct of a body read as a plain function over data (the mirror), shown once. -/
namespace AW
open PySem PySem.Spec L2
/-- data: what a value is worth. ref: a cell that may change; val: a thing that is only handed on -/
inductive D where
  | non | bl (b : Bool) | int (i : Int) | str (x : Str)
  | tup (xs : List D) | lst (xs : List D) | seq (xs : List D)
  | dct (ks : List Key) (xs : List D) | dtt (ks : List (List Key)) (xs : List D) | ins (c : Str) (xs : List D) | glo (x : Str)
  | ref (i : Nat) | val (v : V)
inductive Cell where
  | lst (xs : List D)
  | dct (ks : List Key) (xs : List D)
  | dtt (ks : List (List Key)) (xs : List D)
  | ins (c : Str) (j : Nat) (fs : List (Option D))
  | new (c : Str) (j : Nat)
  | own
  | xd
  | tab (p : He.Defn) (q : Str)
  | tbg (p : He.Defn)
abbrev G := List Cell
/-- the address of a def or a class of the top -/
abbrev ga (K : PySem.W.Frag) (x : Str) : Addr := He.ga K x
/-- frozen objects, where the cells lie, and what is set aside meanwhile -/
structure Md where
  F : Hp
  r : Nat → Option Addr
  hid : Hp
mutual
inductive Den (K : PySem.W.Frag) (m : Md) : D → V → Prop
  | non : Den K m .non .non
  | bl {b : Bool} : Den K m (.bl b) (.bl b)
  | int {i : Int} : Den K m (.int i) (.int i)
  | str {x : Str} : Den K m (.str x) (.str x)
  | tup {a : Addr} {xs : List D} {vs : List V} : SqT K m.F a vs → Dens K m xs vs → Den K m (.tup xs) (.ref a)
  | lst {a : Addr} {xs : List D} {vs : List V} : m.F a = some (.lst vs) → Dens K m xs vs → Den K m (.lst xs) (.ref a)
  | seq {a : Addr} {xs : List D} {vs : List V} : SqL K m.F a vs → Dens K m xs vs → Den K m (.seq xs) (.ref a)
  | dct {a : Addr} {ks : List Key} {xs : List D} {vs : List V} : m.F a = some (.dK (ks.zip vs)) → ks.length = vs.length → Dens K m xs vs → Den K m (.dct ks xs) (.ref a)
  | dtt {a : Addr} {ks : List (List Key)} {xs : List D} {vs : List V} : m.F a = some (.dT (ks.zip vs)) → ks.length = vs.length → Dens K m xs vs → Den K m (.dtt ks xs) (.ref a)
  | ins {a dx : Addr} {c : Str} {xs : List D} {vs : List V} : m.F a = some (SlX.SlO a (ga K c) dx (vs.map some)) → m.F dx = some (.xd []) → Dens K m xs vs → Den K m (.ins c xs) (.ref a)
  | glo {x : Str} : Den K m (.glo x) (.ref (ga K x))
  | ref {i : Nat} {a : Addr} : m.r i = some a → Den K m (.ref i) (.ref a)
  | val {v : V} : Den K m (.val v) v
inductive Dens (K : PySem.W.Frag) (m : Md) : List D → List V → Prop
  | nil : Dens K m [] []
  | cons {d : D} {ds : List D} {v : V} {vs : List V} : Den K m d v → Dens K m ds vs → Dens K m (d :: ds) (v :: vs)
end
structure Le (m m' : Md) : Prop where
  F : ∀ a o, m.F a = some o → m'.F a = some o
  r : ∀ i a, m.r i = some a → m'.r i = some a
  hid : ∀ a o, m.hid a = some o → m'.hid a = some o
theorem Le.refl (m : Md) : Le m m := ⟨fun _ _ h => h, fun _ _ h => h, fun _ _ h => h⟩
theorem Le.trans {a b c : Md} (x : Le a b) (y : Le b c) : Le a c := ⟨fun p o h => y.F p o (x.F p o h), fun i p h => y.r i p (x.r i p h), fun p o h => y.hid p o (x.hid p o h)⟩
section
variable {K : PySem.W.Frag} {m m' : Md}
theorem rd_le {H H' : Hp} (e : ∀ a o, H a = some o → H' a = some o) {a : Addr} {u : HO} (h : Rd H a u) : Rd H' a u := by
  rcases h with h | ⟨o, h⟩
  · exact Or.inl (e a _ h)
  · exact Or.inr ⟨o, e a _ h⟩
theorem sqL_le {H H' : Hp} (e : ∀ a o, H a = some o → H' a = some o) {a : Addr} {xs : List V} (h : SqL K H a xs) : SqL K H' a xs := by
  rcases h with h | h
  · exact Or.inl (rd_le e h)
  · exact Or.inr h
theorem sqT_le {H H' : Hp} (e : ∀ a o, H a = some o → H' a = some o) {a : Addr} {xs : List V} (h : SqT K H a xs) : SqT K H' a xs := by
  rcases h with h | h
  · exact Or.inl (rd_le e h)
  · exact Or.inr h
mutual
theorem Den.mono (e : Le m m') : ∀ {d : D} {v : V}, Den K m d v → Den K m' d v
  | _, _, .non => .non
  | _, _, .bl => .bl
  | _, _, .int => .int
  | _, _, .str => .str
  | _, _, .tup h ds => .tup (sqT_le e.F h) (Dens.mono e ds)
  | _, _, .lst h ds => .lst (e.F _ _ h) (Dens.mono e ds)
  | _, _, .seq h ds => .seq (sqL_le e.F h) (Dens.mono e ds)
  | _, _, .dct h hl ds => .dct (e.F _ _ h) hl (Dens.mono e ds)
  | _, _, .dtt h hl ds => .dtt (e.F _ _ h) hl (Dens.mono e ds)
  | _, _, .ins h hd ds => .ins (e.F _ _ h) (e.F _ _ hd) (Dens.mono e ds)
  | _, _, .glo => .glo
  | _, _, .ref h => .ref (e.r _ _ h)
  | _, _, .val => .val
theorem Dens.mono (e : Le m m') : ∀ {ds : List D} {vs : List V}, Dens K m ds vs → Dens K m' ds vs
  | _, _, .nil => .nil
  | _, _, .cons h t => .cons (Den.mono e h) (Dens.mono e t)
end
theorem Dens.length : ∀ {ds : List D} {vs : List V}, Dens K m ds vs → ds.length = vs.length
  | _, _, .nil => rfl
  | _, _, .cons _ t => congrArg Nat.succ (Dens.length t)
theorem Dens.append : ∀ {ds es : List D} {vs ws : List V}, Dens K m ds vs → Dens K m es ws → Dens K m (ds ++ es) (vs ++ ws)
  | _, _, _, _, .nil, h => h
  | _, _, _, _, .cons a t, h => .cons a (Dens.append t h)
theorem Dens.get : ∀ {ds : List D} {vs : List V} {i : Nat} {d : D}, Dens K m ds vs → ds[i]? = some d → ∃ v, vs[i]? = some v ∧ Den K m d v
  | _, _, _, _, .nil, e => by simp at e
  | _, _, 0, _, .cons a t, e => by simp at e; subst e; exact ⟨_, rfl, a⟩
  | _, _, i + 1, _, .cons a t, e => by
    obtain ⟨v, h1, h2⟩ := Dens.get (i := i) t (by simpa using e)
    exact ⟨v, by simpa using h1, h2⟩
theorem Dens.get' : ∀ {ds : List D} {vs : List V} {i : Nat} {v : V}, Dens K m ds vs → vs[i]? = some v → ∃ d, ds[i]? = some d ∧ Den K m d v
  | _, _, _, _, .nil, e => by simp at e
  | _, _, 0, _, .cons a t, e => by simp at e; subst e; exact ⟨_, rfl, a⟩
  | _, _, i + 1, _, .cons a t, e => by
    obtain ⟨v, h1, h2⟩ := Dens.get' (i := i) t (by simpa using e)
    exact ⟨v, by simpa using h1, h2⟩
theorem Dens.set {d : D} {v : V} (h : Den K m d v) : ∀ {ds : List D} {vs : List V} (i : Nat), Dens K m ds vs → Dens K m (ds.set i d) (vs.set i v)
  | _, _, _, .nil => .nil
  | _, _, 0, .cons _ t => .cons h t
  | _, _, i + 1, .cons a t => .cons a (Dens.set h i t)
theorem Dens.take : ∀ {ds : List D} {vs : List V} (n : Nat), Dens K m ds vs → Dens K m (ds.take n) (vs.take n)
  | _, _, 0, _ => by simp only [List.take_zero]; exact .nil
  | _, _, _ + 1, .nil => .nil
  | _, _, n + 1, .cons a t => .cons a (Dens.take n t)
theorem Dens.drop : ∀ {ds : List D} {vs : List V} (n : Nat), Dens K m ds vs → Dens K m (ds.drop n) (vs.drop n)
  | _, _, 0, h => h
  | _, _, _ + 1, .nil => .nil
  | _, _, n + 1, .cons a t => Dens.drop n t
theorem Dens.dropLast : ∀ {ds : List D} {vs : List V}, Dens K m ds vs → Dens K m ds.dropLast vs.dropLast
  | _, _, .nil => .nil
  | _, _, .cons _ .nil => .nil
  | _, _, .cons a (.cons b t) => .cons a (Dens.dropLast (.cons b t))
theorem Dens.reverse : ∀ {ds : List D} {vs : List V}, Dens K m ds vs → Dens K m ds.reverse vs.reverse
  | _, _, .nil => .nil
  | _, _, .cons a t => by
    rw [List.reverse_cons, List.reverse_cons]
    exact Dens.append (Dens.reverse t) (.cons a .nil)
theorem Dens.nilV {vs : List V} (h : Dens K m [] vs) : vs = [] := by cases h; rfl
theorem Dens.consV {d : D} {ds : List D} {vs : List V} (h : Dens K m (d :: ds) vs) : ∃ v ws, vs = v :: ws ∧ Den K m d v ∧ Dens K m ds ws := by
  cases h with
  | cons a t => exact ⟨_, _, rfl, a, t⟩
end
/-- the variables of an instance in the making, as far as they are stored -/
def FldOk (K : PySem.W.Frag) (m : Md) (fs : List (Option D)) (ws : List (Option V)) : Prop := ∀ (i : Nat) (d : D), fs[i]? = some (some d) → ∃ v, ws[i]? = some (some v) ∧ Den K m d v
theorem FldOk.mono {K : PySem.W.Frag} {m m' : Md} (e : Le m m') {fs : List (Option D)} {ws : List (Option V)} (h : FldOk K m fs ws) : FldOk K m' fs ws := fun i d q => by
  obtain ⟨v, h1, h2⟩ := h i d q
  exact ⟨v, h1, h2.mono e⟩
/-- a cell and its object -/
def CellOk (K : PySem.W.Frag) (m : Md) (a : Addr) : Cell → HO → Prop
  | .lst xs, o => ∃ vs, o = .lst vs ∧ Dens K m xs vs
  | .dct ks xs, o => ∃ vs, o = .dK (ks.zip vs) ∧ ks.length = vs.length ∧ Dens K m xs vs
  | .dtt ks xs, o => ∃ vs, o = .dT (ks.zip vs) ∧ ks.length = vs.length ∧ Dens K m xs vs
  | .ins c j fs, o => ∃ dx ws, o = SlX.SlO a (ga K c) dx ws ∧ m.r j = some dx ∧ ws.length ≤ fs.length ∧ FldOk K m fs ws
  | .new c j, o => ∃ dx, o = .ins (ga K c) dx [] ∧ m.r j = some dx
  | .own, o => ∃ b, o = .own b
  | .xd, o => o = .xd []
  | .tbg p, o => a = (He.cT K p).2 ∧ ∃ ps : Array Value, o = .tbl ps ∧ TriplesOk ps.toList
  | .tab p q, o => a = (He.cT K p).2 ∧ ∃ ps : Array Value, o = .tbl ps ∧ TriplesOk ps.toList ∧ ∀ (pos : Pos) (cv : Value), codeAmong pos ps.toList = some cv → ∃ c, cv = .ref c ∧ m.F c = some (LamX.CodeO c q)
theorem CellOk.mono {K : PySem.W.Frag} {m m' : Md} (e : Le m m') {a : Addr} {c : Cell} {o : HO} (h : CellOk K m a c o) : CellOk K m' a c o := by
  cases c with
  | lst xs => obtain ⟨vs, e1, h⟩ := h; exact ⟨vs, e1, h.mono e⟩
  | dct ks xs => obtain ⟨vs, e1, hl, h⟩ := h; exact ⟨vs, e1, hl, h.mono e⟩
  | dtt ks xs => obtain ⟨vs, e1, hl, h⟩ := h; exact ⟨vs, e1, hl, h.mono e⟩
  | ins c j fs => obtain ⟨dx, ws, e1, h1, hl, h2⟩ := h; exact ⟨dx, ws, e1, e.r _ _ h1, hl, h2.mono e⟩
  | new c j => obtain ⟨dx, e1, h1⟩ := h; exact ⟨dx, e1, e.r _ _ h1⟩
  | own => exact h
  | xd => exact h
  | tbg p => exact h
  | tab p q =>
    obtain ⟨ea, ps, e1, h1, h2⟩ := h
    exact ⟨ea, ps, e1, h1, fun pos cv hc => by
      obtain ⟨c, e2, e3⟩ := h2 pos cv hc
      exact ⟨c, e2, e.F _ _ e3⟩⟩
structure Rel (K : PySem.W.Frag) (m : Md) (g : G) (H : Hp) : Prop where
  ex : ∀ a o, m.F a = some o → H a = some o
  cell : ∀ i c, g[i]? = some c → ∃ a, m.r i = some a ∧ m.F a = none ∧ ∃ o, H a = some o ∧ CellOk K m a c o
  dom : ∀ i a, m.r i = some a → i < g.length
  inj : ∀ i j a, m.r i = some a → m.r j = some a → i = j
  hid : ∀ a o, m.hid a = some o → H a = some o ∧ m.F a = none ∧ ∀ i, m.r i ≠ some a
def Slots (K : PySem.W.Frag) (m : Md) (σ : List (Option D)) (σv : St) : Prop := ∀ (i : Nat) (d : D), σ[i]? = some (some d) → ∃ v, σv[i]? = some (some v) ∧ Den K m d v
theorem Slots.mono {K : PySem.W.Frag} {m m' : Md} (e : Le m m') {σ : List (Option D)} {σv : St} (h : Slots K m σ σv) : Slots K m' σ σv := fun i d q => by
  obtain ⟨v, h1, h2⟩ := h i d q
  exact ⟨v, h1, h2.mono e⟩
theorem Slots.set {K : PySem.W.Frag} {m : Md} {σ : List (Option D)} {σv : St} (h : Slots K m σ σv) (hl : σ.length ≤ σv.length) {i : Nat} {d : D} {v : V} (hd : Den K m d v) : Slots K m (σ.set i (some d)) (σv.set i (some v)) := fun j e q => by
  by_cases hj : i = j
  · subst hj
    by_cases hi : i < σ.length
    · rw [List.getElem?_set_self hi] at q
      have q' : d = e := Option.some.inj (Option.some.inj q)
      subst q'
      exact ⟨v, List.getElem?_set_self (by omega), hd⟩
    · rw [List.getElem?_eq_none (by simp; omega)] at q
      cases q
  · rw [List.getElem?_set_ne hj] at q
    obtain ⟨w, h1, h2⟩ := h j e q
    exact ⟨w, by rw [List.getElem?_set_ne hj]; exact h1, h2⟩
/-- an exception: its class, its fields -/
structure Exn where
  cls : Str
  fs : List (Str × D)
def ExnOk (K : PySem.W.Frag) (m : Md) (e : Exn) (cv : Value) (dd : Option Addr) : Prop :=
  cv = .ref (ga K e.cls) ∧ ((e.fs = [] ∧ dd = none) ∨ (e.fs ≠ [] ∧ ∃ d fv, dd = some d ∧ m.F d = some (.xd fv) ∧ fv.map (·.1) = e.fs.map (·.1) ∧ Dens K m (e.fs.map (·.2)) (fv.map (·.2))))
theorem ExnOk.mono {K : PySem.W.Frag} {m m' : Md} (l : Le m m') {e : Exn} {cv : Value} {dd : Option Addr} (h : ExnOk K m e cv dd) : ExnOk K m' e cv dd := by
  obtain ⟨h2, h⟩ := h
  refine ⟨h2, ?_⟩
  rcases h with h | ⟨h0, d, fv, h3, h4, h5, h6⟩
  · exact .inl h
  · exact .inr ⟨h0, d, fv, h3, l.F _ _ h4, h5, h6.mono l⟩
inductive Res (α : Type) where
  | ok (a : α) (g : G)
  | ex (e : Exn) (g : G)
  | no
@[reducible] def Res.bind {α β : Type} (r : Res α) (f : α → G → Res β) : Res β := match r with
  | .ok a g => f a g
  | .ex e g => .ex e g
  | .no => .no
abbrev Sg := List (Option D)
abbrev Ev := Sg → G → Res D
abbrev Tv := Sg → G → Res Bool
abbrev Av := Sg → G → Res (List D)
/-- what is wanted behind -/
def Post {α β : Type} (K : PySem.W.Frag) (W : WX) (σv : St) (R : Md → α → β → Prop) (r : Res α) (m : Md) (Q : β → Hp → Prop) : Prop := match r with
  | .ok d g' => ∀ m' H' v, Le m m' → Rel K m' g' H' → R m' d v → Q v H'
  | .ex e g' => ∀ m' H' cv dd, Le m m' → Rel K m' g' H' → ExnOk K m' e cv dd → W cv dd σv H'
  | .no => False
theorem Post.mono {α β : Type} {K : PySem.W.Frag} {W : WX} {σv : St} {R : Md → α → β → Prop} {r : Res α} {m m' : Md} {Q : β → Hp → Prop} (l : Le m m') (h : Post K W σv R r m Q) : Post K W σv R r m' Q := by
  cases r with
  | ok d g => exact fun m2 H v l2 r d => h m2 H v (l.trans l2) r d
  | ex e g => exact fun m2 H cv dd l2 r d => h m2 H cv dd (l.trans l2) r d
  | no => exact h
theorem Post.imp {α β : Type} {K : PySem.W.Frag} {W : WX} {σv : St} {R : Md → α → β → Prop} {r : Res α} {m : Md} {Q Q' : β → Hp → Prop} (h : Post K W σv R r m Q) (q : ∀ v H, Q v H → Q' v H) : Post K W σv R r m Q' := by
  cases r with
  | ok d g => exact fun m2 H v l2 r d => q _ _ (h m2 H v l2 r d)
  | ex e g => exact fun m2 H cv dd l2 r d => h m2 H cv dd l2 r d
  | no => exact h
/-- the first part's end, from the whole's -/
theorem Post.bind {α β γ δ : Type} {K : PySem.W.Frag} {W : WX} {σv : St} {R : Md → α → β → Prop} {R' : Md → γ → δ → Prop} {r : Res α} {f : α → G → Res γ} {m : Md} {Q : δ → Hp → Prop} {P : β → Hp → Prop}
    (h : Post K W σv R' (r.bind f) m Q) (k : ∀ d g m' H v, Le m m' → Rel K m' g H → R m' d v → Post K W σv R' (f d g) m' Q → P v H) : Post K W σv R r m P := by
  cases r with
  | ok d g => exact fun m' H v l rl rd => k d g m' H v l rl rd (Post.mono l h)
  | ex e g => exact h
  | no => exact h
def tE (K : PySem.W.Frag) (W : WX) (ev : Ev) : TE := fun σv H Q => ∃ m σ g, Rel K m g H ∧ Slots K m σ σv ∧ σ.length ≤ σv.length ∧ Post K W σv (Den K) (ev σ g) m Q
def tT (K : PySem.W.Frag) (W : WX) (ev : Tv) : TT := fun σv H Q => ∃ m σ g, Rel K m g H ∧ Slots K m σ σv ∧ σ.length ≤ σv.length ∧ Post K W σv (fun _ a b => a = b) (ev σ g) m Q
def tA (K : PySem.W.Frag) (W : WX) (ev : Av) : TA := fun σv H Q => ∃ m σ g, Rel K m g H ∧ Slots K m σ σv ∧ σ.length ≤ σv.length ∧ Post K W σv (Dens K) (ev σ g) m Q
theorem PE.imp {X : Cx} {e : Expr} {t t' : TE} (h : PE X e t) (k : ∀ σ H Q, t' σ H Q → t σ H Q) : PE X e t' := ⟨fun pins s σ H Q I q => h.run pins s σ H Q I (k _ _ _ q)⟩
theorem PT.imp {X : Cx} {e : Expr} {t t' : TT} (h : PT X e t) (k : ∀ σ H Q, t' σ H Q → t σ H Q) : PT X e t' := ⟨fun pins s σ H Q I q => h.run pins s σ H Q I (k _ _ _ q)⟩
theorem PA.imp {X : Cx} {e : List Expr} {t t' : TA} (h : PA X e t) (k : ∀ σ H Q, t' σ H Q → t σ H Q) : PA X e t' := ⟨fun pos pins s σ H Q I q => h.run pos pins s σ H Q I (k _ _ _ q)⟩
theorem PS.imp {X : Cx} {e : Stmt} {t t' : TS} (h : PS X e t) (k : ∀ D σ H, t' D σ H → t D σ H) : PS X e t' := ⟨fun pins s σ H D I q => h.run pins s σ H D I (k _ _ _ q)⟩
theorem PSs.imp {X : Cx} {e : List Stmt} {t t' : TS} (h : PSs X e t) (k : ∀ D σ H, t' D σ H → t D σ H) : PSs X e t' := ⟨fun pins s σ H D I q => h.run pins s σ H D I (k _ _ _ q)⟩
/-! ### names, constants -/
def eVar (i : Nat) : Ev := fun σ g => match σ[i]? with
  | some (some d) => .ok d g
  | _ => .no
def eC (d : D) : Ev := fun _ g => .ok d g
section
variable {X : Cx} {W : WX} {e : Expr}
theorem x_var {i : Nat} (h : PE X e (tVar i)) : PE X e (tE X.K W (eVar i)) := PE.imp h fun σ H Q q => by
  obtain ⟨m, σ', g, r, sl, _, p⟩ := q
  unfold eVar at p
  split at p
  · rename_i d hd
    obtain ⟨v, h1, h2⟩ := sl i d hd
    exact ⟨v, h1, p m H v (Le.refl m) r h2⟩
  · exact p.elim
theorem x_c {d : D} {v : V} (h : PE X e (tC v)) (hd : ∀ m, Den X.K m d v) : PE X e (tE X.K W (eC d)) := PE.imp h fun σ H Q q => by
  obtain ⟨m, σ', g, r, sl, _, p⟩ := q
  exact p m H v (Le.refl m) r (hd m)
theorem x_int {i j pos} : PE X (.Constant (.int i) j pos) (tE X.K W (eC (.int i))) := x_c pe_int fun _ => .int
theorem x_bl {i j pos} : PE X (.Constant (.bool i) j pos) (tE X.K W (eC (.bl i))) := x_c pe_bl fun _ => .bl
theorem x_str {i j pos} : PE X (.Constant (.str i) j pos) (tE X.K W (eC (.str i))) := x_c pe_str fun _ => .str
theorem x_non {j pos} : PE X (.Constant .none j pos) (tE X.K W (eC .non)) := x_c pe_non fun _ => .non
end
/-! ### operators -/
abbrev Op2 := D → D → G → Res D
abbrev Op1 := D → G → Res D
def eOp (f : Op2) (a b : Ev) : Ev := fun σ g => (a σ g).bind fun x g1 => (b σ g1).bind fun y g2 => f x y g2
def eUn (f : Op1) (a : Ev) : Ev := fun σ g => (a σ g).bind fun x g1 => f x g1
/-- a rule by values and its function -/
def OpS (K : PySem.W.Frag) (W : WX) (r : R2) (f : Op2) : Prop := ∀ (σv : St) (m : Md) (g : G) (H : Hp) (d e : D) (x y : V) (Q : VK), Rel K m g H → Den K m d x → Den K m e y → Post K W σv (Den K) (f d e g) m Q → r x y H Q
def UnS (K : PySem.W.Frag) (W : WX) (r : V → Hp → VK → Prop) (f : Op1) : Prop := ∀ (σv : St) (m : Md) (g : G) (H : Hp) (d : D) (x : V) (Q : VK), Rel K m g H → Den K m d x → Post K W σv (Den K) (f d g) m Q → r x H Q
section
variable {X : Cx} {W : WX} {a b : Expr} {ea eb : Ev} {pos : Pos}
theorem tOp_of {K : PySem.W.Frag} {r : R2} {f : Op2} (hs : OpS K W r f) {σ : St} {H : Hp} {Q : VK} (h : tE K W (eOp f ea eb) σ H Q) : tOp r (tE K W ea) (tE K W eb) σ H Q := by
  obtain ⟨m, σ', g, rl, sl, hl, p⟩ := h
  refine ⟨m, σ', g, rl, sl, hl, Post.bind p fun d g1 m1 H1 x l1 r1 d1 p1 => ?_⟩
  refine ⟨m1, σ', g1, r1, sl.mono l1, hl, Post.bind p1 fun e g2 m2 H2 y l2 r2 d2 p2 => ?_⟩
  exact hs σ m2 g2 H2 d e x y Q r2 (d1.mono l2) d2 p2
theorem x_op {op : Operator} {r : R2} {f : Op2} (ho : OpR X (binaryOp op) r) (hs : OpS X.K W r f) (ha : PE X a (tE X.K W ea)) (hb : PE X b (tE X.K W eb)) : PE X (.BinOp a op b pos) (tE X.K W (eOp f ea eb)) :=
  PE.imp (pe_op ho ha hb) fun _ _ _ h => tOp_of hs h
theorem x_un {op : UnaryOp} {r : V → Hp → VK → Prop} {f : Op1} (ho : UnR X (unaryOp op) r) (hs : UnS X.K W r f) (ha : PE X a (tE X.K W ea)) : PE X (.UnaryOp op a pos) (tE X.K W (eUn f ea)) := PE.imp (pe_un ho ha) fun σ H Q h => by
  obtain ⟨m, σ', g, rl, sl, hl, p⟩ := h
  refine ⟨m, σ', g, rl, sl, hl, Post.bind p fun d g1 m1 H1 x l1 r1 d1 p1 => ?_⟩
  exact hs σ m1 g1 H1 d x Q r1 d1 p1
theorem opR_or {f : Value → Value → Sem Value} {r r' : R2} (h : OpR X f r) (h' : OpR X f r') : OpR X f (fun x y H Q => r x y H Q ∨ r' x y H Q) := fun pins s σ H x y v u Q I rx ry q =>
  q.elim (fun q => h pins s σ H x y v u Q I rx ry q) (fun q => h' pins s σ H x y v u Q I rx ry q)
end
/-- an arithmetic rule of two ints -/
def oI (C : Int → Int → Bool) (f : Int → Int → Int) : Op2 := fun x y g => match x, y with
  | .int i, .int j => if C i j = true then .ok (.int (f i j)) g else .no
  | _, _ => .no
theorem oI_s {K : PySem.W.Frag} {W : WX} {C : Int → Int → Prop} {c : Int → Int → Bool} {f : Int → Int → Int} (hc : ∀ i j, c i j = true → C i j) : OpS K W (rI C fun i j => .int (f i j)) (oI c f) := fun σv m g H d e x y Q rl hd he p => by
  cases d with
  | int i =>
    cases e with
    | int j =>
      cases hd
      cases he
      have p' : Post K W σv (Den K) (if c i j = true then .ok (.int (f i j)) g else .no) m Q := p
      by_cases h : c i j = true
      · rw [if_pos h] at p'
        exact ⟨i, j, rfl, rfl, hc i j h, p' m H _ (Le.refl m) rl .int⟩
      · rw [if_neg h] at p'
        exact p'.elim
    | _ => exact p.elim
  | _ => exact p.elim
end AW
namespace AW
open PySem PySem.Spec L2
/-! ### arithmetic -/
theorem Rel.seqT {K : PySem.W.Frag} {m : Md} {g : G} {H : Hp} (r : Rel K m g H) {a : Addr} {vs : List V} (h : SqT K m.F a vs) : SqT K H a vs := sqT_le r.ex h
theorem Rel.seqL {K : PySem.W.Frag} {m : Md} {g : G} {H : Hp} (r : Rel K m g H) {a : Addr} {vs : List V} (h : SqL K m.F a vs) : SqL K H a vs := sqL_le r.ex h
/-- a new frozen object -/
def Md.put (m : Md) (p : Addr) (o : HO) : Md := ⟨upd m.F p o, m.r, m.hid⟩
theorem Rel.free {K : PySem.W.Frag} {m : Md} {g : G} {H : Hp} (r : Rel K m g H) {p : Addr} (h : H p = none) : m.F p = none := by
  cases q : m.F p with
  | none => rfl
  | some o => rw [r.ex p o q] at h; cases h
theorem le_put {m : Md} {p : Addr} {o : HO} (h : m.F p = none) : Le m (m.put p o) := ⟨fun a u e => by
  show upd m.F p o a = some u
  rw [upd_ne (ne_of_none e h)]
  exact e, fun _ _ h => h, fun _ _ h => h⟩
theorem Rel.put {K : PySem.W.Frag} {m : Md} {g : G} {H : Hp} (r : Rel K m g H) {p : Addr} {o : HO} (h : H p = none) : Rel K (m.put p o) g (upd H p o) where
  ex := fun a u e => by
    by_cases ha : a = p
    · subst ha
      have e' : upd m.F a o a = some u := e
      rw [upd_same] at e' ⊢
      exact e'
    · have e' : upd m.F p o a = some u := e
      rw [upd_ne ha] at e' ⊢
      exact r.ex a u e'
  cell := fun i c hc => by
    obtain ⟨a, h1, h2, u, h3, h4⟩ := r.cell i c hc
    have ha : a ≠ p := ne_of_none h3 h
    refine ⟨a, h1, ?_, u, by rw [upd_ne ha]; exact h3, h4.mono (le_put (r.free h))⟩
    show upd m.F p o a = none
    rw [upd_ne ha]
    exact h2
  dom := r.dom
  inj := r.inj
  hid := fun a u e => by
    obtain ⟨h1, h2, h3⟩ := r.hid a u e
    have ha : a ≠ p := ne_of_none h1 h
    refine ⟨by rw [upd_ne ha]; exact h1, ?_, h3⟩
    show upd m.F p o a = none
    rw [upd_ne ha]
    exact h2
theorem put_tup {K : PySem.W.Frag} {m : Md} {p : Addr} {ds : List D} {vs : List V} (h : m.F p = none) (d : Dens K m ds vs) : Den K (m.put p (.tup vs)) (.tup ds) (.ref p) :=
  .tup (.inl (.inl (by show upd m.F p _ p = _; exact upd_same))) (d.mono (le_put h))
theorem put_lst {K : PySem.W.Frag} {m : Md} {p : Addr} {ds : List D} {vs : List V} (h : m.F p = none) (d : Dens K m ds vs) : Den K (m.put p (.lst vs)) (.lst ds) (.ref p) :=
  .lst (by show upd m.F p _ p = _; exact upd_same) (d.mono (le_put h))
/-- the end: a new tuple, a new list -/
theorem fin_tup {K : PySem.W.Frag} {W : WX} {σv : L2.St} {m : Md} {g : G} {H : Hp} {ds : List D} {vs : List V} {Q : VK} (r : Rel K m g H) (d : Dens K m ds vs) (p : Post K W σv (Den K) (.ok (.tup ds) g) m Q) : ∀ a, H a = none → Q (.ref a) (upd H a (.tup vs)) := fun a h =>
  p _ _ _ (le_put (r.free h)) (r.put h) (put_tup (r.free h) d)
theorem fin_lst {K : PySem.W.Frag} {W : WX} {σv : L2.St} {m : Md} {g : G} {H : Hp} {ds : List D} {vs : List V} {Q : VK} (r : Rel K m g H) (d : Dens K m ds vs) (p : Post K W σv (Den K) (.ok (.lst ds) g) m Q) : ∀ a, H a = none → Q (.ref a) (upd H a (.lst vs)) := fun a h =>
  p _ _ _ (le_put (r.free h)) (r.put h) (put_lst (r.free h) d)
theorem fin_ok {α β : Type} {K : PySem.W.Frag} {W : WX} {σv : L2.St} {R : Md → α → β → Prop} {m : Md} {g : G} {H : Hp} {d : α} {v : β} {Q : β → Hp → Prop} (r : Rel K m g H) (h : R m d v) (p : Post K W σv R (.ok d g) m Q) : Q v H := p m H v (Le.refl m) r h
def small (xs : List D) : Bool := decide (xs.length ≤ 100000)
theorem small_line {xs : List D} {vs : List V} {K : PySem.W.Frag} {m : Md} (h : small xs = true) (d : Dens K m xs vs) : vs.length ≤ sizeLine := by
  rw [← d.length, sizeLine_eq]
  have := of_decide_eq_true h
  omega
def okIf {α : Type} (c : Bool) (d : α) (g : G) : Res α := match c with
  | true => .ok d g
  | false => .no
theorem okIf_post {α β : Type} {K : PySem.W.Frag} {W : WX} {σv : L2.St} {R : Md → α → β → Prop} {m : Md} {g : G} {d : α} {Q : β → Hp → Prop} {c : Bool} (p : Post K W σv R (okIf c d g) m Q) : c = true ∧ Post K W σv R (.ok d g) m Q := by
  cases c with
  | true => exact ⟨rfl, p⟩
  | false => exact p.elim
/-- the items of a list that stands in the heap -/
def lsOf (g : G) : D → Option (List D)
  | .lst xs => some xs
  | .ref i => match g[i]? with
    | some (.lst xs) => some xs
    | _ => none
  | _ => none
theorem lsOf_s {K : PySem.W.Frag} {m : Md} {g : G} {H : Hp} {d : D} {v : V} {xs : List D} (r : Rel K m g H) (h : Den K m d v) (e : lsOf g d = some xs) : ∃ p vs, v = .ref p ∧ H p = some (.lst vs) ∧ Dens K m xs vs := by
  cases h with
  | lst h1 h2 =>
    cases e
    exact ⟨_, _, rfl, r.ex _ _ h1, h2⟩
  | ref h1 =>
    rename_i i a
    have e' : (match g[i]? with | some (.lst xs) => some xs | _ => none) = some xs := e
    split at e'
    · rename_i ys hy
      cases e'
      obtain ⟨a', h2, _, o, h3, vs, h4, h5⟩ := r.cell _ _ hy
      rw [h1] at h2
      cases h2
      subst h4
      exact ⟨_, _, rfl, h3, h5⟩
    · cases e'
  | _ => cases e
/-- the items of anything that is read as a list -/
def lqOf (g : G) : D → Option (List D)
  | .seq xs => some xs
  | d => lsOf g d
theorem lqOf_s {K : PySem.W.Frag} {m : Md} {g : G} {H : Hp} {d : D} {v : V} {xs : List D} (r : Rel K m g H) (h : Den K m d v) (e : lqOf g d = some xs) : ∃ p vs, v = .ref p ∧ SqL K H p vs ∧ Dens K m xs vs := by
  cases d with
  | seq ys =>
    cases e
    cases h with
    | seq h1 h2 => exact ⟨_, _, rfl, r.seqL h1, h2⟩
  | _ =>
    obtain ⟨p, vs, h1, h2, h3⟩ := lsOf_s r h e
    exact ⟨p, vs, h1, SqL.of h2, h3⟩
/-- the items of a list or a tuple -/
def sqOf (g : G) : D → Option (List D)
  | .tup xs => some xs
  | d => lqOf g d
theorem sqOf_s {K : PySem.W.Frag} {m : Md} {g : G} {H : Hp} {d : D} {v : V} {xs : List D} (r : Rel K m g H) (h : Den K m d v) (e : sqOf g d = some xs) : ∃ p vs, v = .ref p ∧ (SqL K H p vs ∨ SqT K H p vs) ∧ Dens K m xs vs := by
  cases d with
  | tup ys =>
    cases e
    cases h with
    | tup h1 h2 => exact ⟨_, _, rfl, .inr (r.seqT h1), h2⟩
  | _ =>
    obtain ⟨p, vs, h1, h2, h3⟩ := lqOf_s r h e
    exact ⟨p, vs, h1, .inl h2, h3⟩
/-- + -/
def oAddL (g : G) (x y : D) : Res D := match lsOf g x, lsOf g y with
  | some xs, some ys => okIf (small (xs ++ ys)) (.lst (xs ++ ys)) g
  | _, _ => .no
def oAdd : Op2 := fun x y g => match x, y with
  | .int i, .int j => .ok (.int (i + j)) g
  | .int i, .bl k => .ok (.int (i + PyProof.Rows.b2i k)) g
  | .str a, .str b => okIf (decide (a.length + b.length ≤ 100000)) (.str (a ++ b)) g
  | .tup xs, .tup ys => okIf (small (xs ++ ys)) (.tup (xs ++ ys)) g
  | x, y => oAddL g x y
def rAdd1 (K : PySem.W.Frag) : R2 := fun x y H Q => (rI0 (fun i j => .int (i + j)) x y H Q ∨ (∃ i k, x = .int i ∧ y = .bl k ∧ Q (.int (i + PyProof.Rows.b2i k)) H)) ∨ ((∃ i j, x = .str i ∧ y = .str j ∧ i.length + j.length ≤ sizeLine ∧ Q (.str (i ++ j)) H) ∨ (rCatA K x y H Q ∨ rCat x y H Q))
theorem op_add1 {X : Cx} : OpR X (binaryOp .Add) (rAdd1 X.K) := opR_or (opR_or op_add op_add_ib) (opR_or op_add_str (opR_or op_catA op_cat))
theorem line5 {n : Nat} (h : n ≤ 100000) : n ≤ sizeLine := by rw [sizeLine_eq]; omega
theorem small_app {K : PySem.W.Frag} {m : Md} {xs ys : List D} {vs ws : List V} (h : small (xs ++ ys) = true) (a : Dens K m xs vs) (b : Dens K m ys ws) : vs.length + ws.length ≤ sizeLine := by
  have := small_line h (a.append b)
  rw [List.length_append] at this
  exact this
theorem oAddL_s {K : PySem.W.Frag} {W : WX} {σv : L2.St} {m : Md} {g : G} {H : Hp} {d e : D} {x y : V} {Q : VK} (rl : Rel K m g H) (hd : Den K m d x) (he : Den K m e y) (p : Post K W σv (Den K) (oAddL g d e) m Q) : rAdd1 K x y H Q := by
  unfold oAddL at p
  split at p
  · rename_i xs ys e1 e2
    obtain ⟨c, p⟩ := okIf_post p
    obtain ⟨a, vs, rfl, ha, da⟩ := lsOf_s rl hd e1
    obtain ⟨b, ws, rfl, hb, db⟩ := lsOf_s rl he e2
    exact .inr (.inr (.inr ⟨a, b, vs, ws, rfl, rfl, ha, hb, small_app c da db, fin_lst rl (da.append db) p⟩))
  · exact p.elim
theorem oAdd_s {K : PySem.W.Frag} {W : WX} : OpS K W (rAdd1 K) oAdd := fun σv m g H d e x y Q rl hd he p => by
  unfold oAdd at p
  split at p
  · cases hd; cases he
    exact .inl (.inl ⟨_, _, rfl, rfl, fin_ok rl .int p⟩)
  · cases hd; cases he
    exact .inl (.inr ⟨_, _, rfl, rfl, fin_ok rl .int p⟩)
  · cases hd; cases he
    obtain ⟨c, p⟩ := okIf_post p
    exact .inr (.inl ⟨_, _, rfl, rfl, line5 (of_decide_eq_true c), fin_ok rl .str p⟩)
  · obtain ⟨c, p⟩ := okIf_post p
    cases hd with
    | tup h1 d1 =>
      cases he with
      | tup h2 d2 =>
        rename_i xs ys a vs b ws
        refine .inr (.inr (.inl ⟨a, b, vs, ws, rfl, rfl, rl.seqT h1, rl.seqT h2, small_app c d1 d2, fun z => ?_, fun _ z => ?_, fun _ _ => fin_tup rl (d1.append d2) p⟩))
        · subst z
          cases d1
          exact fin_ok rl (.tup h2 d2) p
        · subst z
          cases d2
          rw [List.append_nil] at p
          exact fin_ok rl (.tup h1 d1) p
  · exact oAddL_s rl hd he p
def oSub : Op2 := oI (fun _ _ => true) (· - ·)
theorem op_sub1 {X : Cx} : OpR X (binaryOp .Sub) (rI (fun _ _ => True) fun i j => .int (i - j)) := opI fun _ _ _ _ _ _ _ _ q => PyProof.Rows.sub_int q
theorem oSub_s {K : PySem.W.Frag} {W : WX} : OpS K W (rI (fun _ _ => True) fun i j => .int (i - j)) oSub := oI_s fun _ _ _ => trivial
def cMul (i j : Int) : Bool := decide (i.natAbs.log2 + j.natAbs.log2 < 1000000)
theorem cMul_ok {i j : Int} (h : cMul i j = true) : CMulW i j := by
  have h' : i.natAbs.log2 + j.natAbs.log2 < 1000000 := of_decide_eq_true h
  exact h'
/-- * -/
def oMulL (g : G) (x : D) (k : Int) : Res D := match lsOf g x with
  | some xs => okIf (decide (-1000 ≤ k) && decide (k ≤ 100000) && decide (xs.length * k.toNat ≤ 100000)) (.lst (List.replicate k.toNat xs).flatten) g
  | _ => .no
def oMul : Op2 := fun x y g => match x, y with
  | .int i, .int j => okIf (cMul i j) (.int (i * j)) g
  | x, .int k => oMulL g x k
  | _, _ => .no
def rMul1 : R2 := fun x y H Q => rI CMulW (fun i j => .int (i * j)) x y H Q ∨ rRep x y H Q
theorem op_mul1 {X : Cx} : OpR X (binaryOp .Mult) rMul1 := opR_or op_mulW op_rep
theorem Dens.rep {K : PySem.W.Frag} {m : Md} {xs : List D} {vs : List V} (h : Dens K m xs vs) : ∀ n : Nat, Dens K m (List.replicate n xs).flatten (List.replicate n vs).flatten
  | 0 => .nil
  | n + 1 => by
    rw [List.replicate_succ, List.replicate_succ, List.flatten_cons, List.flatten_cons]
    exact h.append (Dens.rep h n)
theorem oMul_s {K : PySem.W.Frag} {W : WX} : OpS K W rMul1 oMul := fun σv m g H d e x y Q rl hd he p => by
  unfold oMul at p
  split at p
  · cases hd; cases he
    obtain ⟨c, p⟩ := okIf_post p
    exact .inl ⟨_, _, rfl, rfl, cMul_ok c, fin_ok rl .int p⟩
  · cases he
    unfold oMulL at p
    split at p
    · rename_i xs e1
      obtain ⟨c, p⟩ := okIf_post p
      rw [Bool.and_eq_true, Bool.and_eq_true] at c
      obtain ⟨⟨c1, c2⟩, c3⟩ := c
      have c1 := of_decide_eq_true c1
      have c2 := of_decide_eq_true c2
      have c3 := of_decide_eq_true c3
      obtain ⟨a, vs, rfl, ha, da⟩ := lsOf_s rl hd e1
      exact .inr ⟨a, _, vs, rfl, rfl, ha, by omega, by omega, by rw [← da.length]; exact line5 c3, fin_lst rl (da.rep _) p⟩
    · exact p.elim
  · exact p.elim
/-- // and % by any divisor but 0 (// below 2 ^ 9000) -/
def cDiv (_ j : Int) : Bool := decide (j ≠ 0) && decide (j.natAbs.log2 < 9000)
def oFdiv : Op2 := oI cDiv Int.fdiv
theorem op_fdiv1 {X : Cx} : OpR X (binaryOp .FloorDiv) (rI (fun _ j => j ≠ 0 ∧ j.natAbs.log2 < 9000) fun i j => .int (i.fdiv j)) := opI fun i j _ _ _ _ _ hc q =>
  PyProof.Rows.floordiv_int hc.1 q (.inl (PyProof.noPylong_of_log2 hc.2))
theorem iop_fdiv1 {X : Cx} : OpR X (inplaceOp .FloorDiv) (rI (fun _ j => j ≠ 0 ∧ j.natAbs.log2 < 9000) fun i j => .int (i.fdiv j)) := opI fun i j _ _ _ _ _ hc q =>
  PyProof.Rows.ifloordiv_int hc.1 q (.inl (PyProof.noPylong_of_log2 hc.2))
theorem oFdiv_s {K : PySem.W.Frag} {W : WX} : OpS K W (rI (fun _ j => j ≠ 0 ∧ j.natAbs.log2 < 9000) fun i j => .int (i.fdiv j)) oFdiv := oI_s fun i j h => by
  unfold cDiv at h
  rw [Bool.and_eq_true] at h
  exact ⟨of_decide_eq_true h.1, of_decide_eq_true h.2⟩
def oMod : Op2 := oI (fun _ j => decide (j ≠ 0)) Int.fmod
theorem oMod_s {K : PySem.W.Frag} {W : WX} : OpS K W (rI (fun _ j => j ≠ 0) fun i j => .int (i.fmod j)) oMod := oI_s fun i j h => of_decide_eq_true h
def cPow (i j : Int) : Bool := decide (0 ≤ j) && decide (((i.natAbs.log2 : Int) + 1) * j ≤ 1000000)
def oPow : Op2 := oI cPow fun i j => i ^ j.toNat
theorem op_pow1 {X : Cx} : OpR X (binaryOp .Pow) (rI (fun i j => cPow i j = true) fun i j => .int (i ^ j.toNat)) := opI fun i j _ _ _ _ _ hc q => by
  unfold cPow at hc
  rw [Bool.and_eq_true] at hc
  have h1 := of_decide_eq_true hc.1
  have h2 := of_decide_eq_true hc.2
  refine PyProof.Rows.pow_int h1 ?_ q
  have b : Builtin.Int.intBits i ≤ i.natAbs.log2 + 1 := by
    unfold Builtin.Int.intBits
    split <;> omega
  have b2 : (Builtin.Int.intBits i : Int) * j ≤ ((i.natAbs.log2 : Int) + 1) * j := Int.mul_le_mul_of_nonneg_right (by omega) h1
  have e : (2 : Int) ^ 27 = 134217728 := by decide
  rw [e]
  omega
theorem oPow_s {K : PySem.W.Frag} {W : WX} : OpS K W (rI (fun i j => cPow i j = true) fun i j => .int (i ^ j.toNat)) oPow := oI_s fun i j h => h
def cShl (i j : Int) : Bool := decide (0 ≤ j) && decide ((i.natAbs.log2 : Int) + j ≤ 1000000)
def oShl : Op2 := oI cShl fun i j => i * 2 ^ j.toNat
theorem cShl_ok {i j : Int} (h : cShl i j = true) : CShl i j := by
  unfold cShl at h
  rw [Bool.and_eq_true] at h
  have h1 := of_decide_eq_true h.1
  have h2 := of_decide_eq_true h.2
  have b : Builtin.Int.intBits i ≤ i.natAbs.log2 + 1 := by
    unfold Builtin.Int.intBits
    split <;> omega
  have e : (2 : Int) ^ 27 = 134217728 := by decide
  refine ⟨h1, ?_⟩
  rw [e]
  omega
theorem oShl_s {K : PySem.W.Frag} {W : WX} : OpS K W (rI CShl fun i j => .int (i * 2 ^ j.toNat)) oShl := oI_s fun i j h => cShl_ok h
def oShr : Op2 := oI (fun _ j => decide (0 ≤ j)) fun i j => i / 2 ^ j.toNat
theorem oShr_s {K : PySem.W.Frag} {W : WX} : OpS K W (rI (fun _ j => 0 ≤ j) fun i j => .int (i / 2 ^ j.toNat)) oShr := oI_s fun i j h => of_decide_eq_true h
def oI0 (f : Int → Int → Int) : Op2 := fun x y g => match x, y with
  | .int i, .int j => .ok (.int (f i j)) g
  | _, _ => .no
def oB0 (f : Int → Int → Bool) : Op2 := fun x y g => match x, y with
  | .int i, .int j => .ok (.bl (f i j)) g
  | _, _ => .no
theorem oI0_s {K : PySem.W.Frag} {W : WX} {f : Int → Int → Int} : OpS K W (rI0 fun i j => .int (f i j)) (oI0 f) := fun σv m g H d e x y Q rl hd he p => by
  unfold oI0 at p
  split at p
  · cases hd; cases he
    exact ⟨_, _, rfl, rfl, fin_ok rl .int p⟩
  · exact p.elim
theorem oB0_s {K : PySem.W.Frag} {W : WX} {f : Int → Int → Bool} : OpS K W (rI0 fun i j => .bl (f i j)) (oB0 f) := fun σv m g H d e x y Q rl hd he p => by
  unfold oB0 at p
  split at p
  · cases hd; cases he
    exact ⟨_, _, rfl, rfl, fin_ok rl .bl p⟩
  · exact p.elim
abbrev oAnd : Op2 := oI0 Builtin.bitAnd
abbrev oOr : Op2 := oI0 Builtin.bitOr
abbrev oXor : Op2 := oI0 Builtin.bitXor
section
variable {X : Cx} {W : WX} {a b : Expr} {ea eb : Ev} {pos : Pos}
theorem x_add (ha : PE X a (tE X.K W ea)) (hb : PE X b (tE X.K W eb)) : PE X (.BinOp a .Add b pos) (tE X.K W (eOp oAdd ea eb)) := x_op op_add1 oAdd_s ha hb
theorem x_sub (ha : PE X a (tE X.K W ea)) (hb : PE X b (tE X.K W eb)) : PE X (.BinOp a .Sub b pos) (tE X.K W (eOp oSub ea eb)) := x_op op_sub1 oSub_s ha hb
theorem x_mul (ha : PE X a (tE X.K W ea)) (hb : PE X b (tE X.K W eb)) : PE X (.BinOp a .Mult b pos) (tE X.K W (eOp oMul ea eb)) := x_op op_mul1 oMul_s ha hb
theorem x_fdiv (ha : PE X a (tE X.K W ea)) (hb : PE X b (tE X.K W eb)) : PE X (.BinOp a .FloorDiv b pos) (tE X.K W (eOp oFdiv ea eb)) := x_op op_fdiv1 oFdiv_s ha hb
theorem x_mod (ha : PE X a (tE X.K W ea)) (hb : PE X b (tE X.K W eb)) : PE X (.BinOp a .Mod b pos) (tE X.K W (eOp oMod ea eb)) := x_op op_modN oMod_s ha hb
theorem x_pow (ha : PE X a (tE X.K W ea)) (hb : PE X b (tE X.K W eb)) : PE X (.BinOp a .Pow b pos) (tE X.K W (eOp oPow ea eb)) := x_op op_pow1 oPow_s ha hb
theorem x_shl (ha : PE X a (tE X.K W ea)) (hb : PE X b (tE X.K W eb)) : PE X (.BinOp a .LShift b pos) (tE X.K W (eOp oShl ea eb)) := x_op op_shlW oShl_s ha hb
theorem x_shr (ha : PE X a (tE X.K W ea)) (hb : PE X b (tE X.K W eb)) : PE X (.BinOp a .RShift b pos) (tE X.K W (eOp oShr ea eb)) := x_op op_shr oShr_s ha hb
theorem x_bitand (ha : PE X a (tE X.K W ea)) (hb : PE X b (tE X.K W eb)) : PE X (.BinOp a .BitAnd b pos) (tE X.K W (eOp oAnd ea eb)) := x_op op_and oI0_s ha hb
theorem x_bitor (ha : PE X a (tE X.K W ea)) (hb : PE X b (tE X.K W eb)) : PE X (.BinOp a .BitOr b pos) (tE X.K W (eOp oOr ea eb)) := x_op op_or oI0_s ha hb
theorem x_bitxor (ha : PE X a (tE X.K W ea)) (hb : PE X b (tE X.K W eb)) : PE X (.BinOp a .BitXor b pos) (tE X.K W (eOp oXor ea eb)) := x_op op_xor oI0_s ha hb
end
/-- -x -/
def oNeg : Op1 := fun x g => match x with
  | .int i => .ok (.int (-i)) g
  | _ => .no
theorem oNeg_s {K : PySem.W.Frag} {W : WX} : UnS K W (rU fun i => .int (-i)) oNeg := fun σv m g H d x Q rl hd p => by
  unfold oNeg at p
  split at p
  · cases hd
    exact ⟨_, rfl, fin_ok rl .int p⟩
  · exact p.elim
theorem x_neg {X : Cx} {W : WX} {a : Expr} {ea : Ev} {pos : Pos} (ha : PE X a (tE X.K W ea)) : PE X (.UnaryOp .USub a pos) (tE X.K W (eUn oNeg ea)) := x_un un_neg oNeg_s ha
/-! ### truth -/
def truth (g : G) : D → Option Bool
  | .non => some false
  | .bl b => some b
  | .int i => some (i != 0)
  | .str y => if y.length ≤ 100000 then some ((y.length : Int) != 0) else none
  | d => match sqOf g d with
    | some xs => some (!xs.isEmpty)
    | none => none
theorem dens_empty {K : PySem.W.Frag} {m : Md} {xs : List D} {vs : List V} (h : Dens K m xs vs) : (!xs.isEmpty) = !vs.isEmpty := by
  cases h <;> rfl
theorem truth_s {K : PySem.W.Frag} {m : Md} {g : G} {H : Hp} {d : D} {v : V} {b : Bool} (r : Rel K m g H) (h : Den K m d v) (e : truth g d = some b) : TruV K v H b := by
  unfold truth at e
  split at e
  · cases h; cases e; rfl
  · cases h; cases e; rfl
  · cases h; cases e; rfl
  · cases h
    split at e
    · cases e
      rename_i hl
      exact ⟨line5 hl, rfl⟩
    · cases e
  · split at e
    · rename_i xs hx
      cases e
      obtain ⟨p, vs, rfl, h1, h2⟩ := sqOf_s r h hx
      rcases h1 with h1 | h1
      · exact .inl ⟨vs, h1, dens_empty h2⟩
      · exact .inr (.inl ⟨vs, h1, dens_empty h2⟩)
    · cases e
def trR (g : G) (d : D) : Res Bool := match truth g d with
  | some b => .ok b g
  | none => .no
def eTru (a : Ev) : Tv := fun σ g => (a σ g).bind fun d g1 => trR g1 d
section
variable {X : Cx} {W : WX} {a b : Expr} {ea eb : Ev} {ta tb : Tv} {rest : List Expr} {pos : Pos}
theorem trR_s {K : PySem.W.Frag} {σv : L2.St} {m : Md} {g : G} {H : Hp} {d : D} {v : V} {Q : Bool → Hp → Prop} (rl : Rel K m g H) (hd : Den K m d v) (p : Post K W σv (fun _ a b => a = b) (trR g d) m Q) : ∃ k, TruV K v H k ∧ Q k H := by
  unfold trR at p
  split at p
  · rename_i c hc
    exact ⟨c, truth_s rl hd hc, fin_ok rl rfl p⟩
  · exact p.elim
theorem t_tru (ha : PE X a (tE X.K W ea)) (he : ∀ whole, isTrue a X.env whole = (do let v ← whole; standAt a.pos; holding [v] (truthy v)) := by intro _; rfl) : PT X a (tT X.K W (eTru ea)) := PT.imp (pt_truth ha he) fun σ H Q h => by
  obtain ⟨m, σ', g, rl, sl, hl, p⟩ := h
  refine ⟨m, σ', g, rl, sl, hl, Post.bind p fun d g1 m1 H1 x l1 r1 d1 p1 => ?_⟩
  exact trR_s r1 d1 p1
def eAndT (a b : Tv) : Tv := fun σ g => (a σ g).bind fun c g1 => match c with
  | true => b σ g1
  | false => .ok false g1
def eOrT (a b : Tv) : Tv := fun σ g => (a σ g).bind fun c g1 => match c with
  | true => .ok true g1
  | false => b σ g1
def eNotT (a : Tv) : Tv := fun σ g => (a σ g).bind fun c g1 => .ok (!c) g1
theorem w_and (ha : PT X a (tT X.K W ta)) (hb : PW X (.BoolOp .And (b :: rest) pos) (tT X.K W tb)) : PW X (.BoolOp .And (a :: b :: rest) pos) (tT X.K W (eAndT ta tb)) := ⟨fun wh pins s σ H Q I h => (pw_and ha hb).run wh pins s σ H Q I (by
  obtain ⟨m, σ', g, rl, sl, hl, p⟩ := h
  refine ⟨m, σ', g, rl, sl, hl, Post.bind p fun c g1 m1 H1 x l1 r1 d1 p1 => ?_⟩
  cases d1
  cases c with
  | true => exact ⟨m1, σ', g1, r1, sl.mono l1, hl, p1⟩
  | false => exact fin_ok r1 rfl p1)⟩
theorem w_or (ha : PT X a (tT X.K W ta)) (hb : PW X (.BoolOp .Or (b :: rest) pos) (tT X.K W tb)) : PW X (.BoolOp .Or (a :: b :: rest) pos) (tT X.K W (eOrT ta tb)) := ⟨fun wh pins s σ H Q I h => (pw_or ha hb).run wh pins s σ H Q I (by
  obtain ⟨m, σ', g, rl, sl, hl, p⟩ := h
  refine ⟨m, σ', g, rl, sl, hl, Post.bind p fun c g1 m1 H1 x l1 r1 d1 p1 => ?_⟩
  cases d1
  cases c with
  | true => exact fin_ok r1 rfl p1
  | false => exact ⟨m1, σ', g1, r1, sl.mono l1, hl, p1⟩)⟩
theorem w_and1 (ha : PT X a (tT X.K W ta)) : PW X (.BoolOp .And [a] pos) (tT X.K W ta) := pw_and1 ha
theorem w_or1 (ha : PT X a (tT X.K W ta)) : PW X (.BoolOp .Or [a] pos) (tT X.K W ta) := pw_or1 ha
theorem t_not (ha : PT X a (tT X.K W ta)) : PT X (.UnaryOp .Not a pos) (tT X.K W (eNotT ta)) := PT.imp (pt_not ha) fun σ H Q h => by
  obtain ⟨m, σ', g, rl, sl, hl, p⟩ := h
  refine ⟨m, σ', g, rl, sl, hl, Post.bind p fun c g1 m1 H1 x l1 r1 d1 p1 => ?_⟩
  cases d1
  exact fin_ok r1 rfl p1
/-- as values -/
def eAnd (a b : Ev) : Ev := fun σ g => (a σ g).bind fun d g1 => (trR g1 d).bind fun c _ => match c with
  | true => b σ g1
  | false => .ok d g1
def eOr (a b : Ev) : Ev := fun σ g => (a σ g).bind fun d g1 => (trR g1 d).bind fun c _ => match c with
  | true => .ok d g1
  | false => b σ g1
def eNot (a : Ev) : Ev := fun σ g => (a σ g).bind fun d g1 => (trR g1 d).bind fun c _ => .ok (.bl (!c)) g1
theorem tr_case {K : PySem.W.Frag} {σv : L2.St} {m : Md} {g : G} {H : Hp} {d : D} {v : V} {f : Bool → Res D} {Q : VK} (rl : Rel K m g H) (hd : Den K m d v) (p : Post K W σv (Den K) ((trR g d).bind fun c _ => f c) m Q) : ∃ k, TruV K v H k ∧ Post K W σv (Den K) (f k) m Q := by
  unfold trR at p
  cases hc : truth g d with
  | none => rw [hc] at p; exact p.elim
  | some c => rw [hc] at p; exact ⟨c, truth_s rl hd hc, p⟩
theorem x_and (ha : PE X a (tE X.K W ea)) (hb : PE X (.BoolOp .And (b :: rest) pos) (tE X.K W eb)) : PE X (.BoolOp .And (a :: b :: rest) pos) (tE X.K W (eAnd ea eb)) := PE.imp (pe_andT ha hb) fun σ H Q h => by
  obtain ⟨m, σ', g, rl, sl, hl, p⟩ := h
  refine ⟨m, σ', g, rl, sl, hl, Post.bind p fun d g1 m1 H1 x l1 r1 d1 p1 => ?_⟩
  obtain ⟨k, h1, p2⟩ := tr_case r1 d1 p1
  refine ⟨k, h1, ?_⟩
  cases k with
  | true => exact ⟨m1, σ', g1, r1, sl.mono l1, hl, p2⟩
  | false => exact fin_ok r1 d1 p2
theorem x_or (ha : PE X a (tE X.K W ea)) (hb : PE X (.BoolOp .Or (b :: rest) pos) (tE X.K W eb)) : PE X (.BoolOp .Or (a :: b :: rest) pos) (tE X.K W (eOr ea eb)) := PE.imp (pe_orT ha hb) fun σ H Q h => by
  obtain ⟨m, σ', g, rl, sl, hl, p⟩ := h
  refine ⟨m, σ', g, rl, sl, hl, Post.bind p fun d g1 m1 H1 x l1 r1 d1 p1 => ?_⟩
  obtain ⟨k, h1, p2⟩ := tr_case r1 d1 p1
  refine ⟨k, h1, ?_⟩
  cases k with
  | true => exact fin_ok r1 d1 p2
  | false => exact ⟨m1, σ', g1, r1, sl.mono l1, hl, p2⟩
theorem x_one {op} (ha : PE X a (tE X.K W ea)) : PE X (.BoolOp op [a] pos) (tE X.K W ea) := pe_one ha
theorem x_not (ha : PE X a (tE X.K W ea)) : PE X (.UnaryOp .Not a pos) (tE X.K W (eNot ea)) := PE.imp (pe_notT ha) fun σ H Q h => by
  obtain ⟨m, σ', g, rl, sl, hl, p⟩ := h
  refine ⟨m, σ', g, rl, sl, hl, Post.bind p fun d g1 m1 H1 x l1 r1 d1 p1 => ?_⟩
  obtain ⟨k, h1, p2⟩ := tr_case r1 d1 p1
  exact ⟨k, h1, fin_ok r1 .bl p2⟩
def eIf (c : Tv) (a b : Ev) : Ev := fun σ g => (c σ g).bind fun k g1 => match k with
  | true => a σ g1
  | false => b σ g1
theorem x_if {c : Expr} {tc : Tv} (hc : PT X c (tT X.K W tc)) (ha : PE X a (tE X.K W ea)) (hb : PE X b (tE X.K W eb)) : PE X (.IfExp c a b pos) (tE X.K W (eIf tc ea eb)) := PE.imp (pe_ifExp hc ha hb) fun σ H Q h => by
  obtain ⟨m, σ', g, rl, sl, hl, p⟩ := h
  refine ⟨m, σ', g, rl, sl, hl, Post.bind p fun c g1 m1 H1 x l1 r1 d1 p1 => ?_⟩
  cases d1
  cases c with
  | true => exact ⟨m1, σ', g1, r1, sl.mono l1, hl, p1⟩
  | false => exact ⟨m1, σ', g1, r1, sl.mono l1, hl, p1⟩
end
end AW
namespace AW
open PySem PySem.Spec L2
/-! ### == of data -/
mutual
def D.py : D → Option PyData
  | .non => some .none
  | .bl b => some (.bool b)
  | .int i => some (.int i)
  | .str x => some (.str x)
  | .tup xs => match D.pys xs with
    | some ys => some (.tuple ys)
    | none => none
  | .lst xs => match D.pys xs with
    | some ys => some (.list ys)
    | none => none
  | .seq xs => match D.pys xs with
    | some ys => some (.list ys)
    | none => none
  | .dct _ _ => none
  | .dtt _ _ => none
  | .ins _ _ => none
  | .glo _ => none
  | .ref _ => none
  | .val _ => none
def D.pys : List D → Option (List PyData)
  | [] => some []
  | x :: xs => match D.py x, D.pys xs with
    | some y, some ys => some (y :: ys)
    | _, _ => none
end
mutual
theorem py_s {K : PySem.W.Frag} {m : Md} {H : Hp} (ex : ∀ a o, m.F a = some o → H a = some o) : ∀ {d : D} {v : V} {p : PyData}, Den K m d v → D.py d = some p → Dp K H v p
  | .non, _, _, h, e => by cases h; rw [D.py] at e; cases e; exact .non
  | .bl b, _, _, h, e => by cases h; rw [D.py] at e; cases e; exact .bl _
  | .int i, _, _, h, e => by cases h; rw [D.py] at e; cases e; exact .int _
  | .str x, _, _, h, e => by cases h; rw [D.py] at e; cases e; exact .str _
  | .tup xs, _, _, h, e => by
    cases h with
    | tup h1 h2 =>
      rw [D.py] at e
      split at e
      · rename_i ys hy
        cases e
        exact .tup (sqT_le ex h1) (pys_s ex h2 hy)
      · cases e
  | .lst xs, _, _, h, e => by
    cases h with
    | lst h1 h2 =>
      rw [D.py] at e
      split at e
      · rename_i ys hy
        cases e
        exact .lst (SqL.of (ex _ _ h1)) (pys_s ex h2 hy)
      · cases e
  | .seq xs, _, _, h, e => by
    cases h with
    | seq h1 h2 =>
      rw [D.py] at e
      split at e
      · rename_i ys hy
        cases e
        exact .lst (sqL_le ex h1) (pys_s ex h2 hy)
      · cases e
  | .dct _ _, _, _, _, e => by rw [D.py] at e; cases e
  | .dtt _ _, _, _, _, e => by rw [D.py] at e; cases e
  | .ins _ _, _, _, _, e => by rw [D.py] at e; cases e
  | .glo _, _, _, _, e => by rw [D.py] at e; cases e
  | .ref _, _, _, _, e => by rw [D.py] at e; cases e
  | .val _, _, _, _, e => by rw [D.py] at e; cases e
theorem pys_s {K : PySem.W.Frag} {m : Md} {H : Hp} (ex : ∀ a o, m.F a = some o → H a = some o) : ∀ {ds : List D} {vs : List V} {ps : List PyData}, Dens K m ds vs → D.pys ds = some ps → DpAll K H vs ps
  | [], _, _, h, e => by cases h; rw [D.pys] at e; cases e; exact .nil
  | d :: ds, _, _, h, e => by
    cases h with
    | cons h1 h2 =>
      rw [D.pys] at e
      split at e
      · rename_i y ys hy hys
        cases e
        exact .cons (py_s ex h1 hy) (pys_s ex h2 hys)
      · cases e
end
def pyG (g : G) (d : D) : Option PyData := match d with
  | .ref i => match lsOf g (.ref i) with
    | some xs => match D.pys xs with
      | some ys => some (.list ys)
      | none => none
    | none => none
  | d => D.py d
theorem pyG_s {K : PySem.W.Frag} {m : Md} {g : G} {H : Hp} {d : D} {v : V} {p : PyData} (r : Rel K m g H) (h : Den K m d v) (e : pyG g d = some p) : Dp K H v p := by
  unfold pyG at e
  split at e
  · split at e
    · rename_i xs hx
      split at e
      · rename_i ys hy
        cases e
        obtain ⟨a, vs, rfl, h1, h2⟩ := lsOf_s r h hx
        exact .lst (SqL.of h1) (pys_s r.ex h2 hy)
      · cases e
    · cases e
  · exact py_s r.ex h e
/-- lists of different lengths -/
def lenNe (g : G) (x y : D) : Option Bool := match lsOf g x, lsOf g y with
  | some xs, some ys => if xs.length = ys.length then none else some false
  | _, _ => none
def eqD (g : G) (x y : D) : Option Bool := match x, y with
  | .int i, .int j => some (decide (i = j))
  | .bl i, .bl j => some (decide (i = j))
  | .str i, .str j => some (decide (i = j))
  | .non, .non => some true
  | x, y => match pyG g x, pyG g y with
    | some p, some q => if (SeqAt.shaped p && SeqAt.shaped q) = true then some (PyData.eqv p q) else lenNe g x y
    | _, _ => lenNe g x y
def oEq : Op2 := fun x y g => match eqD g x y with
  | some b => .ok (.bl b) g
  | none => .no
def oNe : Op2 := fun x y g => match eqD g x y with
  | some b => .ok (.bl (!b)) g
  | none => .no
def rLen (r : Bool) : R2 := fun x y H Q => ∃ a b xs ys, x = .ref a ∧ y = .ref b ∧ H a = some (.lst xs) ∧ H b = some (.lst ys) ∧ xs.length ≠ ys.length ∧ Q (.bl r) H
theorem lst_is {X : Cx} {pins : List (Addr × Obj)} {σ : L2.St} {H : Hp} {s : Shared} {a : Addr} {xs : List V} (I : Inv X pins σ H s) (h : H a = some (.lst xs)) : ∃ its : Array Value, s.heap.IsList a its ∧ its.size = xs.length := by
  obtain ⟨_, its, n, hv, e⟩ := (show ObjOk X.prog X.w H s.heap a (.lst xs) from I.hok a _ h)
  exact ⟨its.toArray, ⟨_, e, rfl, n, rfl⟩, by rw [List.size_toArray, ← hv.length]⟩
theorem op_eqLen {X : Cx} (hu : X.A.units + 64 < cLine) : OpR X (compareOp .Eq) (rLen false) := by
  intro pins s σ H x y v u Q I rx ry h
  obtain ⟨a, b, xs, ys, rfl, rfl, h1, h2, h3, q⟩ := h
  cases (show v = Value.ref a from rx)
  cases (show u = Value.ref b from ry)
  obtain ⟨is, i1, i2⟩ := lst_is I h1
  obtain ⟨js, j1, j2⟩ := lst_is I h2
  exact SeqAt.RcAt.lists_lengths i1 j1 (by rw [i2, j2]; simpa using h3) (by omega) _ _ _ _ ⟨.bl false, H, I, rfl, q⟩
theorem op_neLen {X : Cx} (hu : X.A.units + 64 < cLine) : OpR X (compareOp .NotEq) (rLen true) := by
  intro pins s σ H x y v u Q I rx ry h
  obtain ⟨a, b, xs, ys, rfl, rfl, h1, h2, h3, q⟩ := h
  cases (show v = Value.ref a from rx)
  cases (show u = Value.ref b from ry)
  obtain ⟨is, i1, i2⟩ := lst_is I h1
  obtain ⟨js, j1, j2⟩ := lst_is I h2
  exact SeqAt.RcNeAt.lists_lengths i1 j1 (by rw [i2, j2]; simpa using h3) (by omega) _ _ _ _ ⟨.bl true, H, I, rfl, q⟩
def rEq1 (K : PySem.W.Frag) : R2 := fun x y H Q => rEq x y H Q ∨ (rEqD K x y H Q ∨ rLen false x y H Q)
def rNe1 (K : PySem.W.Frag) : R2 := fun x y H Q => rNe x y H Q ∨ (rNeD K x y H Q ∨ rLen true x y H Q)
theorem lenNe_s {K : PySem.W.Frag} {m : Md} {g : G} {H : Hp} {d e : D} {x y : V} {b : Bool} (rl : Rel K m g H) (hd : Den K m d x) (he : Den K m e y) (h : lenNe g d e = some b) :
    b = false ∧ ∃ a b xs ys, x = .ref a ∧ y = .ref b ∧ H a = some (.lst xs) ∧ H b = some (.lst ys) ∧ xs.length ≠ ys.length := by
  unfold lenNe at h
  split at h
  · rename_i xs ys h1 h2
    split at h
    · cases h
    · rename_i hn
      cases h
      obtain ⟨a, vs, rfl, ha, da⟩ := lsOf_s rl hd h1
      obtain ⟨b, ws, rfl, hb, db⟩ := lsOf_s rl he h2
      exact ⟨rfl, a, b, vs, ws, rfl, rfl, ha, hb, by rw [← da.length, ← db.length]; exact hn⟩
  · cases h
theorem dec_int' {i j : Int} : decide (V.int i = V.int j) = decide (i = j) := by rw [dec_int]; rfl
theorem dec_bl' {i j : Bool} : decide (V.bl i = V.bl j) = decide (i = j) := by rw [dec_bl]; cases i <;> cases j <;> rfl
theorem dec_str' {i j : Str} : decide (V.str i = V.str j) = decide (i = j) := by rw [Bool.eq_iff_iff]; simp
theorem eqD_s {K : PySem.W.Frag} {m : Md} {g : G} {H : Hp} {d e : D} {x y : V} {b : Bool} (rl : Rel K m g H) (hd : Den K m d x) (he : Den K m e y) (h : eqD g d e = some b) :
    (scal x y = true ∧ decide (x = y) = b) ∨ (∃ p q, Dp K H x p ∧ Dp K H y q ∧ SeqAt.shaped p = true ∧ SeqAt.shaped q = true ∧ PyData.eqv p q = b) ∨ (b = false ∧ ∃ a b xs ys, x = .ref a ∧ y = .ref b ∧ H a = some (.lst xs) ∧ H b = some (.lst ys) ∧ xs.length ≠ ys.length) := by
  unfold eqD at h
  split at h
  · cases hd; cases he; cases h; exact .inl ⟨rfl, dec_int'⟩
  · cases hd; cases he; cases h; exact .inl ⟨rfl, dec_bl'⟩
  · cases hd; cases he; cases h; exact .inl ⟨rfl, dec_str'⟩
  · cases hd; cases he; cases h; exact .inl ⟨rfl, rfl⟩
  · split at h
    · rename_i p q hp hq
      split at h
      · rename_i hs
        cases h
        rw [Bool.and_eq_true] at hs
        exact .inr (.inl ⟨p, q, pyG_s rl hd hp, pyG_s rl he hq, hs.1, hs.2, rfl⟩)
      · exact .inr (.inr (lenNe_s rl hd he h))
    · exact .inr (.inr (lenNe_s rl hd he h))
theorem oEq_s {K : PySem.W.Frag} {W : WX} : OpS K W (rEq1 K) oEq := fun σv m g H d e x y Q rl hd he p => by
  unfold oEq at p
  split at p
  · rename_i b hb
    rcases eqD_s rl hd he hb with ⟨h1, h2⟩ | ⟨a, b', h1, h2, h3, h4, h5⟩ | ⟨rfl, a, b', xs, ys, h1, h2, h3, h4, h5⟩
    · refine .inl ⟨h1, ?_⟩
      rw [h2]
      exact fin_ok rl .bl p
    · refine .inr (.inl ⟨a, b', h1, h2, h3, h4, ?_⟩)
      rw [h5]
      exact fin_ok rl .bl p
    · exact .inr (.inr ⟨a, b', xs, ys, h1, h2, h3, h4, h5, fin_ok rl .bl p⟩)
  · exact p.elim
theorem oNe_s {K : PySem.W.Frag} {W : WX} : OpS K W (rNe1 K) oNe := fun σv m g H d e x y Q rl hd he p => by
  unfold oNe at p
  split at p
  · rename_i b hb
    rcases eqD_s rl hd he hb with ⟨h1, h2⟩ | ⟨a, b', h1, h2, h3, h4, h5⟩ | ⟨rfl, a, b', xs, ys, h1, h2, h3, h4, h5⟩
    · refine .inl ⟨h1, ?_⟩
      rw [h2]
      exact fin_ok rl .bl p
    · refine .inr (.inl ⟨a, b', h1, h2, h3, h4, ?_⟩)
      rw [h5]
      exact fin_ok rl .bl p
    · exact .inr (.inr ⟨a, b', xs, ys, h1, h2, h3, h4, h5, fin_ok rl .bl p⟩)
  · exact p.elim
section
variable {X : Cx} {W : WX} {a b c : Expr} {ea eb ec : Ev} {pos : Pos}
theorem op_eq1 (hu : X.A.units + 64 < cLine) : OpR X (compareOp .Eq) (rEq1 X.K) := opR_or op_eq (opR_or (op_eqD hu) (op_eqLen hu))
theorem op_ne1 (hu : X.A.units + 64 < cLine) : OpR X (compareOp .NotEq) (rNe1 X.K) := opR_or op_ne (opR_or (op_neD hu) (op_neLen hu))
theorem x_cmp {op : CmpOp} {r : R2} {f : Op2} (ho : OpR X (compareOp op) r) (hs : OpS X.K W r f) (ha : PE X a (tE X.K W ea)) (hb : PE X b (tE X.K W eb)) (hm : behindInMarks op b = false) : PE X (.Compare a [op] [b] pos) (tE X.K W (eOp f ea eb)) :=
  PE.imp (pe_cmpR ho ha hb hm) fun _ _ _ h => tOp_of hs h
theorem x_eq (hu : X.A.units + 64 < cLine) (ha : PE X a (tE X.K W ea)) (hb : PE X b (tE X.K W eb)) : PE X (.Compare a [.Eq] [b] pos) (tE X.K W (eOp oEq ea eb)) := x_cmp (op_eq1 hu) oEq_s ha hb (nomark _)
theorem x_ne (hu : X.A.units + 64 < cLine) (ha : PE X a (tE X.K W ea)) (hb : PE X b (tE X.K W eb)) : PE X (.Compare a [.NotEq] [b] pos) (tE X.K W (eOp oNe ea eb)) := x_cmp (op_ne1 hu) oNe_s ha hb (nomark _)
abbrev oLt : Op2 := oB0 fun i j => decide (i < j)
abbrev oLe : Op2 := oB0 fun i j => decide (i ≤ j)
abbrev oGt : Op2 := oB0 fun i j => decide (j < i)
abbrev oGe : Op2 := oB0 fun i j => decide (j ≤ i)
theorem x_lt (ha : PE X a (tE X.K W ea)) (hb : PE X b (tE X.K W eb)) : PE X (.Compare a [.Lt] [b] pos) (tE X.K W (eOp oLt ea eb)) := x_cmp op_lt oB0_s ha hb (nomark _)
theorem x_le (ha : PE X a (tE X.K W ea)) (hb : PE X b (tE X.K W eb)) : PE X (.Compare a [.LtE] [b] pos) (tE X.K W (eOp oLe ea eb)) := x_cmp op_le oB0_s ha hb (nomark _)
theorem x_gt (ha : PE X a (tE X.K W ea)) (hb : PE X b (tE X.K W eb)) : PE X (.Compare a [.Gt] [b] pos) (tE X.K W (eOp oGt ea eb)) := x_cmp op_gt oB0_s ha hb (nomark _)
theorem x_ge (ha : PE X a (tE X.K W ea)) (hb : PE X b (tE X.K W eb)) : PE X (.Compare a [.GtE] [b] pos) (tE X.K W (eOp oGe ea eb)) := x_cmp op_ge oB0_s ha hb (nomark _)
/-- a chain of two -/
def eChain (f f' : Op2) (a b c : Ev) : Ev := fun σ g => (a σ g).bind fun x g1 => (b σ g1).bind fun y g2 => (f x y g2).bind fun z g3 => match z with
  | .bl true => (c σ g3).bind fun w g4 => f' y w g4
  | .bl false => .ok (.bl false) g3
  | _ => .no
theorem x_chain {op op' : CmpOp} {r r' : R2} {f f' : Op2} (ho : OpR X (compareOp op) r) (ho' : OpR X (compareOp op') r') (hs : ∀ σv m g H d e x y Q, Rel X.K m g H → Den X.K m d x → Den X.K m e y → Post X.K W σv (Den X.K) (f d e g) m Q → r x y H Q) (hs' : OpS X.K W r' f')
    (ha : PE X a (tE X.K W ea)) (hb : PE X b (tE X.K W eb)) (hc : PE X c (tE X.K W ec)) (hm : lastMarks [op, op'] [b, c] = false := by with_unfolding_all rfl) : PE X (.Compare a [op, op'] [b, c] pos) (tE X.K W (eChain f f' ea eb ec)) :=
  PE.imp (pe_chain ho ho' ha hb hc hm) fun σ H Q h => by
    obtain ⟨m, σ', g, rl, sl, hl, p⟩ := h
    refine ⟨m, σ', g, rl, sl, hl, Post.bind p fun d g1 m1 H1 x l1 r1 d1 p1 => ?_⟩
    refine ⟨m1, σ', g1, r1, sl.mono l1, hl, Post.bind p1 fun e g2 m2 H2 y l2 r2 d2 p2 => ?_⟩
    refine hs σ m2 g2 H2 d e x y _ r2 (d1.mono l2) d2 (Post.bind p2 fun z g3 m3 H3 zv l3 r3 d3 p3 => ?_)
    split at p3
    · cases d3
      refine ⟨true, rfl, ?_⟩
      rw [if_pos rfl]
      refine ⟨m3, σ', g3, r3, ((sl.mono l1).mono l2).mono l3, hl, Post.bind p3 fun w' g4 m4 H4 wv l4 r4 d4 p4 => ?_⟩
      exact hs' σ m4 g4 H4 e w' y wv Q r4 ((d2.mono l3).mono l4) d4 p4
    · cases d3
      refine ⟨false, rfl, ?_⟩
      rw [if_neg Bool.false_ne_true]
      exact fin_ok r3 .bl p3
    · exact p3.elim
end
/-! ### in -/
def flatD : D → Bool
  | .non => true
  | .bl _ => true
  | .int _ => true
  | .str _ => true
  | _ => false
def eqF : D → D → Bool
  | .non, .non => true
  | .bl a, .bl b => a == b
  | .bl a, .int b => (if a then 1 else 0) == b
  | .int a, .bl b => a == (if b then 1 else 0)
  | .int a, .int b => a == b
  | .str a, .str b => a == b
  | _, _ => false
theorem flat_s {K : PySem.W.Frag} {m : Md} {d : D} {v : V} (h : Den K m d v) (f : flatD d = true) : flatV v = true := by
  cases h <;> first | rfl | exact absurd f Bool.false_ne_true
theorem flats_s {K : PySem.W.Frag} {m : Md} : ∀ {ds : List D} {vs : List V}, Dens K m ds vs → ds.all flatD = true → vs.all flatV = true
  | _, _, .nil, _ => rfl
  | _, _, .cons a t, f => by
    rw [List.all_cons, Bool.and_eq_true] at f ⊢
    exact ⟨flat_s a f.1, flats_s t f.2⟩
theorem eqF_s {K : PySem.W.Frag} {m : Md} {d e : D} {v u : V} (h : Den K m d v) (h' : Den K m e u) (f : flatD d = true) (f' : flatD e = true) : eqV v u = eqF d e := by
  cases h <;> cases h' <;> first | rfl | exact absurd f Bool.false_ne_true | exact absurd f' Bool.false_ne_true
def inF (x : D) (ys : List D) : Bool := ys.any fun y => eqF y x
theorem inF_s {K : PySem.W.Frag} {m : Md} {d : D} {v : V} (h : Den K m d v) (f : flatD d = true) : ∀ {ds : List D} {vs : List V}, Dens K m ds vs → ds.all flatD = true → inV v vs = inF d ds
  | _, _, .nil, _ => rfl
  | _, _, .cons a t, f' => by
    rw [List.all_cons, Bool.and_eq_true] at f'
    have := inF_s h f t f'.2
    unfold inV inF at this ⊢
    rw [List.any_cons, List.any_cons, this, eqF_s a h f'.1 f]
def inDeep (g : G) (x y : D) : Option Bool := match pyG g x, pyG g y with
  | some p, some (.list qs) => if (SeqAt.shaped p && SeqAt.shaped (.list qs)) = true then some (qs.any fun z => PyData.eqv z p) else none
  | some p, some (.tuple qs) => if (SeqAt.shaped p && SeqAt.shaped (.tuple qs)) = true then some (qs.any fun z => PyData.eqv z p) else none
  | _, _ => none
def inD (g : G) (x y : D) : Option (Bool × Bool) := match y with
  | .str j => match x with
    | .str i => some (true, !(Builtin.Str.occurrences j i 0 j.length 1).isEmpty)
    | _ => none
  | y => match sqOf g y with
    | some ys => if (flatD x && ys.all flatD) = true then some (false, inF x ys) else match inDeep g x y with
      | some b => some (false, b)
      | none => none
    | none => none
def oIn (neg : Bool) : Op2 := fun x y g => match inD g x y with
  | some b => .ok (.bl (if neg = true then !b.2 else b.2)) g
  | none => .no
def rInTD (K : PySem.W.Frag) (neg : Bool) : R2 := fun x y H Q => ∃ d ds, Dp K H x d ∧ Dp K H y (.tuple ds) ∧ SeqAt.shaped d = true ∧ SeqAt.shaped (.tuple ds) = true ∧ Q (.bl (if neg = true then !ds.any fun z => PyData.eqv z d else ds.any fun z => PyData.eqv z d)) H
theorem op_inTD {X : Cx} (hu : X.A.units + 65 < cLine) : OpR X (compareOp .In) (rInTD X.K false) := by
  intro pins s σ H x y v u Q I rx ry h
  obtain ⟨d, ds, hd, he, sd, se, q⟩ := h
  obtain ⟨as, r1⟩ := Dp.reads I d x v hd rx
  obtain ⟨bs, r2⟩ := Dp.reads I (.tuple ds) y u he ry
  exact SeqAt.in_tuple_reads r2 r1 (SeqAt.canLay_of_shaped se) (SeqAt.canLay_of_shaped sd) (PyProof.Rows.room_in_shaped sd hu) ⟨.bl _, H, I, rfl, q⟩
theorem op_ninTD {X : Cx} (hu : X.A.units + 65 < cLine) : OpR X (compareOp .NotIn) (rInTD X.K true) := by
  intro pins s σ H x y v u Q I rx ry h
  obtain ⟨d, ds, hd, he, sd, se, q⟩ := h
  obtain ⟨as, r1⟩ := Dp.reads I d x v hd rx
  obtain ⟨bs, r2⟩ := Dp.reads I (.tuple ds) y u he ry
  exact SeqAt.notIn_tuple_reads r2 r1 (SeqAt.canLay_of_shaped se) (SeqAt.canLay_of_shaped sd) (PyProof.Rows.room_in_shaped sd hu) ⟨.bl _, H, I, rfl, q⟩
def rIn0 (K : PySem.W.Frag) (neg : Bool) : R2 := fun x y H Q => ((∃ i j, x = .str i ∧ y = .str j ∧ Q (.bl (if neg = true then !(!(Builtin.Str.occurrences j i 0 j.length 1).isEmpty) else (!(Builtin.Str.occurrences j i 0 j.length 1).isEmpty))) H) ∨ rIn K neg x y H Q) ∨
  (∃ d ds, Dp K H x d ∧ Dp K H y (.list ds) ∧ SeqAt.shaped d = true ∧ SeqAt.shaped (.list ds) = true ∧ Q (.bl (if neg = true then !ds.any fun z => PyData.eqv z d else ds.any fun z => PyData.eqv z d)) H)
theorem op_in0 {X : Cx} (hu : X.A.units + 65 < cLine) : OpR X (compareOp .In) (rIn0 X.K false) := opR_or (opR_or op_in_str op_in_seq) (op_inD hu)
theorem op_nin0 {X : Cx} (hu : X.A.units + 65 < cLine) : OpR X (compareOp .NotIn) (rIn0 X.K true) := opR_or (opR_or op_notin_str op_notIn_seq) (op_notInD hu)
def rIn1 (K : PySem.W.Frag) (neg : Bool) : R2 := fun x y H Q => rIn0 K neg x y H Q ∨ rInTD K neg x y H Q
theorem op_in1 {X : Cx} (hu : X.A.units + 65 < cLine) : OpR X (compareOp .In) (rIn1 X.K false) := opR_or (op_in0 hu) (op_inTD hu)
theorem op_nin1 {X : Cx} (hu : X.A.units + 65 < cLine) : OpR X (compareOp .NotIn) (rIn1 X.K true) := opR_or (op_nin0 hu) (op_ninTD hu)
theorem oIn_s {K : PySem.W.Frag} {W : WX} {neg : Bool} : OpS K W (rIn1 K neg) (oIn neg) := fun σv m g H d e x y Q rl hd he p => by
  unfold oIn at p
  split at p
  · rename_i b hb
    unfold inD at hb
    split at hb
    · split at hb
      · cases hb
        cases hd; cases he
        exact .inl (.inl (.inl ⟨_, _, rfl, rfl, fin_ok rl .bl p⟩))
      · cases hb
    · split at hb
      · rename_i ys hy
        split at hb
        · rename_i hf
          cases hb
          rw [Bool.and_eq_true] at hf
          obtain ⟨a, vs, rfl, h1, h2⟩ := sqOf_s rl he hy
          refine .inl (.inl (.inr ⟨a, vs, rfl, h1, flat_s hd hf.1, flats_s h2 hf.2, ?_⟩))
          rw [inF_s hd hf.1 h2 hf.2]
          exact fin_ok rl .bl p
        · split at hb
          · rename_i c hc
            cases hb
            unfold inDeep at hc
            split at hc
            · rename_i p' qs hp hq
              split at hc
              · rename_i hs
                cases hc
                rw [Bool.and_eq_true] at hs
                exact .inl (.inr ⟨p', qs, pyG_s rl hd hp, pyG_s rl he hq, hs.1, hs.2, fin_ok rl .bl p⟩)
              · cases hc
            · rename_i p' qs hp hq
              split at hc
              · rename_i hs
                cases hc
                rw [Bool.and_eq_true] at hs
                exact .inr ⟨p', qs, pyG_s rl hd hp, pyG_s rl he hq, hs.1, hs.2, fin_ok rl .bl p⟩
              · cases hc
            · cases hc
          · cases hb
      · cases hb
  · exact p.elim
section
variable {X : Cx} {W : WX} {a b c : Expr} {ea eb ec : Ev} {pos : Pos}
theorem x_in (hu : X.A.units + 65 < cLine) (ha : PE X a (tE X.K W ea)) (hb : PE X b (tE X.K W eb)) (hm : behindInMarks .In b = false := by with_unfolding_all rfl) : PE X (.Compare a [.In] [b] pos) (tE X.K W (eOp (oIn false) ea eb)) := x_cmp (op_in1 hu) oIn_s ha hb hm
theorem x_nin (hu : X.A.units + 65 < cLine) (ha : PE X a (tE X.K W ea)) (hb : PE X b (tE X.K W eb)) (hm : behindInMarks .NotIn b = false := by with_unfolding_all rfl) : PE X (.Compare a [.NotIn] [b] pos) (tE X.K W (eOp (oIn true) ea eb)) := x_cmp (op_nin1 hu) oIn_s ha hb hm
/-- is None -/
def isNon : D → Option Bool
  | .non => some true
  | .val _ => none
  | _ => some false
def oIs (neg : Bool) : Op2 := fun x y g => match y with
  | .non => match isNon x with
    | some b => .ok (.bl (if neg = true then !b else b)) g
    | none => .no
  | _ => .no
theorem isNon_s {K : PySem.W.Frag} {m : Md} {d : D} {v : V} {b : Bool} (h : Den K m d v) (e : isNon d = some b) : decide (v = .non) = b := by
  cases h <;> cases e <;> first | rfl | (exact decide_eq_false (fun z => nomatch z))
theorem oIs_s {K : PySem.W.Frag} {W : WX} : OpS K W (fun x y H Q => y = .non ∧ Q (.bl (decide (x = .non))) H) (oIs false) := fun σv m g H d e x y Q rl hd he p => by
  unfold oIs at p
  split at p
  · split at p
    · rename_i b hb
      cases he
      refine ⟨rfl, ?_⟩
      rw [isNon_s hd hb]
      exact fin_ok rl .bl p
    · exact p.elim
  · exact p.elim
theorem oIsn_s {K : PySem.W.Frag} {W : WX} : OpS K W (fun x y H Q => y = .non ∧ Q (.bl (!decide (x = .non))) H) (oIs true) := fun σv m g H d e x y Q rl hd he p => by
  unfold oIs at p
  split at p
  · split at p
    · rename_i b hb
      cases he
      refine ⟨rfl, ?_⟩
      rw [isNon_s hd hb]
      exact fin_ok rl .bl p
    · exact p.elim
  · exact p.elim
theorem x_is (ha : PE X a (tE X.K W ea)) (hb : PE X b (tE X.K W eb)) : PE X (.Compare a [.Is] [b] pos) (tE X.K W (eOp (oIs false) ea eb)) := x_cmp op_isN oIs_s ha hb (nomark _)
theorem x_isn (ha : PE X a (tE X.K W ea)) (hb : PE X b (tE X.K W eb)) : PE X (.Compare a [.IsNot] [b] pos) (tE X.K W (eOp (oIs true) ea eb)) := x_cmp op_notN oIsn_s ha hb (nomark _)
end
/-! ### argument lists, displays -/
def aNil : Av := fun _ g => .ok [] g
def aCons (a : Ev) (r : Av) : Av := fun σ g => (a σ g).bind fun x g1 => (r σ g1).bind fun xs g2 => .ok (x :: xs) g2
def eTup (t : Av) : Ev := fun σ g => (t σ g).bind fun xs g1 => okIf (small xs) (.tup xs) g1
def eLst (t : Av) : Ev := fun σ g => (t σ g).bind fun xs g1 => okIf (small xs) (.lst xs) g1
/-- a list that will change -/
def eLstM (t : Av) : Ev := fun σ g => (t σ g).bind fun xs g1 => okIf (small xs) (.ref g1.length) (g1 ++ [.lst xs])
def Md.cell (m : Md) (n : Nat) (p : Addr) : Md := ⟨m.F, fun i => if i = n then some p else m.r i, m.hid⟩
theorem Rel.fresh {K : PySem.W.Frag} {m : Md} {g : G} {H : Hp} (r : Rel K m g H) : m.r g.length = none := by
  cases q : m.r g.length with
  | none => rfl
  | some a => exact absurd (r.dom _ _ q) (Nat.lt_irrefl _)
theorem le_cell {m : Md} {n : Nat} {p : Addr} (h : m.r n = none) : Le m (m.cell n p) := ⟨fun _ _ h => h, fun i a e => by
  show (if i = n then some p else m.r i) = some a
  rw [if_neg (fun z => by rw [z, h] at e; cases e)]
  exact e, fun _ _ h => h⟩
theorem Rel.cellAdd {K : PySem.W.Frag} {m : Md} {g : G} {H : Hp} (r : Rel K m g H) {p : Addr} {c : Cell} {o : HO} (h : H p = none) (ok : CellOk K m p c o) : Rel K (m.cell g.length p) (g ++ [c]) (upd H p o) where
  ex := fun a u e => by
    have e' : m.F a = some u := e
    rw [upd_ne (ne_of_none (r.ex a u e') h)]
    exact r.ex a u e'
  cell := fun i d hd => by
    by_cases hi : i < g.length
    · rw [List.getElem?_append_left hi] at hd
      obtain ⟨a, h1, h2, u, h3, h4⟩ := r.cell i d hd
      refine ⟨a, ?_, h2, u, by rw [upd_ne (ne_of_none h3 h)]; exact h3, h4.mono (le_cell r.fresh)⟩
      show (if i = g.length then some p else m.r i) = some a
      rw [if_neg (by omega)]
      exact h1
    · have hlt : i < (g ++ [c]).length := (List.getElem?_eq_some_iff.mp hd).1
      have hi2 : i = g.length := by rw [List.length_append] at hlt; simp at hlt; omega
      subst hi2
      rw [List.getElem?_append_right (Nat.le_refl _)] at hd
      simp at hd
      subst hd
      refine ⟨p, ?_, r.free h, o, upd_same, ok.mono (le_cell r.fresh)⟩
      show (if g.length = g.length then some p else m.r g.length) = some p
      rw [if_pos rfl]
  dom := fun i a e => by
    have e' : (if i = g.length then some p else m.r i) = some a := e
    rw [List.length_append]
    by_cases hi : i = g.length
    · simp [hi]
    · rw [if_neg hi] at e'
      have := r.dom i a e'
      simp
      omega
  inj := fun i j a e1 e2 => by
    have e1' : (if i = g.length then some p else m.r i) = some a := e1
    have e2' : (if j = g.length then some p else m.r j) = some a := e2
    have old : ∀ k, m.r k = some p → False := fun k hk => by
      have hk1 := r.dom k p hk
      obtain ⟨a', h1, _, o', h3, _⟩ := r.cell k g[k] (by simp [hk1])
      rw [hk] at h1
      cases h1
      rw [h] at h3
      cases h3
    by_cases hi : i = g.length
    · rw [if_pos hi] at e1'
      cases e1'
      by_cases hj : j = g.length
      · omega
      · rw [if_neg hj] at e2'
        exact (old j e2').elim
    · rw [if_neg hi] at e1'
      by_cases hj : j = g.length
      · rw [if_pos hj] at e2'
        cases e2'
        exact (old i e1').elim
      · rw [if_neg hj] at e2'
        exact r.inj i j a e1' e2'
  hid := fun a u e => by
    obtain ⟨h1, h2, h3⟩ := r.hid a u e
    have ha : a ≠ p := ne_of_none h1 h
    refine ⟨by rw [upd_ne ha]; exact h1, h2, fun i e2 => ?_⟩
    have e2' : (if i = g.length then some p else m.r i) = some a := e2
    by_cases hi : i = g.length
    · rw [if_pos hi] at e2'
      exact ha (Option.some.inj e2').symm
    · rw [if_neg hi] at e2'
      exact h3 i e2'
theorem den_cell {K : PySem.W.Frag} {m : Md} {n : Nat} {p : Addr} : Den K (m.cell n p) (.ref n) (.ref p) := .ref (by show (if n = n then some p else m.r n) = some p; rw [if_pos rfl])
section
variable {X : Cx} {W : WX} {e : Expr} {es : List Expr} {ee : Ev} {t : Av} {pos : Pos}
theorem a_nil : PA X [] (tA X.K W aNil) := PA.imp pa_nil fun σ H Q h => by
  obtain ⟨m, σ', g, rl, sl, hl, p⟩ := h
  exact fin_ok rl .nil p
theorem a_cons (ha : PE X e (tE X.K W ee)) (hr : PA X es (tA X.K W t)) (hs : starEach (e :: es) X.env = (false, eval e X.env) :: starEach es X.env := by rfl) : PA X (e :: es) (tA X.K W (aCons ee t)) := PA.imp (pa_cons ha hr hs) fun σ H Q h => by
  obtain ⟨m, σ', g, rl, sl, hl, p⟩ := h
  refine ⟨m, σ', g, rl, sl, hl, Post.bind p fun d g1 m1 H1 x l1 r1 d1 p1 => ?_⟩
  refine ⟨m1, σ', g1, r1, sl.mono l1, hl, Post.bind p1 fun ds g2 m2 H2 xs l2 r2 d2 p2 => ?_⟩
  exact fin_ok r2 (.cons (d1.mono l2) d2) p2
theorem x_tup {x1} (h : PA X es (tA X.K W t)) : PE X (.Tuple es x1 pos) (tE X.K W (eTup t)) := PE.imp (pe_tup h) fun σ H Q h => by
  obtain ⟨m, σ', g, rl, sl, hl, p⟩ := h
  refine ⟨m, σ', g, rl, sl, hl, Post.bind p fun ds g1 m1 H1 xs l1 r1 d1 p1 => ?_⟩
  obtain ⟨c, p1⟩ := okIf_post p1
  exact ⟨small_line c d1, fin_tup r1 d1 p1⟩
theorem x_lst (h : PA X es (tA X.K W t)) : PE X (.List es pos) (tE X.K W (eLst t)) := PE.imp (pe_lst h) fun σ H Q h => by
  obtain ⟨m, σ', g, rl, sl, hl, p⟩ := h
  refine ⟨m, σ', g, rl, sl, hl, Post.bind p fun ds g1 m1 H1 xs l1 r1 d1 p1 => ?_⟩
  obtain ⟨c, p1⟩ := okIf_post p1
  exact ⟨small_line c d1, fin_lst r1 d1 p1⟩
theorem x_lstM (h : PA X es (tA X.K W t)) : PE X (.List es pos) (tE X.K W (eLstM t)) := PE.imp (pe_lst h) fun σ H Q h => by
  obtain ⟨m, σ', g, rl, sl, hl, p⟩ := h
  refine ⟨m, σ', g, rl, sl, hl, Post.bind p fun ds g1 m1 H1 xs l1 r1 d1 p1 => ?_⟩
  obtain ⟨c, p1⟩ := okIf_post p1
  exact ⟨small_line c d1, fun a ha => p1 _ _ _ (le_cell r1.fresh) (r1.cellAdd ha ⟨xs, rfl, d1⟩) den_cell⟩
end
/-! ### subscripts -/
def strAt (z : Str) (i : Int) (g : G) : Res D := if z.length ≤ 100000 then match atI z.cps.toList i with
  | some c => .ok (.str ⟨#[c]⟩) g
  | none => .no else .no
def oIx : Op2 := fun x y g => match y with
  | .int i => match x with
    | .str z => strAt z i g
    | x => match sqOf g x with
      | some xs => match atI xs i with
        | some d => .ok d g
        | none => .no
      | none => .no
  | _ => .no
theorem atI_s {K : PySem.W.Frag} {m : Md} {xs : List D} {vs : List V} {i : Int} {d : D} (h : Dens K m xs vs) (e : atI xs i = some d) : ∃ v, atI vs i = some v ∧ Den K m d v := by
  unfold atI at e ⊢
  rw [← h.length]
  cases hx : ixN xs.length i with
  | none => rw [hx] at e; cases e
  | some j =>
    rw [hx] at e
    have e' : xs[j]? = some d := e
    obtain ⟨v, h1, h2⟩ := h.get e'
    exact ⟨v, h1, h2⟩
theorem oIx_s {K : PySem.W.Frag} {W : WX} : OpS K W (rIx K) oIx := fun σv m g H d e x y Q rl hd he p => by
  unfold oIx at p
  split at p
  · split at p
    · cases hd; cases he
      unfold strAt at p
      split at p
      · rename_i hz
        split at p
        · rename_i c hc
          exact .inr (.inr ⟨_, _, c, rfl, rfl, line5 hz, hc, fin_ok rl .str p⟩)
        · exact p.elim
      · exact p.elim
    · split at p
      · rename_i xs hx
        split at p
        · rename_i z hz
          cases he
          obtain ⟨a, vs, rfl, h1, h2⟩ := sqOf_s rl hd hx
          obtain ⟨v, h3, h4⟩ := atI_s h2 hz
          rcases h1 with h1 | h1
          · exact .inl ⟨a, vs, _, v, rfl, rfl, h1, h3, fin_ok rl h4 p⟩
          · exact .inr (.inl ⟨a, vs, _, v, rfl, rfl, h1, h3, fin_ok rl h4 p⟩)
        · exact p.elim
      · exact p.elim
  · exact p.elim
section
variable {X : Cx} {W : WX} {a b : Expr} {ea eb : Ev} {pos : Pos}
theorem x_ix (ha : PE X a (tE X.K W ea)) (hb : PE X b (tE X.K W eb)) (hs : PlainIx b := by exact fun _ _ => rfl) : PE X (.Subscript a b pos) (tE X.K W (eOp oIx ea eb)) := PE.imp (pe_ix ix_seq ha hb hs) fun _ _ _ h => tOp_of oIx_s h
end
/-! ### slices -/
abbrev Ov := Sg → G → Res (Option Int)
def tO (K : PySem.W.Frag) (W : WX) (ev : Ov) : TO := fun σv H Q => ∃ m σ g, Rel K m g H ∧ Slots K m σ σv ∧ σ.length ≤ σv.length ∧ Post K W σv (fun _ a b => a = b) (ev σ g) m Q
def oNo : Ov := fun _ g => .ok none g
def oPart (a : Ev) : Ov := fun σ g => (a σ g).bind fun d g1 => match d with
  | .int i => .ok (some i) g1
  | _ => .no
def cutD (xs : List D) (lo hi : Option Int) : List D := (xs.drop (HT.sIx xs.length 0 lo)).take (HT.sIx xs.length xs.length hi - HT.sIx xs.length 0 lo)
theorem cut_s {K : PySem.W.Frag} {m : Md} {xs : List D} {vs : List V} {lo hi : Option Int} (h : Dens K m xs vs) : Dens K m (cutD xs lo hi) (cutV vs lo hi) := by
  unfold cutD cutV
  rw [h.length]
  exact (h.drop _).take _
def slD (g : G) (x : D) (lo hi : Option Int) : Res D := match x with
  | .tup xs => .ok (.tup (cutD xs lo hi)) g
  | .str z => if z.length ≤ 100000 then .ok (.str (cutS z lo hi)) g else .no
  | x => match lqOf g x with
    | some xs => .ok (.lst (cutD xs lo hi)) g
    | none => .no
def eSl (a : Ev) (lo hi : Ov) : Ev := fun σ g => (a σ g).bind fun x g1 => (lo σ g1).bind fun l g2 => (hi σ g2).bind fun h g3 => slD g3 x l h
def rSl1 (K : PySem.W.Frag) : V → Option Int → Option Int → Hp → VK → Prop := fun x lo hi H Q => rSlL K x lo hi H Q ∨ (rSlA K x lo hi H Q ∨ rSlS x lo hi H Q)
theorem slD_s {K : PySem.W.Frag} {W : WX} {σv : L2.St} {m : Md} {g : G} {H : Hp} {d : D} {x : V} {lo hi : Option Int} {Q : VK} (rl : Rel K m g H) (hd : Den K m d x) (p : Post K W σv (Den K) (slD g d lo hi) m Q) : rSl1 K x lo hi H Q := by
  unfold slD at p
  split at p
  · cases hd with
    | tup h1 h2 =>
      refine .inr (.inl ⟨_, _, rfl, rl.seqT h1, fun z => ?_, fun _ => fin_tup rl (cut_s h2) p⟩)
      rename_i xs a vs
      have e : cutD xs lo hi = xs := by
        unfold cutD
        rw [h2.length, z.1, z.2, List.drop_zero, Nat.sub_zero]
        exact List.take_of_length_le (Nat.le_of_eq h2.length)
      rw [e] at p
      exact fin_ok rl (.tup h1 h2) p
  · cases hd
    split at p
    · rename_i hz
      exact .inr (.inr ⟨_, rfl, line5 hz, fin_ok rl .str p⟩)
    · exact p.elim
  · split at p
    · rename_i xs hx
      obtain ⟨a, vs, rfl, h1, h2⟩ := lqOf_s rl hd hx
      exact .inl ⟨a, vs, rfl, h1, fin_lst rl (cut_s h2) p⟩
    · exact p.elim
section
variable {X : Cx} {W : WX} {a b e : Expr} {lo hi : Option Expr} {ea : Ev} {tl th : Ov} {pos p2 : Pos}
theorem PO.imp {e : Option Expr} {t t' : TO} (h : PO X e t) (k : ∀ σ H Q, t' σ H Q → t σ H Q) : PO X e t' := ⟨fun pins s σ H Q I q => h.run pins s σ H Q I (k _ _ _ q)⟩
theorem o_none : PO X none (tO X.K W oNo) := PO.imp po_none fun σ H Q h => by
  obtain ⟨m, σ', g, rl, sl, hl, p⟩ := h
  exact fin_ok rl rfl p
theorem o_some (h : PE X a (tE X.K W ea)) : PO X (some a) (tO X.K W (oPart ea)) := PO.imp (po_some h) fun σ H Q h => by
  obtain ⟨m, σ', g, rl, sl, hl, p⟩ := h
  refine ⟨m, σ', g, rl, sl, hl, Post.bind p fun d g1 m1 H1 x l1 r1 d1 p1 => ?_⟩
  split at p1
  · cases d1
    exact ⟨_, rfl, fin_ok r1 rfl p1⟩
  · exact p1.elim
theorem x_sl (ha : PE X a (tE X.K W ea)) (hl : PO X lo (tO X.K W tl)) (hh : PO X hi (tO X.K W th)) : PE X (.Subscript a (.Slice lo hi none p2) pos) (tE X.K W (eSl ea tl th)) :=
  PE.imp (pe_slice (sl_list.or (sl_tupA.or sl_str)) ha hl hh) fun σ H Q h => by
    obtain ⟨m, σ', g, rl, sl, hl, p⟩ := h
    refine ⟨m, σ', g, rl, sl, hl, Post.bind p fun d g1 m1 H1 x l1 r1 d1 p1 => ?_⟩
    refine ⟨m1, σ', g1, r1, sl.mono l1, hl, Post.bind p1 fun o g2 m2 H2 ov l2 r2 d2 p2 => ?_⟩
    cases d2
    refine ⟨m2, σ', g2, r2, (sl.mono l1).mono l2, hl, Post.bind p2 fun o' g3 m3 H3 ov' l3 r3 d3 p3 => ?_⟩
    cases d3
    exact slD_s r3 ((d1.mono l2).mono l3) p3
end
/-! ### built-in functions -/
abbrev Fn := List D → G → Res D
def CalS (K : PySem.W.Frag) (W : WX) (r : List V → Hp → VK → Prop) (f : Fn) : Prop := ∀ (σv : L2.St) (m : Md) (g : G) (H : Hp) (ds : List D) (xs : List V) (Q : VK), Rel K m g H → Dens K m ds xs → Post K W σv (Den K) (f ds g) m Q → r xs H Q
def eCall (f : Fn) (t : Av) : Ev := fun σ g => (t σ g).bind fun ds g1 => f ds g1
section
variable {X : Cx} {W : WX} {e : Expr} {es : List Expr} {t : Av} {x : Str} {p pos : Pos} {id T : String} {r : List V → Hp → VK → Prop} {f : Fn}
theorem tCB_of {K : PySem.W.Frag} (hs : CalS K W r f) {σ : L2.St} {H : Hp} {Q : VK} (h : tE K W (eCall f t) σ H Q) : tCB r (tA K W t) σ H Q := by
  obtain ⟨m, σ', g, rl, sl, hl, p⟩ := h
  refine ⟨m, σ', g, rl, sl, hl, Post.bind p fun ds g1 m1 H1 xs l1 r1 d1 p1 => ?_⟩
  exact hs σ m1 g1 H1 ds xs Q r1 d1 p1
theorem x_callB (hc : CallR X (.builtin id) r) (hs : CalS X.K W r f) (hg : Gl X x) (hm : X.mg x = none) (hv : bootBuiltins x = some (.builtin id)) (ha : PA X (e :: es) (tA X.K W t)) (hn : x ≠ "__name__" := by decide) (hdb : (x == ("__debug__" : Str)) = false := by decide)
    (he : starEach (e :: es) X.env = (false, eval e X.env) :: starEach es X.env := by rfl) (hpl : (backTo pos (starEach es X.env)).any (·.1) = false := by rfl) : PE X (.Call (.Name x p) (e :: es) [] pos) (tE X.K W (eCall f t)) :=
  PE.imp (pe_callB hc hg hm hv ha hn hdb he hpl) fun _ _ _ h => tCB_of hs h
theorem x_callTy (hc : CallR X (.type T) r) (hs : CalS X.K W r f) (hg : Gl X x) (hm : X.mg x = none) (hv : bootBuiltins x = some (.type T)) (ha : PA X (e :: es) (tA X.K W t)) (hn : x ≠ "__name__" := by decide) (hdb : (x == ("__debug__" : Str)) = false := by decide)
    (he : starEach (e :: es) X.env = (false, eval e X.env) :: starEach es X.env := by rfl) (hpl : (backTo pos (starEach es X.env)).any (·.1) = false := by rfl) : PE X (.Call (.Name x p) (e :: es) [] pos) (tE X.K W (eCall f t)) :=
  PE.imp (pe_callTy hc hg hm hv ha hn hdb he hpl) fun _ _ _ h => tCB_of hs h
end
def fLen : Fn := fun ds g => match ds with
  | [.str y] => if y.length ≤ 100000 then .ok (.int y.length) g else .no
  | [d] => match sqOf g d with
    | some xs => .ok (.int xs.length) g
    | none => .no
  | _ => .no
theorem fLen_s {K : PySem.W.Frag} {W : WX} : CalS K W (fun xs H Q => ∃ x n, xs = [x] ∧ LenV K x H n ∧ Q (.int n) H) fLen := fun σv m g H ds xs Q rl hd p => by
  unfold fLen at p
  split at p
  · obtain ⟨v, ws, rfl, h1, h2⟩ := hd.consV
    obtain rfl := h2.nilV
    cases h1
    split at p
    · rename_i hz
      exact ⟨_, _, rfl, ⟨line5 hz, rfl⟩, fin_ok rl .int p⟩
    · exact p.elim
  · obtain ⟨v, ws, rfl, h1, h2⟩ := hd.consV
    obtain rfl := h2.nilV
    split at p
    · rename_i xs hx
      obtain ⟨a, vs, rfl, h3, h4⟩ := sqOf_s rl h1 hx
      refine ⟨_, xs.length, rfl, ?_, fin_ok rl .int p⟩
      rcases h3 with h3 | h3
      · exact .inl ⟨vs, h3, h4.length⟩
      · exact .inr ⟨vs, h3, h4.length⟩
    · exact p.elim
  · exact p.elim
def fInt1 (k : Int → D) : Fn := fun ds g => match ds with
  | [.int i] => .ok (k i) g
  | _ => .no
def fAbs : Fn := fInt1 fun i => .int (if i < 0 then -i else i)
theorem fAbs_s {K : PySem.W.Frag} {W : WX} : CalS K W (fun xs H Q => ∃ i, xs = [.int i] ∧ Q (.int (if i < 0 then -i else i)) H) fAbs := fun σv m g H ds xs Q rl hd p => by
  unfold fAbs fInt1 at p
  split at p
  · obtain ⟨v, ws, rfl, h1, h2⟩ := hd.consV
    obtain rfl := h2.nilV
    cases h1
    exact ⟨_, rfl, fin_ok rl .int p⟩
  · exact p.elim
def fInt : Fn := fun ds g => match ds with
  | [.int i] => .ok (.int i) g
  | [.bl k] => .ok (.int (if k then 1 else 0)) g
  | _ => .no
theorem fInt_s {K : PySem.W.Frag} {W : WX} : CalS K W (fun xs H Q => (∃ i, xs = [.int i] ∧ Q (.int i) H) ∨ ∃ k, xs = [.bl k] ∧ Q (.int (if k then 1 else 0)) H) fInt := fun σv m g H ds xs Q rl hd p => by
  unfold fInt at p
  split at p
  · obtain ⟨v, ws, rfl, h1, h2⟩ := hd.consV
    obtain rfl := h2.nilV
    cases h1
    exact .inl ⟨_, rfl, fin_ok rl .int p⟩
  · obtain ⟨v, ws, rfl, h1, h2⟩ := hd.consV
    obtain rfl := h2.nilV
    cases h1
    exact .inr ⟨_, rfl, fin_ok rl .int p⟩
  · exact p.elim
def fBool : Fn := fun ds g => match ds with
  | [.int i] => .ok (.bl (i != 0)) g
  | [.bl k] => .ok (.bl k) g
  | _ => .no
theorem fBool_s {K : PySem.W.Frag} {W : WX} : CalS K W (fun xs H Q => (∃ i, xs = [.int i] ∧ Q (.bl (i != 0)) H) ∨ ∃ k, xs = [.bl k] ∧ Q (.bl k) H) fBool := fun σv m g H ds xs Q rl hd p => by
  unfold fBool at p
  split at p
  · obtain ⟨v, ws, rfl, h1, h2⟩ := hd.consV
    obtain rfl := h2.nilV
    cases h1
    exact .inl ⟨_, rfl, fin_ok rl .bl p⟩
  · obtain ⟨v, ws, rfl, h1, h2⟩ := hd.consV
    obtain rfl := h2.nilV
    cases h1
    exact .inr ⟨_, rfl, fin_ok rl .bl p⟩
  · exact p.elim
def fInt2 (k : Int → Int → Int) : Fn := fun ds g => match ds with
  | [.int i, .int j] => .ok (.int (k i j)) g
  | _ => .no
theorem fInt2_s {K : PySem.W.Frag} {W : WX} {k : Int → Int → Int} : CalS K W (fun xs H Q => ∃ i j, xs = [.int i, .int j] ∧ Q (.int (k i j)) H) (fInt2 k) := fun σv m g H ds xs Q rl hd p => by
  unfold fInt2 at p
  split at p
  · obtain ⟨v, ws, rfl, h1, h2⟩ := hd.consV
    obtain ⟨v', ws', rfl, h3, h4⟩ := h2.consV
    obtain rfl := h4.nilV
    cases h1
    cases h3
    exact ⟨_, _, rfl, fin_ok rl .int p⟩
  · exact p.elim
abbrev fMax2 : Fn := fInt2 fun i j => if j > i then j else i
abbrev fMin2 : Fn := fInt2 fun i j => if j < i then j else i
/-- list(x), tuple(x) -/
def fList : Fn := fun ds g => match ds with
  | [d] => match sqOf g d with
    | some xs => .ok (.lst xs) g
    | none => .no
  | _ => .no
def fListM : Fn := fun ds g => match ds with
  | [d] => match sqOf g d with
    | some xs => .ok (.ref g.length) (g ++ [.lst xs])
    | none => .no
  | _ => .no
theorem fList_s {K : PySem.W.Frag} {W : WX} : CalS K W (fun xs H Q => ∃ p ys, xs = [.ref p] ∧ (SqL K H p ys ∨ SqT K H p ys) ∧ ∀ l, H l = none → Q (.ref l) (upd H l (.lst ys))) fList := fun σv m g H ds xs Q rl hd p => by
  unfold fList at p
  split at p
  · obtain ⟨v, ws, rfl, h1, h2⟩ := hd.consV
    obtain rfl := h2.nilV
    split at p
    · rename_i xs hx
      obtain ⟨a, vs, rfl, h3, h4⟩ := sqOf_s rl h1 hx
      exact ⟨a, vs, rfl, h3, fin_lst rl h4 p⟩
    · exact p.elim
  · exact p.elim
theorem fListM_s {K : PySem.W.Frag} {W : WX} : CalS K W (fun xs H Q => ∃ p ys, xs = [.ref p] ∧ (SqL K H p ys ∨ SqT K H p ys) ∧ ∀ l, H l = none → Q (.ref l) (upd H l (.lst ys))) fListM := fun σv m g H ds xs Q rl hd p => by
  unfold fListM at p
  split at p
  · obtain ⟨v, ws, rfl, h1, h2⟩ := hd.consV
    obtain rfl := h2.nilV
    split at p
    · rename_i xs hx
      obtain ⟨a, vs, rfl, h3, h4⟩ := sqOf_s rl h1 hx
      exact ⟨a, vs, rfl, h3, fun l hl => p _ _ _ (le_cell rl.fresh) (rl.cellAdd hl ⟨vs, rfl, h4⟩) den_cell⟩
    · exact p.elim
  · exact p.elim
def fTuple : Fn := fun ds g => match ds with
  | [.tup xs] => .ok (.tup xs) g
  | [d] => match lqOf g d with
    | some xs => .ok (.tup xs) g
    | none => .no
  | _ => .no
theorem fTuple_s {K : PySem.W.Frag} {W : WX} : CalS K W (fun xs H Q => ∃ p ys, xs = [.ref p] ∧ ((SqL K H p ys ∧ ∀ l, H l = none → Q (.ref l) (upd H l (.tup ys))) ∨ (SqT K H p ys ∧ Q (.ref p) H))) fTuple := fun σv m g H ds xs Q rl hd p => by
  unfold fTuple at p
  split at p
  · obtain ⟨v, ws, rfl, h1, h2⟩ := hd.consV
    obtain rfl := h2.nilV
    cases h1 with
    | tup h3 h4 => exact ⟨_, _, rfl, .inr ⟨rl.seqT h3, fin_ok rl (.tup h3 h4) p⟩⟩
  · obtain ⟨v, ws, rfl, h1, h2⟩ := hd.consV
    obtain rfl := h2.nilV
    split at p
    · rename_i xs hx
      obtain ⟨a, vs, rfl, h3, h4⟩ := lqOf_s rl h1 hx
      exact ⟨a, vs, rfl, .inl ⟨h3, fin_tup rl h4 p⟩⟩
    · exact p.elim
  · exact p.elim
/-- the ints, the bools of a list -/
def intsOf : List D → Option (List Int)
  | [] => some []
  | .int i :: r => match intsOf r with
    | some is => some (i :: is)
    | none => none
  | _ => none
def blsOf : List D → Option (List Bool)
  | [] => some []
  | .bl i :: r => match blsOf r with
    | some is => some (i :: is)
    | none => none
  | _ => none
theorem intsOf_s {K : PySem.W.Frag} {m : Md} : ∀ {ds : List D} {vs : List V} {is : List Int}, Dens K m ds vs → intsOf ds = some is → vs = is.map V.int
  | [], _, _, h, e => by cases e; exact h.nilV
  | d :: ds, _, _, h, e => by
    obtain ⟨v, ws, rfl, h1, h2⟩ := h.consV
    unfold intsOf at e
    split at e
    · rename_i heq
      cases heq
    · rename_i i r heq
      cases heq
      split at e
      · rename_i js hj
        cases e
        cases h1
        rw [intsOf_s h2 hj] <;> rfl
      · cases e
    · cases e
theorem blsOf_s {K : PySem.W.Frag} {m : Md} : ∀ {ds : List D} {vs : List V} {is : List Bool}, Dens K m ds vs → blsOf ds = some is → vs = is.map V.bl
  | [], _, _, h, e => by cases e; exact h.nilV
  | d :: ds, _, _, h, e => by
    obtain ⟨v, ws, rfl, h1, h2⟩ := h.consV
    unfold blsOf at e
    split at e
    · rename_i heq
      cases heq
    · rename_i i r heq
      cases heq
      split at e
      · rename_i js hj
        cases e
        cases h1
        rw [blsOf_s h2 hj] <;> rfl
      · cases e
    · cases e
theorem intsOf_map (is : List Int) : intsOf (is.map D.int) = some is := by
  induction is with
  | nil => rfl
  | cons i r ih => rw [List.map_cons]; unfold intsOf; rw [ih]
theorem blsOf_map (is : List Bool) : blsOf (is.map D.bl) = some is := by
  induction is with
  | nil => rfl
  | cons i r ih => rw [List.map_cons]; unfold blsOf; rw [ih]
def isum : List Int → Int
  | [] => 0
  | i :: r => i + isum r
theorem isum_eq (l : List Int) : isum l = l.sum := by
  induction l with
  | nil => rfl
  | cons i r ih => rw [List.sum_cons, isum, ih]
def fSum : Fn := fun ds g => match ds with
  | [d] => match lqOf g d with
    | some xs => match intsOf xs with
      | some is => .ok (.int (isum is)) g
      | none => .no
    | none => .no
  | _ => .no
theorem fSum_s {K : PySem.W.Frag} {W : WX} : CalS K W (rSum K) fSum := fun σv m g H ds xs Q rl hd p => by
  unfold fSum at p
  split at p
  · obtain ⟨v, ws, rfl, h1, h2⟩ := hd.consV
    obtain rfl := h2.nilV
    split at p
    · rename_i xs hx
      obtain ⟨a, vs, rfl, h3, h4⟩ := lqOf_s rl h1 hx
      split at p
      · rename_i is hi
        refine ⟨a, is, rfl, by rw [← intsOf_s h4 hi]; exact h3, ?_⟩
        rw [isum_eq] at p
        exact fin_ok rl .int p
      · exact p.elim
    · exact p.elim
  · exact p.elim
def fAny : Fn := fun ds g => match ds with
  | [d] => match lqOf g d with
    | some xs => match blsOf xs with
      | some is => .ok (.bl (is.any id)) g
      | none => .no
    | none => .no
  | _ => .no
def fAll : Fn := fun ds g => match ds with
  | [d] => match lqOf g d with
    | some xs => match blsOf xs with
      | some is => .ok (.bl (is.all id)) g
      | none => .no
    | none => .no
  | _ => .no
theorem fAny_s {K : PySem.W.Frag} {W : WX} : CalS K W (rAny K) fAny := fun σv m g H ds xs Q rl hd p => by
  unfold fAny at p
  split at p
  · obtain ⟨v, ws, rfl, h1, h2⟩ := hd.consV
    obtain rfl := h2.nilV
    split at p
    · rename_i xs hx
      obtain ⟨a, vs, rfl, h3, h4⟩ := lqOf_s rl h1 hx
      split at p
      · rename_i is hi
        exact ⟨a, is, rfl, by rw [← blsOf_s h4 hi]; exact h3, fin_ok rl .bl p⟩
      · exact p.elim
    · exact p.elim
  · exact p.elim
theorem fAll_s {K : PySem.W.Frag} {W : WX} : CalS K W (rAll K) fAll := fun σv m g H ds xs Q rl hd p => by
  unfold fAll at p
  split at p
  · obtain ⟨v, ws, rfl, h1, h2⟩ := hd.consV
    obtain rfl := h2.nilV
    split at p
    · rename_i xs hx
      obtain ⟨a, vs, rfl, h3, h4⟩ := lqOf_s rl h1 hx
      split at p
      · rename_i is hi
        exact ⟨a, is, rfl, by rw [← blsOf_s h4 hi]; exact h3, fin_ok rl .bl p⟩
      · exact p.elim
    · exact p.elim
  · exact p.elim
end AW
namespace AW
open PySem PySem.Spec L2
/-! ### statements -/
inductive SRes where
  | nx (σ : Sg) (g : G)
  | rt (d : D) (g : G)
  | bk (σ : Sg) (g : G)
  | ct (σ : Sg) (g : G)
  | ex (σ : Sg) (e : Exn) (g : G)
  | no
abbrev Sx := Sg → G → SRes
def SlotsL (K : PySem.W.Frag) (m : Md) (σ : Sg) (σv : L2.St) : Prop := Slots K m σ σv ∧ σ.length ≤ σv.length
theorem SlotsL.mono {K : PySem.W.Frag} {m m' : Md} (e : Le m m') {σ : Sg} {σv : L2.St} (h : SlotsL K m σ σv) : SlotsL K m' σ σv := ⟨h.1.mono e, h.2⟩
theorem SlotsL.set {K : PySem.W.Frag} {m : Md} {σ : Sg} {σv : L2.St} (h : SlotsL K m σ σv) {i : Nat} {d : D} {v : V} (hd : Den K m d v) : SlotsL K m (σ.set i (some d)) (σv.set i (some v)) :=
  ⟨h.1.set h.2 hd, by rw [List.length_set, List.length_set]; exact h.2⟩
def PostS (K : PySem.W.Frag) (W : WX) (r : SRes) (m : Md) (D' : Ends) : Prop := match r with
  | .nx σ g => ∀ m' H σv, Le m m' → Rel K m' g H → SlotsL K m' σ σv → D'.nx σv H
  | .bk σ g => ∀ m' H σv, Le m m' → Rel K m' g H → SlotsL K m' σ σv → D'.bk σv H
  | .ct σ g => ∀ m' H σv, Le m m' → Rel K m' g H → SlotsL K m' σ σv → D'.ct σv H
  | .rt d g => ∀ m' H v, Le m m' → Rel K m' g H → Den K m' d v → D'.rt v H
  | .ex σ e g => ∀ m' H σv cv dd, Le m m' → Rel K m' g H → SlotsL K m' σ σv → ExnOk K m' e cv dd → W cv dd σv H
  | .no => False
theorem PostS.mono {K : PySem.W.Frag} {W : WX} {r : SRes} {m m' : Md} {D' : Ends} (l : Le m m') (h : PostS K W r m D') : PostS K W r m' D' := by
  cases r with
  | nx σ g => exact fun m2 H v l2 r d => h m2 H v (l.trans l2) r d
  | bk σ g => exact fun m2 H v l2 r d => h m2 H v (l.trans l2) r d
  | ct σ g => exact fun m2 H v l2 r d => h m2 H v (l.trans l2) r d
  | rt d g => exact fun m2 H v l2 r d => h m2 H v (l.trans l2) r d
  | ex σ e g => exact fun m2 H v cv dd l2 r d x => h m2 H v cv dd (l.trans l2) r d x
  | no => exact h
def tS (K : PySem.W.Frag) (W : WX) (sx : Sx) : TS := fun D' σv H => ∃ m σ g, Rel K m g H ∧ SlotsL K m σ σv ∧ PostS K W (sx σ g) m D'
/-- an expression, then a statement's end -/
@[reducible] def sBind {α : Type} (σ : Sg) (r : Res α) (f : α → G → SRes) : SRes := match r with
  | .ok a g => f a g
  | .ex e g => .ex σ e g
  | .no => .no
theorem sBind_s {α β : Type} {K : PySem.W.Frag} {W : WX} {σ : Sg} {σv : L2.St} {R : Md → α → β → Prop} {r : Res α} {f : α → G → SRes} {m : Md} {D' : Ends} {P : β → Hp → Prop} (sl : SlotsL K m σ σv)
    (h : PostS K W (sBind σ r f) m D') (k : ∀ d g m' H v, Le m m' → Rel K m' g H → R m' d v → PostS K W (f d g) m' D' → P v H) : Post K W σv R r m P := by
  cases r with
  | ok d g => exact fun m' H v l rl rd => k d g m' H v l rl rd (PostS.mono l h)
  | ex e g => exact fun m' H cv dd l rl x => h m' H σv cv dd l rl (sl.mono l) x
  | no => exact h
def sNil : Sx := fun σ g => .nx σ g
def sCons (a b : Sx) : Sx := fun σ g => match a σ g with
  | .nx σ' g' => b σ' g'
  | r => r
section
variable {X : Cx} {W : WX} {st : Stmt} {rest : List Stmt} {a b : Sx} {e : Expr} {ee : Ev} {pos : Pos}
theorem ss_nil : PSs X [] (tS X.K W sNil) := PSs.imp pss_nil fun D' σ H h => by
  obtain ⟨m, σ', g, rl, sl, p⟩ := h
  exact p m H σ (Le.refl m) rl sl
theorem ss_cons (ha : PS X st (tS X.K W a)) (hb : PSs X rest (tS X.K W b)) : PSs X (st :: rest) (tS X.K W (sCons a b)) := PSs.imp (pss_cons ha hb) fun D' σ H h => by
  obtain ⟨m, σ', g, rl, sl, p⟩ := h
  refine ⟨m, σ', g, rl, sl, ?_⟩
  unfold sCons at p
  cases hr : a σ' g with
  | nx σ2 g2 =>
    rw [hr] at p
    exact fun m2 H2 σv l2 r2 s2 => ⟨m2, σ2, g2, r2, s2, PostS.mono l2 p⟩
  | bk σ2 g2 => rw [hr] at p; exact p
  | ct σ2 g2 => rw [hr] at p; exact p
  | rt d g2 => rw [hr] at p; exact p
  | ex σ2 x g2 => rw [hr] at p; exact p
  | no => rw [hr] at p; exact p
def sPass : Sx := fun σ g => .nx σ g
def sBreak : Sx := fun σ g => .bk σ g
def sCont : Sx := fun σ g => .ct σ g
theorem s_pass : PS X (.Pass pos) (tS X.K W sPass) := PS.imp ps_pass fun D' σ H h => by
  obtain ⟨m, σ', g, rl, sl, p⟩ := h
  exact p m H σ (Le.refl m) rl sl
theorem s_break : PS X (.Break pos) (tS X.K W sBreak) := PS.imp ps_break fun D' σ H h => by
  obtain ⟨m, σ', g, rl, sl, p⟩ := h
  exact p m H σ (Le.refl m) rl sl
theorem s_cont : PS X (.Continue pos) (tS X.K W sCont) := PS.imp ps_continue fun D' σ H h => by
  obtain ⟨m, σ', g, rl, sl, p⟩ := h
  exact p m H σ (Le.refl m) rl sl
def sExpr (e : Ev) : Sx := fun σ g => sBind σ (e σ g) fun _ g1 => .nx σ g1
theorem s_expr (he : PE X e (tE X.K W ee)) (hs : swapsWith e none pos.line X.env = pure false := by rfl) : PS X (.Expr e pos) (tS X.K W (sExpr ee)) := PS.imp (ps_expr he hs) fun D' σ H h => by
  obtain ⟨m, σ', g, rl, sl, p⟩ := h
  exact ⟨m, σ', g, rl, sl.1, sl.2, sBind_s sl p fun d g1 m1 H1 v l1 r1 d1 p1 => p1 m1 H1 σ (Le.refl m1) r1 (sl.mono l1)⟩
def sRet (e : Ev) : Sx := fun σ g => sBind σ (e σ g) fun d g1 => .rt d g1
def sRetN : Sx := fun _ g => .rt .non g
theorem s_ret (he : PE X e (tE X.K W ee)) : PS X (.Return (some e) pos) (tS X.K W (sRet ee)) := PS.imp (ps_ret he) fun D' σ H h => by
  obtain ⟨m, σ', g, rl, sl, p⟩ := h
  exact ⟨m, σ', g, rl, sl.1, sl.2, sBind_s sl p fun d g1 m1 H1 v l1 r1 d1 p1 => p1 m1 H1 v (Le.refl m1) r1 d1⟩
theorem s_retN : PS X (.Return none pos) (tS X.K W sRetN) := PS.imp ps_retN fun D' σ H h => by
  obtain ⟨m, σ', g, rl, sl, p⟩ := h
  exact p m H .non (Le.refl m) rl .non
def sIf (c : Tv) (a b : Sx) : Sx := fun σ g => sBind σ (c σ g) fun k g1 => match k with
  | true => a σ g1
  | false => b σ g1
theorem s_if {c : Expr} {A B : List Stmt} {tc : Tv} (hc : PT X c (tT X.K W tc)) (ha : PSs X A (tS X.K W a)) (hb : PSs X B (tS X.K W b)) : PS X (.If c A B pos) (tS X.K W (sIf tc a b)) := PS.imp (ps_if hc ha hb) fun D' σ H h => by
  obtain ⟨m, σ', g, rl, sl, p⟩ := h
  refine ⟨m, σ', g, rl, sl.1, sl.2, sBind_s sl p fun d g1 m1 H1 v l1 r1 d1 p1 => ?_⟩
  cases d1
  cases d with
  | true => exact ⟨m1, σ', g1, r1, sl.mono l1, p1⟩
  | false => exact ⟨m1, σ', g1, r1, sl.mono l1, p1⟩
def sNever : Sx := fun _ _ => .no
theorem s_never : PS X st (tS X.K W sNever) := PS.imp ps_never fun D' σ H h => by
  obtain ⟨m, σ', g, rl, sl, p⟩ := h
  exact p.elim
theorem ss_never {sts : List Stmt} : PSs X sts (tS X.K W sNever) := PSs.imp pss_never fun D' σ H h => by
  obtain ⟨m, σ', g, rl, sl, p⟩ := h
  exact p.elim
end
/-! ### targets -/
abbrev Gv := D → Sg → G → Option (Sg × G)
abbrev Gvs := List D → Sg → G → Option (Sg × G)
def PostG (K : PySem.W.Frag) (r : Option (Sg × G)) (m : Md) (Q : L2.St → Hp → Prop) : Prop := match r with
  | some (σ, g) => ∀ m' H σv, Le m m' → Rel K m' g H → SlotsL K m' σ σv → Q σv H
  | none => False
theorem PostG.mono {K : PySem.W.Frag} {r : Option (Sg × G)} {m m' : Md} {Q : L2.St → Hp → Prop} (l : Le m m') (h : PostG K r m Q) : PostG K r m' Q := by
  cases r with
  | none => exact h
  | some q =>
    obtain ⟨σ, g⟩ := q
    exact fun m2 H v l2 r d => h m2 H v (l.trans l2) r d
def tGt (K : PySem.W.Frag) (gv : Gv) : TG := fun v σv H Q => ∃ m d σ g, Rel K m g H ∧ SlotsL K m σ σv ∧ Den K m d v ∧ PostG K (gv d σ g) m Q
def tGts (K : PySem.W.Frag) (gv : Gvs) : TGs := fun vs σv H Q => ∃ m ds σ g, Rel K m g H ∧ SlotsL K m σ σv ∧ Dens K m ds vs ∧ PostG K (gv ds σ g) m Q
def gvName (i : Nat) : Gv := fun d σ g => some (σ.set i (some d), g)
def gvNil : Gvs := fun ds σ g => match ds with
  | [] => some (σ, g)
  | _ => none
def gvCons (a : Gv) (b : Gvs) : Gvs := fun ds σ g => match ds with
  | d :: r => match a d σ g with
    | some (σ', g') => b r σ' g'
    | none => none
  | [] => none
def gvTup (n : Nat) (b : Gvs) : Gv := fun d σ g => match d with
  | .tup xs => if xs.length = n then b xs σ g else none
  | _ => none
section
variable {X : Cx} {pos : Pos} {e : Expr} {es : List Expr}
theorem PG.imp {t t' : TG} (h : PG X e t) (k : ∀ v σ H Q, t' v σ H Q → t v σ H Q) : PG X e t' := ⟨fun pins s σ H v u Q I r q => h.run pins s σ H v u Q I r (k _ _ _ _ q)⟩
theorem PGs.imp {t t' : TGs} (h : PGs X es t) (k : ∀ v σ H Q, t' v σ H Q → t v σ H Q) : PGs X es t' := ⟨fun pins s σ H v u Q I r q => h.run pins s σ H v u Q I r (k _ _ _ _ q)⟩
theorem g_name {i : Nat} {x : Str} (hN : X.N.Nodup) (hi : X.N[i]? = some x) (hx : Loc X.env.scope x) (hf : X.fn x = true ∨ X.env.scope.names.lookup x = some .local := by first | exact .inl rfl | exact .inr rfl | assumption) : PG X (.Name x pos) (tGt X.K (gvName i)) :=
  PG.imp (pg_name hN hi hx hf) fun v σ H Q h => by
    obtain ⟨m, d, σ', g, rl, sl, hd, p⟩ := h
    exact p m H _ (Le.refl m) rl (sl.set hd)
theorem gs_nil : PGs X [] (tGts X.K gvNil) := PGs.imp pgs_nil fun vs σ H Q h => by
  obtain ⟨m, ds, σ', g, rl, sl, hd, p⟩ := h
  unfold gvNil at p
  split at p
  · exact ⟨hd.nilV, p m H σ (Le.refl m) rl sl⟩
  · exact p.elim
theorem gs_cons {a : Gv} {b : Gvs} (h1 : PG X e (tGt X.K a)) (h2 : PGs X es (tGts X.K b)) (hs : (assignEach (e :: es) X.env).map (·.2) = assign e X.env :: (assignEach es X.env).map (·.2) := by rfl) : PGs X (e :: es) (tGts X.K (gvCons a b)) :=
  PGs.imp (pgs_cons h1 h2 hs) fun vs σ H Q h => by
    obtain ⟨m, ds, σ', g, rl, sl, hd, p⟩ := h
    unfold gvCons at p
    split at p
    · obtain ⟨v, ws, rfl, h3, h4⟩ := hd.consV
      refine ⟨v, ws, rfl, m, _, σ', g, rl, sl, h3, ?_⟩
      split at p
      · rename_i σ2 g2 hq
        rw [hq]
        exact fun m2 H2 σv l2 r2 s2 => ⟨m2, _, σ2, g2, r2, s2, h4.mono l2, PostG.mono l2 p⟩
      · exact p.elim
    · exact p.elim
theorem g_tup {k n : Nat} {b : Gvs} (hc : X.calm = true) (h : PGs X es (tGts X.K b)) (hn : (assignEach es X.env).length = n := by rfl) (hst : (assignEach es X.env).findIdx? (·.1) = none := by rfl) : PG X (.Tuple es k pos) (tGt X.K (gvTup n b)) :=
  PG.imp (pg_tup hc h hn hst) fun v σ H Q h => by
    obtain ⟨m, d, σ', g, rl, sl, hd, p⟩ := h
    unfold gvTup at p
    split at p
    · split at p
      · rename_i xs hl
        cases hd with
        | tup h1 h2 => exact ⟨_, _, rfl, rl.seqT h1, by rw [← h2.length]; exact hl, m, xs, σ', g, rl, sl, h2, p⟩
      · exact p.elim
    · exact p.elim
end
/-! a, b, .. = a tuple or a list -/
def gvSq (n : Nat) (b : Gvs) : Gv := fun d σ g => match d with
  | .tup xs => if xs.length = n then b xs σ g else none
  | .lst xs => if xs.length = n then b xs σ g else none
  | _ => none
def gSq (K : PySem.W.Frag) (n : Nat) (t : TGs) : TG := fun v σ H Q => gTup K n t v σ H Q ∨ gLst K n t v σ H Q
section
variable {X : Cx} {pos : Pos} {es : List Expr}
theorem g_sq {k n : Nat} {b : Gvs} (hc : X.calm = true) (h : PGs X es (tGts X.K b)) (hn : (assignEach es X.env).length = n := by rfl) (hst : (assignEach es X.env).findIdx? (·.1) = none := by rfl) : PG X (.Tuple es k pos) (tGt X.K (gvSq n b)) := by
  have h1 : PG X (.Tuple es k pos) (gSq X.K n (tGts X.K b)) := ⟨fun pins s σ H v u Q I r hw => by
    rcases hw with hw | hw
    · exact (pg_tup hc h hn hst).run pins s σ H v u Q I r hw
    · exact (pg_lst hc h hn hst).run pins s σ H v u Q I r hw⟩
  refine PG.imp h1 fun v σ H Q h => ?_
  obtain ⟨m, d, σ', g, rl, sl, hd, p⟩ := h
  unfold gvSq at p
  split at p
  · split at p
    · rename_i xs hl
      cases hd with
      | tup h1 h2 => exact .inl ⟨_, _, rfl, rl.seqT h1, by rw [← h2.length]; exact hl, m, xs, σ', g, rl, sl, h2, p⟩
    · exact p.elim
  · split at p
    · rename_i xs hl
      cases hd with
      | lst h1 h2 => exact .inr ⟨_, _, rfl, SqL.of (rl.ex _ _ h1), by rw [← h2.length]; exact hl, m, xs, σ', g, rl, sl, h2, p⟩
    · exact p.elim
  · exact p.elim
end
/-- a change of a cell -/
theorem Rel.cellSet {K : PySem.W.Frag} {m : Md} {g : G} {H : Hp} (r : Rel K m g H) {i : Nat} {a : Addr} {c : Cell} {o : HO} (hi : m.r i = some a) (ok : CellOk K m a c o) : Rel K m (g.set i c) (upd H a o) where
  ex := fun b u e => by
    have hil := r.dom i a hi
    obtain ⟨a', h1, h2, _⟩ := r.cell i g[i] (by simp [hil])
    rw [hi] at h1
    cases h1
    have hb : b ≠ a := fun z => by rw [z, h2] at e; cases e
    rw [upd_ne hb]
    exact r.ex b u e
  cell := fun j d hd => by
    by_cases hj : j = i
    · subst hj
      have hil := r.dom j a hi
      rw [List.getElem?_set_self hil] at hd
      cases hd
      obtain ⟨a', h1, h2, _⟩ := r.cell j g[j] (by simp [hil])
      rw [hi] at h1
      cases h1
      exact ⟨a, hi, h2, o, upd_same, ok⟩
    · rw [List.getElem?_set_ne (Ne.symm hj)] at hd
      obtain ⟨b, h1, h2, u, h3, h4⟩ := r.cell j d hd
      have hb : b ≠ a := fun z => by
        rw [z] at h1
        exact hj (r.inj j i a h1 hi)
      exact ⟨b, h1, h2, u, by rw [upd_ne hb]; exact h3, h4⟩
  dom := fun j b e => by rw [List.length_set]; exact r.dom j b e
  inj := r.inj
  hid := fun b u e => by
    obtain ⟨h1, h2, h3⟩ := r.hid b u e
    have hb : b ≠ a := fun z => by
      rw [z] at h3
      exact h3 i hi
    exact ⟨by rw [upd_ne hb]; exact h1, h2, h3⟩
/-- the items of a list that may change -/
def lmOf (g : G) (i : Nat) : Option (List D) := match g[i]? with
  | some (.lst xs) => some xs
  | _ => none
theorem lmOf_s {K : PySem.W.Frag} {m : Md} {g : G} {H : Hp} {i : Nat} {v : V} {xs : List D} (r : Rel K m g H) (h : Den K m (.ref i) v) (e : lmOf g i = some xs) : ∃ p vs, v = .ref p ∧ m.r i = some p ∧ H p = some (.lst vs) ∧ Dens K m xs vs := by
  cases h with
  | ref h1 =>
    unfold lmOf at e
    split at e
    · rename_i ys hy
      cases e
      obtain ⟨a', h2, _, o, h3, vs, h4, h5⟩ := r.cell _ _ hy
      rw [h1] at h2
      cases h2
      subst h4
      exact ⟨_, _, rfl, h1, h3, h5⟩
    · cases e
/-- a[i] = e -/
def setAt (o i v : D) (g : G) : Option G := match o, i with
  | .ref k, .int j => match lmOf g k with
    | some xs => match ixN xs.length j with
      | some n => some (g.set k (.lst (xs.set n v)))
      | none => none
    | none => none
  | _, _ => none
def gvSub (o i : Ev) : Gv := fun d σ g => match o σ g with
  | .ok ov g1 => match i σ g1 with
    | .ok iv g2 => match setAt ov iv d g2 with
      | some g3 => some (σ, g3)
      | none => none
    | _ => none
  | _ => none
section
variable {X : Cx} {W : WX} {pos : Pos} {o i : Expr} {eo ei : Ev}
theorem setAt_s {K : PySem.W.Frag} {σ : Sg} {σv : L2.St} {m : Md} {g : G} {H : Hp} {d e f : D} {x y z : V} {Q : L2.St → Hp → Prop} (rl : Rel K m g H) (sl : SlotsL K m σ σv) (hd : Den K m d x) (he : Den K m e y) (hf : Den K m f z)
    (p : PostG K (match setAt d e f g with | some g3 => some (σ, g3) | none => none) m Q) : rSetL x y z H (fun H' => Q σv H') := by
  unfold setAt at p
  split at p
  · rename_i g3 h3
    split at h3
    · split at h3
      · rename_i xs hx
        split at h3
        · rename_i n hn
          cases h3
          obtain ⟨a, vs, rfl, h4, h5, h6⟩ := lmOf_s rl hd hx
          cases he
          refine ⟨a, vs, _, n, rfl, rfl, h5, by rw [← h6.length]; exact hn, ?_⟩
          exact p m _ σv (Le.refl m) (rl.cellSet h4 ⟨_, rfl, h6.set hf n⟩) sl
        · cases h3
      · cases h3
    · cases h3
  · exact p.elim
theorem g_sub (ho : PE X o (tE X.K W eo)) (hi : PE X i (tE X.K W ei))
    (ha : ∀ v, assign (.Subscript o i pos) X.env v = (do
      let ov ← holding [v] (eval o X.env)
      let iv ← holding [v, ov] (eval i X.env)
      standAt pos
      holding [v, ov, iv] (setItem ov iv v)
      release [v, ov, iv] []) := by intro _; rfl) : PG X (.Subscript o i pos) (tGt X.K (gvSub eo ei)) :=
  PG.imp (pg_sub ho hi set_list ha) fun v σ H Q h => by
    obtain ⟨m, d, σ', g, rl, sl, hd, p⟩ := h
    unfold gvSub at p
    refine ⟨m, σ', g, rl, sl.1, sl.2, ?_⟩
    cases h1 : eo σ' g with
    | no => rw [h1] at p; exact p.elim
    | ex e g1 => rw [h1] at p; exact p.elim
    | ok ov g1 =>
      rw [h1] at p
      refine fun m1 H1 x l1 r1 d1 => ⟨m1, σ', g1, r1, (sl.mono l1).1, sl.2, ?_⟩
      cases h2 : ei σ' g1 with
      | no => simp only [h2] at p; exact p.elim
      | ex e g2 => simp only [h2] at p; exact p.elim
      | ok iv g2 =>
        simp only [h2] at p
        refine fun m2 H2 y l2 r2 d2 => ?_
        exact setAt_s r2 ((sl.mono l1).mono l2) (d1.mono l2) d2 ((hd.mono l1).mono l2) (PostG.mono (l1.trans l2) p)
end
/-! ### assignments -/
def sAsg (e : Ev) (gv : Gv) : Sx := fun σ g => sBind σ (e σ g) fun d g1 => match gv d σ g1 with
  | some (σ', g2) => .nx σ' g2
  | none => .no
def sSet (i : Nat) (e : Ev) : Sx := fun σ g => sBind σ (e σ g) fun d g1 => .nx (σ.set i (some d)) g1
section
variable {X : Cx} {W : WX} {pos : Pos} {e tg : Expr} {ee : Ev} {gv : Gv}
theorem s_asg (he : PE X e (tE X.K W ee)) (hg : PG X tg (tGt X.K gv)) (hs : swapsWithSole [tg] e pos.line X.env = pure false := by rfl) (hw : swappedStores [tg] e X.env = pure none := by rfl)
    (h1 : (assignEach [tg] X.env).map (·.2) = [assign tg X.env] := by rfl) : PS X (.Assign [tg] e pos) (tS X.K W (sAsg ee gv)) := PS.imp (ps_asg he hg hs hw h1) fun D' σ H h => by
  obtain ⟨m, σ', g, rl, sl, p⟩ := h
  refine ⟨m, σ', g, rl, sl.1, sl.2, sBind_s sl p fun d g1 m1 H1 v l1 r1 d1 p1 => ?_⟩
  refine ⟨m1, d, σ', g1, r1, sl.mono l1, d1, ?_⟩
  split at p1
  · rename_i σ2 g2 hq
    rw [hq]
    exact p1
  · exact p1.elim
theorem s_set {i : Nat} {x : Str} {pos' : Pos} (hN : X.N.Nodup) (hi : X.N[i]? = some x) (hx : Loc X.env.scope x) (he : PE X e (tE X.K W ee)) (hs : swapsWith e (some (.Name x pos')) pos.line X.env = pure false := by rfl) (hf : X.fn x = true ∨ X.env.scope.names.lookup x = some .local := by first | exact .inl rfl | exact .inr rfl | assumption) :
    PS X (.Assign [.Name x pos'] e pos) (tS X.K W (sSet i ee)) := PS.imp (ps_set hN hi hx he hs hf) fun D' σ H h => by
  obtain ⟨m, σ', g, rl, sl, p⟩ := h
  refine ⟨m, σ', g, rl, sl.1, sl.2, sBind_s sl p fun d g1 m1 H1 v l1 r1 d1 p1 => ?_⟩
  exact p1 m1 H1 _ (Le.refl m1) r1 ((sl.mono l1).set d1)
def sPar (i j : Nat) (t : Av) : Sx := fun σ g => sBind σ (t σ g) fun ds g1 => match ds with
  | [a, b] => .nx ((σ.set i (some a)).set j (some b)) g1
  | _ => .no
theorem s_par {i j : Nat} {x y : Str} {a b : Expr} {t : Av} {px py pt : Pos} {kt k2 pt2} (hc : X.calm = true) (hN : X.N.Nodup) (hi : X.N[i]? = some x) (hj : X.N[j]? = some y) (hij : i ≠ j)
    (hx : X.env.scope.names.lookup x = some .local) (hy : X.env.scope.names.lookup y = some .local) (ha : PA X [a, b] (tA X.K W t))
    (hw : swappedStores [.Tuple [.Name x px, .Name y py] kt pt] (.Tuple [a, b] k2 pt2) X.env = pure (some [x, y]))
    (hs : swapsWithSole [.Tuple [.Name x px, .Name y py] kt pt] (.Tuple [a, b] k2 pt2) pos.line X.env = pure false := by rfl) :
    PS X (.Assign [.Tuple [.Name x px, .Name y py] kt pt] (.Tuple [a, b] k2 pt2) pos) (tS X.K W (sPar i j t)) := PS.imp (ps_par hc hN hi hj hij hx hy ha hw hs) fun D' σ H h => by
  obtain ⟨m, σ', g, rl, sl, p⟩ := h
  refine ⟨m, σ', g, rl, sl.1, sl.2, sBind_s sl p fun ds g1 m1 H1 vs l1 r1 d1 p1 => ?_⟩
  split at p1
  · obtain ⟨v, ws, rfl, h1, h2⟩ := d1.consV
    obtain ⟨w, ws', rfl, h3, h4⟩ := h2.consV
    obtain rfl := h4.nilV
    exact ⟨v, w, rfl, p1 m1 H1 _ (Le.refl m1) r1 (((sl.mono l1).set h1).set h3)⟩
  · exact p1.elim
def sPar3 (i j l : Nat) (t : Av) : Sx := fun σ g => sBind σ (t σ g) fun ds g1 => match ds with
  | [a, b, c] => .nx (((σ.set i (some a)).set j (some b)).set l (some c)) g1
  | _ => .no
/-- name op= e -/
def sAug (i : Nat) (f : Op2) (e : Ev) : Sx := fun σ g => match σ[i]? with
  | some (some x) => sBind σ (e σ g) fun y g1 => sBind σ (f x y g1) fun z g2 => .nx (σ.set i (some z)) g2
  | _ => .no
theorem s_aug {i : Nat} {x : Str} {op : Operator} {r : R2} {f : Op2} {pos' : Pos} (ho : OpR X (inplaceOp op) r) (hs : OpS X.K W r f) (hN : X.N.Nodup) (hi : X.N[i]? = some x) (hx : Loc X.env.scope x) (he : PE X e (tE X.K W ee)) (hf : X.fn x = true ∨ X.env.scope.names.lookup x = some .local := by first | exact .inl rfl | exact .inr rfl | assumption) :
    PS X (.AugAssign (.Name x pos') op e pos) (tS X.K W (sAug i f ee)) := PS.imp (ps_aug hN hi hx he (ti := r) (fun pins s σ H x y v u Q I rx ry q => ho pins s σ H x y v u Q I rx ry q) hf) fun D' σ H h => by
  obtain ⟨m, σ', g, rl, sl, p⟩ := h
  unfold sAug at p
  split at p
  · rename_i d hd
    obtain ⟨v, h1, h2⟩ := sl.1 i d hd
    refine ⟨v, h1, m, σ', g, rl, sl.1, sl.2, sBind_s sl p fun e' g1 m1 H1 y l1 r1 d1 p1 => ?_⟩
    exact hs σ m1 g1 H1 d e' v y _ r1 (h2.mono l1) d1 (sBind_s (sl.mono l1) p1 fun z g2 m2 H2 w l2 r2 d2 p2 => p2 m2 H2 _ (Le.refl m2) r2 (((sl.mono l1).mono l2).set d2))
  · exact p.elim
end
theorem iop_sub1 {X : Cx} : OpR X (inplaceOp .Sub) (rI (fun _ _ => True) fun i j => .int (i - j)) := opI fun _ _ _ _ _ _ _ _ q => PyProof.Rows.isub_int q
def oAddI : Op2 := oI (fun _ _ => true) (· + ·)
theorem iop_add1 {X : Cx} : OpR X (inplaceOp .Add) (rI (fun _ _ => True) fun i j => .int (i + j)) := opI fun _ _ _ _ _ _ _ _ q => PyProof.Rows.iadd_int q
theorem oAddI_s {K : PySem.W.Frag} {W : WX} : OpS K W (rI (fun _ _ => True) fun i j => .int (i + j)) oAddI := oI_s fun _ _ _ => trivial
def oMulI : Op2 := oI cMul (· * ·)
theorem iop_mul1 {X : Cx} : OpR X (inplaceOp .Mult) (rI CMulW fun i j => .int (i * j)) := opI fun _ _ _ _ _ _ _ hc q => PyProof.Rows.imul_int q hc.ok
theorem oMulI_s {K : PySem.W.Frag} {W : WX} : OpS K W (rI CMulW fun i j => .int (i * j)) oMulI := oI_s fun _ _ h => cMul_ok h
def oModI : Op2 := oI (fun _ j => decide (0 < j)) (· % ·)
theorem oModI_s {K : PySem.W.Frag} {W : WX} : OpS K W (rI (fun _ j => 0 < j) fun i j => .int (i % j)) oModI := oI_s fun _ _ h => of_decide_eq_true h
/-! ### while -/
def sxWhile (c : Tv) (b : Sx) : Nat → Sx
  | 0 => fun _ _ => .no
  | n + 1 => fun σ g => sBind σ (c σ g) fun k g1 => match k with
    | true => match b σ g1 with
      | .nx σ' g' => sxWhile c b n σ' g'
      | .ct σ' g' => sxWhile c b n σ' g'
      | .bk σ' g' => .nx σ' g'
      | r => r
    | false => .nx σ g1
theorem s_while {X : Cx} {W : WX} {c : Expr} {body : List Stmt} {tc : Tv} {b : Sx} {pos : Pos} (n : Nat) (hp : PassesOwn (model X.prog X.w) X.A X.env X.xe) (hc : PT X c (tT X.K W tc)) (hb : PSs X body (tS X.K W b)) : PS X (.While c body [] pos) (tS X.K W (sxWhile tc b n)) :=
  PS.imp (ps_while hp hc hb) fun D' σ H h => by
    obtain ⟨m, σ', g, rl, sl, p⟩ := h
    refine ⟨fun n σv H => ∃ m1 σ1 g1, Rel X.K m1 g1 H ∧ SlotsL X.K m1 σ1 σv ∧ PostS X.K W (sxWhile tc b n σ1 g1) m1 D', ⟨n, m, σ', g, rl, sl, p⟩, ?_⟩
    rintro k σv H1 ⟨m1, σ1, g1, r1, s1, p1⟩
    cases k with
    | zero => exact p1.elim
    | succ k =>
      refine ⟨m1, σ1, g1, r1, s1.1, s1.2, sBind_s s1 p1 fun d g2 m2 H2 v l2 r2 d2 p2 => ?_⟩
      cases d2
      cases d with
      | false =>
        rw [if_neg Bool.false_ne_true]
        exact p2 m2 H2 σv (Le.refl m2) r2 (s1.mono l2)
      | true =>
        rw [if_pos rfl]
        refine ⟨fun σ3 H3 => ∃ m3 σ3' g3, Rel X.K m3 g3 H3 ∧ SlotsL X.K m3 σ3' σ3 ∧ PostS X.K W (sxWhile tc b k σ3' g3) m3 D', fun σ3 H3 q => ⟨k, Nat.lt_succ_self k, q⟩, m2, σ1, g2, r2, s1.mono l2, ?_⟩
        cases hr : b σ1 g2 with
        | nx σ3 g3 => simp only [hr] at p2; exact fun m4 H4 σ4 l4 r4 s4 => ⟨m4, σ3, g3, r4, s4, PostS.mono l4 p2⟩
        | ct σ3 g3 => simp only [hr] at p2; exact fun m4 H4 σ4 l4 r4 s4 => ⟨m4, σ3, g3, r4, s4, PostS.mono l4 p2⟩
        | bk σ3 g3 => simp only [hr] at p2; exact p2
        | rt d g3 => simp only [hr] at p2; exact p2
        | ex σ3 x g3 => simp only [hr] at p2; exact p2
        | no => simp only [hr] at p2; exact p2
end AW
namespace AW
open PySem PySem.Spec L2
/-! ### what is walked: fixed items, or a list that may change meanwhile -/
inductive Iv where
  | fix (ds : List D)
  | dyn (i : Nat)
  | dynf (i : Nat) (f : List D → List D)
  | dyng (f : G → Option (List D))
theorem den_md {K : PySem.W.Frag} {m m' : Md} (hF : ∀ a o, m.F a = some o → m'.F a = some o) (hr : ∀ i a, m.r i = some a → m'.r i = some a) {d : D} {v : V} (q : Den K m d v) : Den K m' d v := by
  exact Den.rec (motive_1 := fun d v _ => Den K m' d v) (motive_2 := fun ds vs _ => Dens K m' ds vs) .non .bl .int .str (fun h _ ih => .tup (sqT_le hF h) ih) (fun h _ ih => .lst (hF _ _ h) ih) (fun h _ ih => .seq (sqL_le hF h) ih) (fun h hl _ ih => .dct (hF _ _ h) hl ih) (fun h hl _ ih => .dtt (hF _ _ h) hl ih) (fun h hd _ ih => .ins (hF _ _ h) (hF _ _ hd) ih) .glo (fun h => .ref (hr _ _ h)) .val .nil (fun _ _ ih1 ih2 => .cons ih1 ih2) q
theorem dens_md {K : PySem.W.Frag} {m m' : Md} (hF : ∀ a o, m.F a = some o → m'.F a = some o) (hr : ∀ i a, m.r i = some a → m'.r i = some a) {d : List D} {v : List V} (q : Dens K m d v) : Dens K m' d v := by
  exact Dens.rec (motive_1 := fun d v _ => Den K m' d v) (motive_2 := fun ds vs _ => Dens K m' ds vs) .non .bl .int .str (fun h _ ih => .tup (sqT_le hF h) ih) (fun h _ ih => .lst (hF _ _ h) ih) (fun h _ ih => .seq (sqL_le hF h) ih) (fun h hl _ ih => .dct (hF _ _ h) hl ih) (fun h hl _ ih => .dtt (hF _ _ h) hl ih) (fun h hd _ ih => .ins (hF _ _ h) (hF _ _ hd) ih) .glo (fun h => .ref (hr _ _ h)) .val .nil (fun _ _ ih1 ih2 => .cons ih1 ih2) q
/-- what is frozen and where the cells lie, without what is set aside -/
structure LeF (m m' : Md) : Prop where
  F : ∀ a o, m.F a = some o → m'.F a = some o
  r : ∀ i a, m.r i = some a → m'.r i = some a
theorem Le.f {m m' : Md} (l : Le m m') : LeF m m' := ⟨l.F, l.r⟩
theorem LeF.trans {a b c : Md} (x : LeF a b) (y : LeF b c) : LeF a c := ⟨fun p o h => y.F p o (x.F p o h), fun i p h => y.r i p (x.r i p h)⟩
def ItAt (K : PySem.W.Frag) (J : It) (m' : Md) (g : G) (H : Hp) (ds : List D) : Prop := ∀ k, (ds.length ≤ k → J.stop k H) ∧ (∀ d, ds[k]? = some d → J.go k H ∧ ∀ x H', J.yld k H x H' → ∃ m2, Le m' m2 ∧ Rel K m2 g H' ∧ Den K m2 d x)
def ItOk (K : PySem.W.Frag) (m : Md) (iv : Iv) (J : It) : Prop := ∀ m' g H, LeF m m' → Rel K m' g H → match iv with
  | .fix ds => ItAt K J m' g H ds
  | .dyn i => ∀ ys, lmOf g i = some ys → ItAt K J m' g H ys
  | .dynf i f => ∀ ys, lmOf g i = some ys → ItAt K J m' g H (f ys)
  | .dyng f => ∀ ys, f g = some ys → ItAt K J m' g H ys
theorem ItOk.mono {K : PySem.W.Frag} {m m2 : Md} {iv : Iv} {J : It} (l : Le m m2) (h : ItOk K m iv J) : ItOk K m2 iv J := fun m' g H l2 r => h m' g H (l.f.trans l2) r
abbrev Ivv := Sg → G → Res Iv
def tIt (K : PySem.W.Frag) (W : WX) (iv : Ivv) : TI := fun σv H R => ∃ m σ g, Rel K m g H ∧ SlotsL K m σ σv ∧ Post K W σv (ItOk K) (iv σ g) m R
theorem PI.imp {X : Cx} {tg it : Expr} {t t' : TI} (h : PI X tg it t) (k : ∀ σ H Q, t' σ H Q → t σ H Q) : PI X tg it t' := ⟨fun pins s σ H Q I q => h.run pins s σ H Q I (k _ _ _ q)⟩
theorem PI.or {X : Cx} {tg it : Expr} {t t' : TI} (h : PI X tg it t) (h' : PI X tg it t') : PI X tg it (fun σ H R => t σ H R ∨ t' σ H R) := ⟨fun pins s σ H Q I q => q.elim (fun q => h.run pins s σ H Q I q) (fun q => h'.run pins s σ H Q I q)⟩
/-- a list or a tuple -/
def ivOf (d : D) (g : G) : Res Iv := match d with
  | .tup xs => .ok (.fix xs) g
  | .lst xs => .ok (.fix xs) g
  | .seq xs => .ok (.fix xs) g
  | .ref i => match lmOf g i with
    | some _ => .ok (.dyn i) g
    | none => .no
  | _ => .no
def iSeq (e : Ev) : Ivv := fun σ g => (e σ g).bind ivOf
theorem itl_at {K : PySem.W.Frag} {m : Md} {g : G} {H : Hp} {a : Addr} {ds : List D} {vs : List V} (r : Rel K m g H) (h : SqL K H a vs) (d : Dens K m ds vs) : ItAt K (Itl K a) m g H ds := fun k => by
  refine ⟨fun hk => ⟨vs, h, by rw [← d.length]; exact hk⟩, fun e he => ?_⟩
  obtain ⟨v, h1, h2⟩ := d.get he
  refine ⟨⟨vs, v, h, h1⟩, fun x H' y => ?_⟩
  obtain ⟨e1, y⟩ := y
  subst e1
  have := y vs h
  rw [h1] at this
  cases this
  exact ⟨m, Le.refl m, r, h2⟩
theorem itt_at {K : PySem.W.Frag} {m : Md} {g : G} {H : Hp} {a : Addr} {ds : List D} {vs : List V} (r : Rel K m g H) (h : SqT K H a vs) (d : Dens K m ds vs) : ItAt K (Itt K a) m g H ds := fun k => by
  refine ⟨fun hk => ⟨vs, h, by rw [← d.length]; exact hk⟩, fun e he => ?_⟩
  obtain ⟨v, h1, h2⟩ := d.get he
  refine ⟨⟨vs, v, h, h1⟩, fun x H' y => ?_⟩
  obtain ⟨e1, y⟩ := y
  subst e1
  have := y vs h
  rw [h1] at this
  cases this
  exact ⟨m, Le.refl m, r, h2⟩
theorem ivOf_s {K : PySem.W.Frag} {W : WX} {σv : L2.St} {m : Md} {g : G} {H : Hp} {d : D} {x : V} {R : It → Hp → Prop} (rl : Rel K m g H) (hd : Den K m d x) (p : Post K W σv (ItOk K) (ivOf d g) m R) :
    ((∃ xs, d = .tup xs) ∧ ∃ a, x = .ref a ∧ (∃ xs, SqT K H a xs) ∧ R (Itt K a) H) ∨ ((¬ ∃ xs, d = .tup xs) ∧ ∃ a, x = .ref a ∧ (∃ xs, SqL K H a xs) ∧ R (Itl K a) H) := by
  cases hd with
  | tup h1 h2 =>
    rename_i a xs vs
    refine .inl ⟨⟨xs, rfl⟩, a, rfl, ⟨vs, rl.seqT h1⟩, fin_ok rl ?_ p⟩
    exact fun m' g' H' l r' => itt_at r' (r'.seqT (sqT_le l.F h1)) (dens_md l.F l.r h2)
  | lst h1 h2 =>
    refine .inr ⟨(fun ⟨_, z⟩ => nomatch z), _, rfl, ⟨_, SqL.of (rl.ex _ _ h1)⟩, fin_ok rl ?_ p⟩
    exact fun m' g' H' l r' => itl_at r' (SqL.of (r'.ex _ _ (l.F _ _ h1))) (dens_md l.F l.r h2)
  | seq h1 h2 =>
    refine .inr ⟨(fun ⟨_, z⟩ => nomatch z), _, rfl, ⟨_, rl.seqL h1⟩, fin_ok rl ?_ p⟩
    exact fun m' g' H' l r' => itl_at r' (r'.seqL (sqL_le l.F h1)) (dens_md l.F l.r h2)
  | ref h1 =>
    rename_i i a
    have p' : Post K W σv (ItOk K) (match lmOf g i with | some _ => .ok (.dyn i) g | none => .no) m R := p
    split at p'
    · rename_i ys hy
      obtain ⟨a', vs, e1, h2, h3, h4⟩ := lmOf_s rl (.ref h1) hy
      cases e1
      refine .inr ⟨(fun ⟨_, z⟩ => nomatch z), a, rfl, ⟨vs, SqL.of h3⟩, fin_ok rl ?_ p'⟩
      intro m' g' H' l r' zs hz
      obtain ⟨b, ws, e2, h5, h6, h7⟩ := lmOf_s r' (.ref (l.r _ _ h1)) hz
      cases e2
      exact itl_at r' (SqL.of h6) h7
    · exact p'.elim
  | _ => exact p.elim
section
variable {X : Cx} {W : WX} {tg e : Expr} {ee : Ev} {es : List Expr} {t : Av}
theorem i_seq (he : PE X e (tE X.K W ee)) : PI X tg e (tIt X.K W (iSeq ee)) := PI.imp (PI.or (pi_tup he) (pi_list he)) fun σ H R h => by
  obtain ⟨m, σ', g, rl, sl, p⟩ := h
  unfold iSeq at p
  cases hr : ee σ' g with
  | no => rw [hr] at p; exact p.elim
  | ex x g1 =>
    rw [hr] at p
    refine .inl ⟨m, σ', g, rl, sl.1, sl.2, ?_⟩
    rw [hr]
    exact p
  | ok d g1 =>
    rw [hr] at p
    by_cases hd : ∃ xs, d = .tup xs
    · refine .inl ⟨m, σ', g, rl, sl.1, sl.2, ?_⟩
      rw [hr]
      refine fun m1 H1 x l1 r1 d1 => ?_
      rcases ivOf_s r1 d1 (Post.mono l1 p) with ⟨_, q⟩ | ⟨z, _⟩
      · exact q
      · exact (z hd).elim
    · refine .inr ⟨m, σ', g, rl, sl.1, sl.2, ?_⟩
      rw [hr]
      refine fun m1 H1 x l1 r1 d1 => ?_
      rcases ivOf_s r1 d1 (Post.mono l1 p) with ⟨z, _⟩ | ⟨_, q⟩
      · exact (hd z).elim
      · exact q
/-- ranges -/
def rangeD (lo : Int) : Nat → List D
  | 0 => []
  | n + 1 => .int lo :: rangeD (lo + 1) n
theorem rangeD_len (n : Nat) : ∀ lo, (rangeD lo n).length = n := by
  induction n with
  | zero => intro lo; rfl
  | succ n ih => intro lo; show (rangeD (lo + 1) n).length + 1 = n + 1; rw [ih]
theorem rangeD_get (n : Nat) : ∀ (lo : Int) (k : Nat) (d : D), (rangeD lo n)[k]? = some d → k < n ∧ d = .int (lo + k) := by
  induction n with
  | zero => intro lo k d h; simp [rangeD] at h
  | succ n ih =>
    intro lo k d h
    cases k with
    | zero => simp [rangeD] at h; subst h; simp
    | succ k =>
      have h' : (rangeD (lo + 1) n)[k]? = some d := by simpa [rangeD] using h
      obtain ⟨h1, h2⟩ := ih _ _ _ h'
      refine ⟨by omega, ?_⟩
      rw [h2]
      congr 1
      omega
theorem itr_ok {K : PySem.W.Frag} {m : Md} {lo : Int} {n : Nat} : ItOk K m (.fix (rangeD lo n)) (Itr lo n) := fun m' g H l r k => by
  refine ⟨fun hk => by rw [rangeD_len] at hk; exact hk, fun d hd => ?_⟩
  obtain ⟨h1, h2⟩ := rangeD_get n lo k d hd
  refine ⟨h1, fun x H' y => ?_⟩
  obtain ⟨e1, e2⟩ := y
  subst e1
  rw [e2, h2]
  exact ⟨m', Le.refl m', r, .int⟩
def smallI (i : Int) : Bool := decide (-4611686018427387904 ≤ i) && decide (i < 4611686018427387904)
theorem smallI_ok {i : Int} (h : smallI i = true) : -(2 ^ 62) ≤ i ∧ i < 2 ^ 62 := by
  unfold smallI at h
  rw [Bool.and_eq_true] at h
  have h1 := of_decide_eq_true h.1
  have h2 := of_decide_eq_true h.2
  have e : (2 : Int) ^ 62 = 4611686018427387904 := by decide
  rw [e]
  omega
def iRange1 (t : Av) : Ivv := fun σ g => (t σ g).bind fun ds g1 => match ds with
  | [.int j] => okIf (smallI j) (.fix (rangeD 0 j.toNat)) g1
  | _ => .no
def iRange2 (t : Av) : Ivv := fun σ g => (t σ g).bind fun ds g1 => match ds with
  | [.int i, .int j] => okIf (smallI i && smallI j) (.fix (rangeD i (j - i).toNat)) g1
  | _ => .no
theorem i_range1 {a : Expr} {p pos : Pos} (hg : Gl X "range") (hm : X.mg "range" = none) (ha : PA X [a] (tA X.K W t)) (hs : starEach [a] X.env = [(false, eval a X.env)] := by rfl) : PI X tg (.Call (.Name "range" p) [a] [] pos) (tIt X.K W (iRange1 t)) :=
  PI.imp (pi_range1 hg hm ha hs) fun σ H R h => by
    obtain ⟨m, σ', g, rl, sl, p⟩ := h
    refine ⟨m, σ', g, rl, sl.1, sl.2, Post.bind p fun ds g1 m1 H1 vs l1 r1 d1 p1 => ?_⟩
    split at p1
    · obtain ⟨v, ws, rfl, h1, h2⟩ := d1.consV
      obtain rfl := h2.nilV
      cases h1
      obtain ⟨c, p1⟩ := okIf_post p1
      obtain ⟨c1, c2⟩ := smallI_ok c
      exact ⟨_, rfl, c1, c2, fin_ok r1 itr_ok p1⟩
    · exact p1.elim
theorem i_range2 {a b : Expr} {p pos : Pos} (hg : Gl X "range") (hm : X.mg "range" = none) (ha : PA X [a, b] (tA X.K W t)) (hs : starEach [a, b] X.env = [(false, eval a X.env), (false, eval b X.env)] := by rfl) (hs2 : starEach [b] X.env = [(false, eval b X.env)] := by rfl) :
    PI X tg (.Call (.Name "range" p) [a, b] [] pos) (tIt X.K W (iRange2 t)) :=
  PI.imp (pi_range2 hg hm ha hs hs2) fun σ H R h => by
    obtain ⟨m, σ', g, rl, sl, p⟩ := h
    refine ⟨m, σ', g, rl, sl.1, sl.2, Post.bind p fun ds g1 m1 H1 vs l1 r1 d1 p1 => ?_⟩
    split at p1
    · obtain ⟨v, ws, rfl, h1, h2⟩ := d1.consV
      obtain ⟨v', ws', rfl, h3, h4⟩ := h2.consV
      obtain rfl := h4.nilV
      cases h1
      cases h3
      obtain ⟨c, p1⟩ := okIf_post p1
      rw [Bool.and_eq_true] at c
      obtain ⟨c1, c2⟩ := smallI_ok c.1
      obtain ⟨c3, c4⟩ := smallI_ok c.2
      exact ⟨_, _, rfl, ⟨c1, c2, c3, c4⟩, fin_ok r1 itr_ok p1⟩
    · exact p1.elim
/-- enumerate of a list, zip of two lists or two tuples -/
def enumD (i : Int) : List D → List D
  | [] => []
  | x :: xs => .tup [.int i, x] :: enumD (i + 1) xs
theorem enumD_len (xs : List D) : ∀ i, (enumD i xs).length = xs.length := by
  induction xs with
  | nil => intro i; rfl
  | cons x xs ih => intro i; show (enumD (i + 1) xs).length + 1 = xs.length + 1; rw [ih]
theorem enumD_get (xs : List D) : ∀ (i : Int) (k : Nat) (d : D), (enumD i xs)[k]? = some d → ∃ x, xs[k]? = some x ∧ d = .tup [.int (i + k), x] := by
  induction xs with
  | nil => intro i k d h; simp [enumD] at h
  | cons x xs ih =>
    intro i k d h
    cases k with
    | zero => simp [enumD] at h; subst h; exact ⟨x, by simp, by simp⟩
    | succ k =>
      have h' : (enumD (i + 1) xs)[k]? = some d := by simpa [enumD] using h
      obtain ⟨y, h1, h2⟩ := ih _ _ _ h'
      refine ⟨y, by simpa using h1, ?_⟩
      rw [h2]
      congr 3
      omega
def zipD : List D → List D → List D
  | x :: xs, y :: ys => .tup [x, y] :: zipD xs ys
  | _, _ => []
theorem zipD_get (xs : List D) : ∀ (ys : List D) (k : Nat) (d : D), (zipD xs ys)[k]? = some d → ∃ x y, xs[k]? = some x ∧ ys[k]? = some y ∧ d = .tup [x, y] := by
  induction xs with
  | nil => intro ys k d h; simp [zipD] at h
  | cons x xs ih =>
    intro ys k d h
    cases ys with
    | nil => simp [zipD] at h
    | cons y ys =>
      cases k with
      | zero => simp [zipD] at h; subst h; exact ⟨x, y, by simp, by simp, rfl⟩
      | succ k =>
        have h' : (zipD xs ys)[k]? = some d := by simpa [zipD] using h
        obtain ⟨a, b, h1, h2, h3⟩ := ih _ _ _ h'
        exact ⟨a, b, by simpa using h1, by simpa using h2, h3⟩
theorem zipD_len (xs : List D) : ∀ ys, (zipD xs ys).length = min xs.length ys.length := by
  induction xs with
  | nil => intro ys; simp [zipD]
  | cons x xs ih =>
    intro ys
    cases ys with
    | nil => simp [zipD]
    | cons y ys => simp only [zipD, List.length_cons, ih]; omega
theorem put_pair {K : PySem.W.Frag} {m : Md} {g : G} {H : Hp} {p : Addr} {a b : D} {x y : V} (r : Rel K m g H) (hp : H p = none) (h1 : Den K m a x) (h2 : Den K m b y) : ∃ m2, Le m m2 ∧ Rel K m2 g (upd H p (.tup [x, y])) ∧ Den K m2 (.tup [a, b]) (.ref p) :=
  ⟨m.put p (.tup [x, y]), le_put (r.free hp), r.put hp, put_tup (r.free hp) (.cons h1 (.cons h2 .nil))⟩
def iEnumL (t : Av) : Ivv := fun σ g => (t σ g).bind fun ds g1 => match ds with
  | [.lst xs] => .ok (.fix (enumD 0 xs)) g1
  | _ => .no
theorem i_enum {a : Expr} {p pos tpos : Pos} {elts : List Expr} {kk : Nat} (hg : Gl X "enumerate") (hm : X.mg "enumerate" = none) (ha : PA X [a] (tA X.K W t)) (hs : starEach [a] X.env = [(false, eval a X.env)] := by rfl) :
    PI X (.Tuple elts kk tpos) (.Call (.Name "enumerate" p) [a] [] pos) (tIt X.K W (iEnumL t)) := PI.imp (pi_enum hg hm ha hs) fun σ H R h => by
  obtain ⟨m, σ', g, rl, sl, p⟩ := h
  refine ⟨m, σ', g, rl, sl.1, sl.2, Post.bind p fun ds g1 m1 H1 vs l1 r1 d1 p1 => ?_⟩
  split at p1
  · obtain ⟨v, ws, rfl, h1, h2⟩ := d1.consV
    obtain rfl := h2.nilV
    cases h1 with
    | lst h3 h4 =>
      rename_i xs a vs
      refine ⟨a, vs, rfl, SqL.of (r1.ex _ _ h3), fin_ok r1 ?_ p1⟩
      intro m' g' H' l r' k
      have hs' := SqL.of (K := X.K) (r'.ex _ _ (l.F _ _ h3))
      refine ⟨fun hk => ⟨vs, hs', by rw [enumD_len] at hk; rw [← h4.length]; exact hk⟩, fun d hd => ?_⟩
      obtain ⟨x, h5, h6⟩ := enumD_get xs 0 k d hd
      obtain ⟨v, h7, h8⟩ := h4.get h5
      refine ⟨⟨vs, v, hs', h7⟩, fun y H2 yl => ?_⟩
      obtain ⟨T, z, e1, e2, e3, e4⟩ := yl
      have := e4 vs hs'
      rw [h7] at this
      cases this
      subst e1
      rw [e3, h6]
      have e0 : (0 : Int) + (k : Int) = (k : Int) := by omega
      rw [e0]
      exact put_pair r' e2 .int (den_md l.F l.r h8)
  · exact p1.elim
def iZipL (t : Av) : Ivv := fun σ g => (t σ g).bind fun ds g1 => match ds with
  | [.lst xs, .lst ys] => .ok (.fix (zipD xs ys)) g1
  | [.tup xs, .tup ys] => .ok (.fix (zipD xs ys)) g1
  | _ => .no
theorem i_zip {a b : Expr} {p pos tpos : Pos} {elts : List Expr} {kk : Nat} (hg : Gl X "zip") (hm : X.mg "zip" = none) (ha : PA X [a, b] (tA X.K W t)) (hs : starEach [a, b] X.env = (false, eval a X.env) :: starEach [b] X.env := by rfl) (hpl : (backTo pos (starEach [b] X.env)).any (·.1) = false := by rfl) :
    PI X (.Tuple elts kk tpos) (.Call (.Name "zip" p) [a, b] [] pos) (tIt X.K W (iZipL t)) := PI.imp (RZ.pi_zipA hg hm ha hs hpl) fun σ H R h => by
  obtain ⟨m, σ', g, rl, sl, p⟩ := h
  refine ⟨m, σ', g, rl, sl.1, sl.2, Post.bind p fun ds g1 m1 H1 vs l1 r1 d1 p1 => ?_⟩
  split at p1
  · obtain ⟨v, ws, rfl, h1, h2⟩ := d1.consV
    obtain ⟨v', ws', rfl, h1', h2'⟩ := h2.consV
    obtain rfl := h2'.nilV
    cases h1 with
    | lst h3 h4 =>
      cases h1' with
      | lst h3' h4' =>
        rename_i xs ys a vs b ws
        refine ⟨a, b, vs, ws, rfl, .inl ⟨SqL.of (r1.ex _ _ h3), SqL.of (r1.ex _ _ h3'), fin_ok r1 ?_ p1⟩⟩
        intro m' g' H' l r' k
        have ha' := SqL.of (K := X.K) (r'.ex _ _ (l.F _ _ h3))
        have hb' := SqL.of (K := X.K) (r'.ex _ _ (l.F _ _ h3'))
        refine ⟨fun hk => ⟨vs, ws, ha', hb', by rw [zipD_len] at hk; rw [← h4.length, ← h4'.length]; omega⟩, fun d hd => ?_⟩
        obtain ⟨x, y, h5, h6, h7⟩ := zipD_get xs ys k d hd
        obtain ⟨v, h8, h9⟩ := h4.get h5
        obtain ⟨w, h8', h9'⟩ := h4'.get h6
        refine ⟨⟨vs, ws, v, w, ha', hb', h8, h8'⟩, fun y H2 yl => ?_⟩
        obtain ⟨T, z1, z2, e1, e2, e3, e4, e5⟩ := yl
        have q1 := e4 vs ha'
        have q2 := e5 ws hb'
        rw [h8] at q1
        rw [h8'] at q2
        cases q1
        cases q2
        subst e1
        rw [e3, h7]
        exact put_pair r' e2 (den_md l.F l.r h9) (den_md l.F l.r h9')
  · obtain ⟨v, ws, rfl, h1, h2⟩ := d1.consV
    obtain ⟨v', ws', rfl, h1', h2'⟩ := h2.consV
    obtain rfl := h2'.nilV
    cases h1 with
    | tup h3 h4 =>
      cases h1' with
      | tup h3' h4' =>
        rename_i xs ys a vs b ws
        refine ⟨a, b, vs, ws, rfl, .inr ⟨r1.seqT h3, r1.seqT h3', fin_ok r1 ?_ p1⟩⟩
        intro m' g' H' l r' k
        have ha' := r'.seqT (sqT_le l.F h3)
        have hb' := r'.seqT (sqT_le l.F h3')
        refine ⟨fun hk => ⟨vs, ws, ha', hb', by rw [zipD_len] at hk; rw [← h4.length, ← h4'.length]; omega⟩, fun d hd => ?_⟩
        obtain ⟨x, y, h5, h6, h7⟩ := zipD_get xs ys k d hd
        obtain ⟨v, h8, h9⟩ := h4.get h5
        obtain ⟨w, h8', h9'⟩ := h4'.get h6
        refine ⟨⟨vs, ws, v, w, ha', hb', h8, h8'⟩, fun y H2 yl => ?_⟩
        obtain ⟨T, z1, z2, e1, e2, e3, e4, e5⟩ := yl
        have q1 := e4 vs ha'
        have q2 := e5 ws hb'
        rw [h8] at q1
        rw [h8'] at q2
        cases q1
        cases q2
        subst e1
        rw [e3, h7]
        exact put_pair r' e2 (den_md l.F l.r h9) (den_md l.F l.r h9')
  · exact p1.elim
end
/-! ### for -/
/-- what follows a turn -/
@[reducible] def sNext (r : SRes) (k : Sg → G → SRes) : SRes := match r with
  | .nx σ g => k σ g
  | .ct σ g => k σ g
  | .bk σ g => .nx σ g
  | r => r
def sForL (gv : Gv) (b : Sx) : List D → Sx
  | [] => fun σ g => .nx σ g
  | d :: ds => fun σ g => match gv d σ g with
    | some (σ1, g1) => sNext (b σ1 g1) (sForL gv b ds)
    | none => .no
def sForD (gv : Gv) (b : Sx) (i : Nat) : Nat → Nat → Sx
  | 0, _ => fun _ _ => .no
  | n + 1, k => fun σ g => match lmOf g i with
    | some ys => match ys[k]? with
      | some d => match gv d σ g with
        | some (σ1, g1) => sNext (b σ1 g1) (sForD gv b i n (k + 1))
        | none => .no
      | none => .nx σ g
    | none => .no
def sForF (gv : Gv) (b : Sx) (i : Nat) (f : List D → List D) : Nat → Nat → Sx
  | 0, _ => fun _ _ => .no
  | n + 1, k => fun σ g => match lmOf g i with
    | some ys => match (f ys)[k]? with
      | some d => match gv d σ g with
        | some (σ1, g1) => sNext (b σ1 g1) (sForF gv b i f n (k + 1))
        | none => .no
      | none => .nx σ g
    | none => .no
def sFor (iv : Ivv) (gv : Gv) (b : Sx) : Sx := fun σ g => sBind σ (iv σ g) fun v g1 => match v with
  | .fix ds => sForL gv b ds σ g1
  | .dyn i => sForD gv b i 100000 0 σ g1
  | .dynf i f => sForF gv b i f 100000 0 σ g1
  | .dyng _ => .no
theorem turn_s {K : PySem.W.Frag} {W : WX} {gv : Gv} {b : Sx} {k : Sg → G → SRes} {m : Md} {d : D} {σ : Sg} {σv : L2.St} {g : G} {H' : Hp} {x : V} {D' : Ends} {N : L2.St → Hp → Prop} {m2 : Md} (l : Le m m2) (sl : SlotsL K m σ σv) (r2 : Rel K m2 g H') (hd : Den K m2 d x)
    (p : PostS K W (match gv d σ g with | some (σ1, g1) => sNext (b σ1 g1) k | none => .no) m D') (hN : ∀ m3 σ3 σ3v g3 H3, Le m2 m3 → Rel K m3 g3 H3 → SlotsL K m3 σ3 σ3v → PostS K W (k σ3 g3) m3 D' → N σ3v H3) :
    tGt K gv x σv H' fun σ2 H2 => tS K W b { D' with nx := N, ct := N, bk := D'.nx } σ2 H2 := by
  refine ⟨m2, d, σ, g, r2, sl.mono l, hd, ?_⟩
  split at p
  · rename_i σ1 g1 hq
    rw [hq]
    refine fun m3 H3 σ3 l3 r3 s3 => ⟨m3, σ1, g1, r3, s3, ?_⟩
    cases hr : b σ1 g1 with
    | nx σ4 g4 => simp only [hr] at p; exact fun m5 H5 σ5 l5 r5 s5 => hN m5 σ4 σ5 g4 H5 (l3.trans l5) r5 s5 (PostS.mono (l.trans (l3.trans l5)) p)
    | ct σ4 g4 => simp only [hr] at p; exact fun m5 H5 σ5 l5 r5 s5 => hN m5 σ4 σ5 g4 H5 (l3.trans l5) r5 s5 (PostS.mono (l.trans (l3.trans l5)) p)
    | bk σ4 g4 => simp only [hr] at p; exact PostS.mono (m := m) (l.trans l3) p
    | rt d g4 => simp only [hr] at p; exact PostS.mono (m := m) (l.trans l3) p
    | ex σ4 e g4 => simp only [hr] at p; exact PostS.mono (m := m) (l.trans l3) p
    | no => simp only [hr] at p; exact p
  · exact p.elim
theorem s_for {X : Cx} {W : WX} {tg iter : Expr} {body : List Stmt} {iv : Ivv} {gv : Gv} {b : Sx} {pos : Pos} (hp : PassesOwn (model X.prog X.w) X.A X.env X.xe) (hc : X.calm = true) (hi : PI X tg iter (tIt X.K W iv)) (hg : PG X tg (tGt X.K gv)) (hb : PSs X body (tS X.K W b))
    (hs : ∀ x, foldedSetIterable iter X.env x = pure x := by intro _; rfl) : PS X (.For tg iter body [] pos) (tS X.K W (sFor iv gv b)) := PS.imp (ps_for hp hc hi hg hb hs) fun D' σ H h => by
  obtain ⟨m, σ', g, rl, sl, p⟩ := h
  refine ⟨m, σ', g, rl, sl, sBind_s sl p fun v g1 m1 H1 J l1 r1 d1 p1 => ?_⟩
  cases v with
  | fix ds =>
    refine ⟨fun i n σv H => ∃ m2 σ2 g2, Le m1 m2 ∧ Rel X.K m2 g2 H ∧ SlotsL X.K m2 σ2 σv ∧ n = ds.length - i ∧ i ≤ ds.length ∧ PostS X.K W (sForL gv b (ds.drop i) σ2 g2) m2 D', ⟨ds.length, m1, σ', g1, Le.refl m1, r1, sl.mono l1, rfl, Nat.zero_le _, p1⟩, ?_⟩
    rintro i n σv H2 ⟨m2, σ2, g2, l2, r2, s2, hn, hle, p2⟩
    obtain ⟨hstop, hgo⟩ := d1 m2 g2 H2 l2.f r2 i
    by_cases hi : i < ds.length
    · have hdi : ds[i]? = some ds[i] := by simp [hi]
      obtain ⟨go, hy⟩ := hgo _ hdi
      refine .inr ⟨go, fun σv H => ∃ m2 σ2 g2, Le m1 m2 ∧ Rel X.K m2 g2 H ∧ SlotsL X.K m2 σ2 σv ∧ PostS X.K W (sForL gv b (ds.drop (i + 1)) σ2 g2) m2 D', fun σv H ⟨m3, σ3, g3, l3, r3, s3, p3⟩ => ⟨ds.length - (i + 1), by omega, m3, σ3, g3, l3, r3, s3, rfl, hi, p3⟩, fun x H3 yl => ?_⟩
      obtain ⟨m3, l3, r3, hd⟩ := hy x H3 yl
      rw [List.drop_eq_getElem_cons hi] at p2
      exact turn_s l3 s2 r3 hd p2 fun m4 σ4 σ4v g4 H4 l4 r4 s4 p4 => ⟨m4, σ4, g4, l2.trans (l3.trans l4), r4, s4, p4⟩
    · have hi' : i = ds.length := by omega
      subst hi'
      rw [List.drop_length] at p2
      exact .inl ⟨hstop (Nat.le_refl _), p2 m2 H2 σv (Le.refl m2) r2 s2⟩
  | dyn j =>
    refine ⟨fun i n σv H => ∃ m2 σ2 g2, Le m1 m2 ∧ Rel X.K m2 g2 H ∧ SlotsL X.K m2 σ2 σv ∧ PostS X.K W (sForD gv b j n i σ2 g2) m2 D', ⟨100000, m1, σ', g1, Le.refl m1, r1, sl.mono l1, p1⟩, ?_⟩
    rintro i n σv H2 ⟨m2, σ2, g2, l2, r2, s2, p2⟩
    cases n with
    | zero => exact p2.elim
    | succ n =>
      unfold sForD at p2
      split at p2
      · rename_i ys hy
        obtain ⟨hstop, hgo⟩ := d1 m2 g2 H2 l2.f r2 ys hy i
        split at p2
        · rename_i d hd
          obtain ⟨go, hyl⟩ := hgo d hd
          refine .inr ⟨go, fun σv H => ∃ m2 σ2 g2, Le m1 m2 ∧ Rel X.K m2 g2 H ∧ SlotsL X.K m2 σ2 σv ∧ PostS X.K W (sForD gv b j n (i + 1) σ2 g2) m2 D', fun σv H q => ⟨n, Nat.lt_succ_self n, q⟩, fun x H3 yl => ?_⟩
          obtain ⟨m3, l3, r3, hd'⟩ := hyl x H3 yl
          exact turn_s l3 s2 r3 hd' p2 fun m4 σ4 σ4v g4 H4 l4 r4 s4 p4 => ⟨m4, σ4, g4, l2.trans (l3.trans l4), r4, s4, p4⟩
        · rename_i hd
          exact .inl ⟨hstop (List.getElem?_eq_none_iff.mp hd), p2 m2 H2 σv (Le.refl m2) r2 s2⟩
      · exact p2.elim
  | dyng f => exact p1.elim
  | dynf j f =>
    refine ⟨fun i n σv H => ∃ m2 σ2 g2, Le m1 m2 ∧ Rel X.K m2 g2 H ∧ SlotsL X.K m2 σ2 σv ∧ PostS X.K W (sForF gv b j f n i σ2 g2) m2 D', ⟨100000, m1, σ', g1, Le.refl m1, r1, sl.mono l1, p1⟩, ?_⟩
    rintro i n σv H2 ⟨m2, σ2, g2, l2, r2, s2, p2⟩
    cases n with
    | zero => exact p2.elim
    | succ n =>
      unfold sForF at p2
      split at p2
      · rename_i ys hy
        obtain ⟨hstop, hgo⟩ := d1 m2 g2 H2 l2.f r2 ys hy i
        split at p2
        · rename_i d hd
          obtain ⟨go, hyl⟩ := hgo d hd
          refine .inr ⟨go, fun σv H => ∃ m2 σ2 g2, Le m1 m2 ∧ Rel X.K m2 g2 H ∧ SlotsL X.K m2 σ2 σv ∧ PostS X.K W (sForF gv b j f n (i + 1) σ2 g2) m2 D', fun σv H q => ⟨n, Nat.lt_succ_self n, q⟩, fun x H3 yl => ?_⟩
          obtain ⟨m3, l3, r3, hd'⟩ := hyl x H3 yl
          exact turn_s l3 s2 r3 hd' p2 fun m4 σ4 σ4v g4 H4 l4 r4 s4 p4 => ⟨m4, σ4, g4, l2.trans (l3.trans l4), r4, s4, p4⟩
        · rename_i hd
          exact .inl ⟨hstop (List.getElem?_eq_none_iff.mp hd), p2 m2 H2 σv (Le.refl m2) r2 s2⟩
      · exact p2.elim
end AW
namespace AW
open PySem PySem.Spec L2
/-! ### comprehensions -/
def wipeD (σ : Sg) : List Nat → Sg
  | [] => σ
  | v :: vs => (wipeD σ vs).set v none
theorem wipeD_len (σ : Sg) : ∀ vs, (wipeD σ vs).length = σ.length
  | [] => rfl
  | v :: vs => by unfold wipeD; rw [List.length_set, wipeD_len σ vs]
theorem wipe_s {K : PySem.W.Frag} {m : Md} {σ : Sg} {σv : L2.St} (h : SlotsL K m σ σv) : ∀ vs, SlotsL K m (wipeD σ vs) (wipe σv vs)
  | [] => h
  | v :: vs => by
    have ih := wipe_s h vs
    refine ⟨fun i d q => ?_, by unfold wipeD wipe; rw [List.length_set, List.length_set]; exact ih.2⟩
    unfold wipeD at q
    unfold wipe
    by_cases hi : v = i
    · subst hi
      by_cases hl : v < (wipeD σ vs).length
      · rw [List.getElem?_set_self hl] at q; cases q
      · rw [List.getElem?_eq_none (by simp; omega)] at q; cases q
    · rw [List.getElem?_set_ne hi] at q ⊢
      exact ih.1 i d q
theorem wipe_set {σv : L2.St} {x : Option V} {i : Nat} : ∀ {vs : List Nat}, i ∈ vs → wipe (σv.set i x) vs = wipe σv vs
  | v :: vs, h => by
    unfold wipe
    by_cases hv : i = v
    · subst hv
      by_cases hm : i ∈ vs
      · rw [wipe_set hm]
      · have key : ∀ (us : List Nat), i ∉ us → wipe (σv.set i x) us = (wipe σv us).set i x := by
          intro us
          induction us with
          | nil => intro _; rfl
          | cons u us ih =>
            intro hu
            have h1 : i ≠ u := fun z => hu (by rw [z]; exact List.mem_cons_self)
            have h2 : i ∉ us := fun z => hu (List.mem_cons_of_mem _ z)
            unfold wipe
            rw [ih h2, List.set_comm _ _ h1]
        rw [key vs hm, List.set_set]
    · have hm : i ∈ vs := by
        rcases List.mem_cons.mp h with z | z
        · exact absurd z hv
        · exact z
      rw [wipe_set hm]
theorem wipe_sub (σ : L2.St) : ∀ (us vs : List Nat), (∀ u ∈ us, u ∈ vs) → wipe (wipe σ us) vs = wipe σ vs
  | [], _, _ => rfl
  | u :: us, vs, h => by
    have e : wipe σ (u :: us) = (wipe σ us).set u none := rfl
    rw [e, wipe_set (h u List.mem_cons_self)]
    exact wipe_sub σ us vs fun x hx => h x (List.mem_cons_of_mem _ hx)
theorem wipe_idem (σ : L2.St) (vs : List Nat) : wipe (wipe σ vs) vs = wipe σ vs := wipe_sub σ vs vs fun _ h => h
/-- a comprehension's target -/
def CT (K : PySem.W.Frag) (vs : List Nat) (t : TG) (gv : Gv) : Prop := ∀ (m : Md) (d : D) (v : V) (σ : Sg) (σv : L2.St) (g : G) (H : Hp) (σ' : Sg) (g' : G) (Q : L2.St → Hp → Prop), Rel K m g H → SlotsL K m σ σv → Den K m d v → gv d σ g = some (σ', g') →
  (∀ σv', SlotsL K m σ' σv' → wipe σv' vs = wipe σv vs → Rel K m g' H → Q σv' H) → t v σv H Q
def CTs (K : PySem.W.Frag) (vs : List Nat) (t : TGs) (gv : Gvs) : Prop := ∀ (m : Md) (ds : List D) (ws : List V) (σ : Sg) (σv : L2.St) (g : G) (H : Hp) (σ' : Sg) (g' : G) (Q : L2.St → Hp → Prop), Rel K m g H → SlotsL K m σ σv → Dens K m ds ws → gv ds σ g = some (σ', g') →
  (∀ σv', SlotsL K m σ' σv' → wipe σv' vs = wipe σv vs → Rel K m g' H → Q σv' H) → t ws σv H Q
theorem ct_name {K : PySem.W.Frag} {vs : List Nat} {i : Nat} (h : i ∈ vs) : CT K vs (gName i) (gvName i) := fun m d v σ σv g H σ' g' Q r sl hd e k => by
  cases e
  exact k _ (sl.set hd) (wipe_set h) r
theorem cts_nil {K : PySem.W.Frag} {vs : List Nat} : CTs K vs gNil gvNil := fun m ds ws σ σv g H σ' g' Q r sl hd e k => by
  unfold gvNil at e
  split at e
  · cases e
    exact ⟨hd.nilV, k _ sl rfl r⟩
  · cases e
theorem cts_cons {K : PySem.W.Frag} {vs : List Nat} {t : TG} {ts : TGs} {a : Gv} {b : Gvs} (h1 : CT K vs t a) (h2 : CTs K vs ts b) : CTs K vs (gCons t ts) (gvCons a b) := fun m ds ws σ σv g H σ' g' Q r sl hd e k => by
  unfold gvCons at e
  split at e
  · obtain ⟨v, us, rfl, h3, h4⟩ := hd.consV
    split at e
    · rename_i σ2 g2 hq
      refine ⟨v, us, rfl, ?_⟩
      refine h1 m _ v σ σv g H σ2 g2 _ r sl h3 hq fun σv2 s2 w2 r2 => ?_
      exact h2 m _ us σ2 σv2 g2 H σ' g' Q r2 s2 h4 e fun σv3 s3 w3 r3 => k σv3 s3 (w3.trans w2) r3
    · cases e
  · cases e
theorem ct_tup {K : PySem.W.Frag} {vs : List Nat} {ts : TGs} {b : Gvs} {n : Nat} (h : CTs K vs ts b) : CT K vs (gTup K n ts) (gvTup n b) := fun m d v σ σv g H σ' g' Q r sl hd e k => by
  unfold gvTup at e
  split at e
  · split at e
    · rename_i hl
      cases hd with
      | tup h1 h2 => exact ⟨_, _, rfl, r.seqT h1, by rw [← h2.length]; exact hl, h m _ _ σ σv g H σ' g' Q r sl h2 e k⟩
    · cases e
  · cases e
/-- one turn: nothing, or an item -/
def lcT (gv : Gv) (tt : Tv) (te : Ev) (σ : Sg) (d : D) (g : G) : Res (Option D) := match gv d σ g with
  | some (σ1, g1) => match tt σ1 g1 with
    | .ok true g2 => match te σ1 g2 with
      | .ok y g3 => .ok (some y) g3
      | _ => .no
    | .ok false g2 => .ok none g2
    | _ => .no
  | none => .no
def lcPut (o : Option D) (r : Res (List D)) : Res (List D) := match o with
  | none => r
  | some y => match r with
    | .ok ys g => .ok (y :: ys) g
    | _ => .no
def lcL (gv : Gv) (tt : Tv) (te : Ev) (σ : Sg) : List D → G → Res (List D)
  | [], g => .ok [] g
  | d :: ds, g => match lcT gv tt te σ d g with
    | .ok o g1 => lcPut o (lcL gv tt te σ ds g1)
    | _ => .no
def lcD (gv : Gv) (tt : Tv) (te : Ev) (σ : Sg) (i : Nat) : Nat → Nat → G → Res (List D)
  | 0, _, _ => .no
  | n + 1, k, g => match lmOf g i with
    | some ys => match ys[k]? with
      | some d => match lcT gv tt te σ d g with
        | .ok o g1 => lcPut o (lcD gv tt te σ i n (k + 1) g1)
        | _ => .no
      | none => .ok [] g
    | none => .no
def lcF (gv : Gv) (tt : Tv) (te : Ev) (σ : Sg) (i : Nat) (f : List D → List D) : Nat → Nat → G → Res (List D)
  | 0, _, _ => .no
  | n + 1, k, g => match lmOf g i with
    | some ys => match (f ys)[k]? with
      | some d => match lcT gv tt te σ d g with
        | .ok o g1 => lcPut o (lcF gv tt te σ i f n (k + 1) g1)
        | _ => .no
      | none => .ok [] g
    | none => .no
def lcG (gv : Gv) (tt : Tv) (te : Ev) (σ : Sg) (f : G → Option (List D)) : Nat → Nat → G → Res (List D)
  | 0, _, _ => .no
  | n + 1, k, g => match f g with
    | some ys => match ys[k]? with
      | some d => match lcT gv tt te σ d g with
        | .ok o g1 => lcPut o (lcG gv tt te σ f n (k + 1) g1)
        | _ => .no
      | none => .ok [] g
    | none => .no
def lcAll (gv : Gv) (tt : Tv) (te : Ev) (σ : Sg) (v : Iv) (g : G) : Res (List D) := match v with
  | .fix ds => lcL gv tt te σ ds g
  | .dyn i => lcD gv tt te σ i 100000 0 g
  | .dynf i f => lcF gv tt te σ i f 100000 0 g
  | .dyng f => lcG gv tt te σ f 100000 0 g
def noEx {α : Type} : Res α → Res α
  | .ok a g => .ok a g
  | _ => .no
def eLc (iv : Ivv) (gv : Gv) (tt : Tv) (te : Ev) (vs : List Nat) : Ev := fun σ g => (iv σ g).bind fun v g1 => (noEx (lcAll gv tt te (wipeD σ vs) v g1)).bind fun ys g2 => okIf (small ys) (.lst ys) g2
/-- the list changes afterwards -/
def eLcM (iv : Ivv) (gv : Gv) (tt : Tv) (te : Ev) (vs : List Nat) : Ev := fun σ g => (iv σ g).bind fun v g1 => (noEx (lcAll gv tt te (wipeD σ vs) v g1)).bind fun ys g2 => okIf (small ys) (.ref g2.length) (g2 ++ [.lst ys])
theorem CellOk.md {K : PySem.W.Frag} {m m' : Md} (hF : ∀ a o, m.F a = some o → m'.F a = some o) (hr : ∀ i a, m.r i = some a → m'.r i = some a) {a : Addr} {c : Cell} {o : HO} (h : CellOk K m a c o) : CellOk K m' a c o := by
  cases c with
  | lst xs => obtain ⟨vs, e1, h⟩ := h; exact ⟨vs, e1, dens_md hF hr h⟩
  | dct ks xs => obtain ⟨vs, e1, hl, h⟩ := h; exact ⟨vs, e1, hl, dens_md hF hr h⟩
  | dtt ks xs => obtain ⟨vs, e1, hl, h⟩ := h; exact ⟨vs, e1, hl, dens_md hF hr h⟩
  | tbg p => exact h
  | tab p q =>
    obtain ⟨ea, ps, e1, h1, h2⟩ := h
    exact ⟨ea, ps, e1, h1, fun pos cv hc => by
      obtain ⟨c, e2, e3⟩ := h2 pos cv hc
      exact ⟨c, e2, hF _ _ e3⟩⟩
  | new c j => obtain ⟨dx, e1, h1⟩ := h; exact ⟨dx, e1, hr _ _ h1⟩
  | own => exact h
  | xd => exact h
  | ins c j fs =>
    obtain ⟨dx, ws, e1, h1, hl, h2⟩ := h
    exact ⟨dx, ws, e1, hr _ _ h1, hl, fun i d q => by
      obtain ⟨v, q1, q2⟩ := h2 i d q
      exact ⟨v, q1, den_md hF hr q2⟩⟩
/-- something is set aside -/
def Md.hide (m : Md) (p : Addr) (o : HO) : Md := ⟨m.F, m.r, upd m.hid p o⟩
theorem le_hide {m : Md} {p : Addr} {o : HO} (h : m.hid p = none) : Le m (m.hide p o) := ⟨fun _ _ h => h, fun _ _ h => h, fun a u e => by
  show upd m.hid p o a = some u
  rw [upd_ne (ne_of_none e h)]
  exact e⟩
theorem Rel.hfree {K : PySem.W.Frag} {m : Md} {g : G} {H : Hp} (r : Rel K m g H) {p : Addr} (h : H p = none) : m.hid p = none := by
  cases q : m.hid p with
  | none => rfl
  | some o => rw [(r.hid p o q).1] at h; cases h
theorem Rel.hide {K : PySem.W.Frag} {m : Md} {g : G} {H : Hp} (r : Rel K m g H) {p : Addr} {o : HO} (h : H p = none) : Rel K (m.hide p o) g (upd H p o) where
  ex := fun a u e => by
    have e' : m.F a = some u := e
    rw [upd_ne (ne_of_none (r.ex a u e') h)]
    exact r.ex a u e'
  cell := fun i c hc => by
    obtain ⟨a, h1, h2, u, h3, h4⟩ := r.cell i c hc
    exact ⟨a, h1, h2, u, by rw [upd_ne (ne_of_none h3 h)]; exact h3, h4.mono (le_hide (r.hfree h))⟩
  dom := r.dom
  inj := r.inj
  hid := fun a u e => by
    have e' : upd m.hid p o a = some u := e
    by_cases ha : a = p
    · subst ha
      rw [upd_same] at e' ⊢
      refine ⟨e', r.free h, fun i z => ?_⟩
      have zl := r.dom i a z
      obtain ⟨b, h1, _, u', h3, _⟩ := r.cell i g[i] (by simp [zl])
      have z' : m.r i = some a := z
      rw [z'] at h1
      cases h1
      rw [h] at h3
      cases h3
    · rw [upd_ne ha] at e' ⊢
      exact r.hid a u e'
/-- what is set aside changes -/
theorem Rel.hset {K : PySem.W.Frag} {m : Md} {g : G} {H : Hp} (r : Rel K m g H) {p : Addr} {o u : HO} (h : m.hid p = some u) : Rel K (m.hide p o) g (upd H p o) := by
  obtain ⟨h1, h2, h3⟩ := r.hid p u h
  refine ⟨fun a w e => ?_, fun i c hc => ?_, r.dom, r.inj, fun a w e => ?_⟩
  · have e' : m.F a = some w := e
    have ha : a ≠ p := fun z => by rw [z, h2] at e'; cases e'
    rw [upd_ne ha]
    exact r.ex a w e'
  · obtain ⟨a, h4, h5, w, h6, h7⟩ := r.cell i c hc
    have ha : a ≠ p := fun z => by rw [z] at h4; exact h3 i h4
    exact ⟨a, h4, h5, w, by rw [upd_ne ha]; exact h6, CellOk.md (m := m) (m' := m.hide p o) (fun _ _ z => z) (fun _ _ z => z) h7⟩
  · have e' : upd m.hid p o a = some w := e
    by_cases ha : a = p
    · subst ha
      rw [upd_same] at e' ⊢
      exact ⟨e', h2, h3⟩
    · rw [upd_ne ha] at e' ⊢
      exact r.hid a w e'
/-- it is set aside no more, and frozen | a cell -/
def Md.unhide (m : Md) (p : Addr) (old : Option HO) : Hp := fun b => if b = p then old else m.hid b
theorem Rel.freeze {K : PySem.W.Frag} {m : Md} {g : G} {H : Hp} (r : Rel K m g H) {p : Addr} {vs : List V} (h : m.hid p = some (.lst vs)) : Rel K ⟨upd m.F p (.lst vs), m.r, m.unhide p none⟩ g H := by
  obtain ⟨h1, h2, h3⟩ := r.hid p _ h
  have hF : ∀ a o, m.F a = some o → upd m.F p (.lst vs) a = some o := fun a o e => by rw [upd_ne (ne_of_none e h2)]; exact e
  refine ⟨fun a w e => ?_, fun i c hc => ?_, r.dom, r.inj, fun a w e => ?_⟩
  · have e' : upd m.F p (.lst vs) a = some w := e
    by_cases ha : a = p
    · subst ha
      rw [upd_same] at e'
      rw [h1]
      exact e'
    · rw [upd_ne ha] at e'
      exact r.ex a w e'
  · obtain ⟨a, h4, h5, w, h6, h7⟩ := r.cell i c hc
    have ha : a ≠ p := fun z => by rw [z] at h4; exact h3 i h4
    refine ⟨a, h4, ?_, w, h6, ?_⟩
    · show upd m.F p (.lst vs) a = none
      rw [upd_ne ha]
      exact h5
    · exact CellOk.md (m := m) (m' := ⟨upd m.F p (.lst vs), m.r, m.unhide p none⟩) hF (fun _ _ z => z) h7
  · have e' : (if a = p then none else m.hid a) = some w := e
    by_cases ha : a = p
    · rw [if_pos ha] at e'; cases e'
    · rw [if_neg ha] at e'
      obtain ⟨q1, q2, q3⟩ := r.hid a w e'
      refine ⟨q1, ?_, q3⟩
      show upd m.F p (.lst vs) a = none
      rw [upd_ne ha]
      exact q2
theorem Rel.tocell {K : PySem.W.Frag} {m : Md} {g : G} {H : Hp} (r : Rel K m g H) {p : Addr} {vs : List V} {xs : List D} (h : m.hid p = some (.lst vs)) (d : Dens K m xs vs) : Rel K ⟨m.F, fun i => if i = g.length then some p else m.r i, m.unhide p none⟩ (g ++ [.lst xs]) H := by
  obtain ⟨h1, h2, h3⟩ := r.hid p _ h
  have hr : ∀ i a, m.r i = some a → (fun i => if i = g.length then some p else m.r i) i = some a := fun i a e => by
    show (if i = g.length then some p else m.r i) = some a
    rw [if_neg (fun z => by have := r.dom i a e; omega)]
    exact e
  refine ⟨r.ex, fun i c hc => ?_, fun i a e => ?_, fun i j a e1 e2 => ?_, fun a w e => ?_⟩
  · by_cases hi : i < g.length
    · rw [List.getElem?_append_left hi] at hc
      obtain ⟨a, h4, h5, w, h6, h7⟩ := r.cell i c hc
      exact ⟨a, hr i a h4, h5, w, h6, CellOk.md (m := m) (m' := ⟨m.F, fun i => if i = g.length then some p else m.r i, m.unhide p none⟩) (fun _ _ z => z) hr h7⟩
    · have hlt : i < (g ++ [Cell.lst xs]).length := (List.getElem?_eq_some_iff.mp hc).1
      have hi2 : i = g.length := by rw [List.length_append] at hlt; simp at hlt; omega
      subst hi2
      rw [List.getElem?_append_right (Nat.le_refl _)] at hc
      simp at hc
      subst hc
      refine ⟨p, ?_, h2, _, h1, vs, rfl, dens_md (m := m) (m' := ⟨m.F, fun i => if i = g.length then some p else m.r i, m.unhide p none⟩) (fun _ _ z => z) hr d⟩
      show (if g.length = g.length then some p else m.r g.length) = some p
      rw [if_pos rfl]
  · have e' : (if i = g.length then some p else m.r i) = some a := e
    rw [List.length_append]
    by_cases hi : i = g.length
    · simp [hi]
    · rw [if_neg hi] at e'
      have := r.dom i a e'
      simp
      omega
  · have e1' : (if i = g.length then some p else m.r i) = some a := e1
    have e2' : (if j = g.length then some p else m.r j) = some a := e2
    by_cases hi : i = g.length
    · rw [if_pos hi] at e1'
      cases e1'
      by_cases hj : j = g.length
      · omega
      · rw [if_neg hj] at e2'
        exact (h3 j e2').elim
    · rw [if_neg hi] at e1'
      by_cases hj : j = g.length
      · rw [if_pos hj] at e2'
        cases e2'
        exact (h3 i e1').elim
      · rw [if_neg hj] at e2'
        exact r.inj i j a e1' e2'
  · have e' : (if a = p then none else m.hid a) = some w := e
    by_cases ha : a = p
    · rw [if_pos ha] at e'; cases e'
    · rw [if_neg ha] at e'
      obtain ⟨q1, q2, q3⟩ := r.hid a w e'
      refine ⟨q1, q2, fun i z => ?_⟩
      have z' : (if i = g.length then some p else m.r i) = some a := z
      by_cases hi : i = g.length
      · rw [if_pos hi] at z'
        exact ha (Option.some.inj z').symm
      · rw [if_neg hi] at z'
        exact q3 i z'
def addO (acc : List D) : Option D → List D
  | none => acc
  | some y => acc ++ [y]
def consO : Option D → List D → List D
  | none, zs => zs
  | some y, zs => y :: zs
abbrev W0 : WX := fun _ _ _ _ => False
/-- one turn of the list's making -/
theorem lcT_s {K : PySem.W.Frag} {gv : Gv} {tt : Tv} {te : Ev} {vs : List Nat} {t : TG} {σ : Sg} {σv : L2.St} {m0 m : Md} {d : D} {x : V} {g g1 : G} {H : Hp} {Dl : Addr} {acc : List D} {accv : List V} {o : Option D} {Nx : Hp → Prop} {wq : L2.St} (hwq : wipe σv vs = wq) (ct : CT K vs t gv) (l0 : Le m0 m) (r : Rel K m g H) (sl : SlotsL K m0 σ σv)
    (hD : m.hid Dl = some (.lst accv)) (n0 : m0.hid Dl = none) (ha : Dens K m acc accv) (hz : ∀ y, o = some y → acc.length < 100000) (hd : Den K m d x) (e : lcT gv tt te σ d g = .ok o g1)
    (k : ∀ m2 H2 accv2, Le m0 m2 → Rel K m2 g1 H2 → m2.hid Dl = some (.lst accv2) → Dens K m2 (addO acc o) accv2 → Nx H2) :
    t x σv H fun σ2 H2 => wipe σ2 vs = wq ∧ tT K W0 tt σ2 H2 fun b H3 =>
      if b = true then tE K W0 te σ2 H3 fun y H4 => ∃ acc, H4 Dl = some (.lst acc) ∧ acc.length < sizeLine ∧ Nx (upd H4 Dl (.lst (acc ++ [y]))) else Nx H3 := by
  unfold lcT at e
  split at e
  · rename_i σ1 g2 hq
    refine ct m d x σ σv g H σ1 g2 _ r (sl.mono l0) hd hq fun σv2 s2 w2 r2 => ⟨w2.trans hwq, m, σ1, g2, r2, s2.1, s2.2, ?_⟩
    split at e
    · rename_i g3 ht
      rw [ht]
      refine fun m3 H3 b l3 r3 eb => ?_
      subst eb
      rw [if_pos rfl]
      refine ⟨m3, σ1, g3, r3, (s2.mono l3).1, s2.2, ?_⟩
      split at e
      · rename_i y g4 hy
        rw [hy]
        refine fun m4 H4 yv l4 r4 d4 => ?_
        cases e
        have hD4 := l4.hid _ _ (l3.hid _ _ hD)
        have hz' := hz y rfl
        refine ⟨accv, (r4.hid _ _ hD4).1, by rw [← ha.length, sizeLine_eq]; omega, ?_⟩
        refine k (m4.hide Dl (.lst (accv ++ [yv]))) _ (accv ++ [yv]) ?_ (r4.hset hD4) (by show upd m4.hid Dl _ Dl = _; exact upd_same) ?_
        · have lx := l0.trans (l3.trans l4)
          refine ⟨lx.F, lx.r, fun a u q => ?_⟩
          show upd m4.hid Dl _ a = some u
          rw [upd_ne (fun z => by rw [z, n0] at q; cases q)]
          exact lx.hid a u q
        · exact dens_md (m := m4) (m' := m4.hide Dl (.lst (accv ++ [yv]))) (fun _ _ z => z) (fun _ _ z => z) (((ha.mono l3).mono l4).append (.cons d4 .nil))
      · cases e
    · rename_i g3 ht
      cases e
      rw [ht]
      refine fun m3 H3 b l3 r3 eb => ?_
      subst eb
      rw [if_neg Bool.false_ne_true]
      exact k m3 H3 accv (l0.trans l3) r3 (l3.hid _ _ hD) (ha.mono l3)
    · cases e
  · cases e
theorem lcPut_ok {o : Option D} {r : Res (List D)} {ys : List D} {g : G} (h : lcPut o r = .ok ys g) : ∃ zs, r = .ok zs g ∧ ys = (consO o zs) := by
  unfold lcPut at h
  split at h
  · exact ⟨ys, h, rfl⟩
  · split at h
    · cases h
      exact ⟨_, rfl, rfl⟩
    · cases h
theorem app_put {acc zs : List D} {o : Option D} : acc ++ (consO o zs) = (addO acc o) ++ zs := by
  cases o with
  | none => rfl
  | some y => simp [addO, consO]
theorem len_put {acc : List D} {o : Option D} : acc.length ≤ (addO acc o).length := by
  cases o with
  | none => exact Nat.le_refl _
  | some y => simp [addO]
theorem lc_s {K : PySem.W.Frag} {W : WX} {iv : Ivv} {wi : TI} {gv : Gv} {tt : Tv} {te : Ev} {vs : List Nat} {t : TG} {σ : L2.St} {H : Hp} {Q : VK} {R : List D → G → Res D} (ct : CT K vs t gv)
    (hwi : ∀ σv H R, tIt K W iv σv H R → wi σv H R) (hsm : ∀ (σv : L2.St) (m : Md) ys g, Post K W σv (Den K) (R ys g) m Q → ys.length ≤ 100000)
    (hR : ∀ (σv : L2.St) (m : Md) (g : G) (H : Hp) (Dl : Addr) (ys : List D) (yv : List V), Rel K m g H → m.hid Dl = some (.lst yv) → Dens K m ys yv → ∀ m0, Le m0 m → m0.hid Dl = none → Post K W σv (Den K) (R ys g) m0 Q → Q (.ref Dl) H)
    (h : tE K W (fun σ g => (iv σ g).bind fun v g1 => (noEx (lcAll gv tt te (wipeD σ vs) v g1)).bind R) σ H Q) :
    tLc wi t (tT K W0 tt) (tE K W0 te) vs σ H Q := by
  obtain ⟨m, σ', g, rl, sl, hl, p⟩ := h
  refine hwi _ _ _ ⟨m, σ', g, rl, ⟨sl, hl⟩, Post.bind p fun v g1 m1 H1 J l1 r1 iok p1 => ?_⟩
  intro Dl hD
  have sw : SlotsL K m1 (wipeD σ' vs) (wipe σ vs) := wipe_s (SlotsL.mono l1 ⟨sl, hl⟩) vs
  have n0 := r1.hfree hD
  cases hq : lcAll gv tt te (wipeD σ' vs) v g1 with
  | no => rw [hq] at p1; exact p1.elim
  | ex e g2 => rw [hq] at p1; exact p1.elim
  | ok yall gF =>
    rw [hq] at p1
    have p1' : Post K W σ (Den K) (R yall gF) m1 Q := p1
    have hlen := hsm σ m1 yall gF p1'
    have l0 : Le m1 (m1.hide Dl (.lst [])) := le_hide n0
    have h0 : (m1.hide Dl (.lst [])).hid Dl = some (.lst []) := by show upd m1.hid Dl _ Dl = _; exact upd_same
    cases v with
    | fix ds =>
      have hq' : lcL gv tt te (wipeD σ' vs) ds g1 = .ok yall gF := hq
      refine ⟨fun i n H => ∃ m2 g2 acc accv rest, Le m1 m2 ∧ Rel K m2 g2 H ∧ m2.hid Dl = some (.lst accv) ∧ Dens K m2 acc accv ∧ lcL gv tt te (wipeD σ' vs) (ds.drop i) g2 = .ok rest gF ∧ acc ++ rest = yall ∧ n = ds.length - i ∧ i ≤ ds.length,
        ⟨ds.length, m1.hide Dl (.lst []), g1, [], [], yall, l0, r1.hide hD, h0, .nil, hq', rfl, rfl, Nat.zero_le _⟩, ?_⟩
      rintro i n H2 ⟨m2, g2, acc, accv, rest, l2, r2, h2, da, e2, e3, e4, e5⟩
      obtain ⟨hstop, hgo⟩ := iok m2 g2 H2 l2.f r2 i
      by_cases hi : i < ds.length
      · rw [List.drop_eq_getElem_cons hi] at e2
        have e2' : (match lcT gv tt te (wipeD σ' vs) ds[i] g2 with | .ok o g1 => lcPut o (lcL gv tt te (wipeD σ' vs) (ds.drop (i + 1)) g1) | _ => .no) = Res.ok rest gF := e2
        cases hT : lcT gv tt te (wipeD σ' vs) ds[i] g2 with
        | no => rw [hT] at e2'; cases e2'
        | ex e g3 => rw [hT] at e2'; cases e2'
        | ok o g3 =>
          rw [hT] at e2'
          obtain ⟨zs, hz1, hz2⟩ := lcPut_ok e2'
          obtain ⟨go, hy⟩ := hgo ds[i] (by simp [hi])
          refine .inr ⟨go, fun H => ∃ m2 g2 acc accv rest, Le m1 m2 ∧ Rel K m2 g2 H ∧ m2.hid Dl = some (.lst accv) ∧ Dens K m2 acc accv ∧ lcL gv tt te (wipeD σ' vs) (ds.drop (i + 1)) g2 = .ok rest gF ∧ acc ++ rest = yall,
            fun H' ⟨m3, g4, ac, av, rs, q1, q2, q3, q4, q5, q6⟩ => ⟨ds.length - (i + 1), by omega, m3, g4, ac, av, rs, q1, q2, q3, q4, q5, q6, rfl, hi⟩, fun x H3 yl => ?_⟩
          obtain ⟨m3, l3, r3, hd⟩ := hy x H3 yl
          refine lcT_s (o := o) (acc := acc) (accv := accv) (wipe_idem σ vs) ct (l2.trans l3) r3 sw (l3.hid _ _ h2) n0 (da.mono l3) (fun y hy' => ?_) hd hT fun m4 H4 av l4 r4 h4 d4 => ⟨m4, g3, addO acc o, av, zs, l4, r4, h4, d4, hz1, ?_⟩
          · rw [hz2, hy'] at e3
            have := congrArg List.length e3
            rw [List.length_append] at this
            simp only [consO, List.length_cons] at this
            omega
          · rw [← app_put, ← hz2]
            exact e3
      · have hi' : i = ds.length := by omega
        subst hi'
        rw [List.drop_length] at e2
        have e2' : Res.ok [] g2 = Res.ok rest gF := e2
        cases e2'
        rw [List.append_nil] at e3
        subst e3
        exact .inl ⟨hstop (Nat.le_refl _), hR σ m2 gF H2 Dl acc accv r2 h2 da m1 l2 n0 p1'⟩
    | dyn j =>
      have hq' : lcD gv tt te (wipeD σ' vs) j 100000 0 g1 = .ok yall gF := hq
      refine ⟨fun i n H => ∃ m2 g2 acc accv rest, Le m1 m2 ∧ Rel K m2 g2 H ∧ m2.hid Dl = some (.lst accv) ∧ Dens K m2 acc accv ∧ lcD gv tt te (wipeD σ' vs) j n i g2 = .ok rest gF ∧ acc ++ rest = yall,
        ⟨100000, m1.hide Dl (.lst []), g1, [], [], yall, l0, r1.hide hD, h0, .nil, hq', rfl⟩, ?_⟩
      rintro i n H2 ⟨m2, g2, acc, accv, rest, l2, r2, h2, da, e2, e3⟩
      cases n with
      | zero => cases e2
      | succ n =>
        unfold lcD at e2
        split at e2
        · rename_i ys hys
          obtain ⟨hstop, hgo⟩ := iok m2 g2 H2 l2.f r2 ys hys i
          split at e2
          · rename_i d hdi
            split at e2
            · rename_i o g3 hT
              obtain ⟨zs, hz1, hz2⟩ := lcPut_ok e2
              obtain ⟨go, hy⟩ := hgo d hdi
              refine .inr ⟨go, fun H => ∃ m2 g2 acc accv rest, Le m1 m2 ∧ Rel K m2 g2 H ∧ m2.hid Dl = some (.lst accv) ∧ Dens K m2 acc accv ∧ lcD gv tt te (wipeD σ' vs) j n (i + 1) g2 = .ok rest gF ∧ acc ++ rest = yall,
                fun H' q => ⟨n, Nat.lt_succ_self n, q⟩, fun x H3 yl => ?_⟩
              obtain ⟨m3, l3, r3, hd⟩ := hy x H3 yl
              refine lcT_s (o := o) (acc := acc) (accv := accv) (wipe_idem σ vs) ct (l2.trans l3) r3 sw (l3.hid _ _ h2) n0 (da.mono l3) (fun y hy' => ?_) hd hT fun m4 H4 av l4 r4 h4 d4 => ⟨m4, g3, addO acc o, av, zs, l4, r4, h4, d4, hz1, ?_⟩
              · rw [hz2, hy'] at e3
                have := congrArg List.length e3
                rw [List.length_append] at this
                simp only [consO, List.length_cons] at this
                omega
              · rw [← app_put, ← hz2]
                exact e3
            · cases e2
          · rename_i hdi
            cases e2
            rw [List.append_nil] at e3
            subst e3
            exact .inl ⟨hstop (List.getElem?_eq_none_iff.mp hdi), hR σ m2 gF H2 Dl acc accv r2 h2 da m1 l2 n0 p1'⟩
        · cases e2
    | dyng f =>
      have hq' : lcG gv tt te (wipeD σ' vs) f 100000 0 g1 = .ok yall gF := hq
      refine ⟨fun i n H => ∃ m2 g2 acc accv rest, Le m1 m2 ∧ Rel K m2 g2 H ∧ m2.hid Dl = some (.lst accv) ∧ Dens K m2 acc accv ∧ lcG gv tt te (wipeD σ' vs) f n i g2 = .ok rest gF ∧ acc ++ rest = yall,
        ⟨100000, m1.hide Dl (.lst []), g1, [], [], yall, l0, r1.hide hD, h0, .nil, hq', rfl⟩, ?_⟩
      rintro i n H2 ⟨m2, g2, acc, accv, rest, l2, r2, h2, da, e2, e3⟩
      cases n with
      | zero => cases e2
      | succ n =>
        unfold lcG at e2
        split at e2
        · rename_i ys hys
          obtain ⟨hstop, hgo⟩ := iok m2 g2 H2 l2.f r2 ys hys i
          split at e2
          · rename_i d hdi
            split at e2
            · rename_i o g3 hT
              obtain ⟨zs, hz1, hz2⟩ := lcPut_ok e2
              obtain ⟨go, hy⟩ := hgo d hdi
              refine .inr ⟨go, fun H => ∃ m2 g2 acc accv rest, Le m1 m2 ∧ Rel K m2 g2 H ∧ m2.hid Dl = some (.lst accv) ∧ Dens K m2 acc accv ∧ lcG gv tt te (wipeD σ' vs) f n (i + 1) g2 = .ok rest gF ∧ acc ++ rest = yall,
                fun H' q => ⟨n, Nat.lt_succ_self n, q⟩, fun x H3 yl => ?_⟩
              obtain ⟨m3, l3, r3, hd⟩ := hy x H3 yl
              refine lcT_s (o := o) (acc := acc) (accv := accv) (wipe_idem σ vs) ct (l2.trans l3) r3 sw (l3.hid _ _ h2) n0 (da.mono l3) (fun y hy' => ?_) hd hT fun m4 H4 av l4 r4 h4 d4 => ⟨m4, g3, addO acc o, av, zs, l4, r4, h4, d4, hz1, ?_⟩
              · rw [hz2, hy'] at e3
                have := congrArg List.length e3
                rw [List.length_append] at this
                simp only [consO, List.length_cons] at this
                omega
              · rw [← app_put, ← hz2]
                exact e3
            · cases e2
          · rename_i hdi
            cases e2
            rw [List.append_nil] at e3
            subst e3
            exact .inl ⟨hstop (List.getElem?_eq_none_iff.mp hdi), hR σ m2 gF H2 Dl acc accv r2 h2 da m1 l2 n0 p1'⟩
        · cases e2
    | dynf j f =>
      have hq' : lcF gv tt te (wipeD σ' vs) j f 100000 0 g1 = .ok yall gF := hq
      refine ⟨fun i n H => ∃ m2 g2 acc accv rest, Le m1 m2 ∧ Rel K m2 g2 H ∧ m2.hid Dl = some (.lst accv) ∧ Dens K m2 acc accv ∧ lcF gv tt te (wipeD σ' vs) j f n i g2 = .ok rest gF ∧ acc ++ rest = yall,
        ⟨100000, m1.hide Dl (.lst []), g1, [], [], yall, l0, r1.hide hD, h0, .nil, hq', rfl⟩, ?_⟩
      rintro i n H2 ⟨m2, g2, acc, accv, rest, l2, r2, h2, da, e2, e3⟩
      cases n with
      | zero => cases e2
      | succ n =>
        unfold lcF at e2
        split at e2
        · rename_i ys hys
          obtain ⟨hstop, hgo⟩ := iok m2 g2 H2 l2.f r2 ys hys i
          split at e2
          · rename_i d hdi
            split at e2
            · rename_i o g3 hT
              obtain ⟨zs, hz1, hz2⟩ := lcPut_ok e2
              obtain ⟨go, hy⟩ := hgo d hdi
              refine .inr ⟨go, fun H => ∃ m2 g2 acc accv rest, Le m1 m2 ∧ Rel K m2 g2 H ∧ m2.hid Dl = some (.lst accv) ∧ Dens K m2 acc accv ∧ lcF gv tt te (wipeD σ' vs) j f n (i + 1) g2 = .ok rest gF ∧ acc ++ rest = yall,
                fun H' q => ⟨n, Nat.lt_succ_self n, q⟩, fun x H3 yl => ?_⟩
              obtain ⟨m3, l3, r3, hd⟩ := hy x H3 yl
              refine lcT_s (o := o) (acc := acc) (accv := accv) (wipe_idem σ vs) ct (l2.trans l3) r3 sw (l3.hid _ _ h2) n0 (da.mono l3) (fun y hy' => ?_) hd hT fun m4 H4 av l4 r4 h4 d4 => ⟨m4, g3, addO acc o, av, zs, l4, r4, h4, d4, hz1, ?_⟩
              · rw [hz2, hy'] at e3
                have := congrArg List.length e3
                rw [List.length_append] at this
                simp only [consO, List.length_cons] at this
                omega
              · rw [← app_put, ← hz2]
                exact e3
            · cases e2
          · rename_i hdi
            cases e2
            rw [List.append_nil] at e3
            subst e3
            exact .inl ⟨hstop (List.getElem?_eq_none_iff.mp hdi), hR σ m2 gF H2 Dl acc accv r2 h2 da m1 l2 n0 p1'⟩
        · cases e2
section
variable {X : Cx} {W : WX} {elt tg iter : Expr} {ifs : List Expr} {scope : Scope} {own : List (Str × Nat)} {pos : Pos} {iv : Ivv} {t : TG} {gv : Gv} {tt : Tv} {te : Ev}
theorem okIf_len {K : PySem.W.Frag} {σv : L2.St} {m : Md} {ys : List D} {d : D} {g : G} {Q : VK} (p : Post K W σv (Den K) (okIf (small ys) d g) m Q) : ys.length ≤ 100000 := of_decide_eq_true (okIf_post p).1
theorem x_lc (hc : X.calm = true) (hN : X.N.Nodup) (hi : PI X tg iter (tIt X.K W iv)) (ok : BlkOk X.N X.env.scope scope own) (ct : CT X.K (own.map (·.2)) t gv)
    (hg : ∀ (s : Shared) (H : Hp) (C : Addr) (cl : List (Str × Addr)) (fp : List Addr), PG (X.blk s H scope (compEnvC scope cl C X.env) fp) tg t) (ht : ∀ (s : Shared) (H : Hp) (C : Addr) (cl : List (Str × Addr)) (fp : List Addr), PTs (X.blk s H scope (compEnvC scope cl C X.env) fp) ifs (tT X.K W0 tt))
    (he : ∀ (s : Shared) (H : Hp) (C : Addr) (cl : List (Str × Addr)) (fp : List Addr), PE (X.blk s H scope (compEnvC scope cl C X.env) fp) elt (tE X.K W0 te)) (hs : ∀ x, foldedSetIterable iter X.env x = pure x := by intro _; rfl) :
    PE X (.ListComp elt [⟨tg, iter, ifs, 0⟩] scope pos) (tE X.K W (eLc iv gv tt te (own.map (·.2)))) := PE.imp (pe_lc hc hN hi ok hg ht he hs) fun σ H Q h => by
  refine lc_s ct (fun _ _ _ q => q) (fun _ _ _ _ p => okIf_len p) (fun σv m g H Dl ys yv rl hh d m0 l0 n0 p => ?_) h
  obtain ⟨c, p⟩ := okIf_post p
  have hF := (rl.hid _ _ hh).2.1
  refine p _ _ _ ?_ (rl.freeze hh) (.lst (by show upd m.F Dl _ Dl = _; exact upd_same) (dens_md (m := m) (m' := ⟨upd m.F Dl (.lst yv), m.r, m.unhide Dl none⟩) (fun a o e => by show upd m.F Dl _ a = _; rw [upd_ne (ne_of_none e hF)]; exact e) (fun _ _ z => z) d))
  refine ⟨fun a o e => ?_, l0.r, fun a o e => ?_⟩
  · show upd m.F Dl _ a = some o
    rw [upd_ne (ne_of_none (l0.F a o e) hF)]
    exact l0.F a o e
  · show (if a = Dl then none else m.hid a) = some o
    rw [if_neg (fun z => by rw [z, n0] at e; cases e)]
    exact l0.hid a o e
theorem x_lcM (hc : X.calm = true) (hN : X.N.Nodup) (hi : PI X tg iter (tIt X.K W iv)) (ok : BlkOk X.N X.env.scope scope own) (ct : CT X.K (own.map (·.2)) t gv)
    (hg : ∀ (s : Shared) (H : Hp) (C : Addr) (cl : List (Str × Addr)) (fp : List Addr), PG (X.blk s H scope (compEnvC scope cl C X.env) fp) tg t) (ht : ∀ (s : Shared) (H : Hp) (C : Addr) (cl : List (Str × Addr)) (fp : List Addr), PTs (X.blk s H scope (compEnvC scope cl C X.env) fp) ifs (tT X.K W0 tt))
    (he : ∀ (s : Shared) (H : Hp) (C : Addr) (cl : List (Str × Addr)) (fp : List Addr), PE (X.blk s H scope (compEnvC scope cl C X.env) fp) elt (tE X.K W0 te)) (hs : ∀ x, foldedSetIterable iter X.env x = pure x := by intro _; rfl) :
    PE X (.ListComp elt [⟨tg, iter, ifs, 0⟩] scope pos) (tE X.K W (eLcM iv gv tt te (own.map (·.2)))) := PE.imp (pe_lc hc hN hi ok hg ht he hs) fun σ H Q h => by
  refine lc_s ct (fun _ _ _ q => q) (fun _ _ _ _ p => okIf_len p) (fun σv m g H Dl ys yv rl hh d m0 l0 n0 p => ?_) h
  obtain ⟨c, p⟩ := okIf_post p
  refine p _ _ _ ?_ (rl.tocell hh d) (.ref (by show (if g.length = g.length then some Dl else m.r g.length) = some Dl; rw [if_pos rfl]))
  refine ⟨l0.F, fun i a e => ?_, fun a o e => ?_⟩
  · show (if i = g.length then some Dl else m.r i) = some a
    have := rl.dom i a (l0.r i a e)
    rw [if_neg (by omega)]
    exact l0.r i a e
  · show (if a = Dl then none else m.hid a) = some o
    rw [if_neg (fun z => by rw [z, n0] at e; cases e)]
    exact l0.hid a o e
/-- the clause's tests -/
def tvYes : Tv := fun _ g => .ok true g
theorem ts_nil : PTs X [] (tT X.K W tvYes) := ⟨fun pins s σ H Q I h => pts_nil.run pins s σ H Q I (by
  obtain ⟨m, σ', g, rl, sl, hl, p⟩ := h
  exact fin_ok rl rfl p)⟩
theorem ts_one {c : Expr} {tc : Tv} (h : PT X c (tT X.K W tc)) : PTs X [c] (tT X.K W tc) := pts_one h
/-- name = [..] -/
theorem s_setLc {i : Nat} {y : Str} {py spos : Pos} (hc : X.calm = true) (hN : X.N.Nodup) (hy : X.N[i]? = some y) (hyl : X.env.scope.names.lookup y = some .local)
    (hsw : swapsWith (.ListComp elt [⟨tg, iter, ifs, 0⟩] scope pos) (some (.Name y py)) spos.line X.env = pure true) (hi : PI X tg iter (tIt X.K W iv)) (ok : BlkOk X.N X.env.scope scope own) (ct : CT X.K (own.map (·.2)) t gv)
    (hg : ∀ (s : Shared) (H : Hp) (C : Addr) (cl : List (Str × Addr)) (fp : List Addr), PG (X.blk s H scope (compEnvC scope cl C X.env) fp) tg t) (ht : ∀ (s : Shared) (H : Hp) (C : Addr) (cl : List (Str × Addr)) (fp : List Addr), PTs (X.blk s H scope (compEnvC scope cl C X.env) fp) ifs (tT X.K W0 tt))
    (he : ∀ (s : Shared) (H : Hp) (C : Addr) (cl : List (Str × Addr)) (fp : List Addr), PE (X.blk s H scope (compEnvC scope cl C X.env) fp) elt (tE X.K W0 te)) (hs : ∀ x, foldedSetIterable iter X.env x = pure x := by intro _; rfl) :
    PS X (.Assign [.Name y py] (.ListComp elt [⟨tg, iter, ifs, 0⟩] scope pos) spos) (tS X.K W (sSet i (eLc iv gv tt te (own.map (·.2))))) := PS.imp (ps_setLc hc hN hy hyl hsw hi ok hg ht he hs) fun D' σ H h => by
  obtain ⟨m, σ', g, rl, sl, p⟩ := h
  have h' : tE X.K W (eLc iv gv tt te (own.map (·.2))) σ H (fun x H1 => D'.nx (σ.set i (some x)) H1) := ⟨m, σ', g, rl, sl.1, sl.2, sBind_s sl p fun d g1 m1 H1 v l1 r1 d1 p1 => p1 m1 H1 _ (Le.refl m1) r1 ((sl.mono l1).set d1)⟩
  refine lc_s ct (fun _ _ _ q => q) (fun _ _ _ _ p => okIf_len p) (fun σv m g H Dl ys yv rl hh d m0 l0 n0 p => ?_) h'
  obtain ⟨c, p⟩ := okIf_post p
  have hF := (rl.hid _ _ hh).2.1
  refine p _ _ _ ?_ (rl.freeze hh) (.lst (by show upd m.F Dl _ Dl = _; exact upd_same) (dens_md (m := m) (m' := ⟨upd m.F Dl (.lst yv), m.r, m.unhide Dl none⟩) (fun a o e => by show upd m.F Dl _ a = _; rw [upd_ne (ne_of_none e hF)]; exact e) (fun _ _ z => z) d))
  refine ⟨fun a o e => ?_, l0.r, fun a o e => ?_⟩
  · show upd m.F Dl _ a = some o
    rw [upd_ne (ne_of_none (l0.F a o e) hF)]
    exact l0.F a o e
  · show (if a = Dl then none else m.hid a) = some o
    rw [if_neg (fun z => by rw [z, n0] at e; cases e)]
    exact l0.hid a o e
end
end AW
namespace AW
open PySem PySem.Spec L2
/-! ### the end of a def: what it made is frozen, its cells are gone -/
mutual
def D.cln (n : Nat) : D → Bool
  | .ref i => decide (i < n)
  | .tup xs => D.clns n xs
  | .lst xs => D.clns n xs
  | .seq xs => D.clns n xs
  | .dct _ xs => D.clns n xs
  | .dtt _ xs => D.clns n xs
  | .ins _ xs => D.clns n xs
  | _ => true
def D.clns (n : Nat) : List D → Bool
  | [] => true
  | x :: xs => D.cln n x && D.clns n xs
end
def clnF (n : Nat) : List (Option D) → Bool
  | [] => true
  | some d :: r => D.cln n d && clnF n r
  | none :: r => clnF n r
def Cell.cln (n : Nat) : Cell → Bool
  | .lst xs => D.clns n xs
  | .dct _ xs => D.clns n xs
  | .dtt _ xs => D.clns n xs
  | .ins _ j fs => decide (j < n) && clnF n fs
  | .new _ j => decide (j < n)
  | .own => true
  | .xd => true
  | .tab _ _ => true
  | .tbg _ => true
def allSome : List (Option D) → Option (List D)
  | [] => some []
  | some d :: r => match allSome r with
    | some ds => some (d :: ds)
    | none => none
  | none :: _ => none
def omap {α β : Type} (f : α → Option β) : List α → Option (List β)
  | [] => some []
  | x :: xs => match f x with
    | some y => match omap f xs with
      | some ys => some (y :: ys)
      | none => none
    | none => none
def frz (g : G) (n : Nat) : Nat → D → Option D
  | 0, _ => none
  | k + 1, d => match d with
    | .ref i => if i < n then some (.ref i) else match g[i]? with
      | some (.lst xs) => match omap (frz g n k) xs with
        | some ys => some (.lst ys)
        | none => none
      | some (.dct ks xs) => match omap (frz g n k) xs with
        | some ys => some (.dct ks ys)
        | none => none
      | some (.dtt ks xs) => match omap (frz g n k) xs with
        | some ys => some (.dtt ks ys)
        | none => none
      | some (.ins c j fs) => if j < n then none else match g[j]? with
        | some .xd => match allSome fs with
          | some xs => match omap (frz g n k) xs with
            | some ys => some (.ins c ys)
            | none => none
          | none => none
        | _ => none
      | _ => none
    | .tup xs => match omap (frz g n k) xs with
      | some ys => some (.tup ys)
      | none => none
    | .lst xs => match omap (frz g n k) xs with
      | some ys => some (.lst ys)
      | none => none
    | .seq xs => match omap (frz g n k) xs with
      | some ys => some (.seq ys)
      | none => none
    | .dct ks xs => match omap (frz g n k) xs with
      | some ys => some (.dct ks ys)
      | none => none
    | .dtt ks xs => match omap (frz g n k) xs with
      | some ys => some (.dtt ks ys)
      | none => none
    | .ins c xs => match omap (frz g n k) xs with
      | some ys => some (.ins c ys)
      | none => none
    | d => some d
/-- only the first n cells are left -/
def Md.cut (m : Md) (n : Nat) (H : Hp) (g : G) : Md :=
  ⟨open Classical in fun a => if (∃ i, i < n ∧ m.r i = some a) ∨ (m.hid a ≠ none) then none else H a, fun i => if i < n then m.r i else none, m.hid⟩
section
variable {K : PySem.W.Frag} {m : Md} {g : G} {H : Hp} {n : Nat}
theorem cut_F (r : Rel K m g H) {a : Addr} {o : HO} (h : m.F a = some o) : (m.cut n H g).F a = some o := by
  show (if (∃ i, i < n ∧ m.r i = some a) ∨ (m.hid a ≠ none) then none else H a) = some o
  rw [if_neg]
  · exact r.ex a o h
  · rintro (⟨i, _, hi⟩ | hh)
    · have hl := r.dom i a hi
      obtain ⟨b, h1, h2, _⟩ := r.cell i g[i] (by simp [hl])
      rw [hi] at h1
      cases h1
      rw [h] at h2
      cases h2
    · cases q : m.hid a with
      | none => exact hh q
      | some u => rw [(r.hid a u q).2.1] at h; cases h
theorem cut_cell (r : Rel K m g H) {i : Nat} {a : Addr} (hi : m.r i = some a) (hn : ¬ i < n) : (m.cut n H g).F a = H a := by
  show (if (∃ i, i < n ∧ m.r i = some a) ∨ (m.hid a ≠ none) then none else H a) = H a
  rw [if_neg]
  rintro (⟨j, hj, hj2⟩ | hh)
  · exact hn (r.inj i j a hi hj2 ▸ hj)
  · cases q : m.hid a with
    | none => exact hh q
    | some u => exact (r.hid a u q).2.2 i hi
mutual
theorem cln_s (r : Rel K m g H) : ∀ {d : D} {v : V}, Den K m d v → D.cln n d = true → Den K (m.cut n H g) d v
  | _, _, .non, _ => .non
  | _, _, .bl, _ => .bl
  | _, _, .int, _ => .int
  | _, _, .str, _ => .str
  | _, _, .tup h ds, e => .tup (sqT_le (fun _ _ => cut_F r) h) (clns_s r ds (by rw [D.cln] at e; exact e))
  | _, _, .lst h ds, e => .lst (cut_F r h) (clns_s r ds (by rw [D.cln] at e; exact e))
  | _, _, .seq h ds, e => .seq (sqL_le (fun _ _ => cut_F r) h) (clns_s r ds (by rw [D.cln] at e; exact e))
  | _, _, .dct h hl ds, e => .dct (cut_F r h) hl (clns_s r ds (by rw [D.cln] at e; exact e))
  | _, _, .dtt h hl ds, e => .dtt (cut_F r h) hl (clns_s r ds (by rw [D.cln] at e; exact e))
  | _, _, .ins h hd ds, e => .ins (cut_F r h) (cut_F r hd) (clns_s r ds (by rw [D.cln] at e; exact e))
  | _, _, .glo, _ => .glo
  | _, _, .ref h, e => by
    rw [D.cln] at e
    refine .ref ?_
    show (if _ < n then m.r _ else none) = some _
    rw [if_pos (of_decide_eq_true e)]
    exact h
  | _, _, .val, _ => .val
theorem clns_s (r : Rel K m g H) : ∀ {ds : List D} {vs : List V}, Dens K m ds vs → D.clns n ds = true → Dens K (m.cut n H g) ds vs
  | _, _, .nil, _ => .nil
  | _, _, .cons h t, e => by
    rw [D.clns, Bool.and_eq_true] at e
    exact .cons (cln_s r h e.1) (clns_s r t e.2)
end
theorem omap_s {m' : Md} {f : D → Option D} (hf : ∀ d v e, Den K m d v → f d = some e → Den K m' e v) : ∀ {ds : List D} {vs : List V} {es : List D}, Dens K m ds vs → omap f ds = some es → Dens K m' es vs
  | [], _, _, h, e => by
    cases e
    rw [h.nilV]
    exact .nil
  | d :: ds, _, _, h, e => by
    obtain ⟨v, ws, rfl, h1, h2⟩ := h.consV
    unfold omap at e
    split at e
    · rename_i y hy
      split at e
      · rename_i ys hys
        cases e
        exact .cons (hf _ _ _ h1 hy) (omap_s hf h2 hys)
      · cases e
    · cases e
theorem allSome_s : ∀ {fs : List (Option D)} {ws : List (Option V)} {xs : List D}, FldOk K m fs ws → ws.length ≤ fs.length → allSome fs = some xs → ∃ vs : List V, ws = vs.map some ∧ Dens K m xs vs
  | [], ws, xs, _, hl, e => by
    cases e
    have : ws = [] := List.eq_nil_of_length_eq_zero (by simpa using hl)
    exact ⟨[], by rw [this]; rfl, .nil⟩
  | none :: r, ws, xs, _, _, e => by cases e
  | some d :: r, ws, xs, h, hl, e => by
    unfold allSome at e
    split at e
    · rename_i ds hds
      cases e
      obtain ⟨v, h1, h2⟩ := h 0 d rfl
      cases ws with
      | nil => cases h1
      | cons w ws =>
        have hw : w = some v := Option.some.inj h1
        subst hw
        obtain ⟨vs, e1, e2⟩ := allSome_s (fs := r) (ws := ws) (fun i d q => h (i + 1) d q) (by simpa using hl) hds
        exact ⟨v :: vs, by rw [e1]; rfl, .cons h2 e2⟩
    · cases e
theorem clnF_s (r : Rel K m g H) : ∀ {fs : List (Option D)} {ws : List (Option V)}, FldOk K m fs ws → clnF n fs = true → FldOk K (m.cut n H g) fs ws
  | [], ws, _, _ => fun i d q => by simp at q
  | none :: fs, ws, h, e => fun i d q => by
    cases i with
    | zero => cases q
    | succ i =>
      obtain ⟨v, h1, h2⟩ := clnF_s r (fs := fs) (ws := ws.tail) (fun i d q => by
        obtain ⟨v, q1, q2⟩ := h (i + 1) d q
        exact ⟨v, by rw [List.getElem?_tail]; exact q1, q2⟩) e i d (by simpa using q)
      exact ⟨v, by rw [List.getElem?_tail] at h1; exact h1, h2⟩
  | some x :: fs, ws, h, e => fun i d q => by
    unfold clnF at e
    rw [Bool.and_eq_true] at e
    cases i with
    | zero =>
      have q' : x = d := Option.some.inj (Option.some.inj q)
      subst q'
      obtain ⟨v, q1, q2⟩ := h 0 x rfl
      exact ⟨v, q1, cln_s r q2 e.1⟩
    | succ i =>
      obtain ⟨v, h1, h2⟩ := clnF_s r (fs := fs) (ws := ws.tail) (fun i d q => by
        obtain ⟨v, q1, q2⟩ := h (i + 1) d q
        exact ⟨v, by rw [List.getElem?_tail]; exact q1, q2⟩) e.2 i d (by simpa using q)
      exact ⟨v, by rw [List.getElem?_tail] at h1; exact h1, h2⟩
theorem frz_s (r : Rel K m g H) : ∀ (k : Nat) (d : D) (v : V) (e : D), Den K m d v → frz g n k d = some e → Den K (m.cut n H g) e v
  | 0, _, _, _, _, e => by cases e
  | k + 1, d, v, e, h, q => by
    unfold frz at q
    cases h with
    | ref h1 =>
      rename_i i a
      simp only at q
      split at q
      · rename_i hi
        cases q
        refine .ref ?_
        show (if i < n then m.r i else none) = some a
        rw [if_pos hi]
        exact h1
      · rename_i hi
        have keep : ∀ {u : HO}, H a = some u → (m.cut n H g).F a = some u := fun {u} e => by rw [cut_cell r h1 hi]; exact e
        split at q
        · rename_i xs hx
          obtain ⟨b, e1, _, o, e2, vs, e3, e4⟩ := r.cell _ _ hx
          rw [h1] at e1
          cases e1
          subst e3
          split at q
          · rename_i ys hy
            cases q
            exact .lst (keep e2) (omap_s (fun d v e => frz_s r k d v e) e4 hy)
          · cases q
        · rename_i ks xs hx
          obtain ⟨b, e1, _, o, e2, vs, e3, el, e4⟩ := r.cell _ _ hx
          rw [h1] at e1
          cases e1
          subst e3
          split at q
          · rename_i ys hy
            cases q
            exact .dct (keep e2) el (omap_s (fun d v e => frz_s r k d v e) e4 hy)
          · cases q
        · rename_i ks xs hx
          obtain ⟨b, e1, _, o, e2, vs, e3, el, e4⟩ := r.cell _ _ hx
          rw [h1] at e1
          cases e1
          subst e3
          split at q
          · rename_i ys hy
            cases q
            exact .dtt (keep e2) el (omap_s (fun d v e => frz_s r k d v e) e4 hy)
          · cases q
        · rename_i c j fs hx
          obtain ⟨b, e1, _, o, e2, dx, ws, e3, ed, el, e4⟩ := r.cell _ _ hx
          rw [h1] at e1
          cases e1
          subst e3
          split at q
          · cases q
          · rename_i hj
            split at q
            · rename_i hxd
              obtain ⟨b2, f1, _, o2, f2, f3⟩ := r.cell _ _ hxd
              rw [ed] at f1
              cases f1
              have f3' : o2 = .xd [] := f3
              subst f3'
              split at q
              · rename_i xs hxs
                obtain ⟨vs, rfl, e5⟩ := allSome_s e4 el hxs
                split at q
                · rename_i ys hy
                  cases q
                  exact .ins (keep e2) (by rw [cut_cell r ed hj]; exact f2) (omap_s (fun d v e => frz_s r k d v e) e5 hy)
                · cases q
              · cases q
            · cases q
        · cases q
    | tup h1 h2 =>
      simp only at q
      split at q
      · rename_i ys hy
        cases q
        exact .tup (sqT_le (fun _ _ => cut_F r) h1) (omap_s (fun d v e => frz_s r k d v e) h2 hy)
      · cases q
    | lst h1 h2 =>
      simp only at q
      split at q
      · rename_i ys hy
        cases q
        exact .lst (cut_F r h1) (omap_s (fun d v e => frz_s r k d v e) h2 hy)
      · cases q
    | seq h1 h2 =>
      simp only at q
      split at q
      · rename_i ys hy
        cases q
        exact .seq (sqL_le (fun _ _ => cut_F r) h1) (omap_s (fun d v e => frz_s r k d v e) h2 hy)
      · cases q
    | dct h1 hl h2 =>
      simp only at q
      split at q
      · rename_i ys hy
        cases q
        exact .dct (cut_F r h1) hl (omap_s (fun d v e => frz_s r k d v e) h2 hy)
      · cases q
    | dtt h1 hl h2 =>
      simp only at q
      split at q
      · rename_i ys hy
        cases q
        exact .dtt (cut_F r h1) hl (omap_s (fun d v e => frz_s r k d v e) h2 hy)
      · cases q
    | ins h1 hd h2 =>
      simp only at q
      split at q
      · rename_i ys hy
        cases q
        exact .ins (cut_F r h1) (cut_F r hd) (omap_s (fun d v e => frz_s r k d v e) h2 hy)
      · cases q
    | glo => cases q; exact .glo
    | non => cases q; exact .non
    | bl => cases q; exact .bl
    | int => cases q; exact .int
    | str => cases q; exact .str
    | val => cases q; exact .val
theorem cut_rel (r : Rel K m g H) (hn : n ≤ g.length) (hc : (g.take n).all (Cell.cln n) = true) : Rel K (m.cut n H g) (g.take n) H where
  ex := fun a o e => by
    have e' : (if (∃ i, i < n ∧ m.r i = some a) ∨ (m.hid a ≠ none) then none else H a) = some o := e
    split at e'
    · cases e'
    · exact e'
  cell := fun i c hi => by
    rw [List.getElem?_take] at hi
    split at hi
    · rename_i hin
      obtain ⟨a, h1, h2, o, h3, h4⟩ := r.cell i c hi
      refine ⟨a, ?_, ?_, o, h3, ?_⟩
      · show (if i < n then m.r i else none) = some a
        rw [if_pos hin]
        exact h1
      · show (if (∃ i, i < n ∧ m.r i = some a) ∨ (m.hid a ≠ none) then none else H a) = none
        rw [if_pos (.inl ⟨i, hin, h1⟩)]
      · have hcl : Cell.cln n c = true := List.all_eq_true.mp hc c (List.mem_of_getElem? (i := i) (by rw [List.getElem?_take, if_pos hin]; exact hi))
        cases c with
        | lst xs =>
          obtain ⟨vs, e1, e2⟩ := h4
          exact ⟨vs, e1, clns_s r e2 hcl⟩
        | dct ks xs =>
          obtain ⟨vs, e1, el, e2⟩ := h4
          exact ⟨vs, e1, el, clns_s r e2 hcl⟩
        | dtt ks xs =>
          obtain ⟨vs, e1, el, e2⟩ := h4
          exact ⟨vs, e1, el, clns_s r e2 hcl⟩
        | own => exact h4
        | xd => exact h4
        | new c j =>
          obtain ⟨dx, e1, ed⟩ := h4
          refine ⟨dx, e1, ?_⟩
          show (if j < n then m.r j else none) = some dx
          rw [if_pos (of_decide_eq_true hcl)]
          exact ed
        | ins c j fs =>
          obtain ⟨dx, ws, e1, ed, el, e2⟩ := h4
          have hcl' : (decide (j < n) && clnF n fs) = true := hcl
          rw [Bool.and_eq_true] at hcl'
          refine ⟨dx, ws, e1, ?_, el, clnF_s r e2 hcl'.2⟩
          show (if j < n then m.r j else none) = some dx
          rw [if_pos (of_decide_eq_true hcl'.1)]
          exact ed
        | tbg p => exact h4
        | tab p q =>
          obtain ⟨ea, ps, e1, e2, e3⟩ := h4
          exact ⟨ea, ps, e1, e2, fun pos cv hc => by
            obtain ⟨c, e4, e5⟩ := e3 pos cv hc
            exact ⟨c, e4, cut_F r e5⟩⟩
    · cases hi
  dom := fun i a e => by
    have e' : (if i < n then m.r i else none) = some a := e
    rw [List.length_take]
    split at e'
    · omega
    · cases e'
  inj := fun i j a e1 e2 => by
    have e1' : (if i < n then m.r i else none) = some a := e1
    have e2' : (if j < n then m.r j else none) = some a := e2
    split at e1'
    · split at e2'
      · exact r.inj i j a e1' e2'
      · cases e2'
    · cases e1'
  hid := fun a o e => by
    obtain ⟨h1, h2, h3⟩ := r.hid a o e
    refine ⟨h1, ?_, fun i z => ?_⟩
    · show (if (∃ i, i < n ∧ m.r i = some a) ∨ (m.hid a ≠ none) then none else H a) = none
      rw [if_pos (.inr (fun z => by rw [show m.hid a = some o from e] at z; cases z))]
    · have z' : (if i < n then m.r i else none) = some a := z
      split at z'
      · exact h3 i z'
      · cases z'
theorem cut_le {m0 : Md} {g0 : G} {H0 : Hp} (r0 : Rel K m0 g0 H0) (l : Le m0 m) (r : Rel K m g H) (hn : n = g0.length) : Le m0 (m.cut n H g) := ⟨fun a o e => cut_F r (l.F a o e), fun i a e => by
  show (if i < n then m.r i else none) = some a
  rw [if_pos (by rw [hn]; exact r0.dom i a e)]
  exact l.r i a e, l.hid⟩
end
def settle (n : Nat) (d : D) (g : G) : Res D := if g.length = n then .ok d g else if n ≤ g.length then match (g.take n).all (Cell.cln n) with
  | true => match frz g n 64 d with
    | some e => .ok e (g.take n)
    | none => .no
  | false => .no else .no
theorem settle_s {K : PySem.W.Frag} {W : WX} {σv : L2.St} {m0 m : Md} {g0 g : G} {H0 H : Hp} {d : D} {v : V} {Q : VK} (r0 : Rel K m0 g0 H0) (l : Le m0 m) (r : Rel K m g H) (hd : Den K m d v) (p : Post K W σv (Den K) (settle g0.length d g) m0 Q) : Q v H := by
  unfold settle at p
  split at p
  · exact p m H v l r hd
  · split at p
    · rename_i hn
      split at p
      · rename_i hc
        split at p
        · rename_i e he
          exact p _ _ _ (cut_le r0 l r rfl) (cut_rel r hn hc) (frz_s r 64 d v e hd he)
        · exact p.elim
      · exact p.elim
    · exact p.elim
def frzX (g : G) (n : Nat) : List (Str × D) → Option (List (Str × D))
  | [] => some []
  | (f, d) :: r => match frz g n 64 d with
    | some e => match frzX g n r with
      | some s => some ((f, e) :: s)
      | none => none
    | none => none
theorem frzX_s {K : PySem.W.Frag} {m : Md} {g : G} {H : Hp} {n : Nat} (r : Rel K m g H) : ∀ {fs es : List (Str × D)} {vs : List V}, Dens K m (fs.map (·.2)) vs → frzX g n fs = some es → Dens K (m.cut n H g) (es.map (·.2)) vs ∧ es.map (·.1) = fs.map (·.1)
  | [], _, _, h, e => by
    cases e
    rw [h.nilV]
    exact ⟨.nil, rfl⟩
  | (f, d) :: fs, _, _, h, e => by
    obtain ⟨v, ws, rfl, h1, h2⟩ := h.consV
    unfold frzX at e
    split at e
    · rename_i y hy
      split at e
      · rename_i ys hys
        cases e
        obtain ⟨q1, q2⟩ := frzX_s r h2 hys
        exact ⟨.cons (frz_s r 64 d v y h1 hy) q1, by rw [List.map_cons, List.map_cons, q2]⟩
      · cases e
    · cases e
def settleX {α : Type} (n : Nat) (e : Exn) (g : G) : Res α := if g.length = n then .ex e g else if n ≤ g.length then match (g.take n).all (Cell.cln n) with
  | true => match frzX g n e.fs with
    | some fs => .ex ⟨e.cls, fs⟩ (g.take n)
    | none => .no
  | false => .no else .no
theorem settleX_s {K : PySem.W.Frag} {W : WX} {σv : L2.St} {m0 m : Md} {g0 g : G} {H0 H : Hp} {e : Exn} {cv : Value} {dd : Option Addr} {Q : VK} (r0 : Rel K m0 g0 H0) (l : Le m0 m) (r : Rel K m g H) (hd : ExnOk K m e cv dd) (p : Post K W σv (Den K) (settleX g0.length e g) m0 Q) : W cv dd σv H := by
  unfold settleX at p
  split at p
  · exact p m H cv dd l r hd
  · split at p
    · rename_i hn
      split at p
      · rename_i hc
        split at p
        · rename_i fs hf
          refine p _ _ _ _ (cut_le r0 l r rfl) (cut_rel r hn hc) ?_
          obtain ⟨h2, h⟩ := hd
          refine ⟨h2, ?_⟩
          rcases h with ⟨h3, h4⟩ | ⟨h0, d, fv, h3, h4, h5, h6⟩
          · rw [h3] at hf
            cases hf
            exact .inl ⟨rfl, h4⟩
          · obtain ⟨q1, q2⟩ := frzX_s r h6 hf
            refine .inr ⟨fun z => ?_, d, fv, h3, cut_F r h4, ?_, q1⟩
            · have z' : fs = [] := z
              rw [z'] at q2
              cases hfs : e.fs with
              | nil => exact h0 hfs
              | cons _ _ => rw [hfs] at q2; cases q2
            · show fv.map (·.1) = fs.map (·.1)
              rw [q2]
              exact h5
        · exact p.elim
      · exact p.elim
    · exact p.elim
end AW
namespace AW
open PySem PySem.Spec L2
/-! ### defs: what they promise where no repr runs around them -/
abbrev Gd (A : Around) : Prop := A.guards = some []
abbrev WF (E : XK) : WX := fun cv dd _ H => E cv dd H
def FnG (P : Program) (w : World) (K : PySem.W.Frag) (mg : Str → Option Value) (base : Heap) (k : Nat) (f : Addr) (sp : Sp) : Prop :=
  ∀ (A : Around) (out : List Env) (s : Shared) (H : Hp) (us : List Value) (vs : List V) (Q : VK) (E : XK), Room k A → Gd A → Env0 P w K mg base A out s H → Vals vs us → sp vs H Q E →
    codeAny (model P w) A (.call (.ref f) ⟨us, []⟩) (CR (L2.CX P w) out P w H s Q E) s
theorem FnG.mono {P : Program} {w : World} {K : PySem.W.Frag} {mg : Str → Option Value} {base : Heap} {j k : Nat} {f : Addr} {sp : Sp} (F : FnG P w K mg base j f sp) (h : j ≤ k) : FnG P w K mg base k f sp :=
  fun A out s H us vs Q E hr => F A out s H us vs Q E (hr.mono h)
def callD (n tot : Nat) (b : Sx) : Fn := fun ds g => if ds.length = n then match b (ds.map some ++ List.replicate (tot - n) none) g with
  | .nx _ g' => settle g.length .non g'
  | .rt d g' => settle g.length d g'
  | .ex _ e g' => settleX g.length e g'
  | _ => .no else .no
/-- the same for a def that returns a list which it made and which changes afterwards -/
def callK (n tot : Nat) (b : Sx) : Fn := fun ds g => if ds.length = n then match b (ds.map some ++ List.replicate (tot - n) none) g with
  | .nx _ g' => .ok .non g'
  | .rt d g' => .ok d g'
  | .ex _ e g' => settleX g.length e g'
  | _ => .no else .no
/-- defaults: the last ones fill up -/
def fillD (n : Nat) (dv ds : List D) : List D := if ds.length < n then ds ++ dv.drop (ds.length + dv.length - n) else ds
def callF (n : Nat) (dv : List D) (f : Fn) : Fn := fun ds g => f (fillD n dv ds) g
def spOf (K : PySem.W.Frag) (f : Fn) : Sp := fun vs H Q E => ∃ m g ds, Rel K m g H ∧ Dens K m ds vs ∧ Post K (WF E) [] (Den K) (f ds g) m Q
theorem slots_start {K : PySem.W.Frag} {m : Md} {N : List Str} {ds : List D} {vs : List V} {n : Nat} (h : Dens K m ds vs) (hn : ds.length = n) : SlotsL K m (ds.map some ++ List.replicate (N.length - n) none) (L2.start N vs) := by
  have hl := h.length
  refine ⟨fun i d q => ?_, ?_⟩
  · by_cases hi : i < ds.length
    · rw [List.getElem?_append_left (by simpa using hi), List.getElem?_map] at q
      cases e : ds[i]? with
      | none => rw [e] at q; cases q
      | some x =>
        rw [e] at q
        have q' : x = d := Option.some.inj (Option.some.inj q)
        subst q'
        obtain ⟨v, h1, h2⟩ := h.get e
        refine ⟨v, ?_, h2⟩
        unfold L2.start
        rw [List.getElem?_append_left (by simp; omega), List.getElem?_map, h1]
        rfl
    · rw [List.getElem?_append_right (by simp; omega), List.getElem?_replicate] at q
      split at q <;> cases q
  · unfold L2.start
    simp only [List.length_append, List.length_map, List.length_replicate]
    omega
theorem callK_no {n tot : Nat} {b : Sx} (ds : List D) (g : G) (h : ds.length ≠ n) : callK n tot b ds g = .no := by
  unfold callK
  rw [if_neg h]
theorem callD_no {n tot : Nat} {b : Sx} (ds : List D) (g : G) (h : ds.length ≠ n) : callD n tot b ds g = .no := by
  unfold callD
  rw [if_neg h]
section
variable {P : Program} {w : World} {K : PySem.W.Frag} {mg : Str → Option Value} {base : Heap} {x qual : Str} {params : Arguments} {body : List Stmt} {scope : Scope} {dvs : List V} {kws : List (Str × V)} {f : Addr} {fd : FuncData}
/-- what a body's derivation shows -/
abbrev BodyOk (P : Program) (w : World) (K : PySem.W.Frag) (mg : Str → Option Value) (base : Heap) (N : List Str) (qual : Str) (scope : Scope) (f : Addr) (body : List Stmt) (k : Nat) (b : Sx) : Prop :=
  ∀ (cd : Value) (A : Around) (out : List Env) (s : Shared) (H : Hp) (E : XK), Room k (A.deeper (PyProof.Rows.envOfC qual scope s.heap.objs.size f cd)) → Gd A →
    PSs (cxOf (L2.CX P w) P w K mg base N qual scope f cd A out s H E) body (tS K (WF E) b)
theorem fn_any {N ps : List Str} {n k : Nat} {b : Sx} {fn : Fn} (F : FunD K x qual params body scope dvs kws f fd) (S : FnScope N ps scope)
    (hN : ∀ ds g, ds.length ≠ n → fn ds g = .no) (hn : ps.length = n) (bA : ∀ (s : Shared) (us : List Value), us.length = ps.length → BindsTo s fd ⟨us, []⟩ (ps.zip us))
    (hb : BodyOk P w K mg base N qual scope f body k b)
    (hf : ∀ ds g, ds.length = n → ∀ (E : XK) (m : Md) (Q : VK) (H0 : Hp), Rel K m g H0 → Post K (WF E) [] (Den K) (fn ds g) m Q → PostS K (WF E) (b (ds.map some ++ List.replicate (N.length - n) none) g) m { nx := fun _ H' => Q .non H', rt := Q }) :
    FnG P w K mg base (k + 1) f (spOf K fn) := fun A out s H us vs Q E hr hg e0 r h => by
  obtain ⟨oc, od, dV, kV, doc, pm, an, cd, ct, osl, rfl, lk, hcd, _, _⟩ := F.ex
  obtain ⟨m, g, ds, rl, hd, p⟩ := h
  by_cases hl : ds.length = n
  · have hv : vs.length = ps.length := by rw [← hd.length, hl, hn]
    refine LamX.run_ofS lk hcd S hr e0 (bA s us (by rw [← r.length]; exact hv)) r hv fun hr' => ?_
    exact ⟨_, hb cd A out s H E hr' hg, m, ds.map some ++ List.replicate (N.length - n) none, g, rl, slots_start hd hl, hf ds g hl E m Q H rl p⟩
  · rw [hN ds g hl] at p
    exact p.elim
theorem fn_ok {N ps : List Str} {n k : Nat} {b : Sx} (F : FunD K x qual params body scope dvs kws f fd) (S : FnScope N ps scope) (hn : ps.length = n)
    (bA : ∀ (s : Shared) (us : List Value), us.length = ps.length → BindsTo s fd ⟨us, []⟩ (ps.zip us)) (hb : BodyOk P w K mg base N qual scope f body k b) : FnG P w K mg base (k + 1) f (spOf K (callD n N.length b)) :=
  fn_any F S callD_no hn bA hb fun ds g hl E m Q H rl p => by
    unfold callD at p
    rw [if_pos hl] at p
    cases hr' : b (ds.map some ++ List.replicate (N.length - n) none) g with
    | nx σ g' => rw [hr'] at p; exact fun m' H' σv l r sl => settle_s rl l r .non p
    | rt d g' => rw [hr'] at p; exact fun m' H' v l r hd => settle_s rl l r hd p
    | ex σ e g' => rw [hr'] at p; exact fun m' H' σv cv dd l r sl hd => settleX_s rl l r hd p
    | bk σ g' => rw [hr'] at p; exact p.elim
    | ct σ g' => rw [hr'] at p; exact p.elim
    | no => rw [hr'] at p; exact p.elim
theorem fn_okK {N ps : List Str} {n k : Nat} {b : Sx} (F : FunD K x qual params body scope dvs kws f fd) (S : FnScope N ps scope) (hn : ps.length = n)
    (bA : ∀ (s : Shared) (us : List Value), us.length = ps.length → BindsTo s fd ⟨us, []⟩ (ps.zip us)) (hb : BodyOk P w K mg base N qual scope f body k b) : FnG P w K mg base (k + 1) f (spOf K (callK n N.length b)) :=
  fn_any F S callK_no hn bA hb fun ds g hl E m Q H rl p => by
    unfold callK at p
    rw [if_pos hl] at p
    cases hr' : b (ds.map some ++ List.replicate (N.length - n) none) g with
    | nx σ g' => rw [hr'] at p; exact fun m' H' σv l r sl => p m' H' .non l r .non
    | rt d g' => rw [hr'] at p; exact fun m' H' v l r hd => p m' H' v l r hd
    | ex σ e g' => rw [hr'] at p; exact fun m' H' σv cv dd l r sl hd => settleX_s rl l r hd p
    | bk σ g' => rw [hr'] at p; exact p.elim
    | ct σ g' => rw [hr'] at p; exact p.elim
    | no => rw [hr'] at p; exact p.elim
end
/-! ### calls -/
section
variable {X : Cx} {W : WX} {k : Nat} {f : Addr} {sp : Sp} {pins : List (Addr × Obj)} {σ : L2.St} {H : Hp} {s : Shared} {Q : VK} {us : List Value} {vs : List V}
theorem run_g (F : FnG X.prog X.w X.K X.mg X.base k f sp) (hr : Room k X.A) (gd : Gd X.A) (tk : Takes X W) (J : Inv X pins σ H s) (r : Vals vs us) (h : sp vs H Q (WE W σ)) :
    wpAny (model X.prog X.w) X.A (call (.ref f) us) (EP X pins σ Q) X.xe s := by
  have c := F X.A X.stack s H us vs Q (WE W σ) hr gd J.env0 r h
  refine wpAny_call (codeAny_mono c fun z s' hz => ?_)
  match z, hz with
  | .error e, hz => exact passAt tk σ pins H s e s' J hz
  | .ok (.ret u), hz => exact J.after hz
  | .ok .next, hz => exact hz.elim
  | .ok .brk, hz => exact hz.elim
  | .ok .cont, hz => exact hz.elim
end
/-- the text's tables of code objects: (code, table) -/
def TbB (base : Heap) (mg : Str → Option Value) (tf : List He.Defn) (K : PySem.W.Frag) : Prop := ∀ p ∈ tf, LamX.TabB base mg (He.cT K p).1 (He.cT K p).2
/-- a def at f -/
def OkA (tf : List He.Defn) (P : Program) (w : World) (K : PySem.W.Frag) (mg : Str → Option Value) (f : Addr) (k : Nat) (fn : Fn) : Prop :=
  PySem.W.keepIn K (.ref f) = true ∧ ∀ base, TbB base mg tf K → FnG P w K mg base k f (spOf K fn)
/-- a def of the top -/
def Ok (tf : List He.Defn) (P : Program) (w : World) (K : PySem.W.Frag) (mg : Str → Option Value) (x : Str) (k : Nat) (fn : Fn) : Prop :=
  mg x = some (.ref (ga K x)) ∧ OkA tf P w K mg (ga K x) k fn
section
variable {X : Cx} {W : WX} {tf : List He.Defn} {j k : Nat} {fn : Fn} {x : Str} {p pos : Pos} {e : Expr} {es : List Expr} {t : Av}
theorem sp_call {K : PySem.W.Frag} {σ : L2.St} {m : Md} {g : G} {H : Hp} {ds : List D} {vs : List V} {Q : VK} (r : Rel K m g H) (d : Dens K m ds vs) (h : Post K W σ (Den K) (fn ds g) m Q) : spOf K fn vs H Q (WE W σ) := by
  refine ⟨m, g, ds, r, d, ?_⟩
  cases hf : fn ds g with
  | ok d g2 => rw [hf] at h; exact h
  | ex e g2 => rw [hf] at h; exact h
  | no => rw [hf] at h; exact h
theorem x_callO (o : Ok tf X.prog X.w X.K X.mg x k fn) (TB : TbB X.base X.mg tf X.K) (gd : Gd X.A) (hr : Room j X.A) (hj : k ≤ j) (tk : Takes X W) (hg : Gl X x)
    (ha : PA X (e :: es) (tA X.K W t)) (hdb : (x == ("__debug__" : Str)) = false := by decide) (he : starEach (e :: es) X.env = (false, eval e X.env) :: starEach es X.env := by rfl) (hpl : (backTo pos (starEach es X.env)).any (·.1) = false := by rfl) :
    PE X (.Call (.Name x p) (e :: es) [] pos) (tE X.K W (eCall fn t)) := by
  obtain ⟨h1, h2, h3⟩ := o
  refine ⟨fun pins s σ H Q J ⟨m, σ', g, rl, sl, hl, q⟩ => wpAny_Call_Name_kw (ld_glob J hg h1 ?_ hdb)⟩
  have arg : tA X.K W t σ H fun vs H1 => spOf X.K fn vs H1 Q (WE W σ) := ⟨m, σ', g, rl, sl, hl, Post.bind q fun ds g1 m1 H1 vs l1 r1 d1 p1 => sp_call r1 d1 p1⟩
  refine PySem.W.callWith_K (h₀ := X.base) J.ok.mod.kin h2 (thn (ha.run pos pins s σ H _ J arg) fun us s1 ⟨vs, H1, J1, r, q1⟩ => ⟨J1.kIn, ?_⟩) he hpl
  exact run_g (h3 X.base TB) (hr.mono hj) gd tk J1 r q1
theorem x_callO0 (o : Ok tf X.prog X.w X.K X.mg x k fn) (TB : TbB X.base X.mg tf X.K) (gd : Gd X.A) (hr : Room j X.A) (hj : k ≤ j) (tk : Takes X W) (hg : Gl X x) (hdb : (x == ("__debug__" : Str)) = false := by decide) :
    PE X (.Call (.Name x p) [] [] pos) (tE X.K W (eCall fn aNil)) := by
  obtain ⟨h1, h2, h3⟩ := o
  refine ⟨fun pins s σ H Q J ⟨m, σ', g, rl, sl, hl, q⟩ => wpAny_Call_Name_kw (ld_glob J hg h1 ?_ hdb)⟩
  exact PySem.W.callWith_K0 J.kIn h2 (run_g (us := []) (h3 X.base TB) (hr.mono hj) gd tk J .nil (sp_call rl .nil q))
end
/-! ### the law's call -/
section
variable {K : PySem.W.Frag}
/-- it ends and gives True -/
def Res.wpB (r : Res D) : Prop := match r with
  | .ok (.bl true) _ => True
  | _ => False
/-- the cells at the start: the tables -/
def cell0 (p : He.Defn × Str) : Cell := match p.2.cps.size with
  | 0 => .tbg p.1
  | _ => .tab p.1 p.2
def g0 (tf : List (He.Defn × Str)) : G := tf.map cell0
theorem law_sp {f : Fn} {tf : List (He.Defn × Str)} (nd : (tf.map fun p => (He.cT K p.1).2).Nodup) {H : Hp} {a : Addr} {ns : List Int} {Q : VK} {E : XK} (hT : ∀ p ∈ tf, H (He.cT K p.1).2 = some (.tbl #[])) (hS : SqL K H a (ns.map V.int))
    (hf : (f [.seq (ns.map D.int)] (g0 tf)).wpB) (hQ : ∀ H, Q (.bl true) H) : spOf K f [.ref a] H Q E := by
  classical
  have hd : ∀ (m : Md) (ns : List Int), Dens K m (ns.map D.int) (ns.map V.int) := fun m ns => by
    induction ns with
    | nil => exact .nil
    | cons n ns ih => exact .cons .int ih
  let isT : Addr → Prop := fun b => ∃ p ∈ tf, b = (He.cT K p.1).2
  let m : Md := ⟨fun b => if isT b then none else H b, fun i => (tf[i]?).map fun p => (He.cT K p.1).2, fun _ => none⟩
  have nT : ∀ b u, H b = some u → (∀ ps, u ≠ .tbl ps) → ¬ isT b := fun b u e n ⟨p, hp, z⟩ => by
    rw [z, hT p hp] at e
    exact n _ (Option.some.inj e).symm
  have keepF : ∀ b u, H b = some u → (∀ ps, u ≠ .tbl ps) → m.F b = some u := fun b u e n => by
    show (if isT b then none else H b) = some u
    rw [if_neg (nT b u e n)]
    exact e
  have hS' : SqL K m.F a (ns.map V.int) := by
    rcases hS with (h | ⟨o, h⟩) | h
    · exact .inl (.inl (keepF _ _ h fun _ z => nomatch z))
    · exact .inl (.inr ⟨o, keepF _ _ h fun _ z => nomatch z⟩)
    · exact .inr h
  have rl : Rel K m (g0 tf) H := by
    refine ⟨fun b u e => ?_, fun i c e => ?_, fun i b e => ?_, fun i j b e1 e2 => ?_, fun b u e => nomatch e⟩
    · have e' : (if isT b then none else H b) = some u := e
      split at e'
      · cases e'
      · exact e'
    · unfold g0 at e
      rw [List.getElem?_map] at e
      cases q : tf[i]? with
      | none => rw [q] at e; cases e
      | some p =>
        rw [q] at e
        have hp := List.mem_of_getElem? q
        refine ⟨(He.cT K p.1).2, by show (tf[i]?).map _ = _; rw [q]; rfl, ?_, _, hT p hp, ?_⟩
        · show (if isT _ then none else H _) = none
          exact if_pos ⟨p, hp, rfl⟩
        · cases e
          unfold cell0
          split
          · exact ⟨rfl, #[], rfl, trivial⟩
          · refine ⟨rfl, #[], rfl, trivial, fun pos cv z => ?_⟩
            have z' : codeAmong pos [] = some cv := z
            simp [codeAmong] at z'
    · have e' : (tf[i]?).map _ = some b := e
      unfold g0
      rw [List.length_map]
      cases q : tf[i]? with
      | none => rw [q] at e'; cases e'
      | some p => exact (List.getElem?_eq_some_iff.mp q).1
    · have e1' : (tf.map fun p => (He.cT K p.1).2)[i]? = some b := by rw [List.getElem?_map]; exact e1
      have e2' : (tf.map fun p => (He.cT K p.1).2)[j]? = some b := by rw [List.getElem?_map]; exact e2
      obtain ⟨h1, h2⟩ := List.getElem?_eq_some_iff.mp e1'
      obtain ⟨h3, h4⟩ := List.getElem?_eq_some_iff.mp e2'
      have pw := List.pairwise_iff_getElem.mp nd
      rcases Nat.lt_trichotomy i j with z | z | z
      · exact absurd (h2.trans h4.symm) (pw i j h1 h3 z)
      · exact z
      · exact absurd (h4.trans h2.symm) (pw j i h3 h1 z)
  refine ⟨m, g0 tf, [.seq (ns.map D.int)], rl, .cons (.seq hS' (hd m ns)) .nil, ?_⟩
  unfold Res.wpB at hf
  revert hf
  cases f [.seq (ns.map D.int)] (g0 tf) with
  | ok d g => cases d with
    | bl c => cases c with
      | true => exact fun _ m' H' v l r hd => by cases hd; exact hQ H'
      | false => exact fun h => h.elim
    | _ => exact fun h => h.elim
  | ex e g => exact fun h => h.elim
  | no => exact fun h => h.elim
end
end AW
namespace AW
open PySem PySem.Spec PyProof.Rows L2
/-! ### the end of a law whose defs promise under guards -/
section
variable {P : Program} {w : World} {K : PySem.W.Frag} {mg mb : Str → Option Value} {k : Nat} {fa a : Addr} {T : List (Addr × Addr)} {sp : Sp} {s : Shared} {vs : List Value} {ns : List Int}
/-- the abstract heap at the law's call: its tables, and the script where the text does not hold it -/
def hpL (K : PySem.W.Frag) (T : List (Addr × Addr)) (a : Addr) (oa : Obj) (ns : List Int) : Hp := open Classical in fun b =>
  if b ∈ T.map (·.2) then some (.tbl #[]) else if b = a ∧ K.lookup a = none then some (.frz oa (.lst (ns.map V.int))) else none
theorem hpL_cases {oa : Obj} {b : Addr} {u : HO} (h : hpL K T a oa ns b = some u) : (b ∈ T.map (·.2) ∧ u = .tbl #[]) ∨ (b = a ∧ K.lookup a = none ∧ u = .frz oa (.lst (ns.map V.int))) := by
  unfold hpL at h
  split at h
  · rename_i q; exact .inl ⟨q, (Option.some.inj h).symm⟩
  · split at h
    · rename_i q; exact .inr ⟨q.1, q.2, (Option.some.inj h).symm⟩
    · cases h
theorem law_callG (inK : K.In s.heap) (glob : s.heap.Ns mainGlobals mg) (blt : s.heap.Ns builtinsNs mb) (bltv : ∀ x : Str, x ≠ "__name__" → mb x = bootBuiltins x) (noLim : s.heap.NoLimit) (noGen : s.gens = #[])
    (tabE : ∀ p ∈ T, s.heap.get? p.2 = some { cls := .none, data := .fields #[] }) (tabK : ∀ p ∈ T, K.lookup p.2 = none) (tabC : ∀ p ∈ T, PySem.W.CodeHd s.heap p.1 p.2)
    (bmod : ∃ (bm : Addr) (ob : Obj), mg "__builtins__" = some (.ref bm) ∧ bm ≠ builtinsNs ∧ s.heap.get? bm = some ob ∧ ob.cls = .type "module" ∧ ob.dict = some builtinsNs ∧ ob.data = .plain)
    (scr : s.heap.get? a = some { cls := .type "list", data := .seq vs.toArray }) (isI : IntsAre vs ns) (len : ns.length ≤ sizeLine) (room : Room k callerA)
    (F : ∀ base : Heap, K.In base → base.Ns mainGlobals mg → (∀ p ∈ T, LamX.TabB base mg p.1 p.2) → FnG P w K mg base k fa sp)
    (hsp : ∀ H : Hp, (∀ p ∈ T, H p.2 = some (.tbl #[])) → SqL K H a (ns.map V.int) → sp [.ref a] H (fun v _ => v = .bl true) fun _ _ _ => False) :
    codeAny (model P w) callerA (.call (.ref fa) ⟨[.ref a], []⟩) (fun r s' => r = .ok (.ret (.bool true)) ∧ OldK s.heap s'.heap ∧ s'.os = s.os ∧ AllBare s'.gens) s := by
  have tabAt : ∀ b : Addr, b ∈ T.map (·.2) → s.heap.get? b = some { cls := .none, data := .fields #[] } := fun b hb => by
    obtain ⟨p, hp, rfl⟩ := List.mem_map.mp hb
    exact tabE p hp
  have aNo : a ∉ T.map (·.2) := fun z => by
    have q := (tabAt a z).symm.trans scr
    cases q
  have inT : ∀ p ∈ T, p.2 ∈ T.map (·.2) := fun p hp => List.mem_map.mpr ⟨p, hp, rfl⟩
  generalize hoa : ({ cls := .type "list", data := .seq vs.toArray } : Obj) = oa at scr
  have lv : vs.length = ns.length := isI.length
  have hT : ∀ p ∈ T, hpL K T a oa ns p.2 = some (.tbl #[]) := fun p hp => if_pos (inT p hp)
  have none_of : ∀ {b : Addr} {o : Obj}, s.heap.get? b = some o → (∀ us n, o.data ≠ .seq us n) → o.data ≠ .fields #[] → hpL K T a oa ns b = none := fun {b o} e d1 d2 => by
    cases q : hpL K T a oa ns b with
    | none => rfl
    | some u =>
      rcases hpL_cases q with ⟨z, _⟩ | ⟨z, _, _⟩
      · rw [tabAt b z] at e
        cases e
        exact absurd rfl d2
      · rw [z, scr] at e
        cases e
        exact absurd (by rw [← hoa]) (d1 vs.toArray 0)
  have grd : ∀ {b : Addr} {o : Obj}, s.heap.get? b = some o → hpL K T a oa ns b = none → (hidT s.heap (hpL K T a oa ns)).get? b = some o := fun e n => hidT_get e n
  have grdD : ∀ {b : Addr} {o : Obj} {es : Array DictEntry} {ep : Nat}, s.heap.get? b = some o → o.data = .dict es ep → (hidT s.heap (hpL K T a oa ns)).get? b = some o := fun {b o es ep} e d =>
    grd e (none_of e (fun us n z => by rw [d] at z; cases z) fun z => by rw [d] at z; cases z)
  have grdN : ∀ {b : Addr} {m : Str → Option Value}, s.heap.Ns b m → (hidT s.heap (hpL K T a oa ns)).Ns b m := fun {b m} ⟨o, es, ep, e, d, r⟩ => ⟨o, es, ep, grdD e d, d, r⟩
  have grdK : K.In (hidT s.heap (hpL K T a oa ns)) := fun b o e => grd (inK b o e) (by
    cases q : hpL K T a oa ns b with
    | none => rfl
    | some u =>
      rcases hpL_cases q with ⟨z, _⟩ | ⟨z, z2, _⟩
      · obtain ⟨p, hp, rfl⟩ := List.mem_map.mp z
        rw [tabK p hp] at e
        cases e
      · rw [z, z2] at e
        cases e)
  have okH : HOk P w (hpL K T a oa ns) s.heap := fun b u q => by
    rcases hpL_cases q with ⟨z, rfl⟩ | ⟨rfl, _, rfl⟩
    · exact tabAt b z
    · have hl : (ns.map V.int).length ≤ sizeLine := by rw [List.length_map]; exact len
      exact ⟨scr, hl, vs, _, vals_ints isI, by rw [scr, ← hoa]⟩
  have sq : SqL K (hpL K T a oa ns) a (ns.map V.int) := by
    cases q : K.lookup a with
    | none =>
      refine .inl (.inr ⟨oa, ?_⟩)
      unfold hpL
      rw [if_neg aNo, if_pos ⟨rfl, q⟩]
    | some o =>
      have e := inK a o q
      rw [scr] at e
      cases e
      subst hoa
      exact .inr ⟨_, vs.toArray, _, q, rfl, rfl, rfl, by rw [List.size_toArray, lv]; exact len, by simpa using vals_ints isI⟩
  have modB : L2.Mod K mg (hidT s.heap (hpL K T a oa ns)) := by
    obtain ⟨mc, c1, c2⟩ := noLim
    exact ⟨grdK, grdN glob, ⟨mb, grdN blt, bltv⟩, mc, grdN c1, c2⟩
  have globD : ∃ (o : Obj) (es : Array DictEntry) (ep : Nat), s.heap.get? mainGlobals = some o ∧ o.data = .dict es ep := by
    obtain ⟨o, es, ep, e, d, _⟩ := glob
    exact ⟨o, es, ep, e, d⟩
  have tbs : ∀ p ∈ T, LamX.TabB (hidT s.heap (hpL K T a oa ns)) mg p.1 p.2 := fun p hp => by
    obtain ⟨og, esg, epg, eg, dg⟩ := globD
    have here := tabE p hp
    refine ⟨?_, ?_, fun z => ?_⟩
    · obtain ⟨o, us, file, tk, flags, tg, inF, text, tt, e1, e2, e3, e4, e5⟩ := tabC p hp
      refine ⟨o, us, file, tk, flags, tg, inF, text, tt, grd e1 (none_of e1 (fun _ _ z => ?_) fun z => ?_), e2, e3, e4, e5⟩
      · rw [e3] at z; cases z
      · rw [e3] at z
        cases z
        simp at e4
    · obtain ⟨bm, ob, b1, b2, b3, b4, b5, b6⟩ := bmod
      refine ⟨bm, ob, b1, b2, fun q => ?_, fun q => ?_, grd b3 (none_of b3 (fun _ _ z => by rw [b6] at z; cases z) fun z => by rw [b6] at z; cases z), b4, b5, b6⟩
      · rw [q, eg] at b3
        cases b3
        rw [dg] at b6
        cases b6
      · rw [q, here] at b3
        cases b3
        cases b6
    · rw [z, here] at eg
      cases eg
      cases dg
  have env : Env0 P w K mg (hidT s.heap (hpL K T a oa ns)) callerA [] s (hpL K T a oa ns) :=
    ⟨rfl, modB, fun b o e => of_hidT e, Nat.le_of_eq (hidT_size _ _), trivial, (fun b hb => absurd (show b ∈ ([] : List Addr) from hb) List.not_mem_nil), okH, .of_eq noGen⟩
  have run := F _ grdK (grdN glob) tbs callerA [] s _ [.ref a] [.ref a] _ _ room rfl env (.cons rfl .nil) (hsp _ hT sq)
  refine codeAny_mono run fun r s' h => ?_
  match r, h with
  | .error e, h =>
    obtain ⟨_, _, _, _, _, _, _, _, _, _, _, _, z⟩ := h
    exact z.elim
  | .ok .next, h => exact h.elim
  | .ok .brk, h => exact h.elim
  | .ok .cont, h => exact h.elim
  | .ok (.ret u), h =>
    obtain ⟨v, H', os, bare, un, ok', ru, ev⟩ := h
    have ev' : v = .bl true := ev
    subst ev'
    obtain rfl : u = Value.bool true := ru
    have old : ∀ b o, b ∉ T.map (·.2) → s.heap.get? b = some o → s'.heap.get? b = some o := fun b o nb e => by
      cases q : hpL K T a oa ns b with
      | none => exact un.keep b o e q (fun z => absurd (show b ∈ ([] : List Addr) from z) List.not_mem_nil) (fun z => absurd (show b ∈ ([] : List Addr) from z) List.not_mem_nil)
      | some u =>
        rcases hpL_cases q with ⟨z, _⟩ | ⟨_, _, rfl⟩
        · exact absurd z nb
        · obtain ⟨e1, _⟩ := okH b _ q
          obtain ⟨e2, _⟩ := ok' b _ (un.frzs b _ _ q)
          rw [e] at e1
          cases e1
          exact e2
    have more : ∀ p ∈ T, ∃ us : Array Value, s'.heap.get? p.2 = some { cls := .none, data := .fields us } := fun p hp => by
      obtain ⟨us, z⟩ := un.tbls p.2 #[] (hT p hp)
      exact ⟨_, ok' p.2 _ z⟩
    refine ⟨rfl, ⟨fun b o e => ?_, fun b o e => ?_⟩, os, bare⟩
    · by_cases hb : b ∈ T.map (·.2)
      · obtain ⟨p, hp, rfl⟩ := List.mem_map.mp hb
        obtain ⟨us, hu⟩ := more p hp
        rw [tabE p hp] at e
        cases e
        exact .inr (.inl ⟨((tabC p hp).tab (tabE p hp)).isCodeTable, rfl, #[], us, rfl, by rw [Array.empty_append]; exact hu⟩)
      · exact .inl (old b o hb e)
    · by_cases hb : b ∈ T.map (·.2)
      · obtain ⟨p, hp, rfl⟩ := List.mem_map.mp hb
        obtain ⟨us, hu⟩ := more p hp
        exact ⟨_, hu⟩
      · exact ⟨o, old b o hb e⟩
end
/-- the law's own end: tf its defs with tables (and the names that their code objects bear) -/
theorem endG {l : PySem.W.OpenLaw} {n k : Nat} {q : Program} {loose : List Str} {XP : (Str → Option Value) → Heap → Prop} {YP : World → Heap → Prop} {d : DefRec} {f : Fn} {tf : List (He.Defn × Str)}
    (hn : l.most = some n) (hn2 : n ≤ sizeLine) (hdf : d.params.defaults = []) (hr : Room k callerA) (nx : n ≤ 63)
    (hf : ∀ ns : List Int, ns.length ≤ 63 → (f [.seq (ns.map D.int)] (g0 tf)).wpB)
    (FF : ∀ (w : World) (mg : Str → Option Value) (fa : Addr) (h : Heap), YP w h → h.Ns mainGlobals mg → mg d.name = some (.ref fa) →
      ∃ K : PySem.W.Frag, K.In h ∧ (∀ p ∈ tf, h.get? (He.cT K p.1).2 = some { cls := .none, data := .fields #[] }) ∧ (∀ p ∈ tf, K.lookup (He.cT K p.1).2 = none) ∧ (∀ p ∈ tf, PySem.W.CodeHd h (He.cT K p.1).1 (He.cT K p.1).2) ∧
        (tf.map fun p => (He.cT K p.1).2).Nodup ∧ fa = ga K d.name ∧ Ok (tf.map (·.1)) l.prog w K mg d.name k f) :
    PySem.W.WalkO q loose XP YP l.row.toRowW d [] (fun f vs => PySem.call f vs) := by
  refine Att.attach_callB hn hdf fun w s₀ s mg mb fa o pm cd doc a vs ns Gr Y ho hd hcd hmg hobj hints hlen hbits hg => ?_
  obtain ⟨K, KX, t1, t2, t3, nd, rfl, OK⟩ := FF w mg fa _ Y Gr.T.g hmg
  obtain ⟨_, _, ok⟩ := OK
  have un : ∀ {p : Addr × Addr}, p ∈ (tf.map fun p => He.cT K p.1) → ∃ q ∈ tf, p = He.cT K q.1 := fun {p} hp => by
    obtain ⟨q, hq, rfl⟩ := List.mem_map.mp hp
    exact ⟨q, hq, rfl⟩
  refine law_callG (T := tf.map fun p => He.cT K p.1) (sp := spOf K f) KX Gr.T.g Gr.T.b Gr.T.builtins Gr.T.nolimit hg (fun p hp => ?_) (fun p hp => ?_) (fun p hp => ?_) Gr.T.bmain hobj hints (Nat.le_trans hlen hn2) hr (fun base _ _ tb => ok base fun p hp => ?_) fun H hT hS => ?_
  · obtain ⟨q, hq, rfl⟩ := un hp; exact t1 q hq
  · obtain ⟨q, hq, rfl⟩ := un hp; exact t2 q hq
  · obtain ⟨q, hq, rfl⟩ := un hp; exact t3 q hq
  · obtain ⟨q, hq, rfl⟩ := List.mem_map.mp hp
    exact tb _ (List.mem_map.mpr ⟨q, hq, rfl⟩)
  · exact law_sp nd (fun p hp => hT _ (List.mem_map.mpr ⟨p, hp, rfl⟩)) hS (hf ns (Nat.le_trans hlen nx)) fun _ => rfl
end AW
namespace AW
open PySem PySem.Spec L2
/-! ### isinstance of built-in classes -/
inductive TK where
  | non | bl | int | str | tup | lst | dct
def TK.name : TK → String
  | .non => "NoneType"
  | .bl => "bool"
  | .int => "int"
  | .str => "str"
  | .tup => "tuple"
  | .lst => "list"
  | .dct => "dict"
def TK.sub : TK → TK → Bool
  | .non, .non => true
  | .bl, .bl => true
  | .bl, .int => true
  | .int, .int => true
  | .str, .str => true
  | .tup, .tup => true
  | .lst, .lst => true
  | .dct, .dct => true
  | _, _ => false
theorem TK.kit (K : PySem.W.Frag) (a b : TK) : PySem.W.kitOne K (.type a.name) (.type b.name) = some (a.sub b) := kit_ty (by cases a <;> cases b <;> decide +kernel)
def tkOf (g : G) : D → Option TK
  | .non => some .non
  | .bl _ => some .bl
  | .int _ => some .int
  | .str _ => some .str
  | .tup _ => some .tup
  | .lst _ => some .lst
  | .seq _ => some .lst
  | .dct _ _ => some .dct
  | .ref i => match g[i]? with
    | some (.lst _) => some .lst
    | some (.dct _ _) => some .dct
    | _ => none
  | _ => none
theorem tkOf_s {K : PySem.W.Frag} {m : Md} {g : G} {H : Hp} {d : D} {v : V} {k : TK} (r : Rel K m g H) (h : Den K m d v) (e : tkOf g d = some k) : TyX K H v (.type k.name) := by
  cases h with
  | non => cases e; exact .base .non
  | bl => cases e; exact .base (.bl _)
  | int => cases e; exact .base (.int _)
  | str => cases e; exact .base (.str _)
  | tup h1 h2 =>
    cases e
    rcases r.seqT h1 with (h3 | ⟨o, h3⟩) | ⟨o, its, n, h3, h4, _⟩
    · exact .base (.tup h3)
    · exact .fTuple h3
    · exact .kTuple h3 h4
  | lst h1 h2 => cases e; exact .base (.lst (r.ex _ _ h1))
  | seq h1 h2 =>
    cases e
    rcases r.seqL h1 with (h3 | ⟨o, h3⟩) | ⟨o, its, n, h3, h4, _⟩
    · exact .base (.lst h3)
    · exact .base (.frz h3)
    · exact .kList h3 h4
  | dct h1 hl h2 => cases e; exact .base (.dK (r.ex _ _ h1))
  | dtt h1 hl h2 => cases e
  | ref h1 =>
    rename_i i a
    have e' : (match g[i]? with | some (.lst _) => some TK.lst | some (.dct _ _) => some TK.dct | _ => none) = some k := e
    split at e'
    · rename_i ys hy
      cases e'
      obtain ⟨b, e1, _, o, e2, vs, e3, _⟩ := r.cell _ _ hy
      rw [h1] at e1
      cases e1
      subst e3
      exact .base (.lst e2)
    · rename_i ks ys hy
      cases e'
      obtain ⟨b, e1, _, o, e2, vs, e3, _⟩ := r.cell _ _ hy
      rw [h1] at e1
      cases e1
      subst e3
      exact .base (.dK e2)
    · cases e'
  | ins h1 h2 h3 => cases e
  | glo => cases e
  | val => cases e
theorem s_par3 {X : Cx} {W : WX} {i j l : Nat} {x y z : Str} {a b c : Expr} {t : Av} {px py pz pt pos : Pos} {kt k2 pt2} (hc : X.calm = true) (hN : X.N.Nodup) (hi : X.N[i]? = some x) (hj : X.N[j]? = some y) (hl : X.N[l]? = some z) (hij : i ≠ j) (hil : i ≠ l) (hjl : j ≠ l)
    (hx : X.env.scope.names.lookup x = some .local) (hy : X.env.scope.names.lookup y = some .local) (hz : X.env.scope.names.lookup z = some .local) (ha : PA X [a, b, c] (tA X.K W t))
    (hw : swappedStores [.Tuple [.Name x px, .Name y py, .Name z pz] kt pt] (.Tuple [a, b, c] k2 pt2) X.env = pure (some [x, y, z]))
    (hs : swapsWithSole [.Tuple [.Name x px, .Name y py, .Name z pz] kt pt] (.Tuple [a, b, c] k2 pt2) pos.line X.env = pure false := by rfl) :
    PS X (.Assign [.Tuple [.Name x px, .Name y py, .Name z pz] kt pt] (.Tuple [a, b, c] k2 pt2) pos) (tS X.K W (sPar3 i j l t)) := PS.imp (ps_par3 hc hN hi hj hl hij hil hjl hx hy hz ha hw hs) fun D' σ H h => by
  obtain ⟨m, σ', g, rl, sl, p⟩ := h
  refine ⟨m, σ', g, rl, sl.1, sl.2, sBind_s sl p fun ds g1 m1 H1 vs l1 r1 d1 p1 => ?_⟩
  split at p1
  · obtain ⟨v, ws, rfl, h1, h2⟩ := d1.consV
    obtain ⟨w, ws', rfl, h3, h4⟩ := h2.consV
    obtain ⟨w', ws'', rfl, h5, h6⟩ := h4.consV
    obtain rfl := h6.nilV
    exact ⟨v, w, w', rfl, p1 m1 H1 _ (Le.refl m1) r1 ((((sl.mono l1).set h1).set h3).set h5)⟩
  · exact p1.elim
/-! ### methods of lists that change -/
abbrev Mt := Nat → List D → G → Res D
def eMeth (f : Mt) (o : Ev) (t : Av) : Ev := fun σ g => (o σ g).bind fun x g1 => match x with
  | .ref i => match lmOf g1 i with
    | some _ => (t σ g1).bind fun ds g2 => f i ds g2
    | none => .no
  | _ => .no
/-- by values -/
def MtS (K : PySem.W.Frag) (W : WX) (r : V → List V → Hp → VK → Prop) (f : Mt) : Prop := ∀ (σv : L2.St) (m : Md) (g : G) (H : Hp) (i : Nat) (x : V) (ds : List D) (vs : List V) (Q : VK), Rel K m g H → Den K m (.ref i) x → Dens K m ds vs → Post K W σv (Den K) (f i ds g) m Q → r x vs H Q
theorem ref_ty {K : PySem.W.Frag} {m : Md} {g : G} {H : Hp} {i : Nat} {v : V} {ys : List D} (r : Rel K m g H) (h : Den K m (.ref i) v) (e : lmOf g i = some ys) : tyV K "list" v H := by
  obtain ⟨p, vs, rfl, _, h3, _⟩ := lmOf_s r h e
  exact .inl ⟨rfl, vs, SqL.of h3⟩
theorem tBM_of {K : PySem.W.Frag} {W : WX} {r : V → List V → Hp → VK → Prop} {f : Mt} {eo : Ev} {t : Av} (hs : MtS K W r f) {σ : L2.St} {H : Hp} {Q : VK} (h : tE K W (eMeth f eo t) σ H Q) : tBM K "list" r (tE K W eo) (tA K W t) σ H Q := by
  obtain ⟨m, σ', g, rl, sl, hl, p⟩ := h
  refine ⟨m, σ', g, rl, sl, hl, Post.bind p fun x g1 m1 H1 xv l1 r1 d1 p1 => ?_⟩
  split at p1
  · split at p1
    · rename_i ys hy
      refine ⟨ref_ty r1 d1 hy, m1, σ', g1, r1, sl.mono l1, hl, Post.bind p1 fun ds g2 m2 H2 vs l2 r2 d2 p2 => ?_⟩
      exact hs σ m2 g2 H2 _ xv ds vs Q r2 (d1.mono l2) d2 p2
    · exact p1.elim
  · exact p1.elim
def mAppend : Mt := fun i ds g => match ds with
  | [d] => match lmOf g i with
    | some xs => okIf (decide (xs.length < 100000)) .non (g.set i (.lst (xs ++ [d])))
    | none => .no
  | _ => .no
theorem mAppend_s {K : PySem.W.Frag} {W : WX} : MtS K W rAppend mAppend := fun σv m g H i x ds vs Q rl hx hd p => by
  unfold mAppend at p
  split at p
  · split at p
    · rename_i xs hxs
      obtain ⟨c, p⟩ := okIf_post p
      obtain ⟨v, ws, rfl, h3, h4⟩ := hd.consV
      obtain rfl := h4.nilV
      obtain ⟨a, us, rfl, h5, h6, h7⟩ := lmOf_s rl hx hxs
      refine ⟨a, us, v, rfl, rfl, h6, ?_, ?_⟩
      · rw [← h7.length, sizeLine_eq]
        have := of_decide_eq_true c
        omega
      · exact p m _ _ (Le.refl m) (rl.cellSet h5 ⟨_, rfl, h7.append (.cons h3 .nil)⟩) .non
    · exact p.elim
  · exact p.elim
def eAppend (o a : Ev) : Ev := eMeth mAppend o (aCons a aNil)
theorem x_append {X : Cx} {W : WX} {o e : Expr} {eo ee : Ev} {apos cpos : Pos} (ho : PE X o (tE X.K W eo)) (ha : PE X e (tE X.K W ee))
    (hbase : attributeBase o "append" X.env (eval o X.env) = eval o X.env := by rfl) (hst : starEach [e] X.env = (false, eval e X.env) :: starEach [] X.env := by rfl)
    (hfew : ((backTo cpos (starEach [e] X.env)).all (fun x => !x.1) && (backToKw cpos (keywordEach [] X.env)).all (fun x => x.1.isSome) && decide (([e] : List Expr).length + ([] : List Keyword).length + (if ([] : List Keyword).isEmpty then 0 else 1) < 30)) = true := by rfl)
    (hline : (apos.endLine == cpos.line) = true := by rfl) (hplain : (backTo cpos (starEach [] X.env)).any (·.1) = false := by rfl) :
    PE X (.Call (.Attribute o "append" apos) [e] [] cpos) (tE X.K W (eAppend eo ee)) :=
  PE.imp (pe_bm PySem.F.plainAttrs_list PySem.F.slot_list_append PySem.F.type_list_append mt_append ho (a_cons (W := W) ha a_nil hst) hbase hfew hline hst hplain) fun _ _ _ h => tBM_of mAppend_s h
/-! ### list(range(..)), tuple(range(..)) -/
def rgOk (a b : Int) : Bool := smallI a && smallI b && decide (b - a ≤ 100000)
theorem rgOk_s {a b : Int} (h : rgOk a b = true) : RgOk a b := by
  unfold rgOk at h
  rw [Bool.and_eq_true, Bool.and_eq_true] at h
  obtain ⟨h1, h2⟩ := smallI_ok h.1.1
  obtain ⟨h3, h4⟩ := smallI_ok h.1.2
  have h5 := of_decide_eq_true h.2
  exact ⟨h1, h2, h3, h4, by omega⟩
theorem rg_dens {K : PySem.W.Frag} {m : Md} : ∀ (n : Nat) (a : Int), Dens K m (rangeD a n) ((List.range n).map fun i => V.int (a + (i : Nat)))
  | 0, _ => .nil
  | n + 1, a => by
    rw [List.range_succ_eq_map, List.map_cons, List.map_map]
    refine .cons (by rw [Int.natCast_zero, Int.add_zero]; exact .int) ?_
    have h := rg_dens (K := K) (m := m) n (a + 1)
    have e : ((fun i => V.int (a + (i : Nat))) ∘ Nat.succ) = (fun i : Nat => V.int (a + 1 + (i : Nat))) := by
      funext i
      show V.int (a + ((i + 1 : Nat) : Int)) = _
      congr 1
      omega
    rw [e]
    exact h
def rgBody (k : List D → G → Res D) (a b : Int) (g : G) : Res D := match rgOk a b with
  | true => k (rangeD a (b - a).toNat) g
  | false => .no
def rg1 (k : List D → G → Res D) (a : Ev) : Ev := fun σ g => (a σ g).bind fun x g1 => match x with
  | .int n => rgBody k 0 n g1
  | _ => .no
def rg2 (k : List D → G → Res D) (a b : Ev) : Ev := fun σ g => (a σ g).bind fun x g1 => (b σ g1).bind fun y g2 => match x, y with
  | .int i, .int j => rgBody k i j g2
  | _, _ => .no
def kL : List D → G → Res D := fun xs g => .ok (.lst xs) g
def kM : List D → G → Res D := fun xs g => .ok (.ref g.length) (g ++ [.lst xs])
def kT : List D → G → Res D := fun xs g => .ok (.tup xs) g
abbrev eListRg1 := rg1 kL
abbrev eListRg2 := rg2 kL
abbrev eListRg1M := rg1 kM
abbrev eListRg2M := rg2 kM
abbrev eTupleRg1 := rg1 kT
abbrev eTupleRg2 := rg2 kT
section
variable {X : Cx} {W : WX} {a b : Expr} {ea eb : Ev} {k : List D → G → Res D} {p p2 pos pos2 : Pos} {te : (St → Hp → (Int → Int → Hp → Prop) → Prop) → TE}
theorem rg1_of {K : PySem.W.Frag} {fin : Int → Int → Hp → VK → Prop} (hk : ∀ σv m g H i j Q, Rel K m g H → Post K W σv (Den K) (rgBody k i j g) m Q → fin i j H Q) {σ : L2.St} {H : Hp} {Q : VK} (h : tE K W (rg1 k ea) σ H Q) : tRg1 (tE K W ea) σ H (fun i j H1 => fin i j H1 Q) := by
  obtain ⟨m, σ', g, rl, sl, hl, p⟩ := h
  refine ⟨m, σ', g, rl, sl, hl, Post.bind p fun x g1 m1 H1 xv l1 r1 d1 p1 => ?_⟩
  split at p1
  · cases d1
    exact ⟨_, rfl, hk σ m1 g1 H1 _ _ Q r1 p1⟩
  · exact p1.elim
theorem rg2_of {K : PySem.W.Frag} {fin : Int → Int → Hp → VK → Prop} (hk : ∀ σv m g H i j Q, Rel K m g H → Post K W σv (Den K) (rgBody k i j g) m Q → fin i j H Q) {σ : L2.St} {H : Hp} {Q : VK} (h : tE K W (rg2 k ea eb) σ H Q) : tRg2 (tE K W ea) (tE K W eb) σ H (fun i j H1 => fin i j H1 Q) := by
  obtain ⟨m, σ', g, rl, sl, hl, p⟩ := h
  refine ⟨m, σ', g, rl, sl, hl, Post.bind p fun x g1 m1 H1 xv l1 r1 d1 p1 => ?_⟩
  refine ⟨m1, σ', g1, r1, sl.mono l1, hl, Post.bind p1 fun y g2 m2 H2 yv l2 r2 d2 p2 => ?_⟩
  split at p2
  · have d1' := d1.mono l2
    cases d1'
    cases d2
    exact ⟨_, _, rfl, rfl, hk σ m2 g2 H2 _ _ Q r2 p2⟩
  · exact p2.elim
theorem kL_fin {K : PySem.W.Frag} (σv : L2.St) (m : Md) (g : G) (H : Hp) (i j : Int) (Q : VK) (rl : Rel K m g H) (p : Post K W σv (Den K) (rgBody kL i j g) m Q) : RgOk i j ∧ ∀ q, H q = none → Q (.ref q) (upd H q (.lst (rgV i j))) := by
  unfold rgBody at p
  split at p
  · rename_i h
    exact ⟨rgOk_s h, fin_lst rl (rg_dens _ i) p⟩
  · exact p.elim
theorem kT_fin {K : PySem.W.Frag} (σv : L2.St) (m : Md) (g : G) (H : Hp) (i j : Int) (Q : VK) (rl : Rel K m g H) (p : Post K W σv (Den K) (rgBody kT i j g) m Q) : RgOk i j ∧ ∀ q, H q = none → Q (.ref q) (upd H q (.tup (rgV i j))) := by
  unfold rgBody at p
  split at p
  · rename_i h
    exact ⟨rgOk_s h, fin_tup rl (rg_dens _ i) p⟩
  · exact p.elim
theorem kM_fin {K : PySem.W.Frag} (σv : L2.St) (m : Md) (g : G) (H : Hp) (i j : Int) (Q : VK) (rl : Rel K m g H) (p : Post K W σv (Den K) (rgBody kM i j g) m Q) : RgOk i j ∧ ∀ q, H q = none → Q (.ref q) (upd H q (.lst (rgV i j))) := by
  unfold rgBody at p
  split at p
  · rename_i h
    exact ⟨rgOk_s h, fun l hl => p _ _ _ (le_cell rl.fresh) (rl.cellAdd hl ⟨_, rfl, rg_dens _ i⟩) den_cell⟩
  · exact p.elim
theorem PRg.imp {e : Expr} {t : St → Hp → (Int → Int → Hp → Prop) → Prop} (h : PRg X e t) : PRg X e t := h
theorem x_listRg1 (hc : X.calm = true) (hg : Gl X "list") (hm : X.mg "list" = none) (hg2 : Gl X "range") (hm2 : X.mg "range" = none) (ha : PE X a (tE X.K W ea)) (na : starEach [a] X.env = (false, eval a X.env) :: starEach [] X.env := by rfl) (na2 : starEach [.Call (.Name "range" p2) [a] [] pos2] X.env = (false, eval (.Call (.Name "range" p2) [a] [] pos2) X.env) :: starEach [] X.env := by rfl) :
    PE X (.Call (.Name "list" p) [.Call (.Name "range" p2) [a] [] pos2] [] pos) (tE X.K W (eListRg1 ea)) := PE.imp (pe_listRg hc hg hm (prg_1 hg2 hm2 ha na) na2) fun _ _ _ h => rg1_of (fin := fun i j H Q => RgOk i j ∧ ∀ q, H q = none → Q (.ref q) (upd H q (.lst (rgV i j)))) kL_fin h
theorem x_listRg1M (hc : X.calm = true) (hg : Gl X "list") (hm : X.mg "list" = none) (hg2 : Gl X "range") (hm2 : X.mg "range" = none) (ha : PE X a (tE X.K W ea)) (na : starEach [a] X.env = (false, eval a X.env) :: starEach [] X.env := by rfl) (na2 : starEach [.Call (.Name "range" p2) [a] [] pos2] X.env = (false, eval (.Call (.Name "range" p2) [a] [] pos2) X.env) :: starEach [] X.env := by rfl) :
    PE X (.Call (.Name "list" p) [.Call (.Name "range" p2) [a] [] pos2] [] pos) (tE X.K W (eListRg1M ea)) := PE.imp (pe_listRg hc hg hm (prg_1 hg2 hm2 ha na) na2) fun _ _ _ h => rg1_of (fin := fun i j H Q => RgOk i j ∧ ∀ q, H q = none → Q (.ref q) (upd H q (.lst (rgV i j)))) kM_fin h
theorem x_tupleRg1 (hc : X.calm = true) (hg : Gl X "tuple") (hm : X.mg "tuple" = none) (hg2 : Gl X "range") (hm2 : X.mg "range" = none) (ha : PE X a (tE X.K W ea)) (na : starEach [a] X.env = (false, eval a X.env) :: starEach [] X.env := by rfl) (na2 : starEach [.Call (.Name "range" p2) [a] [] pos2] X.env = (false, eval (.Call (.Name "range" p2) [a] [] pos2) X.env) :: starEach [] X.env := by rfl) :
    PE X (.Call (.Name "tuple" p) [.Call (.Name "range" p2) [a] [] pos2] [] pos) (tE X.K W (eTupleRg1 ea)) := PE.imp (pe_tupRg hc hg hm (prg_1 hg2 hm2 ha na) na2) fun _ _ _ h => rg1_of (fin := fun i j H Q => RgOk i j ∧ ∀ q, H q = none → Q (.ref q) (upd H q (.tup (rgV i j)))) kT_fin h
theorem x_listRg2 (hc : X.calm = true) (hg : Gl X "list") (hm : X.mg "list" = none) (hg2 : Gl X "range") (hm2 : X.mg "range" = none) (ha : PE X a (tE X.K W ea)) (hb : PE X b (tE X.K W eb)) (na : starEach [a, b] X.env = (false, eval a X.env) :: starEach [b] X.env := by rfl) (nb : starEach [b] X.env = (false, eval b X.env) :: starEach [] X.env := by rfl) (hp : (backTo pos2 (starEach [b] X.env)).any (·.1) = false := by rfl)
    (na2 : starEach [.Call (.Name "range" p2) [a, b] [] pos2] X.env = (false, eval (.Call (.Name "range" p2) [a, b] [] pos2) X.env) :: starEach [] X.env := by rfl) :
    PE X (.Call (.Name "list" p) [.Call (.Name "range" p2) [a, b] [] pos2] [] pos) (tE X.K W (eListRg2 ea eb)) := PE.imp (pe_listRg hc hg hm (prg_2 hg2 hm2 ha hb na nb hp) na2) fun _ _ _ h => rg2_of (fin := fun i j H Q => RgOk i j ∧ ∀ q, H q = none → Q (.ref q) (upd H q (.lst (rgV i j)))) kL_fin h
theorem x_tupleRg2 (hc : X.calm = true) (hg : Gl X "tuple") (hm : X.mg "tuple" = none) (hg2 : Gl X "range") (hm2 : X.mg "range" = none) (ha : PE X a (tE X.K W ea)) (hb : PE X b (tE X.K W eb)) (na : starEach [a, b] X.env = (false, eval a X.env) :: starEach [b] X.env := by rfl) (nb : starEach [b] X.env = (false, eval b X.env) :: starEach [] X.env := by rfl) (hp : (backTo pos2 (starEach [b] X.env)).any (·.1) = false := by rfl)
    (na2 : starEach [.Call (.Name "range" p2) [a, b] [] pos2] X.env = (false, eval (.Call (.Name "range" p2) [a, b] [] pos2) X.env) :: starEach [] X.env := by rfl) :
    PE X (.Call (.Name "tuple" p) [.Call (.Name "range" p2) [a, b] [] pos2] [] pos) (tE X.K W (eTupleRg2 ea eb)) := PE.imp (pe_tupRg hc hg hm (prg_2 hg2 hm2 ha hb na nb hp) na2) fun _ _ _ h => rg2_of (fin := fun i j H Q => RgOk i j ∧ ∀ q, H q = none → Q (.ref q) (upd H q (.tup (rgV i j)))) kT_fin h
end
/-! ### the text's facts, by names -/
theorem units64 {k : Nat} {A : Around} (hr : Room k A) : A.units + 64 < cLine := hr.units
theorem units65 {k : Nat} {A : Around} (hr : Room k A) : A.units + 65 < cLine := by have := hr.un; omega
theorem bt_abs : bootBuiltins "abs" = some (.builtin "abs") := by decide +kernel
theorem bt_any : bootBuiltins "any" = some (.builtin "any") := by decide +kernel
theorem bt_all : bootBuiltins "all" = some (.builtin "all") := by decide +kernel
theorem bt_len : bootBuiltins "len" = some (.builtin "len") := by decide +kernel
theorem bt_max : bootBuiltins "max" = some (.builtin "max") := by decide +kernel
theorem bt_min : bootBuiltins "min" = some (.builtin "min") := by decide +kernel
theorem bt_sum : bootBuiltins "sum" = some (.builtin "sum") := by decide +kernel
theorem bt_int : bootBuiltins "int" = some (.type "int") := by decide +kernel
theorem bt_bool : bootBuiltins "bool" = some (.type "bool") := by decide +kernel
theorem bt_str : bootBuiltins "str" = some (.type "str") := by decide +kernel
theorem bt_list : bootBuiltins "list" = some (.type "list") := by decide +kernel
theorem bt_tuple : bootBuiltins "tuple" = some (.type "tuple") := by decide +kernel
theorem bt_dict : bootBuiltins "dict" = some (.type "dict") := by decide +kernel
/-! ### comparisons as tests -/
def eTst (a : Ev) : Tv := fun σ g => (a σ g).bind fun d g1 => match d with
  | .bl c => .ok c g1
  | _ => .no
section
variable {X : Cx} {W : WX} {a b c e : Expr} {ea eb ec ev : Ev} {pos : Pos}
theorem t_test {t : TE} (h : PT X e (tTest t)) (hs : ∀ σ H Q, tE X.K W ev σ H Q → t σ H Q) : PT X e (tT X.K W (eTst ev)) :=
  PT.imp h fun σ H Q h => by
    refine hs _ _ _ ?_
    obtain ⟨m, σ', g, rl, sl, hl, p⟩ := h
    refine ⟨m, σ', g, rl, sl, hl, Post.bind p fun d g1 m1 H1 x l1 r1 d1 p1 => ?_⟩
    split at p1
    · cases d1
      exact ⟨_, rfl, fin_ok r1 rfl p1⟩
    · exact p1.elim
theorem t_cmp {op : CmpOp} {r : R2} {f : Op2} (ho : OpR X (compareOp op) r) (hs : OpS X.K W r f) (ha : PE X a (tE X.K W ea)) (hb : PE X b (tE X.K W eb))
    (hm : behindInMarks op b = false) : PT X (.Compare a [op] [b] pos) (tT X.K W (eTst (eOp f ea eb))) :=
  t_test (pt_cmpR ho ha hb hm) fun _ _ _ h => tOp_of hs h
theorem t_chain {op op' : CmpOp} {r r' : R2} {f f' : Op2} (ho : OpR X (compareOp op) r) (ho' : OpR X (compareOp op') r')
    (hs : ∀ σv m g H d e x y Q, Rel X.K m g H → Den X.K m d x → Den X.K m e y → Post X.K W σv (Den X.K) (f d e g) m Q → r x y H Q) (hs' : OpS X.K W r' f')
    (ha : PE X a (tE X.K W ea)) (hb : PE X b (tE X.K W eb)) (hc : PE X c (tE X.K W ec))
    (hm : lastMarks [op, op'] [b, c] = false := by with_unfolding_all rfl) :
    PT X (.Compare a [op, op'] [b, c] pos) (tT X.K W (eTst (eChain f f' ea eb ec))) :=
  t_test (L2.pt_chain ho ho' ha hb hc hm) fun σ H Q h => by
    obtain ⟨m, σ', g, rl, sl, hl, p⟩ := h
    refine ⟨m, σ', g, rl, sl, hl, Post.bind p fun d g1 m1 H1 x l1 r1 d1 p1 => ?_⟩
    refine ⟨m1, σ', g1, r1, sl.mono l1, hl, Post.bind p1 fun e g2 m2 H2 y l2 r2 d2 p2 => ?_⟩
    refine hs σ m2 g2 H2 d e x y _ r2 (d1.mono l2) d2 (Post.bind p2 fun z g3 m3 H3 zv l3 r3 d3 p3 => ?_)
    split at p3
    · cases d3
      refine ⟨true, rfl, ?_⟩
      rw [if_pos rfl]
      refine ⟨m3, σ', g3, r3, ((sl.mono l1).mono l2).mono l3, hl, Post.bind p3 fun w' g4 m4 H4 wv l4 r4 d4 p4 => ?_⟩
      exact hs' σ m4 g4 H4 e w' y wv Q r4 ((d2.mono l3).mono l4) d4 p4
    · cases d3
      refine ⟨false, rfl, ?_⟩
      rw [if_neg Bool.false_ne_true]
      exact fin_ok r3 .bl p3
    · exact p3.elim
end
end AW
/-! Ax: constants and tables that stand in the text's top. -/
namespace AW
open PySem PySem.Spec L2
abbrev _root_.He.Fa.okB (f : He.Fa) (K : PySem.W.Frag) : Bool := f.ok K
/-! ### a value of the top that is told by data -/
mutual
def litB (K : PySem.W.Frag) : D → Value → Bool
  | .non, u => (match u with | .none => true | _ => false)
  | .bl b, u => (match u with | .bool c => decide (b = c) | _ => false)
  | .int i, u => (match u with | .int j _ => decide (i = j) | _ => false)
  | .str x, u => (match u with | .str y _ => decide (x = y) | _ => false)
  | .tup ds, u => (match u with
    | .ref a => (match K.lookup a with
      | some ⟨.type c, _, .seq its _, _⟩ => decide (c = "tuple") && (decide (its.size ≤ 100000) && litsB K ds its.toList)
      | _ => false)
    | _ => false)
  | .lst _, _ => false
  | .seq _, _ => false
  | .dct _ _, _ => false
  | .dtt _ _, _ => false
  | .ins _ _, _ => false
  | .glo _, _ => false
  | .ref _, _ => false
  | .val _, _ => false
def litsB (K : PySem.W.Frag) : List D → List Value → Bool
  | [], us => (match us with
    | [] => true
    | _ :: _ => false)
  | d :: ds, us => (match us with
    | u :: us => litB K d u && litsB K ds us
    | [] => false)
end
mutual
theorem litB_s {K : PySem.W.Frag} : ∀ {d : D} {u : Value}, litB K d u = true → ∃ v, RelV v u ∧ ∀ m, Den K m d v
  | .non, u, h => by
    rw [litB.eq_def] at h
    dsimp only at h
    split at h
    · exact ⟨.non, rfl, fun _ => .non⟩
    · cases h
  | .bl b, u, h => by
    rw [litB.eq_def] at h
    dsimp only at h
    split at h
    · cases of_decide_eq_true h
      exact ⟨.bl b, rfl, fun _ => .bl⟩
    · cases h
  | .int i, u, h => by
    rw [litB.eq_def] at h
    dsimp only at h
    split at h
    · cases of_decide_eq_true h
      exact ⟨.int i, ⟨_, rfl⟩, fun _ => .int⟩
    · cases h
  | .str x, u, h => by
    rw [litB.eq_def] at h
    dsimp only at h
    split at h
    · cases of_decide_eq_true h
      exact ⟨.str x, ⟨_, rfl⟩, fun _ => .str⟩
    · cases h
  | .tup ds, u, h => by
    rw [litB.eq_def] at h
    dsimp only at h
    split at h
    · rename_i a
      split at h
      · rename_i c od its n sl hk
        rw [Bool.and_eq_true, Bool.and_eq_true] at h
        obtain ⟨h1, h2, h3⟩ := h
        obtain ⟨vs, h4, h5⟩ := litsB_s h3
        refine ⟨.ref a, rfl, fun m => .tup (.inr ⟨_, its, n, hk, ?_, rfl, ?_, h4⟩) (h5 m)⟩
        · rw [of_decide_eq_true h1]
        · rw [sizeLine_eq]
          have := of_decide_eq_true h2
          omega
      · cases h
    · cases h
  | .lst _, _, h => by rw [litB.eq_def] at h; cases h
  | .seq _, _, h => by rw [litB.eq_def] at h; cases h
  | .dct _ _, _, h => by rw [litB.eq_def] at h; cases h
  | .dtt _ _, _, h => by rw [litB.eq_def] at h; cases h
  | .ins _ _, _, h => by rw [litB.eq_def] at h; cases h
  | .glo _, _, h => by rw [litB.eq_def] at h; cases h
  | .ref _, _, h => by rw [litB.eq_def] at h; cases h
  | .val _, _, h => by rw [litB.eq_def] at h; cases h
theorem litsB_s {K : PySem.W.Frag} : ∀ {ds : List D} {us : List Value}, litsB K ds us = true → ∃ vs, Vals vs us ∧ ∀ m, Dens K m ds vs
  | [], us, h => by
    rw [litsB.eq_def] at h
    dsimp only at h
    cases us with
    | nil => exact ⟨[], .nil, fun _ => .nil⟩
    | cons u us => cases h
  | d :: ds, us, h => by
    rw [litsB.eq_def] at h
    dsimp only at h
    split at h
    · rw [Bool.and_eq_true] at h
      obtain ⟨v, h1, h2⟩ := litB_s h.1
      obtain ⟨vs, h3, h4⟩ := litsB_s h.2
      exact ⟨v :: vs, .cons h1 h3, fun m => .cons (h2 m) (h4 m)⟩
    · cases h
end
def glD (x : Str) (d : D) (K : PySem.W.Frag) : Bool := match PySem.W.nsIn K mainGlobals x with
  | some (some u) => litB K d u
  | _ => false
/-- a dict of the top: text keys, whole numbers -/
def kdI (x : Str) (tb : List (Str × Int)) (K : PySem.W.Frag) : Bool := tb.all fun q => match PySem.W.nsIn K (He.ga K x) q.1 with
  | some (some (.int j _)) => decide (j = q.2)
  | _ => false
/-! ### what the head tells -/
abbrev AlB : Type := Bool × (List He5.FnW × List (Option (List (Option (Str × Int)))))
/-- which addresses the head looks at -/
abbrev Reach : Type := (Addr → Option Obj) → List Addr
def rootsN (g : Addr → Option Obj) (xs : List Str) : List Addr := xs.filterMap fun x => match PySem.W.nsIn (He.frG g [mainGlobals]) mainGlobals x with
  | some (some (.ref a)) => some a
  | _ => none
def growN (g : Addr → Option Obj) : Nat → List Addr → List Addr
  | 0, as => as
  | n + 1, as => growN g n (He.growD g as)
/-- what the names xs reach in three steps, the names ys in one, and the top itself -/
def asN (xs ys : List Str) : Reach := fun g => mainGlobals :: cStatics :: (growN g 3 (rootsN g xs) ++ growN g 1 (rootsN g ys))
abbrev kB (n : Reach) (gt : Addr → Option Obj) : PySem.W.Frag := He.frT gt (n gt)
def obsB (n : Reach) (ex : List (PySem.W.Frag → Bool)) (fn : List He5.DefA) (ts : List He.Tab) (tf : List He.Defn) (gt : Addr → Option Obj) : AlB :=
  ((ex.all fun b => b (kB n gt)) && ((fn.all fun d => d.ok (kB n gt)) && He.tabsB gt tf (kB n gt)), fn.map (fun d => He5.fnA (kB n gt) (d.at_ (kB n gt))), ts.map fun t => He.dicW (kB n gt) (t.1 (kB n gt)))
def valB (fn : List He5.DefA) (ts : List He.Tab) (w : World) : AlB := (true, fn.map He5.DefA.val, ts.map fun t => some (He.keysIn w.params t.2))
structure SaysB (ex : List (PySem.W.Frag → Bool)) (fn : List He5.DefA) (ts : List He.Tab) (tf : List He.Defn) (w : World) (h : Heap) (K : PySem.W.Frag) : Prop where
  ex : ∀ b ∈ ex, b K = true
  df : ∀ d ∈ fn, d.ok K = true
  dv : fn.map (fun d => He5.fnA K (d.at_ K)) = fn.map He5.DefA.val
  tv : ts.map (fun t => He.dicW K (t.1 K)) = ts.map fun t => some (He.keysIn w.params t.2)
  hd : ∀ p ∈ tf, PySem.W.codeHdIn K (He.cT K p).1 (He.cT K p).2 = true
  out : ∀ p ∈ tf, K.lookup (He.cT K p).2 = none
  emp : ∀ p ∈ tf, h.get? (He.cT K p).2 = some { cls := .none, data := .fields #[] }
theorem saysB_of {n : Reach} {ex : List (PySem.W.Frag → Bool)} {fn : List He5.DefA} {ts : List He.Tab} {tf : List He.Defn} {w : World} {h : Heap} (e : obsB n ex fn ts tf h.get? = valB fn ts w) : SaysB ex fn ts tf w h (kB n h.get?) := by
  have e1 := congrArg Prod.fst e
  have e2 := congrArg Prod.snd e
  have b1 : ((ex.all fun b => b (kB n h.get?)) && ((fn.all fun d => d.ok (kB n h.get?)) && He.tabsB h.get? tf (kB n h.get?))) = true := e1
  rw [Bool.and_eq_true, Bool.and_eq_true] at b1
  obtain ⟨b1, b2, b3⟩ := b1
  have tb : ∀ p ∈ tf, PySem.W.codeHdIn (kB n h.get?) (He.cT (kB n h.get?) p).1 (He.cT (kB n h.get?) p).2 = true ∧ ∃ o, h.get? (He.cT (kB n h.get?) p).2 = some o ∧ He.emptyTab o = true := fun p hp => by
    have q := List.all_eq_true.mp b3 p hp
    rw [Bool.and_eq_true] at q
    refine ⟨q.1, ?_⟩
    cases z : h.get? (He.cT (kB n h.get?) p).2 with
    | none => have q2 := q.2; rw [z] at q2; cases q2
    | some o => have q2 := q.2; rw [z] at q2; exact ⟨o, rfl, q2⟩
  exact ⟨fun b hb => List.all_eq_true.mp b1 b hb, fun d hd => List.all_eq_true.mp b2 d hd, congrArg Prod.fst e2, congrArg Prod.snd e2, fun p hp => (tb p hp).1,
    fun p hp => by obtain ⟨_, o, z, q⟩ := tb p hp; exact He.frT_none z q, fun p hp => by obtain ⟨_, o, z, q⟩ := tb p hp; rw [z, He.emptyTab_eq q]⟩
def hookB (n : Reach) (ex : List (PySem.W.Frag → Bool)) (fn : List He5.DefA) (ts : List He.Tab) (tf : List He.Defn) : PySem.W.Hook where
  α := AlB
  obs := fun s => obsB n ex fn ts tf s.heap.get?
  val := fun w => valB fn ts w
  says := fun w h => ∃ K : PySem.W.Frag, K.In h ∧ SaysB ex fn ts tf w h K
  of := fun _ h e => ⟨kB n h.heap.get?, He.frT_in, saysB_of e⟩
  keeps := fun _ _ _ ⟨K, hK, c⟩ k => ⟨K, PySem.W.Frag.In.keeps hK k, ⟨c.ex, c.df, c.dv, c.tv, c.hd, c.out, fun p hp => k _ _ (c.emp p hp)⟩⟩
theorem obsB_eq {n : Reach} {ex : List (PySem.W.Frag → Bool)} {fn : List He5.DefA} {ts : List He.Tab} {tf : List He.Defn} {gt : Addr → Option Obj} {s : Shared} (h : ∀ a, gt a = s.heap.get? a) : obsB n ex fn ts tf gt = (hookB n ex fn ts tf).obs s := by
  rw [show gt = s.heap.get? from funext h]
  rfl
/-- a module's name that is a built-in function -/
def bfB (x : Str) (id : String) (K : PySem.W.Frag) : Bool := He.eqO (PySem.W.nsIn K mainGlobals x) (some (some (.builtin id)))
/-- the text's facts: by their places -/
structure Tx (ex : List (PySem.W.Frag → Bool)) (fn : List He5.DefA) (ts : List He.Tab) (w : World) (K : PySem.W.Frag) (mg : Str → Option Value) : Prop where
  ex : ∀ b ∈ ex, b K = true
  fd : ∀ (i : Nat) (d : He5.DefA), fn[i]? = some d → ∃ fd, FunD K d.name d.qual d.params d.body d.scope (d.dvs K) (d.kws K) (d.at_ K) fd
  gl : ∀ x, (He.Fa.glo x).ok K = true → mg x = some (.ref (ga K x))
  fr : ∀ x, (He.Fa.free x).ok K = true → mg x = none
  it : ∀ x i, (He.Fa.int x i).ok K = true → ∃ t, mg x = some (.int i t)
  li : ∀ x d, glD x d K = true → ∃ u v, mg x = some u ∧ RelV v u ∧ ∀ m, Den K m d v
  kd : ∀ (i : Nat) (t : He.Tab), ts[i]? = some t → ∃ es n, KDict K w (t.1 K) es n
  bf : ∀ x id, bfB x id K = true → mg x = some (.builtin id)
section
variable {ex : List (PySem.W.Frag → Bool)} {fn : List He5.DefA} {ts : List He.Tab} {tf : List He.Defn} {w : World} {K : PySem.W.Frag} {mg : Str → Option Value}
theorem Tx.at_ (T : Tx ex fn ts w K mg) (i : Nat) {b : PySem.W.Frag → Bool} (h : ex[i]? = some b) : b K = true := T.ex b (List.mem_of_getElem? h)
theorem tx_of {h : Heap} (inK : K.In h) (N : h.Ns mainGlobals mg) (c : SaysB ex fn ts tf w h K) : Tx ex fn ts w K mg where
  ex := c.ex
  fd := fun i d hd => by
    have e : (fn.map fun d => He5.fnA K (d.at_ K))[i]? = (fn.map He5.DefA.val)[i]? := by rw [c.dv]
    rw [List.getElem?_map, List.getElem?_map, hd] at e
    exact He5.DefA.funD (Option.some.inj e) (c.df d (List.mem_of_getElem? hd))
  gl := fun x q => He.glo_ok inK N q
  fr := fun x q => He.free_ok inK N q
  it := fun x i q => He.int_ok inK N q
  li := fun x d q => by
    unfold glD at q
    split at q
    · rename_i u hu
      obtain ⟨v, h1, h2⟩ := litB_s q
      exact ⟨u, v, PySem.W.mg_of inK N hu, h1, h2⟩
    · cases q
  kd := fun i t ht => by
    have e : (ts.map fun t => He.dicW K (t.1 K))[i]? = (ts.map fun t => some (He.keysIn w.params t.2))[i]? := by rw [c.tv]
    rw [List.getElem?_map, List.getElem?_map, ht] at e
    exact He.dicW_ok (Option.some.inj e)
  bf := fun x id q => PySem.W.mg_of inK N (He.eqO_ok q)
end
def kdGet (tb : List (Str × Int)) (z : Str) : Option Int := match tb with
  | [] => none
  | q :: r => if q.1 = z then some q.2 else kdGet r z
theorem kdGet_mem : ∀ {tb : List (Str × Int)} {z : Str} {i : Int}, kdGet tb z = some i → (z, i) ∈ tb
  | [], _, _, h => by cases h
  | q :: r, z, i, h => by
    unfold kdGet at h
    split at h
    · rename_i e
      cases h
      rw [← e]
      exact List.mem_cons_self ..
    · exact List.mem_cons_of_mem _ (kdGet_mem h)
def eKd (tb : List (Str × Int)) (e : Ev) : Ev := fun σ g => (e σ g).bind fun d g1 => match d with
  | .str z => match kdGet tb z with
    | some i => .ok (.int i) g1
    | none => .no
  | _ => .no
theorem x_kd {X : Cx} {W : WX} {x : Str} {tb : List (Str × Int)} {b : Expr} {eb : Ev} {p pos : Pos} {es : Array DictEntry} {n : Nat} (D : KDict X.K X.w (He.ga X.K x) es n) (hv : kdI x tb X.K = true) (hg : Gl X x) (hm : X.mg x = some (.ref (He.ga X.K x))) (hb : PE X b (tE X.K W eb))
    (hd : (x == ("__debug__" : Str)) = false := by decide) (hs : PlainIx b := by exact fun _ _ => rfl) : PE X (.Subscript (.Name x p) b pos) (tE X.K W (eKd tb eb)) :=
  PE.imp (pe_ix ix_kdict (pe_glob (v := .ref (He.ga X.K x)) hg hm rfl hd) hb hs) fun σ H Q h => by
    obtain ⟨m, σ', g, rl, sl, hl, q⟩ := h
    refine ⟨m, σ', g, rl, sl, hl, Post.bind q fun d g1 m1 H1 v l1 r1 d1 p1 => ?_⟩
    split at p1
    · rename_i z
      split at p1
      · rename_i i hi
        cases d1
        have h1 := List.all_eq_true.mp hv _ (kdGet_mem hi)
        dsimp only at h1
        split at h1
        · rename_i j t hj
          cases of_decide_eq_true h1
          exact ⟨_, z, .int i, rfl, rfl, ⟨es, n, _, D.at_, D.lit, hj, ⟨t, rfl⟩⟩, fin_ok r1 .int p1⟩
        · cases h1
      · exact p1.elim
    · exact p1.elim
end AW
/-! Bw12: own classes with slots: isinstance. -/
namespace AW
open PySem PySem.Spec L2
/-! ### instances as they stand in the heap -/
theorem ins_slt {K : PySem.W.Frag} {m : Md} {g : G} {H : Hp} (r : Rel K m g H) {c : Str} {xs : List D} {v : V} (h : Den K m (.ins c xs) v) : ∃ a dx vs, v = .ref a ∧ SlX.Slt H a (ga K c) dx (vs.map some) ∧ Dens K m xs vs := by
  cases h with
  | ins h1 h2 h3 => exact ⟨_, _, _, rfl, .inr ⟨r.ex _ _ h1, r.ex _ _ h2⟩, h3⟩
theorem cell_slt {K : PySem.W.Frag} {m : Md} {g : G} {H : Hp} (r : Rel K m g H) {i : Nat} {c : Str} {fs : List (Option D)} {v : V} (h : Den K m (.ref i) v) {j : Nat} (e : g[i]? = some (.ins c j fs)) (ex : g[j]? = some .xd) :
    ∃ a dx ws, v = .ref a ∧ m.r i = some a ∧ m.r j = some dx ∧ H a = some (SlX.SlO a (ga K c) dx ws) ∧ SlX.Slt H a (ga K c) dx ws ∧ ws.length ≤ fs.length ∧ FldOk K m fs ws := by
  cases h with
  | ref h1 =>
    obtain ⟨a, e1, _, o, e2, dx, ws, e3, ed, el, e4⟩ := r.cell _ _ e
    rw [h1] at e1
    cases e1
    subst e3
    obtain ⟨b2, f1, _, o2, f2, f3⟩ := r.cell _ _ ex
    rw [ed] at f1
    cases f1
    have f3' : o2 = .xd [] := f3
    subst f3'
    exact ⟨_, dx, ws, rfl, h1, ed, e2, .inr ⟨e2, f2⟩, el, e4⟩
/-! ### isinstance -/
inductive CK where
  | bt (k : TK)
  | own (c : Str)
def TK.all : List TK := [.non, .bl, .int, .str, .tup, .lst, .dct]
theorem TK.mem (k : TK) : k ∈ TK.all := by cases k <;> simp [TK.all]
structure IsF (own : List Str) (K : PySem.W.Frag) : Prop where
  sc : ∀ c ∈ own, SlX.SCls K (ga K c)
  si : ∀ c ∈ own, SlX.SIsi K (ga K c)
  oo : ∀ c ∈ own, ∀ c' ∈ own, PySem.W.kitOne K (.ref (ga K c)) (.ref (ga K c')) = some (decide (c = c'))
  ob : ∀ c ∈ own, ∀ k : TK, PySem.W.kitOne K (.ref (ga K c)) (.type k.name) = some false
  bo : ∀ c ∈ own, ∀ k : TK, PySem.W.kitOne K (.type k.name) (.ref (ga K c)) = some false
def clsB (c : Str) (K : PySem.W.Frag) : Bool :=
  (PySem.W.plainGet K (ga K c) Str.empty && (PySem.W.isClsIn K (ga K c) && (PySem.W.plainOver K (ga K c) && decide (PySem.W.findIn K (.ref (ga K c)) "__setattr__" = some (some (.builtin "object.__setattr__")))))) &&
  (decide (PySem.W.findIn K (.ref (ga K c)) "__class__" = some (some (.builtin "object.__class__"))) && (decide (PySem.W.specialIn K (.builtin "object.__class__") "__get__" = some (some (.builtin "getset_descriptor.__get__"))) &&
    (decide (PySem.W.takesIn K (.builtin "object.__class__") = some true) && decide (PySem.W.mroIn K (ga K c) (.type "object") = some true))))
theorem clsB_s {c : Str} {K : PySem.W.Frag} (h : clsB c K = true) : SlX.SCls K (ga K c) ∧ SlX.SIsi K (ga K c) := by
  unfold clsB at h
  simp only [Bool.and_eq_true, decide_eq_true_eq] at h
  obtain ⟨⟨h1, h2, h3, h4⟩, h5, h6, h7, h8⟩ := h
  exact ⟨⟨h1, h2, h3, h4⟩, ⟨h5, h6, h7, h8⟩⟩
def isFB (own : List Str) (K : PySem.W.Frag) : Bool := own.all fun c => clsB c K && ((own.all fun c' => decide (PySem.W.kitOne K (.ref (ga K c)) (.ref (ga K c')) = some (decide (c = c')))) &&
  TK.all.all fun k => decide (PySem.W.kitOne K (.ref (ga K c)) (.type k.name) = some false) && decide (PySem.W.kitOne K (.type k.name) (.ref (ga K c)) = some false))
theorem isF_of {own : List Str} {K : PySem.W.Frag} (h : isFB own K = true) : IsF own K := by
  have key : ∀ c ∈ own, clsB c K = true ∧ (∀ c' ∈ own, PySem.W.kitOne K (.ref (ga K c)) (.ref (ga K c')) = some (decide (c = c'))) ∧ ∀ k : TK, PySem.W.kitOne K (.ref (ga K c)) (.type k.name) = some false ∧ PySem.W.kitOne K (.type k.name) (.ref (ga K c)) = some false := fun c hc => by
    have q := List.all_eq_true.mp h c hc
    rw [Bool.and_eq_true, Bool.and_eq_true] at q
    refine ⟨q.1, fun c' hc' => of_decide_eq_true (List.all_eq_true.mp q.2.1 c' hc'), fun k => ?_⟩
    have z := List.all_eq_true.mp q.2.2 k k.mem
    rw [Bool.and_eq_true] at z
    exact ⟨of_decide_eq_true z.1, of_decide_eq_true z.2⟩
  exact ⟨fun c hc => (clsB_s (key c hc).1).1, fun c hc => (clsB_s (key c hc).1).2, fun c hc => (key c hc).2.1, fun c hc k => ((key c hc).2.2 k).1, fun c hc k => ((key c hc).2.2 k).2⟩
def insOf (g : G) : D → Option Str
  | .ins c _ => some c
  | .ref i => match g[i]? with
    | some (.ins c j _) => match g[j]? with
      | some .xd => some c
      | _ => none
    | _ => none
  | _ => none
theorem insOf_s {K : PySem.W.Frag} {m : Md} {g : G} {H : Hp} {d : D} {v : V} {c : Str} (r : Rel K m g H) (h : Den K m d v) (e : insOf g d = some c) : ∃ a dx ws, v = .ref a ∧ SlX.Slt H a (ga K c) dx ws := by
  cases d with
  | ins c' xs =>
    cases e
    obtain ⟨a, dx, vs, h1, h2, _⟩ := ins_slt r h
    exact ⟨a, dx, _, h1, h2⟩
  | ref i =>
    have e' : (match g[i]? with | some (.ins c j _) => (match g[j]? with | some .xd => some c | _ => none) | _ => none) = some c := e
    split at e'
    · rename_i c' j fs hc
      split at e'
      · rename_i hx
        cases e'
        obtain ⟨a, dx, ws, h1, _, _, _, h2, _⟩ := cell_slt r h hc hx
        exact ⟨a, dx, ws, h1, h2⟩
      · cases e'
    · cases e'
  | _ => cases e
def isiOf (own : List Str) (g : G) (ck : CK) (d : D) : Option Bool := match insOf g d with
  | some c => if c ∈ own then (match ck with
    | .own c' => if c' ∈ own then some (decide (c = c')) else none
    | .bt _ => some false) else none
  | none => match tkOf g d with
    | some k => (match ck with
      | .own c' => if c' ∈ own then some false else none
      | .bt j => some (k.sub j))
    | none => none
def fIsi (own : List Str) (ck : CK) : Op1 := fun d g => match isiOf own g ck d with
  | some b => .ok (.bl b) g
  | none => .no
def eIsi (own : List Str) (ck : CK) (a : Ev) : Ev := fun σ g => (a σ g).bind fun d g1 => fIsi own ck d g1
def CK.v (K : PySem.W.Frag) : CK → V
  | .bt k => .ty k.name
  | .own c => .ref (ga K c)
def CK.u (K : PySem.W.Frag) : CK → Value
  | .bt k => .type k.name
  | .own c => .ref (ga K c)
theorem CK.rel (K : PySem.W.Frag) (ck : CK) : RelV (ck.v K) (ck.u K) := by cases ck <;> rfl
theorem CK.one {K : PySem.W.Frag} {ck : CK} {u : Value} (h : RelV (ck.v K) u) : u = ck.u K := by
  cases ck with
  | bt k => exact (show u = Value.type k.name from h)
  | own c => exact (show u = Value.ref (ga K c) from h)
theorem CK.clsV (K : PySem.W.Frag) (ck : CK) : ClsV (ck.v K) (ck.u K) := by
  cases ck with
  | bt k => exact .ty k.name
  | own c => exact .own _
theorem callR_or {X : Cx} {f : Value} {r r' : List V → Hp → VK → Prop} (h : CallR X f r) (h' : CallR X f r') : CallR X f (fun xs H Q => r xs H Q ∨ r' xs H Q) := fun pins s σ H xs us Q J rx q =>
  q.elim (fun q => h pins s σ H xs us Q J rx q) fun q => h' pins s σ H xs us Q J rx q
section
variable {X : Cx} {W : WX} {own : List Str} {a e2 : Expr} {ea : Ev} {p pos : Pos}
theorem x_isiG (ck : CK) (I : IsF own X.K) (hg : Gl X "isinstance") (hm : X.mg "isinstance" = none) (h2 : PE X e2 (tC (ck.v X.K))) (ha : PE X a (tE X.K W ea))
    (he : starEach [a, e2] X.env = (false, eval a X.env) :: starEach [e2] X.env := by rfl) (he2 : starEach [e2] X.env = (false, eval e2 X.env) :: starEach [] X.env := by rfl) (hpl : (backTo pos (starEach [e2] X.env)).any (·.1) = false := by rfl) :
    PE X (.Call (.Name "isinstance" p) [a, e2] [] pos) (tE X.K W (eIsi own ck ea)) :=
  PE.imp (pe_callB (callR_or call_isi (SlX.call_isiSl (ck.u X.K))) hg hm PyProof.Rows.boot_isinstance (pa_cons ha (pa_cons h2 pa_nil he2) he) (by decide) (by decide) he hpl) fun σ H Q h => by
    obtain ⟨m, σ', g, rl, sl, hl, q⟩ := h
    refine ⟨m, σ', g, rl, sl, hl, Post.bind q fun d g1 m1 H1 v l1 r1 d1 p1 => ?_⟩
    unfold fIsi at p1
    split at p1
    · rename_i b hb
      unfold isiOf at hb
      split at hb
      · rename_i c hc
        split at hb
        · rename_i hin
          obtain ⟨x, dx, ws, rfl, hs⟩ := insOf_s r1 d1 hc
          have fin : PySem.W.kitOne X.K (.ref (ga X.K c)) (ck.u X.K) = some b := by
            cases ck with
            | bt k => cases hb; exact I.ob c hin k
            | own c' =>
              dsimp only at hb
              split at hb
              · rename_i hin'
                cases hb
                exact I.oo c hin c' hin'
              · cases hb
          exact .inr ⟨x, ga X.K c, dx, ws, ck.v X.K, b, rfl, CK.rel _ _, fun w hw => CK.one hw, hs, I.sc c hin, I.si c hin, fin, fin_ok r1 .bl p1⟩
        · cases hb
      · split at hb
        · rename_i k hk
          have fin : PySem.W.kitOne X.K (.type k.name) (ck.u X.K) = some b := by
            cases ck with
            | bt j => cases hb; exact TK.kit X.K k j
            | own c' =>
              dsimp only at hb
              split at hb
              · rename_i hin'
                cases hb
                exact I.bo c' hin' k
              · cases hb
          exact .inl ⟨v, ck.v X.K, _, _, b, rfl, CK.clsV _ _, tkOf_s r1 d1 hk, fin, fin_ok r1 .bl p1⟩
        · cases hb
    · exact p1.elim
theorem x_isi {x : Str} {p2 : Pos} (k : TK) (I : IsF own X.K) (hg : Gl X "isinstance") (hm : X.mg "isinstance" = none) (hg2 : Gl X x) (hm2 : X.mg x = none) (hv2 : bootBuiltins x = some (.type k.name)) (ha : PE X a (tE X.K W ea))
    (hn : x ≠ "__name__" := by decide) (hdb : (x == ("__debug__" : Str)) = false := by decide)
    (he : starEach [a, .Name x p2] X.env = (false, eval a X.env) :: starEach [.Name x p2] X.env := by rfl) (he2 : starEach [.Name x p2] X.env = (false, eval (.Name x p2) X.env) :: starEach [] X.env := by rfl) (hpl : (backTo pos (starEach [.Name x p2] X.env)).any (·.1) = false := by rfl) :
    PE X (.Call (.Name "isinstance" p) [a, .Name x p2] [] pos) (tE X.K W (eIsi own (.bt k) ea)) :=
  x_isiG (.bt k) I hg hm (pe_bltn (v := .ty k.name) hg2 hm2 hv2 rfl hn hdb) ha he he2 hpl
theorem x_isiC {c : Str} {p2 : Pos} (I : IsF own X.K) (hg : Gl X "isinstance") (hm : X.mg "isinstance" = none) (hg2 : Gl X c) (hm2 : X.mg c = some (.ref (ga X.K c))) (ha : PE X a (tE X.K W ea))
    (hdb : (c == ("__debug__" : Str)) = false := by decide)
    (he : starEach [a, .Name c p2] X.env = (false, eval a X.env) :: starEach [.Name c p2] X.env := by rfl) (he2 : starEach [.Name c p2] X.env = (false, eval (.Name c p2) X.env) :: starEach [] X.env := by rfl) (hpl : (backTo pos (starEach [.Name c p2] X.env)).any (·.1) = false := by rfl) :
    PE X (.Call (.Name "isinstance" p) [a, .Name c p2] [] pos) (tE X.K W (eIsi own (.own c) ea)) :=
  x_isiG (.own c) I hg hm (pe_glob (v := .ref (ga X.K c)) hg2 hm2 rfl hdb) ha he he2 hpl
end
end AW
/-! Bx1: an exception class of the text over a built-in one, whose __init__ says super().__init__(..) and keeps one field. -/
namespace AW
open PySem PySem.W PySem.Calls PyProof.Rows
/-- the built-in classes that it may stand over -/
inductive XB where
  | ve | ix | ov | ar | lk
def XB.B : XB → String
  | .ve => "ValueError" | .ix => "IndexError" | .ov => "OverflowError" | .ar => "ArithmeticError" | .lk => "LookupError"
def XB.nw : XB → String
  | .ve => "ValueError.__new__" | .ix => "IndexError.__new__" | .ov => "OverflowError.__new__" | .ar => "ArithmeticError.__new__" | .lk => "LookupError.__new__"
def XB.it : XB → String
  | .ve => "ValueError.__init__" | .ix => "IndexError.__init__" | .ov => "OverflowError.__init__" | .ar => "ArithmeticError.__init__" | .lk => "LookupError.__init__"
def XB.bm : XB → List Value
  | .ve => [.type "ValueError", .type "Exception", .type "BaseException", .type "object"]
  | .ix => [.type "IndexError", .type "LookupError", .type "Exception", .type "BaseException", .type "object"]
  | .ov => [.type "OverflowError", .type "ArithmeticError", .type "Exception", .type "BaseException", .type "object"]
  | .ar => [.type "ArithmeticError", .type "Exception", .type "BaseException", .type "object"]
  | .lk => [.type "LookupError", .type "Exception", .type "BaseException", .type "object"]
theorem XB.fb : ∀ b : XB, ExcBaseFacts b.B b.nw b.it b.bm
  | .ve => PySem.F.excBase_ValueError
  | .ix => PySem.F.excBase_IndexError
  | .ov => PySem.F.excBase_OverflowError
  | .ar => PySem.F.excBase_ArithmeticError
  | .lk => PySem.F.excBase_LookupError
theorem XB.sf : ∀ b : XB, StoreFacts b.B b.bm "object.__setattr__" "object"
  | .ve => PySem.F.store_ValueError
  | .ix => PySem.F.store_IndexError
  | .ov => PySem.F.store_OverflowError
  | .ar => PySem.F.store_ArithmeticError
  | .lk => PySem.F.store_LookupError
theorem XB.kf : ∀ b : XB, KxsFacts b.B b.it
  | .ve => kxs_ValueError
  | .ix => kxs_IndexError
  | .ov => kxs_OverflowError
  | .ar => kxs_ArithmeticError
  | .lk => kxs_LookupError
/-! ### self.f = v -/
section
open Builtin Builtin.ObjectAttr
variable {prog : Program} {w : World} {A : Around} {E : Value → Shared → Prop} {hp : Heap} {g : Array GenState} {d : Drawn} {t : Nat} {os : OsState} {K : Frag} {x C ta : Addr} {name : Str} {v : Value} {cd : ClassData} {B : String} {bmB : List Value}
theorem low_set {Q : Unit → Shared → Prop} (SF : StoreFacts B bmB "object.__setattr__" "object") (X : K.In hp) (hx : hp.get? x = some (excObj C ta none .none)) (hcd : clsIn K C = some cd) (hh : cd.hasDict = true)
    (hs : findIn K (.ref C) "__setattr__" = some (some (.builtin "object.__setattr__"))) (ho : excOver K C bmB = true) (ht : takerIn K C name = some none)
    (hq : ∀ h' tk' dx, (∀ b o, b ≠ x → hp.get? b = some o → h'.get? b = some o) → hp.objs.size ≤ dx → dx ≠ x → h'.get? x = some (excObj C ta (some dx) .none) →
      h'.Ns1 dx (fun y => if y = name then some v else none) → Q () ⟨h', g, d, tk', os⟩) :
    wpAny (model prog w) A (setAttr (.ref x) name v) Q E ⟨hp, g, d, t, os⟩ := by
  have I : InstAt hp x (excObj C ta none .none) C none := ⟨hx, rfl, rfl, trivial⟩
  have nx : x ≠ hp.objs.size := Nat.ne_of_lt (Heap.lt_size hx)
  have cls : Looks (model prog w) hp (classData C) cd := looks_clsIn X hcd
  refine set_plain X I hs (osa_openX (s := ⟨hp, g, d, t + 1, os⟩) SF X I ho ht fun b => ?_)
  show wpAny _ _ (storeInOwnDict (.ref x) (.ref C) (.str name t) name v b) _ _ _
  obtain ⟨nm, bs, mro, ns, qn, hd, sn, sb, ab, col, del⟩ := cd
  dsimp only at hh
  subst hh
  unfold storeInOwnDict ownDictForStores
  repeat (first | with_reducible refine PySem.PX.store_in_new ?_ ?_ | with_reducible refine wpAny_loadPart_at hx ?_ | with_reducible refine cls.at ?_ | wp_step)
  · refine ⟨_, #[], _, (Heap.get?_update_ne _ _ _ _ nx.symm).trans (Heap.get?_push_at rfl rfl), rfl, fun e he => absurd he (by simp), fun _ => rfl⟩
  · intro h' tk' hn' sb
    have up : (hp.push { cls := .type "dict", data := .dict #[] }).get? x = some (excObj C ta none .none) := Heap.get?_push_of_some _ hx
    refine hq h' tk' hp.objs.size (fun b o hb e => ?_) (Nat.le_refl _) nx.symm ?_ hn'
    · rw [sb.2 b (Nat.ne_of_lt (Heap.lt_size e)), Heap.get?_update_ne _ _ _ _ hb]
      exact Heap.get?_push_of_some _ e
    · rw [sb.2 x nx]
      exact Heap.get?_update_self _ up rfl
end
/-! ### super().__init__(z) -/
section
variable {prog : Program} {w : World} {A : Around} {E : Value → Shared → Prop} {K : Frag} {C e ta : Addr} {mg mb : Str → Option Value}
/-- the bound built-in __init__ is called -/
theorem low_init {s : Shared} {u : Addr} {rest : List Value} {Q : Value → Shared → Prop} (b : XB) (X : K.In s.heap) (q : excInitIn K C b.bm b.nw = true) (hu : s.heap.get? u = some (kxs_mw b.it e))
    (he : s.heap.get? e = some (excObj C ta none .none)) (hz : rest.length ≤ sizeLine)
    (h : ∀ h' t', (∀ a o, a ≠ e → s.heap.get? a = some o → h'.get? a = some o) → h'.get? e = some (excObj C t' none .none) → Q .none { s with heap := h' }) : wpAny (model prog w) A (call (.ref u) rest) Q E s := by
  obtain ⟨nm, N', qn, bs, bm, hdct, sn, sub, ab, col, dd, k0, k1, k2, k3, k5, hC, _⟩ := excInit_of X q
  obtain ⟨hh, g, d, tk, os⟩ := s
  have F := b.fb
  refine wpAny_call (codeAny_of_tree ?_)
  show wpAny _ A.in1 (callAny (.ref u) ⟨rest, []⟩) _ _ _
  simp only [callAny]
  refine wpAny_bind (wpAny_load hu ?_)
  have c1 : (Value.type "method-wrapper" == Value.type "method" || Value.type "method-wrapper" == Value.type "builtin_function_or_method" || Value.type "method-wrapper" == Value.type "method-wrapper") = true := by decide
  simp only [kxs_mw, c1, if_true]
  refine KFB.if_so (by decide) ?_
  refine wpAny_bind (check_bound_init F.toExcCallFacts hC he rfl ?_)
  refine wpAny_bind (wpAny_pure (wpAny_pure ?_))
  refine ⟨plainId_quiet F.init.plain _, codeAny_builtin F.initEntry ?_⟩
  refine exc_init_tree (cls := .ref C) (t0 := ta) (dv := none) (c2 := .none) (c3 := .none) (b4 := .bool false) he hz fun h' k e' _ => ?_
  exact h h' _ k e'
/-- what the written part says of the def, its code and its cell -/
structure LowD (prog : Program) (K : Frag) (C fI : Addr) (qual : Str) (params : Arguments) (body : List Stmt) (scope : Scope) (cda cc : Addr) : Prop where
  fn : ∃ oc od osl name kV doc pm an ct, K.lookup fI = some ⟨oc, od, .func (ksFn name qual params body scope .none kV doc pm an (.ref cda) ct cc), osl⟩
  cd : codeIn K (.ref cda) qual = true
  code : ∃ (oc : Value) (od : Option Addr) (osl : Array (Option Value)) (vs : Array Value) (file : Str) (tk : Tok), K.lookup cda = some ⟨oc, od, .fields vs, osl⟩ ∧ vs[2]? = some (.str file tk) ∧ ((prog.main.file : Str) == file) = true
  cell : ∃ (oc : Value) (od : Option Addr) (osl : Array (Option Value)), K.lookup cc = some ⟨oc, od, .cell (some (.ref C)), osl⟩
theorem low_super {s : Shared} {L fI cda cc : Addr} {m : Str → Option Value} {qual self : Str} {params : Arguments} {body : List Stmt} {scope : Scope} {arg : Expr} {p0 p1 p2 p3 p4 : Pos} {cd : ClassData} {Q : Flow → Shared → Prop} (b : XB)
    (X : K.In s.heap) (glob : s.heap.Ns mainGlobals mg) (mgS : mg "super" = none) (blt : s.heap.Ns builtinsNs mb) (mbS : mb "super" = some (.type "super"))
    (dd : LowD prog K C fI qual params body scope cda cc) (par : (params.posonlyargs ++ params.args).head?.map (·.arg) = some self) (hcd : clsIn K C = some cd) (hsub : mroIn K C (.ref C) = some true) (thp : nsIn K cStatics "thirdparty.any" = some none)
    (q : excInitIn K C b.bm b.nw = true) (hm : ks_superIn K C C "__init__" = some (some (.builtin b.it))) (hB : subIn K (.ref C) (.type b.B) = some true)
    (hks : scope.names.lookup ("super" : Str) = some .globalImplicit) (hkc : scope.names.lookup ("__class__" : Str) = some .free) (hka : scope.names.lookup self = some .local) (hk : scope.kind = .function)
    (htop : (prog.main.scope.names.lookup ("super" : Str)).isSome = false)
    (loc : s.heap.Ns L m) (hv : m self = some (.ref e)) (he : s.heap.get? e = some (excObj C ta none .none))
    (harg : ∀ s1 : Shared, s1.os = s.os → s1.gens = s.gens → s1.drawn = s.drawn → (∀ a o, s.heap.get? a = some o → s1.heap.get? a = some o) → wpAny (model prog w) A (eval arg (ksEnv qual scope L fI (.ref cda) cc)) (fun _ s2 => s2.os = s.os ∧ s2.gens = s.gens ∧ s2.drawn = s.drawn ∧ ∀ a o, s1.heap.get? a = some o → s2.heap.get? a = some o) E s1)
    (hst : starEach [arg] (ksEnv qual scope L fI (.ref cda) cc) = (false, eval arg (ksEnv qual scope L fI (.ref cda) cc)) :: starEach [] (ksEnv qual scope L fI (.ref cda) cc))
    (hcall : ∃ pl : Sem Bool, eval (.Call (.Attribute (.Call (.Name "super" p0) [] [] p1) "__init__" p2) [arg] [] p3) (ksEnv qual scope L fI (.ref cda) cc) = (do
      let ov ← attributeBase (.Call (.Name "super" p0) [] [] p1) "__init__" (ksEnv qual scope L fI (.ref cda) cc) (eval (.Call (.Name "super" p0) [] [] p1) (ksEnv qual scope L fI (.ref cda) cc))
      standAt p2.atName
      let (f, first) ← holding [ov] (getMethod ov "__init__" pl)
      callWith p3 f first (backTo p3 (starEach [arg] (ksEnv qual scope L fI (.ref cda) cc))) []))
    (hint : interactive (ksEnv qual scope L fI (.ref cda) cc) = false) (hsw : swapsWith (.Call (.Attribute (.Call (.Name "super" p0) [] [] p1) "__init__" p2) [arg] [] p3) none p4.line (ksEnv qual scope L fI (.ref cda) cc) = pure false)
    (hQ : ∀ h' tk t', (∀ a o, a ≠ e → s.heap.get? a = some o → h'.get? a = some o) → h'.get? e = some (excObj C t' none .none) → Q .next { s with heap := h', toks := tk }) :
    _root_.PySem.wpAt (model prog w) A (.func body (ksEnv qual scope L fI (.ref cda) cc)) (exec (.Expr (.Call (.Attribute (.Call (.Name "super" p0) [] [] p1) "__init__" p2) [arg] [] p3) p4) (ksEnv qual scope L fI (.ref cda) cc)) Q E s := by
  obtain ⟨pl, hcall⟩ := hcall
  obtain ⟨fc, fo, fsl, nm, kV, doc, pm, an, ct, hf⟩ := dd.fn
  obtain ⟨c1, c2, c3, vs, file, tk, hcode, hvs, hfile⟩ := dd.code
  obtain ⟨l1, l2, l3, hcell⟩ := dd.cell
  obtain ⟨ar, har, rfl⟩ : ∃ ar, (params.posonlyargs ++ params.args).head? = some ar ∧ ar.arg = self := by
    cases z : (params.posonlyargs ++ params.args).head? with
    | none => rw [z] at par; cases par
    | some a => rw [z] at par; exact ⟨a, rfl, Option.some.inj par⟩
  have IA : InstAt s.heap e (excObj C ta none .none) C none := ⟨he, rfl, rfl, trivial⟩
  obtain ⟨oD, hD1, hD2⟩ : ∃ oD, s.heap.get? C = some oD ∧ oD.data = .cls cd := by
    unfold clsIn at hcd
    split at hcd
    · rename_i k1 k2 cd' sl ho
      cases hcd
      exact ⟨_, X _ _ ho, rfl⟩
    · cases hcd
  have ne : e ≠ C := ks_ne X IA hcd
  obtain ⟨hh, g, d, t, os⟩ := s
  refine ks_wpAt_Expr_any (ks_wpAt_MethodCall (pl := pl) ?_ hcall) hint hsw
  refine ks_wpAt_super_base (env := ksEnv qual scope L fI (.ref cda) cc) hks hkc (by decide) rfl (X _ _ hf) rfl har rfl (X _ _ hcode) rfl hvs hfile htop ?_
  refine ks_loadName_global hk hks (loadGlobal_builtin (env := ksEnv qual scope L fI (.ref cda) cc) glob mgS blt mbS ⟨rfl, ?_⟩)
  refine wpAny_loadName_free hk hkc rfl ⟨_, X _ _ hcell, rfl⟩ ?_
  refine wpAny_loadName_local hk hka loc hv ?_
  refine ks_wpAny_isType_cls hD1 hD2 ⟨rfl, ?_⟩
  refine ks_wpAny_call_super hD1 hD2 he rfl (fun c z => by cases z) (looks_mroIn X hsub) fun h2 so k2 => ?_
  have X2 : K.In h2 := fun a o z => k2 a o (X a o z)
  have lmro : Looks (model prog w) h2 (mroOf (.ref C)) cd.mro := (looks_clsIn X2 hcd).andThen .now
  have inst2 : Looks (model prog w) h2 (isInstance (.ref e) (.type b.B)) true := (InstAt.type (M := model prog w) (h := h2) (ox := excObj C ta none .none) (od := none) ⟨k2 _ _ he, rfl, rfl, trivial⟩).andThen (looks_subIn X2 hB)
  have hm' : alongIn K "__init__" ((cd.mro.dropWhile (· != .ref C)).drop 1) = some (some (.builtin b.it)) := by
    unfold ks_superIn at hm
    rw [hcd] at hm
    exact hm
  refine kxs_getMethod b.kf so (looks_opaque X2 thp) lmro rfl X2 hm' inst2 ne (by decide) ?_
  have k3 : ∀ a o, hh.get? a = some o → (h2.push (kxs_mw b.it e)).get? a = some o := fun a o z => Heap.get?_push_of_some _ (k2 a o z)
  have mw3 : (h2.push (kxs_mw b.it e)).get? h2.objs.size = some (kxs_mw b.it e) := Heap.get?_push_at rfl rfl
  refine kxs_callWith (i := b.it) (x := e) (by rw [hst]; rfl) ?_
  rw [hst]
  refine evalArgs_plain (spliced_cons (wpAny_mono (harg ⟨h2.push (kxs_mw b.it e), g, d, t + 1, os⟩ rfl rfl rfl k3) (fun z s4 hz => ?_) fun _ _ z => z))
  obtain ⟨o1, o2, o3, k4⟩ := hz
  obtain ⟨h4, g4, d4, t4, os4⟩ := s4
  obtain rfl : os4 = os := o1
  obtain rfl : g4 = g := o2
  obtain rfl : d4 = d := o3
  have X4 : K.In h4 := fun a o z => k4 a o (k3 a o (X a o z))
  refine spliced_nil ⟨k4 _ _ mw3, ?_⟩
  refine low_init b X4 q (k4 _ _ mw3) (k4 _ _ (k3 _ _ he)) (by show 1 ≤ sizeLine; rw [sizeLine_eq]; omega) fun h5 t5 k5 e5 => ?_
  exact hQ h5 t4 t5 (fun a o na z => k5 a o na (k4 a o (k3 a o z))) e5
end
/-! ### C(u) -/
section
variable {prog : Program} {w : World} {A : Around} {E : Value → Shared → Prop} {K : Frag} {C : Addr} {mg mb : Str → Option Value}
/-- all that is known of such a class -/
structure LowC (prog : Program) (K : Frag) (mg : Str → Option Value) (C fI : Addr) (b : XB) (fld qual me giv : Str) (params : Arguments) (body : List Stmt) (scope : Scope) (cda cc : Addr) : Prop where
  d : LowD prog K C fI qual params body scope cda cc
  par : (params.posonlyargs ++ params.args).head?.map (·.arg) = some me
  bind : ∀ (name : Str) (kV doc pm : Value) (an : Option Addr) (ct x y : Value), bindArgs (ksFn name qual params body scope .none kV doc pm an (.ref cda) ct cc) ⟨[x, y], []⟩ = pure [(me, x), (giv, y)]
  ne : me ≠ giv
  cls : ∃ cd, clsIn K C = some cd ∧ cd.hasDict = true
  sub : mroIn K C (.ref C) = some true
  thp : nsIn K cStatics "thirdparty.any" = some none
  exi : excInitIn K C b.bm b.nw = true
  sup : ks_superIn K C C "__init__" = some (some (.builtin b.it))
  bas : subIn K (.ref C) (.type b.B) = some true
  ini : findIn K (.ref C) "__init__" = some (some (.ref fI))
  isf : isFn K (.ref fI) = true
  sa : findIn K (.ref C) "__setattr__" = some (some (.builtin "object.__setattr__"))
  ovr : excOver K C b.bm = true
  tkr : takerIn K C fld = some none
  ks : scope.names.lookup ("super" : Str) = some .globalImplicit
  kc : scope.names.lookup ("__class__" : Str) = some .free
  ka : scope.names.lookup me = some .local
  kg : scope.names.lookup giv = some .local
  kind : scope.kind = .function
  co : scope.isCoroutine = false
  gen : scope.isGenerator = false
  nocell : ∀ x ∈ scope.names, x.2 ≠ .cell
  top : (prog.main.scope.names.lookup ("super" : Str)).isSome = false
  mgS : mg "super" = none
theorem low_call {s : Shared} {fI cda cc : Addr} {qual me giv fld : Str} {params : Arguments} {scope : Scope} {arg : Expr} {p0 p1 p2 p3 p4 p5 p6 p7 p8 : Pos} {b : XB} {u : Value}
    (Lc : LowC prog K mg C fI b fld qual me giv params [.Expr (.Call (.Attribute (.Call (.Name "super" p0) [] [] p1) "__init__" p2) [arg] [] p3) p4, .Assign [.Attribute (.Name me p5) fld p6] (.Name giv p7) p8] scope cda cc)
    (X : K.In s.heap) (glob : s.heap.Ns mainGlobals mg) (blt : s.heap.Ns builtinsNs mb) (mbS : mb "super" = some (.type "super")) (lim : s.heap.NoLimit) (room : (A.under (.builtin "type.__call__" ⟨[.ref C, u], []⟩)).depth < recursionLimit)
    (dbS : (me == ("__debug__" : Str)) = false) (dbG : (giv == ("__debug__" : Str)) = false)
    (harg : ∀ (L : Addr) (s1 : Shared), s1.os = s.os → s1.gens = s.gens → s1.drawn = s.drawn → (∀ a o, s.heap.get? a = some o → s1.heap.get? a = some o) → s1.heap.Ns L (fun y => if y = giv then some u else if y = me then some (.ref (s.heap.objs.size + 1)) else none) →
      wpAny (model prog w) ((A.under (.builtin "type.__call__" ⟨[.ref C, u], []⟩)).deeper (ksEnv qual scope L fI (.ref cda) cc)) (eval arg (ksEnv qual scope L fI (.ref cda) cc)) (fun _ s2 => s2.os = s.os ∧ s2.gens = s.gens ∧ s2.drawn = s.drawn ∧ ∀ a o, s1.heap.get? a = some o → s2.heap.get? a = some o) (fun _ _ => False) s1)
    (hst : ∀ L, starEach [arg] (ksEnv qual scope L fI (.ref cda) cc) = (false, eval arg (ksEnv qual scope L fI (.ref cda) cc)) :: starEach [] (ksEnv qual scope L fI (.ref cda) cc))
    (hcall : ∀ L, ∃ pl : Sem Bool, eval (.Call (.Attribute (.Call (.Name "super" p0) [] [] p1) "__init__" p2) [arg] [] p3) (ksEnv qual scope L fI (.ref cda) cc) = (do
      let ov ← attributeBase (.Call (.Name "super" p0) [] [] p1) "__init__" (ksEnv qual scope L fI (.ref cda) cc) (eval (.Call (.Name "super" p0) [] [] p1) (ksEnv qual scope L fI (.ref cda) cc))
      standAt p2.atName
      let (f, first) ← holding [ov] (getMethod ov "__init__" pl)
      callWith p3 f first (backTo p3 (starEach [arg] (ksEnv qual scope L fI (.ref cda) cc))) []))
    (hint : ∀ L, interactive (ksEnv qual scope L fI (.ref cda) cc) = false) (hsw : ∀ L, swapsWith (.Call (.Attribute (.Call (.Name "super" p0) [] [] p1) "__init__" p2) [arg] [] p3) none p4.line (ksEnv qual scope L fI (.ref cda) cc) = pure false)
    (hsw2 : ∀ L, swapsWith (.Name giv p7) (some (.Attribute (.Name me p5) fld p6)) p8.line (ksEnv qual scope L fI (.ref cda) cc) = pure false) {Q : Value → Shared → Prop}
    (hQ : ∀ h' tk e dx t', (∀ a o, s.heap.get? a = some o → h'.get? a = some o) → s.heap.objs.size ≤ e → s.heap.objs.size ≤ dx → dx ≠ e → h'.get? e = some (excObj C t' (some dx) .none) → h'.Ns1 dx (fun y => if y = fld then some u else none) → Q (.ref e) { s with heap := h', toks := tk }) :
    wpAny (model prog w) A (call (.ref C) [u]) Q E s := by
  obtain ⟨nm, N', qn, bs, bm, hdct, sn, sub, ab, col, dd, k0, k1, k2, k3, k5, hC, hT⟩ := excInit_of X Lc.exi
  obtain ⟨oI, hoI, hcI⟩ : ∃ oI, s.heap.get? fI = some oI ∧ oI.cls = .type "function" := by
    obtain ⟨o, ho, hc⟩ := Option.map_eq_some_iff.mp (show (K.lookup fI).map (·.cls) = some (.type "function") from beq_iff_eq.mp Lc.isf)
    exact ⟨o, X _ _ ho, hc⟩
  obtain ⟨cd, hcd, hdc⟩ := Lc.cls
  obtain ⟨fc, fo, fsl, fnm, kV, doc, pm, an, ct, hf⟩ := Lc.d.fn
  obtain ⟨hh, g, d, t, os⟩ := s
  refine wpAny_call (PySem.PX.call_own b.fb hT hC (looks_findIn X Lc.ini) (fun zz => exc_bind hoI hcI zz) (by show 1 ≤ sizeLine; rw [sizeLine_eq]; omega) ?_)
  have kk : ∀ a o, hh.get? a = some o → ((hh.push (PySem.W.kdv_tup [u])).push (PySem.PX.excO C hh.objs.size)).get? a = some o := fun a o z => Heap.get?_push_of_some _ (Heap.get?_push_of_some _ z)
  have e0 : ((hh.push (PySem.W.kdv_tup [u])).push (PySem.PX.excO C hh.objs.size)).get? (hh.objs.size + 1) = some (excObj C hh.objs.size none .none) := by heap_get
  have sz : ((hh.push (PySem.W.kdv_tup [u])).push (PySem.PX.excO C hh.objs.size)).objs.size = hh.objs.size + 2 := by rw [Heap.size_push, Heap.size_push]
  generalize (hh.push (PySem.W.kdv_tup [u])).push (PySem.PX.excO C hh.objs.size) = h1 at kk e0 sz
  have X1 : K.In h1 := fun a o z => kk a o (X a o z)
  refine ks_codeAny_call_defAt (binds := [(me, .ref (hh.objs.size + 1)), (giv, u)]) room (X1 _ _ hf) rfl (lim.keeps kk) (codeRec_of X1 Lc.d.cd) rfl (.of_eq (Lc.bind _ _ _ _ _ _ _ _)) Lc.nocell ?_ (fun h2 ns2 k2 => ?_) Lc.co Lc.gen Lc.kind
  · intro y hy
    rcases List.mem_cons.mp hy with rfl | hy
    · exact Lc.ka
    · rcases List.mem_cons.mp hy with rfl | hy
      · exact Lc.kg
      · cases hy
  · have k02 : ∀ a o, hh.get? a = some o → h2.get? a = some o := fun a o z => k2 a o (kk a o z)
    have X2 : K.In h2 := fun a o z => k02 a o (X a o z)
    have em : (fun x => ([(me, Value.ref (hh.objs.size + 1)), (giv, u)] : List (Str × Value)).reverse.lookup x) = fun y => if y = giv then some u else if y = me then some (.ref (hh.objs.size + 1)) else none := by
      funext y
      by_cases h1 : y = giv
      · subst h1; simp [List.lookup]
      · have b1 : (y == giv) = false := by simpa using h1
        by_cases h3 : y = me
        · subst h3; simp [List.lookup, b1, h1]
        · have b2 : (y == me) = false := by simpa using h3
          simp [List.lookup, b1, b2, h1, h3]
    have ns2' : h2.Ns h1.objs.size fun y => if y = giv then some u else if y = me then some (.ref (hh.objs.size + 1)) else none := by rw [← em]; exact ns2
    have ms : (fun y => if y = giv then some u else if y = me then some (.ref (hh.objs.size + 1)) else none) me = some (Value.ref (hh.objs.size + 1)) := by
      dsimp only
      rw [if_neg Lc.ne, if_pos rfl]
    have mgv : (fun y => if y = giv then some u else if y = me then some (Value.ref (hh.objs.size + 1)) else none) giv = some u := by
      dsimp only
      rw [if_pos rfl]
    refine ks_wpAt_execs_cons (low_super b X2 (glob.keeps k02) Lc.mgS (blt.keeps k02) mbS Lc.d Lc.par hcd Lc.sub Lc.thp Lc.exi Lc.sup Lc.bas Lc.ks Lc.kc Lc.ka Lc.kind Lc.top ns2' ms (k2 _ _ e0)
      (fun s1 o1 o2 o3 k3 => wpAny_mono (harg h1.objs.size s1 o1 o2 o3 (fun a o z => k3 a o (k02 a o z)) (ns2'.keeps k3)) (fun _ _ z => z) fun _ _ z => z.elim) (hst _) (hcall _) (hint _) (hsw _) fun h3 tk3 t3 k3 e3 => ?_)
    have X3 : K.In h3 := fun a o z => k3 a o (Nat.ne_of_lt (Nat.lt_succ_of_lt (Heap.lt_size (X a o z)))) (X2 a o z)
    have nL : h1.objs.size ≠ hh.objs.size + 1 := by omega
    have ns3 : h3.Ns h1.objs.size fun y => if y = giv then some u else if y = me then some (.ref (hh.objs.size + 1)) else none := by
      obtain ⟨oL, es, ep, z1, z2⟩ := ns2'
      exact ⟨oL, es, ep, k3 _ _ nL z1, z2⟩
    show _root_.PySem.wpAt _ _ _ (execs [_] _) _ _ _
    refine ks_wpAt_execs_cons (ks_wpAt_Assign_Attr (wpAt_of_wpAny (wpAny_Name (wpAny_loadName_local (env := ksEnv qual scope h1.objs.size fI (.ref cda) cc) Lc.kind Lc.kg ns3 mgv (wpAny_Name (wpAny_loadName_local (env := ksEnv qual scope h1.objs.size fI (.ref cda) cc) Lc.kind Lc.ka ns3 ms ?_) dbS)) dbG)) (hsw2 _))
    refine low_set b.sf X3 e3 hcd hdc Lc.sa Lc.ovr Lc.tkr fun h4 tk4 dx k4 hdx ndx e4 n4 => ?_
    have szle : hh.objs.size ≤ h3.objs.size := Nat.le_of_lt (Nat.lt_of_succ_lt (Heap.lt_size e3))
    refine wpAt_of_wpAny (wpAny_execs_nil ?_)
    refine ⟨rfl, hQ h4 tk4 (hh.objs.size + 1) dx t3 (fun a o z => k4 a o (Nat.ne_of_lt (Nat.lt_succ_of_lt (Heap.lt_size z))) (k3 a o (Nat.ne_of_lt (Nat.lt_succ_of_lt (Heap.lt_size z))) (k02 a o z))) (Nat.le_succ _) (Nat.le_trans szle hdx) ndx e4 n4⟩
end
end AW
/-! Bx2: str(..), repr(..) of what has a text. -/
namespace AW
open PySem PySem.Spec PyProof.Rows L2
def strP (p : PyData) : Str := match p with
  | .str x => x
  | p => p.shown
def showOk (p : PyData) : Bool := p.showable && decide (p.depth ≤ 40) && decide (p.shown.length ≤ 100000)
theorem showOk_of {p : PyData} (h : showOk p = true) : p.showable = true ∧ p.depth ≤ 40 ∧ p.shown.length ≤ sizeLine := by
  unfold showOk at h
  simp only [Bool.and_eq_true, decide_eq_true_eq] at h
  exact ⟨h.1.1, h.1.2, by rw [sizeLine_eq]; omega⟩
section
variable {prog : Program} {w : World} {h₀ : Heap} {u : Value} {p : PyData} {as : List Addr} {A : Around} {E : Value → Shared → Prop} {s : Shared} {Q : Value → Shared → Prop}
theorem str_run (r : Reads h₀ u p as) (hsm : p.hasDict = true → sysModules ∉ as) (ok : showOk p = true) (hg : A.guards = some []) (hu : A.units + 50 < cLine) (hk : ∀ b o, h₀.get? b = some o → s.heap.get? b = some o)
    (hQ : ∀ h' t tk, (∀ b o, s.heap.get? b = some o → h'.get? b = some o) → Q (.str (strP p) t) { s with heap := h', toks := tk }) : wpAny (model prog w) A (call (.type "str") [u]) Q E s := by
  obtain ⟨h1, h2, h3⟩ := showOk_of ok
  have big : ∀ a, u = .ref a → strP p = p.shown → wpAny (model prog w) A (call (.type "str") [u]) Q E s := fun a e e2 => by
    subst e
    rw [e2] at hQ
    exact str_of_reads r h1 hsm hg (by omega) hk hQ h3
  cases r with
  | none => exact PySem.P.str_of_none (by have := hQ s.heap s.toks (s.toks + 1) fun _ _ e => e; simpa only [strP, PyData.shown] using this)
  | bool b => exact PySem.P.str_of_bool (by have := hQ s.heap s.toks (s.toks + 1) fun _ _ e => e; cases b <;> simpa [strP, PyData.shown] using this)
  | int i t => exact PySem.P.str_of_int (by simpa [PyData.showable] using h1) (by have := hQ s.heap s.toks (s.toks + 1) fun _ _ e => e; simpa only [strP, PyData.shown] using this)
  | str x t => exact PySem.P.str_of_str (by have := hQ s.heap t s.toks fun _ _ e => e; exact this)
  | list _ _ _ _ => exact big _ rfl rfl
  | tuple _ _ _ _ => exact big _ rfl rfl
  | dict _ _ _ _ _ => exact big _ rfl rfl
theorem repr_run (r : Reads h₀ u p as) (hsm : p.hasDict = true → sysModules ∉ as) (ok : showOk p = true) (hg : A.guards = some []) (hu : A.units + 50 < cLine) (hk : ∀ b o, h₀.get? b = some o → s.heap.get? b = some o)
    (hQ : ∀ h' t tk, (∀ b o, s.heap.get? b = some o → h'.get? b = some o) → Q (.str p.shown t) { s with heap := h', toks := tk }) : wpAny (model prog w) A (call (.builtin "repr") [u]) Q E s := by
  obtain ⟨h1, h2, h3⟩ := showOk_of ok
  have big : ∀ a, u = .ref a → wpAny (model prog w) A (call (.builtin "repr") [u]) Q E s := fun a e => by
    subst e
    exact repr_of_reads' r h1 hsm hg (by omega) hk hQ h3
  cases r with
  | none => exact PySem.P.repr_of_none (by have := hQ s.heap s.toks (s.toks + 1) fun _ _ e => e; simpa only [PyData.shown] using this)
  | bool b => exact PySem.P.repr_of_bool (by have := hQ s.heap s.toks (s.toks + 1) fun _ _ e => e; cases b <;> simpa [PyData.shown] using this)
  | int i t => exact PySem.P.repr_of_int (by simpa [PyData.showable] using h1) (by have := hQ s.heap s.toks (s.toks + 1) fun _ _ e => e; simpa only [PyData.shown] using this)
  | str x t => exact PySem.P.repr_of_str (by have := hQ s.heap s.toks (s.toks + 1) fun _ _ e => e; simpa only [PyData.shown] using this) (by simpa only [PyData.shown] using h3)
  | list _ _ _ _ => exact big _ rfl
  | tuple _ _ _ _ => exact big _ rfl
  | dict _ _ _ _ _ => exact big _ rfl
end
/-- what has a text -/
def emptyD (g : G) : D → Bool
  | .dct [] [] => true
  | .ref i => match g[i]? with
    | some (.dct [] []) => true
    | _ => false
  | _ => false
def txtD (g : G) (d : D) : Option PyData := match emptyD g d with
  | true => some (.dict [])
  | false => match pyG g d with
    | some p => match p.hasDict with
      | true => none
      | false => some p
    | none => none
/-- and a value of the layer that has one -/
def TxtV (K : PySem.W.Frag) (H : Hp) (v : V) (p : PyData) : Prop := (p.hasDict = false ∧ Dp K H v p) ∨ (p = .dict [] ∧ ∃ a, v = .ref a ∧ H a = some (.dK []))
theorem txtD_s {K : PySem.W.Frag} {m : Md} {g : G} {H : Hp} {d : D} {v : V} {p : PyData} (r : Rel K m g H) (h : Den K m d v) (e : txtD g d = some p) : TxtV K H v p := by
  unfold txtD at e
  split at e
  · rename_i he
    cases e
    refine .inr ⟨rfl, ?_⟩
    unfold emptyD at he
    split at he
    · cases h with
      | dct h1 h2 h3 =>
        cases h3
        exact ⟨_, rfl, r.ex _ _ h1⟩
    · rename_i i
      split at he
      · rename_i hc
        cases h with
        | ref h1 =>
          obtain ⟨a, h2, _, o, h3, vs, rfl, _, h5⟩ := r.cell _ _ hc
          rw [h1] at h2
          cases h2
          cases h5
          exact ⟨_, rfl, h3⟩
      · cases he
    · cases he
  · split at e
    · rename_i p' hp
      split at e
      · cases e
      · rename_i hn
        cases e
        exact .inl ⟨hn, pyG_s r h hp⟩
    · cases e
theorem TxtV.reads {X : Cx} {pins : List (Addr × Obj)} {σ : L2.St} {H : Hp} {s : Shared} {v : V} {u : Value} {p : PyData} (I : Inv X pins σ H s) (h : TxtV X.K H v p) (r : RelV v u) : ∃ as, Reads s.heap u p as ∧ (p.hasDict = true → sysModules ∉ as) := by
  rcases h with ⟨h1, h2⟩ | ⟨rfl, a, rfl, h2⟩
  · obtain ⟨as, hr⟩ := Dp.reads I p v u h2 r
    exact ⟨as, hr, fun z => by rw [h1] at z; cases z⟩
  · cases r
    have ho := I.hok a _ h2
    obtain ⟨_, hns, vs, hkv, o, es, ep, hg, hx, hd, hko, hps, hnd⟩ := ho
    cases hkv
    have he : es.toList = [] := by
      generalize es.toList = l at hps
      cases hps
      rfl
    refine ⟨_, Reads.dict (as := []) (bs := []) (kvs := []) hg hx.1 hd (by rw [he]; exact .nil) (by rw [he]; exact .nil), fun _ hm => ?_⟩
    simp only [List.append_nil, List.mem_singleton] at hm
    rw [hm] at hns
    simp at hns
end AW
/-! Bx3: raise X(e). -/
namespace AW
open PySem PySem.W PySem.Calls PyProof.Rows
/-- what such an __init__ passes on: str(v), or a text -/
inductive XArg where
  | str (q0 q1 q2 : Pos)
  | cst (m : Str) (j : Nat) (q : Pos)
def XArg.e (giv : Str) : XArg → Expr
  | .str q0 q1 q2 => .Call (.Name "str" q0) [.Name giv q1] [] q2
  | .cst m j q => .Constant (.str m) j q
def XArg.isStr : XArg → Bool
  | .str _ _ _ => true
  | .cst _ _ _ => false
section
variable {prog : Program} {w : World} {A : Around} {E : Value → Shared → Prop} {mg mb : Str → Option Value}
theorem arg_run {h₀ : Heap} {s : Shared} {L fI cda cc : Addr} {m : Str → Option Value} {qual giv : Str} {scope : Scope} {a : XArg} {u : Value} {Q : Value → Shared → Prop}
    (glob : s.heap.Ns mainGlobals mg) (mgT : mg "str" = none) (blt : s.heap.Ns builtinsNs mb) (mbT : mb "str" = some (.type "str"))
    (hkt : a.isStr = true → scope.names.lookup ("str" : Str) = some .globalImplicit) (hkg : scope.names.lookup giv = some .local) (hk : scope.kind = .function) (dbG : (giv == ("__debug__" : Str)) = false)
    (loc : s.heap.Ns L m) (hv : m giv = some u) (gd : A.guards = some []) (hu : A.units + 50 < cLine)
    (hk0 : ∀ b o, h₀.get? b = some o → s.heap.get? b = some o) (hp : a.isStr = true → ∃ p as, Reads h₀ u p as ∧ (p.hasDict = true → sysModules ∉ as) ∧ showOk p = true)
    (hQ : ∀ v h' tk, (∀ b o, s.heap.get? b = some o → h'.get? b = some o) → Q v { s with heap := h', toks := tk }) :
    wpAny (model prog w) A (eval (a.e giv) (ksEnv qual scope L fI (.ref cda) cc)) Q E s := by
  cases a with
  | str q0 q1 q2 =>
    obtain ⟨p, as, r, hsm, ok⟩ := hp rfl
    refine wpAny_Call_Name_kw (wpAny_Name (ks_loadName_global (env := ksEnv qual scope L fI (.ref cda) cc) hk (hkt rfl) (loadGlobal_builtin (env := ksEnv qual scope L fI (.ref cda) cc) glob mgT blt mbT ?_)) (by decide))
    refine PyProof.Rows.callWith_type1 (spliced_cons (wpAny_Name (wpAny_loadName_local (env := ksEnv qual scope L fI (.ref cda) cc) hk hkg loc hv (spliced_nil ?_)) dbG)) rfl rfl
    exact str_run r hsm ok gd hu hk0 fun h' t tk k => hQ _ h' tk k
  | cst m j q => exact Calls.Constant_str (hQ _ s.heap (s.toks + 1) fun _ _ e => e)
end
/-! ### all that is known of a class of this kind, with what its __init__ needs -/
structure LowE (prog : Program) (K : Frag) (mg : Str → Option Value) (x : Str) (C fI : Addr) (b : XB) (fld qual me giv : Str) (params : Arguments) (a : XArg) (scope : Scope) (cda cc : Addr) (p0 p1 p2 p3 p4 p5 p6 p7 p8 : Pos) : Prop where
  c : LowC prog K mg C fI b fld qual me giv params [.Expr (.Call (.Attribute (.Call (.Name "super" p0) [] [] p1) "__init__" p2) [a.e giv] [] p3) p4, .Assign [.Attribute (.Name me p5) fld p6] (.Name giv p7) p8] scope cda cc
  mgT : mg "str" = none
  kt : a.isStr = true → scope.names.lookup ("str" : Str) = some .globalImplicit
  dbS : (me == ("__debug__" : Str)) = false
  dbG : (giv == ("__debug__" : Str)) = false
  gC : mg x = some (.ref C)
  kC : keepIn K (.ref C) = true
  xs : subIn K (.ref C) (.type "BaseException") = some true
  ty : typeIn K (.ref C) = some (.type "type")
  hst : ∀ L, starEach [a.e giv] (ksEnv qual scope L fI (.ref cda) cc) = (false, eval (a.e giv) (ksEnv qual scope L fI (.ref cda) cc)) :: starEach [] (ksEnv qual scope L fI (.ref cda) cc)
  hcall : ∀ L, ∃ pl : Sem Bool, eval (.Call (.Attribute (.Call (.Name "super" p0) [] [] p1) "__init__" p2) [a.e giv] [] p3) (ksEnv qual scope L fI (.ref cda) cc) = (do
      let ov ← attributeBase (.Call (.Name "super" p0) [] [] p1) "__init__" (ksEnv qual scope L fI (.ref cda) cc) (eval (.Call (.Name "super" p0) [] [] p1) (ksEnv qual scope L fI (.ref cda) cc))
      standAt p2.atName
      let (f, first) ← holding [ov] (getMethod ov "__init__" pl)
      callWith p3 f first (backTo p3 (starEach [a.e giv] (ksEnv qual scope L fI (.ref cda) cc))) [])
  hint : ∀ L, interactive (ksEnv qual scope L fI (.ref cda) cc) = false
  hsw : ∀ L, swapsWith (.Call (.Attribute (.Call (.Name "super" p0) [] [] p1) "__init__" p2) [a.e giv] [] p3) none p4.line (ksEnv qual scope L fI (.ref cda) cc) = pure false
  hsw2 : ∀ L, swapsWith (.Name giv p7) (some (.Attribute (.Name me p5) fld p6)) p8.line (ksEnv qual scope L fI (.ref cda) cc) = pure false
section
open L2
variable {X : Cx}
/-- X(e): the class, its dict with the one field -/
def tLow (K : Frag) (isStr : Bool) (C : Addr) (fld : Str) (t : TE) : L2.St → L2.Hp → L2.XK → Prop := fun σ H Q => t σ H fun v H1 =>
  (isStr = true → ∃ p, TxtV K H1 v p ∧ showOk p = true) ∧ ∀ dx, H1 dx = none → Q (.ref C) (some dx) (upd H1 dx (.xd [(fld, v)]))
theorem pmk_low {x : Str} {C fI cda cc : Addr} {b : XB} {fld qual me giv : Str} {params : Arguments} {a : XArg} {scope : Scope} {p0 p1 p2 p3 p4 p5 p6 p7 p8 p pos : Pos} {e : Expr} {ta : TE} {j : Nat}
    (T : LowE X.prog X.K X.mg x C fI b fld qual me giv params a scope cda cc p0 p1 p2 p3 p4 p5 p6 p7 p8) (gd : X.A.guards = some []) (hr : Room j X.A) (hj : 1 ≤ j) (hg : Gl X x) (he : PE X e ta)
    (hs : starEach [e] X.env = (false, eval e X.env) :: starEach [] X.env := by rfl) (hdb : (x == ("__debug__" : Str)) = false := by decide) :
    PMk X (.Call (.Name x p) [e] [] pos) (tLow X.K a.isStr C fld ta) := by
  intro pins s σ H Q I h
  refine wpAny_Call_Name_kw (ld_glob I hg T.gC ?_ hdb)
  refine PySem.W.callWith_K (h₀ := X.base) I.ok.mod.kin T.kC ?_ hs (by rfl)
  rw [hs]
  show wpAny _ _ (spliced ((false, eval e X.env) :: backTo pos (starEach [] X.env))) _ _ s
  refine spliced_cons (thn (he.run pins s σ H _ I h) fun u s1 ⟨v, H1, I1, r1, htx, hq⟩ => ?_)
  refine spliced_nil ⟨I1.kIn, ?_⟩
  show wpAny _ _ (call (.ref C) [u]) _ _ _
  have glob : s1.heap.Ns mainGlobals X.mg := I1.mod.glob.keeps I1.bk
  obtain ⟨mb, hb1, hb2⟩ := I1.mod.blt
  have blt : s1.heap.Ns builtinsNs mb := hb1.keeps I1.bk
  have mbS : mb "super" = some (.type "super") := (hb2 "super" (by decide)).trans (by kernel_rfl)
  have mbT : mb "str" = some (.type "str") := (hb2 "str" (by decide)).trans (by kernel_rfl)
  have un := hr.un
  have dp := hr.dp
  have u1 : (X.A.under (.builtin "type.__call__" ⟨[.ref C, u], []⟩)).units = X.A.units + 1 := make_units
  have d1 : (X.A.under (.builtin "type.__call__" ⟨[.ref C, u], []⟩)).depth = X.A.depth + 1 := make_depth
  have g1 : (X.A.under (.builtin "type.__call__" ⟨[.ref C, u], []⟩)).guards = some [] := by
    first | exact gd | simp [Around.under, gd, Code.weight, Code.isCreation, Code.isGuard, Code.isCaller, Code.frames, Code.isFrame, guardIds]
  refine low_call T.c I1.kIn glob blt mbS I1.nolimit (by rw [d1]; omega) T.dbS T.dbG ?_ T.hst T.hcall T.hint T.hsw T.hsw2 ?_
  · intro L s2 o1 o2 o3 k2 ns2
    refine arg_run (E := fun _ _ => False) (glob.keeps k2) T.mgT (blt.keeps k2) mbT T.kt T.c.kg T.c.kind T.dbG ns2 (if_pos rfl) g1 (by show (X.A.under (.builtin "type.__call__" ⟨[.ref C, u], []⟩)).units + 3 + 50 < cLine; rw [u1]; omega) (h₀ := s1.heap) k2 (fun hi => ?_) fun v h' tk k => ?_
    · obtain ⟨p, hp, ok⟩ := htx hi
      obtain ⟨as, hrd, hsm⟩ := hp.reads I1 r1
      exact ⟨p, as, hrd, hsm, ok⟩
    · exact ⟨o1, o2, o3, k⟩
  · intro h2 tk e' dx t' k2 he1 hdx1 ne he2 hns
    obtain ⟨G, g1', g2'⟩ := restrict h2 fun b => decide (b ≠ e')
    have hG : ∀ b o, s1.heap.get? b = some o → G.get? b = some o := fun b o z => by
      have nb : b ≠ e' := Nat.ne_of_lt (Nat.lt_of_lt_of_le (Heap.lt_size z) he1)
      rw [g1' b (decide_eq_true nb)]
      exact k2 b o z
    have hn : H1 dx = none := I1.hok.fresh hdx1
    have I2 : Inv X pins σ (upd H1 dx (.xd [(fld, v)])) { s1 with heap := G, toks := tk } := by
      refine I1.laid (t' := tk) (o := .xd [(fld, v)]) hG hdx1 ?_
      refine ⟨_, hns.at fun o z => ?_, fun f => ?_⟩
      · rw [g1' dx (decide_eq_true ne)]
        exact z
      · show RelO (List.lookup f [(fld, v)]) _
        by_cases hf : f = fld
        · subst hf
          simp [List.lookup]
          exact r1
        · have : (f == fld) = false := by simpa using hf
          simp [List.lookup, this, hf]
          trivial
    refine ⟨e', _, _, { s1 with heap := G, toks := tk }, upd H1 dx (.xd [(fld, v)]), .ref C, some dx, rfl, I2, fun b o z => ?_, ?_, he2, ⟨rfl, rfl⟩, rfl, rfl, ?_, rfl, I1.bare, raises_own T.xs T.ty, hq dx hn⟩
    · show h2.get? b = some o
      by_cases nb : b = e'
      · subst nb
        have := g2' b (decide_eq_false (by simp))
        rw [this] at z
        cases z
      · rw [← g1' b (decide_eq_true nb)]
        exact z
    · exact g2' e' (decide_eq_false (by simp))
    · rw [upd_ne ne.symm]
      exact I1.hok.fresh he1
end
/-! ### raise -/
def raiseOk (isStr : Bool) (g : G) (d : D) : Bool := !isStr || (match txtD g d with
  | some p => showOk p
  | none => false)
theorem raiseOk_s {K : Frag} {m : Md} {g : G} {H : L2.Hp} {d : D} {v : L2.V} {i : Bool} (r : Rel K m g H) (h : Den K m d v) (e : raiseOk i g d = true) : i = true → ∃ p, TxtV K H v p ∧ showOk p = true := fun hi => by
  unfold raiseOk at e
  rw [hi] at e
  simp only [Bool.not_true, Bool.false_or] at e
  split at e
  · rename_i p hp
    exact ⟨p, txtD_s r h hp, e⟩
  · cases e
def sRaiseX (isStr : Bool) (c fld : Str) (ea : Ev) : Sx := fun σ g => sBind σ (ea σ g) fun d g1 => match raiseOk isStr g1 d with
  | true => .ex σ ⟨c, [(fld, d)]⟩ g1
  | false => .no
def sRaise0 (c : Str) : Sx := fun σ g => .ex σ ⟨c, []⟩ g
section
open L2
variable {X : Cx} {W : L2.WX}
theorem s_raiseX {x : Str} {C fI cda cc : Addr} {b : XB} {fld qual me giv : Str} {params : Arguments} {a : XArg} {scope : Scope} {p0 p1 p2 p3 p4 p5 p6 p7 p8 p pos pos' : Pos} {e : Expr} {ea : Ev} {j : Nat}
    (T : LowE X.prog X.K X.mg x C fI b fld qual me giv params a scope cda cc p0 p1 p2 p3 p4 p5 p6 p7 p8) (hC : C = ga X.K x) (hc : X.calm = true) (tk : Takes X W) (gd : X.A.guards = some []) (hr : Room j X.A) (hj : 1 ≤ j) (hg : Gl X x) (he : PE X e (tE X.K W ea))
    (hs : starEach [e] X.env = (false, eval e X.env) :: starEach [] X.env := by rfl) (hdb : (x == ("__debug__" : Str)) = false := by decide) :
    PS X (.Raise (some (.Call (.Name x p) [e] [] pos)) none pos') (tS X.K W (sRaiseX a.isStr x fld ea)) :=
  PS.imp (ps_raise hc tk (pmk_low T gd hr hj hg he hs hdb)) fun D' σ H h => by
    obtain ⟨m, σ', g, rl, sl, p⟩ := h
    refine ⟨m, σ', g, rl, sl.1, sl.2, sBind_s sl p fun d g1 m1 H1 v l1 r1 d1 p1 => ?_⟩
    split at p1
    · rename_i hok
      refine ⟨raiseOk_s r1 d1 hok, fun dx hdx => ?_⟩
      refine p1 (m1.put dx (.xd [(fld, v)])) (upd H1 dx (.xd [(fld, v)])) σ (.ref C) (some dx) (le_put (r1.free hdx)) (r1.put hdx) ((sl.mono l1).mono (le_put (r1.free hdx))) ⟨by rw [hC], .inr ⟨by simp, dx, [(fld, v)], rfl, by show upd m1.F dx _ dx = _; exact upd_same, rfl, .cons (d1.mono (le_put (r1.free hdx))) .nil⟩⟩
    · exact p1.elim
theorem s_raise0 {x msg : Str} {C : Addr} {bmB : List Value} {B newId initId : String} {jj : Nat} {p p2 pos pos' : Pos} (F : ExcBaseFacts B newId initId bmB) (q : excIn X.K C bmB newId = true) (gC : X.mg x = some (.ref C)) (kC : keepIn X.K (.ref C) = true)
    (xs : subIn X.K (.ref C) (.type "BaseException") = some true) (ty : typeIn X.K (.ref C) = some (.type "type")) (hC : C = ga X.K x) (hc : X.calm = true) (tk : Takes X W) (hg : Gl X x) (hdb : (x == ("__debug__" : Str)) = false := by decide) :
    PS X (.Raise (some (.Call (.Name x p) [.Constant (.str msg) jj p2] [] pos)) none pos') (tS X.K W (sRaise0 x)) :=
  PS.imp (ps_raise hc tk (pmk_own F q gC kC (raises_own xs ty) hg hdb)) fun D' σ H h => by
    obtain ⟨m, σ', g, rl, sl, p⟩ := h
    exact p m H σ _ none (Le.refl m) rl sl ⟨by rw [hC], .inl ⟨rfl, rfl⟩⟩
end
/-! ### repr(x), str(x) -/
def fRepr : Fn := fun ds g => match ds with
  | [d] => match txtD g d with
    | some p => okIf (showOk p) (.str p.shown) g
    | none => .no
  | _ => .no
def fStr : Fn := fun ds g => match ds with
  | [d] => match txtD g d with
    | some p => okIf (showOk p) (.str (strP p)) g
    | none => .no
  | _ => .no
def rRepr (K : Frag) : List L2.V → L2.Hp → L2.VK → Prop := fun xs H Q => ∃ x p, xs = [x] ∧ TxtV K H x p ∧ showOk p = true ∧ Q (.str p.shown) H
def rStr (K : Frag) : List L2.V → L2.Hp → L2.VK → Prop := fun xs H Q => ∃ x p, xs = [x] ∧ TxtV K H x p ∧ showOk p = true ∧ Q (.str (strP p)) H
theorem fRepr_s {K : Frag} {W : L2.WX} : CalS K W (rRepr K) fRepr := fun σv m g H ds xs Q rl hd p => by
  unfold fRepr at p
  split at p
  · split at p
    · rename_i y hy
      obtain ⟨c, p⟩ := okIf_post p
      obtain ⟨v, ws, rfl, h3, h4⟩ := hd.consV
      obtain rfl := h4.nilV
      exact ⟨_, _, rfl, txtD_s rl h3 hy, c, p m H _ (Le.refl m) rl .str⟩
    · exact p.elim
  · exact p.elim
theorem fStr_s {K : Frag} {W : L2.WX} : CalS K W (rStr K) fStr := fun σv m g H ds xs Q rl hd p => by
  unfold fStr at p
  split at p
  · split at p
    · rename_i y hy
      obtain ⟨c, p⟩ := okIf_post p
      obtain ⟨v, ws, rfl, h3, h4⟩ := hd.consV
      obtain rfl := h4.nilV
      exact ⟨_, _, rfl, txtD_s rl h3 hy, c, p m H _ (Le.refl m) rl .str⟩
    · exact p.elim
  · exact p.elim
section
open L2
variable {X : Cx} {W : L2.WX}
theorem call_repr (gd : X.A.guards = some []) (hu : X.A.units + 50 < cLine) : CallR X (.builtin "repr") (rRepr X.K) := by
  intro pins s σ H xs us Q I r h
  obtain ⟨x, p, rfl, ht, ok, q⟩ := h
  obtain ⟨u, rfl, ru⟩ := vals1 r
  obtain ⟨as, hr, hsm⟩ := ht.reads I ru
  exact repr_run hr hsm ok gd hu (fun _ _ e => e) fun h' t tk k => ⟨.str _, H, I.kept (t' := tk) k, ⟨_, rfl⟩, q⟩
theorem call_str (gd : X.A.guards = some []) (hu : X.A.units + 50 < cLine) : CallR X (.type "str") (rStr X.K) := by
  intro pins s σ H xs us Q I r h
  obtain ⟨x, p, rfl, ht, ok, q⟩ := h
  obtain ⟨u, rfl, ru⟩ := vals1 r
  obtain ⟨as, hr, hsm⟩ := ht.reads I ru
  exact str_run hr hsm ok gd hu (fun _ _ e => e) fun h' t tk k => ⟨.str _, H, I.kept (t' := tk) k, ⟨_, rfl⟩, q⟩
end
end AW
/-! Bx4: try with any number of clauses, each with or without a name. -/
namespace AW
open PySem PySem.Spec PyProof.Rows L2
section
variable {X : Cx}
/-- the clauses hds end an exception of which w is known, or let it go on -/
def Nets (X : Cx) (D : Ends) (hds : List ExceptHandler) (w : L2.WX) : Prop :=
  ∀ (pins : List (Addr × Obj)) (a : Addr) (B : Heap) (sI st : Shared) (σ : L2.St) (H : L2.Hp) (cls : Value) (d : Option Addr), X.Ok → Inv X pins σ H sI →
    (∀ b o, sI.heap.get? b = some o → b ∉ frs X.stack → B.get? b = some o) → sI.heap.UpToSlots st.heap → HandSPX.FlyingZ B (X.env :: X.outer) a (Zc cls d) st.heap →
    H a = none → st.os = sI.os → AllBare st.gens → a ≠ X.env.locals → a ∉ X.fs → w cls d σ H →
    wpAny (model X.prog X.w) X.A (handleBy (.ref a) X.env hds) (SP X pins D) X.xe st
theorem nets_nil {W : L2.WX} {D : Ends} (hs : X.stack = X.env :: X.outer) (hf : X.env.frame = some X.env.locals) (tk : Takes X W) : Nets X D [] W := by
  intro pins a B sI st σ H cls d ok inv stays up fly none_a os bare nl nfs w
  obtain ⟨_, _, _, ob, flds, tb, _, _, at_a, _, data_a, fld1, _⟩ := id fly
  refine wpAny_handleBy_nil ?_
  unfold PySem.passOn
  refine wpAny_bind (wpAny_field at_a data_a fld1 ?_)
  rw [if_neg (show ¬ ((Value.ref tb == Value.none) = true) by simp)]
  have last : wpAny (model X.prog X.w) X.A (setFlight (.ref a) X.env.frame) (fun _ s4 => wpAny (model X.prog X.w) X.A (throw (.ref a) : Sem Flow) (SP X pins D) X.xe s4) X.xe st := by
    rw [hf]
    refine HandSPX.setFlight_upZ fly fun g4 held up2 => wpAny_throw (tk _ _ ⟨a, B, sI, pins, σ, H, cls, d, rfl, inv, stays, up.trans up2, .inr (.inr ?_), none_a, os, bare, w⟩)
    rw [hs]
    exact held
  first
    | exact wpAny_bind (wpAny_pure (wpAny_bind last))
    | exact wpAny_bind last
/-- what a clause wishes -/
def wClause (K : PySem.W.Frag) (c : Value) (yes no : L2.WX) : L2.WX := fun cls d σ H => ∃ b, PySem.W.exmOne K cls c = some b ∧ (b = true → yes cls d σ H) ∧ (b = false → no cls d σ H)
section
variable {x n : Str} {c : Value} {i : Nat} {suite : List Stmt} {s0 : Stmt} {np pos : Pos} {hds : List ExceptHandler} {D : Ends} {no : L2.WX} {ts : Addr → Value → Option Addr → TS}
/-- the class of a clause, asked; run: its suite -/
theorem net_ask {o : Option Str} {yes : L2.WX} (hc : Names X x c) (hs : X.stack = X.env :: X.outer) (hf : X.env.frame = some X.env.locals) (rest : Nets X D hds no)
    (run : ∀ (pins : List (Addr × Obj)) (a : Addr) (oe : Obj) (σ : L2.St) (H : L2.Hp) (cls : Value) (d : Option Addr) (s4 : Shared), X.Ok → Zc cls d oe → (∃ vs, oe.data = .fields vs) → H a = none → yes cls d σ H →
      Inv (X.suite a ((a, oe) :: (X.pn ++ pins))) [] σ H s4 →
      (match o with
        | none => wpAny (model X.prog X.w) (X.A.mark (some (.ref a))) (execs (s0 :: suite) X.env) (fun f s5 => SP X pins D f s5) (fun _ _ => False) s4
        | some n => wpAny (model X.prog X.w) (X.A.mark (some (.ref a))) (storeName X.env n (.ref a)) (fun _ s5 => wpAny (model X.prog X.w) (X.A.mark (some (.ref a))) (execs (s0 :: suite) X.env)
            (fun f s6 => wpAny (model X.prog X.w) X.A (do bindName X.env n .none; unbindBehindTheSuite X.env n pos) (fun _ s7 => SP X pins D f s7) X.xe s6) (fun _ _ => False) s5) (fun _ _ => False) s4)) :
    Nets X D (.ExceptHandler (some (.Name x np)) o (s0 :: suite) pos :: hds) (wClause X.K c yes no) := by
  intro pins a B sI st σ H cls d ok inv stays up fly none_a os bare nl nfs ⟨b, known, wyes, wno⟩
  obtain ⟨ob, flds, at_a, zo, data_a⟩ := fly.there
  have here : Inv X pins σ H st := inv.landed stays fly.1 up os bare
  have sui : Inv (X.suite a ((a, ob) :: (X.pn ++ pins))) [] σ H st := here.suite at_a data_a none_a nl nfs
  have told : PySem.W.Looks (model X.prog X.w) st.heap (typeOf (.ref a)) cls := fun A Q E s k q => wpAny_typeOf_ref (k _ _ at_a) (by rw [zo.1]; exact q)
  have fits := PySem.W.exm_one (M := model X.prog X.w) here.kIn told known
  have ask : ∀ {Q E : Value → Shared → Prop}, Q c st → wpAny (model X.prog X.w) (X.A.mark (some (.ref a))) (eval (.Name x np) X.env) Q E st := fun {Q E} q => by
    obtain ⟨g1, g2, g3 | ⟨g3, g4, g5⟩⟩ := hc
    · exact ld_glob (X := X.suite a ((a, ob) :: (X.pn ++ pins))) sui g1 g3 q g2
    · exact ld_blt (X := X.suite a ((a, ob) :: (X.pn ++ pins))) sui g1 g3 g4 q g5 g2
  refine wpAny_handleBy_cons (codeAny_handlers_test (ask (fits.here ?_))) (by intro q; cases q)
  cases b with
  | false => exact rest pins a B sI st σ H cls d ok inv stays up fly none_a os bare nl nfs (wno rfl)
  | true =>
    have go : ∀ h4, HandSPX.FlyingZ B (X.env :: X.outer) a (Zc cls d) h4 → st.heap.UpToSlots h4 → ∃ oe, Zc cls d oe ∧ (∃ vs, oe.data = .fields vs) ∧ Inv (X.suite a ((a, oe) :: (X.pn ++ pins))) [] σ H { st with heap := h4 } := fun h4 fl4 up4 => by
      obtain ⟨oe, vs, e1, e2, e3⟩ := fl4.there
      exact ⟨oe, e2, ⟨vs, e3⟩, (inv.landed (s' := { st with heap := h4 }) stays fl4.1 (up.trans up4) os bare).suite e1 e3 none_a nl nfs⟩
    cases o with
    | none =>
      refine codeAny_handlers_suite (HandSPX.lands_againZ fly fun h4 fl4 up4 => ?_)
      obtain ⟨oe, z1, z2, S4⟩ := go h4 fl4 up4
      exact wpAny_mono (run pins a oe σ H cls d _ ok z1 z2 none_a (wyes rfl) S4) (fun f s5 q => q) fun _ _ z => z.elim
    | some n =>
      refine codeAny_handlers_suite_as (HandSPX.lands_againZ fly fun h4 fl4 up4 => ?_)
      obtain ⟨oe, z1, z2, S4⟩ := go h4 fl4 up4
      have := run pins a oe σ H cls d _ ok z1 z2 none_a (wyes rfl) S4
      exact wpAny_mono this (fun _ s5 h5 => wpAny_mono h5 (fun f s6 q => q) fun _ _ z => z.elim) fun _ _ z => z.elim
/-- except x: suite -/
theorem net_only (hc : Names X x c) (hs : X.stack = X.env :: X.outer) (hf : X.env.frame = some X.env.locals) (rest : Nets X D hds no)
    (hsu : ∀ (a : Addr) (oe : Obj) (cls : Value) (d : Option Addr) (pn : List (Addr × Obj)), Zc cls d oe → (∃ vs, oe.data = .fields vs) → PSs (X.suite a ((a, oe) :: pn)) (s0 :: suite) (ts a cls d)) :
    Nets X D (.ExceptHandler (some (.Name x np)) none (s0 :: suite) pos :: hds) (wClause X.K c (fun cls d σ H => ∀ a, H a = none → ts a cls d D σ H) no) := by
  refine net_ask hc hs hf rest fun pins a oe σ H cls d s4 ok z1 z2 na w S4 => ?_
  refine wpAny_mono ((hsu a oe cls d (X.pn ++ pins) z1 z2).run [] s4 σ H D S4 (w a na)) (fun f s5 q => ?_) fun _ _ z => z.elim
  show SP X pins D f s5
  cases f with
  | ret u =>
    obtain ⟨v, σ1, H1, I1, r1, q1⟩ := q
    exact ⟨v, σ1, H1, I1.unsuite ok, r1, q1⟩
  | next =>
    obtain ⟨σ1, H1, I1, q1⟩ := q
    exact ⟨σ1, H1, I1.unsuite ok, q1⟩
  | brk =>
    obtain ⟨σ1, H1, I1, q1⟩ := q
    exact ⟨σ1, H1, I1.unsuite ok, q1⟩
  | cont =>
    obtain ⟨σ1, H1, I1, q1⟩ := q
    exact ⟨σ1, H1, I1.unsuite ok, q1⟩
/-- except x as n: suite; i is n's slot -/
theorem net_as (hc : Names X x c) (hs : X.stack = X.env :: X.outer) (hf : X.env.frame = some X.env.locals) (hN : X.N.Nodup) (hi : X.N[i]? = some n) (hln : X.env.kindOf n = some .local) (rest : Nets X D hds no)
    (hsu : ∀ (a : Addr) (oe : Obj) (cls : Value) (d : Option Addr) (pn : List (Addr × Obj)), Zc cls d oe → (∃ vs, oe.data = .fields vs) → PSs (X.suite a ((a, oe) :: pn)) (s0 :: suite) (ts a cls d)) :
    Nets X D (.ExceptHandler (some (.Name x np)) (some n) (s0 :: suite) pos :: hds) (wClause X.K c (fun cls d σ H => ∀ a, H a = none →
      ts a cls d { nx := fun σ' H' => D.nx (σ'.set i none) H', rt := D.rt, bk := fun σ' H' => D.bk (σ'.set i none) H', ct := fun σ' H' => D.ct (σ'.set i none) H' } (σ.set i (some (.ref a))) H) no) := by
  refine net_ask hc hs hf rest fun pins a oe σ H cls d s4 ok z1 z2 na w S4 => ?_
  refine store_ok (X := X.suite a ((a, oe) :: (X.pn ++ pins))) (v := .ref a) S4 hN hi (.inl hln) rfl (fun s5 S5 => ?_) (.inr hln)
  refine wpAny_mono ((hsu a oe cls d (X.pn ++ pins) z1 z2).run [] s5 _ H _ S5 (w a na)) (fun f s6 q => ?_) fun _ _ z => z.elim
  have off : ∀ {σ6 : L2.St} {H6 : L2.Hp} {Q : Shared → Prop}, Inv (X.suite a ((a, oe) :: (X.pn ++ pins))) [] σ6 H6 s6 → (∀ s7, Inv X pins (σ6.set i none) H6 s7 → Q s7) →
      wpAny (model X.prog X.w) X.A (do bindName X.env n .none; unbindBehindTheSuite X.env n pos) (fun _ s7 => Q s7) X.xe s6 := fun S6 hq => gone_ok (S6.unsuite ok) hN hi hln hq
  cases f with
  | ret u =>
    obtain ⟨v, σ1, H1, I1, r1, q1⟩ := q
    exact off I1 fun s7 J => ⟨v, _, H1, J, r1, q1⟩
  | next =>
    obtain ⟨σ1, H1, I1, q1⟩ := q
    exact off I1 fun s7 J => ⟨_, H1, J, q1⟩
  | brk =>
    obtain ⟨σ1, H1, I1, q1⟩ := q
    exact off I1 fun s7 J => ⟨_, H1, J, q1⟩
  | cont =>
    obtain ⟨σ1, H1, I1, q1⟩ := q
    exact off I1 fun s7 J => ⟨_, H1, J, q1⟩
end
/-- try: body, and clauses -/
theorem ps_tryN {body : List Stmt} {c0 : ExceptHandler} {hds : List ExceptHandler} {tb : L2.WX → TS} {w : Ends → L2.WX} {pos : Pos} (hs : X.stack = X.env :: X.outer) (hf : X.env.frame = some X.env.locals)
    (hb : ∀ (W : L2.WX) (pn : List (Addr × Obj)) (xe : Value → Shared → Prop), Takes (X.tr pn xe) W → PassesOwn (model X.prog X.w) X.A X.env xe → PSs (X.tr pn xe) body (tb W))
    (nets : ∀ D, Nets X D (c0 :: hds) (w D)) : PS X (.Try body (c0 :: hds) [] [] pos) (fun D σ H => tb (w D) D σ H) := by
  refine ⟨fun pins s σ H D I h => ?_⟩
  have ok := I.ok
  have frames : X.A.frames = some (X.env :: X.outer) := by rw [ok.frames, hs]
  refine wpAny_Try_except ?_
  have body_run := (hb (w D) (X.pn ++ pins) (fun e s₁ => wpAny (model X.prog X.w) X.A (noteFrame e X.env) (fun _ s₂ => wpAny (model X.prog X.w) X.A (setFlight e none) (fun _ s₃ =>
    wpAny (model X.prog X.w) X.A (handleBy e X.env (c0 :: hds)) (SP X pins D) X.xe s₃) X.xe s₂) X.xe s₁) (fun u s1 caught => ?_) PassesOwn.looking).run [] s σ H D (I.toTry _) h
  · refine wpAny_mono body_run (fun f s1 q => ?_) fun e s1 q => q
    cases f with
    | ret u =>
      obtain ⟨v, σ1, H1, I1, r1, q1⟩ := q
      exact ⟨v, σ1, H1, I1.ofTry ok, r1, q1⟩
    | next =>
      obtain ⟨σ1, H1, I1, q1⟩ := q
      exact wpAny_execs_nil ⟨σ1, H1, I1.ofTry ok, q1⟩
    | brk =>
      obtain ⟨σ1, H1, I1, q1⟩ := q
      exact ⟨σ1, H1, I1.ofTry ok, q1⟩
    | cont =>
      obtain ⟨σ1, H1, I1, q1⟩ := q
      exact ⟨σ1, H1, I1.ofTry ok, q1⟩
  · obtain ⟨a, B, sI, pins2, σ1, H1, cls, d, rfl, inv, stays, up, sky, none_a, os, bare, wish⟩ := caught
    have inv1 : Inv X pins σ1 H1 sI := inv.ofTry ok
    have sky1 : Sky B (X.env :: X.outer) a (Zc cls d) X.env.locals s1.heap := by rw [← hs]; exact sky
    show wpAny (model X.prog X.w) X.A (noteFrame (.ref a) X.env) _ _ _
    refine Sky.land Zc.steady frames hf sky1 fun h3 fly up3 => ?_
    obtain ⟨ob, flds, at_a, _, data_a⟩ := fly.there
    have out : a ∉ frs (X.env :: X.outer) := fun hm => by
      obtain ⟨_, o2, e2, no⟩ := fly.2.2.1.mem hm
      rw [at_a] at e2
      cases e2
      exact no _ data_a
    refine nets D pins a B sI { s1 with heap := h3 } σ1 H1 cls d ok inv1 stays (up.trans up3) fly none_a os bare (fun z => out (List.mem_filterMap.mpr ⟨X.env, List.mem_cons_self, by rw [hf, z]⟩)) (fun hm => ?_) wish
    obtain ⟨e, he, q⟩ := List.mem_filterMap.mp hm
    exact out (List.mem_filterMap.mpr ⟨e, List.mem_cons_of_mem _ he, q⟩)
end
end AW
/-! Bx5: the mirror of try: the clauses' suites are one return each. -/
namespace AW
open PySem PySem.Spec PyProof.Rows L2
/-- what a clause's suite returns: a text; n.f; repr(n.f); a text + repr(n.f); a text + str(n.f) -/
inductive SuK where
  | cst (s : Str)
  | fld (f : Str)
  | rep (f : Str)
  | pre (p f : Str)
  | prs (p f : Str)
def suT (p : Str) (t : PyData → Str) (g : G) (d : D) : Option D := match txtD g d with
  | some q => match showOk q && decide (p.length + (t q).length ≤ 100000) with
    | true => some (.str (p ++ t q))
    | false => none
  | none => none
def suR (g : G) (d : D) : Option D := match txtD g d with
  | some q => match showOk q with
    | true => some (.str q.shown)
    | false => none
  | none => none
def suF (e : Exn) (f : Str) (k : D → Option D) : Option D := match e.fs.lookup f with
  | some d => k d
  | none => none
def SuK.val (e : Exn) (g : G) : SuK → Option D
  | .cst s => some (.str s)
  | .fld f => suF e f some
  | .rep f => suF e f (suR g)
  | .pre p f => suF e f (suT p PyData.shown g)
  | .prs p f => suF e f (suT p strP g)
/-- a clause: which classes it fits; the slot and the class of what it names; what it returns -/
structure Cla where
  tab : List (Str × Bool)
  nm : Option (Nat × Str)
  k : SuK
def Cla.fit (c : Cla) (e : Exn) (σ : Sg) : Bool := match c.nm with
  | none => true
  | some (i, x) => decide (e.cls = x) && decide (i < σ.length)
def sNets : List Cla → Exn → Sx
  | [], e => fun σ g => .ex σ e g
  | c :: r, e => fun σ g => match c.tab.lookup e.cls with
    | some true => match c.fit e σ with
      | true => match c.k.val e g with
        | some d => .rt d g
        | none => .no
      | false => .no
    | some false => sNets r e σ g
    | none => .no
def sTry (b : Sx) (cs : List Cla) : Sx := fun σ g => match b σ g with
  | .ex σ1 e g1 => sNets cs e σ1 g1
  | r => r
theorem lookup_mem {α : Type} {x : Str} {b : α} : ∀ {l : List (Str × α)}, l.lookup x = some b → (x, b) ∈ l
  | [], h => by cases h
  | (y, c) :: l, h => by
    rw [List.lookup_cons] at h
    by_cases e : x == y
    · rw [e] at h
      cases h
      rw [eq_of_beq e]
      exact List.mem_cons_self
    · have e' : (x == y) = false := by simpa using e
      rw [e'] at h
      exact List.mem_cons_of_mem _ (lookup_mem h)
theorem lookup_den {K : PySem.W.Frag} {m : Md} {f : Str} {d : D} : ∀ {fs : List (Str × D)} {fv : List (Str × V)}, fv.map (·.1) = fs.map (·.1) → Dens K m (fs.map (·.2)) (fv.map (·.2)) → fs.lookup f = some d → ∃ v, fv.lookup f = some v ∧ Den K m d v
  | [], _, _, _, h => by cases h
  | (y, e) :: fs, [], hn, _, _ => by cases hn
  | (y, e) :: fs, (z, v) :: fv, hn, hd, h => by
    simp only [List.map_cons, List.cons.injEq] at hn
    obtain ⟨rfl, hn⟩ := hn
    obtain ⟨v', ws, e1, h1, h2⟩ := hd.consV
    cases e1
    rw [List.lookup_cons] at h ⊢
    by_cases q : f == z
    · rw [q] at h ⊢
      cases h
      exact ⟨v, rfl, h1⟩
    · have q' : (f == z) = false := by simpa using q
      rw [q'] at h ⊢
      exact lookup_den hn h2 h
section
variable {X : Cx} {W : L2.WX}
/-- n.f in a suite -/
theorem su_fld {a C : Addr} {oe : Obj} {cls : Value} {d : Option Addr} {pn : List (Addr × Obj)} {i : Nat} {n f : Str} {q pos : Pos} (T : XfC X.K C) (hno : PySem.W.findIn X.K (.ref C) f = some none) (hi : X.N[i]? = some n) (hv : Vis X.env.scope n)
    (hz : Zc cls d oe) (hf : ∃ vs, oe.data = .fields vs) (hb : attributeBase (.Name n q) f X.env (eval (.Name n q) X.env) = eval (.Name n q) X.env := by rfl) (hd : (n == ("__debug__" : Str)) = false := by decide) (hcd : (n == ("__classdict__" : Str)) = false := by decide) :
    PE (X.suite a ((a, oe) :: pn)) (.Attribute (.Name n q) f pos) (tXf a cls d C f (tVar i)) := pe_xf T hno hz hf (pe_var (X := X.suite a ((a, oe) :: pn)) hi hv hd hcd) hb
/-- the expression that a suite returns -/
inductive SuE (X : Cx) (n : Str) : SuK → Expr → Prop
  | fld {f : Str} {q pos : Pos} (hb : attributeBase (.Name n q) f X.env (eval (.Name n q) X.env) = eval (.Name n q) X.env) : SuE X n (.fld f) (.Attribute (.Name n q) f pos)
  | rep {f : Str} {q pos p1 p2 : Pos} (hb : attributeBase (.Name n q) f X.env (eval (.Name n q) X.env) = eval (.Name n q) X.env) (hg : Gl X "repr") (hm : X.mg "repr" = none)
      (he : starEach [.Attribute (.Name n q) f pos] X.env = (false, eval (.Attribute (.Name n q) f pos) X.env) :: starEach [] X.env) : SuE X n (.rep f) (.Call (.Name "repr" p1) [.Attribute (.Name n q) f pos] [] p2)
  | pre {t f : Str} {jj : Nat} {q pos p1 p2 p3 p4 : Pos} (hb : attributeBase (.Name n q) f X.env (eval (.Name n q) X.env) = eval (.Name n q) X.env) (hg : Gl X "repr") (hm : X.mg "repr" = none)
      (he : starEach [.Attribute (.Name n q) f pos] X.env = (false, eval (.Attribute (.Name n q) f pos) X.env) :: starEach [] X.env) : SuE X n (.pre t f) (.BinOp (.Constant (.str t) jj p3) .Add (.Call (.Name "repr" p1) [.Attribute (.Name n q) f pos] [] p2) p4)
  | prs {t f : Str} {jj : Nat} {q pos p1 p2 p3 p4 : Pos} (hb : attributeBase (.Name n q) f X.env (eval (.Name n q) X.env) = eval (.Name n q) X.env) (hg : Gl X "str") (hm : X.mg "str" = none)
      (he : starEach [.Attribute (.Name n q) f pos] X.env = (false, eval (.Attribute (.Name n q) f pos) X.env) :: starEach [] X.env) : SuE X n (.prs t f) (.BinOp (.Constant (.str t) jj p3) .Add (.Call (.Name "str" p1) [.Attribute (.Name n q) f pos] [] p2) p4)
/-- what it is due to be -/
def SuV (K : PySem.W.Frag) (H : L2.Hp) (v0 : V) : SuK → V → Prop
  | .cst _, _ => False
  | .fld _, u => u = v0
  | .rep _, u => ∃ p, TxtV K H v0 p ∧ showOk p = true ∧ u = .str p.shown
  | .pre t _, u => ∃ p, TxtV K H v0 p ∧ showOk p = true ∧ t.length + p.shown.length ≤ sizeLine ∧ u = .str (t ++ p.shown)
  | .prs t _, u => ∃ p, TxtV K H v0 p ∧ showOk p = true ∧ t.length + (strP p).length ≤ sizeLine ∧ u = .str (t ++ strP p)
def SuK.f : SuK → Str
  | .cst _ => ""
  | .fld f => f
  | .rep f => f
  | .pre _ f => f
  | .prs _ f => f
def tSu (K : PySem.W.Frag) (a : Addr) (cls : Value) (d : Option Addr) (C : Addr) (k : SuK) (i : Nat) : TE := fun σ H Q => σ[i]? = some (some (.ref a)) ∧ cls = .ref C ∧ ∃ (dd : Addr) (fs : List (Str × V)) (v0 u : V), d = some dd ∧ H dd = some (.xd fs) ∧ fs.lookup k.f = some v0 ∧ SuV K H v0 k u ∧ Q u H
theorem su_e {a C : Addr} {oe : Obj} {cls : Value} {d : Option Addr} {pn : List (Addr × Obj)} {i : Nat} {n : Str} {k : SuK} {e : Expr} (h : SuE X n k e) (T : XfC X.K C) (hno : PySem.W.findIn X.K (.ref C) k.f = some none) (hi : X.N[i]? = some n) (hv : Vis X.env.scope n)
    (gd : X.A.guards = some []) (hu : X.A.units + 50 < cLine) (hz : Zc cls d oe) (hf : ∃ vs, oe.data = .fields vs) (hd : (n == ("__debug__" : Str)) = false) (hcd : (n == ("__classdict__" : Str)) = false) :
    PE (X.suite a ((a, oe) :: pn)) e (tSu X.K a cls d C k i) := by
  cases h with
  | fld hb => exact PE.imp (su_fld T hno hi hv hz hf hb hd hcd) fun σ H Q ⟨h1, h2, dd, fs, v0, u, h3, h4, h5, h6, h7⟩ => ⟨_, h1, rfl, h2, dd, fs, v0, h3, h4, h5, by rw [← h6]; exact h7⟩
  | rep hb hg hm he =>
    refine PE.imp (pe_callB (X := X.suite a ((a, oe) :: pn)) (call_repr gd hu) hg hm (by kernel_rfl) (pa_cons (su_fld T hno hi hv hz hf hb hd hcd) pa_nil he) (he := he)) fun σ H Q ⟨h1, h2, dd, fs, v0, u, h3, h4, h5, ⟨p, h6, h7, h8⟩, h9⟩ => ?_
    exact ⟨_, h1, rfl, h2, dd, fs, v0, h3, h4, h5, _, p, rfl, h6, h7, by rw [← h8]; exact h9⟩
  | pre hb hg hm he =>
    refine PE.imp (pe_op (X := X.suite a ((a, oe) :: pn)) op_add_str pe_str (pe_callB (X := X.suite a ((a, oe) :: pn)) (call_repr gd hu) hg hm (by kernel_rfl) (pa_cons (su_fld T hno hi hv hz hf hb hd hcd) pa_nil he) (he := he))) fun σ H Q ⟨h1, h2, dd, fs, v0, u, h3, h4, h5, ⟨p, h6, h7, h8, h8'⟩, h9⟩ => ?_
    exact ⟨_, h1, rfl, h2, dd, fs, v0, h3, h4, h5, _, p, rfl, h6, h7, _, _, rfl, rfl, h8, by rw [← h8']; exact h9⟩
  | prs hb hg hm he =>
    refine PE.imp (pe_op (X := X.suite a ((a, oe) :: pn)) op_add_str pe_str (pe_callTy (X := X.suite a ((a, oe) :: pn)) (call_str gd hu) hg hm (by kernel_rfl) (pa_cons (su_fld T hno hi hv hz hf hb hd hcd) pa_nil he) (he := he))) fun σ H Q ⟨h1, h2, dd, fs, v0, u, h3, h4, h5, ⟨p, h6, h7, h8, h8'⟩, h9⟩ => ?_
    exact ⟨_, h1, rfl, h2, dd, fs, v0, h3, h4, h5, _, p, rfl, h6, h7, _, _, rfl, rfl, h8, by rw [← h8']; exact h9⟩
inductive ClsOk (X : Cx) : List ExceptHandler → List Cla → Prop
  | nil : ClsOk X [] []
  | only {x s : Str} {c : Value} {tab : List (Str × Bool)} {jj : Nat} {np p1 p2 pos : Pos} {hds : List ExceptHandler} {l : List Cla} (hc : Names X x c) (ht : ∀ p ∈ tab, PySem.W.exmOne X.K (.ref (ga X.K p.1)) c = some p.2) (r : ClsOk X hds l) :
      ClsOk X (.ExceptHandler (some (.Name x np)) none [.Return (some (.Constant (.str s) jj p1)) p2] pos :: hds) (⟨tab, none, .cst s⟩ :: l)
  | named {x n : Str} {k : SuK} {e : Expr} {c : Value} {tab : List (Str × Bool)} {np p2 pos : Pos} {i : Nat} {hds : List ExceptHandler} {l : List Cla} (hc : Names X x c) (ht : ∀ p ∈ tab, PySem.W.exmOne X.K (.ref (ga X.K p.1)) c = some p.2)
      (hi : X.N[i]? = some n) (hln : X.env.kindOf n = some .local) (hv : Vis X.env.scope n) (se : SuE X n k e) (T : XfC X.K (ga X.K x)) (hno : PySem.W.findIn X.K (.ref (ga X.K x)) k.f = some none)
      (hd : (n == ("__debug__" : Str)) = false) (hcd : (n == ("__classdict__" : Str)) = false) (r : ClsOk X hds l) :
      ClsOk X (.ExceptHandler (some (.Name x np)) (some n) [.Return (some e) p2] pos :: hds) (⟨tab, some (i, x), k⟩ :: l)
theorem suT_s {K : PySem.W.Frag} {m : Md} {g : G} {H : L2.Hp} {t : Str} {sh : PyData → Str} {d0 d : D} {v0 : V} (r : Rel K m g H) (h : Den K m d0 v0) (e : suT t sh g d0 = some d) : ∃ p, TxtV K H v0 p ∧ showOk p = true ∧ t.length + (sh p).length ≤ sizeLine ∧ d = .str (t ++ sh p) := by
  unfold suT at e
  split at e
  · rename_i p hp
    split at e
    · rename_i hok
      cases e
      simp only [Bool.and_eq_true, decide_eq_true_eq] at hok
      exact ⟨p, txtD_s r h hp, hok.1, by rw [sizeLine_eq]; omega, rfl⟩
    · cases e
  · cases e
theorem suR_s {K : PySem.W.Frag} {m : Md} {g : G} {H : L2.Hp} {d0 d : D} {v0 : V} (r : Rel K m g H) (h : Den K m d0 v0) (e : suR g d0 = some d) : ∃ p, TxtV K H v0 p ∧ showOk p = true ∧ d = .str p.shown := by
  unfold suR at e
  split at e
  · rename_i p hp
    split at e
    · rename_i hok
      cases e
      exact ⟨p, txtD_s r h hp, hok, rfl⟩
    · cases e
  · cases e
theorem suF_s {e : Exn} {f : Str} {k : D → Option D} {d : D} (h : suF e f k = some d) : ∃ d0, e.fs.lookup f = some d0 ∧ k d0 = some d := by
  unfold suF at h
  split at h
  · rename_i d0 h0
    exact ⟨d0, h0, h⟩
  · cases h
/-- what the clause returns, by values -/
theorem suV_s {K : PySem.W.Frag} {m : Md} {g : G} {H : L2.Hp} {e : Exn} {k : SuK} {d : D} {fv : List (Str × V)} (r : Rel K m g H) (hn : fv.map (·.1) = e.fs.map (·.1)) (hd : Dens K m (e.fs.map (·.2)) (fv.map (·.2))) (h : k.val e g = some d) (nc : ∀ s, k ≠ .cst s) :
    e.fs ≠ [] ∧ ∃ v0 u, fv.lookup k.f = some v0 ∧ SuV K H v0 k u ∧ Den K m d u := by
  have ne : ∀ {f : Str} {d0 : D}, e.fs.lookup f = some d0 → e.fs ≠ [] := fun h z => by
    rw [z] at h
    cases h
  cases k with
  | cst s => exact (nc s rfl).elim
  | fld f =>
    obtain ⟨d0, h1, h2⟩ := suF_s h
    cases h2
    obtain ⟨v, h3, h4⟩ := lookup_den hn hd h1
    exact ⟨ne h1, v, v, h3, rfl, h4⟩
  | rep f =>
    obtain ⟨d0, h1, h2⟩ := suF_s h
    obtain ⟨v, h3, h4⟩ := lookup_den hn hd h1
    obtain ⟨p, h5, h6, rfl⟩ := suR_s r h4 h2
    exact ⟨ne h1, v, _, h3, ⟨p, h5, h6, rfl⟩, .str⟩
  | pre t f =>
    obtain ⟨d0, h1, h2⟩ := suF_s h
    obtain ⟨v, h3, h4⟩ := lookup_den hn hd h1
    obtain ⟨p, h5, h6, h7, rfl⟩ := suT_s r h4 h2
    exact ⟨ne h1, v, _, h3, ⟨p, h5, h6, h7, rfl⟩, .str⟩
  | prs t f =>
    obtain ⟨d0, h1, h2⟩ := suF_s h
    obtain ⟨v, h3, h4⟩ := lookup_den hn hd h1
    obtain ⟨p, h5, h6, h7, rfl⟩ := suT_s r h4 h2
    exact ⟨ne h1, v, _, h3, ⟨p, h5, h6, h7, rfl⟩, .str⟩
theorem nets_of (hs : X.stack = X.env :: X.outer) (hf : X.env.frame = some X.env.locals) (hN : X.N.Nodup) (tk : Takes X W) (gd : X.A.guards = some []) (hu : X.A.units + 50 < cLine) : ∀ {hds : List ExceptHandler} {cs : List Cla}, ClsOk X hds cs →
    ∃ w : Ends → L2.WX, (∀ D, Nets X D hds (w D)) ∧ ∀ (D : Ends) (e : Exn) (σ : Sg) (g : G) (m : Md) (σv : L2.St) (H : L2.Hp) (cv : Value) (dd : Option Addr), Rel X.K m g H → SlotsL X.K m σ σv → ExnOk X.K m e cv dd → PostS X.K W (sNets cs e σ g) m D → w D cv dd σv H := by
  intro hds cs h
  induction h with
  | nil => exact ⟨fun _ => W, fun D => nets_nil hs hf tk, fun D e σ g m σv H cv dd r sl x p => p m H σv cv dd (Le.refl m) r sl x⟩
  | @only x s c tab jj np p1 p2 pos hds l hc ht _ ih =>
    obtain ⟨w, w1, w2⟩ := ih
    refine ⟨fun D => _, fun D => net_only (ts := fun _ _ _ => tRet (tC (.str s))) hc hs hf (w1 D) fun a oe cls d pn _ _ => pss_one (ps_ret pe_str), fun D e σ g m σv H cv dd r sl x p => ?_⟩
    unfold sNets at p
    split at p
    · rename_i hl
      have hx := ht _ (lookup_mem hl)
      refine ⟨true, by rw [x.1]; exact hx, fun _ a _ => ?_, fun z => by cases z⟩
      exact p m H _ (Le.refl m) r .str
    · rename_i hl
      have hx := ht _ (lookup_mem hl)
      exact ⟨false, by rw [x.1]; exact hx, (fun z => by cases z), fun _ => w2 D e σ g m σv H cv dd r sl x p⟩
    · exact p.elim
  | @named x n k e0 c tab np p2 pos i hds l hc ht hi hln hv se T hno hd hcd _ ih =>
    obtain ⟨w, w1, w2⟩ := ih
    refine ⟨fun D => _, fun D => net_as (ts := fun a cls d => tRet (tSu X.K a cls d (ga X.K x) k i)) hc hs hf hN hi hln (w1 D) fun a oe cls d pn z1 z2 => pss_one (ps_ret (su_e se T hno hi hv gd hu z1 z2 hd hcd)), fun D e σ g m σv H cv dd r sl x p => ?_⟩
    unfold sNets at p
    split at p
    · rename_i hl
      have hx := ht _ (lookup_mem hl)
      refine ⟨true, by rw [x.1]; exact hx, fun _ a na => ?_, fun z => by cases z⟩
      split at p
      · rename_i hfit
        split at p
        · rename_i d hval
          unfold Cla.fit at hfit
          simp only [Bool.and_eq_true, decide_eq_true_eq] at hfit
          obtain ⟨hcls, hlen⟩ := hfit
          have nc : ∀ s, k ≠ .cst s := fun s z => by
            subst z
            cases se
          obtain ⟨hcv, hdd⟩ := x
          have empty : e.fs = [] → False := fun z => by
            cases k with
            | cst s => exact nc s rfl
            | fld f => obtain ⟨d0, q, _⟩ := suF_s hval; rw [z] at q; cases q
            | rep f => obtain ⟨d0, q, _⟩ := suF_s hval; rw [z] at q; cases q
            | pre t f => obtain ⟨d0, q, _⟩ := suF_s hval; rw [z] at q; cases q
            | prs t f => obtain ⟨d0, q, _⟩ := suF_s hval; rw [z] at q; cases q
          rcases hdd with ⟨z, _⟩ | ⟨_, d2, fv, rfl, hF, hnm, hden⟩
          · exact (empty z).elim
          · obtain ⟨_, v0, u, q1, q2, q3⟩ := suV_s r hnm hden hval nc
            refine ⟨?_, by rw [hcv, hcls], d2, fv, v0, u, rfl, r.ex _ _ hF, q1, q2, p m H u (Le.refl m) r q3⟩
            rw [List.getElem?_set_self (Nat.lt_of_lt_of_le hlen sl.2)]
        · exact p.elim
      · exact p.elim
    · rename_i hl
      have hx := ht _ (lookup_mem hl)
      exact ⟨false, by rw [x.1]; exact hx, (fun z => by cases z), fun _ => w2 D e σ g m σv H cv dd r sl x p⟩
    · exact p.elim
/-- try: body, clauses -/
theorem s_try {body : List Stmt} {c0 : ExceptHandler} {hds : List ExceptHandler} {b : Sx} {cs : List Cla} {pos : Pos} (hs : X.stack = X.env :: X.outer) (hf : X.env.frame = some X.env.locals) (hN : X.N.Nodup) (tk : Takes X W) (gd : X.A.guards = some []) (hu : X.A.units + 50 < cLine)
    (hb : ∀ (W' : L2.WX) (pn : List (Addr × Obj)) (xe : Value → Shared → Prop), Takes (X.tr pn xe) W' → PassesOwn (model X.prog X.w) X.A X.env xe → PSs (X.tr pn xe) body (tS X.K W' b))
    (cl : ClsOk X (c0 :: hds) cs) : PS X (.Try body (c0 :: hds) [] [] pos) (tS X.K W (sTry b cs)) := by
  obtain ⟨w, w1, w2⟩ := nets_of (W := W) hs hf hN tk gd hu cl
  refine PS.imp (ps_tryN (tb := fun W' => tS X.K W' b) hs hf hb w1) fun D σv H h => ?_
  obtain ⟨m, σ, g, r, sl, p⟩ := h
  refine ⟨m, σ, g, r, sl, ?_⟩
  unfold sTry at p
  generalize b σ g = res at p
  cases res with
  | ex σ1 e g1 => exact fun m' H' σv' cv dd l r' sl' x => w2 D e σ1 g1 m' σv' H' cv dd r' sl' x (PostS.mono l p)
  | nx σ1 g1 => exact p
  | rt d g1 => exact p
  | bk σ1 g1 => exact p
  | ct σ1 g1 => exact p
  | no => exact p
end
end AW
/-! Bx6: told(lambda: body), told a def that tries the call and tells how it ended. -/
namespace AW
open PySem PySem.Spec PyProof.Rows L2 LamX
/-- the code object at c' was known, or it is new and told by the table at P -/
def Grown (H : L2.Hp) (P : Addr) (ps : Array Value) (q : Str) (c' : Addr) (H1 : L2.Hp) : Prop := (H1 = H ∧ H c' = some (CodeO c' q)) ∨ (H c' = none ∧ P ≠ c' ∧ ∃ more : Array Value, TriplesOk (ps ++ more).toList ∧
  (∀ (pos : Pos) (cv : Value), codeAmong pos (ps ++ more).toList = some cv → codeAmong pos ps.toList = some cv ∨ cv = .ref c') ∧ H1 = upd (upd H P (.tbl (ps ++ more))) c' (CodeO c' q))
theorem Grown.code {H : L2.Hp} {P : Addr} {ps : Array Value} {q : Str} {c' : Addr} {H1 : L2.Hp} (g : Grown H P ps q c' H1) : H1 c' = some (CodeO c' q) := by
  rcases g with ⟨rfl, h⟩ | ⟨_, _, _, _, _, rfl⟩
  · exact h
  · exact upd_same
section
variable {X : Cx} {pins : List (Addr × Obj)} {σ : L2.St} {H HZ : L2.Hp} {s s1 : Shared}
/-- a lambda is made -/
theorem lam_make3 {c P : Addr} {params : Arguments} {body : Expr} {scope : Scope} {pos : Pos} {E Q : Value → Shared → Prop} (I : Inv X pins σ H s) (TB : TabB X.base X.mg c P) (hcode : X.env.code = .ref c)
    {ps : Array Value} (at_P : H P = some (.tbl ps)) (triples : TriplesOk ps.toList) (among : ∀ (pos : Pos) (cv : Value), codeAmong pos ps.toList = some cv → ∃ c, cv = .ref c ∧ H c = some (CodeO c (X.env.qual ++ "<lambda>"))) (hdef : defaultsOf params X.env = ([], [])) (hfree : ∀ y ∈ scope.names, y.2 = .free → ∃ c, X.env.cells.lookup y.1 = some c)
    (h : ∀ (f c' : Addr) (pm ctv : Value) (H1 : L2.Hp) (s' : Shared), Inv X pins σ H1 s' → Grown H P ps (X.env.qual ++ "<lambda>") c' H1 →
      s'.heap.get? f = some (PySem.W.kla_obj "<lambda>" (X.env.qual ++ "<lambda>") params body scope (cloFrom X.env.cells scope.names []) pm c' ctv) → H1 f = none → f ∉ frs X.stack → Q (.ref f) s') :
    wpAny (model X.prog X.w) X.A (eval (.Lambda params body scope pos) X.env) Q E s := by
  have blt_P : s.heap.BuiltinsAt X.mg P := TB.bm.keeps I.bk
  have obj_P : s.heap.get? P = some { cls := .none, data := .fields ps } := I.hok P _ at_P
  have outside : ∀ f, s.heap.objs.size ≤ f → f ∉ frs X.stack := fun f le z => by
    rcases List.mem_cons.mp (I.stkSub _ z) with e | e
    · have below := I.lt
      rw [← e] at below
      exact absurd (Nat.lt_of_lt_of_le below le) (Nat.lt_irrefl _)
    · exact I.nofs le e
  refine PySem.W.kla_eval hdef ?_
  cases found : codeAmong pos ps.toList with
  | some cv =>
    obtain ⟨c', rfl, known⟩ := among pos cv found
    refine PySem.W.kla_makeFunctionHit (mg := X.mg) (c := c) (P := P) (ps := ps) (closure_ok hfree) I.ok.glob (I.mod.glob.keeps I.bk) hcode (TB.code.keeps I.bk) obj_P triples found blt_P fun ctv g tk keeps size => ?_
    have J : Inv X pins σ H { s with heap := g.push (PySem.W.kla_obj "<lambda>" (X.env.qual ++ "<lambda>") params body scope (cloFrom X.env.cells scope.names []) ((X.mg "__name__").getD .none) c' ctv), toks := tk } :=
      I.kept fun b o e => Heap.get?_push_of_some _ (keeps b o e)
    exact h _ c' _ ctv H _ J (.inl ⟨rfl, known⟩) (Heap.get?_push_size _ rfl) (I.hok.fresh size) (outside _ size)
  | none =>
    refine PySem.W.kla_makeFunction (mg := X.mg) (c := c) (P := P) (ps := ps) (closure_ok hfree) I.ok.glob (I.mod.glob.keeps I.bk) hcode (TB.code.keeps I.bk) obj_P triples found TB.gP blt_P fun c' ctv g tk but ge lt record wide => ?_
    obtain ⟨c2, oc, vs, t, e2, code_at, code_data, code_name⟩ := record
    cases e2
    have size : s.heap.objs.size ≤ g.objs.size := Nat.le_of_lt (Nat.lt_of_le_of_lt ge lt)
    have new_c : H c' = none := I.hok.fresh ge
    have c_P : P ≠ c' := ne_of_none at_P new_c
    have J := inv_table (t' := tk) (more := #[rawInt pos.line, rawInt pos.col, .ref c']) (h' := g.push (PySem.W.kla_obj "<lambda>" (X.env.qual ++ "<lambda>") params body scope (cloFrom X.env.cells scope.names []) ((X.mg "__name__").getD .none) c' ctv)) I at_P
      (fun b o hb e => Heap.get?_push_of_some _ (but b o hb e)) (Heap.get?_push_of_some _ wide) ge ⟨oc, vs, t, Heap.get?_push_of_some _ code_at, code_data, code_name⟩
    have longer : (ps ++ #[rawInt pos.line, rawInt pos.col, .ref c']).toList = ps.toList ++ [rawInt pos.line, rawInt pos.col, .ref c'] := by simp
    refine h g.objs.size c' ((X.mg "__name__").getD .none) ctv _ _ J (.inr ⟨new_c, c_P, _, by rw [longer]; exact PySem.TriplesOk_snoc _ _ _ _ triples, fun p2 cv hcv => ?_, rfl⟩) (Heap.get?_push_size _ rfl) ?_ (outside _ size)
    · rw [longer] at hcv
      exact among_app _ triples hcv
    · rw [upd_ne (Nat.ne_of_gt lt), upd_ne (Nat.ne_of_gt (Nat.lt_of_lt_of_le (Heap.lt_size obj_P) size))]
      exact I.hok.fresh size
/-- a(), where a is what told got; the lambda's body is read in the maker's slots -/
theorem act3 {Ng : List Str} {qg : Str} {sg : Scope} {g f c' : Addr} {cdg pm ctv : Value} {params : Arguments} {body : Expr} {scope : Scope} {k i : Nat} {a : Str} {pn : List (Addr × Obj)} {xe : Value → Shared → Prop} {W : L2.WX} {E : L2.XK} {tb : TE} {p1 p2 : Pos}
    (I : Inv X pins σ H s) (L : LamS X.env.scope scope) (lam_at : s.heap.get? f = some (PySem.W.kla_obj "<lambda>" (X.env.qual ++ "<lambda>") params body scope (cloFrom X.env.cells scope.names []) pm c' ctv)) (free_f : H f = none) (out_f : f ∉ frs X.stack)
    (hbind : bindArgs (PySem.W.kla_fn "<lambda>" (X.env.qual ++ "<lambda>") params body scope (cloFrom X.env.cells scope.names []) pm (.ref c') ctv) ⟨[], []⟩ = pure [])
    (tk : Takes ((cxOf C8.CX0 X.prog X.w X.K X.mg X.base Ng qg sg g cdg X.A X.stack s H C8.E0).tr pn xe) W) (hW : ∀ cls d σ' H', σ'.length = Ng.length → E cls d H' → W cls d σ' H') (hr : Room (k + 1) (X.A.deeper (envOfC qg sg s.heap.objs.size g cdg)))
    (hbody : ∀ (outer : List Env) (s : Shared) (H : L2.Hp) (L0 : Addr), Room k ((X.A.deeper (envOfC qg sg L0 g cdg)).deeper (lamEnv X scope s.heap.objs.size f c')) → PE (lamCx X (X.A.deeper (envOfC qg sg L0 g cdg)) outer s H E scope f c') body tb)
    (hN : Ng[i]? = some a) (hv : Vis sg a) (hd : (a == ("__debug__" : Str)) = false := by decide) (hcd : (a == ("__classdict__" : Str)) = false := by decide) :
    PE ((cxOf C8.CX0 X.prog X.w X.K X.mg X.base Ng qg sg g cdg X.A X.stack s H C8.E0).tr pn xe) (.Call (.Name a p1) [] [] p2)
      (fun σZ HZ Q => σZ[i]? = some (some (.ref f)) ∧ HZ c' = some (CodeO c' (X.env.qual ++ "<lambda>")) ∧ tb σ HZ Q) := by
  refine ⟨fun pinsZ sZ σZ HZ Q IZ ⟨slot, code, wish⟩ => ?_⟩
  refine wpAny_Call_Name_kw (thn ((pe_var (pos := p1) (i := i) hN hv hd hcd).run pinsZ sZ σZ HZ (fun v H1 => v = .ref f ∧ H1 = HZ) IZ ⟨.ref f, slot, rfl, rfl⟩) fun u s2 ⟨v, H1, I1, rel, ev, eH⟩ => ?_)
  subst ev
  subst eH
  obtain rfl : u = Value.ref f := rel
  have lam_now : s2.heap.get? f = some (PySem.W.kla_obj "<lambda>" (X.env.qual ++ "<lambda>") params body scope (cloFrom X.env.cells scope.names []) pm c' ctv) := I1.base.keep f _ lam_at free_f out_f fun z => nomatch (show f ∈ ([] : List Addr) from z)
  have since : Un (frs X.stack) [] H H1 s.heap s2.heap := I1.base
  obtain ⟨⟨oc, vs, t, code_at, code_data, code_name⟩, _, _⟩ := I1.hok c' _ code
  refine PySem.W.callWith_F0 ⟨_, _, _, _, lam_now⟩ ?_
  have called : codeAny (model X.prog X.w) (X.A.deeper (envOfC qg sg s.heap.objs.size g cdg)) (.call (.ref f) ⟨[], []⟩) (CR (L2.CX X.prog X.w) (envOfC qg sg s.heap.objs.size g cdg :: X.stack) X.prog X.w H1 s2 Q E) s2 := by
    refine PySem.W.kla_callFunE hr.depth lam_now rfl L.co L.gen rfl ⟨c', oc, vs, t, rfl, code_at, code_data, code_name⟩ ?_
    rw [hbind]
    refine wpAny_pure (wpAny_newFunctionEnv (fun y hy => (L.own y hy).2) (fun y hy => absurd hy (by simp)) (fun g1 names same => ⟨I1.nolimit.fresh _ same, ?_⟩) L.kind)
    show codeAny _ _ (.expr body (lamEnv X scope s2.heap.objs.size f c')) _ _
    have keeps : ∀ b o, s2.heap.get? b = some o → g1.get? b = some o := fun b o e => same.extBut b o (Nat.ne_of_lt (Heap.lt_size e)) (Heap.get?_push_of_some _ e)
    have J : Inv (lamCx X (X.A.deeper (envOfC qg sg s.heap.objs.size g cdg)) (envOfC qg sg s.heap.objs.size g cdg :: X.stack) s2 H1 E scope f c') [] σ H1 { s2 with heap := g1, toks := s2.toks + ([] : List (Str × Value)).length } :=
      lam_start2 I L I1.env0 hr.hd since names keeps
    refine PySem.W.kla_codeExpr (wpAny_mono ((hbody _ s2 H1 s.heap.objs.size (hr.deeper _)).run [] _ _ H1 Q J wish) (fun v s' hq => ?_) fun e s' hq => hq)
    obtain ⟨x, H2, J2, rx, q⟩ := hq
    exact ⟨x, H2, J2.os, J2.bare, J2.base, J2.hok, rx, q⟩
  have tk2 : Takes ((cxOf C8.CX0 X.prog X.w X.K X.mg X.base Ng qg sg g cdg X.A X.stack s H C8.E0).tr pn xe) (fun cls d σ' H' => σ'.length = Ng.length → W cls d σ' H') := fun u s' ⟨a, B, sI, pins, σ, H, cls, d, e, I, nb, up, sky, na, os, ag, w⟩ =>
    tk u s' ⟨a, B, sI, pins, σ, H, cls, d, e, I, nb, up, sky, na, os, ag, w I.len⟩
  have lets : Passes (L2.CX X.prog X.w) ((cxOf C8.CX0 X.prog X.w X.K X.mg X.base Ng qg sg g cdg X.A X.stack s H C8.E0).tr pn xe) E := passes_call tk2 fun cls d σ' H' e l => hW cls d σ' H' l e
  refine wpAny_call (codeAny_mono called fun r s' hq => ?_)
  match r, hq with
  | .error e, hq => exact lets pinsZ σZ H1 s2 e s' I1 hq
  | .ok (.ret u), hq => exact I1.after hq
  | .ok .next, hq => exact hq.elim
  | .ok .brk, hq => exact hq.elim
  | .ok .cont, hq => exact hq.elim
end
/-- the relation behind a lambda's making -/
theorem Rel.grown {K : PySem.W.Frag} {m : Md} {g : G} {H H1 : L2.Hp} {j : Nat} {pd : He.Defn} {q : Str} {ps : Array Value} {c' : Addr} (r : Rel K m g H) (hj : g[j]? = some (.tab pd q)) (at_P : H (He.cT K pd).2 = some (.tbl ps)) (gr : Grown H (He.cT K pd).2 ps q c' H1) :
    ∃ m1, Le m m1 ∧ Rel K m1 g H1 := by
  rcases gr with ⟨rfl, _⟩ | ⟨new, ne, more, tri, am, rfl⟩
  · exact ⟨m, Le.refl m, r⟩
  · obtain ⟨a, ra, fa, o, ha, ea, ps2, eo, tr2, am2⟩ := r.cell j _ hj
    subst ea
    subst eo
    rw [at_P] at ha
    cases ha
    have r2 := r.put (o := CodeO c' q) new
    have le := le_put (o := CodeO c' q) (r.free new)
    have r3 := r2.cellSet (i := j) (a := (He.cT K pd).2) (c := .tab pd q) (o := .tbl (ps ++ more)) ra ⟨rfl, _, rfl, tri, fun pos cv h => by
      rcases am pos cv h with h1 | h1
      · obtain ⟨c, e1, e2⟩ := am2 pos cv h1
        exact ⟨c, e1, le.F _ _ e2⟩
      · exact ⟨c', h1, by show upd m.F c' _ c' = _; exact upd_same⟩⟩
    refine ⟨_, le, ?_⟩
    have e1 : g.set j (.tab pd q) = g := by
      apply List.ext_getElem?
      intro i
      rw [List.getElem?_set]
      split
      · rename_i h
        subst h
        split
        · exact hj.symm
        · rename_i h
          rw [List.getElem?_eq_none (by omega)] at hj
          cases hj
      · rfl
    have e2 : upd (upd H c' (CodeO c' q)) (He.cT K pd).2 (.tbl (ps ++ more)) = upd (upd H (He.cT K pd).2 (.tbl (ps ++ more))) c' (CodeO c' q) := by
      funext b
      unfold upd
      by_cases h1 : b = (He.cT K pd).2
      · rw [if_pos h1, if_neg (by rw [h1]; exact ne), if_pos h1]
      · rw [if_neg h1]
        by_cases h2 : b = c'
        · rw [if_pos h2, if_pos h2]
        · rw [if_neg h2, if_neg h2, if_neg h1]
    rw [e1, e2] at r3
    exact r3
/-- how a call ended, told -/
def toldR (cs : List Cla) (n : Nat) (fine : Str) : Res D → Res D
  | .ok _ g => .ok (.str fine) g
  | .ex e g => match sNets cs e (List.replicate n none) g with
    | .rt d g' => .ok d g'
    | _ => .no
  | .no => .no
def eTold (j : Nat) (pd : He.Defn) (q : Str) (cs : List Cla) (n : Nat) (fine : Str) (lam : Ev) : Ev := fun σ g => match g[j]? with
  | some (.tab pd' q') => if pd' = pd ∧ q' = q then toldR cs n fine (lam σ g) else .no
  | _ => .no
theorem eTold_ok {j : Nat} {pd : He.Defn} {q : Str} {cs : List Cla} {n : Nat} {fine : Str} {lam : Ev} {σ : Sg} {g : G} (h : eTold j pd q cs n fine lam σ g ≠ .no) : g[j]? = some (.tab pd q) ∧ eTold j pd q cs n fine lam σ g = toldR cs n fine (lam σ g) := by
  unfold eTold at h ⊢
  split at h
  · rename_i pd' q' hg
    split at h
    · rename_i e
      rw [hg]
      obtain ⟨rfl, rfl⟩ := e
      exact ⟨rfl, if_pos ⟨rfl, rfl⟩⟩
    · exact (h rfl).elim
  · exact (h rfl).elim
section
variable {X : Cx} {W : L2.WX}
theorem x_told {x a fine : Str} {k n0 j : Nat} {pg : Arguments} {c0 : ExceptHandler} {hds : List ExceptHandler} {cs : List Cla} {sg : Scope} {fd : FuncData} {Ng : List Str} {pd : He.Defn} {jj : Nat} {p1 p2 p3 p5 p6 p8 : Pos}
    {params : Arguments} {body : Expr} {scope : Scope} {lam : Ev} {p lpos pos : Pos} {q : Str} {nn : Nat} (hq : X.env.qual ++ "<lambda>" = q) (hn : Ng.length = nn) (hg : Gl X x) (hm : X.mg x = some (.ref (ga X.K x)))
    (F : FunD X.K x x pg [.Try [.Expr (.Call (.Name a p1) [] [] p2) p3] (c0 :: hds) [] [] p8, .Return (some (.Constant (.str fine) jj p5)) p6] sg [] [] (ga X.K x) fd)
    (bA : ∀ (s : Shared) (us : List Value), us.length = [a].length → BindsTo s fd ⟨us, []⟩ ([a].zip us)) (Sg : FnScope Ng [a] sg) (hNg : Ng[0]? = some a) (hva : Vis sg a) (h0 : ∀ f : Addr, (L2.start Ng [V.ref f])[0]? = some (some (V.ref f)))
    (hsw : ∀ (cd : Value) (A : Around) (out : List Env) (s : Shared) (H : L2.Hp), swapsWith (.Call (.Name a p1) [] [] p2) none p3.line (cxOf C8.CX0 X.prog X.w X.K X.mg X.base Ng x sg (ga X.K x) cd A out s H C8.E0).env = pure false)
    (hcl : ∀ (cd : Value) (s : Shared) (H : L2.Hp), ClsOk (cxOf C8.CX0 X.prog X.w X.K X.mg X.base Ng x sg (ga X.K x) cd X.A X.stack s H C8.E0) (c0 :: hds) cs)
    (TB : TabB X.base X.mg (He.cT X.K pd).1 (He.cT X.K pd).2) (hcode : X.env.code = .ref (He.cT X.K pd).1) (hr : Room n0 X.A) (hk : k + 2 ≤ n0) (gd : X.A.guards = some []) (L : LamS X.env.scope scope) (hdef : defaultsOf params X.env = ([], []))
    (hbind : ∀ (q : Str) (cl : List (Str × Addr)) (pm cv ctv : Value), bindArgs (PySem.W.kla_fn "<lambda>" q params body scope cl pm cv ctv) ⟨[], []⟩ = pure [])
    (hbody : ∀ (A : Around) (outer : List Env) (s : Shared) (H : L2.Hp) (E : L2.XK) (f c' : Addr), A.guards = some [] → Room k (A.deeper (lamEnv X scope s.heap.objs.size f c')) → PE (lamCx X A outer s H E scope f c') body (tE X.K (WF E) lam))
    (hdb : (x == ("__debug__" : Str)) = false := by decide) (hd : (a == ("__debug__" : Str)) = false := by decide) (hcd : (a == ("__classdict__" : Str)) = false := by decide) :
    PE X (.Call (.Name x p) [.Lambda params body scope lpos] [] pos) (tE X.K W (eTold j pd q cs nn fine lam)) := by
  subst hq
  subst hn
  refine ⟨fun pins s σ H Q I ⟨m, σD, g, rl, sl, hl, post⟩ => ?_⟩
  have nz : eTold j pd (X.env.qual ++ "<lambda>") cs Ng.length fine lam σD g ≠ .no := fun z => by
    rw [z] at post
    exact post.elim
  obtain ⟨hj, et⟩ := eTold_ok nz
  rw [et] at post
  obtain ⟨oc, od, dV, kV, doc, pm0, an, cdv, ct, osl, rfl, lk, hcg, _, _⟩ := F.ex
  refine wpAny_Call_Name_kw (ld_glob I hg hm ?_ hdb)
  refine PySem.W.callWith_K (h₀ := X.base) I.ok.mod.kin F.kp ?_ (by rfl) (by rfl)
  show wpAny _ _ (spliced ((false, eval (.Lambda params body scope lpos) X.env) :: backTo pos (starEach [] X.env))) _ _ s
  obtain ⟨aP, raP, faP, oP, haP, eaP, ps, eoP, triples, among⟩ := rl.cell j _ hj
  subst eaP
  subst eoP
  refine Calls.spliced_cons (lam_make3 I TB hcode haP triples (fun pos cv h => ?_) hdef (L.has I.ok) fun f c' pm' ctv H1 s' I1 gr lam_at f_none f_out => ?_)
  · obtain ⟨c, e1, e2⟩ := among pos cv h
    exact ⟨c, e1, rl.ex _ _ e2⟩
  obtain ⟨m1, le1, rl1⟩ := rl.grown hj haP gr
  refine Calls.spliced_nil ⟨I1.kIn, ?_⟩
  show wpAny _ _ (call (.ref (ga X.K x)) [.ref f]) _ _ _
  have rc : codeAny (model X.prog X.w) X.A (.call (.ref (ga X.K x)) ⟨[.ref f], []⟩) (CR C8.CX0 X.stack X.prog X.w H1 s' Q C8.E0) s' := by
    refine run_ofS (N := Ng) (ps := [a]) (us := [.ref f]) (vs := [.ref f]) lk hcg Sg (hr.mono hk) I1.env0 (bA s' [.ref f] rfl) (.cons rfl .nil) rfl fun hr' => ?_
    have un : (X.A.deeper (envOfC x sg s'.heap.objs.size (ga X.K x) cdv)).units + 50 < cLine := by
      have := hr'.un
      omega
    obtain ⟨w, w1, w2⟩ := nets_of (X := cxOf C8.CX0 X.prog X.w X.K X.mg X.base Ng x sg (ga X.K x) cdv X.A X.stack s' H1 C8.E0) (W := fun _ _ _ _ => False) rfl rfl Sg.nd LamX.takes0 gd un (hcl cdv s' H1)
    refine ⟨_, pss_cons (ps_tryN (X := cxOf C8.CX0 X.prog X.w X.K X.mg X.base Ng x sg (ga X.K x) cdv X.A X.stack s' H1 C8.E0) (w := w)
      (tb := fun W' D σZ HZ => ∃ Ech : L2.XK, (∀ cls d σ' H', σ'.length = Ng.length → Ech cls d H' → W' cls d σ' H') ∧ σZ[0]? = some (some (.ref f)) ∧ HZ c' = some (CodeO c' (X.env.qual ++ "<lambda>")) ∧ tE X.K (WF Ech) lam σ HZ fun _ H' => D.nx σZ H') rfl rfl
      (fun W' pn xe tk' _ => ⟨fun pinsZ sZ σZ HZ D IZ ⟨Ech, hW, h1, h2, h3⟩ => ?_⟩) w1) (pss_one (ps_ret pe_str)), ?_⟩
    · exact (pss_one (ps_expr (act3 I1 L lam_at f_none f_out (hbind _ _ _ _ _) tk' hW hr' (fun outer s H L0 hr2 => hbody _ outer s H Ech f c' gd hr2) hNg hva hd hcd) (hsw cdv X.A X.stack s' H1))).run pinsZ sZ σZ HZ D IZ ⟨h1, h2, h3⟩
    · refine ⟨fun cv dd H' => ∀ σ' : L2.St, σ'.length = Ng.length → w _ cv dd σ' H', fun cls d σ' H' hl' h => h σ' hl', h0 f, gr.code, m1, σD, g, rl1, sl.mono le1, hl, ?_⟩
      cases hlam : lam σD g with
      | ok d g' =>
        rw [hlam] at post
        exact fun m2 H2 v l2 r2 d2 => post m2 H2 (.str fine) (le1.trans l2) r2 .str
      | ex e g' =>
        rw [hlam] at post
        intro m2 H2 cv dd l2 r2 ex2 σ' hσ
        refine w2 _ e (List.replicate Ng.length none) g' m2 σ' H2 cv dd r2 ⟨fun i d q => ?_, ?_⟩ ex2 ?_
        · rw [List.getElem?_replicate] at q
          split at q <;> cases q
        · rw [List.length_replicate, hσ]
          exact Nat.le_refl _
        · unfold toldR at post
          dsimp only at post
          split at post
          · rename_i d2 g2 hn
            rw [hn]
            exact fun m3 H3 v l3 r3 d3 => post m3 H3 v ((le1.trans l2).trans l3) r3 d3
          · exact post.elim
      | no =>
        rw [hlam] at post
        exact post.elim
  refine wpAny_call (codeAny_mono rc fun r s2 hq => ?_)
  match r, hq with
  | .error e, hq => exact (show False from hq).elim
  | .ok (.ret u), hq => exact I1.after hq
  | .ok .next, hq => exact hq.elim
  | .ok .brk, hq => exact hq.elim
  | .ok .cont, hq => exact hq.elim
end
end AW
/-! Bx7: the facts of such exception classes, told by the top's state; a def whose code object is told. -/
namespace AW
open PySem PySem.Spec PyProof.Rows L2 PySem.W
abbrev FnC : Type := Option (Str × Str × Arguments × FuncBody × Scope × Addr × List Str × Addr)
def fnC (K : Frag) (a : Addr) : FnC := match K.lookup a with
  | some ⟨_, _, .func fd, _⟩ => some (fd.name, fd.qualname, fd.params, fd.body, fd.scope, fd.globals, fd.closure.map (·.1), fd.builtins)
  | _ => none
/-- an exception class with its own __init__ -/
structure ClD where
  x : Str
  b : XB
  fld : Str
  qual : Str
  params : Arguments
  body : List Stmt
  scope : Scope
  file : Str
def iniA (K : Frag) (x : Str) : Addr := match findIn K (.ref (ga K x)) "__init__" with
  | some (some (.ref f)) => f
  | _ => 0
def ClD.val (d : ClD) : FnC := some ("__init__", d.qual, d.params, .stmts d.body, d.scope, mainGlobals, ["__class__"], builtinsNs)
def codeFile (K : Frag) (q file : Str) (v : Value) : Bool := match v with
  | .ref c => codeIn K v q && (match K.lookup c with
    | some ⟨_, _, .fields vs, _⟩ => (match (vs[2]? : Option Value) with
      | some (Value.str f _) => decide (f = file)
      | _ => false)
    | _ => false)
  | _ => false
def cellB (K : Frag) (C : Addr) (a : Addr) : Bool := match K.lookup a with
  | some ⟨_, _, .cell (some (.ref c)), _⟩ => decide (c = C)
  | _ => false
def cloB (K : Frag) (C : Addr) : List (Str × Addr) → Bool
  | [(_, cc)] => cellB K C cc
  | _ => false
def noneB : Value → Bool
  | .none => true
  | _ => false
def ClD.ok (K : Frag) (d : ClD) : Bool :=
  (match K.lookup (iniA K d.x) with
    | some ⟨_, _, .func fd, _⟩ => codeFile K d.qual d.file fd.code && (cloB K (ga K d.x) fd.closure && noneB fd.defaults)
    | _ => false) &&
  ((match clsIn K (ga K d.x) with
    | some cd => cd.hasDict
    | none => false) && (decide (mroIn K (ga K d.x) (.ref (ga K d.x)) = some true) && (decide (nsIn K cStatics "thirdparty.any" = some none) && (excInitIn K (ga K d.x) d.b.bm d.b.nw &&
    (decide (ks_superIn K (ga K d.x) (ga K d.x) "__init__" = some (some (.builtin d.b.it))) && (decide (subIn K (.ref (ga K d.x)) (.type d.b.B) = some true) && (decide (findIn K (.ref (ga K d.x)) "__init__" = some (some (.ref (iniA K d.x)))) && (isFn K (.ref (iniA K d.x)) &&
    (decide (findIn K (.ref (ga K d.x)) "__setattr__" = some (some (.builtin "object.__setattr__"))) && (excOver K (ga K d.x) d.b.bm && (decide (takerIn K (ga K d.x) d.fld = some none) && (keepIn K (.ref (ga K d.x)) &&
    (decide (subIn K (.ref (ga K d.x)) (.type "BaseException") = some true) && decide (typeIn K (.ref (ga K d.x)) = some (.type "type")))))))))))))))
structure KPart (K : Frag) (d : ClD) (fI cda cc : Addr) : Prop where
  fn : ∃ oc od osl kV doc pm an ct, K.lookup fI = some ⟨oc, od, .func (ksFn "__init__" d.qual d.params d.body d.scope .none kV doc pm an (.ref cda) ct cc), osl⟩
  cd : codeIn K (.ref cda) d.qual = true
  code : ∃ (oc : Value) (od : Option Addr) (osl : Array (Option Value)) (vs : Array Value) (tk : Tok), K.lookup cda = some ⟨oc, od, .fields vs, osl⟩ ∧ vs[2]? = some (.str d.file tk)
  cell : ∃ (oc : Value) (od : Option Addr) (osl : Array (Option Value)), K.lookup cc = some ⟨oc, od, .cell (some (.ref (ga K d.x))), osl⟩
  cls : ∃ cd, clsIn K (ga K d.x) = some cd ∧ cd.hasDict = true
  sub : mroIn K (ga K d.x) (.ref (ga K d.x)) = some true
  thp : nsIn K cStatics "thirdparty.any" = some none
  exi : excInitIn K (ga K d.x) d.b.bm d.b.nw = true
  sup : ks_superIn K (ga K d.x) (ga K d.x) "__init__" = some (some (.builtin d.b.it))
  bas : subIn K (.ref (ga K d.x)) (.type d.b.B) = some true
  ini : findIn K (.ref (ga K d.x)) "__init__" = some (some (.ref fI))
  isf : isFn K (.ref fI) = true
  sa : findIn K (.ref (ga K d.x)) "__setattr__" = some (some (.builtin "object.__setattr__"))
  ovr : excOver K (ga K d.x) d.b.bm = true
  tkr : takerIn K (ga K d.x) d.fld = some none
  kC : keepIn K (.ref (ga K d.x)) = true
  xs : subIn K (.ref (ga K d.x)) (.type "BaseException") = some true
  ty : typeIn K (.ref (ga K d.x)) = some (.type "type")
theorem kpart_of {K : Frag} {d : ClD} (e : fnC K (iniA K d.x) = d.val) (h : d.ok K = true) : ∃ fI cda cc, KPart K d fI cda cc := by
  unfold ClD.ok at h
  simp only [Bool.and_eq_true, decide_eq_true_eq] at h
  obtain ⟨h0, h1, h2, h3, h4, h5, h6, h7, h8, h9, h10, h11, h12, h13, h14⟩ := h
  unfold fnC at e
  cases q : K.lookup (iniA K d.x) with
  | none => rw [q] at e; cases e
  | some o =>
    obtain ⟨oc, od, dt, osl⟩ := o
    rw [q] at e h0
    cases dt with
    | func fd =>
      obtain ⟨n1, n2, n3, n4, n5, n6, n7, n8, n9, n10, n11, n12, n13, n14, n15⟩ := fd
      have e2 : (some (n1, n2, n3, n4, n5, n6, n7.map (·.1), n15) : FnC) = d.val := e
      unfold ClD.val at e2
      simp only [Option.some.injEq, Prod.mk.injEq] at e2
      obtain ⟨rfl, rfl, rfl, rfl, rfl, rfl, e7, rfl⟩ := e2
      have h0' : (codeFile K d.qual d.file n13 && (cloB K (ga K d.x) n7 && noneB n8)) = true := h0
      rw [Bool.and_eq_true, Bool.and_eq_true] at h0'
      obtain ⟨c1, c2, c8⟩ := h0'
      obtain rfl : n8 = .none := by
        cases n8 with
        | none => rfl
        | _ => cases c8
      obtain ⟨cc, rfl⟩ : ∃ cc : Addr, n7 = [(("__class__" : Str), cc)] := by
        clear h0 e q c2 c8
        cases n7 with
        | nil => cases e7
        | cons p l =>
          cases l with
          | nil =>
            obtain ⟨a, cc⟩ := p
            simp only [List.map_cons, List.map_nil, List.cons.injEq, and_true] at e7
            exact ⟨cc, by rw [e7]⟩
          | cons p2 l2 => simp at e7
      unfold codeFile at c1
      split at c1
      · rename_i cda
        rw [Bool.and_eq_true] at c1
        obtain ⟨c3, c4⟩ := c1
        refine ⟨iniA K d.x, cda, cc, ⟨_, _, _, _, _, _, _, _, q⟩, c3, ?_, ?_, ?_, h2, h3, h4, h5, h6, h7, h8, h9, h10, h11, h12, h13, h14⟩
        · split at c4
          · rename_i a1 a2 vs a3 hl
            split at c4
            · rename_i f tk hf
              exact ⟨_, _, _, vs, tk, hl, by rw [hf, of_decide_eq_true c4]⟩
            · cases c4
          · cases c4
        · have c2' : cellB K (ga K d.x) cc = true := c2
          unfold cellB at c2'
          split at c2'
          · rename_i a1 a2 c a3 hl
            exact ⟨_, _, _, by rw [hl, of_decide_eq_true c2']⟩
          · cases c2'
        · split at h1
          · rename_i cd hcd
            exact ⟨cd, hcd, h1⟩
          · cases h1
      · cases c1
    | _ => cases e
end AW
/-! Bx8: the same by names; the head's Hook with such classes. -/
namespace AW
open PySem PySem.Spec PyProof.Rows L2 PySem.W
/-- what the text of such an __init__ shows -/
structure ClS (d : ClD) (me giv : Str) (a : XArg) (p0 p1 p2 p3 p4 p5 p6 p7 p8 : Pos) : Prop where
  hb : d.body = [.Expr (.Call (.Attribute (.Call (.Name "super" p0) [] [] p1) "__init__" p2) [a.e giv] [] p3) p4, .Assign [.Attribute (.Name me p5) d.fld p6] (.Name giv p7) p8]
  par : (d.params.posonlyargs ++ d.params.args).head?.map (·.arg) = some me
  bind : ∀ (body : List Stmt) (name : Str) (kV doc pm : Value) (an : Option Addr) (cda : Addr) (ct : Value) (cc : Addr) (x y : Value), bindArgs (ksFn name d.qual d.params body d.scope .none kV doc pm an (.ref cda) ct cc) ⟨[x, y], []⟩ = pure [(me, x), (giv, y)]
  ne : me ≠ giv
  ks : d.scope.names.lookup ("super" : Str) = some .globalImplicit
  kc : d.scope.names.lookup ("__class__" : Str) = some .free
  ka : d.scope.names.lookup me = some .local
  kg : d.scope.names.lookup giv = some .local
  kind : d.scope.kind = .function
  co : d.scope.isCoroutine = false
  gen : d.scope.isGenerator = false
  nocell : ∀ x ∈ d.scope.names, x.2 ≠ .cell
  kt : a.isStr = true → d.scope.names.lookup ("str" : Str) = some .globalImplicit
  dbS : (me == ("__debug__" : Str)) = false
  dbG : (giv == ("__debug__" : Str)) = false
  hst : ∀ L fI cda cc, starEach [a.e giv] (ksEnv d.qual d.scope L fI (.ref cda) cc) = (false, eval (a.e giv) (ksEnv d.qual d.scope L fI (.ref cda) cc)) :: starEach [] (ksEnv d.qual d.scope L fI (.ref cda) cc)
  hcall : ∀ L fI cda cc, ∃ pl : Sem Bool, eval (.Call (.Attribute (.Call (.Name "super" p0) [] [] p1) "__init__" p2) [a.e giv] [] p3) (ksEnv d.qual d.scope L fI (.ref cda) cc) = (do
      let ov ← attributeBase (.Call (.Name "super" p0) [] [] p1) "__init__" (ksEnv d.qual d.scope L fI (.ref cda) cc) (eval (.Call (.Name "super" p0) [] [] p1) (ksEnv d.qual d.scope L fI (.ref cda) cc))
      standAt p2.atName
      let (f, first) ← holding [ov] (getMethod ov "__init__" pl)
      callWith p3 f first (backTo p3 (starEach [a.e giv] (ksEnv d.qual d.scope L fI (.ref cda) cc))) [])
  hint : ∀ L fI cda cc, interactive (ksEnv d.qual d.scope L fI (.ref cda) cc) = false
  hsw : ∀ L fI cda cc, swapsWith (.Call (.Attribute (.Call (.Name "super" p0) [] [] p1) "__init__" p2) [a.e giv] [] p3) none p4.line (ksEnv d.qual d.scope L fI (.ref cda) cc) = pure false
  hsw2 : ∀ L fI cda cc, swapsWith (.Name giv p7) (some (.Attribute (.Name me p5) d.fld p6)) p8.line (ksEnv d.qual d.scope L fI (.ref cda) cc) = pure false
/-- x is such a class; isStr: its text is that of its field -/
def LowX (P : Program) (K : Frag) (mg : Str → Option Value) (x fld : Str) (isStr : Bool) : Prop :=
  ∃ (fI cda cc : Addr) (b : XB) (qual me giv : Str) (params : Arguments) (a : XArg) (scope : Scope) (p0 p1 p2 p3 p4 p5 p6 p7 p8 : Pos), a.isStr = isStr ∧ LowE P K mg x (ga K x) fI b fld qual me giv params a scope cda cc p0 p1 p2 p3 p4 p5 p6 p7 p8
/-- what is asked of the program -/
structure PK (P : Program) (file : Str) : Prop where
  file : ((P.main.file : Str) == file) = true
  top : (P.main.scope.names.lookup ("super" : Str)).isSome = false
theorem low_of {P : Program} {K : Frag} {mg : Str → Option Value} {d : ClD} {fI cda cc : Addr} {me giv : Str} {a : XArg} {p0 p1 p2 p3 p4 p5 p6 p7 p8 : Pos} (kp : KPart K d fI cda cc) (HP : PK P d.file) (hg : mg d.x = some (.ref (ga K d.x))) (mgS : mg "super" = none) (mgT : mg "str" = none)
    (st : ClS d me giv a p0 p1 p2 p3 p4 p5 p6 p7 p8) : LowX P K mg d.x d.fld a.isStr := by
  refine ⟨fI, cda, cc, d.b, d.qual, me, giv, d.params, a, d.scope, p0, p1, p2, p3, p4, p5, p6, p7, p8, rfl, ?_⟩
  refine ⟨⟨⟨?_, kp.cd, ?_, kp.cell⟩, st.par, fun name kV doc pm an ct x y => ?_, st.ne, kp.cls, kp.sub, kp.thp, kp.exi, kp.sup, kp.bas, kp.ini, kp.isf, kp.sa, kp.ovr, kp.tkr, st.ks, st.kc, st.ka, st.kg, st.kind, st.co, st.gen, st.nocell, HP.top, mgS⟩,
    mgT, st.kt, st.dbS, st.dbG, hg, kp.kC, kp.xs, kp.ty, fun L => st.hst L _ _ _, fun L => st.hcall L _ _ _, fun L => st.hint L _ _ _, fun L => st.hsw L _ _ _, fun L => st.hsw2 L _ _ _⟩
  · obtain ⟨oc, od, osl, kV, doc, pm, an, ct, h⟩ := kp.fn
    rw [st.hb] at h
    exact ⟨oc, od, osl, _, kV, doc, pm, an, ct, h⟩
  · obtain ⟨oc, od, osl, vs, tk, h1, h2⟩ := kp.code
    exact ⟨oc, od, osl, vs, _, tk, h1, h2, HP.file⟩
  · exact st.bind _ name kV doc pm an cda ct cc x y
/-! ### classes without an __init__ of their own -/
def ex0B (x : Str) (b : XB) (K : Frag) : Bool := excIn K (ga K x) b.bm b.nw && (keepIn K (.ref (ga K x)) && (decide (subIn K (.ref (ga K x)) (.type "BaseException") = some true) && decide (typeIn K (.ref (ga K x)) = some (.type "type"))))
/-- clause y: which classes it fits -/
def exTab (y : Str) (tab : List (Str × Bool)) (K : Frag) : Bool := tab.all fun p => decide (exmOne K (.ref (ga K p.1)) (.ref (ga K y)) = some p.2)
theorem exTab_of {y : Str} {tab : List (Str × Bool)} {K : Frag} (h : exTab y tab K = true) : ∀ p ∈ tab, exmOne K (.ref (ga K p.1)) (.ref (ga K y)) = some p.2 := fun p hp => of_decide_eq_true (List.all_eq_true.mp h p hp)
def xfF (x f : Str) (K : Frag) : Bool := xfB K (ga K x) && decide (findIn K (.ref (ga K x)) f = some none)
theorem xfF_1 {x f : Str} {K : Frag} (h : xfF x f K = true) : XfC K (ga K x) := xfB_ok (by unfold xfF at h; rw [Bool.and_eq_true] at h; exact h.1)
theorem xfF_2 {x f : Str} {K : Frag} (h : xfF x f K = true) : findIn K (.ref (ga K x)) f = some none := by
  unfold xfF at h
  rw [Bool.and_eq_true] at h
  exact of_decide_eq_true h.2
section
variable {X : Cx} {W : L2.WX}
theorem s_raiseL {x fld : Str} {isStr : Bool} {p pos pos' : Pos} {e : Expr} {ea : Ev} {j : Nat} (T : LowX X.prog X.K X.mg x fld isStr) (hc : X.calm = true) (tk : Takes X W) (gd : X.A.guards = some []) (hr : Room j X.A) (hj : 1 ≤ j) (hg : Gl X x) (he : PE X e (tE X.K W ea))
    (hs : starEach [e] X.env = (false, eval e X.env) :: starEach [] X.env := by rfl) (hdb : (x == ("__debug__" : Str)) = false := by decide) :
    PS X (.Raise (some (.Call (.Name x p) [e] [] pos)) none pos') (tS X.K W (sRaiseX isStr x fld ea)) := by
  obtain ⟨fI, cda, cc, b, qual, me, giv, params, a, scope, p0, p1, p2, p3, p4, p5, p6, p7, p8, rfl, L⟩ := T
  exact s_raiseX L rfl hc tk gd hr hj hg he hs hdb
theorem s_raiseZ {x msg : Str} {b : XB} {jj : Nat} {p p2 pos pos' : Pos} (h : ex0B x b X.K = true) (gC : X.mg x = some (.ref (ga X.K x))) (hc : X.calm = true) (tk : Takes X W) (hg : Gl X x) (hdb : (x == ("__debug__" : Str)) = false := by decide) :
    PS X (.Raise (some (.Call (.Name x p) [.Constant (.str msg) jj p2] [] pos)) none pos') (tS X.K W (sRaise0 x)) := by
  unfold ex0B at h
  simp only [Bool.and_eq_true, decide_eq_true_eq] at h
  exact s_raise0 b.fb h.1 gC h.2.1 h.2.2.1 h.2.2.2 rfl hc tk hg hdb
end
/-! ### a def whose code object is told -/
section
variable {P : Program} {w : World} {K : Frag} {mg : Str → Option Value} {base : Heap} {x qual : Str} {params : Arguments} {body : List Stmt} {scope : Scope} {dvs : List V} {kws : List (Str × V)} {f : Addr} {fd : FuncData}
abbrev BodyOkC (P : Program) (w : World) (K : Frag) (mg : Str → Option Value) (base : Heap) (N : List Str) (qual : Str) (scope : Scope) (f : Addr) (cd : Value) (body : List Stmt) (k : Nat) (b : Sx) : Prop :=
  ∀ (A : Around) (out : List Env) (s : Shared) (H : L2.Hp) (E : L2.XK), Room k (A.deeper (PyProof.Rows.envOfC qual scope s.heap.objs.size f cd)) → Gd A →
    PSs (cxOf (L2.CX P w) P w K mg base N qual scope f cd A out s H E) body (tS K (WF E) b)
theorem fn_okC {N ps : List Str} {n k : Nat} {b : Sx} {pd : He.Defn} (hpd : He.fAd K pd = f) (F : FunD K x qual params body scope dvs kws f fd) (S : FnScope N ps scope) (hn : ps.length = n)
    (bA : ∀ (s : Shared) (us : List Value), us.length = ps.length → BindsTo s fd ⟨us, []⟩ (ps.zip us)) (hb : BodyOkC P w K mg base N qual scope f (.ref (He.cT K pd).1) body k b) : FnG P w K mg base (k + 1) f (spOf K (callD n N.length b)) := fun A out s H us vs Q E hr hg e0 r h => by
  obtain ⟨oc, od, dV, kV, doc, pm, an, cd, ct, osl, rfl, lk, hcd, _, _⟩ := F.ex
  obtain ⟨c, rfl⟩ := He.codeIn_ref hcd
  have hc : (He.cT K pd).1 = c := by
    subst hpd
    exact He.codeOf_eq lk rfl
  rw [hc] at hb
  obtain ⟨m, g, ds, rl, hd, p⟩ := h
  by_cases hl : ds.length = n
  · have hv : vs.length = ps.length := by rw [← hd.length, hl, hn]
    refine LamX.run_ofS lk hcd S hr e0 (bA s us (by rw [← r.length]; exact hv)) r hv fun hr' => ?_
    refine ⟨_, hb A out s H E hr' hg, m, ds.map some ++ List.replicate (N.length - n) none, g, rl, slots_start hd hl, ?_⟩
    unfold callD at p
    rw [if_pos hl] at p
    cases hr2 : b (ds.map some ++ List.replicate (N.length - n) none) g with
    | nx σ g' => rw [hr2] at p; exact fun m' H' σv l r sl => settle_s rl l r .non p
    | rt d g' => rw [hr2] at p; exact fun m' H' v l r hd => settle_s rl l r hd p
    | ex σ e g' => rw [hr2] at p; exact fun m' H' σv cv dd l r sl hd => settleX_s rl l r hd p
    | bk σ g' => rw [hr2] at p; exact p.elim
    | ct σ g' => rw [hr2] at p; exact p.elim
    | no => rw [hr2] at p; exact p.elim
  · unfold callD at p
    rw [if_neg hl] at p
    exact p.elim
end
/-! ### the head -/
abbrev AlC : Type := AlB × (Bool × List FnC)
def obsC (n : Reach) (ex : List (Frag → Bool)) (fn : List He5.DefA) (ts : List He.Tab) (tf : List He.Defn) (cl : List ClD) (gt : Addr → Option Obj) : AlC :=
  (obsB n ex fn ts tf gt, cl.all fun d => d.ok (kB n gt), cl.map fun d => fnC (kB n gt) (iniA (kB n gt) d.x))
def valC (fn : List He5.DefA) (ts : List He.Tab) (cl : List ClD) (w : World) : AlC := (valB fn ts w, true, cl.map ClD.val)
/-- what is known of the classes -/
def Cls (cl : List ClD) (K : Frag) : Prop := ∀ (i : Nat) (d : ClD), cl[i]? = some d → ∃ fI cda cc, KPart K d fI cda cc
structure SaysC (ex : List (Frag → Bool)) (fn : List He5.DefA) (ts : List He.Tab) (tf : List He.Defn) (cl : List ClD) (w : World) (h : Heap) (K : Frag) : Prop where
  b : SaysB ex fn ts tf w h K
  c : Cls cl K
theorem saysC_of {n : Reach} {ex : List (Frag → Bool)} {fn : List He5.DefA} {ts : List He.Tab} {tf : List He.Defn} {cl : List ClD} {w : World} {h : Heap} (e : obsC n ex fn ts tf cl h.get? = valC fn ts cl w) : SaysC ex fn ts tf cl w h (kB n h.get?) := by
  have e1 : obsB n ex fn ts tf h.get? = valB fn ts w := congrArg Prod.fst e
  have e2 : (cl.all fun d => d.ok (kB n h.get?)) = true := congrArg (fun z => z.2.1) e
  have e3 : (cl.map fun d => fnC (kB n h.get?) (iniA (kB n h.get?) d.x)) = cl.map ClD.val := congrArg (fun z => z.2.2) e
  refine ⟨saysB_of e1, fun i d hd => ?_⟩
  have e4 : (cl.map fun d => fnC (kB n h.get?) (iniA (kB n h.get?) d.x))[i]? = (cl.map ClD.val)[i]? := by rw [e3]
  rw [List.getElem?_map, List.getElem?_map, hd] at e4
  exact kpart_of (Option.some.inj e4) (List.all_eq_true.mp e2 d (List.mem_of_getElem? hd))
def hookC (n : Reach) (ex : List (Frag → Bool)) (fn : List He5.DefA) (ts : List He.Tab) (tf : List He.Defn) (cl : List ClD) : PySem.W.Hook where
  α := AlC
  obs := fun s => obsC n ex fn ts tf cl s.heap.get?
  val := fun w => valC fn ts cl w
  says := fun w h => ∃ K : Frag, K.In h ∧ SaysC ex fn ts tf cl w h K
  of := fun _ h e => ⟨kB n h.heap.get?, He.frT_in, saysC_of e⟩
  keeps := fun _ _ _ ⟨K, hK, c⟩ k => ⟨K, PySem.W.Frag.In.keeps hK k, ⟨⟨c.b.ex, c.b.df, c.b.dv, c.b.tv, c.b.hd, c.b.out, fun p hp => k _ _ (c.b.emp p hp)⟩, c.c⟩⟩
theorem obsC_eq {n : Reach} {ex : List (Frag → Bool)} {fn : List He5.DefA} {ts : List He.Tab} {tf : List He.Defn} {cl : List ClD} {gt : Addr → Option Obj} {s : Shared} (h : ∀ a, gt a = s.heap.get? a) : obsC n ex fn ts tf cl gt = (hookC n ex fn ts tf cl).obs s := by
  rw [show gt = s.heap.get? from funext h]
  rfl
end AW
/-! Bx9: what is never reached; starred displays; {}. -/
namespace AW
open PySem PySem.Spec PyProof.Rows L2
theorem units50 {k : Nat} {A : Around} (r : Room k A) : A.units + 50 < cLine := by
  have := r.un
  omega
theorem lam_tk {X : Cx} {A : Around} {outer : List Env} {s : Shared} {H : L2.Hp} {E : L2.XK} {scope : Scope} {f c' : Addr} : Takes (LamX.lamCx X A outer s H E scope f c') (WF E) := takes_of rfl rfl rfl rfl
def eNever : Ev := fun _ _ => .no
section
variable {X : Cx} {W : L2.WX}
theorem x_never {e : Expr} : PE X e (tE X.K W eNever) := ⟨fun _ _ _ _ _ _ ⟨_, _, _, _, _, _, p⟩ => p.elim⟩
def tNever : Tv := fun _ _ => .no
theorem t_never {e : Expr} : PT X e (tT X.K W tNever) := ⟨fun _ _ _ _ _ _ ⟨_, _, _, _, _, _, p⟩ => p.elim⟩
/-- [*e, ..] -/
def aStar (a : Ev) (r : Av) : Av := fun σ g => (a σ g).bind fun x g1 => match sqOf g1 x with
  | some xs => (r σ g1).bind fun ys g2 => .ok (xs ++ ys) g2
  | none => .no
theorem a_star {e : Expr} {es : List Expr} {ee : Ev} {t : Av} {p : Pos} (ha : PE X e (tE X.K W ee)) (hr : PA X es (tA X.K W t)) (hs : starEach (.Starred e p :: es) X.env = (true, eval e X.env) :: starEach es X.env := by rfl) :
    PA X (.Starred e p :: es) (tA X.K W (aStar ee t)) := PA.imp (StX.pa_star ha hr hs) fun σ H Q h => by
  obtain ⟨m, σ', g, rl, sl, hl, p⟩ := h
  refine ⟨m, σ', g, rl, sl, hl, Post.bind p fun d g1 m1 H1 x l1 r1 d1 p1 => ?_⟩
  split at p1
  · rename_i xs hx
    obtain ⟨q, vs, rfl, h1, h2⟩ := sqOf_s r1 d1 hx
    refine ⟨q, vs, rfl, h1.symm, m1, σ', g1, r1, sl.mono l1, hl, Post.bind p1 fun ds g2 m2 H2 ys l2 r2 d2 p2 => ?_⟩
    exact fin_ok r2 ((h2.mono l2).append d2) p2
  · exact p1.elim
def eDct0 : Ev := fun _ g => .ok (.dct [] []) g
theorem x_dct0 {pos : Pos} : PE X (.Dict [] [] pos) (tE X.K W eDct0) := PE.imp pe_dnewK fun σ H Q h => by
  obtain ⟨m, σ', g, rl, sl, hl, p⟩ := h
  intro a ha
  exact p (m.put a (.dK [])) _ (.ref a) (le_put (rl.free ha)) (rl.put ha) (.dct (ks := []) (vs := []) (by show upd m.F a _ a = _; exact upd_same) rfl .nil)
end
/-- the head's look, from its parts -/
theorem obsC_parts {n : Reach} {ex : List (PySem.W.Frag → Bool)} {fn : List He5.DefA} {ts : List He.Tab} {tf : List He.Defn} {cl : List ClD} {gt : Addr → Option Obj} {w : World} (hx : (ex.all fun b => b (kB n gt)) = true)
    (h3 : (obsB n [] fn ts tf gt, (cl.all fun d => d.ok (kB n gt)), cl.map fun d => fnC (kB n gt) (iniA (kB n gt) d.x)) = (valB fn ts w, true, cl.map ClD.val)) : obsC n ex fn ts tf cl gt = valC fn ts cl w := by
  have h4 : obsB n [] fn ts tf gt = valB fn ts w := congrArg Prod.fst h3
  have h5 := congrArg Prod.snd h3
  have hb : obsB n ex fn ts tf gt = valB fn ts w := by
    rw [← h4]
    unfold obsB
    rw [hx]
    rfl
  unfold obsC valC
  rw [hb]
  exact congrArg (fun z => (valB fn ts w, z)) h5
theorem map_two {α β γ δ : Type} {x : Option α} {f : α → β × γ} {h : α → δ} {a : β × γ} {c : δ} (h1 : x.map f = some a) (h3 : x.map h = some c) : x.map (fun s => ((f s).1, (f s).2, h s)) = some (a.1, a.2, c) := by
  cases x with
  | none => cases h1
  | some s =>
    cases h1
    cases h3
    rfl
end AW
/-! Bs1: sorted(..) of a list of whole numbers. -/
namespace AW
open PySem PySem.Spec PyProof.Rows L2
def insI (a : Int) : List Int → List Int
  | [] => [a]
  | b :: r => if a ≤ b then a :: b :: r else b :: insI a r
def isrt : List Int → List Int
  | [] => []
  | a :: r => insI a (isrt r)
theorem insI_perm (a : Int) : ∀ l : List Int, (insI a l).Perm (a :: l)
  | [] => .refl _
  | b :: r => by
    unfold insI
    split
    · exact .refl _
    · exact ((insI_perm a r).cons b).trans (List.Perm.swap a b r)
theorem isrt_perm : ∀ l : List Int, (isrt l).Perm l
  | [] => .refl _
  | a :: r => (insI_perm a (isrt r)).trans ((isrt_perm r).cons a)
theorem insI_sorted (a : Int) : ∀ l : List Int, l.Pairwise (· ≤ ·) → (insI a l).Pairwise (· ≤ ·)
  | [], _ => List.pairwise_singleton _ _
  | b :: r, h => by
    obtain ⟨h1, h2⟩ := List.pairwise_cons.mp h
    unfold insI
    split
    · rename_i hab
      refine List.pairwise_cons.mpr ⟨fun x hx => ?_, h⟩
      rcases List.mem_cons.mp hx with rfl | hx
      · exact hab
      · exact Int.le_trans hab (h1 x hx)
    · rename_i hab
      refine List.pairwise_cons.mpr ⟨fun x hx => ?_, insI_sorted a r h2⟩
      rcases List.mem_cons.mp ((insI_perm a r).mem_iff.mp hx) with rfl | hx
      · omega
      · exact h1 x hx
theorem isrt_sorted : ∀ l : List Int, (isrt l).Pairwise (· ≤ ·)
  | [] => .nil
  | a :: r => insI_sorted a _ (isrt_sorted r)
theorem sorted_one : ∀ {l l' : List Int}, l.Perm l' → l.Pairwise (· ≤ ·) → l'.Pairwise (· ≤ ·) → l = l'
  | [], l', p, _, _ => (List.Perm.nil_eq p)
  | a :: r, [], p, _, _ => by have := p.length_eq; simp at this
  | a :: r, b :: s, p, h, h' => by
    obtain ⟨h1, h2⟩ := List.pairwise_cons.mp h
    obtain ⟨h3, h4⟩ := List.pairwise_cons.mp h'
    have hab : a ≤ b := by
      rcases List.mem_cons.mp (p.mem_iff.mpr (List.mem_cons_self (a := b) (l := s))) with e | e
      · omega
      · exact h1 b e
    have hba : b ≤ a := by
      rcases List.mem_cons.mp (p.mem_iff.mp (List.mem_cons_self (a := a) (l := r))) with e | e
      · omega
      · exact h3 a e
    obtain rfl : a = b := by omega
    rw [sorted_one (List.Perm.cons_inv p) h2 h4]
def fSorted : Fn := fun ds g => match ds with
  | [d] => match lqOf g d with
    | some xs => match intsOf xs with
      | some is => .ok (.lst ((isrt is).map D.int)) g
      | none => .no
    | none => .no
  | _ => .no
theorem bt_sorted : bootBuiltins "sorted" = some (.builtin "sorted") := by decide +kernel
theorem dens_ints {K : PySem.W.Frag} {m : Md} : ∀ l : List Int, Dens K m (l.map D.int) (l.map V.int)
  | [] => .nil
  | _ :: r => .cons .int (dens_ints r)
theorem fSorted_s {K : PySem.W.Frag} {W : WX} : CalS K W (rSortedI K) fSorted := fun σv m g H ds xs Q rl hd p => by
  unfold fSorted at p
  split at p
  · obtain ⟨v, ws, rfl, h1, h2⟩ := hd.consV
    obtain rfl := h2.nilV
    split at p
    · rename_i xs hx
      obtain ⟨a, vs, rfl, h3, h4⟩ := lqOf_s rl h1 hx
      split at p
      · rename_i is hi
        refine ⟨a, is, rfl, by rw [← intsOf_s h4 hi]; exact h3, fun ns' q hp hs hq => ?_⟩
        rw [sorted_one (hp.trans (isrt_perm is).symm) hs (isrt_sorted is)]
        exact fin_lst rl (dens_ints _) p q hq
      · exact p.elim
    · exact p.elim
  · exact p.elim
end AW
/-! Bm1: a module's built-in function by its own name (isqrt); sorted of a list or a tuple of whole numbers. -/
namespace AW
open PySem PySem.Spec PyProof.Rows L2
section
variable {X : Cx} {W : WX} {e : Expr} {es : List Expr} {t : Av} {x : Str} {p pos : Pos} {id : String} {r r' : List V → Hp → VK → Prop} {f : Fn}
theorem x_callF (hc : CallR X (.builtin id) r) (hs : CalS X.K W r f) (hg : Gl X x) (hm : X.mg x = some (.builtin id)) (ha : PA X (e :: es) (tA X.K W t)) (hdb : (x == ("__debug__" : Str)) = false := by decide)
    (he : starEach (e :: es) X.env = (false, eval e X.env) :: starEach es X.env := by rfl) (hpl : (backTo pos (starEach es X.env)).any (·.1) = false := by rfl) : PE X (.Call (.Name x p) (e :: es) [] pos) (tE X.K W (eCall f t)) :=
  PE.imp (pe_callBfun hc hg hm ha hdb he hpl) fun _ _ _ h => tCB_of hs h
def rIsq : List V → Hp → VK → Prop := fun vs H Q => ∃ a : Int, vs = [.int a] ∧ 0 ≤ a ∧ a < 2 ^ 64 ∧ Q (.int ((Float64.isqrt a.toNat : Nat) : Int)) H
theorem cr_isqrt : CallR X (.builtin "math.isqrt") rIsq := by
  rintro pins s σ H vs us Q I r ⟨a, rfl, h0, h1, q⟩
  cases r with
  | cons r1 r2 =>
    cases r2
    obtain ⟨t, rfl⟩ := r1
    exact PySem.W.mg_isqrt h0 h1 ⟨.int _, H, I.tok _, ⟨_, rfl⟩, q⟩
def fIsqrt : Fn := fun ds g => match ds with
  | [.int a] => if 0 ≤ a ∧ a < 18446744073709551616 then .ok (.int ((Float64.isqrt a.toNat : Nat) : Int)) g else .no
  | _ => .no
theorem fIsqrt_s {K : PySem.W.Frag} : CalS K W rIsq fIsqrt := fun σv m g H ds xs Q rl hd p => by
  unfold fIsqrt at p
  split at p
  · obtain ⟨v, ws, rfl, h1, h2⟩ := hd.consV
    obtain rfl := h2.nilV
    cases h1
    split at p
    · rename_i h
      exact ⟨_, rfl, h.1, h.2, fin_ok rl .int p⟩
    · exact p.elim
  · exact p.elim
def rSrtT (K : PySem.W.Frag) : List V → Hp → VK → Prop := fun vs H Q => ∃ (a : Addr) (ns : List Int), vs = [V.ref a] ∧ SqT K H a (ns.map V.int) ∧ ∀ (ns' : List Int) (p : Addr), ns'.Perm ns → ns'.Pairwise (· ≤ ·) → H p = none → Q (.ref p) (upd H p (.lst (ns'.map V.int)))
theorem cr_srtT : CallR X (.builtin "sorted") (rSrtT X.K) := by
  rintro pins s σ H vs us Q I r ⟨a, ns, rfl, hs, q⟩
  obtain ⟨its, rv, ⟨o, ho, hc, n, hd⟩, hz⟩ := I.tuple hs
  have hint := rv.ints
  have len := rv.length
  cases r with
  | cons r1 r2 =>
    cases r2
    cases r1
    refine Calls.call_function_entry kind_sorted plain_sorted entry_sorted (args_sorted1 _) (show wpAny (model X.prog X.w) X.A.in1 (Builtin.«sorted» ⟨[.ref a], []⟩) _ _ s from ?_)
    unfold Builtin.«sorted»
    refine wpAny_bind (m := checkCount "sorted" 1 1 _) (wpAny_pure (wpAny_bind (wpAny_collect_seq a (.inr rfl) ho hc hd (fun h1 keep => ?_) (by rw [List.size_toArray]; omega))))
    have I2 : Inv X pins σ H { s with heap := h1 } := I.kept (t' := s.toks) keep
    have top : (h1.push (seqObj "list" its.toArray 0)).get? h1.objs.size = some (seqObj "list" its.toArray 0) := Heap.get?_push_size _ rfl
    have li : its.length ≤ sizeLine := by omega
    refine wpAny_bind (wpAny_newList (show wpAny (model X.prog X.w) X.A.in1 _ _ _ { s with heap := h1.push (seqObj "list" its.toArray 0) } from wpAny_bind (wpAny_holding (wpAny_call_entry slot_list_sort ⟨_, top, rfl⟩ entry_list_sort (SrtO.list_sort_ord SrtO.swo_int top li (fun h2 => SrtO.ints_sortable hint h2) fun out s1 s2 => ⟨_, rfl, wpAny_pure ⟨_, rfl, ?_⟩⟩) (args_list_sort _)))) (by simp; omega))
    obtain ⟨k1, k2, k3⟩ := SrtO.ints_out hint s1 s2
    obtain ⟨ep, at1⟩ := PyProof.Rows.sortedHeap_at (vs := its) (out := out.toArray) top
    have lz : ((out.map SrtO.iv).map V.int).length ≤ sizeLine := by
      rw [List.length_map, k2.length_eq]
      rw [List.length_map] at hz
      exact hz
    refine ⟨.ref _, upd H h1.objs.size (.lst ((out.map SrtO.iv).map V.int)), I2.laid (t' := s.toks) (fun b ob hb => ?_) (Nat.le_refl _) ⟨lz, out, ep, vals_of_ints k1, at1⟩, rfl, q _ _ k2 k3 (I2.hok.fresh (Nat.le_refl _))⟩
    have lb : b < h1.objs.size := Heap.lt_size hb
    rw [PyProof.Rows.sortedHeap_old (Nat.ne_of_lt lb) (show b < (h1.push (seqObj "list" its.toArray 0)).objs.size by rw [Heap.size_push]; exact Nat.lt_succ_of_lt lb)]
    exact Heap.get?_push_of_some _ hb
def fSrt : Fn := fun ds g => match ds with
  | [.tup xs] => (match intsOf xs with
    | some is => .ok (.lst ((isrt is).map D.int)) g
    | none => .no)
  | ds => fSorted ds g
theorem fSrt_s {K : PySem.W.Frag} {W : WX} : CalS K W (fun vs H Q => rSortedI K vs H Q ∨ rSrtT K vs H Q) fSrt := fun σv m g H ds xs Q rl hd p => by
  unfold fSrt at p
  split at p
  · obtain ⟨v, ws, rfl, h1, h2⟩ := hd.consV
    obtain rfl := h2.nilV
    split at p
    · rename_i is hi
      cases h1 with
      | tup h3 h4 =>
        refine .inr ⟨_, is, rfl, by rw [← intsOf_s h4 hi]; exact rl.seqT h3, fun ns' q hp hs hq => ?_⟩
        rw [sorted_one (hp.trans (isrt_perm is).symm) hs (isrt_sorted is)]
        exact fin_lst rl (dens_ints _) p q hq
    · exact p.elim
  · exact .inl (fSorted_s σv m g H _ xs Q rl hd p)
end
end AW
/-! Bi1: instances of own classes with slots: made, stored into, read; properties; methods. -/
namespace AW
open PySem PySem.Spec PyProof.Rows L2
/-! ### slots -/
abbrev STab := List (Str × List Str)
def fIx : List Str → Str → Nat → Option Nat
  | [], _, _ => none
  | x :: r, f, i => if x = f then some i else fIx r f (i + 1)
def sIx : STab → Str → Str → Option Nat
  | [], _, _ => none
  | q :: r, c, f => if q.1 = c then fIx q.2 f 0 else sIx r c f
def slot1B (c f : Str) (i : Nat) (K : PySem.W.Frag) : Bool := match PySem.W.findIn K (.ref (ga K c)) f with
  | some (some (.ref p)) => decide (PySem.W.specialIn K (.ref p) "__get__" = some (some (.builtin "member_descriptor.__get__"))) && (decide (PySem.W.takesIn K (.ref p) = some true) &&
    (decide (PySem.W.typeIn K (.ref p) = some (.type "member_descriptor")) && (decide (PySem.W.slotIn K p (ga K c) = some i) && decide (i < 1000))))
  | _ => false
def allIx (P : Str → Nat → Bool) : List Str → Nat → Bool
  | [], _ => true
  | x :: r, i => P x i && allIx P r (i + 1)
def slotsB (tb : STab) (K : PySem.W.Frag) : Bool := tb.all fun q => clsB q.1 K && allIx (fun f i => slot1B q.1 f i K) q.2 0
structure SlF (tb : STab) (K : PySem.W.Frag) : Prop where
  at_ : ∀ c f i, sIx tb c f = some i → SlX.SCls K (ga K c) ∧ ∃ p, SlX.Slot1 K (ga K c) f p i
theorem allIx_s {P : Str → Nat → Bool} : ∀ {fs : List Str} {j : Nat} {f : Str} {i : Nat}, allIx P fs j = true → fIx fs f j = some i → P f i = true
  | [], _, _, _, _, e => by cases e
  | x :: r, j, f, i, h, e => by
    unfold allIx at h
    rw [Bool.and_eq_true] at h
    unfold fIx at e
    split at e
    · rename_i q
      cases e
      rw [← q]
      exact h.1
    · exact allIx_s h.2 e
theorem slot1B_s {c f : Str} {i : Nat} {K : PySem.W.Frag} (h : slot1B c f i K = true) : ∃ p, SlX.Slot1 K (ga K c) f p i := by
  unfold slot1B at h
  split at h
  · rename_i p hp
    simp only [Bool.and_eq_true, decide_eq_true_eq] at h
    obtain ⟨h1, h2, h3, h4, h5⟩ := h
    exact ⟨p, hp, h1, h2, h3, h4, h5⟩
  · cases h
theorem slF_of {K : PySem.W.Frag} : ∀ {tb : STab}, slotsB tb K = true → SlF tb K
  | [], _ => ⟨fun _ _ _ e => by cases e⟩
  | q :: r, h => by
    unfold slotsB at h
    rw [List.all_cons, Bool.and_eq_true, Bool.and_eq_true] at h
    obtain ⟨⟨h1, h2⟩, h3⟩ := h
    refine ⟨fun c f i e => ?_⟩
    unfold sIx at e
    split at e
    · rename_i hc
      subst hc
      exact ⟨(clsB_s h1).1, slot1B_s (allIx_s h2 e)⟩
    · exact (slF_of (tb := r) h3).at_ c f i e
/-! ### reading -/
def fldOf (tb : STab) (f : Str) (g : G) : D → Option D
  | .ins c xs => match sIx tb c f with
    | some i => xs[i]?
    | none => none
  | .ref k => match g[k]? with
    | some (.ins c j fs) => match g[j]? with
      | some .xd => match sIx tb c f with
        | some i => match fs[i]? with
          | some (some d) => some d
          | _ => none
        | none => none
      | _ => none
    | _ => none
  | _ => none
theorem fldOf_s {tb : STab} {f : Str} {K : PySem.W.Frag} {m : Md} {g : G} {H : Hp} {d e : D} {v : V} (F : SlF tb K) (r : Rel K m g H) (h : Den K m d v) (q : fldOf tb f g d = some e) :
    ∃ a C dx p vs i u, v = .ref a ∧ SlX.Slt H a C dx vs ∧ SlX.SCls K C ∧ SlX.Slot1 K C f p i ∧ vs[i]? = some (some u) ∧ Den K m e u := by
  unfold fldOf at q
  split at q
  · rename_i c xs
    split at q
    · rename_i i hi
      obtain ⟨a, dx, vs, rfl, h2, h3⟩ := ins_slt r h
      obtain ⟨hc, p, hp⟩ := F.at_ _ _ _ hi
      obtain ⟨u, h4, h5⟩ := h3.get q
      exact ⟨a, _, dx, p, _, i, u, rfl, h2, hc, hp, by rw [List.getElem?_map, h4]; rfl, h5⟩
    · cases q
  · rename_i k
    split at q
    · rename_i c j fs hk
      split at q
      · rename_i hx
        split at q
        · rename_i i hi
          split at q
          · rename_i d' hd
            cases q
            obtain ⟨a, dx, ws, rfl, _, _, _, h2, _, h3⟩ := cell_slt r h hk hx
            obtain ⟨hc, p, hp⟩ := F.at_ _ _ _ hi
            obtain ⟨u, h4, h5⟩ := h3 i _ hd
            exact ⟨a, _, dx, p, _, i, u, rfl, h2, hc, hp, h4, h5⟩
          · cases q
        · cases q
      · cases q
    · cases q
  · cases q
def prOf : List (Str × Fn) → Str → Option Fn
  | [], _ => none
  | q :: r, c => if q.1 = c then some q.2 else prOf r c
theorem prOf_mem : ∀ {ps : List (Str × Fn)} {c : Str} {fn : Fn}, prOf ps c = some fn → (c, fn) ∈ ps
  | [], _, _, e => by cases e
  | q :: r, c, fn, e => by
    unfold prOf at e
    split at e
    · rename_i h
      cases e
      rw [← h]
      exact List.mem_cons_self ..
    · exact List.mem_cons_of_mem _ (prOf_mem e)
/-- e.f: a slot or a property of one of the classes -/
def eAttr (tb : STab) (ps : List (Str × Fn)) (f : Str) (a : Ev) : Ev := fun σ g => (a σ g).bind fun d g1 => match fldOf tb f g1 d with
  | some e => .ok e g1
  | none => match insOf g1 d with
    | some c => match prOf ps c with
      | some fn => noEx (fn [d] g1)
      | none => .no
    | none => .no
/-- a property's getter -/
def prA (K : PySem.W.Frag) (c f : Str) : Addr := match PySem.W.recIn K (He.ma K (ga K c) f) "property" with
  | some (.ref g :: _) => g
  | _ => 0
def prB (c f : Str) (K : PySem.W.Frag) : Bool := decide (PySem.W.findIn K (.ref (ga K c)) f = some (some (.ref (He.ma K (ga K c) f)))) && (decide (PySem.W.specialIn K (.ref (He.ma K (ga K c) f)) "__get__" = some (some (.builtin "property.__get__"))) &&
  (decide (PySem.W.takesIn K (.ref (He.ma K (ga K c) f)) = some true) && (match PySem.W.recIn K (He.ma K (ga K c) f) "property" with
    | some (.ref _ :: _) => true
    | _ => false)))
theorem prB_s {c f : Str} {K : PySem.W.Frag} (h : prB c f K = true) : ∃ p, PySem.W.findIn K (.ref (ga K c)) f = some (some (.ref p)) ∧ PySem.W.specialIn K (.ref p) "__get__" = some (some (.builtin "property.__get__")) ∧ PySem.W.takesIn K (.ref p) = some true ∧
    ∃ rest, PySem.W.recIn K p "property" = some (.ref (prA K c f) :: rest) := by
  unfold prB at h
  simp only [Bool.and_eq_true, decide_eq_true_eq] at h
  obtain ⟨h1, h2, h3, h4⟩ := h
  refine ⟨_, h1, h2, h3, ?_⟩
  split at h4
  · rename_i g rest e
    refine ⟨rest, ?_⟩
    unfold prA
    rw [e]
  · cases h4
def PrF (tf : List He.Defn) (P : Program) (w : World) (K : PySem.W.Frag) (mg : Str → Option Value) (f : Str) (k : Nat) (ps : List (Str × Fn)) : Prop := ∀ q ∈ ps, SlX.SCls K (ga K q.1) ∧ prB q.1 f K = true ∧ OkA tf P w K mg (prA K q.1 f) k q.2
theorem prF_nil {tf : List He.Defn} {P : Program} {w : World} {K : PySem.W.Frag} {mg : Str → Option Value} {f : Str} {k : Nat} : PrF tf P w K mg f k [] := fun _ h => nomatch h
theorem OkA.mono {tf : List He.Defn} {P : Program} {w : World} {K : PySem.W.Frag} {mg : Str → Option Value} {a : Addr} {j k : Nat} {fn : Fn} (o : OkA tf P w K mg a j fn) (h : j ≤ k) : OkA tf P w K mg a k fn := ⟨o.1, fun b t => (o.2 b t).mono h⟩
theorem prF_cons {tf : List He.Defn} {P : Program} {w : World} {K : PySem.W.Frag} {mg : Str → Option Value} {f : Str} {j k : Nat} {ps : List (Str × Fn)} {c : Str} {fn : Fn} (hc : SlX.SCls K (ga K c)) (hp : prB c f K = true) (o : OkA tf P w K mg (prA K c f) j fn) (hj : j ≤ k)
    (r : PrF tf P w K mg f k ps) : PrF tf P w K mg f k ((c, fn) :: ps) := fun q hq => by
  rcases List.mem_cons.mp hq with e | e
  · subst e
    exact ⟨hc, hp, o.mono hj⟩
  · exact r q e
theorem noEx_s {α β : Type} {K : PySem.W.Frag} {W W' : WX} {σ σ' : L2.St} {R : Md → α → β → Prop} {r : Res α} {m : Md} {Q : β → Hp → Prop} (h : Post K W σ R (noEx r) m Q) : Post K W' σ' R r m Q := by
  cases r with
  | ok a g => exact h
  | ex e g => exact h.elim
  | no => exact h
section
variable {X : Cx} {W : WX} {tf : List He.Defn} {tb : STab} {ps : List (Str × Fn)} {j k : Nat} {f : Str} {pos : Pos} {e : Expr} {ea : Ev}
theorem gd_in1 {A : Around} (h : Gd A) : Gd A.in1 := h
theorem getprop_g {C a dx p fa : Addr} {vs : List (Option V)} {n : Nat} {sp : Sp} {b : Bool} {Q : VK} {pins : List (Addr × Obj)} {σ : L2.St} {H : Hp} {s : Shared} (I : Inv X pins σ H s) (h : SlX.Slt H a C dx vs) (c : SlX.SCls X.K C) (at_ : PySem.W.findIn X.K (.ref C) f = some (some (.ref p))) (get : PySem.W.specialIn X.K (.ref p) "__get__" = some (some (.builtin "property.__get__")))
    (tk : PySem.W.takesIn X.K (.ref p) = some true) (rc : ∃ rest, PySem.W.recIn X.K p "property" = some (.ref fa :: rest)) (F : FnG X.prog X.w X.K X.mg X.base n fa sp) (hr : Room (n + 1) X.A) (gd : Gd X.A)
    (q : sp [.ref a] H Q fun _ _ _ => False) : wpAny (model X.prog X.w) X.A (getAttr (.ref a) f b) (EP X pins σ Q) X.xe s := by
  obtain ⟨sl, od, _, J, _⟩ := SlX.slt_inst I h
  obtain ⟨rest, hrec⟩ := rc
  have I1 : Inv X pins σ H { s with toks := s.toks + 1 } := I.tok (s.toks + 1)
  refine PySem.W.get_bind I.kIn J (PySem.W.plainGet_of (c.get f)).1 (PySem.W.findObj_data c.ic at_ get tk) (PySem.W.plainGet_of (c.get f)).2 (wpAny_call (PySem.W.prop_get (s := { s with toks := s.toks + 1 }) I.kIn hrec ?_))
  refine codeAny_mono (F X.A.in1 X.stack { s with toks := s.toks + 1 } H [.ref a] [.ref a] Q (fun _ _ _ => False) hr.in1 (gd_in1 gd) I1.env0.in1 (.cons rfl .nil) q) fun r s' hq => ?_
  match r, hq with
  | .error e, hq =>
    obtain ⟨_, _, _, _, _, _, _, _, _, _, _, _, z⟩ := hq
    exact z.elim
  | .ok (.ret u), hq =>
    obtain ⟨v, H', I2, rv, q⟩ := I1.after hq
    exact wpAny_of_eq (PySem.W.handedOut_of (handed_of rv)) ⟨v, H', I2, rv, q⟩
  | .ok .next, hq => exact hq.elim
  | .ok .brk, hq => exact hq.elim
  | .ok .cont, hq => exact hq.elim
theorem x_attr (F : SlF tb X.K) (PF : PrF tf X.prog X.w X.K X.mg f k ps) (TB : TbB X.base X.mg tf X.K) (gd : Gd X.A) (hr : Room j X.A) (hj : k + 1 ≤ j) (ha : PE X e (tE X.K W ea)) (hb : attributeBase e f X.env (eval e X.env) = eval e X.env := by rfl) :
    PE X (.Attribute e f pos) (tE X.K W (eAttr tb ps f ea)) := by
  refine ⟨fun pins s σ H Q I ⟨m, σ', g, rl, sl, hl, q⟩ => ?_⟩
  refine attr_of hb ?_
  have arg : tE X.K W ea σ H fun v H1 => ∃ m1 g1 d, Rel X.K m1 g1 H1 ∧ Den X.K m1 d v ∧ Post X.K W σ (Den X.K) (match fldOf tb f g1 d with
      | some e => .ok e g1
      | none => match insOf g1 d with
        | some c => match prOf ps c with
          | some fn => noEx (fn [d] g1)
          | none => .no
        | none => .no) m1 Q := ⟨m, σ', g, rl, sl, hl, Post.bind q fun d g1 m1 H1 v l1 r1 d1 p1 => ⟨m1, g1, d, r1, d1, p1⟩⟩
  refine thn (ha.run pins s σ H _ I arg) fun u s1 ⟨v, H1, I1, rv, m1, g1, d, r1, d1, p1⟩ => ?_
  split at p1
  · rename_i e' he
    obtain ⟨a, C, dx, p, vs, i, w, rfl, h1, h2, h3, h4, h5⟩ := fldOf_s F r1 d1 he
    obtain rfl : u = Value.ref a := rv
    exact SlX.getslot_ok I1 h1 h2 h3 h4 fun u' s2 I2 ru => ⟨w, H1, I2, ru, p1 m1 H1 w (Le.refl m1) r1 h5⟩
  · split at p1
    · rename_i c hc
      split at p1
      · rename_i fn hfn
        obtain ⟨a, dx, ws, rfl, h1⟩ := insOf_s r1 d1 hc
        obtain rfl : u = Value.ref a := rv
        obtain ⟨h2, h3, h4, h5⟩ := PF _ (prOf_mem hfn)
        obtain ⟨p, e1, e2, e3, e4⟩ := prB_s h3
        exact getprop_g I1 h1 h2 e1 e2 e3 e4 (h5 X.base TB) (hr.mono hj) gd ⟨m1, g1, [d], r1, .cons d1 .nil, noEx_s p1⟩
      · exact p1.elim
    · exact p1.elim
end
/-! ### methods -/
def MeF (tf : List He.Defn) (P : Program) (w : World) (K : PySem.W.Frag) (mg : Str → Option Value) (f : Str) (k : Nat) (ps : List (Str × Fn)) : Prop := ∀ q ∈ ps, SlX.SCls K (ga K q.1) ∧ Meth K (ga K q.1) f (He.ma K (ga K q.1) f) ∧ OkA tf P w K mg (He.ma K (ga K q.1) f) k q.2
theorem meF_nil {tf : List He.Defn} {P : Program} {w : World} {K : PySem.W.Frag} {mg : Str → Option Value} {f : Str} {k : Nat} : MeF tf P w K mg f k [] := fun _ h => nomatch h
theorem meF_cons {tf : List He.Defn} {P : Program} {w : World} {K : PySem.W.Frag} {mg : Str → Option Value} {f : Str} {j k : Nat} {ps : List (Str × Fn)} {c : Str} {fn : Fn} (hc : SlX.SCls K (ga K c)) (hp : Meth K (ga K c) f (He.ma K (ga K c) f)) (o : OkA tf P w K mg (He.ma K (ga K c) f) j fn) (hj : j ≤ k)
    (r : MeF tf P w K mg f k ps) : MeF tf P w K mg f k ((c, fn) :: ps) := fun q hq => by
  rcases List.mem_cons.mp hq with e | e
  · subst e
    exact ⟨hc, hp, o.mono hj⟩
  · exact r q e
def eOwnM (ps : List (Str × Fn)) (a : Ev) (t : Av) : Ev := fun σ g => (a σ g).bind fun d g1 => match insOf g1 d with
  | some c => match prOf ps c with
    | some fn => (t σ g1).bind fun ds g2 => fn (d :: ds) g2
    | none => .no
  | none => .no
section
variable {X : Cx} {W : WX} {tf : List He.Defn} {ps : List (Str × Fn)} {j k : Nat} {m : Str} {pos apos : Pos} {o e : Expr} {es : List Expr} {ea : Ev} {t : Av}
theorem x_meth {pl : Sem Bool} (MF : MeF tf X.prog X.w X.K X.mg m k ps) (TB : TbB X.base X.mg tf X.K) (gd : Gd X.A) (hr : Room j X.A) (hj : k ≤ j) (tk : Takes X W) (ho : PE X o (tE X.K W ea)) (ha : PA X (e :: es) (tA X.K W t))
    (hst : starEach (e :: es) X.env = (false, eval e X.env) :: starEach es X.env := by rfl) (hpl : (backTo pos (starEach es X.env)).any (·.1) = false := by rfl)
    (ht : eval (.Call (.Attribute o m apos) (e :: es) [] pos) X.env = (do
      let ov ← eval o X.env
      standAt apos.atName
      let (f, first) ← holding [ov] (getMethod ov m pl)
      callWith pos f first (backTo pos (starEach (e :: es) X.env)) (backToKw pos (keywordEach [] X.env))) := by rfl) :
    PE X (.Call (.Attribute o m apos) (e :: es) [] pos) (tE X.K W (eOwnM ps ea t)) := by
  refine ⟨fun pins s σ H Q I ⟨m0, σ', g, rl, sl, hl, q⟩ => ?_⟩
  have arg : tE X.K W ea σ H fun v H1 => ∃ m1 g1 d, Le m0 m1 ∧ Rel X.K m1 g1 H1 ∧ Den X.K m1 d v ∧ Post X.K W σ (Den X.K) (match insOf g1 d with
      | some c => match prOf ps c with
        | some fn => (t σ' g1).bind fun ds g2 => fn (d :: ds) g2
        | none => .no
      | none => .no) m1 Q := ⟨m0, σ', g, rl, sl, hl, Post.bind q fun d g1 m1 H1 v l1 r1 d1 p1 => ⟨m1, g1, d, l1, r1, d1, p1⟩⟩
  refine PySem.W.methodCall_KW (pl := pl) (thn (ho.run pins s σ H _ I arg) fun u s1 ⟨x, H1, I1, rx, m1, g1, d, l1, r1, d1, p1⟩ => ?_) ht
  split at p1
  · rename_i c hc
    split at p1
    · rename_i fn hfn
      obtain ⟨a, dx, ws, rfl, h1⟩ := insOf_s r1 d1 hc
      obtain rfl : u = Value.ref a := rx
      obtain ⟨h2, h3, h4, h5⟩ := MF _ (prOf_mem hfn)
      refine SlX.getmethsl_ok I1 h1 h2 h3 ?_
      have arg2 : tA X.K W t σ H1 fun vs H2 => spOf X.K fn (V.ref a :: vs) H2 Q (WE W σ) := ⟨m1, σ', g1, r1, sl.mono l1, hl, Post.bind p1 fun ds g2 m2 H2 vs l2 r2 d2 p2 => sp_call r2 (.cons (d1.mono l2) d2) p2⟩
      refine PySem.W.callWith_K (first := [.ref a]) (h₀ := X.base) I.ok.mod.kin h3.kp (thn (ha.run pos pins s1 σ H1 _ I1 arg2) fun us s2 ⟨ws2, H2, I2, r, q2⟩ => ⟨I2.kIn, ?_⟩) hst hpl
      exact run_g (us := .ref a :: us) (vs := .ref a :: ws2) (h5 X.base TB) (hr.mono hj) gd tk I2 (.cons rfl r) q2
    · exact p1.elim
  · exact p1.elim
theorem x_meth0 {pl : Sem Bool} (MF : MeF tf X.prog X.w X.K X.mg m k ps) (TB : TbB X.base X.mg tf X.K) (gd : Gd X.A) (hr : Room j X.A) (hj : k ≤ j) (tk : Takes X W) (ho : PE X o (tE X.K W ea))
    (ht : eval (.Call (.Attribute o m apos) [] [] pos) X.env = (do
      let ov ← eval o X.env
      standAt apos.atName
      let (f, first) ← holding [ov] (getMethod ov m pl)
      callWith pos f first (backTo pos (starEach [] X.env)) (backToKw pos (keywordEach [] X.env))) := by rfl) :
    PE X (.Call (.Attribute o m apos) [] [] pos) (tE X.K W (eOwnM ps ea aNil)) := by
  refine ⟨fun pins s σ H Q I ⟨m0, σ', g, rl, sl, hl, q⟩ => ?_⟩
  have arg : tE X.K W ea σ H fun v H1 => ∃ m1 g1 d, Rel X.K m1 g1 H1 ∧ Den X.K m1 d v ∧ Post X.K W σ (Den X.K) (match insOf g1 d with
      | some c => match prOf ps c with
        | some fn => fn [d] g1
        | none => .no
      | none => .no) m1 Q := ⟨m0, σ', g, rl, sl, hl, Post.bind q fun d g1 m1 H1 v l1 r1 d1 p1 => ⟨m1, g1, d, r1, d1, p1⟩⟩
  refine PySem.W.methodCall_KW (pl := pl) (thn (ho.run pins s σ H _ I arg) fun u s1 ⟨x, H1, I1, rx, m1, g1, d, r1, d1, p1⟩ => ?_) ht
  split at p1
  · rename_i c hc
    split at p1
    · rename_i fn hfn
      obtain ⟨a, dx, ws, rfl, h1⟩ := insOf_s r1 d1 hc
      obtain rfl : u = Value.ref a := rx
      obtain ⟨h2, h3, h4, h5⟩ := MF _ (prOf_mem hfn)
      refine SlX.getmethsl_ok I1 h1 h2 h3 ?_
      exact PySem.W.callWith_K0 (first := [.ref a]) I1.kIn h3.kp (run_g (us := [.ref a]) (vs := [.ref a]) (h5 X.base TB) (hr.mono hj) gd tk I1 (.cons rfl .nil) (sp_call r1 (.cons d1 .nil) p1))
    · exact p1.elim
  · exact p1.elim
end
end AW
/-! Bi2: instances: making, storing; isinstance with a tuple of classes; defaults. -/
namespace AW
open PySem PySem.Spec PyProof.Rows L2
/-! ### storing -/
def putD (i : Nat) (d : D) (fs : List (Option D)) : List (Option D) := (fs ++ List.replicate (i + 1 - fs.length) none).set i (some d)
theorem putD_len {i : Nat} {d : D} {fs : List (Option D)} : (putD i d fs).length = max fs.length (i + 1) := by
  unfold putD
  simp only [List.length_set, List.length_append, List.length_replicate]
  omega
theorem putS_len {i : Nat} {v : V} {vs : List (Option V)} : (SlX.putS i v vs).length = max vs.length (i + 1) := by
  unfold SlX.putS
  simp only [List.length_set, List.length_append, List.length_replicate]
  omega
theorem putD_ne {i j : Nat} {d e : D} {fs : List (Option D)} (h : j ≠ i) (q : (putD i d fs)[j]? = some (some e)) : fs[j]? = some (some e) := by
  unfold putD at q
  rw [List.getElem?_set_ne (Ne.symm h)] at q
  by_cases hj : j < fs.length
  · rwa [List.getElem?_append_left hj] at q
  · rw [List.getElem?_append_right (by omega), List.getElem?_replicate] at q
    split at q <;> cases q
theorem putD_same {i : Nat} {d e : D} {fs : List (Option D)} (q : (putD i d fs)[i]? = some (some e)) : e = d := by
  unfold putD at q
  rw [List.getElem?_set_self (by simp only [List.length_append, List.length_replicate]; omega)] at q
  exact (Option.some.inj (Option.some.inj q)).symm
theorem fldOk_put {K : PySem.W.Frag} {m : Md} {fs : List (Option D)} {ws : List (Option V)} {i : Nat} {d : D} {v : V} (h : FldOk K m fs ws) (hd : Den K m d v) : FldOk K m (putD i d fs) (SlX.putS i v ws) := fun j e q => by
  by_cases hj : j = i
  · subst hj
    rw [putD_same q]
    exact ⟨v, SlX.putS_get _ _ _, hd⟩
  · obtain ⟨w, h1, h2⟩ := h j e (putD_ne hj q)
    exact ⟨w, (SlX.putS_ne hj).mpr h1, h2⟩
def insSet (tb : STab) (f : Str) (k : Nat) (d : D) (g : G) (c : Str) (j : Nat) (fs : List (Option D)) : Option G := match sIx tb c f with
  | some i => some ((g.set j .xd).set k (.ins c j (putD i d fs)))
  | none => none
def putFld (tb : STab) (f : Str) (ov d : D) (g : G) : Option G := match ov with
  | .ref k => match g[k]? with
    | some (.new c j) => insSet tb f k d g c j []
    | some (.ins c j fs) => match g[j]? with
      | some .xd => insSet tb f k d g c j fs
      | _ => none
    | _ => none
  | _ => none
theorem insSet_s {tb : STab} {f : Str} {K : PySem.W.Frag} {m : Md} {g g' : G} {H : Hp} {k j : Nat} {d : D} {y : V} {c : Str} {fs : List (Option D)} {a dx : Addr} {ws : List (Option V)} (F : SlF tb K) (r : Rel K m g H) (hd : Den K m d y) (ha : m.r k = some a) (hx : m.r j = some dx)
    (hs : SlX.Slt H a (ga K c) dx ws) (hl : ws.length ≤ fs.length) (hf : FldOk K m fs ws) (q : insSet tb f k d g c j fs = some g') :
    ∃ C p i, SlX.Slt H a C dx ws ∧ SlX.SCls K C ∧ SlX.Slot1 K C f p i ∧ Rel K m g' (SlX.slH H a C dx (SlX.putS i y ws)) := by
  unfold insSet at q
  split at q
  · rename_i i hi
    cases q
    obtain ⟨h1, p, h2⟩ := F.at_ _ _ _ hi
    refine ⟨_, p, i, hs, h1, h2, ?_⟩
    have r2 := r.cellSet (c := .xd) (o := .xd []) hx rfl
    exact r2.cellSet (c := .ins c j (putD i d fs)) ha ⟨dx, _, rfl, hx, by rw [putS_len, putD_len]; omega, fldOk_put hf hd⟩
  · cases q
theorem putFld_s {tb : STab} {f : Str} {K : PySem.W.Frag} {m : Md} {g g' : G} {H : Hp} {ov d : D} {x y : V} (F : SlF tb K) (r : Rel K m g H) (ho : Den K m ov x) (hd : Den K m d y) (q : putFld tb f ov d g = some g') :
    ∃ a C dx p vs i, x = .ref a ∧ SlX.Slt H a C dx vs ∧ SlX.SCls K C ∧ SlX.Slot1 K C f p i ∧ Rel K m g' (SlX.slH H a C dx (SlX.putS i y vs)) := by
  unfold putFld at q
  split at q
  · rename_i k
    split at q
    · rename_i c j hk
      cases ho with
      | ref h1 =>
        obtain ⟨a', e1, _, o, e2, dx, e3, e4⟩ := r.cell _ _ hk
        rw [h1] at e1
        cases e1
        subst e3
        obtain ⟨C, p, i, q1, q2, q3, q4⟩ := insSet_s F r hd h1 e4 (.inl ⟨e2, rfl⟩) (Nat.le_refl _) (fun i d z => by simp at z) q
        exact ⟨_, C, dx, p, _, i, rfl, q1, q2, q3, q4⟩
    · rename_i c j fs hk
      split at q
      · rename_i hx
        obtain ⟨a, dx, ws, rfl, h1, h2, _, h3, h4, h5⟩ := cell_slt r ho hk hx
        obtain ⟨C, p, i, q1, q2, q3, q4⟩ := insSet_s F r hd h1 h2 h3 h4 h5 q
        exact ⟨_, C, dx, p, _, i, rfl, q1, q2, q3, q4⟩
      · cases q
    · cases q
  · cases q
/-- o.f = e -/
def sFld (tb : STab) (f : Str) (o e : Ev) : Sx := fun σ g => sBind σ (e σ g) fun d g1 => sBind σ (o σ g1) fun ov g2 => match putFld tb f ov d g2 with
  | some g3 => .nx σ g3
  | none => .no
section
variable {X : Cx} {W : WX} {tb : STab} {f : Str} {pos pos' : Pos} {o value : Expr} {eo ev : Ev}
theorem s_fld (F : SlF tb X.K) (ho : PE X o (tE X.K W eo)) (hv : PE X value (tE X.K W ev)) (hs : swapsWith value (some (.Attribute o f pos')) pos.line X.env = pure false := by rfl) : PS X (.Assign [.Attribute o f pos'] value pos) (tS X.K W (sFld tb f eo ev)) :=
  PS.imp (SlX.ps_sl ho hv hs) fun D' σ H h => by
    obtain ⟨m, σ', g, rl, sl, p⟩ := h
    refine ⟨m, σ', g, rl, sl.1, sl.2, sBind_s sl p fun d g1 m1 H1 y l1 r1 d1 p1 => ?_⟩
    refine ⟨m1, σ', g1, r1, (sl.mono l1).1, sl.2, sBind_s (sl.mono l1) p1 fun ov g2 m2 H2 x l2 r2 d2 p2 => ?_⟩
    split at p2
    · rename_i g3 h3
      obtain ⟨a, C, dx, q, vs, i, e1, e2, e3, e4, e5⟩ := putFld_s F r2 d2 (d1.mono l2) h3
      exact ⟨a, C, dx, q, vs, i, e1, e2, e3, e4, p2 m2 _ σ (Le.refl m2) e5 ((sl.mono l1).mono l2)⟩
    · exact p2.elim
end
/-! ### making -/
def eMakeF (c : Str) (fn : Fn) : Fn := fun ds g => match fn (.ref (g.length + 1) :: ds) (g ++ [.own] ++ [.new c g.length]) with
  | .ok .non g' => settle g.length (.ref (g.length + 1)) g'
  | .ex e g' => settleX g.length e g'
  | _ => .no
theorem gd_make {A : Around} {C : Addr} {us : List Value} {kw : List (Str × Value)} (h : Gd A) : Gd (A.under (.builtin "type.__call__" ⟨.ref C :: us, kw⟩)) := by
  unfold Gd at *
  rw [← h]
  first | rfl | simp [Around.under, Code.guards, Code.isGuard, pushGuards]
section
variable {X : Cx} {W : WX} {tf : List He.Defn} {j k : Nat} {c x : Str} {fn : Fn} {p pos : Pos} {e : Expr} {es : List Expr} {t : Av}
theorem run_makeG {C f : Addr} {sp : Sp} {pins : List (Addr × Obj)} {σ : L2.St} {H : Hp} {s : Shared} {Q : VK} {us : List Value} {vs : List V} (M : Mk X.K C f) (F : FnG X.prog X.w X.K X.mg X.base k f sp) (hr : Room (k + 1) X.A) (gd : Gd X.A) (tk : Takes X W) (I : Inv X pins σ H s) (r : Vals vs us)
    (h : ∀ x dx, H x = Option.none → H dx = Option.none → dx ≠ x → sp (V.ref x :: vs) (upd (upd H dx (.own x)) x (.ins C dx [])) (fun v H2 => v = .non ∧ Q (.ref x) H2) (WE W σ)) :
    wpAny (model X.prog X.w) X.A (call (.ref C) us) (EP X pins σ Q) X.xe s := by
  have hq := h (s.heap.objs.size + 1) s.heap.objs.size (I.hok.fresh (Nat.le_succ _)) (I.hok.fresh (Nat.le_refl _)) (Nat.ne_of_lt (Nat.lt_succ_self _))
  have I2 := Inv.made (C := C) I
  have r2 : Vals (V.ref (s.heap.objs.size + 1) :: vs) (Value.ref (s.heap.objs.size + 1) :: us) := .cons rfl r
  refine wpAny_call (make_map (f := f) I.kIn M.makes M.init (beq_iff_eq.mp M.fn) (codeAny_mono (F _ X.stack _ _ (Value.ref (s.heap.objs.size + 1) :: us) _ _ _ (hr.make C us []) (gd_make gd) (I2.env0.make C us []) r2 hq) fun r s' hq' => ?_))
  match r, hq' with
  | .error e, hq' => exact passAt tk σ pins _ _ e s' I2 hq'
  | .ok (.ret u), hq' =>
    obtain ⟨v, H', I3, rv, ev, q3⟩ := I2.after hq'
    subst ev
    exact ⟨rv, ⟨V.ref (s.heap.objs.size + 1), H', I3, rfl, q3⟩⟩
  | .ok .next, hq' => exact hq'.elim
  | .ok .brk, hq' => exact hq'.elim
  | .ok .cont, hq' => exact hq'.elim
theorem sp_make {K : PySem.W.Frag} {σ : L2.St} {m : Md} {g : G} {H : Hp} {ds : List D} {vs : List V} {Q : VK} (r : Rel K m g H) (d : Dens K m ds vs) (h : Post K W σ (Den K) (eMakeF c fn ds g) m Q) (x dx : Addr) (hx : H x = none) (hd : H dx = none) (hne : dx ≠ x) :
    spOf K fn (V.ref x :: vs) (upd (upd H dx (.own x)) x (.ins (ga K c) dx [])) (fun v H2 => v = .non ∧ Q (.ref x) H2) (WE W σ) := by
  have r1 : Rel K (m.cell g.length dx) (g ++ [.own]) (upd H dx (.own x)) := r.cellAdd hd ⟨x, rfl⟩
  have hx1 : upd H dx (.own x) x = none := by rw [upd_ne (Ne.symm hne)]; exact hx
  have hrd : (m.cell g.length dx).r g.length = some dx := if_pos rfl
  have r2 : Rel K ((m.cell g.length dx).cell (g ++ [Cell.own]).length x) (g ++ [.own] ++ [.new c g.length]) (upd (upd H dx (.own x)) x (.ins (ga K c) dx [])) := r1.cellAdd hx1 ⟨dx, rfl, hrd⟩
  have l1 : Le m (m.cell g.length dx) := le_cell r.fresh
  have l2 : Le (m.cell g.length dx) ((m.cell g.length dx).cell (g ++ [Cell.own]).length x) := le_cell r1.fresh
  have hlen : (g ++ [Cell.own]).length = g.length + 1 := by simp
  have hself : ((m.cell g.length dx).cell (g ++ [Cell.own]).length x).r (g.length + 1) = some x := by
    rw [← hlen]
    exact if_pos rfl
  refine ⟨_, _, .ref (g.length + 1) :: ds, r2, .cons (.ref hself) (d.mono (l1.trans l2)), ?_⟩
  unfold eMakeF at h
  cases hf : fn (.ref (g.length + 1) :: ds) (g ++ [.own] ++ [.new c g.length]) with
  | no => rw [hf] at h; exact h.elim
  | ex e g2 =>
    rw [hf] at h
    exact fun m' H' cv dd l r' hd' => settleX_s r ((l1.trans l2).trans l) r' hd' h
  | ok d2 g2 =>
    rw [hf] at h
    cases d2 with
    | non =>
      refine fun m' H' v l r' hd' => ?_
      cases hd'
      exact ⟨rfl, settle_s r ((l1.trans l2).trans l) r' (.ref (l.r _ _ hself)) h⟩
    | _ => exact h.elim
theorem x_make (M : Mk X.K (ga X.K c) (He.ma X.K (ga X.K c) "__init__")) (o : OkA tf X.prog X.w X.K X.mg (He.ma X.K (ga X.K c) "__init__") k fn) (TB : TbB X.base X.mg tf X.K) (gd : Gd X.A) (hr : Room j X.A) (hj : k + 1 ≤ j) (tk : Takes X W) (hg : Gl X c) (hm : X.mg c = some (.ref (ga X.K c)))
    (ha : PA X (e :: es) (tA X.K W t)) (hdb : (c == ("__debug__" : Str)) = false := by decide) (he : starEach (e :: es) X.env = (false, eval e X.env) :: starEach es X.env := by rfl) (hpl : (backTo pos (starEach es X.env)).any (·.1) = false := by rfl) :
    PE X (.Call (.Name c p) (e :: es) [] pos) (tE X.K W (eCall (eMakeF c fn) t)) := by
  refine ⟨fun pins s σ H Q J ⟨m, σ', g, rl, sl, hl, q⟩ => wpAny_Call_Name_kw (ld_glob J hg hm ?_ hdb)⟩
  have arg : tA X.K W t σ H fun vs H1 => ∀ x dx, H1 x = none → H1 dx = none → dx ≠ x → spOf X.K fn (V.ref x :: vs) (upd (upd H1 dx (.own x)) x (.ins (ga X.K c) dx [])) (fun v H2 => v = .non ∧ Q (.ref x) H2) (WE W σ) :=
    ⟨m, σ', g, rl, sl, hl, Post.bind q fun ds g1 m1 H1 vs l1 r1 d1 p1 => sp_make r1 d1 p1⟩
  refine PySem.W.callWith_K (h₀ := X.base) J.ok.mod.kin M.kp (thn (ha.run pos pins s σ H _ J arg) fun us s1 ⟨vs, H1, J1, r, q1⟩ => ⟨J1.kIn, ?_⟩) he hpl
  exact run_makeG M (o.2 X.base TB) (hr.mono hj) gd tk J1 r q1
theorem x_make0 (M : Mk X.K (ga X.K c) (He.ma X.K (ga X.K c) "__init__")) (o : OkA tf X.prog X.w X.K X.mg (He.ma X.K (ga X.K c) "__init__") k fn) (TB : TbB X.base X.mg tf X.K) (gd : Gd X.A) (hr : Room j X.A) (hj : k + 1 ≤ j) (tk : Takes X W) (hg : Gl X c) (hm : X.mg c = some (.ref (ga X.K c)))
    (hdb : (c == ("__debug__" : Str)) = false := by decide) :
    PE X (.Call (.Name c p) [] [] pos) (tE X.K W (eCall (eMakeF c fn) aNil)) := by
  refine ⟨fun pins s σ H Q J ⟨m, σ', g, rl, sl, hl, q⟩ => wpAny_Call_Name_kw (ld_glob J hg hm ?_ hdb)⟩
  exact PySem.W.callWith_K0 J.kIn M.kp (run_makeG (us := []) M (o.2 X.base TB) (hr.mono hj) gd tk J .nil (sp_make rl .nil q))
end
/-! ### isinstance with a tuple of classes -/
def isiOfs (own : List Str) (g : G) (d : D) : List CK → Option Bool
  | [] => some false
  | ck :: r => match isiOf own g ck d with
    | some true => some true
    | some false => isiOfs own g d r
    | none => none
def eIsiT (own : List Str) (cks : List CK) (a : Ev) : Ev := fun σ g => (a σ g).bind fun d g1 => match isiOfs own g1 d cks with
  | some b => .ok (.bl b) g1
  | none => .no
/-- isinstance(x, (c1, ..)), x an instance with slots -/
def rIsiTSl (K : PySem.W.Frag) : List V → Hp → VK → Prop := fun xs H Q => ∃ (a C dx : Addr) (vs : List (Option V)) (tp : Addr) (cs : List V) (us : List Value) (b : Bool), xs = [V.ref a, .ref tp] ∧ H tp = some (.tup cs) ∧ Paired ClsV cs us ∧ SlX.Slt H a C dx vs ∧ SlX.SCls K C ∧ SlX.SIsi K C ∧
  PySem.W.kitAny K (.ref C) us = some b ∧ Q (.bl b) H
theorem call_isiTSl {X : Cx} : CallR X (.builtin "isinstance") (rIsiTSl X.K) := by
  intro pins s σ H xs us Q I r h
  obtain ⟨a, C, dx, vs, tp, cs, ws, b, rfl, hT, k, hsl, hc, hi, e, q⟩ := h
  obtain ⟨u1, u2, rfl, r1, r2⟩ := r.two
  cases (show u1 = Value.ref a from r1)
  cases (show u2 = Value.ref tp from r2)
  obtain ⟨_, its, rv, o, h1, h2, n, h3⟩ := (show ObjOk X.prog X.w H s.heap tp (.tup cs) from I.hok tp _ hT)
  have e3 := ClsV.all k rv
  subst e3
  obtain ⟨oc, od, dt, sl⟩ := o
  simp only at h2 h3
  subst h2 h3
  obtain ⟨sl', od', _, J, _⟩ := SlX.slt_inst I hsl
  exact PySem.W.kia_tup (OwX.kitx_slt hc.ic (hc.get _) hi.ca hi.cn hi.ct hi.cm) I.kIn J h1 e (fun z => nomatch z) fun tk => ⟨.bl b, H, I.tok tk, rfl, q⟩
theorem cks_pair (K : PySem.W.Frag) : ∀ cks : List CK, Paired ClsV (cks.map (CK.v K)) (cks.map (CK.u K))
  | [] => .nil
  | ck :: r => .cons (CK.clsV K ck) (cks_pair K r)
def tCks (K : PySem.W.Frag) (cks : List CK) : TA := fun _ H Q => Q (cks.map (CK.v K)) H
theorem cks_nil {X : Cx} : PA X [] (tCks X.K []) := pa_nil
theorem cks_cons {X : Cx} {a : Expr} {es : List Expr} {ck : CK} {cks : List CK} (h : PE X a (tC (ck.v X.K))) (hr : PA X es (tCks X.K cks)) (he : starEach (a :: es) X.env = (false, eval a X.env) :: starEach es X.env := by rfl) : PA X (a :: es) (tCks X.K (ck :: cks)) := pa_cons h hr he
section
variable {X : Cx} {W : WX} {own : List Str} {a : Expr} {es : List Expr} {ea : Ev} {p pos pt : Pos}
theorem isiOfs_ins {K : PySem.W.Frag} {g : G} {d : D} {c : Str} (I : IsF own K) (hc : insOf g d = some c) (hin : c ∈ own) : ∀ {cks : List CK} {b : Bool}, isiOfs own g d cks = some b → PySem.W.kitAny K (.ref (ga K c)) (cks.map (CK.u K)) = some b
  | [], b, e => e
  | ck :: r, b, e => by
    have one : ∀ b', isiOf own g ck d = some b' → PySem.W.kitOne K (.ref (ga K c)) (ck.u K) = some b' := fun b' hb => by
      unfold isiOf at hb
      rw [hc] at hb
      dsimp only at hb
      rw [if_pos hin] at hb
      cases ck with
      | bt k => cases hb; exact I.ob c hin k
      | own c' =>
        dsimp only at hb
        split at hb
        · rename_i hin'
          cases hb
          exact I.oo c hin c' hin'
        · cases hb
    unfold isiOfs at e
    split at e
    · rename_i hb
      cases e
      exact kitAny_cons (one _ hb) (fun z => nomatch z) fun _ => rfl
    · rename_i hb
      exact kitAny_cons (one _ hb) (fun _ => isiOfs_ins I hc hin e) fun z => nomatch z
    · cases e
theorem isiOfs_bt {K : PySem.W.Frag} {g : G} {d : D} {k : TK} (I : IsF own K) (hn : insOf g d = none) (hk : tkOf g d = some k) : ∀ {cks : List CK} {b : Bool}, isiOfs own g d cks = some b → PySem.W.kitAny K (.type k.name) (cks.map (CK.u K)) = some b
  | [], b, e => e
  | ck :: r, b, e => by
    have one : ∀ b', isiOf own g ck d = some b' → PySem.W.kitOne K (.type k.name) (ck.u K) = some b' := fun b' hb => by
      unfold isiOf at hb
      rw [hn, hk] at hb
      dsimp only at hb
      cases ck with
      | bt j => cases hb; exact TK.kit K k j
      | own c' =>
        dsimp only at hb
        split at hb
        · rename_i hin'
          cases hb
          exact I.bo c' hin' k
        · cases hb
    unfold isiOfs at e
    split at e
    · rename_i hb
      cases e
      exact kitAny_cons (one _ hb) (fun z => nomatch z) fun _ => rfl
    · rename_i hb
      exact kitAny_cons (one _ hb) (fun _ => isiOfs_bt I hn hk e) fun z => nomatch z
    · cases e
/-- the head of a tuple of classes tells what stands at the first test -/
theorem isiOf_case {g : G} {d : D} {ck : CK} {b : Bool} (e : isiOf own g ck d = some b) : (∃ c, insOf g d = some c ∧ c ∈ own) ∨ (insOf g d = none ∧ ∃ k, tkOf g d = some k) := by
  unfold isiOf at e
  split at e
  · rename_i c hc
    split at e
    · rename_i hin
      exact .inl ⟨c, hc, hin⟩
    · cases e
  · rename_i hc
    split at e
    · rename_i k hk
      exact .inr ⟨hc, k, hk⟩
    · cases e
theorem x_isiT (ck : CK) (cks : List CK) {k1} (I : IsF own X.K) (hg : Gl X "isinstance") (hm : X.mg "isinstance" = none) (h2 : PA X es (tCks X.K (ck :: cks))) (ha : PE X a (tE X.K W ea)) (hz : cks.length < 60 := by decide)
    (he : starEach [a, .Tuple es k1 pt] X.env = (false, eval a X.env) :: starEach [.Tuple es k1 pt] X.env := by rfl) (he2 : starEach [.Tuple es k1 pt] X.env = (false, eval (.Tuple es k1 pt) X.env) :: starEach [] X.env := by rfl) (hpl : (backTo pos (starEach [.Tuple es k1 pt] X.env)).any (·.1) = false := by rfl) :
    PE X (.Call (.Name "isinstance" p) [a, .Tuple es k1 pt] [] pos) (tE X.K W (eIsiT own (ck :: cks) ea)) :=
  PE.imp (pe_callB (callR_or call_isiT call_isiTSl) hg hm PyProof.Rows.boot_isinstance (pa_cons ha (pa_cons (pe_tup h2) pa_nil he2) he) (by decide) (by decide) he hpl) fun σ H Q h => by
    obtain ⟨m, σ', g, rl, sl, hl, q⟩ := h
    refine ⟨m, σ', g, rl, sl, hl, Post.bind q fun d g1 m1 H1 v l1 r1 d1 p1 => ?_⟩
    have hz2 : (60 : Nat) < sizeLine := by decide
    refine ⟨by rw [List.length_map, List.length_cons]; omega, fun tp htp => ?_⟩
    have r2 : Rel X.K (m1.hide tp (.tup ((ck :: cks).map (CK.v X.K)))) g1 (upd H1 tp (.tup ((ck :: cks).map (CK.v X.K)))) := r1.hide htp
    have l2 : Le m1 (m1.hide tp (.tup ((ck :: cks).map (CK.v X.K)))) := le_hide (r1.hfree htp)
    split at p1
    · rename_i b hb
      have fin := p1 _ _ (.bl b) l2 r2 .bl
      have hb0 : ∃ b0, isiOf own g1 ck d = some b0 := by
        unfold isiOfs at hb
        split at hb
        · rename_i z; exact ⟨_, z⟩
        · rename_i z; exact ⟨_, z⟩
        · cases hb
      obtain ⟨b0, hb0⟩ := hb0
      rcases isiOf_case hb0 with ⟨c, hc, hin⟩ | ⟨hn, k, hk⟩
      · obtain ⟨x, dx, ws, rfl, hs⟩ := insOf_s r2 (d1.mono l2) hc
        exact .inr ⟨x, ga X.K c, dx, ws, tp, _, _, b, rfl, upd_same, cks_pair X.K _, hs, I.sc c hin, I.si c hin, isiOfs_ins I hc hin hb, fin⟩
      · exact .inl ⟨v, tp, _, _, _, b, rfl, upd_same, cks_pair X.K _, tkOf_s r2 (d1.mono l2) hk, isiOfs_bt I hn hk hb, fin⟩
    · exact p1.elim
end
end AW
/-! Bi3: defs with one default; the reach of methods. -/
namespace AW
open PySem PySem.Spec PyProof.Rows L2
section
variable {P : Program} {w : World} {K : PySem.W.Frag} {mg : Str → Option Value} {base : Heap} {x qual : Str} {params : Arguments} {body : List Stmt} {scope : Scope} {dv : V} {kws : List (Str × V)} {f : Addr} {fd : FuncData}
theorem fn_anyF {N ps : List Str} {n k : Nat} {b : Sx} {fn : Fn} {d : D} (F : FunD K x qual params body scope [dv] kws f fd) (S : FnScope N ps scope)
    (hN : ∀ ds g, ds.length ≠ n → fn ds g = .no) (hn : ps.length = n) (hdv : ∀ m, Den K m d dv)
    (hb1 : ∀ (T : Addr) (kV doc pm : Value) (an : Option Addr) (cdv ct : Value) (us its : List Value), us.length + 1 = ps.length → its.length = 1 →
      ∃ k, bindArgs (PySem.W.fnOf x qual params body scope (.ref T) kV doc pm an cdv ct) ⟨us, []⟩ = seqItems? (.ref T) >>= k ∧ k (some its.toArray) = pure (ps.zip (us ++ its)))
    (hb0 : ∀ (T : Addr) (kV doc pm : Value) (an : Option Addr) (cdv ct : Value) (us its : List Value), us.length = ps.length → its.length = 1 →
      ∃ k, bindArgs (PySem.W.fnOf x qual params body scope (.ref T) kV doc pm an cdv ct) ⟨us, []⟩ = seqItems? (.ref T) >>= k ∧ k (some its.toArray) = pure (ps.zip us))
    (hb : BodyOk P w K mg base N qual scope f body k b)
    (hf : ∀ ds g, ds.length = n → ∀ (E : XK) (m : Md) (Q : VK) (H0 : Hp), Rel K m g H0 → Post K (WF E) [] (Den K) (fn ds g) m Q → PostS K (WF E) (b (ds.map some ++ List.replicate (N.length - n) none) g) m { nx := fun _ H' => Q .non H', rt := Q }) :
    FnG P w K mg base (k + 1) f (spOf K (callF n [d] fn)) := fun A out s H us vs Q E hr hg e0 r h => by
  obtain ⟨oc, od, dV, kV, doc, pm, an, cd, ct, osl, rfl, lk, hcd, hD, _⟩ := F.ex
  have KX : K.In s.heap := e0.mod.kin.keeps fun b o e => (e0.bs b o e).1
  rcases hD with ⟨e, _⟩ | ⟨_, T, o, its, mm, rfl, lT, oT, rT⟩
  · cases e
  have hits : its.length = 1 := rT.length.symm
  obtain ⟨m, g, ds, rl, hd, p⟩ := h
  unfold callF fillD at p
  have hdv' : ds.length = vs.length := hd.length
  have hus : vs.length = us.length := r.length
  by_cases hl : ds.length < n
  · rw [if_pos hl] at p
    have hz : ds.length + [d].length - n = 0 := by simp; omega
    rw [hz, List.drop_zero] at p
    by_cases h1 : (ds ++ [d]).length = n
    · have h1' : ds.length + 1 = n := by simpa using h1
      have hu1 : us.length + 1 = ps.length := by omega
      have hd2 : Dens K m (ds ++ [d]) (vs ++ [dv]) := hd.append (.cons (hdv m) .nil)
      obtain ⟨kk, e1, e2⟩ := hb1 T kV doc pm an cd ct us its hu1 hits
      have bind : BindsTo s (PySem.W.fnOf x qual params body scope (.ref T) kV doc pm an cd ct) ⟨us, []⟩ (ps.zip (us ++ its)) := BindsTo.of_looks fun M => by
        rw [e1]
        exact looks_items KX lT oT (.of_pure e2)
      refine LamX.run_ofS lk hcd S hr e0 bind (r.append rT) (by rw [List.length_append, ← hd.length, hn]; simpa using h1) fun hr' => ?_
      exact ⟨_, hb cd A out s H E hr' hg, m, (ds ++ [d]).map some ++ List.replicate (N.length - n) none, g, rl, slots_start hd2 h1, hf _ g h1 E m Q H rl p⟩
    · rw [hN _ g h1] at p
      exact p.elim
  · rw [if_neg hl] at p
    by_cases h1 : ds.length = n
    · have hu1 : us.length = ps.length := by omega
      obtain ⟨kk, e1, e2⟩ := hb0 T kV doc pm an cd ct us its hu1 hits
      have bind : BindsTo s (PySem.W.fnOf x qual params body scope (.ref T) kV doc pm an cd ct) ⟨us, []⟩ (ps.zip us) := BindsTo.of_looks fun M => by
        rw [e1]
        exact looks_items KX lT oT (.of_pure e2)
      refine LamX.run_ofS lk hcd S hr e0 bind r (by omega) fun hr' => ?_
      exact ⟨_, hb cd A out s H E hr' hg, m, ds.map some ++ List.replicate (N.length - n) none, g, rl, slots_start hd h1, hf ds g h1 E m Q H rl p⟩
    · rw [hN ds g h1] at p
      exact p.elim
theorem fn_okFK {N ps : List Str} {n k : Nat} {b : Sx} {d : D} (F : FunD K x qual params body scope [dv] kws f fd) (S : FnScope N ps scope) (hn : ps.length = n) (hdv : ∀ m, Den K m d dv)
    (hb1 : ∀ (T : Addr) (kV doc pm : Value) (an : Option Addr) (cdv ct : Value) (us its : List Value), us.length + 1 = ps.length → its.length = 1 →
      ∃ k, bindArgs (PySem.W.fnOf x qual params body scope (.ref T) kV doc pm an cdv ct) ⟨us, []⟩ = seqItems? (.ref T) >>= k ∧ k (some its.toArray) = pure (ps.zip (us ++ its)))
    (hb0 : ∀ (T : Addr) (kV doc pm : Value) (an : Option Addr) (cdv ct : Value) (us its : List Value), us.length = ps.length → its.length = 1 →
      ∃ k, bindArgs (PySem.W.fnOf x qual params body scope (.ref T) kV doc pm an cdv ct) ⟨us, []⟩ = seqItems? (.ref T) >>= k ∧ k (some its.toArray) = pure (ps.zip us))
    (hb : BodyOk P w K mg base N qual scope f body k b) : FnG P w K mg base (k + 1) f (spOf K (callF n [d] (callK n N.length b))) :=
  fn_anyF F S callK_no hn hdv hb1 hb0 hb fun ds g hl E m Q H rl p => by
    unfold callK at p
    rw [if_pos hl] at p
    cases hr' : b (ds.map some ++ List.replicate (N.length - n) none) g with
    | nx σ g' => rw [hr'] at p; exact fun m' H' σv l r sl => p m' H' .non l r .non
    | rt d g' => rw [hr'] at p; exact fun m' H' v l r hd => p m' H' v l r hd
    | ex σ e g' => rw [hr'] at p; exact fun m' H' σv cv dd l r sl hd => settleX_s rl l r hd p
    | bk σ g' => rw [hr'] at p; exact p.elim
    | ct σ g' => rw [hr'] at p; exact p.elim
    | no => rw [hr'] at p; exact p.elim
theorem fn_okFD {N ps : List Str} {n k : Nat} {b : Sx} {d : D} (F : FunD K x qual params body scope [dv] kws f fd) (S : FnScope N ps scope) (hn : ps.length = n) (hdv : ∀ m, Den K m d dv)
    (hb1 : ∀ (T : Addr) (kV doc pm : Value) (an : Option Addr) (cdv ct : Value) (us its : List Value), us.length + 1 = ps.length → its.length = 1 →
      ∃ k, bindArgs (PySem.W.fnOf x qual params body scope (.ref T) kV doc pm an cdv ct) ⟨us, []⟩ = seqItems? (.ref T) >>= k ∧ k (some its.toArray) = pure (ps.zip (us ++ its)))
    (hb0 : ∀ (T : Addr) (kV doc pm : Value) (an : Option Addr) (cdv ct : Value) (us its : List Value), us.length = ps.length → its.length = 1 →
      ∃ k, bindArgs (PySem.W.fnOf x qual params body scope (.ref T) kV doc pm an cdv ct) ⟨us, []⟩ = seqItems? (.ref T) >>= k ∧ k (some its.toArray) = pure (ps.zip us))
    (hb : BodyOk P w K mg base N qual scope f body k b) : FnG P w K mg base (k + 1) f (spOf K (callF n [d] (callD n N.length b))) :=
  fn_anyF F S callD_no hn hdv hb1 hb0 hb fun ds g hl E m Q H rl p => by
    unfold callD at p
    rw [if_pos hl] at p
    cases hr' : b (ds.map some ++ List.replicate (N.length - n) none) g with
    | nx σ g' => rw [hr'] at p; exact fun m' H' σv l r sl => settle_s rl l r .non p
    | rt d g' => rw [hr'] at p; exact fun m' H' v l r hd => settle_s rl l r hd p
    | ex σ e g' => rw [hr'] at p; exact fun m' H' σv cv dd l r sl hd => settleX_s rl l r hd p
    | bk σ g' => rw [hr'] at p; exact p.elim
    | ct σ g' => rw [hr'] at p; exact p.elim
    | no => rw [hr'] at p; exact p.elim
end
/-- what the classes zs reach in two steps, their defs ms and getters ps in two more -/
def asM (xs ys zs : List Str) (ms ps : List (Str × Str)) : Reach := fun g =>
  let c := growN g 2 (rootsN g zs)
  let K1 := He.frT g (mainGlobals :: c)
  asN xs ys g ++ (c ++ growN g 2 ((ms.map fun q => He.ma K1 (ga K1 q.1) q.2) ++ ps.map fun q => prA K1 q.1 q.2))
end AW
/-! Bi4: operators by own dunders: x op y (y of the same class or a whole number), -x. -/
namespace AW
open PySem PySem.Spec PyProof.Rows L2
/-- x op y: x an instance of c, y one of c or an int -/
def oOwn (ps : List (Str × Fn)) (f : Op2) : Op2 := fun x y g => match insOf g x with
  | some c => match prOf ps c with
    | some fn => match y with
      | .int _ => noEx (fn [x, y] g)
      | y => match insOf g y with
        | some c' => if c = c' then noEx (fn [x, y] g) else .no
        | none => .no
    | none => .no
  | none => f x y g
def bopB (c : Str) (nm : String) (K : PySem.W.Frag) : Bool := PySem.W.selfFirst K (ga K c) && (decide (PySem.W.findIn K (.ref (ga K c)) (PySem.dunder nm) = some (some (.ref (He.ma K (ga K c) (PySem.dunder nm))))) && (PySem.W.isFn K (.ref (He.ma K (ga K c) (PySem.dunder nm))) &&
  (decide (PySem.W.findIn K (.ref (ga K c)) (dunderR nm) = some none) && ((PySem.W.findIn K (.type "int") (PySem.dunder nm)).isSome && ((PySem.W.findIn K (.type "int") (dunderR nm)).isSome && decide (PySem.W.subIn K (.type "int") (.ref (ga K c)) = some false))))))
def BoF (tf : List He.Defn) (P : Program) (w : World) (K : PySem.W.Frag) (mg : Str → Option Value) (nm : String) (k : Nat) (ps : List (Str × Fn)) : Prop := ∀ q ∈ ps, bopB q.1 nm K = true ∧ OkA tf P w K mg (He.ma K (ga K q.1) (PySem.dunder nm)) k q.2
theorem boF_nil {tf : List He.Defn} {P : Program} {w : World} {K : PySem.W.Frag} {mg : Str → Option Value} {nm : String} {k : Nat} : BoF tf P w K mg nm k [] := fun _ h => nomatch h
theorem boF_cons {tf : List He.Defn} {P : Program} {w : World} {K : PySem.W.Frag} {mg : Str → Option Value} {nm : String} {j k : Nat} {ps : List (Str × Fn)} {c : Str} {fn : Fn} (hp : bopB c nm K = true) (o : OkA tf P w K mg (He.ma K (ga K c) (PySem.dunder nm)) j fn) (hj : j ≤ k)
    (r : BoF tf P w K mg nm k ps) : BoF tf P w K mg nm k ((c, fn) :: ps) := fun q hq => by
  rcases List.mem_cons.mp hq with e | e
  · subst e
    exact ⟨hp, o.mono hj⟩
  · exact r q e
/-- what the operator is told of -/
def rOwnB (K : PySem.W.Frag) (tf : List He.Defn) (ps : List (Str × Fn)) : R2 := fun x y H Q => ∃ a c fn dx vs, x = .ref a ∧ prOf ps c = some fn ∧ SlX.Slt H a (ga K c) dx vs ∧ ((∃ i, y = .int i) ∨ ∃ b dy ws, y = .ref b ∧ SlX.Slt H b (ga K c) dy ws) ∧ spOf K fn [x, y] H Q fun _ _ _ => False
section
variable {X : Cx} {W : WX} {tf : List He.Defn} {ps : List (Str × Fn)} {j k : Nat} {op : Operator}
/-- a call that lets nothing out -/
theorem run_q {f : Addr} {sp : Sp} {pins : List (Addr × Obj)} {σ : L2.St} {H : Hp} {s : Shared} {Q : VK} {us : List Value} {vs : List V} (F : FnG X.prog X.w X.K X.mg X.base k f sp) (hr : Room k X.A) (gd : Gd X.A) (J : Inv X pins σ H s) (r : Vals vs us) (h : sp vs H Q fun _ _ _ => False) :
    wpAny (model X.prog X.w) X.A (call (.ref f) us) (EP X pins σ Q) X.xe s := by
  have c := F X.A X.stack s H us vs Q (fun _ _ _ => False) hr gd J.env0 r h
  refine wpAny_call (codeAny_mono c fun z s' hz => ?_)
  match z, hz with
  | .error e, hz =>
    obtain ⟨_, _, _, _, _, _, _, _, _, _, _, _, z⟩ := hz
    exact z.elim
  | .ok (.ret u), hz => exact J.after hz
  | .ok .next, hz => exact hz.elim
  | .ok .brk, hz => exact hz.elim
  | .ok .cont, hz => exact hz.elim
theorem op_ownB (BF : BoF tf X.prog X.w X.K X.mg op.info.2 k ps) (TB : TbB X.base X.mg tf X.K) (gd : Gd X.A) (hr : Room j X.A) (hj : k ≤ j) : OpR X (binaryOp op) (rOwnB X.K tf ps) := by
  intro pins s σ H x y v u Q I rx ry h
  obtain ⟨a, c, fn, dx, vs, rfl, hfn, ha, hy, q⟩ := h
  cases (show v = Value.ref a from rx)
  obtain ⟨hb, h4, h5⟩ := BF _ (prOf_mem hfn)
  unfold bopB at hb
  simp only [Bool.and_eq_true, decide_eq_true_eq] at hb
  obtain ⟨b1, b2, b3, b4, b5, b6, b7⟩ := hb
  obtain ⟨sl, od, _, J, _⟩ := SlX.slt_inst I ha
  obtain ⟨m, hF⟩ := I.fr
  rcases hy with ⟨i, rfl⟩ | ⟨b, dy, ws, rfl, hb'⟩
  · obtain ⟨t, rfl⟩ : ∃ t, u = Value.int i t := ry
    obtain ⟨fo, e5⟩ := Option.isSome_iff_exists.mp b5
    obtain ⟨ro, e6⟩ := Option.isSome_iff_exists.mp b6
    refine PySem.W.ksp_binT (T := "int") hF I.ok.mod.kin J rfl b1 b2 b3 b4 (.inl rfl) e5 e6 b7 ?_
    refine wpAny_mono (run_q (us := [.ref a, .int i t]) (vs := [.ref a, .int i]) (h5 X.base TB) (hr.mono hj) gd I (.cons rfl (.cons ⟨t, rfl⟩ .nil)) q) (fun w s' z => ?_) fun _ _ x => x
    obtain ⟨z', H', I', rz, qz⟩ := z
    exact SlX.cmpback rz ⟨z', H', I', rz, qz⟩
  · cases (show u = Value.ref b from ry)
    obtain ⟨sl', od', _, J', _⟩ := SlX.slt_inst I hb'
    refine PySem.W.binop_K hF I.ok.mod.kin J J'.type b1 b2 b3 ?_
    refine wpAny_mono (run_q (us := [.ref a, .ref b]) (vs := [.ref a, .ref b]) (h5 X.base TB) (hr.mono hj) gd I (.cons rfl (.cons rfl .nil)) q) (fun w s' z => ?_) fun _ _ x => x
    obtain ⟨z', H', I', rz, qz⟩ := z
    exact SlX.cmpback rz ⟨z', H', I', rz, qz⟩
theorem oOwn_s {K : PySem.W.Frag} {r : R2} {f : Op2} (hs : OpS K W r f) : OpS K W (fun x y H Q => rOwnB K tf ps x y H Q ∨ r x y H Q) (oOwn ps f) := fun σv m g H d e x y Q rl hd he p => by
  unfold oOwn at p
  split at p
  · rename_i c hc
    obtain ⟨a, dx, ws, rfl, h1⟩ := insOf_s rl hd hc
    split at p
    · rename_i fn hfn
      split at p
      · rename_i i
        cases he
        exact .inl ⟨a, c, fn, dx, ws, rfl, hfn, h1, .inl ⟨i, rfl⟩, m, g, _, rl, .cons hd (.cons .int .nil), noEx_s p⟩
      · split at p
        · rename_i c' hc'
          split at p
          · rename_i hcc
            subst hcc
            obtain ⟨b, dy, ws', rfl, h2⟩ := insOf_s rl he hc'
            exact .inl ⟨a, c, fn, dx, ws, rfl, hfn, h1, .inr ⟨b, dy, ws', rfl, h2⟩, m, g, _, rl, .cons hd (.cons he .nil), noEx_s p⟩
          · exact p.elim
        · exact p.elim
    · exact p.elim
  · exact .inr (hs σv m g H d e x y Q rl hd he p)
variable {a b : Expr} {ea eb : Ev} {pos : Pos}
theorem x_opO {r : R2} {f : Op2} (ho : OpR X (binaryOp op) r) (hs : OpS X.K W r f) (BF : BoF tf X.prog X.w X.K X.mg op.info.2 k ps) (TB : TbB X.base X.mg tf X.K) (gd : Gd X.A) (hr : Room j X.A) (hj : k ≤ j) (ha : PE X a (tE X.K W ea)) (hb : PE X b (tE X.K W eb)) :
    PE X (.BinOp a op b pos) (tE X.K W (eOp (oOwn ps f) ea eb)) := x_op (opR_or (op_ownB BF TB gd hr hj) ho) (oOwn_s hs) ha hb
end
end AW
/-! Bi5: comparisons by own dunders (x == y, y an instance too, a whole number, a truth value, None or a text); -x. -/
namespace AW
open PySem PySem.Spec PyProof.Rows L2
/-- the kinds on the right side that are told -/
def rkOf : D → Option TK
  | .int _ => some .int
  | .bl _ => some .bl
  | .non => some .non
  | .str _ => some .str
  | _ => none
/-- x op y by the dunder of x's class -/
def oCmpO (ps : List (Str × Fn)) (own : List Str) (f : Op2) : Op2 := fun x y g => match insOf g x with
  | some c => match prOf ps c with
    | some fn => match rkOf y with
      | some _ => noEx (fn [x, y] g)
      | none => match insOf g y with
        | some c' => if c' ∈ own then noEx (fn [x, y] g) else .no
        | none => .no
    | none => .no
  | none => f x y g
def cmpB (c : Str) (own : List Str) (nm : Str) (K : PySem.W.Frag) : Bool := decide (PySem.W.findIn K (.ref (ga K c)) nm = some (some (.ref (He.ma K (ga K c) nm)))) && (PySem.W.isFn K (.ref (He.ma K (ga K c) nm)) &&
  ((own.all fun c' => PySem.W.notFirst K (ga K c) (.ref (ga K c'))) && ([TK.int, .bl, .non, .str].all fun k => PySem.W.notFirst K (ga K c) (.type k.name))))
def CmF (tf : List He.Defn) (P : Program) (w : World) (K : PySem.W.Frag) (mg : Str → Option Value) (own : List Str) (nm : Str) (k : Nat) (ps : List (Str × Fn)) : Prop := ∀ q ∈ ps, cmpB q.1 own nm K = true ∧ OkA tf P w K mg (He.ma K (ga K q.1) nm) k q.2
theorem cmF_nil {tf : List He.Defn} {P : Program} {w : World} {K : PySem.W.Frag} {mg : Str → Option Value} {own : List Str} {nm : Str} {k : Nat} : CmF tf P w K mg own nm k [] := fun _ h => nomatch h
theorem cmF_cons {tf : List He.Defn} {P : Program} {w : World} {K : PySem.W.Frag} {mg : Str → Option Value} {own : List Str} {nm : Str} {j k : Nat} {ps : List (Str × Fn)} {c : Str} {fn : Fn} (hp : cmpB c own nm K = true) (o : OkA tf P w K mg (He.ma K (ga K c) nm) j fn) (hj : j ≤ k)
    (r : CmF tf P w K mg own nm k ps) : CmF tf P w K mg own nm k ((c, fn) :: ps) := fun q hq => by
  rcases List.mem_cons.mp hq with e | e
  · subst e
    exact ⟨hp, o.mono hj⟩
  · exact r q e
/-- a value of one of the told kinds -/
inductive RK : V → TK → Prop
  | int (i : Int) : RK (.int i) .int
  | bl (b : Bool) : RK (.bl b) .bl
  | non : RK .non .non
  | str (x : Str) : RK (.str x) .str
def rCmpO (K : PySem.W.Frag) (ps : List (Str × Fn)) (own : List Str) : R2 := fun x y H Q => ∃ a c fn dx vs, x = .ref a ∧ prOf ps c = some fn ∧ SlX.Slt H a (ga K c) dx vs ∧ ((∃ k, RK y k) ∨ ∃ b c' dy ws, y = .ref b ∧ c' ∈ own ∧ SlX.Slt H b (ga K c') dy ws) ∧ spOf K fn [x, y] H Q fun _ _ _ => False
section
variable {X : Cx} {W : WX} {tf : List He.Defn} {ps : List (Str × Fn)} {own : List Str} {j k : Nat} {op : CmpOp}
theorem rk_type {y : V} {t : TK} {u : Value} (h : RK y t) (r : RelV y u) : typeOf u = pure (.type t.name) := by
  cases h with
  | int i => obtain ⟨t, rfl⟩ : ∃ t, u = Value.int i t := r; rfl
  | bl b => obtain rfl : u = Value.bool b := r; rfl
  | non => obtain rfl : u = Value.none := r; rfl
  | str x => obtain ⟨t, rfl⟩ : ∃ t, u = Value.str x t := r; rfl
theorem op_cmpO (hop : ∀ a b, compareOp op a b = richCompare op a b) (CF : CmF tf X.prog X.w X.K X.mg own (cmpInfo op).2.1 k ps) (TB : TbB X.base X.mg tf X.K) (gd : Gd X.A) (hr : Room j X.A) (hj : k ≤ j) : OpR X (compareOp op) (rCmpO X.K ps own) := by
  intro pins s σ H x y v u Q I rx ry h
  obtain ⟨a, c, fn, dx, vs, rfl, hfn, ha, hy, q⟩ := h
  cases (show v = Value.ref a from rx)
  obtain ⟨hb, h4, h5⟩ := CF _ (prOf_mem hfn)
  unfold cmpB at hb
  simp only [Bool.and_eq_true, decide_eq_true_eq, List.all_eq_true] at hb
  obtain ⟨b1, b2, b3, b4⟩ := hb
  obtain ⟨sl, od, _, J, _⟩ := SlX.slt_inst I ha
  obtain ⟨m, hF⟩ := I.fr
  rw [hop]
  have fin := run_q (us := [.ref a, u]) (vs := [.ref a, y]) (h5 X.base TB) (hr.mono hj) gd I (.cons rfl (.cons ry .nil)) q
  have fin2 := wpAny_mono (Q' := PySem.W.CmpBack (EP X pins σ Q)) fin (fun w s' z => by
    obtain ⟨z', H', I', rz, qz⟩ := z
    exact SlX.cmpback rz ⟨z', H', I', rz, qz⟩) fun _ _ x => x
  rcases hy with ⟨t, ht⟩ | ⟨b, c', dy, ws, rfl, hin, hb'⟩
  · exact PySem.W.cmp_K (op := op) (tb := .type t.name) hr.units0 hF I.ok.mod.kin J (PySem.W.Looks.of_pure (rk_type ht ry)) (b4 t (by cases ht <;> simp)) b1 b2 fin2
  · cases (show u = Value.ref b from ry)
    obtain ⟨sl', od', _, J', _⟩ := SlX.slt_inst I hb'
    exact PySem.W.cmp_K (op := op) (tb := .ref (ga X.K c')) hr.units0 hF I.ok.mod.kin J J'.type (b3 c' hin) b1 b2 fin2
theorem oCmpO_s {K : PySem.W.Frag} {r : R2} {f : Op2} (hs : OpS K W r f) : OpS K W (fun x y H Q => rCmpO K ps own x y H Q ∨ r x y H Q) (oCmpO ps own f) := fun σv m g H d e x y Q rl hd he p => by
  unfold oCmpO at p
  split at p
  · rename_i c hc
    obtain ⟨a, dx, ws, rfl, h1⟩ := insOf_s rl hd hc
    split at p
    · rename_i fn hfn
      split at p
      · rename_i t ht
        refine .inl ⟨a, c, fn, dx, ws, rfl, hfn, h1, .inl ?_, m, g, _, rl, .cons hd (.cons he .nil), noEx_s p⟩
        cases e <;> cases ht <;> cases he
        · exact ⟨_, .non⟩
        · exact ⟨_, .bl _⟩
        · exact ⟨_, .int _⟩
        · exact ⟨_, .str _⟩
      · split at p
        · rename_i c' hc'
          split at p
          · rename_i hin
            obtain ⟨b, dy, ws', rfl, h2⟩ := insOf_s rl he hc'
            exact .inl ⟨a, c, fn, dx, ws, rfl, hfn, h1, .inr ⟨b, c', dy, ws', rfl, hin, h2⟩, m, g, _, rl, .cons hd (.cons he .nil), noEx_s p⟩
          · exact p.elim
        · exact p.elim
    · exact p.elim
  · exact .inr (hs σv m g H d e x y Q rl hd he p)
variable {a b : Expr} {ea eb : Ev} {pos : Pos}
theorem x_cmpO {r : R2} {f : Op2} (hop : ∀ a b, compareOp op a b = richCompare op a b) (ho : OpR X (compareOp op) r) (hs : OpS X.K W r f) (CF : CmF tf X.prog X.w X.K X.mg own (cmpInfo op).2.1 k ps) (TB : TbB X.base X.mg tf X.K) (gd : Gd X.A) (hr : Room j X.A) (hj : k ≤ j) (ha : PE X a (tE X.K W ea)) (hb : PE X b (tE X.K W eb)) (hm : behindInMarks op b = false) :
    PE X (.Compare a [op] [b] pos) (tE X.K W (eOp (oCmpO ps own f) ea eb)) := x_cmp (opR_or (op_cmpO hop CF TB gd hr hj) ho) (oCmpO_s hs) ha hb hm
/-! -x -/
def oNegO (ps : List (Str × Fn)) : Op1 := fun x g => match insOf g x with
  | some c => match prOf ps c with
    | some fn => noEx (fn [x] g)
    | none => .no
  | none => oNeg x g
def negB (c : Str) (K : PySem.W.Frag) : Bool := decide (PySem.W.findIn K (.ref (ga K c)) "__neg__" = some (some (.ref (He.ma K (ga K c) "__neg__")))) && PySem.W.isFn K (.ref (He.ma K (ga K c) "__neg__"))
def NgF (tf : List He.Defn) (P : Program) (w : World) (K : PySem.W.Frag) (mg : Str → Option Value) (k : Nat) (ps : List (Str × Fn)) : Prop := ∀ q ∈ ps, negB q.1 K = true ∧ OkA tf P w K mg (He.ma K (ga K q.1) "__neg__") k q.2
theorem ngF_nil {tf : List He.Defn} {P : Program} {w : World} {K : PySem.W.Frag} {mg : Str → Option Value} {k : Nat} : NgF tf P w K mg k [] := fun _ h => nomatch h
theorem ngF_cons {tf : List He.Defn} {P : Program} {w : World} {K : PySem.W.Frag} {mg : Str → Option Value} {j k : Nat} {ps : List (Str × Fn)} {c : Str} {fn : Fn} (hp : negB c K = true) (o : OkA tf P w K mg (He.ma K (ga K c) "__neg__") j fn) (hj : j ≤ k)
    (r : NgF tf P w K mg k ps) : NgF tf P w K mg k ((c, fn) :: ps) := fun q hq => by
  rcases List.mem_cons.mp hq with e | e
  · subst e
    exact ⟨hp, o.mono hj⟩
  · exact r q e
def rNegO (K : PySem.W.Frag) (ps : List (Str × Fn)) : V → Hp → VK → Prop := fun x H Q => (∃ a c fn dx vs, x = .ref a ∧ prOf ps c = some fn ∧ SlX.Slt H a (ga K c) dx vs ∧ spOf K fn [x] H Q fun _ _ _ => False) ∨ rU (fun i => .int (-i)) x H Q
theorem un_negO (NF : NgF tf X.prog X.w X.K X.mg k ps) (TB : TbB X.base X.mg tf X.K) (gd : Gd X.A) (hr : Room j X.A) (hj : k ≤ j) : UnR X (unaryOp .USub) (rNegO X.K ps) := by
  intro pins s σ H x v Q I rx h
  rcases h with ⟨a, c, fn, dx, vs, rfl, hfn, ha, q⟩ | h
  · cases (show v = Value.ref a from rx)
    obtain ⟨hb, h4, h5⟩ := NF _ (prOf_mem hfn)
    unfold negB at hb
    simp only [Bool.and_eq_true, decide_eq_true_eq] at hb
    obtain ⟨sl, od, _, J, _⟩ := SlX.slt_inst I ha
    obtain ⟨m, hF⟩ := I.fr
    exact PySem.W.ksp_neg hF I.ok.mod.kin J hb.1 hb.2 (run_q (us := [.ref a]) (vs := [.ref a]) (h5 X.base TB) (hr.mono hj) gd I (.cons rfl .nil) q)
  · exact un_neg pins s σ H x v Q I rx h
theorem oNegO_s {K : PySem.W.Frag} : UnS K W (rNegO K ps) (oNegO ps) := fun σv m g H d x Q rl hd p => by
  unfold oNegO at p
  split at p
  · rename_i c hc
    obtain ⟨a, dx, ws, rfl, h1⟩ := insOf_s rl hd hc
    split at p
    · rename_i fn hfn
      exact .inl ⟨a, c, fn, dx, ws, rfl, hfn, h1, m, g, _, rl, .cons hd .nil, noEx_s p⟩
    · exact p.elim
  · exact .inr (oNeg_s σv m g H d x Q rl hd p)
theorem x_negO (NF : NgF tf X.prog X.w X.K X.mg k ps) (TB : TbB X.base X.mg tf X.K) (gd : Gd X.A) (hr : Room j X.A) (hj : k ≤ j) (ha : PE X a (tE X.K W ea)) : PE X (.UnaryOp .USub a pos) (tE X.K W (eUn (oNegO ps) ea)) := x_un (un_negO NF TB gd hr hj) oNegO_s ha
end
end AW
/-! Bk1: class methods; a call of a class held by a local; len(set(x)), x of whole numbers. -/
namespace AW
open PySem PySem.Spec PyProof.Rows L2
/-! ### a class held by a local -/
def eMakeV (fns : List (Str × Fn)) (i : Nat) (t : Av) : Ev := fun σ g => match σ[i]? with
  | some (some (.glo nm)) => match prOf fns nm with
    | some fn => eCall (eMakeF nm fn) t σ g
    | none => .no
  | _ => .no
def MvF (tf : List He.Defn) (P : Program) (w : World) (K : PySem.W.Frag) (mg : Str → Option Value) (k : Nat) (ps : List (Str × Fn)) : Prop := ∀ q ∈ ps, Mk K (ga K q.1) (He.ma K (ga K q.1) "__init__") ∧ OkA tf P w K mg (He.ma K (ga K q.1) "__init__") k q.2
theorem mvF_nil {tf : List He.Defn} {P : Program} {w : World} {K : PySem.W.Frag} {mg : Str → Option Value} {k : Nat} : MvF tf P w K mg k [] := fun _ h => nomatch h
theorem mvF_cons {tf : List He.Defn} {P : Program} {w : World} {K : PySem.W.Frag} {mg : Str → Option Value} {j k : Nat} {ps : List (Str × Fn)} {c : Str} {fn : Fn} (M : Mk K (ga K c) (He.ma K (ga K c) "__init__")) (o : OkA tf P w K mg (He.ma K (ga K c) "__init__") j fn) (hj : j ≤ k) (r : MvF tf P w K mg k ps) : MvF tf P w K mg k ((c, fn) :: ps) := fun q hq => by
  rcases List.mem_cons.mp hq with e | e
  · subst e
    exact ⟨M, o.mono hj⟩
  · exact r q e
/-! ### class methods -/
def cmA (K : PySem.W.Frag) (c f : Str) : Addr := match PySem.W.recIn K (He.ma K (ga K c) f) "classmethod" with
  | some (.ref g :: _) => g
  | _ => 0
def cmB (c m : Str) (K : PySem.W.Frag) : Bool := PySem.W.readsIn K (ga K c) (.type "type") && (decide (PySem.W.specialIn K (.ref (ga K c)) "__getattribute__" = some (some (.builtin "type.__getattribute__"))) &&
  ((match PySem.W.findCls K (.ref (ga K c)) (.type "type") m with
    | some (.get f o a b) => decide (f = .builtin "classmethod.__get__") && (decide (o = .ref (He.ma K (ga K c) m)) && (decide (a = .none) && decide (b = .ref (ga K c))))
    | _ => false) && ((match PySem.W.recIn K (He.ma K (ga K c) m) "classmethod" with
    | some (.ref _ :: _) => true
    | _ => false) && PySem.W.fnIn K (cmA K c m))))
theorem cmB_s {c m : Str} {K : PySem.W.Frag} (h : cmB c m K = true) : ClX.CRead K (ga K c) (.type "type") ∧ ClX.CMet K (ga K c) (.type "type") m (He.ma K (ga K c) m) (cmA K c m) := by
  unfold cmB at h
  simp only [Bool.and_eq_true, decide_eq_true_eq] at h
  obtain ⟨h1, h2, h3, h4, h5⟩ := h
  refine ⟨⟨h1, h2⟩, ?_, ?_, h5⟩
  · split at h3
    · rename_i f o a b e
      simp only [Bool.and_eq_true, decide_eq_true_eq] at h3
      obtain ⟨rfl, rfl, rfl, rfl⟩ := h3
      exact e
    · cases h3
  · split at h4
    · rename_i g rest e
      refine ⟨rest, ?_⟩
      unfold cmA
      rw [e]
    · cases h4
def eClsM (c : Str) (fn : Fn) (t : Av) : Ev := eCall (fun ds => fn (.glo c :: ds)) t
section
variable {X : Cx} {W : WX} {tf : List He.Defn} {j k i : Nat} {fns : List (Str × Fn)} {c x m : Str} {p pos apos : Pos} {e : Expr} {es : List Expr} {t : Av} {fn : Fn}
theorem x_makeV (MV : MvF tf X.prog X.w X.K X.mg k fns) (hvar : PE X (.Name x p) (tVar i)) (TB : TbB X.base X.mg tf X.K) (gd : Gd X.A) (hr : Room j X.A) (hj : k + 1 ≤ j) (tk : Takes X W)
    (ha : PA X (e :: es) (tA X.K W t)) (he : starEach (e :: es) X.env = (false, eval e X.env) :: starEach es X.env := by rfl) (hpl : (backTo pos (starEach es X.env)).any (·.1) = false := by rfl) :
    PE X (.Call (.Name x p) (e :: es) [] pos) (tE X.K W (eMakeV fns i t)) := by
  refine ⟨fun pins s σ H Q J ⟨m, σ', g, rl, sl, hl, q⟩ => ?_⟩
  unfold eMakeV at q
  split at q
  · rename_i nm hs
    split at q
    · rename_i fn hf
      obtain ⟨v, h1, h2⟩ := sl i _ hs
      cases h2
      obtain ⟨M, o⟩ := MV _ (prOf_mem hf)
      refine wpAny_Call_Name_kw (thn (hvar.run pins s σ H (fun v H1 => v = .ref (ga X.K nm) ∧ H1 = H) J ⟨_, h1, rfl, rfl⟩) fun u s1 ⟨v, H1, I1, r1, q1⟩ => ?_)
      obtain ⟨rfl, rfl⟩ := q1
      cases r1
      have arg : tA X.K W t σ H1 fun vs H1 => ∀ x dx, H1 x = none → H1 dx = none → dx ≠ x → spOf X.K fn (V.ref x :: vs) (upd (upd H1 dx (.own x)) x (.ins (ga X.K nm) dx [])) (fun v H2 => v = .non ∧ Q (.ref x) H2) (WE W σ) :=
        ⟨m, σ', g, rl, sl, hl, Post.bind q fun ds g1 m1 H1 vs l1 r1 d1 p1 => sp_make r1 d1 p1⟩
      refine PySem.W.callWith_K (h₀ := X.base) I1.ok.mod.kin M.kp (thn (ha.run pos pins s1 σ H1 _ I1 arg) fun us s2 ⟨vs, H2, J2, r, q2⟩ => ⟨J2.kIn, ?_⟩) he hpl
      exact run_makeG M (o.2 X.base TB) (hr.mono hj) gd tk J2 r q2
    · exact q.elim
  · exact q.elim
theorem run_cmG {C f q : Addr} {sp : Sp} {pins : List (Addr × Obj)} {σ : L2.St} {H : Hp} {s : Shared} {Q : VK} {us : List Value} {vs : List V} (F : FnG X.prog X.w X.K X.mg X.base k f sp) (hr : Room k X.A) (gd : Gd X.A) (tk : Takes X W) (I : Inv X ((q, PySem.W.methodObj (.ref f) (.ref C)) :: pins) σ H s)
    (r : Vals vs us) (h : sp (.ref C :: vs) H Q (WE W σ)) : wpAny (model X.prog X.w) X.A (call (.ref q) us) (EP X pins σ Q) X.xe s := by
  have z : wpAny (model X.prog X.w) X.A (call (.ref q) us) (EP X ((q, PySem.W.methodObj (.ref f) (.ref C)) :: pins) σ Q) X.xe s :=
    wpAny_call (PySem.W.method_call (ClX.pin_at I) (codeAny_mono (F X.A X.stack s H (.ref C :: us) (.ref C :: vs) Q (WE W σ) hr gd I.env0 (.cons rfl r) h) fun z s' hz => by
      match z, hz with
      | .error e, hz => exact passAt tk σ _ H s e s' I hz
      | .ok (.ret u), hz => exact I.after hz
      | .ok .next, hz => exact hz.elim
      | .ok .brk, hz => exact hz.elim
      | .ok .cont, hz => exact hz.elim))
  exact thn z fun _ _ y => ClX.unpinE y
theorem x_clsM {pl : Sem Bool} (hc : cmB c m X.K = true) (o : OkA tf X.prog X.w X.K X.mg (cmA X.K c m) k fn) (TB : TbB X.base X.mg tf X.K) (gd : Gd X.A) (hr : Room j X.A) (hj : k ≤ j) (tk : Takes X W) (hg : Gl X c) (hm : X.mg c = some (.ref (ga X.K c)))
    (ha : PA X (e :: es) (tA X.K W t)) (hd : (c == ("__debug__" : Str)) = false := by decide)
    (hst : starEach (e :: es) X.env = (false, eval e X.env) :: starEach es X.env := by rfl) (hpl : (backTo pos (starEach es X.env)).any (·.1) = false := by rfl)
    (ht : eval (.Call (.Attribute (.Name c p) m apos) (e :: es) [] pos) X.env = (do
      let ov ← eval (.Name c p) X.env
      standAt apos.atName
      let (f, first) ← holding [ov] (getMethod ov m pl)
      callWith pos f first (backTo pos (starEach (e :: es) X.env)) (backToKw pos (keywordEach [] X.env))) := by rfl) :
    PE X (.Call (.Attribute (.Name c p) m apos) (e :: es) [] pos) (tE X.K W (eClsM c fn t)) := by
  obtain ⟨r, cm⟩ := cmB_s hc
  refine ⟨fun pins s σ H Q I ⟨m', σ', g, rl, sl, hl, q⟩ => ?_⟩
  refine PySem.W.methodCall_KW (pl := pl) (thn ((pe_glob (v := .ref (ga X.K c)) hg hm rfl hd).run pins s σ H (fun v H1 => v = .ref (ga X.K c) ∧ H1 = H) I ⟨rfl, rfl⟩) fun u s1 ⟨x, H1, I1, rx, ex, eH⟩ => ?_) ht
  subst ex
  subst eH
  obtain rfl : u = Value.ref (ga X.K c) := rx
  refine ClX.getmethcm_ok I1 r cm fun s2 I2 => ?_
  have arg : tA X.K W t σ H1 fun vs H2 => spOf X.K fn (V.ref (ga X.K c) :: vs) H2 Q (WE W σ) :=
    ⟨m', σ', g, rl, sl, hl, Post.bind q fun ds g1 m1 H1 vs l1 r1 d1 p1 => sp_call r1 (.cons .glo d1) p1⟩
  refine ClX.callwith_cm I2 (ClX.base_none I1 (Nat.le_refl _)) cm.fi (thn (ha.run pos _ s2 σ H1 _ I2 arg) fun us s3 ⟨vs, H2, I3, rv, q2⟩ => ⟨⟨ClX.pin_at I3, I3.kIn⟩, ?_⟩) hst hpl
  exact run_cmG (o.2 X.base TB) (hr.mono hj) gd tk I3 rv q2
end
/-- as asM, with the class methods cs -/
def asC (xs ys zs : List Str) (ms ps cs : List (Str × Str)) : Reach := fun g =>
  let c := growN g 2 (rootsN g zs)
  let K1 := He.frT g (mainGlobals :: c)
  asN xs ys g ++ (c ++ growN g 2 ((ms.map fun q => He.ma K1 (ga K1 q.1) q.2) ++ ((ps.map fun q => prA K1 q.1 q.2) ++ cs.map fun q => cmA K1 q.1 q.2)))
/-! ### len(set(x)) -/
def difN (ns : List Int) : Nat := (PyProof.Rows.firstMet (fun i => ns.getD i 0) ns.length).length
def tLenSetI (K : PySem.W.Frag) (ta : TE) : TE := fun σ H Q => ta σ H fun x H1 => ∃ l, ∃ ns : List Int, x = .ref l ∧ SqL K H1 l (ns.map V.int) ∧ ns.length ≤ 1000 ∧ Q (.int (difN ns)) H1
theorem intsAre_ofK : ∀ {ys : List Int} {us : List Value}, Vals (ys.map V.int) us → PyProof.Rows.IntsAre us ys
  | [], _, .nil => .nil
  | y :: ys, _, .cons r t => by
    obtain ⟨k, rfl⟩ := r
    exact .cons y k (intsAre_ofK t)
theorem pe_lenSetI {X : Cx} {a : Expr} {ta : TE} {p p2 q pos : Pos} (hc : X.calm = true) (hg : Gl X "len") (hm : X.mg "len" = none) (hg2 : Gl X "set") (hm2 : X.mg "set" = none) (ha : PE X a ta)
    (na : starEach [a] X.env = (false, eval a X.env) :: starEach [] X.env := by rfl) : PE X (.Call (.Name "len" p) [.Call (.Name "set" p2) [a] [] q] [] pos) (tLenSetI X.K ta) := by
  refine ⟨fun pins s σ H Q I h => ?_⟩
  refine Call_ (ld_blt I hg hm boot_len ?_)
  refine PyProof.Rows.callWith_builtin1 (PyProof.Rows.args_cons ?_ rfl) rfl rfl
  refine Call_ (ld_blt I hg2 hm2 boot_set ?_)
  refine PyProof.Rows.callWith_type1 (PyProof.Rows.args_cons (thn (ha.run pins s σ H _ I h) fun v s1 ⟨x, H1, I1, r1, q1⟩ => PyProof.Rows.args_nil ?_) na) na rfl
  obtain ⟨l, ns, rfl, hq, h1, q1⟩ := q1
  cases r1
  obtain ⟨its, r, pl, hz⟩ := I1.list hq
  have hl : its.toArray.size = ns.length := by rw [List.size_toArray, ← r.length, List.length_map]
  refine PySem.call_set_list (ns := ns) (I1.ok.hd hc) pl.isList (by simpa using intsAre_ofK r) (by rw [hl]; have := line63; unfold scanBound; omega) fun h' tk hS hk => ?_
  refine PyProof.Rows.args_nil ?_
  rw [hl] at hS
  obtain ⟨o, es, ep, t, ho, hex, hd, _, _, _, hf, hn⟩ := hS
  have I2 : Inv X pins σ H1 { s1 with heap := h', toks := tk } := I1.kept fun b o e => hk b o (Heap.lt_size e) e
  have hd1 : difN ns ≤ ns.length := PyProof.Rows.firstMet_length_le _ _
  refine call_len_set ho hex hd hf (by rw [hn]; show ((difN ns : Nat) : Int) < _; omega) ⟨.int (difN ns), H1, I2.tok _, ⟨_, by rw [hn]; rfl⟩, q1⟩
/-- the whole numbers of a list -/
def eLenSet (a : Ev) : Ev := fun σ g => (a σ g).bind fun x g1 => match lqOf g1 x with
  | some xs => match intsOf xs with
    | some ns => okIf (decide (ns.length ≤ 1000)) (.int (difN ns)) g1
    | none => .no
  | none => .no
theorem intsOf_eqK : ∀ {xs : List D} {ns : List Int}, intsOf xs = some ns → xs = ns.map D.int
  | [], ns, h => by cases h; rfl
  | x :: xs, ns, h => by
    unfold intsOf at h
    split at h
    · rename_i h1
      cases h1
    · rename_i i r h1
      cases h1
      split at h
      · rename_i is h2
        cases h
        rw [intsOf_eqK h2]
        rfl
      · cases h
    · cases h
theorem dens_intsK {K : PySem.W.Frag} {m : Md} : ∀ {ns : List Int} {vs : List V}, Dens K m (ns.map D.int) vs → vs = ns.map V.int
  | [], vs, h => h.nilV
  | n :: ns, vs, h => by
    obtain ⟨v, ws, rfl, h1, h2⟩ := h.consV
    cases h1
    rw [dens_intsK h2]
    rfl
theorem x_lenSet {X : Cx} {W : WX} {a : Expr} {ea : Ev} {p p2 q pos : Pos} (hc : X.calm = true) (hg : Gl X "len") (hm : X.mg "len" = none) (hg2 : Gl X "set") (hm2 : X.mg "set" = none) (ha : PE X a (tE X.K W ea))
    (na : starEach [a] X.env = (false, eval a X.env) :: starEach [] X.env := by rfl) : PE X (.Call (.Name "len" p) [.Call (.Name "set" p2) [a] [] q] [] pos) (tE X.K W (eLenSet ea)) := PE.imp (pe_lenSetI hc hg hm hg2 hm2 ha na) fun σ H Q h => by
  obtain ⟨m, σ', g, rl, sl, hl, p⟩ := h
  refine ⟨m, σ', g, rl, sl, hl, Post.bind p fun d g1 m1 H1 x l1 r1 d1 p1 => ?_⟩
  split at p1
  · rename_i xs hx
    split at p1
    · rename_i ns hn
      obtain ⟨c, p1⟩ := okIf_post p1
      obtain ⟨a, vs, rfl, h3, h4⟩ := lqOf_s r1 d1 hx
      rw [intsOf_eqK hn] at h4
      rw [dens_intsK h4] at h3
      exact ⟨a, ns, rfl, h3, of_decide_eq_true c, fin_ok r1 .int p1⟩
    · exact p1.elim
  · exact p1.elim
end AW
namespace AW
open PySem PySem.Spec PyProof.Rows L2
/-- [x] * n in a list that changes later -/
def oMulM : Op2 := fun x y g => match x, y with
  | x, .int k => match lsOf g x with
    | some xs => okIf (decide (-1000 ≤ k) && decide (k ≤ 100000) && decide (xs.length * k.toNat ≤ 100000)) (.ref g.length) (g ++ [.lst (List.replicate k.toNat xs).flatten])
    | none => .no
  | _, _ => .no
theorem oMulM_s {K : PySem.W.Frag} {W : WX} : OpS K W rMul1 oMulM := fun σv m g H d e x y Q rl hd he p => by
  unfold oMulM at p
  split at p
  · rename_i k
    cases he
    split at p
    · rename_i xs e1
      obtain ⟨c, p⟩ := okIf_post p
      rw [Bool.and_eq_true, Bool.and_eq_true] at c
      obtain ⟨⟨c1, c2⟩, c3⟩ := c
      have c1 := of_decide_eq_true c1
      have c2 := of_decide_eq_true c2
      have c3 := of_decide_eq_true c3
      obtain ⟨a, vs, rfl, ha, da⟩ := lsOf_s rl hd e1
      exact .inr ⟨a, _, vs, rfl, rfl, ha, by omega, by omega, by rw [← da.length]; exact line5 c3, fun l hl => p _ _ _ (le_cell rl.fresh) (rl.cellAdd hl ⟨_, rfl, da.rep _⟩) den_cell⟩
    · exact p.elim
  · exact p.elim
theorem x_mulM {X : Cx} {W : WX} {a b : Expr} {ea eb : Ev} {pos : Pos} (ha : PE X a (tE X.K W ea)) (hb : PE X b (tE X.K W eb)) : PE X (.BinOp a .Mult b pos) (tE X.K W (eOp oMulM ea eb)) := x_op op_mul1 oMulM_s ha hb
end AW
/-! Bk4: x != y by the own __eq__ of x's class; == of tuples within tuples that hold own instances, where all are equal. -/
namespace AW
open PySem PySem.Spec PyProof.Rows L2
section
variable {prog : Program} {w : World} {A : Around} {E : Value → Shared → Prop} {s : Shared} {K : PySem.W.Frag} {x C L f : Addr} {h₀ : Heap} {m : Str → Option Value} {ox : Obj} {od : Option Obj} {b tb : Value}
theorem ifBound_ne {M : Model} {args : List Value} {Q : Option Value → Shared → Prop} (X : K.In s.heap) (I : PySem.W.InstAt s.heap x ox C od) (hs : PySem.W.findIn K (.ref C) "__ne__" = some (some (.builtin "object.__ne__")))
    (h : wpAny M A (call (.builtin "object.__ne__") (.ref x :: args)) (fun v => Q (some v)) E s) : wpAny M A (callSpecialIfBound? (.ref x) "__ne__" args) Q E s := by
  simp only [callSpecialIfBound?, bindSpecialIfBound?]; refine wpAny_holding (wpAny_bind (wpAny_bind (wpAny_bind (I.type.here ((PySem.W.looks_findIn X hs).here (wpAny_bind (wpAny_askSetting (wpAny_ite ?_))))))))
  have fin : wpAny M A (call (.builtin "object.__ne__") ([.ref x] ++ args) >>= fun v => pure (some v)) Q E s := wpAny_bind (wpAny_mono h (fun v s' h' => wpAny_pure h') fun _ _ h' => h')
  split
  · exact wpAny_bind (wpAny_of_eq (F.cmp_object.ne.bind _) (wpAny_pure (by exact fin)))
  · exact wpAny_tryCatch (wpAny_bind (wpAny_of_eq (F.cmp_object.ne.bind _) (wpAny_pure (by exact fin))))
theorem entry_ne (X : K.In s.heap) (I : PySem.W.InstAt s.heap x ox C od) (he : PySem.W.findIn K (.ref C) "__eq__" = some (some (.ref f))) (hf : PySem.W.isFn K (.ref f) = true) (hu : A.units < cLine) {Q : Fin → Shared → Prop}
    (hcall : wpAny (model prog w) A (call (.ref f) [.ref x, b]) (fun v s' => ∃ k, v = .bool k ∧ Q (.done (.ret (.bool (!k)))) s') E s) :
    wpAny (model prog w) A (Builtin.«object.__ne__» ⟨[.ref x, b], []⟩) Q E s := by
  unfold Builtin.«object.__ne__»
  repeat (first
    | with_reducible refine wpAny_cRoomFor hu ?_
    | (refine wpAny_bind (m := callSpecialIfBound? (.ref x) (Str.ofString "__eq__") [b])
        (PySem.W.ifBound_K X I he hf (wpAny_mono hcall (fun r s' hr => by
          obtain ⟨k, rfl, hq⟩ := hr
          repeat (first | exact hq | exact wpAny_pure hq | exact wpAny_truthy_bool hq | (refine wpAny_bind (m := truthy (.bool _)) (wpAny_truthy_bool ?_)) | wp_step)) fun _ _ e => e)))
    | wp_step)
theorem ne_K {Q : Value → Shared → Prop} (hu : A.units + 1 < cLine) (F' : PyProof.Rows.Fr h₀ L s.heap m) (X₀ : K.In h₀) (I : PySem.W.InstAt s.heap x ox C od) (hb : PySem.W.Looks (model prog w) s.heap (typeOf b) tb) (hn : PySem.W.notFirst K C tb = true)
    (hm : PySem.W.mroIn K C (.type "object") = some true) (hs : PySem.W.findIn K (.ref C) "__ne__" = some (some (.builtin "object.__ne__"))) (he : PySem.W.findIn K (.ref C) "__eq__" = some (some (.ref f))) (hf : PySem.W.isFn K (.ref f) = true)
    (h : wpAny (model prog w) A.in1 (call (.ref f) [.ref x, b]) (fun v s' => ∃ k, v = .bool k ∧ Q (.bool (!k)) s') E s) : wpAny (model prog w) A (richCompare .NotEq (.ref x) b) Q E s := by
  have X := X₀.keeps F'.keep; have one : wpAny (model prog w) A (tryCompare (.ref x) "__ne__" b) (fun r s' => ∃ v, r = some v ∧ Q v s') E s := by
    unfold tryCompare
    refine wpAny_bind (ifBound_ne X I hs (wpAny_call (codeAny_call_builtin F.cmp_object.ne.plain F.cmpEntry_ne (PySem.W.check_slot F.cmpKind_ne F.cmpSplit_ne (I.type.andThen (PySem.W.looks_mroIn X hm)) (F.cmpArgs_ne _ _)
      (entry_ne (A := A.in1) X I he hf hu (wpAny_mono h (fun v s' hv => ?_) fun _ _ e => e))))))
    obtain ⟨k, rfl, hq⟩ := hv
    first | exact ⟨k, rfl, wpAny_pure ⟨_, rfl, hq⟩⟩ | exact ⟨k, rfl, wpAny_pure (wpAny_pure ⟨_, rfl, hq⟩)⟩
  unfold richCompare; simp only [oneThing_ref]; refine wpAny_holding (wpAny_bind (wpAny_cRoomFor (Nat.lt_of_succ_lt hu) (wpAny_bind (I.type.here (wpAny_bind (hb.here ?_))))))
  split
  · rename_i q
    have no : PySem.W.subIn K tb (.ref C) = some false := (Bool.or_eq_true_iff.mp hn).elim (fun z => by rw [beq_iff_eq.mp z] at q; simp at q) beq_iff_eq.mp
    refine wpAny_bind ((PySem.W.looks_subIn X no).here ?_); simp only [Bool.false_eq_true, if_false]; refine wpAny_bind (wpAny_mono one (fun r s' z => ?_) fun _ _ z => z)
    obtain ⟨v, rfl, hq⟩ := z; exact wpAny_pure hq
  · refine wpAny_bind (wpAny_pure ?_); simp only [Bool.false_eq_true, if_false]; refine wpAny_bind (wpAny_mono one (fun r s' z => ?_) fun _ _ z => z)
    obtain ⟨v, rfl, hq⟩ := z; exact wpAny_pure hq
end
/-- below the running body X, with room, and no guards -/
structure SubG (X : Cx) (n : Nat) (A : Around) : Prop where
  room : Room n A
  fr : A.frames = X.A.frames
  gd : Gd A
theorem SubG.down {X : Cx} {n : Nat} {A : Around} (s : SubG X (n + 1) A) : SubG X n A.in1 := ⟨s.room.in1, s.fr, s.gd⟩
theorem SubG.mono {X : Cx} {n m : Nat} {A : Around} (s : SubG X n A) (h : m ≤ n) : SubG X m A := ⟨s.room.mono h, s.fr, s.gd⟩
section
variable {X : Cx} {W : WX} {tf : List He.Defn} {ps : List (Str × Fn)} {own : List Str} {j k : Nat}
theorem run_qA {f : Addr} {sp : Sp} {pins : List (Addr × Obj)} {σ : L2.St} {H : Hp} {s : Shared} {Q : VK} {us : List Value} {vs : List V} {A : Around} (F : FnG X.prog X.w X.K X.mg X.base k f sp) (sb : SubG X k A) (J : Inv X pins σ H s) (r : Vals vs us) (h : sp vs H Q fun _ _ _ => False) :
    wpAny (model X.prog X.w) A (call (.ref f) us) (EP X pins σ Q) X.xe s := by
  have e := J.env0
  have e0 : Env0 X.prog X.w X.K X.mg X.base A X.stack s H := ⟨by rw [sb.fr]; exact e.frames, e.mod, e.bs, e.bsz, e.funs, e.frf, e.hok, e.bare⟩
  have c := F A X.stack s H us vs Q (fun _ _ _ => False) sb.room sb.gd e0 r h
  refine wpAny_call (codeAny_mono c fun z s' hz => ?_)
  match z, hz with
  | .error e, hz =>
    obtain ⟨_, _, _, _, _, _, _, _, _, _, _, _, z⟩ := hz
    exact z.elim
  | .ok (.ret u), hz => exact J.after hz
  | .ok .next, hz => exact hz.elim
  | .ok .brk, hz => exact hz.elim
  | .ok .cont, hz => exact hz.elim
/-! x != y -/
def notR : Res D → Res D
  | .ok (.bl b) g => .ok (.bl (!b)) g
  | _ => .no
def oNeO (ps : List (Str × Fn)) (own : List Str) (f : Op2) : Op2 := fun x y g => match insOf g x with
  | some c => match prOf ps c with
    | some fn => match rkOf y with
      | some _ => notR (fn [x, y] g)
      | none => match insOf g y with
        | some c' => if c' ∈ own then notR (fn [x, y] g) else .no
        | none => .no
    | none => .no
  | none => f x y g
def neB (c : Str) (own : List Str) (K : PySem.W.Frag) : Bool := cmpB c own "__eq__" K && (decide (PySem.W.findIn K (.ref (ga K c)) "__ne__" = some (some (.builtin "object.__ne__"))) && decide (PySem.W.mroIn K (ga K c) (.type "object") = some true))
def NeF (tf : List He.Defn) (P : Program) (w : World) (K : PySem.W.Frag) (mg : Str → Option Value) (own : List Str) (k : Nat) (ps : List (Str × Fn)) : Prop := ∀ q ∈ ps, neB q.1 own K = true ∧ OkA tf P w K mg (He.ma K (ga K q.1) "__eq__") k q.2
theorem neF_nil {tf : List He.Defn} {P : Program} {w : World} {K : PySem.W.Frag} {mg : Str → Option Value} {own : List Str} {k : Nat} : NeF tf P w K mg own k [] := fun _ h => nomatch h
theorem neF_cons {tf : List He.Defn} {P : Program} {w : World} {K : PySem.W.Frag} {mg : Str → Option Value} {own : List Str} {j k : Nat} {ps : List (Str × Fn)} {c : Str} {fn : Fn} (hp : neB c own K = true) (o : OkA tf P w K mg (He.ma K (ga K c) "__eq__") j fn) (hj : j ≤ k)
    (r : NeF tf P w K mg own k ps) : NeF tf P w K mg own k ((c, fn) :: ps) := fun q hq => (List.mem_cons.mp hq).elim (fun e => by subst e; exact ⟨hp, o.mono hj⟩) (r q)
def rNeO (K : PySem.W.Frag) (ps : List (Str × Fn)) (own : List Str) : R2 := fun x y H Q => ∃ a c fn dx vs, x = .ref a ∧ prOf ps c = some fn ∧ SlX.Slt H a (ga K c) dx vs ∧ ((∃ k, RK y k) ∨ ∃ b c' dy ws, y = .ref b ∧ c' ∈ own ∧ SlX.Slt H b (ga K c') dy ws) ∧ spOf K fn [x, y] H (fun v H' => ∃ b, v = .bl b ∧ Q (.bl (!b)) H') fun _ _ _ => False
theorem op_neO (NF : NeF tf X.prog X.w X.K X.mg own k ps) (TB : TbB X.base X.mg tf X.K) (gd : Gd X.A) (hr : Room j X.A) (hj : k + 1 ≤ j) : OpR X (compareOp .NotEq) (rNeO X.K ps own) := by
  intro pins s σ H x y v u Q I rx ry h
  obtain ⟨a, c, fn, dx, vs, rfl, hfn, ha, hy, q⟩ := h
  cases (show v = Value.ref a from rx)
  obtain ⟨hb, h5⟩ := NF _ (prOf_mem hfn)
  unfold neB cmpB at hb
  simp only [Bool.and_eq_true, decide_eq_true_eq, List.all_eq_true] at hb
  obtain ⟨⟨b1, b2, b3, b4⟩, b5, b6⟩ := hb
  obtain ⟨sl, od, _, J, _⟩ := SlX.slt_inst I ha
  obtain ⟨m, hF⟩ := I.fr
  have hrr : Room (k + 1) X.A := hr.mono hj
  have fin := run_qA (us := [.ref a, u]) (vs := [.ref a, y]) (h5.2 X.base TB) (SubG.down (X := X) (A := X.A) ⟨hrr, rfl, gd⟩) I (.cons rfl (.cons ry .nil)) q
  have fin2 := wpAny_mono (Q' := fun v s' => ∃ b, v = Value.bool b ∧ EP X pins σ Q (.bool (!b)) s') fin (fun w s' z => by
    obtain ⟨z', H', I', rz, b, e, qz⟩ := z
    subst e
    obtain rfl : w = Value.bool b := rz
    exact ⟨b, rfl, .bl (!b), H', I', rfl, qz⟩) fun _ _ x => x
  have hu : X.A.units + 1 < cLine := hrr.in1.units0
  show wpAny _ _ (richCompare .NotEq _ _) _ _ _
  rcases hy with ⟨t, ht⟩ | ⟨b, c', dy, ws, rfl, hin, hb'⟩
  · exact ne_K (tb := .type t.name) hu hF I.ok.mod.kin J (PySem.W.Looks.of_pure (rk_type ht ry)) (b4 t (by cases ht <;> simp)) b6 b5 b1 b2 fin2
  · cases (show u = Value.ref b from ry)
    obtain ⟨sl', od', _, J', _⟩ := SlX.slt_inst I hb'
    exact ne_K (tb := .ref (ga X.K c')) hu hF I.ok.mod.kin J J'.type (b3 c' hin) b6 b5 b1 b2 fin2
theorem notR_s {K : PySem.W.Frag} {W W' : WX} {σ σ' : L2.St} {r : Res D} {m : Md} {Q : VK} (h : Post K W σ (Den K) (notR r) m Q) : Post K W' σ' (Den K) r m fun v H' => ∃ b, v = .bl b ∧ Q (.bl (!b)) H' := by
  cases r with
  | ok d g =>
    cases d with
    | bl b =>
      intro m' H' v l rl hd
      cases hd
      exact ⟨b, rfl, h m' H' (.bl (!b)) l rl .bl⟩
    | _ => exact h.elim
  | ex e g => exact h.elim
  | no => exact h.elim
theorem oNeO_s {K : PySem.W.Frag} {r : R2} {f : Op2} (hs : OpS K W r f) : OpS K W (fun x y H Q => rNeO K ps own x y H Q ∨ r x y H Q) (oNeO ps own f) := fun σv m g H d e x y Q rl hd he p => by
  unfold oNeO at p
  split at p
  · rename_i c hc
    obtain ⟨a, dx, ws, rfl, h1⟩ := insOf_s rl hd hc
    split at p
    · rename_i fn hfn
      split at p
      · rename_i t ht
        refine .inl ⟨a, c, fn, dx, ws, rfl, hfn, h1, .inl ?_, m, g, _, rl, .cons hd (.cons he .nil), notR_s p⟩
        cases e <;> cases ht <;> cases he
        · exact ⟨_, .non⟩
        · exact ⟨_, .bl _⟩
        · exact ⟨_, .int _⟩
        · exact ⟨_, .str _⟩
      · split at p
        · rename_i c' hc'
          split at p
          · rename_i hin
            obtain ⟨b, dy, ws', rfl, h2⟩ := insOf_s rl he hc'
            exact .inl ⟨a, c, fn, dx, ws, rfl, hfn, h1, .inr ⟨b, c', dy, ws', rfl, hin, h2⟩, m, g, _, rl, .cons hd (.cons he .nil), notR_s p⟩
          · exact p.elim
        · exact p.elim
    · exact p.elim
  · exact .inr (hs σv m g H d e x y Q rl hd he p)
variable {a b : Expr} {ea eb : Ev} {pos : Pos}
theorem x_neO {r : R2} {f : Op2} (ho : OpR X (compareOp .NotEq) r) (hs : OpS X.K W r f) (NF : NeF tf X.prog X.w X.K X.mg own k ps) (TB : TbB X.base X.mg tf X.K) (gd : Gd X.A) (hr : Room j X.A) (hj : k + 1 ≤ j) (ha : PE X a (tE X.K W ea)) (hb : PE X b (tE X.K W eb)) (hm : behindInMarks .NotEq b = false) :
    PE X (.Compare a [.NotEq] [b] pos) (tE X.K W (eOp (oNeO ps own f) ea eb)) := x_cmp (opR_or (op_neO NF TB gd hr hj) ho) (oNeO_s hs) ha hb hm
/-! == of tuples, all equal -/
/-- equal at first sight -/
def flatE : D → D → Bool
  | .int i, .int j => decide (i = j)
  | .bl i, .bl j => decide (i = j)
  | .str i, .str j => decide (i = j)
  | .non, .non => true
  | _, _ => false
def All2 (P : D → D → Prop) : List D → List D → Prop
  | [], [] => True
  | x :: xs, y :: ys => P x y ∧ All2 P xs ys
  | _, _ => False
def InsP (ps : List (Str × Fn)) (g : G) (x y : D) : Prop := ∃ c fs gs fn, x = .ins c fs ∧ y = .ins c gs ∧ prOf ps c = some fn ∧ fn [x, y] g = .ok (.bl true) g
def TupP (P : D → D → Prop) (x y : D) : Prop := ∃ xs ys, x = .tup xs ∧ y = .tup ys ∧ All2 P xs ys
def EqP (ps : List (Str × Fn)) (g : G) : Nat → D → D → Prop
  | 0, x, y => flatE x y = true ∨ InsP ps g x y
  | n + 1, x, y => EqP ps g n x y ∨ TupP (EqP ps g n) x y
def LoopS (X : Cx) (pins : List (Addr × Obj)) (σ : L2.St) (g : G) (m : Md) (s' : Shared) : Prop := ∃ m1 H1, Inv X pins σ H1 s' ∧ Rel X.K m1 g H1 ∧ Le m m1
def EqS (X : Cx) (n : Nat) (g : G) (P : D → D → Prop) : Prop := ∀ (A : Around) (pins : List (Addr × Obj)) (s : Shared) (σ : L2.St) (H : Hp) (m : Md) (dx dy : D) (x y : V) (u v : Value), SubG X n A → Inv X pins σ H s → RelV x u → RelV y v → Rel X.K m g H → Den X.K m dx x → Den X.K m dy y → P dx dy →
  wpAny (model X.prog X.w) A (eqBool u v) (fun r s' => r = true ∧ LoopS X pins σ g m s') X.xe s
def RcS (X : Cx) (n : Nat) (g : G) (P : D → D → Prop) : Prop := ∀ (A : Around) (pins : List (Addr × Obj)) (s : Shared) (σ : L2.St) (H : Hp) (m : Md) (dx dy : D) (x y : V) (u v : Value), SubG X n A → Inv X pins σ H s → RelV x u → RelV y v → Rel X.K m g H → Den X.K m dx x → Den X.K m dy y → P dx dy →
  wpAny (model X.prog X.w) A (richCompare .Eq u v) (fun r s' => r = .bool true ∧ LoopS X pins σ g m s') X.xe s
variable {g : G} {n n' : Nat} {P P' : D → D → Prop}
theorem EqS.mono (h : EqS X n g P) (hn : n ≤ n') : EqS X n' g P := fun A pins s σ H m dx dy x y u v sb => h A pins s σ H m dx dy x y u v (sb.mono hn)
theorem EqS.or (h : EqS X n g P) (h' : EqS X n g P') : EqS X n g fun x y => P x y ∨ P' x y := fun A pins s σ H m dx dy x y u v sb I rx ry rl hx hy p => p.elim (h A pins s σ H m dx dy x y u v sb I rx ry rl hx hy) (h' A pins s σ H m dx dy x y u v sb I rx ry rl hx hy)
theorem rel_ext {K : PySem.W.Frag} {m : Md} {H H' : Hp} (r : Rel K m g H) (e : Ext H H') : Rel K m g H' :=
  ⟨fun a o h => e _ _ (r.ex a o h), fun i c h => let ⟨a, h1, h2, o, h3, h4⟩ := r.cell i c h; ⟨a, h1, h2, o, e _ _ h3, h4⟩, r.dom, r.inj, fun a o h => let ⟨h1, h2⟩ := r.hid a o h; ⟨e _ _ h1, h2⟩⟩
theorem flatE_v {K : PySem.W.Frag} {m : Md} {dx dy : D} {x y : V} (hx : Den K m dx x) (hy : Den K m dy y) (p : flatE dx dy = true) : flatV x = true ∧ flatV y = true ∧ eqV x y = true := by
  unfold flatE at p
  split at p
  · cases hx; cases hy; have := of_decide_eq_true p; subst this; exact ⟨rfl, rfl, by simp [eqV]⟩
  · cases hx; cases hy; have := of_decide_eq_true p; subst this; exact ⟨rfl, rfl, by simp [eqV]⟩
  · cases hx; cases hy; have := of_decide_eq_true p; subst this; exact ⟨rfl, rfl, by simp [eqV]⟩
  · cases hx; cases hy; exact ⟨rfl, rfl, by simp [eqV]⟩
  · cases p
theorem eqS_flat : EqS X 0 g fun x y => flatE x y = true := fun A pins s σ H m dx dy x y u v sb I rx ry rl hx hy p =>
  wpAny_mono (eqG_flat (X := X) A pins s σ H x y u v ⟨sb.room, sb.fr⟩ I rx ry (flatE_v hx hy p)) (fun r s' q => by
    obtain ⟨hr, H', I', e⟩ := q
    exact ⟨hr, m, H', I', rel_ext rl e, Le.refl m⟩) fun _ _ x => x
theorem RcS.eqS (h : RcS X n g P) (hr : ∀ dx dy, P dx dy → ((∃ xs, dx = .tup xs) ∨ ∃ c xs, dx = .ins c xs) ∧ ((∃ xs, dy = .tup xs) ∨ ∃ c xs, dy = .ins c xs)) : EqS X n g P := by
  intro A pins s σ H m dx dy x y u v sb I rx ry rl hx hy p
  have rf : ∀ {d : D} {z : V}, Den X.K m d z → ((∃ xs, d = .tup xs) ∨ ∃ c xs, d = .ins c xs) → ∃ a, z = .ref a := fun hd h => by
    rcases h with ⟨xs, rfl⟩ | ⟨c, xs, rfl⟩ <;> cases hd <;> exact ⟨_, rfl⟩
  obtain ⟨a, rfl⟩ := rf hx (hr _ _ p).1
  obtain ⟨b, rfl⟩ := rf hy (hr _ _ p).2
  cases (show u = Value.ref a from rx)
  cases (show v = Value.ref b from ry)
  by_cases hab : a = b
  · subst hab
    exact SeqAt.EqAt.same (A := A) (s := s) (.ref a) X.prog X.w X.xe _ ⟨rfl, m, H, I, rl, Le.refl m⟩
  · exact GQ.eqBool_refG hab (wpAny_mono (h A pins s σ H m dx dy (.ref a) (.ref b) _ _ sb I rfl rfl rl hx hy p) (fun r s' q => ⟨true, q.1, rfl, q.2⟩) fun _ _ x => x)
theorem all2_get {K : PySem.W.Frag} {m : Md} : ∀ {xs ys : List D} {vs ws : List V}, Dens K m xs vs → Dens K m ys ws → All2 P xs ys → vs.length = ws.length ∧ ∀ (i : Nat) (x y : V), vs[i]? = some x → ws[i]? = some y → ∃ dx dy, Den K m dx x ∧ Den K m dy y ∧ P dx dy
  | _, _, _, _, .nil, .nil, _ => ⟨rfl, fun i x y h _ => by simp at h⟩
  | _, _, _, _, .nil, .cons _ _, h => h.elim
  | _, _, _, _, .cons _ _, .nil, h => h.elim
  | _, _, _, _, .cons h1 t1, .cons h2 t2, ⟨p, q⟩ => by
    obtain ⟨e, r⟩ := all2_get t1 t2 q
    refine ⟨by rw [List.length_cons, List.length_cons, e], fun i x y hx hy => ?_⟩
    cases i with
    | zero =>
      cases hx
      cases hy
      exact ⟨_, _, h1, h2, p⟩
    | succ i => exact r i x y hx hy
theorem rcS_tup (h : EqS X n g P) : RcS X (n + 1) g (TupP P) := by
  intro A pins s σ H m dx dy x y u v sb I rx ry rl hx hy p
  obtain ⟨xs, ys, rfl, rfl, al⟩ := p
  cases hx with
  | tup h1 d1 =>
    cases hy with
    | tup h2 d2 =>
      rename_i a vs b ws
      cases (show u = Value.ref a from rx)
      cases (show v = Value.ref b from ry)
      obtain ⟨its, r1, e1, _⟩ := I.tuple (rl.seqT h1)
      obtain ⟨its2, r2, e2, _⟩ := I.tuple (rl.seqT h2)
      obtain ⟨hl, hp⟩ := all2_get d1 d2 al
      have l1 := r1.length
      have l2 := r2.length
      have hsz : its.toArray.size = its2.toArray.size := by rw [List.size_toArray, List.size_toArray]; omega
      refine GQ.rc_tupG hsz sb.room.units0 (fun _ s' => LoopS X pins σ g m s') e1 e2 (fun i h1 h2 s' q => ?_) (fun s' q => ⟨rfl, q⟩) ⟨m, H, I, rl, Le.refl m⟩
      obtain ⟨m1, H1, I1, rl1, le1⟩ := q
      have j1 : i < its.length := by simpa using h1
      have j2 : i < its2.length := by simpa using h2
      obtain ⟨u', hu, ru⟩ := r1.get (List.getElem?_eq_getElem (show i < vs.length by omega))
      obtain ⟨v', hv, rv⟩ := r2.get (List.getElem?_eq_getElem (show i < ws.length by omega))
      rw [List.getElem?_eq_getElem j1] at hu
      rw [List.getElem?_eq_getElem j2] at hv
      have eu : its.toArray[i] = u' := by simpa using Option.some.inj hu
      have ev : its2.toArray[i] = v' := by simpa using Option.some.inj hv
      rw [eu, ev]
      obtain ⟨dx, dy, hx, hy, pp⟩ := hp i _ _ (List.getElem?_eq_getElem (show i < vs.length by omega)) (List.getElem?_eq_getElem (show i < ws.length by omega))
      exact wpAny_mono (h A.in1 pins s' σ H1 m1 dx dy _ _ u' v' sb.down I1 ru rv rl1 (hx.mono le1) (hy.mono le1) pp) (fun r s2 q => by
        obtain ⟨hr, m2, H2, I2, rl2, le2⟩ := q
        exact ⟨hr, m2, H2, I2, rl2, le1.trans le2⟩) fun _ _ x => x
theorem rcS_ins (CF : CmF tf X.prog X.w X.K X.mg own "__eq__" k ps) (TB : TbB X.base X.mg tf X.K) : RcS X k g (InsP ps g) := by
  intro A pins s σ H m dx dy x y u v sb I rx ry rl hx hy p
  obtain ⟨c, fs, gs, fn, rfl, rfl, hfn, hq⟩ := p
  obtain ⟨hb, h4, h5⟩ := CF _ (prOf_mem hfn)
  unfold cmpB at hb
  simp only [Bool.and_eq_true, decide_eq_true_eq, List.all_eq_true] at hb
  obtain ⟨b1, b2, b3, b4⟩ := hb
  obtain ⟨a, dx', ws, rfl, h1⟩ := insOf_s rl hx (c := c) rfl
  obtain ⟨b, dy', ws', rfl, h2⟩ := insOf_s rl hy (c := c) rfl
  cases (show u = Value.ref a from rx)
  cases (show v = Value.ref b from ry)
  obtain ⟨sl, od, _, J, _⟩ := SlX.slt_inst I h1
  obtain ⟨sl', od', _, J', _⟩ := SlX.slt_inst I h2
  obtain ⟨mm, hF⟩ := I.fr
  have q : spOf X.K fn [.ref a, .ref b] H (fun w H' => w = .bl true ∧ ∃ m1, Rel X.K m1 g H' ∧ Le m m1) fun _ _ _ => False := by
    refine ⟨m, g, _, rl, .cons hx (.cons hy .nil), ?_⟩
    rw [hq]
    intro m2 H2 w l r d
    cases d
    exact ⟨rfl, m2, r, l⟩
  have fin := run_qA (us := [.ref a, .ref b]) (vs := [.ref a, .ref b]) (h5 X.base TB) sb I (.cons rfl (.cons rfl .nil)) q
  refine PySem.W.cmp_K (op := .Eq) (tb := .ref (ga X.K c)) sb.room.units0 hF I.ok.mod.kin J J'.type (by simp [PySem.W.notFirst]) b1 b2 (wpAny_mono fin (fun w s' z => ?_) fun _ _ x => x)
  obtain ⟨z', H', I', rz, e, m1, r1, l1⟩ := z
  subst e
  obtain rfl : w = Value.bool true := rz
  exact ⟨rfl, m1, H', I', r1, l1⟩
theorem eqS_P (CF : CmF tf X.prog X.w X.K X.mg own "__eq__" k ps) (TB : TbB X.base X.mg tf X.K) : ∀ i, EqS X (k + i) g (EqP ps g i)
  | 0 => (eqS_flat.mono (Nat.zero_le _)).or ((rcS_ins CF TB).eqS fun dx dy ⟨c, fs, gs, fn, h1, h2, _⟩ => ⟨.inr ⟨c, fs, h1⟩, .inr ⟨c, gs, h2⟩⟩)
  | i + 1 => ((eqS_P CF TB i).mono (Nat.le_succ _)).or ((rcS_tup (eqS_P CF TB i)).eqS fun dx dy ⟨xs, ys, h1, h2, _⟩ => ⟨.inl ⟨xs, h1⟩, .inl ⟨ys, h2⟩⟩)
open Classical in
noncomputable def oEqN (ps : List (Str × Fn)) (i : Nat) (f : Op2) : Op2 := fun x y g => if TupP (EqP ps g i) x y then .ok (.bl true) g else f x y g
theorem oEqN_yes {f : Op2} {i : Nat} {x y : D} (h : TupP (EqP ps g i) x y) : oEqN ps i f x y g = .ok (.bl true) g := if_pos h
def rEqN (K : PySem.W.Frag) (ps : List (Str × Fn)) (i : Nat) : R2 := fun x y H Q => ∃ m g dx dy, Rel K m g H ∧ Den K m dx x ∧ Den K m dy y ∧ TupP (EqP ps g i) dx dy ∧ ∀ m1 H1, Le m m1 → Rel K m1 g H1 → Q (.bl true) H1
theorem op_eqN {i : Nat} (CF : CmF tf X.prog X.w X.K X.mg own "__eq__" k ps) (TB : TbB X.base X.mg tf X.K) (gd : Gd X.A) (hr : Room j X.A) (hj : k + i + 1 ≤ j) : OpR X (compareOp .Eq) (rEqN X.K ps i) := by
  intro pins s σ H x y v u Q I rx ry h
  obtain ⟨m, g, dx, dy, rl, hx, hy, p, q⟩ := h
  show wpAny _ _ (richCompare .Eq _ _) _ _ _
  refine wpAny_mono (rcS_tup (eqS_P (g := g) CF TB i) X.A pins s σ H m dx dy x y v u ⟨hr.mono hj, rfl, gd⟩ I rx ry rl hx hy p) (fun r s' z => ?_) fun _ _ x => x
  obtain ⟨hr', m1, H1, I1, r1, l1⟩ := z
  subst hr'
  exact ⟨.bl true, H1, I1, rfl, q m1 H1 l1 r1⟩
theorem oEqN_s {K : PySem.W.Frag} {r : R2} {f : Op2} {i : Nat} (hs : OpS K W r f) : OpS K W (fun x y H Q => rEqN K ps i x y H Q ∨ r x y H Q) (oEqN ps i f) := fun σv m g H d e x y Q rl hd he p => by
  unfold oEqN at p
  split at p
  · rename_i h
    exact .inl ⟨m, g, d, e, rl, hd, he, h, fun m1 H1 l r1 => p m1 H1 (.bl true) l r1 .bl⟩
  · exact .inr (hs σv m g H d e x y Q rl hd he p)
end
end AW
/-! Bg2: name = [..] into a cell; x.pop(i), x.extend(list) of a list that changes. -/
namespace AW
open PySem PySem.Spec PyProof.Rows L2
section
variable {X : Cx} {W : WX} {tg iter elt : Expr} {ifs : List Expr} {scope : Scope} {pos : Pos} {own : List (Str × Nat)} {t : TG} {gv : Gv} {tt : Tv} {te : Ev} {iv : Ivv}
theorem s_setLcM {i : Nat} {y : Str} {py spos : Pos} (hc : X.calm = true) (hN : X.N.Nodup) (hy : X.N[i]? = some y) (hyl : X.env.scope.names.lookup y = some .local)
    (hsw : swapsWith (.ListComp elt [⟨tg, iter, ifs, 0⟩] scope pos) (some (.Name y py)) spos.line X.env = pure true) (hi : PI X tg iter (tIt X.K W iv)) (ok : BlkOk X.N X.env.scope scope own) (ct : CT X.K (own.map (·.2)) t gv)
    (hg : ∀ (s : Shared) (H : Hp) (C : Addr) (cl : List (Str × Addr)) (fp : List Addr), PG (X.blk s H scope (compEnvC scope cl C X.env) fp) tg t) (ht : ∀ (s : Shared) (H : Hp) (C : Addr) (cl : List (Str × Addr)) (fp : List Addr), PTs (X.blk s H scope (compEnvC scope cl C X.env) fp) ifs (tT X.K W0 tt))
    (he : ∀ (s : Shared) (H : Hp) (C : Addr) (cl : List (Str × Addr)) (fp : List Addr), PE (X.blk s H scope (compEnvC scope cl C X.env) fp) elt (tE X.K W0 te)) (hs : ∀ x, foldedSetIterable iter X.env x = pure x := by intro _; rfl) :
    PS X (.Assign [.Name y py] (.ListComp elt [⟨tg, iter, ifs, 0⟩] scope pos) spos) (tS X.K W (sSet i (eLcM iv gv tt te (own.map (·.2))))) := PS.imp (ps_setLc hc hN hy hyl hsw hi ok hg ht he hs) fun D' σ H h => by
  obtain ⟨m, σ', g, rl, sl, p⟩ := h
  have h' : tE X.K W (eLcM iv gv tt te (own.map (·.2))) σ H (fun x H1 => D'.nx (σ.set i (some x)) H1) := ⟨m, σ', g, rl, sl.1, sl.2, sBind_s sl p fun d g1 m1 H1 v l1 r1 d1 p1 => p1 m1 H1 _ (Le.refl m1) r1 ((sl.mono l1).set d1)⟩
  refine lc_s ct (fun _ _ _ q => q) (fun _ _ _ _ p => okIf_len p) (fun σv m g H Dl ys yv rl hh d m0 l0 n0 p => ?_) h'
  obtain ⟨c, p⟩ := okIf_post p
  refine p _ _ _ ?_ (rl.tocell hh d) (.ref (by show (if g.length = g.length then some Dl else m.r g.length) = some Dl; rw [if_pos rfl]))
  refine ⟨l0.F, fun i a e => ?_, fun a o e => ?_⟩
  · show (if i = g.length then some Dl else m.r i) = some a
    have := rl.dom i a (l0.r i a e)
    rw [if_neg (by omega)]
    exact l0.r i a e
  · show (if a = Dl then none else m.hid a) = some o
    rw [if_neg (fun z => by rw [z, n0] at e; cases e)]
    exact l0.hid a o e
end
theorem Dens.eraseIdx {K : PySem.W.Frag} {m : Md} : ∀ {ds : List D} {vs : List V} (i : Nat), Dens K m ds vs → Dens K m (ds.eraseIdx i) (vs.eraseIdx i)
  | _, _, _, .nil => .nil
  | _, _, 0, .cons _ t => t
  | _, _, i + 1, .cons a t => .cons a (Dens.eraseIdx i t)
def mPop : Mt := fun i ds g => match ds with
  | [.int n] => match lmOf g i with
    | some xs => if 0 ≤ n ∧ n < 100000 then match xs[n.toNat]? with
      | some y => .ok y (g.set i (.lst (xs.eraseIdx n.toNat)))
      | none => .no else .no
    | none => .no
  | _ => .no
theorem mPop_s {K : PySem.W.Frag} {W : WX} : MtS K W rPopAt mPop := fun σv m g H i x ds vs Q rl hx hd p => by
  unfold mPop at p
  split at p
  · rename_i n
    split at p
    · rename_i xs hxs
      split at p
      · rename_i hn
        split at p
        · rename_i y hy
          obtain ⟨v, ws, rfl, h3, h4⟩ := hd.consV
          obtain rfl := h4.nilV
          cases h3
          obtain ⟨a, us, rfl, h5, h6, h7⟩ := lmOf_s rl hx hxs
          obtain ⟨w, hw1, hw2⟩ := h7.get hy
          have hl : n.toNat < us.length := (List.getElem?_eq_some_iff.1 hw1).1
          refine ⟨a, us, n, n.toNat, w, rfl, rfl, h6, by omega, by omega, ?_, hw1, ?_⟩
          · have e1 : (if n < 0 then n + (us.length : Int) else n) = n := if_neg (by omega)
            show (if (decide (0 ≤ (if n < 0 then n + (us.length : Int) else n)) && decide ((if n < 0 then n + (us.length : Int) else n) < (us.length : Int))) = true then some (if n < 0 then n + (us.length : Int) else n).toNat else none) = some n.toNat
            rw [e1, decide_eq_true hn.1, decide_eq_true (show n < (us.length : Int) by omega)]
            rfl
          · exact p _ _ _ (Le.refl m) (rl.cellSet h5 ⟨_, rfl, h7.eraseIdx n.toNat⟩) hw2
        · exact p.elim
      · exact p.elim
    · exact p.elim
  · exact p.elim
def ePop (o a : Ev) : Ev := eMeth mPop o (aCons a aNil)
theorem x_pop {X : Cx} {W : WX} {o e : Expr} {eo ee : Ev} {apos cpos : Pos} (ho : PE X o (tE X.K W eo)) (ha : PE X e (tE X.K W ee))
    (hbase : attributeBase o "pop" X.env (eval o X.env) = eval o X.env := by rfl) (hst : starEach [e] X.env = (false, eval e X.env) :: starEach [] X.env := by rfl)
    (hfew : ((backTo cpos (starEach [e] X.env)).all (fun x => !x.1) && (backToKw cpos (keywordEach [] X.env)).all (fun x => x.1.isSome) && decide (([e] : List Expr).length + ([] : List Keyword).length + (if ([] : List Keyword).isEmpty then 0 else 1) < 30)) = true := by rfl)
    (hline : (apos.endLine == cpos.line) = true := by rfl) (hplain : (backTo cpos (starEach [] X.env)).any (·.1) = false := by rfl) :
    PE X (.Call (.Attribute o "pop" apos) [e] [] cpos) (tE X.K W (ePop eo ee)) :=
  PE.imp (pe_bm PySem.F.plainAttrs_list PySem.F.slot_list_pop PySem.F.type_list_pop mt_popAt ho (a_cons (W := W) ha a_nil hst) hbase hfew hline hst hplain) fun _ _ _ h => tBM_of mPop_s h
def mExtend : Mt := fun i ds g => match ds with
  | [.lst ys] => match lmOf g i with
    | some xs => okIf (decide (xs.length + ys.length ≤ 100000)) .non (g.set i (.lst (xs ++ ys)))
    | none => .no
  | _ => .no
theorem mExtend_s {K : PySem.W.Frag} {W : WX} : MtS K W rExtend mExtend := fun σv m g H i x ds vs Q rl hx hd p => by
  unfold mExtend at p
  split at p
  · split at p
    · rename_i xs hxs
      obtain ⟨c, p⟩ := okIf_post p
      obtain ⟨v, ws, rfl, h3, h4⟩ := hd.consV
      obtain rfl := h4.nilV
      cases h3 with
      | lst hF hds =>
        obtain ⟨a, us, rfl, h5, h6, h7⟩ := lmOf_s rl hx hxs
        refine ⟨a, _, us, _, rfl, rfl, h6, rl.ex _ _ hF, ?_, ?_⟩
        · rw [← h7.length, ← hds.length, sizeLine_eq]
          exact Nat.le_trans (of_decide_eq_true c) (by decide)
        · exact p m _ _ (Le.refl m) (rl.cellSet h5 ⟨_, rfl, h7.append hds⟩) .non
    · exact p.elim
  · exact p.elim
def eExtend (o a : Ev) : Ev := eMeth mExtend o (aCons a aNil)
theorem x_extend {X : Cx} {W : WX} {o e : Expr} {eo ee : Ev} {apos cpos : Pos} (ho : PE X o (tE X.K W eo)) (ha : PE X e (tE X.K W ee))
    (hbase : attributeBase o "extend" X.env (eval o X.env) = eval o X.env := by rfl) (hst : starEach [e] X.env = (false, eval e X.env) :: starEach [] X.env := by rfl)
    (hfew : ((backTo cpos (starEach [e] X.env)).all (fun x => !x.1) && (backToKw cpos (keywordEach [] X.env)).all (fun x => x.1.isSome) && decide (([e] : List Expr).length + ([] : List Keyword).length + (if ([] : List Keyword).isEmpty then 0 else 1) < 30)) = true := by rfl)
    (hline : (apos.endLine == cpos.line) = true := by rfl) (hplain : (backTo cpos (starEach [] X.env)).any (·.1) = false := by rfl) :
    PE X (.Call (.Attribute o "extend" apos) [e] [] cpos) (tE X.K W (eExtend eo ee)) :=
  PE.imp (pe_bm PySem.F.plainAttrs_list PySem.F.slot_list_extend PySem.F.type_list_extend mt_extend ho (a_cons (W := W) ha a_nil hst) hbase hfew hline hst hplain) fun _ _ _ h => tBM_of mExtend_s h
section
variable {X : Cx} {W : WX} {a b : Expr} {ea eb : Ev} {k : List D → G → Res D} {p p2 pos pos2 : Pos} {te : (L2.St → Hp → (Int → Int → Hp → Prop) → Prop) → TE}
theorem x_listRg2M (hc : X.calm = true) (hg : Gl X "list") (hm : X.mg "list" = none) (hg2 : Gl X "range") (hm2 : X.mg "range" = none) (ha : PE X a (tE X.K W ea)) (hb : PE X b (tE X.K W eb)) (na : starEach [a, b] X.env = (false, eval a X.env) :: starEach [b] X.env := by rfl) (nb : starEach [b] X.env = (false, eval b X.env) :: starEach [] X.env := by rfl) (hp : (backTo pos2 (starEach [b] X.env)).any (·.1) = false := by rfl)
    (na2 : starEach [.Call (.Name "range" p2) [a, b] [] pos2] X.env = (false, eval (.Call (.Name "range" p2) [a, b] [] pos2) X.env) :: starEach [] X.env := by rfl) :
    PE X (.Call (.Name "list" p) [.Call (.Name "range" p2) [a, b] [] pos2] [] pos) (tE X.K W (eListRg2M ea eb)) := PE.imp (pe_listRg hc hg hm (prg_2 hg2 hm2 ha hb na nb hp) na2) fun _ _ _ h => rg2_of (fin := fun i j H Q => RgOk i j ∧ ∀ q, H q = none → Q (.ref q) (upd H q (.lst (rgV i j)))) kM_fin h
end
end AW
/-! Bzb: str(x) of an own instance with __str__; f-strings of texts and whole numbers. -/
namespace AW
open PySem PySem.Spec PyProof.Rows L2
def strB (c : Str) (K : PySem.W.Frag) : Bool := decide (PySem.W.findIn K (.ref (ga K c)) "__str__" = some (some (.ref (He.ma K (ga K c) "__str__")))) && PySem.W.isFn K (.ref (He.ma K (ga K c) "__str__"))
def SrF (tf : List He.Defn) (P : Program) (w : World) (K : PySem.W.Frag) (mg : Str → Option Value) (k : Nat) (ps : List (Str × Fn)) : Prop := ∀ q ∈ ps, strB q.1 K = true ∧ OkA tf P w K mg (He.ma K (ga K q.1) "__str__") k q.2
theorem srF_nil {tf : List He.Defn} {P : Program} {w : World} {K : PySem.W.Frag} {mg : Str → Option Value} {k : Nat} : SrF tf P w K mg k [] := fun _ h => nomatch h
theorem srF_cons {tf : List He.Defn} {P : Program} {w : World} {K : PySem.W.Frag} {mg : Str → Option Value} {j k : Nat} {ps : List (Str × Fn)} {c : Str} {fn : Fn} (hp : strB c K = true) (o : OkA tf P w K mg (He.ma K (ga K c) "__str__") j fn) (hj : j ≤ k)
    (r : SrF tf P w K mg k ps) : SrF tf P w K mg k ((c, fn) :: ps) := fun q hq => by
  rcases List.mem_cons.mp hq with e | e
  · subst e
    exact ⟨hp, o.mono hj⟩
  · exact r q e
def fStrO (ps : List (Str × Fn)) : Fn := fun ds g => match ds with
  | [x] => match insOf g x with
    | some c => match prOf ps c with
      | some fn => (noEx (fn [x] g)).bind fun d g1 => match d with
        | .str y => .ok (.str y) g1
        | _ => .no
      | none => .no
    | none => fStr [x] g
  | _ => .no
section
variable {X : Cx} {W : WX} {tf : List He.Defn} {ps : List (Str × Fn)} {j k : Nat}
def rStrO (K : PySem.W.Frag) (ps : List (Str × Fn)) : List V → Hp → VK → Prop := fun xs H Q => (∃ a c fn dx vs, xs = [.ref a] ∧ prOf ps c = some fn ∧ SlX.Slt H a (ga K c) dx vs ∧ spOf K fn [.ref a] H (fun v H' => ∃ b, v = V.str b ∧ Q (V.str b) H') fun _ _ _ => False) ∨ rStr K xs H Q
theorem cr_strO (SF : SrF tf X.prog X.w X.K X.mg k ps) (TB : TbB X.base X.mg tf X.K) (gd : Gd X.A) (hu : X.A.units + 50 < cLine) (hr : Room j X.A) (hj : k + 2 ≤ j) : CallR X (.type "str") (rStrO X.K ps) := by
  intro pins s σ H xs us Q I r h
  rcases h with ⟨a, c, fn, dx, vs, rfl, hfn, ha, q⟩ | h
  · rw [Vals.ref1 r]
    obtain ⟨hb, h4, h5⟩ := SF _ (prOf_mem hfn)
    unfold strB at hb
    simp only [Bool.and_eq_true, decide_eq_true_eq] at hb
    obtain ⟨sl, od, _, J, _⟩ := SlX.slt_inst I ha
    refine PySem.W.kso_call (show X.A.in1.in1.units < cLine from ?_) I.kIn J hb.1 hb.2 ?_
    · have e1 : X.A.in1.in1.units ≤ X.A.units + 50 := by
        simp only [Around.in1]
        omega
      omega
    refine wpAny_call (codeAny_mono (h5 X.base TB X.A.in1.in1 X.stack s H [.ref a] [.ref a] _ _ ((hr.mono hj).in1.in1) (gd_in1 (gd_in1 gd)) I.env0.in1.in1 (.cons rfl .nil) q) fun z s' hz => ?_)
    match z, hz with
    | .error e, hz =>
      obtain ⟨_, _, _, _, _, _, _, _, _, _, _, _, z⟩ := hz
      exact z.elim
    | .ok (.ret u), hz =>
      obtain ⟨v, H', I2, rv, b, rfl, q⟩ := I.after hz
      obtain ⟨tk, rfl⟩ : ∃ t, u = Value.str b t := rv
      exact ⟨V.str b, H', I2, ⟨tk, rfl⟩, q⟩
    | .ok .next, hz => exact hz.elim
    | .ok .brk, hz => exact hz.elim
    | .ok .cont, hz => exact hz.elim
  · exact call_str gd hu pins s σ H xs us Q I r h
theorem fStrO_s {K : PySem.W.Frag} {W : WX} : CalS K W (rStrO K ps) (fStrO ps) := fun σv m g H ds xs Q rl hd p => by
  unfold fStrO at p
  split at p
  · rename_i x
    obtain ⟨v, ws, rfl, h1, h2⟩ := hd.consV
    obtain rfl := h2.nilV
    split at p
    · rename_i c hc
      obtain ⟨a, dx, ws, rfl, h3⟩ := insOf_s rl h1 hc
      split at p
      · rename_i fn hfn
        refine .inl ⟨a, c, fn, dx, ws, rfl, hfn, h3, m, g, _, rl, .cons h1 .nil, ?_⟩
        have p2 := Post.bind (R := Den K) (R' := Den K) (P := fun v H' => ∃ b, v = V.str b ∧ Q (V.str b) H') p fun d g1 m1 H1 v l1 r1 d1 p1 => by
          cases d1 with
          | str => exact ⟨_, rfl, p1 m1 H1 _ (Le.refl m1) r1 .str⟩
          | _ => exact p1.elim
        exact noEx_s p2
      · exact p.elim
    · exact .inr (fStr_s σv m g H _ _ Q rl (.cons h1 .nil) p)
  · exact p.elim
end
/-! ### f-strings -/
def fmtD (g : G) (d : D) : Res D := match d with
  | .str y => if y.length ≤ sizeLine then .ok (.str y) g else .no
  | .int i => if i.natAbs.log2 < 1920 then .ok (.str (toString i)) g else .no
  | _ => .no
def eFmt (a : Ev) : Ev := fun σ g => (a σ g).bind fun d g1 => fmtD g1 d
def jsR : List Ev → Str → List (Option D) → G → Res Str
  | [], acc, _, g => .ok acc g
  | ev :: evs, acc, σ, g => (ev σ g).bind fun d g1 => match d with
    | .str y => if (acc ++ y).length ≤ sizeLine then jsR evs (acc ++ y) σ g1 else .no
    | _ => .no
def eJoin (evs : List Ev) : Ev := fun σ g => (jsR evs Str.empty σ g).bind fun y g1 => .ok (.str y) g1
section
variable {X : Cx} {W : WX} {ea : Ev} {e : Expr} {pos : Pos}
theorem x_fmt (he : PE X e (tE X.K W ea)) : PE X (.FormattedValue e (-1) none pos) (tE X.K W (eFmt ea)) := PE.imp (pe_fmt he) fun σ H Q h => by
  obtain ⟨m, σ', g, rl, sl, hl, p⟩ := h
  refine ⟨m, σ', g, rl, sl, hl, Post.bind p fun x g1 m1 H1 v l1 r1 d1 p1 => ?_⟩
  unfold fmtD at p1
  cases d1 with
  | str =>
    simp only at p1
    split at p1
    · rename_i h
      exact .inl ⟨_, rfl, h, p1 m1 H1 _ (Le.refl m1) r1 .str⟩
    · exact p1.elim
  | int =>
    simp only at p1
    split at p1
    · rename_i h
      exact .inr ⟨_, rfl, h, p1 m1 H1 _ (Le.refl m1) r1 .str⟩
    · exact p1.elim
  | _ => exact p1.elim
theorem js_s {K : PySem.W.Frag} : ∀ (evs : List Ev) (acc : Str) (σv : L2.St) (H : Hp) (Q : Str → Hp → Prop), (∃ m σ g, Rel K m g H ∧ Slots K m σ σv ∧ σ.length ≤ σv.length ∧ Post K W σv (fun _ a b => a = b) (jsR evs acc σ g) m Q) → tJs (evs.map (tE K W)) acc σv H Q
  | [], acc, σv, H, Q, ⟨m, σ, g, rl, sl, hl, p⟩ => p m H _ (Le.refl m) rl rfl
  | ev :: evs, acc, σv, H, Q, ⟨m, σ, g, rl, sl, hl, p⟩ => by
    refine ⟨m, σ, g, rl, sl, hl, Post.bind p fun x g1 m1 H1 v l1 r1 d1 p1 => ?_⟩
    cases d1 with
    | str =>
      simp only at p1
      split at p1
      · rename_i h
        exact ⟨_, rfl, h, js_s evs _ σv H1 Q ⟨m1, σ, g1, r1, sl.mono l1, hl, p1⟩⟩
      · exact p1.elim
    | _ => exact p1.elim
theorem x_joined {v1 v2 : Expr} {rest : List Expr} {evs : List Ev} (h : PJ X (v1 :: v2 :: rest) (evs.map (tE X.K W))) : PE X (.JoinedStr (v1 :: v2 :: rest) pos) (tE X.K W (eJoin evs)) := PE.imp (pe_joined h) fun σ H Q h => by
  obtain ⟨m, σ', g, rl, sl, hl, p⟩ := h
  refine js_s evs _ σ H _ ⟨m, σ', g, rl, sl, hl, Post.bind p fun y g1 m1 H1 v l1 r1 d1 p1 => ?_⟩
  subst d1
  exact p1 m1 H1 _ (Le.refl m1) r1 .str
end
end AW
/-! Bzf: sep.join(a list of texts). -/
namespace AW
open PySem PySem.Spec PyProof.Rows L2
def strsOf : List D → Option (List Str)
  | [] => some []
  | .str s :: r => match strsOf r with
    | some ss => some (s :: ss)
    | none => none
  | _ :: _ => none
theorem strsOf_s {K : PySem.W.Frag} {m : Md} : ∀ {ds : List D} {vs : List V} {ss : List Str}, Dens K m ds vs → strsOf ds = some ss → vs = ss.map V.str
  | [], vs, ss, h, e => by
    cases e
    exact h.nilV
  | d :: ds, vs, ss, h, e => by
    obtain ⟨v, ws, rfl, h1, h2⟩ := h.consV
    cases d with
    | str s =>
      simp only [strsOf] at e
      split at e
      · rename_i r hr
        cases e
        cases h1
        rw [strsOf_s h2 hr]
        rfl
      · cases e
    | _ => cases e
theorem strsOf_map (ss : List Str) : strsOf (ss.map D.str) = some ss := by
  induction ss with
  | nil => rfl
  | cons s r ih =>
    rw [List.map_cons]
    unfold strsOf
    rw [ih]
def joinD (s : Str) (d : D) (g : G) : Res D := match lqOf g d with
  | some xs => match strsOf xs with
    | some ys => okIf (decide ((ys.map (·.length)).sum + ys.length * s.length ≤ 16777216)) (.str (Txt.join s ys)) g
    | none => .no
  | none => .no
def eJoinS (o a : Ev) : Ev := fun σ g => (o σ g).bind fun x g1 => match x with
  | .str s => (a σ g1).bind fun y g2 => joinD s y g2
  | _ => .no
theorem x_joinS {X : Cx} {W : WX} {o e : Expr} {eo ee : Ev} {apos pos : Pos} (ho : PE X o (tE X.K W eo)) (he : PE X e (tE X.K W ee)) (hs : starEach [e] X.env = [(false, eval e X.env)] := by rfl)
    (hbase : attributeBase o "join" X.env (eval o X.env) = eval o X.env := by rfl) (hline : (apos.endLine == pos.line) = true := by rfl) :
    PE X (.Call (.Attribute o "join" apos) [e] [] pos) (tE X.K W (eJoinS eo ee)) := PE.imp (pe_join ho he hs hbase hline) fun σ H Q h => by
  obtain ⟨m, σ', g, rl, sl, hl, p⟩ := h
  refine ⟨m, σ', g, rl, sl, hl, Post.bind p fun x g1 m1 H1 xv l1 r1 d1 p1 => ?_⟩
  split at p1
  · rename_i s
    cases d1
    refine ⟨⟨s, rfl⟩, m1, σ', g1, r1, sl.mono l1, hl, Post.bind p1 fun y g2 m2 H2 yv l2 r2 d2 p2 => ?_⟩
    unfold joinD at p2
    split at p2
    · rename_i xs hx
      obtain ⟨a, vs, rfl, h3, h4⟩ := lqOf_s r2 d2 hx
      split at p2
      · rename_i ys hy
        obtain ⟨c, p2⟩ := okIf_post p2
        refine ⟨s, a, ys, rfl, rfl, .inl (by rw [← strsOf_s h4 hy]; exact h3), of_decide_eq_true c, ?_⟩
        exact fin_ok r2 .str p2
      · exact p2.elim
    · exact p2.elim
  · exact p1.elim
end AW
/-! Be1: text.split(sep); int(text); a walk over a text. -/
namespace AW
open PySem PySem.Spec PyProof.Rows L2
def splitD (s : Str) (d : D) (g : G) : Res D := match d with
  | .str b => okIf (decide (b.length ≠ 0) && decide (s.length ≤ 90000)) (.lst ((Txt.split s b).map D.str)) g
  | _ => .no
def eSplitS (o a : Ev) : Ev := fun σ g => (o σ g).bind fun x g1 => match x with
  | .str s => (a σ g1).bind fun y g2 => splitD s y g2
  | _ => .no
theorem dens_strs {K : PySem.W.Frag} {m : Md} : ∀ l : List Str, Dens K m (l.map D.str) (l.map V.str)
  | [] => .nil
  | _ :: r => .cons .str (dens_strs r)
theorem x_splitS {X : Cx} {W : WX} {o e : Expr} {eo ee : Ev} {apos pos : Pos} (ho : PE X o (tE X.K W eo)) (he : PE X e (tE X.K W ee)) (hs : starEach [e] X.env = [(false, eval e X.env)] := by rfl)
    (hbase : attributeBase o "split" X.env (eval o X.env) = eval o X.env := by rfl) (hline : (apos.endLine == pos.line) = true := by rfl) :
    PE X (.Call (.Attribute o "split" apos) [e] [] pos) (tE X.K W (eSplitS eo ee)) := PE.imp (pe_split ho he hs hbase hline) fun σ H Q h => by
  obtain ⟨m, σ', g, rl, sl, hl, p⟩ := h
  refine ⟨m, σ', g, rl, sl, hl, Post.bind p fun x g1 m1 H1 xv l1 r1 d1 p1 => ?_⟩
  split at p1
  · rename_i s
    cases d1
    refine ⟨⟨s, rfl⟩, m1, σ', g1, r1, sl.mono l1, hl, Post.bind p1 fun y g2 m2 H2 yv l2 r2 d2 p2 => ?_⟩
    unfold splitD at p2
    split at p2
    · rename_i b
      cases d2
      obtain ⟨c, p2⟩ := okIf_post p2
      simp only [Bool.and_eq_true, decide_eq_true_eq] at c
      refine ⟨s, b, rfl, rfl, by simpa using c.1, line5 (by omega), ?_⟩
      exact fin_lst r2 (dens_strs _) p2
    · exact p2.elim
  · exact p1.elim
def fIntT : Fn := fun ds g => match ds with
  | [.str a] => match PySem.intText? a with
    | some n => okIf (decide (a.length ≤ 640)) (.int n) g
    | none => .no
  | ds => fInt ds g
def rIntT : List V → Hp → VK → Prop := fun xs H Q => (∃ a n, xs = [.str a] ∧ PySem.intText? a = some n ∧ a.length ≤ 640 ∧ Q (.int n) H) ∨ ((∃ i, xs = [.int i] ∧ Q (.int i) H) ∨ ∃ k, xs = [.bl k] ∧ Q (.int (if k then 1 else 0)) H)
theorem call_intT {X : Cx} : CallR X (.type "int") rIntT := fun pins s σ H xs us Q I r h => h.elim (fun h => call_int_str pins s σ H xs us Q I r h) (fun h => call_int1 pins s σ H xs us Q I r h)
theorem fIntT_s {K : PySem.W.Frag} {W : WX} : CalS K W rIntT fIntT := fun σv m g H ds xs Q rl hd p => by
  unfold fIntT at p
  split at p
  · rename_i a
    obtain ⟨v, ws, rfl, h1, h2⟩ := hd.consV
    obtain rfl := h2.nilV
    cases h1
    split at p
    · rename_i n hn
      obtain ⟨c, p⟩ := okIf_post p
      exact .inl ⟨a, n, rfl, hn, of_decide_eq_true c, fin_ok rl .int p⟩
    · exact p.elim
  · exact .inr (fInt_s σv m g H _ xs Q rl hd p)
def ivStr (d : D) (g : G) : Res Iv := match d with
  | .str x => .ok (.fix (x.cps.toList.map fun c => .str ⟨#[c]⟩)) g
  | _ => .no
def iStrS (e : Ev) : Ivv := fun σ g => (e σ g).bind ivStr
theorem its_ok {K : PySem.W.Frag} {m : Md} {x : Str} : ItOk K m (.fix (x.cps.toList.map fun c => D.str ⟨#[c]⟩)) (Its x) := fun m' g H l r k => by
  refine ⟨fun hk => by rw [List.length_map, Array.length_toList] at hk; exact hk, fun d hd => ?_⟩
  rw [List.getElem?_map] at hd
  cases hc : x.cps.toList[k]? with
  | none => rw [hc] at hd; cases hd
  | some c =>
    rw [hc] at hd
    cases hd
    have hc' : x.cps[k]? = some c := by rw [← hc, Array.getElem?_toList]
    refine ⟨(Array.getElem?_eq_some_iff.1 hc').1, fun v H' y => ?_⟩
    obtain ⟨e1, c2, e2, e3⟩ := y
    subst e1
    rw [hc'] at e2
    cases e2
    rw [e3]
    exact ⟨m', Le.refl m', r, .str⟩
theorem i_str {X : Cx} {W : WX} {tg e : Expr} {ee : Ev} (he : PE X e (tE X.K W ee)) : PI X tg e (tIt X.K W (iStrS ee)) := PI.imp (pi_str he) fun σ H R h => by
  obtain ⟨m, σ', g, rl, sl, p⟩ := h
  refine ⟨m, σ', g, rl, sl.1, sl.2, Post.bind p fun d g1 m1 H1 v l1 r1 d1 p1 => ?_⟩
  unfold ivStr at p1
  cases d1 with
  | str => exact ⟨_, rfl, fin_ok r1 its_ok p1⟩
  | _ => exact p1.elim
end AW
/-! Bc1: list comprehensions with two fors (over lists that do not change). -/
namespace AW
open PySem PySem.Spec L2
def lc2L (gv : Gv) (tt : Tv) (iv1 : Ivv) (gv1 : Gv) (tt1 : Tv) (te : Ev) (vs1 : List Nat) (σ : Sg) : List D → G → Res (List D)
  | [], g => .ok [] g
  | d :: ds, g => match gv d σ g with
    | some (σ1, g2) => match tt σ1 g2 with
      | .ok true g3 => match iv1 σ1 g3 with
        | .ok (.fix ds1) g4 => match lcL gv1 tt1 te (wipeD σ1 vs1) ds1 g4 with
          | .ok zs g5 => match lc2L gv tt iv1 gv1 tt1 te vs1 σ ds g5 with
            | .ok ys g6 => .ok (zs ++ ys) g6
            | _ => .no
          | _ => .no
        | _ => .no
      | .ok false g3 => lc2L gv tt iv1 gv1 tt1 te vs1 σ ds g3
      | _ => .no
    | none => .no
def eLc2 (iv : Ivv) (gv : Gv) (tt : Tv) (iv1 : Ivv) (gv1 : Gv) (tt1 : Tv) (te : Ev) (vs vs1 : List Nat) : Ev := fun σ g => (iv σ g).bind fun v g1 => match v with
  | .fix ds => (noEx (lc2L gv tt iv1 gv1 tt1 te vs1 (wipeD σ vs) ds g1)).bind fun ys g2 => okIf (small ys) (.lst ys) g2
  | _ => .no
/-- one thing less is set aside -/
def Md.less (m : Md) (p : Addr) : Md := ⟨m.F, m.r, fun a => if a = p then none else m.hid a⟩
theorem slots_less {K : PySem.W.Frag} {m : Md} {p : Addr} {σ : Sg} {σv : L2.St} (h : SlotsL K m σ σv) : SlotsL K (m.less p) σ σv := ⟨fun i d q => by
  obtain ⟨v, h1, h2⟩ := h.1 i d q
  exact ⟨v, h1, den_md (m := m) (m' := m.less p) (fun _ _ z => z) (fun _ _ z => z) h2⟩, h.2⟩
theorem le_less {m m2 : Md} {p : Addr} (l : LeF m m2) (hh : ∀ a o, a ≠ p → m.hid a = some o → m2.hid a = some o) : Le (m.less p) m2 := ⟨l.F, l.r, fun a o e => by
  have e' : (if a = p then none else m.hid a) = some o := e
  by_cases h : a = p
  · rw [if_pos h] at e'; cases e'
  · rw [if_neg h] at e'; exact hh a o h e'⟩
/-- the inner loop, from a state in the middle of the outer one -/
theorem inner_s {K : PySem.W.Frag} {iv1 : Ivv} {gv1 : Gv} {tt1 : Tv} {te : Ev} {vs1 : List Nat} {t1 : TG} {σ1 : Sg} {σv : L2.St} {m0 m : Md} {g3 g4 g5 : G} {H : Hp} {Dl : Addr} {acc : List D} {accv : List V} {ds1 zs : List D} {Nx : Hp → Prop}
    (ct1 : CT K vs1 t1 gv1) (l0 : Le m0 m) (r : Rel K m g3 H) (sl : SlotsL K m σ1 σv) (hD : m.hid Dl = some (.lst accv)) (n0 : m0.hid Dl = none) (ha : Dens K m acc accv) (e1 : iv1 σ1 g3 = .ok (.fix ds1) g4) (e2 : lcL gv1 tt1 te (wipeD σ1 vs1) ds1 g4 = .ok zs g5)
    (hz : (acc ++ zs).length ≤ 100000) (k : ∀ m2 H2 accv2, Le m0 m2 → Rel K m2 g5 H2 → m2.hid Dl = some (.lst accv2) → Dens K m2 (acc ++ zs) accv2 → Nx H2) :
    tIt K W0 iv1 σv H fun J1 H4 => ∃ W1 : Nat → Nat → Hp → Prop, (∃ m, W1 0 m H4) ∧ ∀ j k H, W1 j k H →
      (J1.stop j H ∧ Nx H) ∨ (J1.go j H ∧ ∃ Nx1 : Hp → Prop, (∀ H', Nx1 H' → ∃ k', k' < k ∧ W1 (j + 1) k' H') ∧ ∀ x H', J1.yld j H x H' → t1 x (wipe σv vs1) H' fun σ3 H5 => wipe σ3 vs1 = wipe σv vs1 ∧ tT K W0 tt1 σ3 H5 fun b H6 =>
        if b = true then tE K W0 te σ3 H6 fun y H7 => ∃ acc, H7 Dl = some (.lst acc) ∧ acc.length < sizeLine ∧ Nx1 (upd H7 Dl (.lst (acc ++ [y]))) else Nx1 H6) := by
  refine ⟨m, σ1, g3, r, sl, ?_⟩
  rw [e1]
  intro m1 H1 J l1 r1 iok
  -- the base: m1 without the list in the making
  have b1 : Le (m1.less Dl) m1 := le_less ⟨fun _ _ z => z, fun _ _ z => z⟩ fun _ _ _ z => z
  have nb : (m1.less Dl).hid Dl = none := if_pos rfl
  have b0 : Le m0 (m1.less Dl) := ⟨fun a o z => l1.F a o (l0.F a o z), fun i a z => l1.r i a (l0.r i a z), fun a o z => by
    show (if a = Dl then none else m1.hid a) = some o
    rw [if_neg (fun q => by rw [q, n0] at z; cases z)]
    exact l1.hid a o (l0.hid a o z)⟩
  have sw : SlotsL K (m1.less Dl) (wipeD σ1 vs1) (wipe σv vs1) := slots_less (wipe_s (sl.mono l1) vs1)
  have iokF : ∀ m2, Le (m1.less Dl) m2 → LeF m1 m2 := fun m2 l => ⟨l.F, l.r⟩
  refine ⟨fun i n H => ∃ m2 g2 ac av rest, Le (m1.less Dl) m2 ∧ Rel K m2 g2 H ∧ m2.hid Dl = some (.lst av) ∧ Dens K m2 ac av ∧ lcL gv1 tt1 te (wipeD σ1 vs1) (ds1.drop i) g2 = .ok rest g5 ∧ ac ++ rest = acc ++ zs ∧ n = ds1.length - i ∧ i ≤ ds1.length,
    ⟨ds1.length, m1, g4, acc, accv, zs, b1, r1, l1.hid _ _ hD, ha.mono l1, e2, rfl, rfl, Nat.zero_le _⟩, ?_⟩
  rintro i n H2 ⟨m2, g2, ac, av, rest, l2, r2, h2, da, q2, q3, q4, q5⟩
  obtain ⟨hstop, hgo⟩ := iok m2 g2 H2 (iokF m2 l2) r2 i
  by_cases hi : i < ds1.length
  · rw [List.drop_eq_getElem_cons hi] at q2
    have q2' : (match lcT gv1 tt1 te (wipeD σ1 vs1) ds1[i] g2 with | .ok o g1 => lcPut o (lcL gv1 tt1 te (wipeD σ1 vs1) (ds1.drop (i + 1)) g1) | _ => .no) = Res.ok rest g5 := q2
    cases hT : lcT gv1 tt1 te (wipeD σ1 vs1) ds1[i] g2 with
    | no => rw [hT] at q2'; cases q2'
    | ex e g3 => rw [hT] at q2'; cases q2'
    | ok o g6 =>
      rw [hT] at q2'
      obtain ⟨ws, hz1, hz2⟩ := lcPut_ok q2'
      obtain ⟨go, hy⟩ := hgo ds1[i] (by simp [hi])
      refine .inr ⟨go, fun H => ∃ m2 g2 ac av rest, Le (m1.less Dl) m2 ∧ Rel K m2 g2 H ∧ m2.hid Dl = some (.lst av) ∧ Dens K m2 ac av ∧ lcL gv1 tt1 te (wipeD σ1 vs1) (ds1.drop (i + 1)) g2 = .ok rest g5 ∧ ac ++ rest = acc ++ zs,
        fun H' ⟨m3, g4, ac, av, rs, q1, q2, q3, q4, q5, q6⟩ => ⟨ds1.length - (i + 1), by omega, m3, g4, ac, av, rs, q1, q2, q3, q4, q5, q6, rfl, hi⟩, fun x H3 yl => ?_⟩
      obtain ⟨m3, l3, r3, hd⟩ := hy x H3 yl
      refine lcT_s (o := o) (acc := ac) (accv := av) (wipe_idem σv vs1) ct1 (l2.trans l3) r3 sw (l3.hid _ _ h2) nb (da.mono l3) (fun y hy' => ?_) hd hT fun m4 H4 av4 l4 r4 h4 d4 => ⟨m4, g6, addO ac o, av4, ws, l4, r4, h4, d4, hz1, ?_⟩
      · rw [hz2, hy'] at q3
        have := congrArg List.length q3
        rw [List.length_append] at this
        simp only [consO, List.length_cons] at this
        omega
      · rw [← app_put, ← hz2]
        exact q3
  · have hi' : i = ds1.length := by omega
    subst hi'
    rw [List.drop_length] at q2
    have q2' : Res.ok [] g2 = Res.ok rest g5 := q2
    cases q2'
    rw [List.append_nil] at q3
    exact .inl ⟨hstop (Nat.le_refl _), k m2 H2 av (b0.trans l2) r2 h2 (by rw [← q3]; exact da)⟩
/-- one turn of the outer loop -/
theorem outer_s {K : PySem.W.Frag} {gv gv1 : Gv} {tt tt1 : Tv} {iv1 : Ivv} {te : Ev} {vs vs1 : List Nat} {t t1 : TG} {σ : Sg} {σv : L2.St} {m0 m : Md} {d : D} {x : V} {g gF : G} {H : Hp} {Dl : Addr} {acc : List D} {accv : List V} {ds rest : List D} {Nx : Hp → Prop} {wq : L2.St} (hwq : wipe σv vs = wq)
    (ct : CT K vs t gv) (ct1 : CT K vs1 t1 gv1) (l0 : Le m0 m) (r : Rel K m g H) (sl : SlotsL K m0 σ σv) (hD : m.hid Dl = some (.lst accv)) (n0 : m0.hid Dl = none) (ha : Dens K m acc accv) (hd : Den K m d x) (e : lc2L gv tt iv1 gv1 tt1 te vs1 σ (d :: ds) g = .ok rest gF)
    (hz : (acc ++ rest).length ≤ 100000) (k : ∀ m2 H2 g2 acc2 accv2 rest2, Le m0 m2 → Rel K m2 g2 H2 → m2.hid Dl = some (.lst accv2) → Dens K m2 acc2 accv2 → lc2L gv tt iv1 gv1 tt1 te vs1 σ ds g2 = .ok rest2 gF → acc2 ++ rest2 = acc ++ rest → Nx H2) :
    t x σv H fun σ2 H2 => wipe σ2 vs = wq ∧ tT K W0 tt σ2 H2 fun b H3 =>
      if b = true then tIt K W0 iv1 σ2 H3 fun J1 H4 => ∃ W1 : Nat → Nat → Hp → Prop, (∃ m, W1 0 m H4) ∧ ∀ j k H, W1 j k H →
        (J1.stop j H ∧ Nx H) ∨ (J1.go j H ∧ ∃ Nx1 : Hp → Prop, (∀ H', Nx1 H' → ∃ k', k' < k ∧ W1 (j + 1) k' H') ∧ ∀ x H', J1.yld j H x H' → t1 x (wipe σ2 vs1) H' fun σ3 H5 => wipe σ3 vs1 = wipe σ2 vs1 ∧ tT K W0 tt1 σ3 H5 fun b H6 =>
          if b = true then tE K W0 te σ3 H6 fun y H7 => ∃ acc, H7 Dl = some (.lst acc) ∧ acc.length < sizeLine ∧ Nx1 (upd H7 Dl (.lst (acc ++ [y]))) else Nx1 H6)
      else Nx H3 := by
  unfold lc2L at e
  split at e
  · rename_i σ1 g2 hq
    refine ct m d x σ σv g H σ1 g2 _ r (sl.mono l0) hd hq fun σv2 s2 w2 r2 => ⟨w2.trans hwq, m, σ1, g2, r2, s2.1, s2.2, ?_⟩
    split at e
    · rename_i g3 ht
      rw [ht]
      refine fun m3 H3 b l3 r3 eb => ?_
      subst eb
      rw [if_pos rfl]
      split at e
      · rename_i ds1 g4 hv
        split at e
        · rename_i zs g5 hl
          split at e
          · rename_i ys g6 hy
            cases e
            refine inner_s (zs := zs) ct1 (l0.trans l3) r3 (s2.mono l3) (l3.hid _ _ hD) n0 (ha.mono l3) hv hl ?_ fun m4 H4 av l4 r4 h4 d4 => k m4 H4 g5 _ av ys l4 r4 h4 d4 hy (List.append_assoc _ _ _)
            rw [List.length_append] at hz ⊢
            rw [List.length_append] at hz
            omega
          · cases e
        · cases e
      · cases e
    · rename_i g3 ht
      rw [ht]
      refine fun m3 H3 b l3 r3 eb => ?_
      subst eb
      rw [if_neg Bool.false_ne_true]
      exact k m3 H3 g3 acc accv rest (l0.trans l3) r3 (l3.hid _ _ hD) (ha.mono l3) e rfl
    · cases e
  · cases e
section
variable {X : Cx} {W : WX} {elt tg iter tg1 iter1 : Expr} {ifs ifs1 : List Expr} {scope : Scope} {own : List (Str × Nat)} {vs1 : List Nat} {pos : Pos} {iv iv1 : Ivv} {t t1 : TG} {gv gv1 : Gv} {tt tt1 : Tv} {te : Ev}
theorem lc2_t {vs : List Nat} {σ : L2.St} {H : Hp} {Q : VK} (ct : CT X.K vs t gv) (ct1 : CT X.K vs1 t1 gv1) (h : tE X.K W (eLc2 iv gv tt iv1 gv1 tt1 te vs vs1) σ H Q) : tLc2 (tIt X.K W iv) t (tT X.K W0 tt) (tIt X.K W0 iv1) t1 (tT X.K W0 tt1) (tE X.K W0 te) vs vs1 σ H Q := by
  obtain ⟨m, σ', g, rl, sl, hl, p⟩ := h
  refine ⟨m, σ', g, rl, ⟨sl, hl⟩, Post.bind p fun v g1 m1 H1 J l1 r1 iok p1 => ?_⟩
  intro Dl hD
  have sw : SlotsL X.K m1 (wipeD σ' vs) (wipe σ vs) := wipe_s (SlotsL.mono l1 ⟨sl, hl⟩) vs
  have n0 := r1.hfree hD
  cases v with
  | dyn j => exact p1.elim
  | dynf j f => exact p1.elim
  | dyng f => exact p1.elim
  | fix ds =>
    have p1 : Post X.K W σ (Den X.K) ((noEx (lc2L gv tt iv1 gv1 tt1 te vs1 (wipeD σ' vs) ds g1)).bind fun ys g2 => okIf (small ys) (.lst ys) g2) m1 Q := p1
    cases hq : lc2L gv tt iv1 gv1 tt1 te vs1 (wipeD σ' vs) ds g1 with
    | no => rw [hq] at p1; exact p1.elim
    | ex e g2 => rw [hq] at p1; exact p1.elim
    | ok yall gF =>
      rw [hq] at p1
      have p1' : Post X.K W σ (Den X.K) (okIf (small yall) (.lst yall) gF) m1 Q := p1
      have hlen := okIf_len p1'
      have l0 : Le m1 (m1.hide Dl (.lst [])) := le_hide n0
      have h0 : (m1.hide Dl (.lst [])).hid Dl = some (.lst []) := by show upd m1.hid Dl _ Dl = _; exact upd_same
      refine ⟨fun i n H => ∃ m2 g2 acc accv rest, Le m1 m2 ∧ Rel X.K m2 g2 H ∧ m2.hid Dl = some (.lst accv) ∧ Dens X.K m2 acc accv ∧ lc2L gv tt iv1 gv1 tt1 te vs1 (wipeD σ' vs) (ds.drop i) g2 = .ok rest gF ∧ acc ++ rest = yall ∧ n = ds.length - i ∧ i ≤ ds.length,
        ⟨ds.length, m1.hide Dl (.lst []), g1, [], [], yall, l0, r1.hide hD, h0, .nil, hq, rfl, rfl, Nat.zero_le _⟩, ?_⟩
      rintro i n H2 ⟨m2, g2, acc, accv, rest, l2, r2, h2, da, e2, e3, e4, e5⟩
      obtain ⟨hstop, hgo⟩ := iok m2 g2 H2 l2.f r2 i
      by_cases hi : i < ds.length
      · rw [List.drop_eq_getElem_cons hi] at e2
        obtain ⟨go, hy⟩ := hgo ds[i] (by simp [hi])
        refine .inr ⟨go, fun H => ∃ m2 g2 acc accv rest, Le m1 m2 ∧ Rel X.K m2 g2 H ∧ m2.hid Dl = some (.lst accv) ∧ Dens X.K m2 acc accv ∧ lc2L gv tt iv1 gv1 tt1 te vs1 (wipeD σ' vs) (ds.drop (i + 1)) g2 = .ok rest gF ∧ acc ++ rest = yall,
          fun H' ⟨m3, g4, ac, av, rs, q1, q2, q3, q4, q5, q6⟩ => ⟨ds.length - (i + 1), by omega, m3, g4, ac, av, rs, q1, q2, q3, q4, q5, q6, rfl, hi⟩, fun x H3 yl => ?_⟩
        obtain ⟨m3, l3, r3, hd⟩ := hy x H3 yl
        exact outer_s (wipe_idem σ vs) ct ct1 (l2.trans l3) r3 sw (l3.hid _ _ h2) n0 (da.mono l3) hd e2 (by rw [e3]; exact hlen) fun m4 H4 g4 ac av rs l4 r4 h4 d4 q1 q2 => ⟨m4, g4, ac, av, rs, l4, r4, h4, d4, q1, q2.trans e3⟩
      · have hi' : i = ds.length := by omega
        subst hi'
        rw [List.drop_length] at e2
        have e2' : Res.ok [] g2 = Res.ok rest gF := e2
        cases e2'
        rw [List.append_nil] at e3
        subst e3
        refine .inl ⟨hstop (Nat.le_refl _), ?_⟩
        obtain ⟨c, p2⟩ := okIf_post p1'
        have hF := (r2.hid _ _ h2).2.1
        refine p2 _ _ _ ?_ (r2.freeze h2) (.lst (by show upd m2.F Dl _ Dl = _; exact upd_same) (dens_md (m := m2) (m' := ⟨upd m2.F Dl (.lst accv), m2.r, m2.unhide Dl none⟩) (fun a o e => by show upd m2.F Dl _ a = _; rw [upd_ne (ne_of_none e hF)]; exact e) (fun _ _ z => z) da))
        refine ⟨fun a o e => ?_, l2.r, fun a o e => ?_⟩
        · show upd m2.F Dl _ a = some o
          rw [upd_ne (ne_of_none (l2.F a o e) hF)]
          exact l2.F a o e
        · show (if a = Dl then none else m2.hid a) = some o
          rw [if_neg (fun z => by rw [z, n0] at e; cases e)]
          exact l2.hid a o e
theorem x_lc2 (hc : X.calm = true) (hN : X.N.Nodup) (hi : PI X tg iter (tIt X.K W iv)) (ok : BlkOk X.N X.env.scope scope own) (hv : ∀ i ∈ vs1, i ∈ own.map (·.2)) (ct : CT X.K (own.map (·.2)) t gv) (ct1 : CT X.K vs1 t1 gv1)
    (hg : ∀ (s : Shared) (H : Hp) (C : Addr) (cl : List (Str × Addr)) (fp : List Addr), PG (X.blk s H scope (compEnvC scope cl C X.env) fp) tg t) (ht : ∀ (s : Shared) (H : Hp) (C : Addr) (cl : List (Str × Addr)) (fp : List Addr), PTs (X.blk s H scope (compEnvC scope cl C X.env) fp) ifs (tT X.K W0 tt))
    (hi1 : ∀ (s : Shared) (H : Hp) (C : Addr) (cl : List (Str × Addr)) (fp : List Addr), PI (X.blk s H scope (compEnvC scope cl C X.env) fp) tg1 iter1 (tIt X.K W0 iv1))
    (hg1 : ∀ (s : Shared) (H : Hp) (C : Addr) (cl : List (Str × Addr)) (fp : List Addr), PG (X.blk s H scope (compEnvC scope cl C X.env) fp) tg1 t1) (ht1 : ∀ (s : Shared) (H : Hp) (C : Addr) (cl : List (Str × Addr)) (fp : List Addr), PTs (X.blk s H scope (compEnvC scope cl C X.env) fp) ifs1 (tT X.K W0 tt1))
    (he : ∀ (s : Shared) (H : Hp) (C : Addr) (cl : List (Str × Addr)) (fp : List Addr), PE (X.blk s H scope (compEnvC scope cl C X.env) fp) elt (tE X.K W0 te)) (hs : ∀ x, foldedSetIterable iter X.env x = pure x := by intro _; rfl) (hs1 : ∀ env x, foldedSetIterable iter1 env x = pure x := by intro _ _; rfl) :
    PE X (.ListComp elt [⟨tg, iter, ifs, 0⟩, ⟨tg1, iter1, ifs1, 0⟩] scope pos) (tE X.K W (eLc2 iv gv tt iv1 gv1 tt1 te (own.map (·.2)) vs1)) := PE.imp (pe_lc2 hc hN hi ok hv hg ht hi1 hg1 ht1 he hs hs1) fun σ H Q h => lc2_t ct ct1 h
theorem s_setLc2 {i : Nat} {y : Str} {py spos : Pos} (hc : X.calm = true) (hN : X.N.Nodup) (hy : X.N[i]? = some y) (hyl : X.env.scope.names.lookup y = some .local)
    (hsw : swapsWith (.ListComp elt [⟨tg, iter, ifs, 0⟩, ⟨tg1, iter1, ifs1, 0⟩] scope pos) (some (.Name y py)) spos.line X.env = pure true) (hi : PI X tg iter (tIt X.K W iv)) (ok : BlkOk X.N X.env.scope scope own) (hv : ∀ i ∈ vs1, i ∈ own.map (·.2)) (ct : CT X.K (own.map (·.2)) t gv) (ct1 : CT X.K vs1 t1 gv1)
    (hg : ∀ (s : Shared) (H : Hp) (C : Addr) (cl : List (Str × Addr)) (fp : List Addr), PG (X.blk s H scope (compEnvC scope cl C X.env) fp) tg t) (ht : ∀ (s : Shared) (H : Hp) (C : Addr) (cl : List (Str × Addr)) (fp : List Addr), PTs (X.blk s H scope (compEnvC scope cl C X.env) fp) ifs (tT X.K W0 tt))
    (hi1 : ∀ (s : Shared) (H : Hp) (C : Addr) (cl : List (Str × Addr)) (fp : List Addr), PI (X.blk s H scope (compEnvC scope cl C X.env) fp) tg1 iter1 (tIt X.K W0 iv1))
    (hg1 : ∀ (s : Shared) (H : Hp) (C : Addr) (cl : List (Str × Addr)) (fp : List Addr), PG (X.blk s H scope (compEnvC scope cl C X.env) fp) tg1 t1) (ht1 : ∀ (s : Shared) (H : Hp) (C : Addr) (cl : List (Str × Addr)) (fp : List Addr), PTs (X.blk s H scope (compEnvC scope cl C X.env) fp) ifs1 (tT X.K W0 tt1))
    (he : ∀ (s : Shared) (H : Hp) (C : Addr) (cl : List (Str × Addr)) (fp : List Addr), PE (X.blk s H scope (compEnvC scope cl C X.env) fp) elt (tE X.K W0 te)) (hs : ∀ x, foldedSetIterable iter X.env x = pure x := by intro _; rfl) (hs1 : ∀ env x, foldedSetIterable iter1 env x = pure x := by intro _ _; rfl) :
    PS X (.Assign [.Name y py] (.ListComp elt [⟨tg, iter, ifs, 0⟩, ⟨tg1, iter1, ifs1, 0⟩] scope pos) spos) (tS X.K W (sSet i (eLc2 iv gv tt iv1 gv1 tt1 te (own.map (·.2)) vs1))) := PS.imp (ps_setLc2 hc hN hy hyl hsw hi ok hv hg ht hi1 hg1 ht1 he hs hs1) fun D' σ H h => by
  obtain ⟨m, σ', g, rl, sl, p⟩ := h
  have h' : tE X.K W (eLc2 iv gv tt iv1 gv1 tt1 te (own.map (·.2)) vs1) σ H (fun x H1 => D'.nx (σ.set i (some x)) H1) := ⟨m, σ', g, rl, sl.1, sl.2, sBind_s sl p fun d g1 m1 H1 v l1 r1 d1 p1 => p1 m1 H1 _ (Le.refl m1) r1 ((sl.mono l1).set d1)⟩
  exact lc2_t ct ct1 h'
end
end AW
/-! Ap: what is due behind an evaluator, backwards (plain; no program in sight). -/
namespace AW
open PySem PySem.Spec L2
def Res.wp {α : Type} (r : Res α) (Q : α → G → Prop) : Prop := match r with
  | .ok a g => Q a g
  | _ => False
def SRes.wp (r : SRes) (N : Sg → G → Prop) (R : D → G → Prop) (B C : Sg → G → Prop) : Prop := match r with
  | .nx σ g => N σ g
  | .rt d g => R d g
  | .bk σ g => B σ g
  | .ct σ g => C σ g
  | _ => False
theorem Res.wp_mono {α : Type} {r : Res α} {Q Q' : α → G → Prop} (h : r.wp Q) (k : ∀ a g, Q a g → Q' a g) : r.wp Q' := by
  cases r <;> first | exact k _ _ h | exact h.elim
theorem SRes.wp_mono {r : SRes} {N N' B B' C C' : Sg → G → Prop} {R R' : D → G → Prop} (h : r.wp N R B C) (n : ∀ σ g, N σ g → N' σ g) (k : ∀ d g, R d g → R' d g) (b : ∀ σ g, B σ g → B' σ g) (c : ∀ σ g, C σ g → C' σ g) : r.wp N' R' B' C' := by
  cases r <;> first | exact n _ _ h | exact k _ _ h | exact b _ _ h | exact c _ _ h | exact h.elim
theorem Res.wp_eq {α : Type} {r : Res α} {Q : α → G → Prop} (h : r.wp Q) : ∃ a g, r = .ok a g ∧ Q a g := by
  cases r <;> first | exact ⟨_, _, rfl, h⟩ | exact h.elim
section
variable {α β : Type} {N B C : Sg → G → Prop} {R : D → G → Prop} {σ : Sg} {g : G} {d : D}
@[simp] theorem wp_ok {a : α} {Q : α → G → Prop} : (Res.ok a g).wp Q = Q a g := rfl
@[simp] theorem wp_no {Q : α → G → Prop} : (Res.no : Res α).wp Q = False := rfl
@[simp] theorem wp_bind {r : Res α} {f : α → G → Res β} {Q : β → G → Prop} : (r.bind f).wp Q = r.wp (fun a g1 => (f a g1).wp Q) := by cases r <;> rfl
@[simp] theorem wp_okIf {c : Bool} {a : α} {Q : α → G → Prop} : (okIf c a g).wp Q = (c = true ∧ Q a g) := by
  cases c
  · show False = _
    simp
  · show Q a g = _
    simp
@[simp] theorem wp_ite {c : Prop} [Decidable c] {a b : Res α} {Q : α → G → Prop} : (if c then a else b).wp Q = if c then a.wp Q else b.wp Q := by split <;> rfl
@[simp] theorem wp_nx : (SRes.nx σ g).wp N R B C = N σ g := rfl
@[simp] theorem wp_rt : (SRes.rt d g).wp N R B C = R d g := rfl
@[simp] theorem wp_bk : (SRes.bk σ g).wp N R B C = B σ g := rfl
@[simp] theorem wp_ct : (SRes.ct σ g).wp N R B C = C σ g := rfl
@[simp] theorem wp_sno : SRes.no.wp N R B C = False := rfl
@[simp] theorem wp_sbind {r : Res α} {f : α → G → SRes} : (sBind σ r f).wp N R B C = r.wp (fun a g1 => (f a g1).wp N R B C) := by cases r <;> rfl
@[simp] theorem wp_nil : (sNil σ g).wp N R B C = N σ g := rfl
@[simp] theorem wp_pass : (sPass σ g).wp N R B C = N σ g := rfl
@[simp] theorem wp_break : (sBreak σ g).wp N R B C = B σ g := rfl
@[simp] theorem wp_cont : (sCont σ g).wp N R B C = C σ g := rfl
@[simp] theorem wp_cons {a b : Sx} : (sCons a b σ g).wp N R B C = (a σ g).wp (fun σ1 g1 => (b σ1 g1).wp N R B C) R B C := by
  unfold sCons
  cases a σ g <;> rfl
theorem wp_cut {a b : Sx} (M : Sg → G → Prop) (h1 : (a σ g).wp M R B C) (h2 : ∀ σ1 g1, M σ1 g1 → (b σ1 g1).wp N R B C) : (sCons a b σ g).wp N R B C := by
  rw [wp_cons]
  exact SRes.wp_mono h1 h2 (fun _ _ q => q) (fun _ _ q => q) fun _ _ q => q
@[simp] theorem wp_expr {e : Ev} : (sExpr e σ g).wp N R B C = (e σ g).wp (fun _ g1 => N σ g1) := by unfold sExpr; rw [wp_sbind]; rfl
@[simp] theorem wp_ret {e : Ev} : (sRet e σ g).wp N R B C = (e σ g).wp R := by unfold sRet; rw [wp_sbind]; rfl
@[simp] theorem wp_retN : (sRetN σ g).wp N R B C = R .non g := rfl
def pick {α : Type} (c : Bool) (a b : α) : α := match c with
  | true => a
  | false => b
@[simp] theorem pick_t {α : Type} {a b : α} : pick true a b = a := rfl
@[simp] theorem pick_f {α : Type} {a b : α} : pick false a b = b := rfl
theorem pick_dec {p : Prop} [Decidable p] {a b : Prop} (h1 : p → a) (h2 : ¬p → b) : pick (decide p) a b := by
  by_cases h : p
  · rw [decide_eq_true h]; exact h1 h
  · rw [decide_eq_false h]; exact h2 h
theorem pick_bool {c : Bool} {a b : Prop} (h1 : c = true → a) (h2 : c = false → b) : pick c a b := by
  cases c
  · exact h2 rfl
  · exact h1 rfl
@[simp] theorem wp_if {c : Tv} {a b : Sx} : (sIf c a b σ g).wp N R B C = (c σ g).wp (fun k g1 => pick k ((a σ g1).wp N R B C) ((b σ g1).wp N R B C)) := by
  unfold sIf
  rw [wp_sbind]
  congr
  funext k g1
  cases k <;> rfl
@[simp] theorem wp_set {i : Nat} {e : Ev} : (sSet i e σ g).wp N R B C = (e σ g).wp (fun d g1 => N (σ.set i (some d)) g1) := by unfold sSet; rw [wp_sbind]; rfl
@[simp] theorem wp_par {i j : Nat} {a b : Ev} : (sPar i j (aCons a (aCons b aNil)) σ g).wp N R B C = (a σ g).wp (fun x g1 => (b σ g1).wp fun y g2 => N ((σ.set i (some x)).set j (some y)) g2) := by
  unfold sPar
  rw [wp_sbind]
  simp only [aCons, aNil, wp_bind, wp_ok]
  rfl
@[simp] theorem wp_par3 {i j k : Nat} {a b c : Ev} : (sPar3 i j k (aCons a (aCons b (aCons c aNil))) σ g).wp N R B C = (a σ g).wp (fun x g1 => (b σ g1).wp fun y g2 => (c σ g2).wp fun z g3 => N (((σ.set i (some x)).set j (some y)).set k (some z)) g3) := by
  unfold sPar3
  rw [wp_sbind]
  simp only [aCons, aNil, wp_bind, wp_ok]
  rfl
def gvP (r : Option (Sg × G)) (N : Sg → G → Prop) : Prop := match r with
  | some (σ, g) => N σ g
  | none => False
@[simp] theorem wp_asg {e : Ev} {gv : Gv} : (sAsg e gv σ g).wp N R B C = (e σ g).wp (fun d g1 => gvP (gv d σ g1) N) := by
  unfold sAsg
  rw [wp_sbind]
  congr
  funext d g1
  unfold gvP
  cases gv d σ g1 <;> rfl
@[simp] theorem gvP_name {i : Nat} : gvP (gvName i d σ g) N = N (σ.set i (some d)) g := rfl
@[simp] theorem gvP_tup {n : Nat} {b : Gvs} {ds : List D} : gvP (gvTup n b (.tup ds) σ g) N = (if ds.length = n then gvP (b ds σ g) N else False) := by
  show gvP (if _ then _ else _) N = _
  split <;> rfl
@[simp] theorem gvP_sqT {n : Nat} {b : Gvs} {ds : List D} : gvP (gvSq n b (.tup ds) σ g) N = (if ds.length = n then gvP (b ds σ g) N else False) := by
  show gvP (if _ then _ else _) N = _
  split <;> rfl
@[simp] theorem gvP_sqL {n : Nat} {b : Gvs} {ds : List D} : gvP (gvSq n b (.lst ds) σ g) N = (if ds.length = n then gvP (b ds σ g) N else False) := by
  show gvP (if _ then _ else _) N = _
  split <;> rfl
@[simp] theorem gvP_nil : gvP (gvNil [] σ g) N = N σ g := rfl
@[simp] theorem gvP_cons {a : Gv} {b : Gvs} {ds : List D} : gvP (gvCons a b (d :: ds) σ g) N = gvP (a d σ g) (fun σ1 g1 => gvP (b ds σ1 g1) N) := by
  show gvP (match a d σ g with | some (σ1, g1) => b ds σ1 g1 | none => none) N = _
  cases a d σ g <;> rfl
/-- a[i] = e -/
def setP (o i d : D) (g : G) (N : G → Prop) : Prop := match setAt o i d g with
  | some g1 => N g1
  | none => False
@[simp] theorem gvP_sub {o i : Ev} : gvP (gvSub o i d σ g) N = (o σ g).wp fun ov g1 => (i σ g1).wp fun iv g2 => setP ov iv d g2 fun g3 => N σ g3 := by
  unfold gvSub
  cases o σ g <;> first | rfl | skip
  rename_i ov g1
  dsimp only
  show _ = (i σ g1).wp _
  cases i σ g1 <;> first | rfl | skip
  rename_i iv g2
  dsimp only
  show _ = setP ov iv d g2 _
  unfold setP gvP
  cases setAt ov iv d g2 <;> rfl
theorem setP_at {k : Nat} {j : Int} {xs : List D} {M : G → Prop} (n : Nat) (hk : g[k]? = some (.lst xs)) (hn : ixN xs.length j = some n) : setP (.ref k) (.int j) d g M = M (g.set k (.lst (xs.set n d))) := by
  have h1 : lmOf g k = some xs := by unfold lmOf; rw [hk]
  unfold setP setAt
  dsimp only
  rw [h1]
  dsimp only
  rw [hn]
@[simp] theorem eVar_0 {s : Sg} : eVar 0 (some d :: s) g = .ok d g := rfl
@[simp] theorem eVar_succ {i : Nat} {x : Option D} {s : Sg} : eVar (i + 1) (x :: s) g = eVar i s g := rfl
@[simp] theorem eC_ok : eC d σ g = .ok d g := rfl
@[simp] theorem aNil_ok : aNil σ g = .ok [] g := rfl
variable {Q : D → G → Prop} {QB : Bool → G → Prop} {QL : List D → G → Prop} {a b c : Ev} {ta tb : Tv} {t : Av}
@[simp] theorem wp_eOp {f : Op2} : (eOp f a b σ g).wp Q = (a σ g).wp (fun x g1 => (b σ g1).wp fun y g2 => (f x y g2).wp Q) := by unfold eOp; simp only [wp_bind]
@[simp] theorem wp_eUn {f : Op1} : (eUn f a σ g).wp Q = (a σ g).wp (fun x g1 => (f x g1).wp Q) := by unfold eUn; simp only [wp_bind]
@[simp] theorem wp_aCons : (aCons a t σ g).wp QL = (a σ g).wp (fun x g1 => (t σ g1).wp fun xs g2 => QL (x :: xs) g2) := by unfold aCons; simp only [wp_bind, wp_ok]
@[simp] theorem wp_eTup : (eTup t σ g).wp Q = (t σ g).wp (fun xs g1 => small xs = true ∧ Q (.tup xs) g1) := by unfold eTup; simp only [wp_bind, wp_okIf]
@[simp] theorem wp_eLst : (eLst t σ g).wp Q = (t σ g).wp (fun xs g1 => small xs = true ∧ Q (.lst xs) g1) := by unfold eLst; simp only [wp_bind, wp_okIf]
@[simp] theorem wp_eLstM : (eLstM t σ g).wp Q = (t σ g).wp (fun xs g1 => small xs = true ∧ Q (.ref g1.length) (g1 ++ [.lst xs])) := by unfold eLstM; simp only [wp_bind, wp_okIf]
@[simp] theorem wp_eCall {f : Fn} : (eCall f t σ g).wp Q = (t σ g).wp (fun ds g1 => (f ds g1).wp Q) := by unfold eCall; simp only [wp_bind]
@[simp] theorem wp_eIsi {own : List Str} {k : CK} : (eIsi own k a σ g).wp Q = (a σ g).wp (fun d g1 => (fIsi own k d g1).wp Q) := by unfold eIsi; simp only [wp_bind]
def tstP (d : D) (g : G) (Q : Bool → G → Prop) : Prop := match d with
  | .bl c => Q c g
  | _ => False
@[simp] theorem tstP_bl {k : Bool} : tstP (.bl k) g QB = QB k g := rfl
@[simp] theorem wp_eTst : (eTst a σ g).wp QB = (a σ g).wp (fun d g1 => tstP d g1 QB) := by
  unfold eTst
  rw [wp_bind]
  congr
  funext d g1
  cases d <;> rfl
def truP (d : D) (g : G) (Q : Bool → Prop) : Prop := match truth g d with
  | some c => Q c
  | none => False
@[simp] theorem truP_bl {k : Bool} {Q : Bool → Prop} : truP (.bl k) g Q = Q k := rfl
@[simp] theorem truP_int {k : Int} {Q : Bool → Prop} : truP (.int k) g Q = Q (k != 0) := rfl
@[simp] theorem truP_non {Q : Bool → Prop} : truP .non g Q = Q false := rfl
@[simp] theorem truP_tup {xs : List D} {Q : Bool → Prop} : truP (.tup xs) g Q = Q (!xs.isEmpty) := rfl
@[simp] theorem truP_lst {xs : List D} {Q : Bool → Prop} : truP (.lst xs) g Q = Q (!xs.isEmpty) := rfl
@[simp] theorem truP_seq {xs : List D} {Q : Bool → Prop} : truP (.seq xs) g Q = Q (!xs.isEmpty) := rfl
theorem wp_trR : (trR g d).wp QB = truP d g (fun c => QB c g) := by
  unfold trR truP
  cases truth g d <;> rfl
@[simp] theorem wp_eTru : (eTru a σ g).wp QB = (a σ g).wp (fun d g1 => truP d g1 fun c => QB c g1) := by
  unfold eTru
  rw [wp_bind]
  congr
  funext d g1
  exact wp_trR
@[simp] theorem wp_eAndT : (eAndT ta tb σ g).wp QB = (ta σ g).wp (fun k g1 => pick k ((tb σ g1).wp QB) (QB false g1)) := by
  unfold eAndT
  rw [wp_bind]
  congr
  funext k g1
  cases k <;> rfl
@[simp] theorem wp_eOrT : (eOrT ta tb σ g).wp QB = (ta σ g).wp (fun k g1 => pick k (QB true g1) ((tb σ g1).wp QB)) := by
  unfold eOrT
  rw [wp_bind]
  congr
  funext k g1
  cases k <;> rfl
@[simp] theorem wp_eNotT : (eNotT ta σ g).wp QB = (ta σ g).wp (fun k g1 => QB (!k) g1) := by unfold eNotT; simp only [wp_bind, wp_ok]
@[simp] theorem wp_eAnd : (eAnd a b σ g).wp Q = (a σ g).wp (fun d g1 => truP d g1 fun k => pick k ((b σ g1).wp Q) (Q d g1)) := by
  unfold eAnd
  rw [wp_bind]
  congr
  funext d g1
  rw [wp_bind, wp_trR]
  congr
  funext k
  cases k <;> rfl
@[simp] theorem wp_eOr : (eOr a b σ g).wp Q = (a σ g).wp (fun d g1 => truP d g1 fun k => pick k (Q d g1) ((b σ g1).wp Q)) := by
  unfold eOr
  rw [wp_bind]
  congr
  funext d g1
  rw [wp_bind, wp_trR]
  congr
  funext k
  cases k <;> rfl
@[simp] theorem wp_eNot : (eNot a σ g).wp Q = (a σ g).wp (fun d g1 => truP d g1 fun k => Q (.bl (!k)) g1) := by
  unfold eNot
  rw [wp_bind]
  congr
  funext d g1
  rw [wp_bind, wp_trR]
  rfl
@[simp] theorem wp_eIf : (eIf ta a b σ g).wp Q = (ta σ g).wp (fun k g1 => pick k ((a σ g1).wp Q) ((b σ g1).wp Q)) := by
  unfold eIf
  rw [wp_bind]
  congr
  funext k g1
  cases k <;> rfl
@[simp] theorem wp_eChain {f f' : Op2} : (eChain f f' a b c σ g).wp Q = (a σ g).wp (fun x g1 => (b σ g1).wp fun y g2 => (f x y g2).wp fun z g3 => tstP z g3 fun k g4 => pick k ((c σ g4).wp fun w g5 => (f' y w g5).wp Q) (Q (.bl false) g4)) := by
  unfold eChain
  rw [wp_bind]
  congr
  funext x g1
  rw [wp_bind]
  congr
  funext y g2
  rw [wp_bind]
  congr
  funext z g3
  cases z <;> first | rfl | skip
  rename_i k
  cases k
  · rfl
  · show ((c σ g3).bind _).wp Q = _
    rw [wp_bind]
    rfl
/-! operators on ints -/
variable {i j : Int}
@[simp] theorem oAdd_ii : oAdd (.int i) (.int j) g = .ok (.int (i + j)) g := rfl
@[simp] theorem oSub_ii : oSub (.int i) (.int j) g = .ok (.int (i - j)) g := rfl
@[simp] theorem oNeg_i : oNeg (.int i) g = .ok (.int (-i)) g := rfl
@[simp] theorem oMul_ii : oMul (.int i) (.int j) g = okIf (cMul i j) (.int (i * j)) g := rfl
@[simp] theorem oAddI_ii : oAddI (.int i) (.int j) g = .ok (.int (i + j)) g := rfl
theorem oMod_p (h : 0 < j) : oMod (.int i) (.int j) g = .ok (.int (i % j)) g := by
  show (if decide (j ≠ 0) = true then _ else _) = _
  rw [if_pos (decide_eq_true (by omega)), Int.fmod_eq_emod_of_nonneg i (by omega)]
theorem lg_le {i : Int} (h : i.natAbs < 2 ^ 512) : i.natAbs.log2 < 513 := by
  by_cases z : i.natAbs = 0
  · rw [z]; decide
  · have := (Nat.log2_lt z).2 h
    omega
theorem big_abs {i : Int} (h : -115792089237316195423570985008687907853269984665640564039457584007913129639936 ≤ i) (h' : i ≤ 115792089237316195423570985008687907853269984665640564039457584007913129639936) : i.natAbs < 2 ^ 512 := by
  have : i.natAbs ≤ 115792089237316195423570985008687907853269984665640564039457584007913129639936 := by omega
  exact Nat.lt_of_le_of_lt this (by decide +kernel)
theorem cMul_b (h : -115792089237316195423570985008687907853269984665640564039457584007913129639936 ≤ i) (h' : i ≤ 115792089237316195423570985008687907853269984665640564039457584007913129639936) (k : -115792089237316195423570985008687907853269984665640564039457584007913129639936 ≤ j) (k' : j ≤ 115792089237316195423570985008687907853269984665640564039457584007913129639936) : cMul i j = true := by
  have h1 := lg_le (big_abs h h')
  have h2 := lg_le (big_abs k k')
  exact decide_eq_true (by omega)
theorem oFdiv_p (h : 0 < j) (h' : j ≤ 115792089237316195423570985008687907853269984665640564039457584007913129639936) : oFdiv (.int i) (.int j) g = .ok (.int (i / j)) g := by
  show (if cDiv i j = true then _ else _) = _
  have h1 := lg_le (i := j) (big_abs (by omega) h')
  have h2 : cDiv i j = true := by
    unfold cDiv
    rw [decide_eq_true (by omega), decide_eq_true (by omega)]
    rfl
  rw [if_pos h2, Int.fdiv_eq_ediv_of_nonneg i (by omega)]
theorem oPow_c (h : cPow i j = true) : oPow (.int i) (.int j) g = .ok (.int (i ^ j.toNat)) g := if_pos h
theorem oShl_c (h : cShl i j = true) : oShl (.int i) (.int j) g = .ok (.int (i * 2 ^ j.toNat)) g := if_pos h
@[simp] theorem oLt_ii : oLt (.int i) (.int j) g = .ok (.bl (decide (i < j))) g := rfl
@[simp] theorem oLe_ii : oLe (.int i) (.int j) g = .ok (.bl (decide (i ≤ j))) g := rfl
@[simp] theorem oGt_ii : oGt (.int i) (.int j) g = .ok (.bl (decide (j < i))) g := rfl
@[simp] theorem oGe_ii : oGe (.int i) (.int j) g = .ok (.bl (decide (j ≤ i))) g := rfl
@[simp] theorem oEq_ii : oEq (.int i) (.int j) g = .ok (.bl (decide (i = j))) g := rfl
@[simp] theorem oNe_ii : oNe (.int i) (.int j) g = .ok (.bl (!decide (i = j))) g := rfl
@[simp] theorem oEq_bb {p q : Bool} : oEq (.bl p) (.bl q) g = .ok (.bl (decide (p = q))) g := rfl
@[simp] theorem oNe_bb {p q : Bool} : oNe (.bl p) (.bl q) g = .ok (.bl (!decide (p = q))) g := rfl
@[simp] theorem oAnd_ii : oAnd (.int i) (.int j) g = .ok (.int (Builtin.bitAnd i j)) g := rfl
@[simp] theorem oOr_ii : oOr (.int i) (.int j) g = .ok (.int (Builtin.bitOr i j)) g := rfl
@[simp] theorem oXor_ii : oXor (.int i) (.int j) g = .ok (.int (Builtin.bitXor i j)) g := rfl
@[simp] theorem fInt_i : fInt [.int i] g = .ok (.int i) g := rfl
@[simp] theorem fInt_b {k : Bool} : fInt [.bl k] g = .ok (.int (if k then 1 else 0)) g := rfl
@[simp] theorem fAbs_i : fAbs [.int i] g = .ok (.int (if i < 0 then -i else i)) g := rfl
@[simp] theorem fMax2_ii : fMax2 [.int i, .int j] g = .ok (.int (if j > i then j else i)) g := rfl
@[simp] theorem fMin2_ii : fMin2 [.int i, .int j] g = .ok (.int (if j < i then j else i)) g := rfl
@[simp] theorem fLen_tup {xs : List D} : fLen [.tup xs] g = .ok (.int xs.length) g := rfl
@[simp] theorem fLen_lst {xs : List D} : fLen [.lst xs] g = .ok (.int xs.length) g := rfl
@[simp] theorem fLen_seq {xs : List D} : fLen [.seq xs] g = .ok (.int xs.length) g := rfl
theorem oIx_at {x : D} {xs : List D} (hs : ∀ z, x ≠ .str z) (hx : sqOf g x = some xs) (hd : atI xs i = some d) : oIx x (.int i) g = .ok d g := by
  unfold oIx
  cases x <;> first | exact absurd rfl (hs _) | (dsimp only; rw [hx]; dsimp only; rw [hd])
theorem atI_n {xs : List D} {n : Nat} (hn : xs[n]? = some d) (h : i = n) : atI xs i = some d := by
  subst h
  have hl : n < xs.length := by
    by_cases z : n < xs.length
    · exact z
    · rw [List.getElem?_eq_none (by omega)] at hn; cases hn
  unfold atI
  rw [show ixN xs.length (n : Int) = some n by
    unfold ixN
    simp
    omega]
  exact hn
theorem oIx_lst {xs : List D} {n : Nat} (hn : xs[n]? = some d) (h : i = n) : oIx (.lst xs) (.int i) g = .ok d g := oIx_at (fun _ e => nomatch e) rfl (atI_n hn h)
theorem oIx_tup {xs : List D} {n : Nat} (hn : xs[n]? = some d) (h : i = n) : oIx (.tup xs) (.int i) g = .ok d g := oIx_at (fun _ e => nomatch e) rfl (atI_n hn h)
theorem oIx_seq {xs : List D} {n : Nat} (hn : xs[n]? = some d) (h : i = n) : oIx (.seq xs) (.int i) g = .ok d g := oIx_at (fun _ e => nomatch e) rfl (atI_n hn h)
theorem oIx_ref {xs : List D} {k n : Nat} (hk : g[k]? = some (.lst xs)) (hn : xs[n]? = some d) (h : i = n) : oIx (.ref k) (.int i) g = .ok d g :=
  oIx_at (fun _ e => nomatch e) (by show lsOf g (.ref k) = some xs; unfold lsOf; simp [lmOf, hk]) (atI_n hn h)
/-! calls -/
theorem settle_same {n : Nat} (h : g.length = n) : settle n d g = .ok d g := if_pos h
theorem settle_0 {k : Bool} : (settle 0 (.bl k) g).wp fun d _ => d = .bl k := by
  unfold settle
  split
  · rfl
  · rw [if_pos (Nat.zero_le _)]
    rfl
theorem wp_callD {n tot : Nat} {bd : Sx} {ds : List D} (hl : ds.length = n) (h : (bd (ds.map some ++ List.replicate (tot - n) none) g).wp (fun _ g1 => (settle g.length .non g1).wp Q) (fun d g1 => (settle g.length d g1).wp Q) (fun _ _ => False) fun _ _ => False) : (callD n tot bd ds g).wp Q := by
  unfold callD
  rw [if_pos hl]
  revert h
  cases bd (ds.map some ++ List.replicate (tot - n) none) g <;> intro h <;> first | exact h | exact h.elim
theorem wp_callS {n tot : Nat} {bd : Sx} {ds : List D} (hl : ds.length = n) (h : (bd (ds.map some ++ List.replicate (tot - n) none) g).wp (fun _ g1 => g1.length = g.length ∧ Q .non g1) (fun d g1 => g1.length = g.length ∧ Q d g1) (fun _ _ => False) fun _ _ => False) : (callD n tot bd ds g).wp Q :=
  wp_callD hl (SRes.wp_mono h (fun _ _ q => by rw [settle_same q.1]; exact q.2) (fun _ _ q => by rw [settle_same q.1]; exact q.2) (fun _ _ q => q) fun _ _ q => q)
theorem wp_callK {n tot : Nat} {bd : Sx} {ds : List D} (hl : ds.length = n) (h : (bd (ds.map some ++ List.replicate (tot - n) none) g).wp (fun _ g1 => Q .non g1) Q (fun _ _ => False) fun _ _ => False) : (callK n tot bd ds g).wp Q := by
  unfold callK
  rw [if_pos hl]
  revert h
  cases bd (ds.map some ++ List.replicate (tot - n) none) g <;> intro h <;> first | exact h | exact h.elim
/-! loops -/
theorem wp_next {r : SRes} {k : Sx} : (sNext r k).wp N R B C = r.wp (fun σ g => (k σ g).wp N R B C) R (fun σ g => N σ g) (fun σ g => (k σ g).wp N R B C) := by
  cases r <;> rfl
theorem wp_forL {gv : Gv} {bd : Sx} (I : Nat → Sg → G → Prop) : ∀ (xs : List D) (n : Nat) (σ : Sg) (g : G), I n σ g →
    (∀ k σ g d, xs[k]? = some d → I (n + k) σ g → gvP (gv d σ g) fun σ1 g1 => (bd σ1 g1).wp (I (n + k + 1)) R N (I (n + k + 1))) →
    (∀ σ g, I (n + xs.length) σ g → N σ g) → (sForL gv bd xs σ g).wp N R B C
  | [], n, σ, g, h, _, f => f σ g h
  | d :: ds, n, σ, g, h, k, f => by
    have h1 := k 0 σ g d rfl h
    unfold sForL
    unfold gvP at h1
    revert h1
    cases gv d σ g with
    | none => exact fun h => h.elim
    | some p =>
      obtain ⟨σ1, g1⟩ := p
      intro h1
      show (sNext (bd σ1 g1) (sForL gv bd ds)).wp N R B C
      rw [wp_next]
      have rest : ∀ σ2 g2, I (n + 1) σ2 g2 → (sForL gv bd ds σ2 g2).wp N R B C := fun σ2 g2 h2 =>
        wp_forL I ds (n + 1) σ2 g2 h2 (fun k' σ g d hd hI => by
          have := k (k' + 1) σ g d (by simpa using hd) (by rw [show n + (k' + 1) = n + 1 + k' by omega]; exact hI)
          rw [show n + (k' + 1) = n + 1 + k' by omega] at this
          exact this) (fun σ g hI => f σ g (by rw [List.length_cons, show n + (ds.length + 1) = n + 1 + ds.length by omega]; exact hI))
      exact SRes.wp_mono h1 rest (fun _ _ q => q) (fun _ _ q => q) rest
/-- a loop over a fixed list -/
theorem wp_forI {iv : Ivv} {gv : Gv} {bd : Sx} (I : Nat → Sg → G → Prop) (h : (iv σ g).wp fun v g1 => ∃ xs, v = .fix xs ∧ I 0 σ g1 ∧ (∀ k σ g d, xs[k]? = some d → I k σ g → gvP (gv d σ g) fun σ1 g1 => (bd σ1 g1).wp (I (k + 1)) R N (I (k + 1))) ∧ ∀ σ g, I xs.length σ g → N σ g) :
    (sFor iv gv bd σ g).wp N R B C := by
  unfold sFor
  rw [wp_sbind]
  refine Res.wp_mono h fun v g1 ⟨xs, e, h0, h1, h2⟩ => ?_
  subst e
  exact wp_forL I xs 0 σ g1 h0 (fun k σ g d hd hI => by rw [Nat.zero_add] at hI ⊢; exact h1 k σ g d hd hI) fun σ g hI => h2 σ g (by rw [Nat.zero_add] at hI; exact hI)
theorem wp_for {iv : Ivv} {gv : Gv} {bd : Sx} (I : Nat → Sg → G → Prop) (P : List D → Prop) (h : (iv σ g).wp fun v g1 => ∃ xs, v = .fix xs ∧ P xs ∧ I 0 σ g1)
    (k : ∀ xs k σ g d, P xs → xs[k]? = some d → I k σ g → gvP (gv d σ g) fun σ1 g1 => (bd σ1 g1).wp (I (k + 1)) R N (I (k + 1))) (f : ∀ xs σ g, P xs → I xs.length σ g → N σ g) :
    (sFor iv gv bd σ g).wp N R B C :=
  wp_forI I (Res.wp_mono h fun v g1 ⟨xs, e, p, h0⟩ => ⟨xs, e, h0, fun n σ g d => k xs n σ g d p, fun σ g => f xs σ g p⟩)
theorem wp_while {c : Tv} {bd : Sx} (I : Nat → Sg → G → Prop) (fuel n : Nat) (hn : n < fuel) (σ : Sg) (g : G) (h : I n σ g)
    (k : ∀ n σ g, I n σ g → (c σ g).wp fun q g1 => pick q ((bd σ g1).wp (fun σ2 g2 => ∃ m, m < n ∧ I m σ2 g2) R N (fun σ2 g2 => ∃ m, m < n ∧ I m σ2 g2)) (N σ g1)) : (sxWhile c bd fuel σ g).wp N R B C := by
  induction fuel generalizing n σ g with
  | zero => omega
  | succ f ih =>
    unfold sxWhile
    rw [wp_sbind]
    refine Res.wp_mono (k n σ g h) fun q g1 hq => ?_
    cases q with
    | false => exact hq
    | true =>
      have hq' : (bd σ g1).wp (fun σ2 g2 => ∃ m, m < n ∧ I m σ2 g2) R N (fun σ2 g2 => ∃ m, m < n ∧ I m σ2 g2) := hq
      revert hq'
      cases bd σ g1 <;> intro hq' <;> first | (obtain ⟨m, hm, hI⟩ := hq'; exact ih m (by omega) _ _ hI) | exact hq' | exact hq'.elim
def intP (d : D) (P : Int → Prop) : Prop := match d with
  | .int j => P j
  | _ => False
@[simp] theorem intP_i {P : Int → Prop} : intP (.int i) P = P i := rfl
@[simp] theorem wp_iRange1 {QI : Iv → G → Prop} : (iRange1 (aCons a aNil) σ g).wp QI = (a σ g).wp (fun x g1 => intP x fun j => smallI j = true ∧ QI (.fix (rangeD 0 j.toNat)) g1) := by
  unfold iRange1
  simp only [wp_bind, wp_aCons, aNil_ok, wp_ok]
  congr
  funext x g1
  cases x <;> first | rfl | exact wp_okIf
@[simp] theorem wp_iRange2 {QI : Iv → G → Prop} : (iRange2 (aCons a (aCons b aNil)) σ g).wp QI = (a σ g).wp (fun x g1 => (b σ g1).wp fun y g2 => intP x fun i => intP y fun j => (smallI i && smallI j) = true ∧ QI (.fix (rangeD i (j - i).toNat)) g2) := by
  unfold iRange2
  simp only [wp_bind, wp_aCons, aNil_ok, wp_ok]
  congr
  funext x g1
  congr
  funext y g2
  cases x <;> cases y <;> first | rfl | exact wp_okIf
@[simp] theorem wp_iSeq {QI : Iv → G → Prop} : (iSeq a σ g).wp QI = (a σ g).wp (fun x g1 => (ivOf x g1).wp QI) := by
  unfold iSeq
  simp only [wp_bind]
@[simp] theorem ivOf_tup {xs : List D} : ivOf (.tup xs) g = .ok (.fix xs) g := rfl
@[simp] theorem ivOf_lst {xs : List D} : ivOf (.lst xs) g = .ok (.fix xs) g := rfl
@[simp] theorem ivOf_seq {xs : List D} : ivOf (.seq xs) g = .ok (.fix xs) g := rfl
/-- a comprehension without tests over a fixed list, each turn with a known answer -/
theorem lcL_map {gv : Gv} {te : Ev} {s : Sg} (F : D → D) : ∀ (xs : List D) (g : G), (∀ d ∈ xs, ∃ s1, gv d s g = some (s1, g) ∧ te s1 g = .ok (F d) g) → lcL gv tvYes te s xs g = .ok (xs.map F) g
  | [], g, _ => rfl
  | d :: ds, g, h => by
    obtain ⟨s1, h1, h2⟩ := h d (List.mem_cons_self ..)
    have ih := lcL_map F ds g fun e he => h e (List.mem_cons_of_mem _ he)
    unfold lcL
    have e : lcT gv tvYes te s d g = .ok (some (F d)) g := by
      unfold lcT
      rw [h1]
      show (match te s1 g with | .ok y g3 => Res.ok (some y) g3 | _ => .no) = _
      rw [h2]
    rw [e]
    dsimp only
    rw [ih]
    rfl
@[simp] theorem wp_eLc {iv : Ivv} {gv : Gv} {tt : Tv} {te : Ev} {vs : List Nat} : (eLc iv gv tt te vs σ g).wp Q = (iv σ g).wp (fun v g1 => (noEx (lcAll gv tt te (wipeD σ vs) v g1)).wp fun ys g2 => small ys = true ∧ Q (.lst ys) g2) := by
  unfold eLc
  simp only [wp_bind, wp_okIf]
@[simp] theorem wp_noEx {α : Type} {r : Res α} {P : α → G → Prop} : (noEx r).wp P = r.wp P := by cases r <;> rfl
@[simp] theorem wp_lcL_nil {gv : Gv} {tt : Tv} {te : Ev} {s : Sg} : (lcL gv tt te s [] g).wp QL = QL [] g := rfl
theorem lcL_cons {gv : Gv} {tt : Tv} {te : Ev} {s : Sg} {ds : List D} : lcL gv tt te s (d :: ds) g = match lcT gv tt te s d g with
  | .ok o g1 => lcPut o (lcL gv tt te s ds g1)
  | _ => .no := rfl
@[simp] theorem wp_lcL_cons {gv : Gv} {tt : Tv} {te : Ev} {s : Sg} {ds : List D} : (lcL gv tt te s (d :: ds) g).wp QL = gvP (gv d s g) fun s1 g1 => (tt s1 g1).wp fun k g2 =>
    pick k ((te s1 g2).wp fun y g3 => (lcL gv tt te s ds g3).wp fun ys g4 => QL (y :: ys) g4) ((lcL gv tt te s ds g2).wp QL) := by
  rw [lcL_cons]
  unfold lcT
  cases gv d s g with
  | none => rfl
  | some p =>
    obtain ⟨s1, g1⟩ := p
    show _ = (tt s1 g1).wp _
    dsimp only
    cases tt s1 g1 with
    | no => rfl
    | ex e g2 => rfl
    | ok k g2 =>
      cases k with
      | false => rfl
      | true =>
        dsimp only
        show _ = (te s1 g2).wp _
        cases te s1 g2 with
        | no => rfl
        | ex e g3 => rfl
        | ok y g3 =>
          dsimp only
          show (lcPut (some y) _).wp QL = (lcL gv tt te s ds g3).wp _
          unfold lcPut
          dsimp only
          cases lcL gv tt te s ds g3 <;> rfl
@[simp] theorem lcAll_fix {gv : Gv} {tt : Tv} {te : Ev} {s : Sg} {xs : List D} : lcAll gv tt te s (.fix xs) g = lcL gv tt te s xs g := rfl
@[simp] theorem wipeD_nil : wipeD σ [] = σ := by rfl
@[simp] theorem wipeD_cons {i : Nat} {is : List Nat} : wipeD σ (i :: is) = (wipeD σ is).set i none := by rfl
@[simp] theorem tvYes_ok : tvYes σ g = .ok true g := rfl
/-! a cell that is changed -/
theorem get_set {k : Nat} {c c' : Cell} (h : g[k]? = some c') : (g.set k c)[k]? = some c := by
  have hl : k < g.length := by
    by_cases z : k < g.length
    · exact z
    · rw [List.getElem?_eq_none (by omega)] at h; cases h
  rw [List.getElem?_set_self hl]
end
theorem mul_bd {a b A B : Int} (h1 : 0 ≤ a) (h2 : a < A) (h3 : 0 ≤ b) (h4 : b < B) : 0 ≤ a * b ∧ a * b < A * B := by
  refine ⟨Int.mul_nonneg h1 h3, ?_⟩
  have e1 : a * b ≤ a * B := Int.mul_le_mul_of_nonneg_left (by omega) h1
  have e2 : a * B < A * B := Int.mul_lt_mul_of_pos_right h2 (by omega)
  omega
end AW
/-! Aq: plain rules for lists of whole numbers, slices, sums, comprehensions with a test. -/
namespace AW
open PySem PySem.Spec L2
abbrev natsD (L : List Nat) : List D := L.map fun (n : Nat) => D.int (n : Int)
section
variable {N B C : Sg → G → Prop} {R : D → G → Prop} {σ : Sg} {g : G} {d : D} {Q : D → G → Prop} {QL : List D → G → Prop} {a : Ev}
theorem ok_of {α : Type} {r : Res α} {x : α} (h : r.wp fun y g1 => y = x ∧ g1 = g) : r = .ok x g := by
  obtain ⟨y, g1, h1, h2, h3⟩ := Res.wp_eq h
  rw [h1, h2, h3]
@[simp] theorem wp_eSl {lo hi : Ov} : (eSl a lo hi σ g).wp Q = (a σ g).wp fun x g1 => (lo σ g1).wp fun l g2 => (hi σ g2).wp fun h g3 => (slD g3 x l h).wp Q := by
  unfold eSl
  simp only [wp_bind]
@[simp] theorem oNo_ok : oNo σ g = .ok none g := rfl
@[simp] theorem wp_oPart {QO : Option Int → G → Prop} : (oPart a σ g).wp QO = (a σ g).wp fun x g1 => intP x fun i => QO (some i) g1 := by
  unfold oPart
  rw [wp_bind]
  congr
  funext x g1
  cases x <;> rfl
theorem cut_to {xs : List D} {n : Nat} {i : Int} (e : i = n) (h : n ≤ xs.length) : cutD xs none (some i) = xs.take n := by
  subst e
  unfold cutD
  rw [HT.sIx_nat]
  show (xs.drop 0).take (min n xs.length - 0) = _
  rw [Nat.min_eq_left h]
  rfl
theorem cut_from {xs : List D} {n : Nat} {i : Int} (e : i = n) (h : n ≤ xs.length) : cutD xs (some i) none = xs.drop n := by
  subst e
  unfold cutD
  rw [HT.sIx_nat, Nat.min_eq_left h]
  show (xs.drop n).take (xs.length - n) = _
  rw [List.take_of_length_le (by rw [List.length_drop]; exact Nat.le_refl _)]
@[simp] theorem slD_lst {xs : List D} {l h : Option Int} : slD g (.lst xs) l h = .ok (.lst (cutD xs l h)) g := rfl
@[simp] theorem slD_tup {xs : List D} {l h : Option Int} : slD g (.tup xs) l h = .ok (.tup (cutD xs l h)) g := rfl
theorem oAdd_ll {xs ys : List D} : oAdd (.lst xs) (.lst ys) g = okIf (small (xs ++ ys)) (.lst (xs ++ ys)) g := rfl
theorem small_of {xs : List D} {n : Nat} (h : xs.length = n) (h2 : n ≤ 100000) : small xs = true := by
  unfold small
  rw [h]
  exact decide_eq_true h2
theorem intsOf_f {L : List Nat} {f : Nat → Int} : intsOf (L.map fun n => D.int (f n)) = some (L.map f) := by
  induction L with
  | nil => rfl
  | cons n L ih =>
    show (match intsOf (L.map fun n => D.int (f n)) with | some is => some (f n :: is) | none => none) = _
    rw [ih]
    rfl
theorem lcL_F {gv : Gv} {tt : Tv} {te : Ev} {s : Sg} (F : D → Option D) : ∀ (xs : List D) (g : G), (∀ d ∈ xs, gvP (gv d s g) fun s1 g1 => g1 = g ∧ (tt s1 g).wp fun k g2 => g2 = g ∧ k = (F d).isSome ∧ (k = true → (te s1 g).wp fun y g3 => g3 = g ∧ F d = some y)) → lcL gv tt te s xs g = .ok (xs.filterMap F) g
  | [], g, _ => rfl
  | d :: ds, g, h => by
    refine ok_of ?_
    rw [wp_lcL_cons]
    have h1 := h d (List.mem_cons_self ..)
    have ih := lcL_F F ds g fun e he => h e (List.mem_cons_of_mem _ he)
    unfold gvP at h1 ⊢
    revert h1
    cases gv d s g with
    | none => exact fun h => h
    | some p =>
      obtain ⟨s1, g1⟩ := p
      rintro ⟨rfl, h1⟩
      refine Res.wp_mono h1 fun k g2 ⟨e1, e2, h2⟩ => ?_
      subst e1
      cases k with
      | true =>
        refine Res.wp_mono (h2 rfl) fun y g3 ⟨e3, e4⟩ => ?_
        subst e3
        rw [ih, List.filterMap_cons, e4]
        exact ⟨rfl, rfl⟩
      | false =>
        show (lcL gv tt te s ds g2).wp _
        rw [ih, List.filterMap_cons]
        cases hF : F d with
        | none => exact ⟨rfl, rfl⟩
        | some y => rw [hF] at e2; cases e2
end
/-- a comprehension over a range that keeps its own number -/
def keepF (F : Nat → Bool) (d : D) : Option D := match d with
  | .int i => if F i.toNat then some d else none
  | _ => none
theorem rangeD_filter (F : Nat → Bool) : ∀ (n : Nat) (lo : Nat), (rangeD (lo : Int) n).filterMap (keepF F) = natsD ((List.range' lo n).filter F)
  | 0, lo => rfl
  | n + 1, lo => by
    have ih := rangeD_filter F n (lo + 1)
    have e : ((lo + 1 : Nat) : Int) = (lo : Int) + 1 := by omega
    rw [e] at ih
    show ((D.int lo) :: rangeD ((lo : Int) + 1) n).filterMap _ = _
    rw [List.filterMap_cons, List.range'_succ, List.filter_cons, ih]
    have e2 : keepF F (D.int (lo : Int)) = if F lo then some (D.int (lo : Int)) else none := by
      unfold keepF
      dsimp only
      rw [Int.toNat_natCast]
    rw [e2]
    cases F lo <;> rfl
theorem pys_nats (L : List Nat) : D.pys (natsD L) = some (L.map fun (n : Nat) => PyData.int (n : Int)) := by
  induction L with
  | nil => exact D.pys.eq_1
  | cons n L ih =>
    show D.pys (D.int n :: natsD L) = _
    rw [D.pys.eq_2, ih, D.py.eq_3]
    rfl
theorem fSum_nats {L : List Nat} {f : Nat → Int} {g : G} : fSum [.lst (L.map fun n => D.int (f n))] g = .ok (.int ((L.map f).sum)) g := by
  show (match intsOf (L.map fun n => D.int (f n)) with | some is => Res.ok (D.int (isum is)) g | none => .no) = _
  rw [intsOf_f]
  dsimp only
  rw [isum_eq]
theorem canLay_nats (L : List Nat) : PyData.canLayAll0 (L.map fun (n : Nat) => PyData.int (n : Int)) = true := by
  induction L with
  | nil => rw [List.map_nil, PyData.canLayAll0.eq_1]
  | cons n L ih => rw [List.map_cons, PyData.canLayAll0.eq_2, ih, PyData.canLay0.eq_3]; rfl
theorem depth_nats (L : List Nat) : PyData.depthAll (L.map fun (n : Nat) => PyData.int (n : Int)) = 0 := by
  induction L with
  | nil => rw [List.map_nil, PyData.depthAll]
  | cons n L ih => rw [List.map_cons, PyData.depthAll, ih]; simp [PyData.depth]
theorem eqv_nats : ∀ (L M : List Nat), PyData.eqvAll (L.map fun (n : Nat) => PyData.int (n : Int)) (M.map fun (n : Nat) => PyData.int (n : Int)) = decide (L = M)
  | [], [] => by rw [List.map_nil, PyData.eqvAll]; rfl
  | [], m :: M => by rw [List.map_nil, List.map_cons, PyData.eqvAll]; rfl
  | l :: L, [] => by rw [List.map_nil, List.map_cons, PyData.eqvAll]; rfl
  | l :: L, m :: M => by
    rw [List.map_cons, List.map_cons, PyData.eqvAll, eqv_nats L M, PyData.eqv]
    rw [Bool.eq_iff_iff, Bool.and_eq_true, beq_iff_eq, decide_eq_true_iff, decide_eq_true_iff, List.cons.injEq]
    constructor
    · rintro ⟨h1, h2⟩; exact ⟨by omega, h2⟩
    · rintro ⟨h1, h2⟩; exact ⟨by omega, h2⟩
theorem shaped_nats (L : List Nat) : SeqAt.shaped (.list (L.map fun (n : Nat) => PyData.int (n : Int))) = true := by
  unfold SeqAt.shaped
  rw [PyData.canLay0, canLay_nats, PyData.depth, depth_nats]
  rfl
theorem eqD_nats {g : G} {L M : List Nat} : eqD g (.lst (natsD L)) (.lst (natsD M)) = some (decide (L = M)) := by
  have h : ∀ L : List Nat, pyG g (.lst (natsD L)) = some (.list (L.map fun (n : Nat) => PyData.int (n : Int))) := fun L => by
    show D.py (.lst (natsD L)) = _
    rw [D.py, pys_nats]
  show (match pyG g (.lst (natsD L)), pyG g (.lst (natsD M)) with | some p, some q => if (SeqAt.shaped p && SeqAt.shaped q) = true then some (PyData.eqv p q) else lenNe g (.lst (natsD L)) (.lst (natsD M)) | _, _ => lenNe g (.lst (natsD L)) (.lst (natsD M))) = _
  rw [h, h]
  dsimp only
  rw [shaped_nats, shaped_nats, PyData.eqv, eqv_nats]
  rfl
theorem oEq_nats {g : G} {L M : List Nat} : oEq (.lst (natsD L)) (.lst (natsD M)) g = .ok (.bl (decide (L = M))) g := by
  unfold oEq
  rw [eqD_nats]
theorem oNe_nats {g : G} {L M : List Nat} : oNe (.lst (natsD L)) (.lst (natsD M)) g = .ok (.bl (!decide (L = M))) g := by
  unfold oNe
  rw [eqD_nats]
theorem eqD_pair {g : G} {a b c d : Int} : eqD g (.tup [.int a, .int b]) (.tup [.int c, .int d]) = some (decide (a = c) && decide (b = d)) := by
  have h : ∀ a b : Int, pyG g (.tup [.int a, .int b]) = some (.tuple [.int a, .int b]) := fun a b => rfl
  have hs : ∀ a b : Int, SeqAt.shaped (.tuple [.int a, .int b]) = true := fun a b => rfl
  show (match pyG g (.tup [.int a, .int b]), pyG g (.tup [.int c, .int d]) with | some p, some q => if (SeqAt.shaped p && SeqAt.shaped q) = true then some (PyData.eqv p q) else lenNe g (.tup [.int a, .int b]) (.tup [.int c, .int d]) | _, _ => lenNe g (.tup [.int a, .int b]) (.tup [.int c, .int d])) = _
  rw [h, h]
  dsimp only
  rw [hs, hs]
  have e : PyData.eqv (.tuple [.int a, .int b]) (.tuple [.int c, .int d]) = (decide (a = c) && decide (b = d)) := by
    show ((a == c) && ((b == d) && true)) = _
    rw [Bool.and_true]
    rfl
  rw [e]
  rfl
theorem oEq_pair {g : G} {a b c d : Int} : oEq (.tup [.int a, .int b]) (.tup [.int c, .int d]) g = .ok (.bl (decide (a = c) && decide (b = d))) g := by
  unfold oEq
  rw [eqD_pair]
theorem oNe_pair {g : G} {a b c d : Int} : oNe (.tup [.int a, .int b]) (.tup [.int c, .int d]) g = .ok (.bl (!(decide (a = c) && decide (b = d)))) g := by
  unfold oNe
  rw [eqD_pair]
theorem nats_keep (F : Nat → Bool) : ∀ L : List Nat, (natsD L).filterMap (keepF F) = natsD (L.filter F)
  | [] => rfl
  | n :: L => by
    have ih := nats_keep F L
    show ((D.int (n : Int)) :: natsD L).filterMap _ = _
    have e2 : keepF F (D.int (n : Int)) = if F n then some (D.int (n : Int)) else none := by
      unfold keepF
      dsimp only
      rw [Int.toNat_natCast]
    rw [List.filterMap_cons, List.filter_cons, ih, e2]
    cases F n <;> rfl
theorem flat_nats (L : List Nat) : (natsD L).all flatD = true := by
  rw [List.all_eq_true]
  intro d hd
  obtain ⟨n, _, rfl⟩ := List.mem_map.1 hd
  rfl
theorem inF_nats (x : Nat) (L : List Nat) : inF (.int (x : Int)) (natsD L) = decide (x ∈ L) := by
  unfold inF
  rw [Bool.eq_iff_iff, List.any_eq_true, decide_eq_true_iff]
  constructor
  · rintro ⟨d, hd, h⟩
    obtain ⟨n, hn, rfl⟩ := List.mem_map.1 hd
    have h2 : ((n : Int) == (x : Int)) = true := h
    rw [beq_iff_eq] at h2
    have : n = x := by omega
    rwa [← this]
  · intro h
    exact ⟨_, List.mem_map.2 ⟨x, h, rfl⟩, by show ((x : Int) == (x : Int)) = true; exact beq_self_eq_true _⟩
theorem oIn_nats {x : Nat} {L : List Nat} {g : G} : oIn false (.int (x : Int)) (.lst (natsD L)) g = .ok (.bl (decide (x ∈ L))) g := by
  have e : inD g (.int (x : Int)) (.lst (natsD L)) = some (false, decide (x ∈ L)) := by
    show (if (true && (natsD L).all flatD) = true then some (false, inF (.int (x : Int)) (natsD L)) else _) = _
    rw [flat_nats, inF_nats]
    rfl
  unfold oIn
  rw [e]
  rfl
section
variable {N B C : Sg → G → Prop} {R : D → G → Prop} {σ : Sg} {g : G}
theorem wp_forF {iv : Ivv} {gv : Gv} {bd : Sx} (h : (iv σ g).wp fun v g1 => ∃ xs, v = .fix xs ∧ (sForL gv bd xs σ g1).wp N R B C) : (sFor iv gv bd σ g).wp N R B C := by
  unfold sFor
  rw [wp_sbind]
  refine Res.wp_mono h fun v g1 ⟨xs, e, h1⟩ => ?_
  subst e
  exact h1
@[simp] theorem wp_forL_nil {gv : Gv} {bd : Sx} : (sForL gv bd [] σ g).wp N R B C = N σ g := rfl
@[simp] theorem wp_forL_cons {gv : Gv} {bd : Sx} {d : D} {ds : List D} : (sForL gv bd (d :: ds) σ g).wp N R B C = gvP (gv d σ g) fun σ1 g1 => (bd σ1 g1).wp (fun σ2 g2 => (sForL gv bd ds σ2 g2).wp N R B C) R N (fun σ2 g2 => (sForL gv bd ds σ2 g2).wp N R B C) := by
  show (match gv d σ g with | some (σ1, g1) => sNext (bd σ1 g1) (sForL gv bd ds) | none => SRes.no).wp N R B C = _
  unfold gvP
  cases gv d σ g with
  | none => rfl
  | some q => exact wp_next
end
end AW
/-! Bcp: plain rules of comprehensions with two fors. -/
namespace AW
open PySem PySem.Spec L2
theorem wp_eLc2 {iv iv1 : Ivv} {gv gv1 : Gv} {tt tt1 : Tv} {te : Ev} {vs vs1 : List Nat} {σ : Sg} {g : G} {Q : D → G → Prop} (h : (iv σ g).wp fun v g1 => ∃ ds, v = .fix ds ∧ (lc2L gv tt iv1 gv1 tt1 te vs1 (wipeD σ vs) ds g1).wp fun ys g2 => small ys = true ∧ Q (.lst ys) g2) :
    (eLc2 iv gv tt iv1 gv1 tt1 te vs vs1 σ g).wp Q := by
  unfold eLc2
  rw [wp_bind]
  refine Res.wp_mono h fun v g1 ⟨ds, e, h1⟩ => ?_
  subst e
  show ((noEx (lc2L gv tt iv1 gv1 tt1 te vs1 (wipeD σ vs) ds g1)).bind _).wp Q
  rw [wp_bind, wp_noEx]
  refine Res.wp_mono h1 fun ys g2 h2 => ?_
  rw [wp_okIf]
  exact h2
/-- each turn with a known answer -/
theorem lc2L_map {gv gv1 : Gv} {tt tt1 : Tv} {iv1 : Ivv} {te : Ev} {vs1 : List Nat} {s : Sg} (F : D → List D) : ∀ (xs : List D) (g : G), (∀ d ∈ xs, ∃ s1 ds1, gv d s g = some (s1, g) ∧ tt s1 g = .ok true g ∧ iv1 s1 g = .ok (.fix ds1) g ∧ lcL gv1 tt1 te (wipeD s1 vs1) ds1 g = .ok (F d) g) →
    lc2L gv tt iv1 gv1 tt1 te vs1 s xs g = .ok (xs.flatMap F) g
  | [], g, _ => rfl
  | d :: ds, g, h => by
    obtain ⟨s1, ds1, h1, h2, h3, h4⟩ := h d (List.mem_cons_self ..)
    have ih := lc2L_map F ds g fun e he => h e (List.mem_cons_of_mem _ he)
    unfold lc2L
    rw [h1]
    dsimp only
    rw [h2]
    dsimp only
    rw [h3]
    dsimp only
    rw [h4]
    dsimp only
    rw [ih]
    rfl
end AW
namespace LW
open PySem PySem.Spec L2 AW
def top (i : Nat) : Stmt := PySem.Challenge.pw_squaretimes_k16_whole_texts_of_sign_tabl.main.body.getD i (.Pass ⟨0, 0, 0, 0⟩)
def tf : List (He.Defn × Str) := []
def own : List Str := ["SignTable"]
def stab : STab := [("SignTable", ["own_marks"])]
abbrev s_SignTable_marks : Stmt := (match top 33 with | .ClassDef (body := b) .. => b.getD 5 (.Pass ⟨0, 0, 0, 0⟩) | _ => .Pass ⟨0, 0, 0, 0⟩)
abbrev n_SignTable_marks : List Str := ["self"]
def b_SignTable_marks : Sx := (sCons (sRet (eAttr stab [] "own_marks" (eVar 0)))
  sNil)
def f_SignTable_marks : Fn := callD 1 1 b_SignTable_marks
abbrev s_is_told : Stmt := top 34
abbrev n_is_told : List Str := ["word", "figures", "figure"]
def b_is_told : Sx := (sCons (sSet 1 (eIf (eTst (eOp oEq (eSl (eVar 0) oNo (oPart (eC (.int 1)))) (eC (.str "-")))) (eSl (eVar 0) (oPart (eC (.int 1))) oNo) (eVar 0)))
  (sCons (sRet (eAnd (eChain oLe oLe (eC (.int 1)) (eCall fLen (aCons (eVar 1) aNil)) (eC (.int 2))) (eAnd (eOp oNe (eOp oIx (eVar 1) (eC (.int 0))) (eC (.str "0"))) (eCall fAll (aCons (eLc (iStrS (eVar 1)) (gvName 2) tvYes (eOp (oIn false) (eVar 2) (eC (.str "0123456789"))) [2]) aNil)))))
  sNil))
def f_is_told : Fn := callD 1 3 b_is_told
abbrev s_marks_in : Stmt := top 35
abbrev n_marks_in : List Str := ["text", "words", "word"]
def b_marks_in : Sx := (sCons (sSet 1 (eSplitS (eVar 0) (eC (.str " "))))
  (sCons (sRet (eIf (eTru (eCall fAll (aCons (eLc (iSeq (eVar 1)) (gvName 2) tvYes (eCall f_is_told (aCons (eVar 2) aNil)) [2]) aNil))) (eCall fTuple (aCons (eLc (iSeq (eVar 1)) (gvName 2) tvYes (eCall fIntT (aCons (eVar 2) aNil)) [2]) aNil)) (eC .non)))
  sNil))
def f_marks_in : Fn := callD 1 3 b_marks_in
abbrev s_is_whole : Stmt := top 13
abbrev n_is_whole : List Str := ["value"]
def b_is_whole : Sx := (sCons (sRet (eAnd (eIsi own (.bt .int) (eVar 0)) (eNot (eIsi own (.bt .bl) (eVar 0)))))
  sNil)
def f_is_whole : Fn := callD 1 1 b_is_whole
abbrev s_is_integer : Stmt := top 14
abbrev n_is_integer : List Str := ["value"]
def b_is_integer : Sx := (sCons (sRet (eAnd (eCall f_is_whole (aCons (eVar 0) aNil)) (eChain oLt oLt (eUn oNeg (eC (.int (1000000000000000000000000000000000000000000000000000000000000)))) (eVar 0) (eC (.int (1000000000000000000000000000000000000000000000000000000000000))))))
  sNil)
def f_is_integer : Fn := callD 1 1 b_is_integer
abbrev s_are_marks : Stmt := top 31
abbrev n_are_marks : List Str := ["value", "mark"]
def b_are_marks : Sx := (sCons (sIf (eOrT (eNotT (eTru (eIsi own (.bt .tup) (eVar 0)))) (eNotT (eTst (eChain oLe oLe (eC (.int 1)) (eCall fLen (aCons (eVar 0) aNil)) (eC (.int (64)))))))
  (sCons (sRet (eC (.bl false)))
  sNil)
  sNil)
  (sCons (sIf (eNotT (eTru (eCall fAll (aCons (eLc (iSeq (eVar 0)) (gvName 1) tvYes (eCall f_is_integer (aCons (eVar 1) aNil)) [1]) aNil))))
  (sCons (sRet (eC (.bl false)))
  sNil)
  sNil)
  (sCons (sRet (eOp oEq (eCall fSrt (aCons (eLc (iSeq (eVar 0)) (gvName 1) tvYes (eCall fAbs (aCons (eVar 1) aNil)) [1]) aNil)) (eListRg2 (eC (.int 1)) (eOp oAdd (eCall fLen (aCons (eVar 0) aNil)) (eC (.int 1))))))
  sNil)))
def f_are_marks : Fn := callD 1 2 b_are_marks
abbrev s_SignTable___init__ : Stmt := (match top 33 with | .ClassDef (body := b) .. => b.getD 1 (.Pass ⟨0, 0, 0, 0⟩) | _ => .Pass ⟨0, 0, 0, 0⟩)
abbrev n_SignTable___init__ : List Str := ["self", "marks"]
def b_SignTable___init__ : Sx := (sCons (sIf (eNotT (eTru (eCall f_are_marks (aCons (eVar 1) aNil))))
  (sCons (sRaise0 "InvalidTable")
  sNil)
  sNil)
  (sCons (sFld stab "own_marks" (eVar 0) (eVar 1))
  sNil))
def f_SignTable___init__ : Fn := callK 2 2 b_SignTable___init__
abbrev s_SignTable_read : Stmt := (match top 33 with | .ClassDef (body := b) .. => b.getD 3 (.Pass ⟨0, 0, 0, 0⟩) | _ => .Pass ⟨0, 0, 0, 0⟩)
abbrev n_SignTable_read : List Str := ["cls", "text", "marks"]
def b_SignTable_read : Sx := (sCons (sSet 2 (eIf (eTru (eIsi own (.bt .str) (eVar 1))) (eCall f_marks_in (aCons (eVar 1) aNil)) (eC .non)))
  (sCons (sIf (eOrT (eTst (eOp (oIs false) (eVar 2) (eC .non))) (eNotT (eTru (eCall f_are_marks (aCons (eVar 2) aNil)))))
  (sCons (sRaiseX true "ParseError" "spot" (eC (.int 0)))
  sNil)
  sNil)
  (sCons (sRet (eMakeV [("SignTable", f_SignTable___init__)] 0 (aCons (eVar 2) aNil)))
  sNil)))
def f_SignTable_read : Fn := callD 2 3 b_SignTable_read
abbrev s_law_read : Stmt := top 44
abbrev n_law_read : List Str := ["_law_value", "error"]
def b_law_read : Sx := (sCons (sTry (sCons (sRet (eAttr stab [("SignTable", f_SignTable_marks)] "marks" (eClsM "SignTable" f_SignTable_read (aCons (eVar 0) aNil))))
  sNil)
  [⟨[("InvalidTable", false), ("ParseError", true)], some (1, "ParseError"), (.pre "refused " "spot")⟩])
  sNil)
def f_law_read : Fn := callD 1 2 b_law_read
abbrev s_law_pour : Stmt := top 39
abbrev n_law_pour : List Str := ["_law_jug_here", "_law_total", "_law_one", "_law_two", "_law_found"]
def b_law_pour : Sx := (sCons (sIf (eTst (eOp oGt (eOp oIx (eVar 0) (eC (.int 0))) (eC (.int 0))))
  (sCons (sSet 4 (eOp oMod (eCall fInt (aCons (eOp oIx (eVar 0) (eC (.int 0))) aNil)) (eVar 1)))
  (sCons (sAsg (eOp oFdiv (eOp oIx (eVar 0) (eC (.int 0))) (eVar 1)) (gvSub (eVar 0) (eC (.int 0))))
  (sCons (sRet (eVar 4))
  sNil)))
  sNil)
  (sCons (sAsg (eOp oAdd (eOp oIx (eVar 0) (eC (.int 2))) (eC (.int 1))) (gvSub (eVar 0) (eC (.int 2))))
  (sCons (sSet 2 (eOp oMod (eCall fInt (aCons (eOp oAdd (eOp oIx (eVar 0) (eC (.int 1))) (eOp oMul (eC (.int 3372073)) (eOp oIx (eVar 0) (eC (.int 2))))) aNil)) (eC (.int 2305843009213693951))))
  (sCons (sSet 3 (eOp oMod (eCall fInt (aCons (eOp oAdd (eOp oMul (eVar 2) (eVar 2)) (eOp oMul (eC (.int 700361)) (eOp oIx (eVar 0) (eC (.int 2))))) aNil)) (eC (.int 2305843009213693921))))
  (sCons (sRet (eOp oMod (eCall fInt (aCons (eOp oFdiv (eOp oAdd (eOp oMul (eVar 3) (eC (.int 41))) (eVar 2)) (eC (.int 131072))) aNil)) (eVar 1)))
  sNil)))))
def f_law_pour : Fn := callD 2 5 b_law_pour
abbrev s_law_pick : Stmt := top 40
abbrev n_law_pick : List Str := ["_law_jug_here", "_law_items"]
def b_law_pick : Sx := (sCons (sRet (eOp oIx (eVar 1) (eCall f_law_pour (aCons (eVar 0) (aCons (eCall fLen (aCons (eVar 1) aNil)) aNil)))))
  sNil)
def f_law_pick : Fn := callD 2 2 b_law_pick
abbrev s_law_marks : Stmt := top 41
abbrev n_law_marks : List Str := ["_law_jug_here", "_law_size", "_law_turn", "_law_left", "_law_found"]
def b_law_marks : Sx := (sCons (sPar 3 4 (aCons (eListRg2M (eC (.int 1)) (eOp oAdd (eVar 1) (eC (.int 1)))) (aCons (eLstM aNil) aNil)))
  (sCons (sFor (iRange1 (aCons (eVar 1) aNil)) (gvName 2) (sCons (sExpr (eAppend (eVar 4) (eOp oMul (ePop (eVar 3) (eCall f_law_pour (aCons (eVar 0) (aCons (eCall fLen (aCons (eVar 3) aNil)) aNil)))) (eCall f_law_pick (aCons (eVar 0) (aCons (eLst (aCons (eC (.int 1)) (aCons (eUn oNeg (eC (.int 1))) aNil))) aNil))))))
  sNil))
  (sCons (sRet (eCall fTuple (aCons (eVar 4) aNil)))
  sNil)))
def f_law_marks : Fn := callD 2 5 b_law_marks
abbrev s_law_near : Stmt := top 45
abbrev n_law_near : List Str := ["_law_jug_here", "_law_text", "_law_sign", "_law_odd", "_law_at", "_law_way"]
def b_law_near : Sx := (sCons (sPar 4 5 (aCons (eCall f_law_pour (aCons (eVar 0) (aCons (eOp oAdd (eCall fLen (aCons (eVar 1) aNil)) (eC (.int 1))) aNil))) (aCons (eCall f_law_pour (aCons (eVar 0) (aCons (eC (.int 6)) aNil))) aNil)))
  (sCons (sSet 2 (eCall f_law_pick (aCons (eVar 0) (aCons (eLst (aCons (eC (.str " ")) (aCons (eC (.str "-")) (aCons (eC (.str "0")) (aCons (eC (.str "1")) (aCons (eC (.str "2")) (aCons (eC (.str "3")) (aCons (eC (.str "9")) (aCons (eC (.str "+")) (aCons (eC (.str "x")) (aCons (eC (.str ",")) (aCons (eC (.str "/")) (aCons (eC (.str "(")) (aCons (eC (.str "12")) (aCons (eC (.str " 3")) (aCons (eC (.str "--")) aNil)))))))))))))))) aNil))))
  (sCons (sIf (eTst (eOp oLt (eVar 5) (eC (.int 2))))
  (sCons (sRet (eOp oAdd (eOp oAdd (eSl (eVar 1) oNo (oPart (eVar 4))) (eVar 2)) (eSl (eVar 1) (oPart (eVar 4)) oNo)))
  sNil)
  sNil)
  (sCons (sIf (eTst (eOp oEq (eVar 5) (eC (.int 2))))
  (sCons (sRet (eOp oAdd (eSl (eVar 1) oNo (oPart (eVar 4))) (eSl (eVar 1) (oPart (eOp oAdd (eVar 4) (eC (.int 1)))) oNo)))
  sNil)
  sNil)
  (sCons (sIf (eTst (eOp oEq (eVar 5) (eC (.int 3))))
  (sCons (sRet (eOp oAdd (eOp oAdd (eSl (eVar 1) oNo (oPart (eVar 4))) (eVar 2)) (eSl (eVar 1) (oPart (eOp oAdd (eVar 4) (eC (.int 1)))) oNo)))
  sNil)
  sNil)
  (sCons (sIf (eTst (eOp oEq (eVar 5) (eC (.int 4))))
  (sCons (sRet (eOp oAdd (eOp oAdd (eCall f_law_pick (aCons (eVar 0) (aCons (eLst (aCons (eC (.str " ")) (aCons (eC (.str "")) aNil))) aNil))) (eVar 1)) (eCall f_law_pick (aCons (eVar 0) (aCons (eLst (aCons (eC (.str " ")) (aCons (eC (.str "")) (aCons (eC (.str "\n")) aNil)))) aNil)))))
  sNil)
  sNil)
  (sCons (sSet 3 (eLst (aCons (eC .non) (aCons (eC (.int 1)) (aCons (eTup (aCons (eC (.int 1)) aNil)) (aCons (eLst (aCons (eVar 1) aNil)) (aCons (eC (.str "")) (aCons (eC (.str " ")) (aCons (eC (.str "1 1")) (aCons (eC (.str "0")) (aCons (eC (.str "-0")) (aCons (eC (.str "1 -1")) (aCons (eC (.str "01")) (aCons (eC (.str "2 1 ")) (aCons (eC (.str "65")) (aCons (eC (.str "1  2")) (aCons (eC (.str "1,2")) (aCons (eC (.str "-")) aNil))))))))))))))))))
  (sCons (sRet (eCall f_law_pick (aCons (eVar 0) (aCons (eVar 3) aNil))))
  sNil))))))))
def f_law_near : Fn := callD 2 6 b_law_near
abbrev s_law_mark : Stmt := top 42
abbrev n_law_mark : List Str := ["_law_text", "_law_digits", "_law_sign"]
def b_law_mark : Sx := (sCons (sSet 1 (eIf (eTst (eOp oEq (eSl (eVar 0) oNo (oPart (eC (.int 1)))) (eC (.str "-")))) (eSl (eVar 0) (oPart (eC (.int 1))) oNo) (eVar 0)))
  (sCons (sIf (eOrT (eTst (eOp oEq (eVar 1) (eC (.str "")))) (eOrT (eTst (eOp oEq (eOp oIx (eVar 1) (eC (.int 0))) (eC (.str "0")))) (eTst (eOp oGt (eCall fLen (aCons (eVar 1) aNil)) (eC (.int 2))))))
  (sCons (sRet (eC .non))
  sNil)
  sNil)
  (sCons (sIf (eTst (eOp oNe (eLc (iStrS (eVar 1)) (gvName 2) (eTst (eOp (oIn true) (eVar 2) (eC (.str "0123456789")))) (eVar 2) [2]) (eLst aNil)))
  (sCons (sRet (eC .non))
  sNil)
  sNil)
  (sCons (sRet (eCall fIntT (aCons (eVar 0) aNil)))
  sNil))))
def f_law_mark : Fn := callD 1 3 b_law_mark
abbrev s_law_told : Stmt := top 43
abbrev n_law_told : List Str := ["_law_text", "_law_marks_here", "_law_word", "_law_mark_here"]
def b_law_told : Sx := (sCons (sIf (eNotT (eTru (eIsi own (.bt .str) (eVar 0))))
  (sCons (sRet (eC .non))
  sNil)
  sNil)
  (sCons (sSet 1 (eLc (iSeq (eSplitS (eVar 0) (eC (.str " ")))) (gvName 2) tvYes (eCall f_law_mark (aCons (eVar 2) aNil)) [2]))
  (sCons (sIf (eOrT (eTst (eOp oNe (eLc (iSeq (eVar 1)) (gvName 3) (eTst (eOp (oIs false) (eVar 3) (eC .non))) (eVar 3) [3]) (eLst aNil))) (eTst (eOp oGt (eCall fLen (aCons (eVar 1) aNil)) (eC (.int 64)))))
  (sCons (sRet (eC .non))
  sNil)
  sNil)
  (sCons (sRet (eIf (eTst (eOp oEq (eCall fSrt (aCons (eLc (iSeq (eVar 1)) (gvName 3) tvYes (eCall fAbs (aCons (eVar 3) aNil)) [3]) aNil)) (eListRg2 (eC (.int 1)) (eOp oAdd (eCall fLen (aCons (eVar 1) aNil)) (eC (.int 1)))))) (eCall fTuple (aCons (eVar 1) aNil)) (eC .non)))
  sNil))))
def f_law_told : Fn := callD 1 4 b_law_told
abbrev s_SignTable___eq__ : Stmt := (match top 33 with | .ClassDef (body := b) .. => b.getD 12 (.Pass ⟨0, 0, 0, 0⟩) | _ => .Pass ⟨0, 0, 0, 0⟩)
abbrev n_SignTable___eq__ : List Str := ["self", "other"]
def b_SignTable___eq__ : Sx := (sCons (sRet (eAnd (eIsi own (.own "SignTable") (eVar 1)) (eOp oEq (eAttr stab [] "own_marks" (eVar 0)) (eAttr stab [] "own_marks" (eVar 1)))))
  sNil)
def f_SignTable___eq__ : Fn := callD 2 2 b_SignTable___eq__
abbrev s_SignTable___str__ : Stmt := (match top 33 with | .ClassDef (body := b) .. => b.getD 13 (.Pass ⟨0, 0, 0, 0⟩) | _ => .Pass ⟨0, 0, 0, 0⟩)
abbrev n_SignTable___str__ : List Str := ["self", "mark"]
def b_SignTable___str__ : Sx := (sCons (sRet (eJoinS (eC (.str " ")) (eLc (iSeq (eAttr stab [] "own_marks" (eVar 0))) (gvName 1) tvYes (eCall fStr (aCons (eVar 1) aNil)) [1])))
  sNil)
def f_SignTable___str__ : Fn := callD 1 2 b_SignTable___str__
abbrev s_law_right : Stmt := top 46
abbrev n_law_right : List Str := ["_law_jug_here", "_law_marks_here", "_law_mark_here", "_law_turn", "_law_signs", "_law_due", "_law_near_here", "_law_told_here"]
def b_law_right : Sx := (sCons (sSet 1 (eCall f_law_marks (aCons (eVar 0) (aCons (eCall f_law_pick (aCons (eVar 0) (aCons (eLst (aCons (eC (.int 1)) (aCons (eC (.int 1)) (aCons (eC (.int 2)) (aCons (eC (.int 3)) (aCons (eC (.int 4)) (aCons (eC (.int 8)) (aCons (eC (.int 11)) (aCons (eC (.int 64)) aNil))))))))) aNil))) aNil))))
  (sCons (sPar 4 5 (aCons (eCall (eMakeF "SignTable" f_SignTable___init__) (aCons (eVar 1) aNil)) (aCons (eC (.str "")) aNil)))
  (sCons (sFor (iSeq (eVar 1)) (gvName 2) (sCons (sSet 5 (eOp oAdd (eOp oAdd (eVar 5) (eIf (eTst (eOp (oNeO [("SignTable", f_SignTable___eq__)] own oNe) (eVar 5) (eC (.str "")))) (eC (.str " ")) (eC (.str "")))) (eCall (fStrO [("SignTable", f_SignTable___str__)]) (aCons (eVar 2) aNil))))
  sNil))
  (sCons (sIf (eOrT (eTst (eOp (oNeO [("SignTable", f_SignTable___eq__)] own oNe) (eCall (fStrO [("SignTable", f_SignTable___str__)]) (aCons (eVar 4) aNil)) (eVar 5))) (eOrT (eTst (eOp (oNeO [("SignTable", f_SignTable___eq__)] own oNe) (eClsM "SignTable" f_SignTable_read (aCons (eVar 5) aNil)) (eVar 4))) (eTst (eOp (oNeO [("SignTable", f_SignTable___eq__)] own oNe) (eCall f_law_told (aCons (eVar 5) aNil)) (eVar 1)))))
  (sCons (sRet (eC (.bl false)))
  sNil)
  sNil)
  (sCons (sFor (iRange1 (aCons (eC (.int 8)) aNil)) (gvName 3) (sCons (sSet 6 (eCall f_law_near (aCons (eVar 0) (aCons (eVar 5) aNil))))
  (sCons (sSet 7 (eCall f_law_told (aCons (eVar 6) aNil)))
  (sCons (sIf (eTst (eOp (oNeO [("SignTable", f_SignTable___eq__)] own oNe) (eCall f_law_read (aCons (eVar 6) aNil)) (eIf (eTst (eOp (oIs true) (eVar 7) (eC .non))) (eVar 7) (eC (.str "refused 0")))))
  (sCons (sRet (eC (.bl false)))
  sNil)
  sNil)
  sNil))))
  (sCons (sRet (eC (.bl true)))
  sNil))))))
def f_law_right : Fn := callD 1 8 b_law_right
abbrev s_law_jug : Stmt := top 38
abbrev n_law_jug : List Str := ["_law_script", "_law_at", "_law_cell", "_law_great"]
def b_law_jug : Sx := (sCons (sSet 2 (eIf (eTst (eOp oLt (eVar 1) (eCall fLen (aCons (eVar 0) aNil)))) (eCall fInt (aCons (eOp oIx (eVar 0) (eVar 1)) aNil)) (eOp oAdd (eOp oMul (eC (.int 409)) (eVar 1)) (eC (.int 67)))))
  (sCons (sSet 3 (eOp oMod (eCall fInt (aCons (eCall fAbs (aCons (eVar 2) aNil)) aNil)) (eOp oPow (eOp oPow (eC (.int 10)) (eC (.int 57))) (eC (.int 6)))))
  (sCons (sRet (eLstM (aCons (eCall fMax2 (aCons (eC (.int 0)) (aCons (eOp oSub (eVar 3) (eOp oPow (eC (.int 10)) (eC (.int 17)))) aNil))) (aCons (eOp oAdd (eOp oAdd (eOp oAdd (eOp oMul (eOp oMod (eVar 3) (eC (.int 1000000000039))) (eC (.int 104729))) (eOp oMul (eC (.int 4547)) (eVar 1))) (eOp oMul (eC (.int 29)) (eCall fInt (aCons (eOp oLt (eVar 2) (eC (.int 0))) aNil)))) (eC (.int 17))) (aCons (eC (.int 0)) aNil)))))
  sNil)))
def f_law_jug : Fn := callK 2 4 b_law_jug
abbrev s_law : Stmt := top 47
abbrev n_law : List Str := ["_law_script", "_law_at", "_law_wide", "_law_told_here", "_law_one"]
def b_law : Sx := (sCons (sFor (iRange1 (aCons (eCall fMax2 (aCons (eC (.int 1)) (aCons (eCall fMin2 (aCons (eC (.int 3)) (aCons (eCall fLen (aCons (eVar 0) aNil)) aNil))) aNil))) aNil)) (gvName 1) (sCons (sIf (eNotT (eTru (eCall f_law_right (aCons (eCall f_law_jug (aCons (eVar 0) (aCons (eVar 1) aNil))) aNil))))
  (sCons (sRet (eC (.bl false)))
  sNil)
  sNil)
  sNil))
  (sCons (sSet 2 (eJoinS (eC (.str " ")) (eLc (iRange2 (aCons (eC (.int 1)) (aCons (eC (.int 66)) aNil))) (gvName 4) tvYes (eCall fStr (aCons (eVar 4) aNil)) [4])))
  (sCons (sSet 3 (eLst (aCons (eCall f_law_read (aCons (eC (.str "2 -1")) aNil)) (aCons (eCall f_law_read (aCons (eC (.str "-1")) aNil)) (aCons (eCall f_law_read (aCons (eC (.str "1 3")) aNil)) (aCons (eCall f_law_read (aCons (eC (.str "2 01")) aNil)) (aCons (eCall f_law_read (aCons (eVar 2) aNil)) (aCons (eCall f_law_read (aCons (eC (.str "1\t2")) aNil)) aNil))))))))
  (sCons (sRet (eOp oEq (eVar 3) (eLst (aCons (eTup (aCons (eC (.int 2)) (aCons (eUn oNeg (eC (.int 1))) aNil))) (aCons (eTup (aCons (eUn oNeg (eC (.int 1))) aNil)) (aCons (eC (.str "refused 0")) (aCons (eC (.str "refused 0")) (aCons (eC (.str "refused 0")) (aCons (eC (.str "refused 0")) aNil)))))))))
  sNil))))
def f_law : Fn := callD 1 5 b_law
end LW
namespace LW
open PySem PySem.Spec L2 AW
def d_SignTable_marks : He5.DefA := ⟨fun K => prA K "SignTable" "marks", "marks", "SignTable.marks", defArgs s_SignTable_marks, defBody s_SignTable_marks, defScope s_SignTable_marks, [], []⟩
def d_is_told : He5.DefA := ⟨fun K => ga K "is_told", "is_told", "is_told", defArgs s_is_told, defBody s_is_told, defScope s_is_told, [], []⟩
def d_marks_in : He5.DefA := ⟨fun K => ga K "marks_in", "marks_in", "marks_in", defArgs s_marks_in, defBody s_marks_in, defScope s_marks_in, [], []⟩
def d_is_whole : He5.DefA := ⟨fun K => ga K "is_whole", "is_whole", "is_whole", defArgs s_is_whole, defBody s_is_whole, defScope s_is_whole, [], []⟩
def d_is_integer : He5.DefA := ⟨fun K => ga K "is_integer", "is_integer", "is_integer", defArgs s_is_integer, defBody s_is_integer, defScope s_is_integer, [], []⟩
def d_are_marks : He5.DefA := ⟨fun K => ga K "are_marks", "are_marks", "are_marks", defArgs s_are_marks, defBody s_are_marks, defScope s_are_marks, [], []⟩
def d_SignTable___init__ : He5.DefA := ⟨fun K => He.ma K (ga K "SignTable") "__init__", "__init__", "SignTable.__init__", defArgs s_SignTable___init__, defBody s_SignTable___init__, defScope s_SignTable___init__, [], []⟩
def d_SignTable_read : He5.DefA := ⟨fun K => cmA K "SignTable" "read", "read", "SignTable.read", defArgs s_SignTable_read, defBody s_SignTable_read, defScope s_SignTable_read, [], []⟩
def d_law_read : He5.DefA := ⟨fun K => ga K "_law_read", "_law_read", "_law_read", defArgs s_law_read, defBody s_law_read, defScope s_law_read, [], []⟩
def d_law_pour : He5.DefA := ⟨fun K => ga K "_law_pour", "_law_pour", "_law_pour", defArgs s_law_pour, defBody s_law_pour, defScope s_law_pour, [], []⟩
def d_law_pick : He5.DefA := ⟨fun K => ga K "_law_pick", "_law_pick", "_law_pick", defArgs s_law_pick, defBody s_law_pick, defScope s_law_pick, [], []⟩
def d_law_marks : He5.DefA := ⟨fun K => ga K "_law_marks", "_law_marks", "_law_marks", defArgs s_law_marks, defBody s_law_marks, defScope s_law_marks, [], []⟩
def d_law_near : He5.DefA := ⟨fun K => ga K "_law_near", "_law_near", "_law_near", defArgs s_law_near, defBody s_law_near, defScope s_law_near, [], []⟩
def d_law_mark : He5.DefA := ⟨fun K => ga K "_law_mark", "_law_mark", "_law_mark", defArgs s_law_mark, defBody s_law_mark, defScope s_law_mark, [], []⟩
def d_law_told : He5.DefA := ⟨fun K => ga K "_law_told", "_law_told", "_law_told", defArgs s_law_told, defBody s_law_told, defScope s_law_told, [], []⟩
def d_SignTable___eq__ : He5.DefA := ⟨fun K => He.ma K (ga K "SignTable") "__eq__", "__eq__", "SignTable.__eq__", defArgs s_SignTable___eq__, defBody s_SignTable___eq__, defScope s_SignTable___eq__, [], []⟩
def d_SignTable___str__ : He5.DefA := ⟨fun K => He.ma K (ga K "SignTable") "__str__", "__str__", "SignTable.__str__", defArgs s_SignTable___str__, defBody s_SignTable___str__, defScope s_SignTable___str__, [], []⟩
def d_law_right : He5.DefA := ⟨fun K => ga K "_law_right", "_law_right", "_law_right", defArgs s_law_right, defBody s_law_right, defScope s_law_right, [], []⟩
def d_law_jug : He5.DefA := ⟨fun K => ga K "_law_jug", "_law_jug", "_law_jug", defArgs s_law_jug, defBody s_law_jug, defScope s_law_jug, [], []⟩
def d_law : He5.DefA := ⟨fun K => ga K "law", "law", "law", defArgs s_law, defBody s_law, defScope s_law, [], []⟩
def fn : List He5.DefA := [d_SignTable_marks, d_is_told, d_marks_in, d_is_whole, d_is_integer, d_are_marks, d_SignTable___init__, d_SignTable_read, d_law_read, d_law_pour, d_law_pick, d_law_marks, d_law_near, d_law_mark, d_law_told, d_SignTable___eq__, d_SignTable___str__, d_law_right, d_law_jug, d_law]
abbrev i_ParseError : Stmt := (match top 6 with | .ClassDef (body := b) .. => b.getD 0 (.Pass ⟨0, 0, 0, 0⟩) | _ => .Pass ⟨0, 0, 0, 0⟩)
def c_ParseError : ClD := ⟨"ParseError", .ve, "spot", "ParseError.__init__", defArgs i_ParseError, defBody i_ParseError, defScope i_ParseError, "/claim/cut.py"⟩
theorem st_ParseError : ∃ (a : XArg) (p0 p1 p2 p3 p4 p5 p6 p7 p8 : Pos), a.isStr = true ∧ ClS c_ParseError "self" "spot" a p0 p1 p2 p3 p4 p5 p6 p7 p8 := ⟨(.str _ _ _), _, _, _, _, _, _, _, _, _, rfl, rfl, rfl, fun _ _ _ _ _ _ _ _ _ _ _ => rfl, by decide, rfl, rfl, rfl, rfl, rfl, rfl, rfl, by decide +kernel, fun _ => rfl, rfl, rfl, fun _ _ _ _ => rfl, fun _ _ _ _ => ⟨_, rfl⟩, fun _ _ _ _ => rfl, fun _ _ _ _ => rfl, fun _ _ _ _ => rfl⟩
def cl : List ClD := [c_ParseError]
def exs : List (PySem.W.Frag → Bool) := [(He.Fa.glo "is_told").okB,
  (He.Fa.glo "marks_in").okB,
  (He.Fa.glo "is_whole").okB,
  (He.Fa.glo "is_integer").okB,
  (He.Fa.glo "are_marks").okB,
  (He.Fa.glo "_law_read").okB,
  (He.Fa.glo "_law_pour").okB,
  (He.Fa.glo "_law_pick").okB,
  (He.Fa.glo "_law_marks").okB,
  (He.Fa.glo "_law_near").okB,
  (He.Fa.glo "_law_mark").okB,
  (He.Fa.glo "_law_told").okB,
  (He.Fa.glo "_law_right").okB,
  (He.Fa.glo "_law_jug").okB,
  (He.Fa.glo "law").okB,
  (He.Fa.glo "SignTable").okB,
  (He.Fa.free "abs").okB,
  (He.Fa.free "all").okB,
  (He.Fa.free "bool").okB,
  (He.Fa.free "int").okB,
  (He.Fa.free "isinstance").okB,
  (He.Fa.free "len").okB,
  (He.Fa.free "list").okB,
  (He.Fa.free "max").okB,
  (He.Fa.free "min").okB,
  (He.Fa.free "range").okB,
  (He.Fa.free "repr").okB,
  (He.Fa.free "sorted").okB,
  (He.Fa.free "str").okB,
  (He.Fa.free "tuple").okB,
  (He.Fa.int "BEYOND" (1000000000000000000000000000000000000000000000000000000000000)).okB,
  (He.Fa.int "MAX_SIZE" (64)).okB,
  (He.Fa.glo "InvalidTable").okB,
  (He.Fa.glo "ParseError").okB,
  (He.Fa.free "super").okB,
  glD "FIGURES_signs" (.str "0123456789"),
  glD "MINUS" (.str "-"),
  glD "BLANK" (.str " "),
  slotsB stab,
  isFB own,
  ex0B "InvalidTable" .ve,
  (He.Fa.mkr "SignTable").okB,
  clsB "SignTable",
  prB "SignTable" "marks",
  cmB "SignTable" "read",
  exTab "ParseError" [("InvalidTable", false), ("ParseError", true)],
  xfF "ParseError" "spot",
  neB "SignTable" own,
  strB "SignTable"]
def ts : List He.Tab := []
def reach : Reach := asC ((["is_told", "marks_in", "is_whole", "is_integer", "are_marks", "_law_read", "_law_pour", "_law_pick", "_law_marks", "_law_near", "_law_mark", "_law_told", "_law_right", "_law_jug", "law", "InvalidTable", "ParseError"] : List PySem.Str)) ((["FIGURES_signs", "MINUS", "BLANK", "SignTable", "BEYOND", "MAX_SIZE"] : List PySem.Str)) ["SignTable"] [("SignTable", "__init__"), ("SignTable", "__eq__"), ("SignTable", "__str__")] [("SignTable", "marks")] [("SignTable", "read")]
end LW
namespace LW
open PySem PySem.Spec L2 AW
abbrev R : PySem.W.OpenRow := PySem.W.OpenLaw.row PySem.Challenge.rw_squaretimes_k16_whole_texts_of_sign_tabl
abbrev hk : PySem.W.Hook := hookC reach exs fn ts (tf.map (·.1)) cl
def ob (s : PySem.W.SharedT) : AlC := obsC reach exs fn ts (tf.map (·.1)) cl (HandSHeadRun.getT s)
theorem ob_eq (s : PySem.W.SharedT) : ob s = hk.obs s.abs := obsC_eq (HandSHeadRun.getT_eq s)
def loose : List PySem.Str := (["_wall", "SquareError", "InvalidRatio", "InvalidTable", "InvalidOperation", "ParseError", "InvalidNumber", "TooMany", "BEYOND", "MOST_FIGURES", "FIGURES_ratios", "is_whole", "is_integer", "require_integer", "common_of", "are_figures", "Terms", "Ratio", "sign_of_integer", "ratio_of"] : List PySem.Str) ++ (["ratio_text", "is_ratio_or_integer", "told_ratio", "MAX_SIZE", "MAX_SHOWN", "BLANK", "MINUS", "FIGURES_signs", "are_marks", "sign_of", "SignTable", "is_told", "marks_in", "require_size", "_law_jug", "_law_pour", "_law_pick", "_law_marks", "_law_mark", "_law_told"] : List PySem.Str) ++ (["_law_read", "_law_near", "_law_right"] : List PySem.Str)
theorem r1 (w : World) : ∀ os : OsState, (HandSHeadRun.endF (HandSHeadRun.stepQ (HandSHeadRun.denQ HandSHeadRun.tabQ) R.prog w) 12000 R.prog w os).map (fun s => (HandSHeadRun.looksF R.prog (PySem.W.boot_heap w.params) s.abs, HandSHeadRun.seenQ (PySem.W.view R.prog [47]) loose (importedModules R.prog.main.body) (fun s => PySem.W.xlAt (PySem.W.view R.prog [47]) [] s && PySem.W.recOk R.toRowW.records s) s.abs)) = some ((true, PySem.W.openGood (PySem.W.view R.prog [47]) loose)) := by
  intro os
  kernel_rfl
theorem r2 (w : World) : ∀ os : OsState, (HandSHeadRun.endF (HandSHeadRun.stepQ (HandSHeadRun.denQ HandSHeadRun.tabQ) R.prog w) 12000 R.prog w os).map (fun s => exs.all fun b => b (kB reach (HandSHeadRun.getT s))) = some (true) := by
  intro os
  kernel_rfl
theorem r3 (w : World) : ∀ os : OsState, (HandSHeadRun.endF (HandSHeadRun.stepQ (HandSHeadRun.denQ HandSHeadRun.tabQ) R.prog w) 12000 R.prog w os).map (fun s => (obsB reach [] fn ts (tf.map (·.1)) (HandSHeadRun.getT s), (cl.all fun d => d.ok (kB reach (HandSHeadRun.getT s))), cl.map fun d => fnC (kB reach (HandSHeadRun.getT s)) (iniA (kB reach (HandSHeadRun.getT s)) d.x))) = some ((valB fn ts w, true, cl.map ClD.val)) := by
  intro os
  kernel_rfl
theorem r4 (w : World) (os : OsState) : (HandSHeadRun.endF (HandSHeadRun.stepQ (HandSHeadRun.denQ HandSHeadRun.tabQ) R.prog w) 12000 R.prog w os).map ob = some (hk.val w) := by
  have h2 := r2 w os
  have h3 := r3 w os
  generalize (HandSHeadRun.endF (HandSHeadRun.stepQ (HandSHeadRun.denQ HandSHeadRun.tabQ) R.prog w) 12000 R.prog w os) = x at h2 h3 ⊢
  cases x with
  | none => cases h2
  | some s => exact congrArg some (obsC_parts (Option.some.inj h2) (Option.some.inj h3))
theorem run (w : World) : HandSHeadRun.RunEq R (PySem.W.view R.prog [47]) hk ob 12000 loose w := fun os => by
  have h1 := r1 w os
  have h4 := r4 w os
  have h := map_two h1 h4
  exact h
end LW
namespace LW
open PySem PySem.Spec L2 AW
section
variable {P : Program} {w : World} {K : PySem.W.Frag} {mg : Str → Option Value}
theorem l_ParseError (T : Tx exs fn ts w K mg) (TC : Cls cl K) (HP : PK P "/claim/cut.py") : LowX P K mg "ParseError" "spot" true := by
  obtain ⟨fI, cda, cc, kp⟩ := TC 0 c_ParseError rfl
  obtain ⟨a, p0, p1, p2, p3, p4, p5, p6, p7, p8, ha, st⟩ := st_ParseError
  rw [← ha]
  exact low_of kp HP (T.gl "ParseError" (T.at_ 33 rfl)) (T.fr "super" (T.at_ 34 rfl)) (T.fr "str" (T.at_ 28 rfl)) st
theorem sc_SignTable_marks : FnScope n_SignTable_marks ["self"] (defScope s_SignTable_marks) := ⟨rfl, rfl, rfl, by decide +kernel, rfl, by decide +kernel, by decide +kernel⟩
theorem o_SignTable_marks (T : Tx exs fn ts w K mg) (TC : Cls cl K) (HP : PK P "/claim/cut.py")  : OkA (tf.map (·.1)) P w K mg (prA K "SignTable" "marks") 2 f_SignTable_marks := by
  obtain ⟨fd, F⟩ := T.fd 0 d_SignTable_marks rfl
  refine ⟨F.kp, fun base TB => fn_ok F sc_SignTable_marks rfl (F.bindsA fun _ _ _ _ _ _ us hl => match us, hl with | [_], _ => rfl) fun cd A out s H E hr gd => ?_⟩
  have hu := units64 hr
  have hu5 := units65 hr
  have hu3 := units50 hr
  have tk : Takes (cxOf (L2.CX P w) P w K mg base n_SignTable_marks "SignTable.marks" (defScope s_SignTable_marks) (prA K "SignTable" "marks") cd A out s H E) (WF E) := takes_of rfl rfl rfl rfl
  exact (ss_cons (s_ret (x_attr (k := 0) (slF_of (T.at_ 38 rfl)) prF_nil TB gd hr (by decide) (x_var (pv 0))))
  ss_nil)
theorem sc_is_told : FnScope n_is_told ["word"] (defScope s_is_told) := ⟨rfl, rfl, rfl, by decide +kernel, rfl, by decide +kernel, by decide +kernel⟩
theorem o_is_told (T : Tx exs fn ts w K mg) (TC : Cls cl K) (HP : PK P "/claim/cut.py")  : Ok (tf.map (·.1)) P w K mg "is_told" 2 f_is_told := by
  obtain ⟨fd, F⟩ := T.fd 1 d_is_told rfl
  obtain ⟨u_FIGURES_signs, v_FIGURES_signs, m_FIGURES_signs, r_FIGURES_signs, l_FIGURES_signs⟩ := T.li "FIGURES_signs" (.str "0123456789") (T.at_ 35 rfl)
  obtain ⟨u_MINUS, v_MINUS, m_MINUS, r_MINUS, l_MINUS⟩ := T.li "MINUS" (.str "-") (T.at_ 36 rfl)
  refine ⟨T.gl "is_told" (T.at_ 0 rfl), F.kp, fun base TB => fn_ok F sc_is_told rfl (F.bindsA fun _ _ _ _ _ _ us hl => match us, hl with | [_], _ => rfl) fun cd A out s H E hr gd => ?_⟩
  have hu := units64 hr
  have hu5 := units65 hr
  have hu3 := units50 hr
  have tk : Takes (cxOf (L2.CX P w) P w K mg base n_is_told "is_told" (defScope s_is_told) (ga K "is_told") cd A out s H E) (WF E) := takes_of rfl rfl rfl rfl
  exact (ss_cons (s_set (i := 1) sc_is_told.nd rfl (by first | exact Or.inl rfl | exact Or.inr rfl) (x_if (t_cmp (f := oEq) (op_eq1 hu) oEq_s (x_sl (x_var (pv 0)) o_none (o_some x_int)) (x_c (pe_glob (v := v_MINUS) rfl m_MINUS r_MINUS) l_MINUS) (nomark _)) (x_sl (x_var (pv 0)) (o_some x_int) o_none) (x_var (pv 0))))
  (ss_cons (s_ret (x_and (x_chain (f := oLe) (f' := oLe) op_le op_le oB0_s oB0_s x_int (x_callB call_len fLen_s rfl (T.fr "len" (T.at_ 21 rfl)) bt_len (a_cons (x_var (pv 1)) a_nil)) x_int) (x_and (x_ne hu (x_ix (x_var (pv 1)) x_int) x_str) (x_one (x_callB (cr_all rfl) fAll_s rfl (T.fr "all" (T.at_ 17 rfl)) bt_all (a_cons (x_lc (own := [("figure", 2)]) rfl sc_is_told.nd (i_str (x_var (pv 1))) (blkOk_by (by kernel_rfl)) (ct_name (i := 2) (by decide)) (fun _ _ _ _ _ => (pg_name (i := 2) sc_is_told.nd rfl (by first | exact Or.inl rfl | exact Or.inr rfl))) (fun _ _ _ _ _ => ts_nil) (fun _ _ _ _ _ => (x_in hu5 (x_var (pv 2)) (x_c (pe_glob (v := v_FIGURES_signs) rfl m_FIGURES_signs r_FIGURES_signs) l_FIGURES_signs)))) a_nil))))))
  ss_nil))
theorem sc_marks_in : FnScope n_marks_in ["text"] (defScope s_marks_in) := ⟨rfl, rfl, rfl, by decide +kernel, rfl, by decide +kernel, by decide +kernel⟩
theorem o_marks_in (T : Tx exs fn ts w K mg) (TC : Cls cl K) (HP : PK P "/claim/cut.py") (o_is_told : Ok (tf.map (·.1)) P w K mg "is_told" 2 f_is_told) : Ok (tf.map (·.1)) P w K mg "marks_in" 3 f_marks_in := by
  obtain ⟨fd, F⟩ := T.fd 2 d_marks_in rfl
  obtain ⟨u_BLANK, v_BLANK, m_BLANK, r_BLANK, l_BLANK⟩ := T.li "BLANK" (.str " ") (T.at_ 37 rfl)
  refine ⟨T.gl "marks_in" (T.at_ 1 rfl), F.kp, fun base TB => fn_ok F sc_marks_in rfl (F.bindsA fun _ _ _ _ _ _ us hl => match us, hl with | [_], _ => rfl) fun cd A out s H E hr gd => ?_⟩
  have hu := units64 hr
  have hu5 := units65 hr
  have hu3 := units50 hr
  have tk : Takes (cxOf (L2.CX P w) P w K mg base n_marks_in "marks_in" (defScope s_marks_in) (ga K "marks_in") cd A out s H E) (WF E) := takes_of rfl rfl rfl rfl
  exact (ss_cons (s_set (i := 1) sc_marks_in.nd rfl (by first | exact Or.inl rfl | exact Or.inr rfl) (x_splitS (x_var (pv 0)) (x_c (pe_glob (v := v_BLANK) rfl m_BLANK r_BLANK) l_BLANK)))
  (ss_cons (s_ret (x_if (t_tru (x_callB (cr_all rfl) fAll_s rfl (T.fr "all" (T.at_ 17 rfl)) bt_all (a_cons (x_lc (own := [("word", 2)]) rfl sc_marks_in.nd (i_seq (x_var (pv 1))) (blkOk_by (by kernel_rfl)) (ct_name (i := 2) (by decide)) (fun _ _ _ _ _ => (pg_name (i := 2) sc_marks_in.nd rfl (by first | exact Or.inl rfl | exact Or.inr rfl))) (fun _ _ _ _ _ => ts_nil) (fun _ _ _ _ _ => (x_callO o_is_told TB gd hr (by decide) takes0 rfl (a_cons (x_var (pv 2)) a_nil)))) a_nil))) (x_callTy call_tuple_of fTuple_s rfl (T.fr "tuple" (T.at_ 29 rfl)) bt_tuple (a_cons (x_lc (own := [("word", 2)]) rfl sc_marks_in.nd (i_seq (x_var (pv 1))) (blkOk_by (by kernel_rfl)) (ct_name (i := 2) (by decide)) (fun _ _ _ _ _ => (pg_name (i := 2) sc_marks_in.nd rfl (by first | exact Or.inl rfl | exact Or.inr rfl))) (fun _ _ _ _ _ => ts_nil) (fun _ _ _ _ _ => (x_callTy call_intT fIntT_s rfl (T.fr "int" (T.at_ 19 rfl)) bt_int (a_cons (x_var (pv 2)) a_nil)))) a_nil)) x_non))
  ss_nil))
theorem sc_is_whole : FnScope n_is_whole ["value"] (defScope s_is_whole) := ⟨rfl, rfl, rfl, by decide +kernel, rfl, by decide +kernel, by decide +kernel⟩
theorem o_is_whole (T : Tx exs fn ts w K mg) (TC : Cls cl K) (HP : PK P "/claim/cut.py")  : Ok (tf.map (·.1)) P w K mg "is_whole" 2 f_is_whole := by
  obtain ⟨fd, F⟩ := T.fd 3 d_is_whole rfl
  refine ⟨T.gl "is_whole" (T.at_ 2 rfl), F.kp, fun base TB => fn_ok F sc_is_whole rfl (F.bindsA fun _ _ _ _ _ _ us hl => match us, hl with | [_], _ => rfl) fun cd A out s H E hr gd => ?_⟩
  have hu := units64 hr
  have hu5 := units65 hr
  have hu3 := units50 hr
  have tk : Takes (cxOf (L2.CX P w) P w K mg base n_is_whole "is_whole" (defScope s_is_whole) (ga K "is_whole") cd A out s H E) (WF E) := takes_of rfl rfl rfl rfl
  exact (ss_cons (s_ret (x_and (x_isi .int (isF_of (T.at_ 39 rfl)) rfl (T.fr "isinstance" (T.at_ 20 rfl)) rfl (T.fr "int" (T.at_ 19 rfl)) bt_int (x_var (pv 0))) (x_one (x_not (x_isi .bl (isF_of (T.at_ 39 rfl)) rfl (T.fr "isinstance" (T.at_ 20 rfl)) rfl (T.fr "bool" (T.at_ 18 rfl)) bt_bool (x_var (pv 0)))))))
  ss_nil)
theorem sc_is_integer : FnScope n_is_integer ["value"] (defScope s_is_integer) := ⟨rfl, rfl, rfl, by decide +kernel, rfl, by decide +kernel, by decide +kernel⟩
theorem o_is_integer (T : Tx exs fn ts w K mg) (TC : Cls cl K) (HP : PK P "/claim/cut.py") (o_is_whole : Ok (tf.map (·.1)) P w K mg "is_whole" 2 f_is_whole) : Ok (tf.map (·.1)) P w K mg "is_integer" 3 f_is_integer := by
  obtain ⟨fd, F⟩ := T.fd 4 d_is_integer rfl
  obtain ⟨t_BEYOND, h_BEYOND⟩ := T.it "BEYOND" _ (T.at_ 30 rfl)
  refine ⟨T.gl "is_integer" (T.at_ 3 rfl), F.kp, fun base TB => fn_ok F sc_is_integer rfl (F.bindsA fun _ _ _ _ _ _ us hl => match us, hl with | [_], _ => rfl) fun cd A out s H E hr gd => ?_⟩
  have hu := units64 hr
  have hu5 := units65 hr
  have hu3 := units50 hr
  have tk : Takes (cxOf (L2.CX P w) P w K mg base n_is_integer "is_integer" (defScope s_is_integer) (ga K "is_integer") cd A out s H E) (WF E) := takes_of rfl rfl rfl rfl
  exact (ss_cons (s_ret (x_and (x_callO o_is_whole TB gd hr (by decide) tk rfl (a_cons (x_var (pv 0)) a_nil)) (x_one (x_chain (f := oLt) (f' := oLt) op_lt op_lt oB0_s oB0_s (x_neg (x_c (pe_glob (v := .int (1000000000000000000000000000000000000000000000000000000000000)) rfl h_BEYOND ⟨_, rfl⟩) fun _ => .int)) (x_var (pv 0)) (x_c (pe_glob (v := .int (1000000000000000000000000000000000000000000000000000000000000)) rfl h_BEYOND ⟨_, rfl⟩) fun _ => .int)))))
  ss_nil)
theorem sc_are_marks : FnScope n_are_marks ["value"] (defScope s_are_marks) := ⟨rfl, rfl, rfl, by decide +kernel, rfl, by decide +kernel, by decide +kernel⟩
theorem o_are_marks (T : Tx exs fn ts w K mg) (TC : Cls cl K) (HP : PK P "/claim/cut.py") (o_is_integer : Ok (tf.map (·.1)) P w K mg "is_integer" 3 f_is_integer) : Ok (tf.map (·.1)) P w K mg "are_marks" 4 f_are_marks := by
  obtain ⟨fd, F⟩ := T.fd 5 d_are_marks rfl
  obtain ⟨t_MAX_SIZE, h_MAX_SIZE⟩ := T.it "MAX_SIZE" _ (T.at_ 31 rfl)
  refine ⟨T.gl "are_marks" (T.at_ 4 rfl), F.kp, fun base TB => fn_ok F sc_are_marks rfl (F.bindsA fun _ _ _ _ _ _ us hl => match us, hl with | [_], _ => rfl) fun cd A out s H E hr gd => ?_⟩
  have hu := units64 hr
  have hu5 := units65 hr
  have hu3 := units50 hr
  have tk : Takes (cxOf (L2.CX P w) P w K mg base n_are_marks "are_marks" (defScope s_are_marks) (ga K "are_marks") cd A out s H E) (WF E) := takes_of rfl rfl rfl rfl
  exact (ss_cons (s_if (PW.pt (w_or (t_not (t_tru (x_isi .tup (isF_of (T.at_ 39 rfl)) rfl (T.fr "isinstance" (T.at_ 20 rfl)) rfl (T.fr "tuple" (T.at_ 29 rfl)) bt_tuple (x_var (pv 0))))) (w_or1 (t_not (t_chain (f := oLe) (f' := oLe) op_le op_le oB0_s oB0_s x_int (x_callB call_len fLen_s rfl (T.fr "len" (T.at_ 21 rfl)) bt_len (a_cons (x_var (pv 0)) a_nil)) (x_c (pe_glob (v := .int (64)) rfl h_MAX_SIZE ⟨_, rfl⟩) fun _ => .int))))))
  (ss_cons (s_ret x_bl)
  ss_nil)
  ss_nil)
  (ss_cons (s_if (t_not (t_tru (x_callB (cr_all rfl) fAll_s rfl (T.fr "all" (T.at_ 17 rfl)) bt_all (a_cons (x_lc (own := [("mark", 1)]) rfl sc_are_marks.nd (i_seq (x_var (pv 0))) (blkOk_by (by kernel_rfl)) (ct_name (i := 1) (by decide)) (fun _ _ _ _ _ => (pg_name (i := 1) sc_are_marks.nd rfl (by first | exact Or.inl rfl | exact Or.inr rfl))) (fun _ _ _ _ _ => ts_nil) (fun _ _ _ _ _ => (x_callO o_is_integer TB gd hr (by decide) takes0 rfl (a_cons (x_var (pv 1)) a_nil)))) a_nil))))
  (ss_cons (s_ret x_bl)
  ss_nil)
  ss_nil)
  (ss_cons (s_ret (x_eq hu (x_callB (callR_or cr_sortedI cr_srtT) fSrt_s rfl (T.fr "sorted" (T.at_ 27 rfl)) bt_sorted (a_cons (x_lc (own := [("mark", 1)]) rfl sc_are_marks.nd (i_seq (x_var (pv 0))) (blkOk_by (by kernel_rfl)) (ct_name (i := 1) (by decide)) (fun _ _ _ _ _ => (pg_name (i := 1) sc_are_marks.nd rfl (by first | exact Or.inl rfl | exact Or.inr rfl))) (fun _ _ _ _ _ => ts_nil) (fun _ _ _ _ _ => (x_callB call_abs fAbs_s rfl (T.fr "abs" (T.at_ 16 rfl)) bt_abs (a_cons (x_var (pv 1)) a_nil)))) a_nil)) (x_listRg2 rfl rfl (T.fr "list" (T.at_ 22 rfl)) rfl (T.fr "range" (T.at_ 25 rfl)) x_int (x_add (x_callB call_len fLen_s rfl (T.fr "len" (T.at_ 21 rfl)) bt_len (a_cons (x_var (pv 0)) a_nil)) x_int))))
  ss_nil)))
theorem sc_SignTable___init__ : FnScope n_SignTable___init__ ["self", "marks"] (defScope s_SignTable___init__) := ⟨rfl, rfl, rfl, by decide +kernel, rfl, by decide +kernel, by decide +kernel⟩
theorem o_SignTable___init__ (T : Tx exs fn ts w K mg) (TC : Cls cl K) (HP : PK P "/claim/cut.py") (o_are_marks : Ok (tf.map (·.1)) P w K mg "are_marks" 4 f_are_marks) : OkA (tf.map (·.1)) P w K mg (He.ma K (ga K "SignTable") "__init__") 5 f_SignTable___init__ := by
  obtain ⟨fd, F⟩ := T.fd 6 d_SignTable___init__ rfl
  refine ⟨F.kp, fun base TB => fn_okK F sc_SignTable___init__ rfl (F.bindsA fun _ _ _ _ _ _ us hl => match us, hl with | [_, _], _ => rfl) fun cd A out s H E hr gd => ?_⟩
  have hu := units64 hr
  have hu5 := units65 hr
  have hu3 := units50 hr
  have tk : Takes (cxOf (L2.CX P w) P w K mg base n_SignTable___init__ "SignTable.__init__" (defScope s_SignTable___init__) (He.ma K (ga K "SignTable") "__init__") cd A out s H E) (WF E) := takes_of rfl rfl rfl rfl
  exact (ss_cons (s_if (t_not (t_tru (x_callO o_are_marks TB gd hr (by decide) tk rfl (a_cons (x_var (pv 1)) a_nil))))
  (ss_cons (s_raiseZ (T.at_ 40 rfl) (T.gl "InvalidTable" (T.at_ 32 rfl)) rfl tk rfl)
  ss_nil)
  ss_nil)
  (ss_cons (s_fld (slF_of (T.at_ 38 rfl)) (x_var (pv 0)) (x_var (pv 1)))
  ss_nil))
theorem sc_SignTable_read : FnScope n_SignTable_read ["cls", "text"] (defScope s_SignTable_read) := ⟨rfl, rfl, rfl, by decide +kernel, rfl, by decide +kernel, by decide +kernel⟩
theorem o_SignTable_read (T : Tx exs fn ts w K mg) (TC : Cls cl K) (HP : PK P "/claim/cut.py") (o_SignTable___init__ : OkA (tf.map (·.1)) P w K mg (He.ma K (ga K "SignTable") "__init__") 5 f_SignTable___init__) (o_are_marks : Ok (tf.map (·.1)) P w K mg "are_marks" 4 f_are_marks) (o_marks_in : Ok (tf.map (·.1)) P w K mg "marks_in" 3 f_marks_in) : OkA (tf.map (·.1)) P w K mg (cmA K "SignTable" "read") 7 f_SignTable_read := by
  obtain ⟨fd, F⟩ := T.fd 7 d_SignTable_read rfl
  have l_ParseError := l_ParseError T TC HP
  refine ⟨F.kp, fun base TB => fn_ok F sc_SignTable_read rfl (F.bindsA fun _ _ _ _ _ _ us hl => match us, hl with | [_, _], _ => rfl) fun cd A out s H E hr gd => ?_⟩
  have hu := units64 hr
  have hu5 := units65 hr
  have hu3 := units50 hr
  have tk : Takes (cxOf (L2.CX P w) P w K mg base n_SignTable_read "SignTable.read" (defScope s_SignTable_read) (cmA K "SignTable" "read") cd A out s H E) (WF E) := takes_of rfl rfl rfl rfl
  exact (ss_cons (s_set (i := 2) sc_SignTable_read.nd rfl (by first | exact Or.inl rfl | exact Or.inr rfl) (x_if (t_tru (x_isi .str (isF_of (T.at_ 39 rfl)) rfl (T.fr "isinstance" (T.at_ 20 rfl)) rfl (T.fr "str" (T.at_ 28 rfl)) bt_str (x_var (pv 1)))) (x_callO o_marks_in TB gd hr (by decide) tk rfl (a_cons (x_var (pv 1)) a_nil)) x_non))
  (ss_cons (s_if (PW.pt (w_or (t_cmp (f := (oIs false)) op_isN oIs_s (x_var (pv 2)) x_non (nomark _)) (w_or1 (t_not (t_tru (x_callO o_are_marks TB gd hr (by decide) tk rfl (a_cons (x_var (pv 2)) a_nil)))))))
  (ss_cons (s_raiseL l_ParseError rfl tk gd hr (by decide) rfl x_int)
  ss_nil)
  ss_nil)
  (ss_cons (s_ret (x_makeV (k := 5) (mvF_cons (He.mkr_ok (T.at_ 41 rfl)) o_SignTable___init__ (by decide) mvF_nil) (pv 0) TB gd hr (by decide) tk (a_cons (x_var (pv 2)) a_nil)))
  ss_nil)))
theorem sc_law_read : FnScope n_law_read ["_law_value"] (defScope s_law_read) := ⟨rfl, rfl, rfl, by decide +kernel, rfl, by decide +kernel, by decide +kernel⟩
theorem o_law_read (T : Tx exs fn ts w K mg) (TC : Cls cl K) (HP : PK P "/claim/cut.py") (o_SignTable_marks : OkA (tf.map (·.1)) P w K mg (prA K "SignTable" "marks") 2 f_SignTable_marks) (o_SignTable_read : OkA (tf.map (·.1)) P w K mg (cmA K "SignTable" "read") 7 f_SignTable_read) : Ok (tf.map (·.1)) P w K mg "_law_read" 9 f_law_read := by
  obtain ⟨fd, F⟩ := T.fd 8 d_law_read rfl
  refine ⟨T.gl "_law_read" (T.at_ 5 rfl), F.kp, fun base TB => fn_ok F sc_law_read rfl (F.bindsA fun _ _ _ _ _ _ us hl => match us, hl with | [_], _ => rfl) fun cd A out s H E hr gd => ?_⟩
  have hu := units64 hr
  have hu5 := units65 hr
  have hu3 := units50 hr
  have tk : Takes (cxOf (L2.CX P w) P w K mg base n_law_read "_law_read" (defScope s_law_read) (ga K "_law_read") cd A out s H E) (WF E) := takes_of rfl rfl rfl rfl
  exact (ss_cons (s_try rfl rfl sc_law_read.nd tk gd hu3 (fun W' pn xe tk _ => (ss_cons (s_ret (x_attr (k := 2) (slF_of (T.at_ 38 rfl)) (prF_cons ((clsB_s (T.at_ 42 rfl)).1) (T.at_ 43 rfl) o_SignTable_marks (by decide) prF_nil) TB gd hr (by decide) (x_clsM (T.at_ 44 rfl) o_SignTable_read TB gd hr (by decide) tk rfl (T.gl "SignTable" (T.at_ 15 rfl)) (a_cons (x_var (pv 0)) a_nil))))
  ss_nil)) (.named ⟨rfl, rfl, .inl (T.gl "ParseError" (T.at_ 33 rfl))⟩ (exTab_of (T.at_ 45 rfl)) rfl rfl (by first | exact Or.inl rfl | exact Or.inr rfl) (.pre rfl rfl (T.fr "repr" (T.at_ 26 rfl)) rfl) (xfF_1 (T.at_ 46 rfl)) (xfF_2 (T.at_ 46 rfl)) (by decide) (by decide) .nil))
  ss_nil)
theorem sc_law_pour : FnScope n_law_pour ["_law_jug_here", "_law_total"] (defScope s_law_pour) := ⟨rfl, rfl, rfl, by decide +kernel, rfl, by decide +kernel, by decide +kernel⟩
theorem o_law_pour (T : Tx exs fn ts w K mg) (TC : Cls cl K) (HP : PK P "/claim/cut.py")  : Ok (tf.map (·.1)) P w K mg "_law_pour" 2 f_law_pour := by
  obtain ⟨fd, F⟩ := T.fd 9 d_law_pour rfl
  refine ⟨T.gl "_law_pour" (T.at_ 6 rfl), F.kp, fun base TB => fn_ok F sc_law_pour rfl (F.bindsA fun _ _ _ _ _ _ us hl => match us, hl with | [_, _], _ => rfl) fun cd A out s H E hr gd => ?_⟩
  have hu := units64 hr
  have hu5 := units65 hr
  have hu3 := units50 hr
  have tk : Takes (cxOf (L2.CX P w) P w K mg base n_law_pour "_law_pour" (defScope s_law_pour) (ga K "_law_pour") cd A out s H E) (WF E) := takes_of rfl rfl rfl rfl
  exact (ss_cons (s_if (t_cmp (f := oGt) op_gt oB0_s (x_ix (x_var (pv 0)) x_int) x_int (nomark _))
  (ss_cons (s_set (i := 4) sc_law_pour.nd rfl (by first | exact Or.inl rfl | exact Or.inr rfl) (x_mod (x_callTy call_int1 fInt_s rfl (T.fr "int" (T.at_ 19 rfl)) bt_int (a_cons (x_ix (x_var (pv 0)) x_int) a_nil)) (x_var (pv 1))))
  (ss_cons (s_asg (x_fdiv (x_ix (x_var (pv 0)) x_int) (x_var (pv 1))) (g_sub (W := WF E) (x_var (pv 0)) x_int))
  (ss_cons (s_ret (x_var (pv 4)))
  ss_nil)))
  ss_nil)
  (ss_cons (s_asg (x_add (x_ix (x_var (pv 0)) x_int) x_int) (g_sub (W := WF E) (x_var (pv 0)) x_int))
  (ss_cons (s_set (i := 2) sc_law_pour.nd rfl (by first | exact Or.inl rfl | exact Or.inr rfl) (x_mod (x_callTy call_int1 fInt_s rfl (T.fr "int" (T.at_ 19 rfl)) bt_int (a_cons (x_add (x_ix (x_var (pv 0)) x_int) (x_mul x_int (x_ix (x_var (pv 0)) x_int))) a_nil)) x_int))
  (ss_cons (s_set (i := 3) sc_law_pour.nd rfl (by first | exact Or.inl rfl | exact Or.inr rfl) (x_mod (x_callTy call_int1 fInt_s rfl (T.fr "int" (T.at_ 19 rfl)) bt_int (a_cons (x_add (x_mul (x_var (pv 2)) (x_var (pv 2))) (x_mul x_int (x_ix (x_var (pv 0)) x_int))) a_nil)) x_int))
  (ss_cons (s_ret (x_mod (x_callTy call_int1 fInt_s rfl (T.fr "int" (T.at_ 19 rfl)) bt_int (a_cons (x_fdiv (x_add (x_mul (x_var (pv 3)) x_int) (x_var (pv 2))) x_int) a_nil)) (x_var (pv 1))))
  ss_nil)))))
theorem sc_law_pick : FnScope n_law_pick ["_law_jug_here", "_law_items"] (defScope s_law_pick) := ⟨rfl, rfl, rfl, by decide +kernel, rfl, by decide +kernel, by decide +kernel⟩
theorem o_law_pick (T : Tx exs fn ts w K mg) (TC : Cls cl K) (HP : PK P "/claim/cut.py") (o_law_pour : Ok (tf.map (·.1)) P w K mg "_law_pour" 2 f_law_pour) : Ok (tf.map (·.1)) P w K mg "_law_pick" 3 f_law_pick := by
  obtain ⟨fd, F⟩ := T.fd 10 d_law_pick rfl
  refine ⟨T.gl "_law_pick" (T.at_ 7 rfl), F.kp, fun base TB => fn_ok F sc_law_pick rfl (F.bindsA fun _ _ _ _ _ _ us hl => match us, hl with | [_, _], _ => rfl) fun cd A out s H E hr gd => ?_⟩
  have hu := units64 hr
  have hu5 := units65 hr
  have hu3 := units50 hr
  have tk : Takes (cxOf (L2.CX P w) P w K mg base n_law_pick "_law_pick" (defScope s_law_pick) (ga K "_law_pick") cd A out s H E) (WF E) := takes_of rfl rfl rfl rfl
  exact (ss_cons (s_ret (x_ix (x_var (pv 1)) (x_callO o_law_pour TB gd hr (by decide) tk rfl (a_cons (x_var (pv 0)) (a_cons (x_callB call_len fLen_s rfl (T.fr "len" (T.at_ 21 rfl)) bt_len (a_cons (x_var (pv 1)) a_nil)) a_nil)))))
  ss_nil)
theorem sc_law_marks : FnScope n_law_marks ["_law_jug_here", "_law_size"] (defScope s_law_marks) := ⟨rfl, rfl, rfl, by decide +kernel, rfl, by decide +kernel, by decide +kernel⟩
theorem o_law_marks (T : Tx exs fn ts w K mg) (TC : Cls cl K) (HP : PK P "/claim/cut.py") (o_law_pick : Ok (tf.map (·.1)) P w K mg "_law_pick" 3 f_law_pick) (o_law_pour : Ok (tf.map (·.1)) P w K mg "_law_pour" 2 f_law_pour) : Ok (tf.map (·.1)) P w K mg "_law_marks" 4 f_law_marks := by
  obtain ⟨fd, F⟩ := T.fd 11 d_law_marks rfl
  refine ⟨T.gl "_law_marks" (T.at_ 8 rfl), F.kp, fun base TB => fn_ok F sc_law_marks rfl (F.bindsA fun _ _ _ _ _ _ us hl => match us, hl with | [_, _], _ => rfl) fun cd A out s H E hr gd => ?_⟩
  have hu := units64 hr
  have hu5 := units65 hr
  have hu3 := units50 hr
  have tk : Takes (cxOf (L2.CX P w) P w K mg base n_law_marks "_law_marks" (defScope s_law_marks) (ga K "_law_marks") cd A out s H E) (WF E) := takes_of rfl rfl rfl rfl
  exact (ss_cons (s_par (i := 3) (j := 4) rfl sc_law_marks.nd rfl rfl (by decide) rfl rfl (a_cons (x_listRg2M rfl rfl (T.fr "list" (T.at_ 22 rfl)) rfl (T.fr "range" (T.at_ 25 rfl)) x_int (x_add (x_var (pv 1)) x_int)) (a_cons (x_lstM a_nil) a_nil)) (by rfl))
  (ss_cons (s_for (passes_of rfl) rfl (i_range1 rfl (T.fr "range" (T.at_ 25 rfl)) (a_cons (x_var (pv 1)) a_nil)) (g_name (i := 2) sc_law_marks.nd rfl (by first | exact Or.inl rfl | exact Or.inr rfl))
  (ss_cons (s_expr (x_append (x_var (pv 4)) (x_mul (x_pop (x_var (pv 3)) (x_callO o_law_pour TB gd hr (by decide) tk rfl (a_cons (x_var (pv 0)) (a_cons (x_callB call_len fLen_s rfl (T.fr "len" (T.at_ 21 rfl)) bt_len (a_cons (x_var (pv 3)) a_nil)) a_nil)))) (x_callO o_law_pick TB gd hr (by decide) tk rfl (a_cons (x_var (pv 0)) (a_cons (x_lst (a_cons x_int (a_cons (x_neg x_int) a_nil))) a_nil))))))
  ss_nil))
  (ss_cons (s_ret (x_callTy call_tuple_of fTuple_s rfl (T.fr "tuple" (T.at_ 29 rfl)) bt_tuple (a_cons (x_var (pv 4)) a_nil)))
  ss_nil)))
theorem sc_law_near : FnScope n_law_near ["_law_jug_here", "_law_text"] (defScope s_law_near) := ⟨rfl, rfl, rfl, by decide +kernel, rfl, by decide +kernel, by decide +kernel⟩
theorem o_law_near (T : Tx exs fn ts w K mg) (TC : Cls cl K) (HP : PK P "/claim/cut.py") (o_law_pick : Ok (tf.map (·.1)) P w K mg "_law_pick" 3 f_law_pick) (o_law_pour : Ok (tf.map (·.1)) P w K mg "_law_pour" 2 f_law_pour) : Ok (tf.map (·.1)) P w K mg "_law_near" 4 f_law_near := by
  obtain ⟨fd, F⟩ := T.fd 12 d_law_near rfl
  refine ⟨T.gl "_law_near" (T.at_ 9 rfl), F.kp, fun base TB => fn_ok F sc_law_near rfl (F.bindsA fun _ _ _ _ _ _ us hl => match us, hl with | [_, _], _ => rfl) fun cd A out s H E hr gd => ?_⟩
  have hu := units64 hr
  have hu5 := units65 hr
  have hu3 := units50 hr
  have tk : Takes (cxOf (L2.CX P w) P w K mg base n_law_near "_law_near" (defScope s_law_near) (ga K "_law_near") cd A out s H E) (WF E) := takes_of rfl rfl rfl rfl
  exact (ss_cons (s_par (i := 4) (j := 5) rfl sc_law_near.nd rfl rfl (by decide) rfl rfl (a_cons (x_callO o_law_pour TB gd hr (by decide) tk rfl (a_cons (x_var (pv 0)) (a_cons (x_add (x_callB call_len fLen_s rfl (T.fr "len" (T.at_ 21 rfl)) bt_len (a_cons (x_var (pv 1)) a_nil)) x_int) a_nil))) (a_cons (x_callO o_law_pour TB gd hr (by decide) tk rfl (a_cons (x_var (pv 0)) (a_cons x_int a_nil))) a_nil)) (by rfl))
  (ss_cons (s_set (i := 2) sc_law_near.nd rfl (by first | exact Or.inl rfl | exact Or.inr rfl) (x_callO o_law_pick TB gd hr (by decide) tk rfl (a_cons (x_var (pv 0)) (a_cons (x_lst (a_cons x_str (a_cons x_str (a_cons x_str (a_cons x_str (a_cons x_str (a_cons x_str (a_cons x_str (a_cons x_str (a_cons x_str (a_cons x_str (a_cons x_str (a_cons x_str (a_cons x_str (a_cons x_str (a_cons x_str a_nil)))))))))))))))) a_nil))))
  (ss_cons (s_if (t_cmp (f := oLt) op_lt oB0_s (x_var (pv 5)) x_int (nomark _))
  (ss_cons (s_ret (x_add (x_add (x_sl (x_var (pv 1)) o_none (o_some (x_var (pv 4)))) (x_var (pv 2))) (x_sl (x_var (pv 1)) (o_some (x_var (pv 4))) o_none)))
  ss_nil)
  ss_nil)
  (ss_cons (s_if (t_cmp (f := oEq) (op_eq1 hu) oEq_s (x_var (pv 5)) x_int (nomark _))
  (ss_cons (s_ret (x_add (x_sl (x_var (pv 1)) o_none (o_some (x_var (pv 4)))) (x_sl (x_var (pv 1)) (o_some (x_add (x_var (pv 4)) x_int)) o_none)))
  ss_nil)
  ss_nil)
  (ss_cons (s_if (t_cmp (f := oEq) (op_eq1 hu) oEq_s (x_var (pv 5)) x_int (nomark _))
  (ss_cons (s_ret (x_add (x_add (x_sl (x_var (pv 1)) o_none (o_some (x_var (pv 4)))) (x_var (pv 2))) (x_sl (x_var (pv 1)) (o_some (x_add (x_var (pv 4)) x_int)) o_none)))
  ss_nil)
  ss_nil)
  (ss_cons (s_if (t_cmp (f := oEq) (op_eq1 hu) oEq_s (x_var (pv 5)) x_int (nomark _))
  (ss_cons (s_ret (x_add (x_add (x_callO o_law_pick TB gd hr (by decide) tk rfl (a_cons (x_var (pv 0)) (a_cons (x_lst (a_cons x_str (a_cons x_str a_nil))) a_nil))) (x_var (pv 1))) (x_callO o_law_pick TB gd hr (by decide) tk rfl (a_cons (x_var (pv 0)) (a_cons (x_lst (a_cons x_str (a_cons x_str (a_cons x_str a_nil)))) a_nil)))))
  ss_nil)
  ss_nil)
  (ss_cons (s_set (i := 3) sc_law_near.nd rfl (by first | exact Or.inl rfl | exact Or.inr rfl) (x_lst (a_cons x_non (a_cons x_int (a_cons (x_tup (a_cons x_int a_nil)) (a_cons (x_lst (a_cons (x_var (pv 1)) a_nil)) (a_cons x_str (a_cons x_str (a_cons x_str (a_cons x_str (a_cons x_str (a_cons x_str (a_cons x_str (a_cons x_str (a_cons x_str (a_cons x_str (a_cons x_str (a_cons x_str a_nil))))))))))))))))))
  (ss_cons (s_ret (x_callO o_law_pick TB gd hr (by decide) tk rfl (a_cons (x_var (pv 0)) (a_cons (x_var (pv 3)) a_nil))))
  ss_nil))))))))
theorem sc_law_mark : FnScope n_law_mark ["_law_text"] (defScope s_law_mark) := ⟨rfl, rfl, rfl, by decide +kernel, rfl, by decide +kernel, by decide +kernel⟩
theorem o_law_mark (T : Tx exs fn ts w K mg) (TC : Cls cl K) (HP : PK P "/claim/cut.py")  : Ok (tf.map (·.1)) P w K mg "_law_mark" 2 f_law_mark := by
  obtain ⟨fd, F⟩ := T.fd 13 d_law_mark rfl
  refine ⟨T.gl "_law_mark" (T.at_ 10 rfl), F.kp, fun base TB => fn_ok F sc_law_mark rfl (F.bindsA fun _ _ _ _ _ _ us hl => match us, hl with | [_], _ => rfl) fun cd A out s H E hr gd => ?_⟩
  have hu := units64 hr
  have hu5 := units65 hr
  have hu3 := units50 hr
  have tk : Takes (cxOf (L2.CX P w) P w K mg base n_law_mark "_law_mark" (defScope s_law_mark) (ga K "_law_mark") cd A out s H E) (WF E) := takes_of rfl rfl rfl rfl
  exact (ss_cons (s_set (i := 1) sc_law_mark.nd rfl (by first | exact Or.inl rfl | exact Or.inr rfl) (x_if (t_cmp (f := oEq) (op_eq1 hu) oEq_s (x_sl (x_var (pv 0)) o_none (o_some x_int)) x_str (nomark _)) (x_sl (x_var (pv 0)) (o_some x_int) o_none) (x_var (pv 0))))
  (ss_cons (s_if (PW.pt (w_or (t_cmp (f := oEq) (op_eq1 hu) oEq_s (x_var (pv 1)) x_str (nomark _)) (w_or (t_cmp (f := oEq) (op_eq1 hu) oEq_s (x_ix (x_var (pv 1)) x_int) x_str (nomark _)) (w_or1 (t_cmp (f := oGt) op_gt oB0_s (x_callB call_len fLen_s rfl (T.fr "len" (T.at_ 21 rfl)) bt_len (a_cons (x_var (pv 1)) a_nil)) x_int (nomark _))))))
  (ss_cons (s_ret x_non)
  ss_nil)
  ss_nil)
  (ss_cons (s_if (t_cmp (f := oNe) (op_ne1 hu) oNe_s (x_lc (own := [("_law_sign", 2)]) rfl sc_law_mark.nd (i_str (x_var (pv 1))) (blkOk_by (by kernel_rfl)) (ct_name (i := 2) (by decide)) (fun _ _ _ _ _ => (pg_name (i := 2) sc_law_mark.nd rfl (by first | exact Or.inl rfl | exact Or.inr rfl))) (fun _ _ _ _ _ => (ts_one (t_cmp (f := (oIn true)) (op_nin1 hu5) oIn_s (x_var (pv 2)) x_str (by with_unfolding_all rfl)))) (fun _ _ _ _ _ => (x_var (pv 2)))) (x_lst a_nil) (nomark _))
  (ss_cons (s_ret x_non)
  ss_nil)
  ss_nil)
  (ss_cons (s_ret (x_callTy call_intT fIntT_s rfl (T.fr "int" (T.at_ 19 rfl)) bt_int (a_cons (x_var (pv 0)) a_nil)))
  ss_nil))))
theorem sc_law_told : FnScope n_law_told ["_law_text"] (defScope s_law_told) := ⟨rfl, rfl, rfl, by decide +kernel, rfl, by decide +kernel, by decide +kernel⟩
theorem o_law_told (T : Tx exs fn ts w K mg) (TC : Cls cl K) (HP : PK P "/claim/cut.py") (o_law_mark : Ok (tf.map (·.1)) P w K mg "_law_mark" 2 f_law_mark) : Ok (tf.map (·.1)) P w K mg "_law_told" 3 f_law_told := by
  obtain ⟨fd, F⟩ := T.fd 14 d_law_told rfl
  refine ⟨T.gl "_law_told" (T.at_ 11 rfl), F.kp, fun base TB => fn_ok F sc_law_told rfl (F.bindsA fun _ _ _ _ _ _ us hl => match us, hl with | [_], _ => rfl) fun cd A out s H E hr gd => ?_⟩
  have hu := units64 hr
  have hu5 := units65 hr
  have hu3 := units50 hr
  have tk : Takes (cxOf (L2.CX P w) P w K mg base n_law_told "_law_told" (defScope s_law_told) (ga K "_law_told") cd A out s H E) (WF E) := takes_of rfl rfl rfl rfl
  exact (ss_cons (s_if (t_not (t_tru (x_isi .str (isF_of (T.at_ 39 rfl)) rfl (T.fr "isinstance" (T.at_ 20 rfl)) rfl (T.fr "str" (T.at_ 28 rfl)) bt_str (x_var (pv 0)))))
  (ss_cons (s_ret x_non)
  ss_nil)
  ss_nil)
  (ss_cons (s_setLc (i := 1) (own := [("_law_word", 2)]) rfl sc_law_told.nd rfl rfl (sw_true rfl rfl rfl (by kernel_rfl)) (i_seq (x_splitS (x_var (pv 0)) x_str)) (blkOk_by (by kernel_rfl)) (ct_name (i := 2) (by decide)) (fun _ _ _ _ _ => (pg_name (i := 2) sc_law_told.nd rfl (by first | exact Or.inl rfl | exact Or.inr rfl))) (fun _ _ _ _ _ => ts_nil) (fun _ _ _ _ _ => (x_callO o_law_mark TB gd hr (by decide) takes0 rfl (a_cons (x_var (pv 2)) a_nil))))
  (ss_cons (s_if (PW.pt (w_or (t_cmp (f := oNe) (op_ne1 hu) oNe_s (x_lc (own := [("_law_mark_here", 3)]) rfl sc_law_told.nd (i_seq (x_var (pv 1))) (blkOk_by (by kernel_rfl)) (ct_name (i := 3) (by decide)) (fun _ _ _ _ _ => (pg_name (i := 3) sc_law_told.nd rfl (by first | exact Or.inl rfl | exact Or.inr rfl))) (fun _ _ _ _ _ => (ts_one (t_cmp (f := (oIs false)) op_isN oIs_s (x_var (pv 3)) x_non (nomark _)))) (fun _ _ _ _ _ => (x_var (pv 3)))) (x_lst a_nil) (nomark _)) (w_or1 (t_cmp (f := oGt) op_gt oB0_s (x_callB call_len fLen_s rfl (T.fr "len" (T.at_ 21 rfl)) bt_len (a_cons (x_var (pv 1)) a_nil)) x_int (nomark _)))))
  (ss_cons (s_ret x_non)
  ss_nil)
  ss_nil)
  (ss_cons (s_ret (x_if (t_cmp (f := oEq) (op_eq1 hu) oEq_s (x_callB (callR_or cr_sortedI cr_srtT) fSrt_s rfl (T.fr "sorted" (T.at_ 27 rfl)) bt_sorted (a_cons (x_lc (own := [("_law_mark_here", 3)]) rfl sc_law_told.nd (i_seq (x_var (pv 1))) (blkOk_by (by kernel_rfl)) (ct_name (i := 3) (by decide)) (fun _ _ _ _ _ => (pg_name (i := 3) sc_law_told.nd rfl (by first | exact Or.inl rfl | exact Or.inr rfl))) (fun _ _ _ _ _ => ts_nil) (fun _ _ _ _ _ => (x_callB call_abs fAbs_s rfl (T.fr "abs" (T.at_ 16 rfl)) bt_abs (a_cons (x_var (pv 3)) a_nil)))) a_nil)) (x_listRg2 rfl rfl (T.fr "list" (T.at_ 22 rfl)) rfl (T.fr "range" (T.at_ 25 rfl)) x_int (x_add (x_callB call_len fLen_s rfl (T.fr "len" (T.at_ 21 rfl)) bt_len (a_cons (x_var (pv 1)) a_nil)) x_int)) (nomark _)) (x_callTy call_tuple_of fTuple_s rfl (T.fr "tuple" (T.at_ 29 rfl)) bt_tuple (a_cons (x_var (pv 1)) a_nil)) x_non))
  ss_nil))))
theorem sc_SignTable___eq__ : FnScope n_SignTable___eq__ ["self", "other"] (defScope s_SignTable___eq__) := ⟨rfl, rfl, rfl, by decide +kernel, rfl, by decide +kernel, by decide +kernel⟩
theorem o_SignTable___eq__ (T : Tx exs fn ts w K mg) (TC : Cls cl K) (HP : PK P "/claim/cut.py")  : OkA (tf.map (·.1)) P w K mg (He.ma K (ga K "SignTable") "__eq__") 2 f_SignTable___eq__ := by
  obtain ⟨fd, F⟩ := T.fd 15 d_SignTable___eq__ rfl
  refine ⟨F.kp, fun base TB => fn_ok F sc_SignTable___eq__ rfl (F.bindsA fun _ _ _ _ _ _ us hl => match us, hl with | [_, _], _ => rfl) fun cd A out s H E hr gd => ?_⟩
  have hu := units64 hr
  have hu5 := units65 hr
  have hu3 := units50 hr
  have tk : Takes (cxOf (L2.CX P w) P w K mg base n_SignTable___eq__ "SignTable.__eq__" (defScope s_SignTable___eq__) (He.ma K (ga K "SignTable") "__eq__") cd A out s H E) (WF E) := takes_of rfl rfl rfl rfl
  exact (ss_cons (s_ret (x_and (x_isiC (c := "SignTable") (isF_of (T.at_ 39 rfl)) rfl (T.fr "isinstance" (T.at_ 20 rfl)) rfl (T.gl "SignTable" (T.at_ 15 rfl)) (x_var (pv 1))) (x_one (x_eq hu (x_attr (k := 0) (slF_of (T.at_ 38 rfl)) prF_nil TB gd hr (by decide) (x_var (pv 0))) (x_attr (k := 0) (slF_of (T.at_ 38 rfl)) prF_nil TB gd hr (by decide) (x_var (pv 1)))))))
  ss_nil)
theorem sc_SignTable___str__ : FnScope n_SignTable___str__ ["self"] (defScope s_SignTable___str__) := ⟨rfl, rfl, rfl, by decide +kernel, rfl, by decide +kernel, by decide +kernel⟩
theorem o_SignTable___str__ (T : Tx exs fn ts w K mg) (TC : Cls cl K) (HP : PK P "/claim/cut.py")  : OkA (tf.map (·.1)) P w K mg (He.ma K (ga K "SignTable") "__str__") 2 f_SignTable___str__ := by
  obtain ⟨fd, F⟩ := T.fd 16 d_SignTable___str__ rfl
  refine ⟨F.kp, fun base TB => fn_ok F sc_SignTable___str__ rfl (F.bindsA fun _ _ _ _ _ _ us hl => match us, hl with | [_], _ => rfl) fun cd A out s H E hr gd => ?_⟩
  have hu := units64 hr
  have hu5 := units65 hr
  have hu3 := units50 hr
  have tk : Takes (cxOf (L2.CX P w) P w K mg base n_SignTable___str__ "SignTable.__str__" (defScope s_SignTable___str__) (He.ma K (ga K "SignTable") "__str__") cd A out s H E) (WF E) := takes_of rfl rfl rfl rfl
  exact (ss_cons (s_ret (x_joinS x_str (x_lc (own := [("mark", 1)]) rfl sc_SignTable___str__.nd (i_seq (x_attr (k := 0) (slF_of (T.at_ 38 rfl)) prF_nil TB gd hr (by decide) (x_var (pv 0)))) (blkOk_by (by kernel_rfl)) (ct_name (i := 1) (by decide)) (fun _ _ _ _ _ => (pg_name (i := 1) sc_SignTable___str__.nd rfl (by first | exact Or.inl rfl | exact Or.inr rfl))) (fun _ _ _ _ _ => ts_nil) (fun _ _ _ _ _ => (x_callTy (call_str gd hu3) fStr_s rfl (T.fr "str" (T.at_ 28 rfl)) (by kernel_rfl) (a_cons (x_var (pv 1)) a_nil))))))
  ss_nil)
theorem sc_law_right : FnScope n_law_right ["_law_jug_here"] (defScope s_law_right) := ⟨rfl, rfl, rfl, by decide +kernel, rfl, by decide +kernel, by decide +kernel⟩
theorem o_law_right (T : Tx exs fn ts w K mg) (TC : Cls cl K) (HP : PK P "/claim/cut.py") (hs : OkA (tf.map (·.1)) P w K mg (He.ma K (ga K "SignTable") "__eq__") 2 f_SignTable___eq__ ∧ OkA (tf.map (·.1)) P w K mg (He.ma K (ga K "SignTable") "__init__") 5 f_SignTable___init__ ∧ OkA (tf.map (·.1)) P w K mg (He.ma K (ga K "SignTable") "__str__") 2 f_SignTable___str__ ∧ OkA (tf.map (·.1)) P w K mg (cmA K "SignTable" "read") 7 f_SignTable_read ∧ Ok (tf.map (·.1)) P w K mg "_law_marks" 4 f_law_marks ∧ Ok (tf.map (·.1)) P w K mg "_law_near" 4 f_law_near ∧ Ok (tf.map (·.1)) P w K mg "_law_pick" 3 f_law_pick ∧ Ok (tf.map (·.1)) P w K mg "_law_read" 9 f_law_read ∧ Ok (tf.map (·.1)) P w K mg "_law_told" 3 f_law_told) : Ok (tf.map (·.1)) P w K mg "_law_right" 11 f_law_right := by
  obtain ⟨o_SignTable___eq__, o_SignTable___init__, o_SignTable___str__, o_SignTable_read, o_law_marks, o_law_near, o_law_pick, o_law_read, o_law_told⟩ := hs
  obtain ⟨fd, F⟩ := T.fd 17 d_law_right rfl
  refine ⟨T.gl "_law_right" (T.at_ 12 rfl), F.kp, fun base TB => fn_ok F sc_law_right rfl (F.bindsA fun _ _ _ _ _ _ us hl => match us, hl with | [_], _ => rfl) fun cd A out s H E hr gd => ?_⟩
  have hu := units64 hr
  have hu5 := units65 hr
  have hu3 := units50 hr
  have tk : Takes (cxOf (L2.CX P w) P w K mg base n_law_right "_law_right" (defScope s_law_right) (ga K "_law_right") cd A out s H E) (WF E) := takes_of rfl rfl rfl rfl
  exact (ss_cons (s_set (i := 1) sc_law_right.nd rfl (by first | exact Or.inl rfl | exact Or.inr rfl) (x_callO o_law_marks TB gd hr (by decide) tk rfl (a_cons (x_var (pv 0)) (a_cons (x_callO o_law_pick TB gd hr (by decide) tk rfl (a_cons (x_var (pv 0)) (a_cons (x_lst (a_cons x_int (a_cons x_int (a_cons x_int (a_cons x_int (a_cons x_int (a_cons x_int (a_cons x_int (a_cons x_int a_nil))))))))) a_nil))) a_nil))))
  (ss_cons (s_par (i := 4) (j := 5) rfl sc_law_right.nd rfl rfl (by decide) rfl rfl (a_cons (x_make (He.mkr_ok (T.at_ 41 rfl)) o_SignTable___init__ TB gd hr (by decide) tk rfl (T.gl "SignTable" (T.at_ 15 rfl)) (a_cons (x_var (pv 1)) a_nil)) (a_cons x_str a_nil)) (by rfl))
  (ss_cons (s_for (passes_of rfl) rfl (i_seq (x_var (pv 1))) (g_name (i := 2) sc_law_right.nd rfl (by first | exact Or.inl rfl | exact Or.inr rfl))
  (ss_cons (s_set (i := 5) sc_law_right.nd rfl (by first | exact Or.inl rfl | exact Or.inr rfl) (x_add (x_add (x_var (pv 5)) (x_if (t_cmp (f := (oNeO [("SignTable", f_SignTable___eq__)] own oNe)) (opR_or (op_neO (k := 2) (own := own) (neF_cons (T.at_ 47 rfl) o_SignTable___eq__ (by decide) neF_nil) TB gd hr (by decide)) (op_ne1 hu)) (oNeO_s oNe_s) (x_var (pv 5)) x_str (nomark _)) x_str x_str)) (x_callTy (cr_strO (k := 2) (srF_cons (T.at_ 48 rfl) o_SignTable___str__ (by decide) srF_nil) TB gd hu3 hr (by decide)) fStrO_s rfl (T.fr "str" (T.at_ 28 rfl)) (by kernel_rfl) (a_cons (x_var (pv 2)) a_nil))))
  ss_nil))
  (ss_cons (s_if (PW.pt (w_or (t_cmp (f := (oNeO [("SignTable", f_SignTable___eq__)] own oNe)) (opR_or (op_neO (k := 2) (own := own) (neF_cons (T.at_ 47 rfl) o_SignTable___eq__ (by decide) neF_nil) TB gd hr (by decide)) (op_ne1 hu)) (oNeO_s oNe_s) (x_callTy (cr_strO (k := 2) (srF_cons (T.at_ 48 rfl) o_SignTable___str__ (by decide) srF_nil) TB gd hu3 hr (by decide)) fStrO_s rfl (T.fr "str" (T.at_ 28 rfl)) (by kernel_rfl) (a_cons (x_var (pv 4)) a_nil)) (x_var (pv 5)) (nomark _)) (w_or (t_cmp (f := (oNeO [("SignTable", f_SignTable___eq__)] own oNe)) (opR_or (op_neO (k := 2) (own := own) (neF_cons (T.at_ 47 rfl) o_SignTable___eq__ (by decide) neF_nil) TB gd hr (by decide)) (op_ne1 hu)) (oNeO_s oNe_s) (x_clsM (T.at_ 44 rfl) o_SignTable_read TB gd hr (by decide) tk rfl (T.gl "SignTable" (T.at_ 15 rfl)) (a_cons (x_var (pv 5)) a_nil)) (x_var (pv 4)) (nomark _)) (w_or1 (t_cmp (f := (oNeO [("SignTable", f_SignTable___eq__)] own oNe)) (opR_or (op_neO (k := 2) (own := own) (neF_cons (T.at_ 47 rfl) o_SignTable___eq__ (by decide) neF_nil) TB gd hr (by decide)) (op_ne1 hu)) (oNeO_s oNe_s) (x_callO o_law_told TB gd hr (by decide) tk rfl (a_cons (x_var (pv 5)) a_nil)) (x_var (pv 1)) (nomark _))))))
  (ss_cons (s_ret x_bl)
  ss_nil)
  ss_nil)
  (ss_cons (s_for (passes_of rfl) rfl (i_range1 rfl (T.fr "range" (T.at_ 25 rfl)) (a_cons x_int a_nil)) (g_name (i := 3) sc_law_right.nd rfl (by first | exact Or.inl rfl | exact Or.inr rfl))
  (ss_cons (s_set (i := 6) sc_law_right.nd rfl (by first | exact Or.inl rfl | exact Or.inr rfl) (x_callO o_law_near TB gd hr (by decide) tk rfl (a_cons (x_var (pv 0)) (a_cons (x_var (pv 5)) a_nil))))
  (ss_cons (s_set (i := 7) sc_law_right.nd rfl (by first | exact Or.inl rfl | exact Or.inr rfl) (x_callO o_law_told TB gd hr (by decide) tk rfl (a_cons (x_var (pv 6)) a_nil)))
  (ss_cons (s_if (t_cmp (f := (oNeO [("SignTable", f_SignTable___eq__)] own oNe)) (opR_or (op_neO (k := 2) (own := own) (neF_cons (T.at_ 47 rfl) o_SignTable___eq__ (by decide) neF_nil) TB gd hr (by decide)) (op_ne1 hu)) (oNeO_s oNe_s) (x_callO o_law_read TB gd hr (by decide) tk rfl (a_cons (x_var (pv 6)) a_nil)) (x_if (t_cmp (f := (oIs true)) op_notN oIsn_s (x_var (pv 7)) x_non (nomark _)) (x_var (pv 7)) x_str) (nomark _))
  (ss_cons (s_ret x_bl)
  ss_nil)
  ss_nil)
  ss_nil))))
  (ss_cons (s_ret x_bl)
  ss_nil))))))
theorem sc_law_jug : FnScope n_law_jug ["_law_script", "_law_at"] (defScope s_law_jug) := ⟨rfl, rfl, rfl, by decide +kernel, rfl, by decide +kernel, by decide +kernel⟩
theorem o_law_jug (T : Tx exs fn ts w K mg) (TC : Cls cl K) (HP : PK P "/claim/cut.py")  : Ok (tf.map (·.1)) P w K mg "_law_jug" 2 f_law_jug := by
  obtain ⟨fd, F⟩ := T.fd 18 d_law_jug rfl
  refine ⟨T.gl "_law_jug" (T.at_ 13 rfl), F.kp, fun base TB => fn_okK F sc_law_jug rfl (F.bindsA fun _ _ _ _ _ _ us hl => match us, hl with | [_, _], _ => rfl) fun cd A out s H E hr gd => ?_⟩
  have hu := units64 hr
  have hu5 := units65 hr
  have hu3 := units50 hr
  have tk : Takes (cxOf (L2.CX P w) P w K mg base n_law_jug "_law_jug" (defScope s_law_jug) (ga K "_law_jug") cd A out s H E) (WF E) := takes_of rfl rfl rfl rfl
  exact (ss_cons (s_set (i := 2) sc_law_jug.nd rfl (by first | exact Or.inl rfl | exact Or.inr rfl) (x_if (t_cmp (f := oLt) op_lt oB0_s (x_var (pv 1)) (x_callB call_len fLen_s rfl (T.fr "len" (T.at_ 21 rfl)) bt_len (a_cons (x_var (pv 0)) a_nil)) (nomark _)) (x_callTy call_int1 fInt_s rfl (T.fr "int" (T.at_ 19 rfl)) bt_int (a_cons (x_ix (x_var (pv 0)) (x_var (pv 1))) a_nil)) (x_add (x_mul x_int (x_var (pv 1))) x_int)))
  (ss_cons (s_set (i := 3) sc_law_jug.nd rfl (by first | exact Or.inl rfl | exact Or.inr rfl) (x_mod (x_callTy call_int1 fInt_s rfl (T.fr "int" (T.at_ 19 rfl)) bt_int (a_cons (x_callB call_abs fAbs_s rfl (T.fr "abs" (T.at_ 16 rfl)) bt_abs (a_cons (x_var (pv 2)) a_nil)) a_nil)) (x_pow (x_pow x_int x_int) x_int)))
  (ss_cons (s_ret (x_lstM (a_cons (x_callB (call_max2 rfl) fInt2_s rfl (T.fr "max" (T.at_ 23 rfl)) bt_max (a_cons x_int (a_cons (x_sub (x_var (pv 3)) (x_pow x_int x_int)) a_nil))) (a_cons (x_add (x_add (x_add (x_mul (x_mod (x_var (pv 3)) x_int) x_int) (x_mul x_int (x_var (pv 1)))) (x_mul x_int (x_callTy call_int1 fInt_s rfl (T.fr "int" (T.at_ 19 rfl)) bt_int (a_cons (x_lt (x_var (pv 2)) x_int) a_nil)))) x_int) (a_cons x_int a_nil)))))
  ss_nil)))
theorem sc_law : FnScope n_law ["_law_script"] (defScope s_law) := ⟨rfl, rfl, rfl, by decide +kernel, rfl, by decide +kernel, by decide +kernel⟩
theorem o_law (T : Tx exs fn ts w K mg) (TC : Cls cl K) (HP : PK P "/claim/cut.py") (o_law_jug : Ok (tf.map (·.1)) P w K mg "_law_jug" 2 f_law_jug) (o_law_read : Ok (tf.map (·.1)) P w K mg "_law_read" 9 f_law_read) (o_law_right : Ok (tf.map (·.1)) P w K mg "_law_right" 11 f_law_right) : Ok (tf.map (·.1)) P w K mg "law" 12 f_law := by
  obtain ⟨fd, F⟩ := T.fd 19 d_law rfl
  refine ⟨T.gl "law" (T.at_ 14 rfl), F.kp, fun base TB => fn_ok F sc_law rfl (F.bindsA fun _ _ _ _ _ _ us hl => match us, hl with | [_], _ => rfl) fun cd A out s H E hr gd => ?_⟩
  have hu := units64 hr
  have hu5 := units65 hr
  have hu3 := units50 hr
  have tk : Takes (cxOf (L2.CX P w) P w K mg base n_law "law" (defScope s_law) (ga K "law") cd A out s H E) (WF E) := takes_of rfl rfl rfl rfl
  exact (ss_cons (s_for (passes_of rfl) rfl (i_range1 rfl (T.fr "range" (T.at_ 25 rfl)) (a_cons (x_callB (call_max2 rfl) fInt2_s rfl (T.fr "max" (T.at_ 23 rfl)) bt_max (a_cons x_int (a_cons (x_callB (call_min2 rfl) fInt2_s rfl (T.fr "min" (T.at_ 24 rfl)) bt_min (a_cons x_int (a_cons (x_callB call_len fLen_s rfl (T.fr "len" (T.at_ 21 rfl)) bt_len (a_cons (x_var (pv 0)) a_nil)) a_nil))) a_nil))) a_nil)) (g_name (i := 1) sc_law.nd rfl (by first | exact Or.inl rfl | exact Or.inr rfl))
  (ss_cons (s_if (t_not (t_tru (x_callO o_law_right TB gd hr (by decide) tk rfl (a_cons (x_callO o_law_jug TB gd hr (by decide) tk rfl (a_cons (x_var (pv 0)) (a_cons (x_var (pv 1)) a_nil))) a_nil))))
  (ss_cons (s_ret x_bl)
  ss_nil)
  ss_nil)
  ss_nil))
  (ss_cons (s_set (i := 2) sc_law.nd rfl (by first | exact Or.inl rfl | exact Or.inr rfl) (x_joinS x_str (x_lc (own := [("_law_one", 4)]) rfl sc_law.nd (i_range2 rfl (T.fr "range" (T.at_ 25 rfl)) (a_cons x_int (a_cons x_int a_nil))) (blkOk_by (by kernel_rfl)) (ct_name (i := 4) (by decide)) (fun _ _ _ _ _ => (pg_name (i := 4) sc_law.nd rfl (by first | exact Or.inl rfl | exact Or.inr rfl))) (fun _ _ _ _ _ => ts_nil) (fun _ _ _ _ _ => (x_callTy (call_str gd hu3) fStr_s rfl (T.fr "str" (T.at_ 28 rfl)) (by kernel_rfl) (a_cons (x_var (pv 4)) a_nil))))))
  (ss_cons (s_set (i := 3) sc_law.nd rfl (by first | exact Or.inl rfl | exact Or.inr rfl) (x_lst (a_cons (x_callO o_law_read TB gd hr (by decide) tk rfl (a_cons x_str a_nil)) (a_cons (x_callO o_law_read TB gd hr (by decide) tk rfl (a_cons x_str a_nil)) (a_cons (x_callO o_law_read TB gd hr (by decide) tk rfl (a_cons x_str a_nil)) (a_cons (x_callO o_law_read TB gd hr (by decide) tk rfl (a_cons x_str a_nil)) (a_cons (x_callO o_law_read TB gd hr (by decide) tk rfl (a_cons (x_var (pv 2)) a_nil)) (a_cons (x_callO o_law_read TB gd hr (by decide) tk rfl (a_cons x_str a_nil)) a_nil))))))))
  (ss_cons (s_ret (x_eq hu (x_var (pv 3)) (x_lst (a_cons (x_tup (a_cons x_int (a_cons (x_neg x_int) a_nil))) (a_cons (x_tup (a_cons (x_neg x_int) a_nil)) (a_cons x_str (a_cons x_str (a_cons x_str (a_cons x_str a_nil)))))))))
  ss_nil))))
theorem all (T : Tx exs fn ts w K mg) (TC : Cls cl K) (HP : PK P "/claim/cut.py") : Ok (tf.map (·.1)) P w K mg "law" 12 f_law := by
  have q_SignTable_marks := o_SignTable_marks (P := P) (w := w) T TC HP 
  have q_is_told := o_is_told (P := P) (w := w) T TC HP 
  have q_marks_in := o_marks_in (P := P) (w := w) T TC HP q_is_told
  have q_is_whole := o_is_whole (P := P) (w := w) T TC HP 
  have q_is_integer := o_is_integer (P := P) (w := w) T TC HP q_is_whole
  have q_are_marks := o_are_marks (P := P) (w := w) T TC HP q_is_integer
  have q_SignTable___init__ := o_SignTable___init__ (P := P) (w := w) T TC HP q_are_marks
  have q_SignTable_read := o_SignTable_read (P := P) (w := w) T TC HP q_SignTable___init__ q_are_marks q_marks_in
  have q_law_read := o_law_read (P := P) (w := w) T TC HP q_SignTable_marks q_SignTable_read
  have q_law_pour := o_law_pour (P := P) (w := w) T TC HP 
  have q_law_pick := o_law_pick (P := P) (w := w) T TC HP q_law_pour
  have q_law_marks := o_law_marks (P := P) (w := w) T TC HP q_law_pick q_law_pour
  have q_law_near := o_law_near (P := P) (w := w) T TC HP q_law_pick q_law_pour
  have q_law_mark := o_law_mark (P := P) (w := w) T TC HP 
  have q_law_told := o_law_told (P := P) (w := w) T TC HP q_law_mark
  have q_SignTable___eq__ := o_SignTable___eq__ (P := P) (w := w) T TC HP 
  have q_SignTable___str__ := o_SignTable___str__ (P := P) (w := w) T TC HP 
  have q_law_right := o_law_right (P := P) (w := w) T TC HP ⟨q_SignTable___eq__, q_SignTable___init__, q_SignTable___str__, q_SignTable_read, q_law_marks, q_law_near, q_law_pick, q_law_read, q_law_told⟩
  have q_law_jug := o_law_jug (P := P) (w := w) T TC HP 
  have q_law := o_law (P := P) (w := w) T TC HP q_law_jug q_law_read q_law_right
  exact q_law
end
theorem tabs {w : World} {K : PySem.W.Frag} {mg : Str → Option Value} (T : Tx exs fn ts w K mg) : (tf.map fun p => (He.cT K p.1).2).Nodup := by
  exact List.nodup_nil
end LW
namespace LW
open PySem PySem.Spec L2 AW
def act (b : List Int) (i : Int) : Int := if 0 < i then b.getD (i.natAbs - 1) 0 else -(b.getD (i.natAbs - 1) 0)
def Pm (a b : List Int) : List Int := a.map (act b)
def Im (n : Nat) : List Int := (List.range' 1 n).map fun k : Nat => (k : Int)
def Vd (n : Nat) (a : List Int) : Prop := (a.map Int.natAbs).Perm (List.range' 1 n)
theorem Vd.len {n : Nat} {a : List Int} (h : Vd n a) : a.length = n := by
  have := h.length_eq
  rw [List.length_map, List.length_range'] at this
  exact this
theorem Vd.mem {n : Nat} {a : List Int} (h : Vd n a) {x : Int} (hx : x ∈ a) : 1 ≤ x.natAbs ∧ x.natAbs ≤ n := by
  have := h.subset (List.mem_map_of_mem hx)
  rw [List.mem_range'_1] at this
  omega
theorem getD_lt {b : List Int} {k : Nat} (h : k < b.length) : b.getD k 0 = b[k] := by
  rw [List.getD_eq_getElem?_getD, List.getElem?_eq_getElem h]
  rfl
theorem act_abs (b : List Int) (i : Int) : (act b i).natAbs = (b.getD (i.natAbs - 1) 0).natAbs := by
  unfold act
  split
  · rfl
  · rw [Int.natAbs_neg]
theorem vd_P {n : Nat} {a b : List Int} (ha : Vd n a) (hb : Vd n b) : Vd n (Pm a b) := by
  unfold Vd Pm
  have e1 : (a.map (act b)).map Int.natAbs = (a.map Int.natAbs).map fun k => (b.getD (k - 1) 0).natAbs := by
    rw [List.map_map, List.map_map]
    exact List.map_congr_left fun x _ => act_abs b x
  have e2 : ((List.range' 1 n).map fun k => (b.getD (k - 1) 0).natAbs) = b.map Int.natAbs := by
    apply List.ext_getElem
    · rw [List.length_map, List.length_map, List.length_range', hb.len]
    · intro k h1 h2
      rw [List.length_map] at h2
      rw [List.getElem_map, List.getElem_map, List.getElem_range', getD_lt (by omega)]
      congr 2
      omega
  rw [e1]
  refine (ha.map _).trans ?_
  rw [e2]
  exact hb
theorem vd_I (n : Nat) : Vd n (Im n) := by
  unfold Vd Im
  rw [List.map_map]
  have e : (Int.natAbs ∘ fun k : Nat => (k : Int)) = id := by
    funext k
    exact Int.natAbs_natCast k
  rw [e, List.map_id]
end LW
namespace LW
open PySem PySem.Spec L2 AW
def mD (xs : List Int) : D := .tup (xs.map D.int)
def sT (xs : List Int) : D := .ins "SignTable" [mD xs]
section
variable {g : G}
theorem pys_ints : ∀ L : List Int, D.pys (L.map D.int) = some (L.map PyData.int)
  | [] => rfl
  | n :: L => by
    rw [List.map_cons, List.map_cons, D.pys, D.py, pys_ints L]
theorem canLay_ints : ∀ L : List Int, PyData.canLayAll0 (L.map PyData.int) = true
  | [] => by rw [List.map_nil, PyData.canLayAll0.eq_1]
  | n :: L => by rw [List.map_cons, PyData.canLayAll0.eq_2, canLay_ints L, PyData.canLay0.eq_3]; rfl
theorem depth_ints : ∀ L : List Int, PyData.depthAll (L.map PyData.int) = 0
  | [] => by rw [List.map_nil, PyData.depthAll]
  | n :: L => by rw [List.map_cons, PyData.depthAll, depth_ints L]; simp [PyData.depth]
theorem eqv_ints : ∀ (L M : List Int), PyData.eqvAll (L.map PyData.int) (M.map PyData.int) = decide (L = M)
  | [], [] => by rw [List.map_nil, PyData.eqvAll]; rfl
  | [], m :: M => by rw [List.map_nil, List.map_cons, PyData.eqvAll]; rfl
  | l :: L, [] => by rw [List.map_nil, List.map_cons, PyData.eqvAll]; rfl
  | l :: L, m :: M => by
    rw [List.map_cons, List.map_cons, PyData.eqvAll, eqv_ints L M, PyData.eqv]
    rw [Bool.eq_iff_iff, Bool.and_eq_true, beq_iff_eq, decide_eq_true_iff, decide_eq_true_iff, List.cons.injEq]
theorem shaped_tup (L : List Int) : SeqAt.shaped (.tuple (L.map PyData.int)) = true := by
  unfold SeqAt.shaped
  rw [PyData.canLay0, canLay_ints, PyData.depth, depth_ints]
  rfl
theorem shaped_lst (L : List Int) : SeqAt.shaped (.list (L.map PyData.int)) = true := by
  unfold SeqAt.shaped
  rw [PyData.canLay0, canLay_ints, PyData.depth, depth_ints]
  rfl
theorem eqD_mD {a b : List Int} : eqD g (mD a) (mD b) = some (decide (a = b)) := by
  have h : ∀ L : List Int, pyG g (mD L) = some (.tuple (L.map PyData.int)) := fun L => by
    show D.py (.tup (L.map D.int)) = _
    rw [D.py, pys_ints]
  show (match pyG g (mD a), pyG g (mD b) with | some p, some q => if (SeqAt.shaped p && SeqAt.shaped q) = true then some (PyData.eqv p q) else lenNe g (mD a) (mD b) | _, _ => lenNe g (mD a) (mD b)) = _
  rw [h, h]
  dsimp only
  rw [shaped_tup, shaped_tup, PyData.eqv, eqv_ints]
  rfl
theorem eqD_iL {a b : List Int} : eqD g (.lst (a.map D.int)) (.lst (b.map D.int)) = some (decide (a = b)) := by
  have h : ∀ L : List Int, pyG g (.lst (L.map D.int)) = some (.list (L.map PyData.int)) := fun L => by
    show D.py (.lst (L.map D.int)) = _
    rw [D.py, pys_ints]
  show (match pyG g (.lst (a.map D.int)), pyG g (.lst (b.map D.int)) with | some p, some q => if (SeqAt.shaped p && SeqAt.shaped q) = true then some (PyData.eqv p q) else lenNe g (.lst (a.map D.int)) (.lst (b.map D.int)) | _, _ => lenNe g (.lst (a.map D.int)) (.lst (b.map D.int))) = _
  rw [h, h]
  dsimp only
  rw [shaped_lst, shaped_lst, PyData.eqv, eqv_ints]
  rfl
theorem oEq_mD {a b : List Int} : oEq (mD a) (mD b) g = .ok (.bl (decide (a = b))) g := by
  unfold oEq
  rw [eqD_mD]
theorem oNe_mD {a b : List Int} : oNe (mD a) (mD b) g = .ok (.bl (!decide (a = b))) g := by
  unfold oNe
  rw [eqD_mD]
theorem oEq_iL {a b : List Int} : oEq (.lst (a.map D.int)) (.lst (b.map D.int)) g = .ok (.bl (decide (a = b))) g := by
  unfold oEq
  rw [eqD_iL]
end
end LW
namespace LW
open PySem PySem.Spec L2 AW
def Cl (g : G) : Prop := ∀ n, g.all (Cell.cln n) = true
theorem callD_rt {n tot : Nat} {b : Sx} {ds : List D} {g : G} {d : D} (hl : ds.length = n) (h : b (ds.map some ++ List.replicate (tot - n) none) g = .rt d g) : callD n tot b ds g = .ok d g := by
  unfold callD
  rw [if_pos hl, h]
  exact settle_same rfl
def fldP (tb : STab) (f : Str) (ov d : D) (g : G) (N : G → Prop) : Prop := match putFld tb f ov d g with
  | some g2 => N g2
  | none => False
theorem wp_fld {tb : STab} {f : Str} {o e : Ev} {σ : Sg} {g : G} {N B C : Sg → G → Prop} {R : D → G → Prop} : (AW.sFld tb f o e σ g).wp N R B C = (e σ g).wp fun d g1 => (o σ g1).wp fun ov g2 => fldP tb f ov d g2 fun g3 => N σ g3 := by
  unfold AW.sFld
  rw [wp_sbind]
  congr
  funext d g1
  rw [wp_sbind]
  congr
  funext ov g2
  unfold fldP
  cases putFld tb f ov d g2 <;> rfl
theorem wp_eq_g {r : Res D} {d : D} {g1 : G} (h : r.wp fun y g2 => y = d ∧ g2 = g1) : r = .ok d g1 := by
  obtain ⟨y, g2, h1, rfl, rfl⟩ := Res.wp_eq h
  exact h1
theorem eAttr_sl {tb : STab} {ps : List (Str × Fn)} {f : Str} {a : Ev} {σ : Sg} {g : G} {d r : D} (h : a σ g = .ok d g) (e1 : fldOf tb f g d = some r) : eAttr tb ps f a σ g = .ok r g := by
  unfold eAttr
  rw [h]
  dsimp only [Res.bind]
  rw [e1]
theorem eAttr_pr {tb : STab} {ps : List (Str × Fn)} {f c : Str} {fn : Fn} {a : Ev} {σ : Sg} {g : G} {d r : D} (h : a σ g = .ok d g) (e1 : fldOf tb f g d = none) (e2 : insOf g d = some c) (e3 : prOf ps c = some fn) (e4 : fn [d] g = .ok r g) : eAttr tb ps f a σ g = .ok r g := by
  unfold eAttr
  rw [h]
  dsimp only [Res.bind]
  rw [e1, e2]
  dsimp only
  rw [e3]
  dsimp only
  rw [e4]
  rfl
section
variable {g : G}
theorem lcL_a {α : Type} {gv : Gv} {te : Ev} {s : Sg} (P : α → D) (F : α → D) : ∀ (xs : List α), (∀ x ∈ xs, ∃ s1, gv (P x) s g = some (s1, g) ∧ te s1 g = .ok (F x) g) → lcL gv tvYes te s (xs.map P) g = .ok (xs.map F) g
  | [], _ => rfl
  | x :: r, h => by
    obtain ⟨s1, h1, h2⟩ := h x (List.mem_cons_self ..)
    have ih := lcL_a P F r fun e he => h e (List.mem_cons_of_mem _ he)
    rw [List.map_cons, lcL_cons]
    have e : lcT gv tvYes te s (P x) g = .ok (some (F x)) g := by
      unfold lcT
      rw [h1]
      show (match te s1 g with | .ok y g3 => Res.ok (some y) g3 | _ => .no) = _
      rw [h2]
    rw [e]
    dsimp only
    rw [ih]
    rfl
theorem blsOf_map {α : Type} (f : α → Bool) : ∀ L : List α, blsOf (L.map fun x => D.bl (f x)) = some (L.map f)
  | [] => rfl
  | x :: L => by
    show (match blsOf (L.map fun x => D.bl (f x)) with | some is => some (f x :: is) | none => none) = _
    rw [blsOf_map f L]
    rfl
theorem fAll_map {α : Type} {f : α → Bool} {L : List α} : fAll [.lst (L.map fun x => D.bl (f x))] g = .ok (.bl (L.all f)) g := by
  show (match blsOf (L.map fun x => D.bl (f x)) with | some is => Res.ok (D.bl (is.all id)) g | none => .no) = _
  rw [blsOf_map]
  dsimp only
  rw [List.all_map]
  rfl
theorem ints_map : ∀ L : List Int, intsOf (L.map D.int) = some L
  | [] => rfl
  | i :: L => by
    show (match intsOf (L.map D.int) with | some is => some (i :: is) | none => none) = _
    rw [ints_map L]
theorem fSrt_l {L : List Int} : fSrt [.lst (L.map D.int)] g = .ok (.lst ((isrt L).map D.int)) g := by
  show (match intsOf (L.map D.int) with | some is => Res.ok (D.lst ((isrt is).map D.int)) g | none => .no) = _
  rw [ints_map]
theorem rangeD_i : ∀ (n lo : Nat), rangeD (lo : Int) n = ((List.range' lo n).map fun k : Nat => (k : Int)).map D.int
  | 0, _ => rfl
  | n + 1, lo => by
    rw [rangeD, List.range'_succ, List.map_cons, List.map_cons, show ((lo : Int) + 1) = ((lo + 1 : Nat) : Int) by omega, rangeD_i n (lo + 1)]
theorem rangeD_1 (n : Nat) : rangeD 1 n = (Im n).map D.int := rangeD_i n 1
theorem smallI_b {i : Int} (h1 : -1000 ≤ i) (h2 : i ≤ 1000) : smallI i = true := by
  unfold smallI
  rw [decide_eq_true (by omega), decide_eq_true (by omega)]
  rfl
theorem rg_ok {n : Nat} (h : n ≤ 64) : rgOk 1 ((n : Int) + 1) = true := by
  unfold rgOk
  rw [smallI_b (by omega) (by omega), smallI_b (by omega) (by omega), decide_eq_true (by omega)]
  rfl
theorem rgB_a {a b : Int} {k : List D → G → Res D} (h : rgOk a b = true) : rgBody k a b g = k (rangeD a (b - a).toNat) g := by
  unfold rgBody
  rw [h]
theorem rgB_ok {n : Nat} {k : List D → G → Res D} (h : n ≤ 64) : rgBody k 1 ((n : Int) + 1) g = k ((Im n).map D.int) g := by
  have e : ((n : Int) + 1 - 1).toNat = n := by omega
  rw [rgB_a (rg_ok h), e, rangeD_1]
theorem rg2_ok {σ : Sg} {a b : Ev} {k : List D → G → Res D} {i j : Int} (ha : a σ g = .ok (.int i) g) (hb : b σ g = .ok (.int j) g) : rg2 k a b σ g = rgBody k i j g := by
  unfold rg2
  rw [ha]
  dsimp only [Res.bind]
  rw [hb]
theorem wp_lrg2 {σ : Sg} {Q : D → G → Prop} {a b : Ev} {n : Nat} (ha : a σ g = .ok (.int 1) g) (hb : b σ g = .ok (.int ((n : Int) + 1)) g) (h : n ≤ 64) : (eListRg2 a b σ g).wp Q = Q (.lst ((Im n).map D.int)) g := by
  have e := rg2_ok (k := kL) ha hb
  rw [rgB_ok h] at e
  rw [show eListRg2 a b σ g = _ from e]
  rfl
theorem Im_sorted (n : Nat) : (Im n).Pairwise (· ≤ ·) := by
  unfold Im
  rw [List.pairwise_map]
  exact (List.pairwise_lt_range' (s := 1) (n := n)).imp fun h => by omega
def absL (a : List Int) : List Int := a.map fun x => if x < 0 then -x else x
theorem srt_abs {n : Nat} {a : List Int} (h : Vd n a) : isrt (absL a) = Im n := by
  have e : absL a = (a.map Int.natAbs).map fun k : Nat => (k : Int) := by
    unfold absL
    rw [List.map_map]
    refine List.map_congr_left fun x _ => ?_
    show (if x < 0 then -x else x) = ((x.natAbs : Nat) : Int)
    split <;> omega
  refine sorted_one ((isrt_perm _).trans ?_) (isrt_sorted _) (Im_sorted n)
  rw [e]
  exact h.map _
theorem whole_i {x : Int} : f_is_whole [.int x] g = .ok (.bl true) g := callD_rt rfl (by kernel_rfl)
theorem integer_i {x : Int} (h1 : -1000000000000000000000000000000000000000000000000000000000000 < x) (h2 : x < 1000000000000000000000000000000000000000000000000000000000000) : f_is_integer [.int x] g = .ok (.bl true) g := by
  refine ok_of (wp_callS rfl ?_)
  unfold b_is_integer
  simp -implicitDefEqProofs only [wp_cons, wp_ret, wp_eAnd, wp_eCall, wp_eUn, oNeg_i, wp_aCons, aNil_ok, wp_eChain, List.map, List.cons_append, eVar_0, wp_ok, whole_i, truP_bl, pick_t, eC_ok, oLt_ii, tstP_bl]
  rw [decide_eq_true h1, pick_t, decide_eq_true h2]
  refine ⟨?_, ?_, ?_⟩ <;> first | trivial | rfl
theorem isTup {xs : List D} : fIsi own (.bt .tup) (.tup xs) g = .ok (.bl true) g := by kernel_rfl
theorem small_le {xs : List D} (h : xs.length ≤ 100000) : small xs = true := decide_eq_true h
theorem marks_eq {n : Nat} {a : List Int} (h : Vd n a) (h1 : 1 ≤ n) (h2 : n ≤ 64) : f_are_marks [mD a] g = .ok (.bl true) g := by
  have hl := h.len
  have e1 : lcL (gvName 1) tvYes (eCall f_is_integer (aCons (eVar 1) aNil)) [some (mD a), none] (a.map D.int) g = .ok (a.map fun _ => D.bl true) g := by
    refine lcL_a _ _ a fun x hx => ⟨_, rfl, ?_⟩
    have := h.mem hx
    show (match Res.ok [D.int x] g with | .ok ds g1 => f_is_integer ds g1 | .ex e g1 => .ex e g1 | .no => .no) = _
    exact integer_i (by omega) (by omega)
  have e2 : lcL (gvName 1) tvYes (eCall fAbs (aCons (eVar 1) aNil)) [some (mD a), none] (a.map D.int) g = .ok ((absL a).map D.int) g := by
    unfold absL
    rw [List.map_map]
    exact lcL_a _ _ a fun x hx => ⟨_, rfl, rfl⟩
  have sm1 : small (a.map fun _ => D.bl true) = true := small_le (by rw [List.length_map]; omega)
  have sm2 : small ((absL a).map D.int) = true := small_le (by unfold absL; rw [List.length_map, List.length_map]; omega)
  have al : (a.all fun _ => true) = true := List.all_eq_true.2 fun _ _ => rfl
  have fl : fLen [mD a] g = .ok (.int (n : Int)) g := by
    show fLen [.tup (a.map D.int)] g = _
    rw [fLen_tup, List.length_map, hl]
  have it : fIsi own (.bt .tup) (mD a) g = .ok (.bl true) g := isTup
  have iv : ivOf (mD a) g = .ok (.fix (a.map D.int)) g := rfl
  refine ok_of (wp_callS rfl ?_)
  unfold b_are_marks
  rw [show (List.map some [mD a] ++ List.replicate (2 - 1) none) = [some (mD a), none] from rfl]
  have r2 : (eOp oAdd (eCall fLen (aCons (eVar 0) aNil)) (eC (.int 1))) [some (mD a), none] g = .ok (.int ((n : Int) + 1)) g := wp_eq_g (by
    simp -implicitDefEqProofs only [wp_eOp, wp_eCall, wp_aCons, eVar_0, wp_ok, aNil_ok, fl, eC_ok, oAdd_ii, true_and, and_true])
  simp -implicitDefEqProofs only [wp_cons, wp_if, wp_eOrT, wp_eNotT, wp_eTru, wp_eIsi, wp_eTst, wp_eChain, wp_eCall, wp_aCons, aNil_ok, eVar_0, eVar_succ, wp_ok, eC_ok, it, truP_bl, Bool.not_true, pick_f, fl, oLe_ii, tstP_bl]
  rw [decide_eq_true (show (1 : Int) ≤ (n : Int) by omega), pick_t, decide_eq_true (show (n : Int) ≤ 64 by omega)]
  simp -implicitDefEqProofs only [Bool.not_true, pick_f, wp_nil, wp_cons, wp_if, wp_eNotT, wp_eTru, wp_eCall, wp_aCons, aNil_ok, wp_eLc, wp_iSeq, eVar_0, eVar_succ, wp_ok, iv, wp_noEx, lcAll_fix, wipeD_cons, wipeD_nil, List.set, e1, e2, sm1, true_and, fAll_map, al, truP_bl, wp_ret, wp_eOp, sm2, fSrt_l, srt_abs h]
  rw [wp_lrg2 rfl r2 h2, oEq_iL, wp_ok, decide_eq_true rfl]
  refine ⟨?_, ?_, ?_⟩ <;> first | trivial | rfl
theorem set_0 {a b c : Cell} : (g ++ [a, b]).set g.length c = g ++ [c, b] := by
  induction g with
  | nil => rfl
  | cons x g ih => simp [ih]
theorem set_1 {a b c : Cell} : (g ++ [a, b]).set (g.length + 1) c = g ++ [a, c] := by
  induction g with
  | nil => rfl
  | cons x g ih => simp [ih]
theorem get_0 {a b : Cell} : (g ++ [a, b])[g.length]? = some a := by simp
theorem get_1 {a b : Cell} : (g ++ [a, b])[g.length + 1]? = some b := by
  rw [List.getElem?_append_right (by omega)]
  simp
theorem sSm : sIx stab "SignTable" "own_marks" = some 0 := by kernel_rfl
theorem put_m {d : D} {N : G → Prop} (h : N (g ++ [.xd, .ins "SignTable" g.length [some d]])) : fldP stab "own_marks" (.ref (g.length + 1)) d (g ++ [.own, .new "SignTable" g.length]) N := by
  have e : putFld stab "own_marks" (.ref (g.length + 1)) d (g ++ [.own, .new "SignTable" g.length]) = some (g ++ [.xd, .ins "SignTable" g.length [some d]]) := by
    unfold putFld
    dsimp only
    rw [get_1]
    dsimp only
    unfold insSet
    rw [sSm]
    dsimp only
    rw [set_0, set_1]
    rfl
  unfold fldP
  rw [e]
  exact h
theorem frz_ints {g : G} {k z : Nat} : ∀ L : List Int, omap (frz g k (z + 1)) (L.map D.int) = some (L.map D.int)
  | [] => rfl
  | i :: L => by
    rw [List.map_cons, omap, frz_ints L]
    rfl
theorem frz_m {g : G} {k z : Nat} (a : List Int) : frz g k (z + 2) (mD a) = some (mD a) := by
  show (match omap (frz g k (z + 1)) (a.map D.int) with | some ys => some (D.tup ys) | none => none) = _
  rw [frz_ints]
  rfl
theorem settle_one {a : List Int} (hg : Cl g) : AW.settle g.length (.ref (g.length + 1)) (g ++ [.xd, .ins "SignTable" g.length [some (mD a)]]) = .ok (sT a) g := by
  unfold AW.settle
  rw [if_neg (by simp), if_pos (by simp)]
  have e1 : (g ++ [Cell.xd, .ins "SignTable" g.length [some (mD a)]]).take g.length = g := by simp
  rw [e1, hg]
  have e2 : frz (g ++ [Cell.xd, .ins "SignTable" g.length [some (mD a)]]) g.length 64 (.ref (g.length + 1)) = some (sT a) := by
    show (if g.length + 1 < g.length then some (D.ref (g.length + 1)) else match (g ++ [Cell.xd, .ins "SignTable" g.length [some (mD a)]])[g.length + 1]? with | _ => _) = _
    rw [if_neg (by omega), get_1]
    dsimp only
    rw [if_neg (by omega), get_0]
    dsimp only [allSome, omap]
    rw [show (63 : Nat) = 61 + 2 from rfl, frz_m]
    rfl
  rw [e2]
theorem make_eq {n : Nat} {a : List Int} (hg : Cl g) (h : Vd n a) (h1 : 1 ≤ n) (h2 : n ≤ 64) : eMakeF "SignTable" f_SignTable___init__ [mD a] g = .ok (sT a) g := by
  have key : f_SignTable___init__ [.ref (g.length + 1), mD a] (g ++ [.own, .new "SignTable" g.length]) = .ok .non (g ++ [.xd, .ins "SignTable" g.length [some (mD a)]]) := by
    refine wp_eq_g ?_
    unfold f_SignTable___init__
    generalize hds : [D.ref (g.length + 1), mD a] = ds
    refine wp_callK (by rw [← hds]; rfl) ?_
    rw [← hds]
    unfold b_SignTable___init__
    have hm : ∀ g, f_are_marks [mD a] g = .ok (.bl true) g := fun g => marks_eq h h1 h2
    simp -implicitDefEqProofs only [wp_cons, wp_if, wp_eNotT, wp_eTru, wp_eCall, wp_aCons, aNil_ok, List.map, List.cons_append, List.nil_append, eVar_0, eVar_succ, wp_ok, hm, truP_bl, Bool.not_true, pick_f, wp_nil, wp_fld]
    refine put_m ?_
    first | exact ⟨trivial, rfl⟩ | exact ⟨rfl, rfl⟩
  unfold eMakeF
  rw [List.append_assoc]
  show (match f_SignTable___init__ (.ref (g.length + 1) :: [mD a]) (g ++ [.own, .new "SignTable" g.length]) with | .ok .non g' => AW.settle g.length (.ref (g.length + 1)) g' | .ex e g' => settleX g.length e g' | _ => Res.no) = _
  rw [key]
  exact settle_one hg
end
end LW
namespace LW
open PySem PySem.Spec L2 AW
theorem prOf_one {c : Str} {fn : Fn} : prOf [(c, fn)] c = some fn := if_pos rfl
section
variable {g : G} {n : Nat} {a b : List Int} {x : Int}
theorem fR_m : fldOf stab "own_marks" g (sT a) = some (mD a) := by
  show (match sIx stab "SignTable" "own_marks" with | some i => [mD a][i]? | none => none) = _
  rw [sSm]
  rfl
theorem at_m {σ : Sg} {e : Ev} (h : e σ g = .ok (sT a) g) : eAttr stab [] "own_marks" e σ g = .ok (mD a) g := eAttr_sl h fR_m
theorem isS : fIsi own (.own "SignTable") (sT a) g = .ok (.bl true) g := by
  unfold sT
  kernel_rfl
theorem eq_m : f_SignTable___eq__ [sT a, sT b] g = .ok (.bl (decide (a = b))) g := by
  refine ok_of (wp_callS rfl ?_)
  unfold b_SignTable___eq__
  simp -implicitDefEqProofs only [wp_cons, wp_ret, wp_eAnd, wp_eIsi, List.map, List.cons_append, List.nil_append, List.replicate, eVar_0, eVar_succ, wp_ok, isS, truP_bl, pick_t, wp_eOp]
  rw [at_m (a := a) (g := g) (e := eVar 0) rfl, wp_ok, at_m (a := b) (g := g) (e := eVar 1) rfl, wp_ok, oEq_mD]
  refine ⟨?_, ?_, ?_⟩ <;> first | trivial | rfl
theorem insS : insOf g (sT a) = some ("SignTable" : Str) := rfl
theorem own_S : ("SignTable" : Str) ∈ own := List.mem_cons_self ..
theorem eq_t : oCmpO [("SignTable", f_SignTable___eq__)] own oEq (sT a) (sT b) g = .ok (.bl (decide (a = b))) g := by
  have e := eq_m (g := g) (a := a) (b := b)
  unfold oCmpO
  rw [insS]
  try dsimp only
  rw [prOf_one]
  try dsimp only
  rw [insS]
  unfold sT at *
  try dsimp only [rkOf]
  rw [if_pos own_S, e]
  rfl
theorem sMk : sIx stab "SignTable" "marks" = none := by kernel_rfl
theorem marks_m : f_SignTable_marks [sT a] g = .ok (mD a) g := by
  refine ok_of (wp_callS rfl ?_)
  unfold b_SignTable_marks
  simp -implicitDefEqProofs only [wp_cons, wp_ret, List.map, List.cons_append, List.nil_append, List.replicate]
  rw [at_m (a := a) (g := g) (e := eVar 0) rfl]
  refine ⟨?_, ?_, ?_⟩ <;> first | trivial | rfl
theorem fld_none {f : Str} (h : sIx stab "SignTable" f = none) : fldOf stab f g (sT a) = none := by
  show (match sIx stab "SignTable" f with | some i => [mD a][i]? | none => none) = _
  rw [h]
theorem pr_at {f : Str} {fn : Fn} {σ : Sg} {e : Ev} {r : D} (h : e σ g = .ok (sT a) g) (hf : sIx stab "SignTable" f = none) (hr : fn [sT a] g = .ok r g) : eAttr stab [("SignTable", fn)] f e σ g = .ok r g := eAttr_pr h (fld_none hf) insS prOf_one hr
end
end LW
namespace LW
open PySem PySem.Spec L2 AW
theorem lt_some {α : Type} {L : List α} {i : Nat} {x : α} (h : L[i]? = some x) : i < L.length := by
  by_cases z : i < L.length
  · exact z
  · rw [List.getElem?_eq_none (by omega)] at h; cases h
def Vr (r : List Int) : Prop := ∃ n, 1 ≤ n ∧ n ≤ 64 ∧ Vd n r
theorem Vr.len {r : List Int} (h : Vr r) : Vd r.length r ∧ 1 ≤ r.length ∧ r.length ≤ 64 := by
  obtain ⟨n, h1, h2, h⟩ := h
  have := h.len
  subst this
  exact ⟨h, h1, h2⟩
section
variable {g : G} {n : Nat} {a : List Int}
theorem Im_len {n : Nat} : (Im n).length = n := by unfold Im; rw [List.length_map, List.length_range']
end
theorem cl_app {g cs : G} (h : Cl g) (h2 : Cl cs) : Cl (g ++ cs) := fun n => by
  rw [List.all_append, h n, h2 n]
  rfl
theorem get_last {g : G} {c : Cell} : (g ++ [c])[g.length]? = some c := by simp
theorem frz_mD {g : G} {k : Nat} (a : List Int) : frz g k 64 (mD a) = some (mD a) := frz_m (z := 62) a
theorem settle_mD {a : List Int} {g cs : G} {n : Nat} (hn : g.length = n) (hg : Cl g) (hc : cs ≠ []) : AW.settle n (mD a) (g ++ cs) = .ok (mD a) g := by
  subst hn
  have hl : 0 < cs.length := List.length_pos_iff.2 hc
  unfold AW.settle
  rw [if_neg (by rw [List.length_append]; omega), if_pos (by rw [List.length_append]; omega)]
  have e1 : (g ++ cs).take g.length = g := by simp
  rw [e1, hg]
  dsimp only
  rw [frz_mD]
theorem wp_append2 {o a : Ev} {σ : Sg} {g : G} {Q : D → G → Prop} {k : Nat} {xs : List D} (ho : o σ g = .ok (.ref k) g) (hk : g[k]? = some (.lst xs)) (ha : (a σ g).wp fun d g1 => ∃ ys, g1[k]? = some (.lst ys) ∧ ys.length < 100000 ∧ Q .non (g1.set k (.lst (ys ++ [d])))) : (eAppend o a σ g).wp Q := by
  unfold eAppend eMeth
  rw [ho]
  show (match lmOf g k with | some _ => _ | none => _ : Res D).wp Q
  rw [show lmOf g k = some xs by unfold lmOf; rw [hk]]
  show ((aCons a aNil σ g).bind fun ds g2 => mAppend k ds g2).wp Q
  rw [wp_bind, wp_aCons]
  refine Res.wp_mono ha fun d g1 ⟨ys, h1, h2, h3⟩ => ?_
  rw [aNil_ok, wp_ok]
  unfold mAppend
  dsimp only
  rw [show lmOf g1 k = some ys by unfold lmOf; rw [h1]]
  dsimp only
  rw [wp_okIf]
  exact ⟨decide_eq_true h2, h3⟩
theorem wp_pop {o a : Ev} {σ : Sg} {g : G} {Q : D → G → Prop} {k : Nat} {xs : List D} (ho : o σ g = .ok (.ref k) g) (hk : g[k]? = some (.lst xs)) (ha : (a σ g).wp fun d g1 => ∃ ys j y, d = .int j ∧ 0 ≤ j ∧ j < 100000 ∧ g1[k]? = some (.lst ys) ∧ ys[j.toNat]? = some y ∧ Q y (g1.set k (.lst (ys.eraseIdx j.toNat)))) : (ePop o a σ g).wp Q := by
  unfold ePop eMeth
  rw [ho]
  show (match lmOf g k with | some _ => _ | none => _ : Res D).wp Q
  rw [show lmOf g k = some xs by unfold lmOf; rw [hk]]
  show ((aCons a aNil σ g).bind fun ds g2 => mPop k ds g2).wp Q
  rw [wp_bind, wp_aCons]
  refine Res.wp_mono ha fun d g1 ⟨ys, j, y, e, h0, h1, h2, h3, h4⟩ => ?_
  subst e
  rw [aNil_ok, wp_ok]
  unfold mPop
  dsimp only
  rw [show lmOf g1 k = some ys by unfold lmOf; rw [h2]]
  dsimp only
  rw [if_pos ⟨h0, h1⟩, h3]
  exact h4
theorem app_get0 {g : G} {a : Cell} {cs : G} {n : Nat} (h : g.length = n) : (g ++ a :: cs)[n]? = some a := by subst h; simp
theorem app_get1 {g : G} {a b : Cell} {cs : G} {n : Nat} (h : g.length = n) : (g ++ a :: b :: cs)[n + 1]? = some b := by
  subst h
  rw [List.getElem?_append_right (by omega)]
  simp
theorem app_set0 {g : G} {a c : Cell} {cs : G} {n : Nat} (h : g.length = n) : (g ++ a :: cs).set n c = g ++ c :: cs := by
  subst h
  rw [List.set_append, if_neg (by omega)]
  simp
theorem app_set1 {g : G} {a b c : Cell} {cs : G} {n : Nat} (h : g.length = n) : (g ++ a :: b :: cs).set (n + 1) c = g ++ a :: c :: cs := by
  subst h
  rw [List.set_append, if_neg (by omega)]
  simp
section
variable {g : G} {n : Nat} {a : List Int}
theorem fLen_ref {xs : List D} {k : Nat} (h : g[k]? = some (.lst xs)) : fLen [.ref k] g = .ok (.int (xs.length : Int)) g := by
  have e : sqOf g (.ref k) = some xs := by
    show lsOf g (.ref k) = some xs
    unfold lsOf
    simp [lmOf, h]
  show (match sqOf g (.ref k) with | some xs => Res.ok (D.int (xs.length : Int)) g | none => .no) = _
  rw [e]
theorem fTuple_ref {xs : List D} {k : Nat} (h : g[k]? = some (.lst xs)) : fTuple [.ref k] g = .ok (.tup xs) g := by
  have e : lqOf g (.ref k) = some xs := by
    show lsOf g (.ref k) = some xs
    unfold lsOf
    simp [lmOf, h]
  show (match lqOf g (.ref k) with | some xs => Res.ok (D.tup xs) g | none => .no) = _
  rw [e]
theorem er_perm {α : Type} {L : List α} {r : Nat} (h : r < L.length) : (L[r] :: L.eraseIdx r).Perm L := by
  have e : L = L.take r ++ L[r] :: L.drop (r + 1) := by
    rw [← List.drop_eq_getElem_cons h, List.take_append_drop]
  rw [List.eraseIdx_eq_take_drop_succ]
  refine List.perm_middle.symm.trans ?_
  rw [← e]
theorem map_erase {α β : Type} {f : α → β} {L : List α} {r : Nat} : (L.map f).eraseIdx r = (L.eraseIdx r).map f := by
  rw [List.eraseIdx_eq_take_drop_succ, List.eraseIdx_eq_take_drop_succ, List.map_append, List.map_take, List.map_drop]
end
section
variable {g : G} {n : Nat} {a b : List Int}
theorem cmp_no {ps : List (Str × Fn)} {ow : List Str} {f : Op2} {x y : D} (h : insOf g x = none) : oCmpO ps ow f x y g = f x y g := by
  unfold oCmpO
  rw [h]
end
end LW
namespace LW
open PySem PySem.Spec L2 AW
def Pots (g : G) : Prop := ∀ x ∈ g, ∃ a b c : Int, x = .lst [.int a, .int b, .int c]
theorem cl_pots {g : G} (h : Pots g) : Cl g := fun n => List.all_eq_true.2 fun x hx => by
  obtain ⟨a, b, c, rfl⟩ := h x hx
  rfl
theorem pots_set {g : G} {i : Nat} {a b c : Int} (h : Pots g) : Pots (g.set i (.lst [.int a, .int b, .int c])) := fun x hx => by
  rcases List.mem_or_eq_of_mem_set hx with h1 | h1
  · exact h x h1
  · exact ⟨a, b, c, h1⟩
theorem pots_add {g : G} {a b c : Int} (h : Pots g) : Pots (g ++ [.lst [.int a, .int b, .int c]]) := fun x hx => by
  rcases List.mem_append.1 hx with h1 | h1
  · exact h x h1
  · exact ⟨a, b, c, List.mem_singleton.1 h1⟩
def Pot (i : Nat) (k : Int) (g : G) : Prop := Pots g ∧ ∃ a b c, g[i]? = some (.lst [.int a, .int b, .int c]) ∧ 0 ≤ a ∧ 0 ≤ b ∧ b < 1000000000000000000000000000 ∧ 0 ≤ c ∧ c ≤ k
theorem Pot.lt {i : Nat} {k : Int} {g : G} (h : Pot i k g) : i < g.length := by
  obtain ⟨_, _, _, _, h, _⟩ := h
  exact lt_some h
theorem Pot.mono {i : Nat} {k l : Int} {g : G} (h : Pot i k g) (hk : k ≤ l) : Pot i l g := by
  obtain ⟨h0, a, b, c, h1, h2, h3, h4, h5, h6⟩ := h
  exact ⟨h0, a, b, c, h1, h2, h3, h4, h5, by omega⟩
theorem pour_wp {i : Nat} {k n : Int} {g cs : G} {Q : D → G → Prop} (h : Pot i k g) (hk : k < 1000000000) (h0 : 0 < n) (h1 : n < 1000000000000)
    (q : ∀ r g', 0 ≤ r → r < n → Pot i (k + 1) g' → g'.length = g.length → Q (.int r) (g' ++ cs)) : (f_law_pour [.ref i, .int n] (g ++ cs)).wp Q := by
  have hi := h.lt
  obtain ⟨hcl, a, b, c, hg0, ha, hb, hb', hc, hc'⟩ := h
  have hg : (g ++ cs)[i]? = some (.lst [.int a, .int b, .int c]) := by
    rw [List.getElem?_append_left hi]
    exact hg0
  have fin : ∀ r a' c', 0 ≤ r → r < n → 0 ≤ a' → 0 ≤ c' → c' ≤ c + 1 → Q (.int r) ((g ++ cs).set i (.lst [.int a', .int b, .int c'])) := by
    intro r a' c' h2 h3 h4 h5 h6
    rw [List.set_append, if_pos hi]
    exact q r _ h2 h3 ⟨pots_set hcl, a', b, c', get_set hg0, h4, hb, hb', h5, by omega⟩ (by simp)
  clear q hg0
  generalize g ++ cs = g at *
  have e0 : oIx (.ref i) (.int 0) g = .ok (.int a) g := oIx_ref hg (n := 0) rfl rfl
  have e2 : oIx (.ref i) (.int 2) g = .ok (.int c) g := oIx_ref hg (n := 2) rfl rfl
  have f1 : oIx (.ref i) (.int 1) (g.set i (.lst [.int a, .int b, .int (c + 1)])) = .ok (.int b) _ := oIx_ref (get_set hg) (n := 1) rfl rfl
  have f2 : oIx (.ref i) (.int 2) (g.set i (.lst [.int a, .int b, .int (c + 1)])) = .ok (.int (c + 1)) _ := oIx_ref (get_set hg) (n := 2) rfl rfl
  refine wp_callS rfl ?_
  unfold b_law_pour
  have h2 : n ≤ 115792089237316195423570985008687907853269984665640564039457584007913129639936 := by omega
  simp -implicitDefEqProofs [e0, oMod_p, oFdiv_p, h0, h2, setP_at (j := 0) 0 hg rfl, setP_at (j := 2) 2 hg rfl, e2, f1, f2]
  refine pick_dec (fun h => ?_) fun h => ?_
  · exact fin _ _ _ (Int.emod_nonneg _ (by omega)) (Int.emod_lt_of_pos _ h0) (Int.ediv_nonneg ha (by omega)) hc (by omega)
  · have m1 := Int.emod_nonneg (b + 3372073 * (c + 1)) (b := 2305843009213693951) (by omega)
    have m2 := Int.emod_lt_of_pos (b + 3372073 * (c + 1)) (b := 2305843009213693951) (by omega)
    generalize (b + 3372073 * (c + 1)) % 2305843009213693951 = x at m1 m2
    have m3 := Int.emod_nonneg (x * x + 700361 * (c + 1)) (b := 2305843009213693921) (by omega)
    have m4 := Int.emod_lt_of_pos (x * x + 700361 * (c + 1)) (b := 2305843009213693921) (by omega)
    refine ⟨cMul_b (by omega) (by omega) (by omega) (by omega), cMul_b (by omega) (by omega) (by omega) (by omega), cMul_b (by omega) (by omega) (by omega) (by omega), cMul_b (by omega) (by omega) (by omega) (by omega), ?_⟩
    exact fin _ a (c + 1) (Int.emod_nonneg _ (by omega)) (Int.emod_lt_of_pos _ h0) ha (by omega) (by omega)
theorem pour_wp0 {i : Nat} {k n : Int} {g : G} {Q : D → G → Prop} (h : Pot i k g) (hk : k < 1000000000) (h0 : 0 < n) (h1 : n < 1000000000000)
    (q : ∀ r g', 0 ≤ r → r < n → Pot i (k + 1) g' → g'.length = g.length → Q (.int r) g') : (f_law_pour [.ref i, .int n] g).wp Q := by
  have := pour_wp (cs := []) h hk h0 h1 (Q := Q) fun r g' a b c d => by
    rw [List.append_nil]
    exact q r g' a b c d
  rw [List.append_nil] at this
  exact this
theorem pot_wp {ns : List Int} {at' : Nat} {g : G} {Q : D → G → Prop} (ha : at' < 100) (hps : Pots g)
    (q : ∀ g', Pot g.length 0 g' → g'.length = g.length + 1 → Q (.ref g.length) g') : (f_law_jug [.seq (ns.map D.int), .int at'] g).wp Q := by
  refine wp_callK rfl ?_
  unfold b_law_jug
  rw [wp_cons, wp_set]
  refine Res.wp_mono (Q := fun d g' => g' = g ∧ ∃ v, d = .int v) ?_ ?_
  · simp -implicitDefEqProofs
    refine pick_dec (fun h => ?_) fun h => cMul_b (by omega) (by omega) (by omega) (by omega)
    have e : (ns.map D.int)[at']? = some (D.int (ns[at'])) := by simp [h]
    rw [oIx_seq e rfl]
    exact ⟨rfl, _, rfl⟩
  · rintro d g' ⟨rfl, v, rfl⟩
    have p1 : oPow (.int 10) (.int 57) = fun g => .ok (.int 1000000000000000000000000000000000000000000000000000000000) g := by funext g; exact oPow_c (by decide +kernel)
    have p2 : oPow (.int 1000000000000000000000000000000000000000000000000000000000) (.int 6) = fun g => .ok (.int (1000000000000000000000000000000000000000000000000000000000 ^ 6)) g := by funext g; exact oPow_c (by decide +kernel)
    have p3 : oPow (.int 10) (.int 17) = fun g => .ok (.int (10 ^ 17)) g := by funext g; exact oPow_c (by decide +kernel)
    have hp : (0 : Int) < 1000000000000000000000000000000000000000000000000000000000 ^ 6 := by decide +kernel
    generalize (1000000000000000000000000000000000000000000000000000000000 ^ 6 : Int) = gr at hp p2
    simp -implicitDefEqProofs [p1, p2, p3, oMod_p, hp]
    generalize ((if v < 0 then -v else v) % gr) = x
    have m3 := Int.emod_nonneg x (b := 1000000000039) (by omega)
    have m4 := Int.emod_lt_of_pos x (b := 1000000000039) (by omega)
    refine ⟨cMul_b (by omega) (by omega) (by omega) (by omega), cMul_b (by omega) (by omega) (by omega) (by omega), cMul_b (by omega) (by omega) (by split <;> omega) (by split <;> omega), by rfl, ?_⟩
    refine q _ ⟨pots_add hps, _, _, _, get_last, ?_, ?_, ?_, by omega, by omega⟩ (by simp) <;> repeat' split
    all_goals omega
end LW
namespace LW
open PySem PySem.Spec L2 AW
section
variable {g : G} {n : Nat} {a : List Int}
theorem wp_lrg2M {σ : Sg} {Q : D → G → Prop} {a b : Ev} {n : Nat} (ha : a σ g = .ok (.int 1) g) (hb : b σ g = .ok (.int ((n : Int) + 1)) g) (h : n ≤ 64) : (eListRg2M a b σ g).wp Q = Q (.ref g.length) (g ++ [.lst ((Im n).map D.int)]) := by
  have e := rg2_ok (k := kM) ha hb
  rw [rgB_ok h] at e
  rw [show eListRg2M a b σ g = _ from e]
  rfl
theorem perm_pop {F L : List Int} {r : Nat} {R : List Nat} {y : Int} (h : r < L.length) (hy : y.natAbs = L[r].natAbs) (p : (F.map Int.natAbs ++ L.map Int.natAbs).Perm R) : ((F ++ [y]).map Int.natAbs ++ (L.eraseIdx r).map Int.natAbs).Perm R := by
  refine List.Perm.trans ?_ p
  rw [List.map_append, List.append_assoc]
  refine List.Perm.append_left _ ?_
  have := (er_perm h).map Int.natAbs
  rw [List.map_cons] at this
  rw [List.map_cons, List.map_nil, hy]
  exact this
theorem pick_wp {i : Nat} {k : Int} {g cs : G} {xs : List D} {Q : D → G → Prop} (h : Pot i k g) (hk : k < 100000000) (h0 : 0 < xs.length) (h1 : xs.length < 1000)
    (q : ∀ d g', d ∈ xs → Pot i (k + 1) g' → g'.length = g.length → Q d (g' ++ cs)) : (f_law_pick [.ref i, .lst xs] (g ++ cs)).wp Q := by
  refine wp_callS rfl ?_
  unfold b_law_pick
  rw [show (List.map some [D.ref i, .lst xs] ++ List.replicate (2 - 2) none) = [some (.ref i), some (.lst xs)] from rfl]
  rw [wp_cons, wp_ret, wp_eOp, eVar_succ, eVar_0, wp_ok, wp_eCall, wp_aCons, eVar_0, wp_ok, wp_aCons, wp_eCall, wp_aCons, eVar_succ, eVar_0, wp_ok, aNil_ok, wp_ok, fLen_lst, wp_ok, aNil_ok, wp_ok]
  refine pour_wp h (by omega) (by omega) (by omega) fun r g' hr0 hr1 p1 l1 => ?_
  have hi : r.toNat < xs.length := by omega
  rw [oIx_lst (n := r.toNat) (List.getElem?_eq_getElem hi) (by omega), wp_ok]
  exact ⟨by rw [List.length_append, List.length_append, l1], q _ _ (List.getElem_mem hi) p1 l1⟩
def dI (i n : Nat) (k : Int) (g cs : G) (kk : Nat) (σ : Sg) (G1 : G) : Prop := ∃ (g' : G) (L F : List Int) (a : Option D), σ = [some (.ref i), some (.int (n : Int)), a, some (.ref (g ++ cs).length), some (.ref ((g ++ cs).length + 1))] ∧ G1 = (g' ++ cs) ++ [.lst (L.map D.int), .lst (F.map D.int)] ∧ Pot i (k + 2 * kk) g' ∧ g'.length = g.length ∧ (F.map Int.natAbs ++ L.map Int.natAbs).Perm (List.range' 1 n) ∧ L.length + kk = n ∧ F.length ≤ kk
theorem marks_wp {f : Fn} (hf : f_law_marks = f) {i : Nat} {k : Int} {cs : G} {Q : D → G → Prop} (h : Pot i k g) (hc : Cl cs) (hk : k < 1000000) (h2 : n ≤ 64)
    (q : ∀ a g', Vd n a → Pot i (k + 2 * n) g' → g'.length = g.length → Q (mD a) (g' ++ cs)) : (f [.ref i, .int (n : Int)] (g ++ cs)).wp Q := by
  rw [← hf]
  unfold f_law_marks
  generalize hds : [D.ref i, .int (n : Int)] = ds
  refine wp_callD (by rw [← hds]; rfl) ?_
  rw [← hds]
  unfold b_law_marks
  rw [show (List.map some [D.ref i, .int (n : Int)] ++ List.replicate (5 - 2) none) = [some (.ref i), some (.int (n : Int)), none, none, none] from rfl]
  have r2 : ∀ g : G, (eOp oAdd (eVar 1) (eC (.int 1))) [some (.ref i), some (.int (n : Int)), none, none, none] g = .ok (.int ((n : Int) + 1)) g := fun _ => rfl
  rw [wp_cons, wp_par, wp_lrg2M rfl (r2 _) h2, wp_eLstM, aNil_ok, wp_ok]
  refine ⟨rfl, ?_⟩
  show SRes.wp (sCons _ _ [some (.ref i), some (.int (n : Int)), none, some (.ref (g ++ cs).length), some (.ref ((g ++ cs) ++ [Cell.lst ((Im n).map D.int)]).length)] _) _ _ _ _
  rw [wp_cons]
  generalize hs0 : [some (D.ref i), some (.int (n : Int)), none, some (.ref (g ++ cs).length), some (.ref ((g ++ cs) ++ [Cell.lst ((Im n).map D.int)]).length)] = s0
  refine wp_for (dI i n k g cs) (fun xs => xs = rangeD 0 n) ?_ ?_ ?_
  · have v1 : ∀ g, eVar 1 s0 g = .ok (.int (n : Int)) g := fun g => by rw [← hs0]; rfl
    rw [wp_iRange1, v1, wp_ok, intP_i]
    refine ⟨smallI_b (by omega) (by omega), _, rfl, by rw [Int.toNat_natCast], g, Im n, [], none, ?_, ?_, ?_, rfl, ?_, ?_, Nat.le_refl _⟩
    · rw [← hs0]
      simp
      omega
    · simp
    · simpa using h
    · exact vd_I n
    · simp [Im_len]
  · rintro xs kk σ G1 d rfl hd ⟨g', L, F, a, rfl, rfl, hp, hl, hperm, hL, hF⟩
    obtain ⟨hkk, rfl⟩ := rangeD_get _ _ _ _ hd
    have hN : (g' ++ cs).length = (g ++ cs).length := by rw [List.length_append, List.length_append, hl]
    generalize (g ++ cs).length = N at hN
    rw [gvP_name]
    show SRes.wp (sCons _ _ [some (.ref i), some (.int (n : Int)), some (.int (0 + (kk : Int))), some (.ref N), some (.ref (N + 1))] _) _ _ _ _
    rw [wp_cons, wp_expr]
    refine wp_append2 (k := N + 1) (xs := F.map D.int) rfl (app_get1 hN) ?_
    rw [wp_eOp]
    refine wp_pop (k := N) (xs := L.map D.int) rfl (app_get0 hN) ?_
    rw [wp_eCall, wp_aCons]
    show (Res.wp (Res.ok (D.ref i) _) _)
    rw [wp_ok, wp_aCons, wp_eCall, wp_aCons]
    show (Res.wp (Res.ok (D.ref N) _) _)
    rw [wp_ok, aNil_ok, wp_ok, fLen_ref (app_get0 hN), wp_ok, aNil_ok, wp_ok, List.length_map, List.append_assoc]
    refine pour_wp hp (by omega) (by omega) (by omega) fun r g1 hr0 hr1 hp1 hl1 => ?_
    have hN1 : (g1 ++ cs).length = N := by rw [List.length_append, hl1, ← List.length_append, hN]
    rw [← List.append_assoc]
    have hr : r.toNat < L.length := by omega
    refine ⟨L.map D.int, r, .int L[r.toNat], rfl, hr0, by omega, app_get0 hN1, ?_, ?_⟩
    · rw [List.getElem?_map, List.getElem?_eq_getElem hr]
      rfl
    rw [app_set0 hN1, map_erase, wp_eCall, wp_aCons]
    show (Res.wp (Res.ok (D.ref i) _) _)
    rw [wp_ok, wp_aCons, wp_eLst]
    simp -implicitDefEqProofs only [wp_aCons, wp_eUn, eC_ok, wp_ok, aNil_ok, oNeg_i]
    refine ⟨rfl, ?_⟩
    rw [List.append_assoc]
    refine pick_wp hp1 (by omega) (by simp) (by simp) fun d g2 hd hp2 hl2 => ?_
    have hN2 : (g2 ++ cs).length = N := by rw [List.length_append, hl2, ← List.length_append, hN1]
    rw [← List.append_assoc]
    have hLm : (L[r.toNat]).natAbs ≤ n := by
      have h1 : (L[r.toNat]).natAbs ∈ F.map Int.natAbs ++ L.map Int.natAbs := List.mem_append_right _ (List.mem_map_of_mem (List.getElem_mem hr))
      have h2 := hperm.subset h1
      have h3 := List.mem_range'_1.1 h2
      omega
    have fin : ∀ y : Int, y.natAbs = (L[r.toNat]).natAbs → ∃ ys, ((g2 ++ cs) ++ [Cell.lst ((L.eraseIdx r.toNat).map D.int), .lst (F.map D.int)])[N + 1]? = some (.lst ys) ∧ ys.length < 100000 ∧ (sNil [some (.ref i), some (.int (n : Int)), some (.int (0 + (kk : Int))), some (.ref N), some (.ref (N + 1))] (((g2 ++ cs) ++ [Cell.lst ((L.eraseIdx r.toNat).map D.int), .lst (F.map D.int)]).set (N + 1) (.lst (ys ++ [.int y])))).wp (dI i n k g cs (kk + 1)) (fun d g1 => (AW.settle N d g1).wp Q) (fun σ g => False) (dI i n k g cs (kk + 1)) := by
      intro y hy
      refine ⟨F.map D.int, app_get1 hN2, by rw [List.length_map]; omega, ?_⟩
      rw [app_set1 hN2, wp_nil]
      have hNg : (g ++ cs).length = N := by rw [List.length_append, ← hl, ← List.length_append, hN]
      refine ⟨g2, L.eraseIdx r.toNat, F ++ [y], some (.int (0 + (kk : Int))), ?_, ?_, hp2.mono (by omega), by omega, perm_pop hr hy hperm, ?_, ?_⟩
      · rw [hNg]
      · rw [List.map_append]
        rfl
      · rw [List.length_eraseIdx_of_lt hr]
        omega
      · rw [List.length_append]
        simp
        omega
    have hz : ∃ z : Int, d = .int z ∧ (z = 1 ∨ z = -1) := by
      simp only [List.mem_cons, List.not_mem_nil, or_false] at hd
      rcases hd with rfl | rfl
      · exact ⟨_, rfl, .inl rfl⟩
      · exact ⟨_, rfl, .inr rfl⟩
    obtain ⟨z, rfl, hz⟩ := hz
    rw [oMul_ii, wp_okIf]
    refine ⟨cMul_b (by omega) (by omega) (by omega) (by omega), ?_⟩
    show ∃ ys, _
    refine fin (L[r.toNat] * z) ?_
    rcases hz with rfl | rfl
    · rw [Int.mul_one]
    · rw [Int.natAbs_mul]
      exact Nat.mul_one _
  · rintro xs σ G1 rfl ⟨g', L, F, a, rfl, rfl, hp, hl, hperm, hL, hF⟩
    have e : (rangeD 0 n).length = n := rangeD_len _ _
    rw [e] at hp hL hF
    have hL0 : L = [] := List.eq_nil_of_length_eq_zero (by omega)
    subst hL0
    rw [List.map_nil, List.append_nil] at hperm
    have hN : (g' ++ cs).length = (g ++ cs).length := by rw [List.length_append, List.length_append, hl]
    rw [wp_cons, wp_ret, wp_eCall, wp_aCons]
    show (Res.wp (Res.ok (D.ref ((g ++ cs).length + 1)) _) _)
    rw [wp_ok, aNil_ok, wp_ok, fTuple_ref (app_get1 hN), wp_ok]
    show (AW.settle (g ++ cs).length (mD F) _).wp _
    rw [settle_mD hN (cl_app (cl_pots hp.1) hc) (by simp), wp_ok]
    exact q F g' hperm hp hl
end
end LW
namespace LW
open PySem PySem.Spec L2 AW
section
variable {g : G} {n : Nat} {a b c s t : List Int}
theorem ne_t : oNeO [("SignTable", f_SignTable___eq__)] own oNe (sT a) (sT b) g = .ok (.bl (!decide (a = b))) g := by
  have e := eq_m (g := g) (a := a) (b := b)
  unfold oNeO
  rw [insS]
  try dsimp only
  rw [prOf_one]
  try dsimp only
  rw [insS]
  unfold sT at *
  try dsimp only [rkOf]
  rw [if_pos own_S, e]
  rfl
end
section
variable {g : G} {σ : Sg} {n : Nat} {a b c : List Int} {e e1 e2 : Ev} {x y z : D}
theorem op_v {f : Op2} (h1 : e1 σ g = .ok x g) (h2 : e2 σ g = .ok y g) (h : f x y g = .ok z g) : eOp f e1 e2 σ g = .ok z g := ok_of (by rw [wp_eOp, h1, wp_ok, h2, wp_ok, h, wp_ok]; exact ⟨rfl, rfl⟩)
theorem un_v {f : Op1} (h1 : e1 σ g = .ok x g) (h : f x g = .ok z g) : eUn f e1 σ g = .ok z g := ok_of (by rw [wp_eUn, h1, wp_ok, h, wp_ok]; exact ⟨rfl, rfl⟩)
theorem call1_v {f : Fn} (h1 : e1 σ g = .ok x g) (h : f [x] g = .ok z g) : eCall f (aCons e1 aNil) σ g = .ok z g := ok_of (by rw [wp_eCall, wp_aCons, h1, wp_ok, aNil_ok, wp_ok, h, wp_ok]; exact ⟨rfl, rfl⟩)
theorem call2_v {f : Fn} (h1 : e1 σ g = .ok x g) (h2 : e2 σ g = .ok y g) (h : f [x, y] g = .ok z g) : eCall f (aCons e1 (aCons e2 aNil)) σ g = .ok z g := ok_of (by rw [wp_eCall, wp_aCons, h1, wp_ok, wp_aCons, h2, wp_ok, aNil_ok, wp_ok, h, wp_ok]; exact ⟨rfl, rfl⟩)
theorem cls_v {cn : Str} {f : Fn} (h1 : e1 σ g = .ok x g) (h : f [.glo cn, x] g = .ok z g) : eClsM cn f (aCons e1 aNil) σ g = .ok z g := call1_v (f := fun ds => f (.glo cn :: ds)) h1 h
theorem or_no {ta tb : Tv} (h1 : ta σ g = .ok false g) (h2 : tb σ g = .ok false g) : eOrT ta tb σ g = .ok false g := by
  unfold eOrT
  rw [h1]
  exact h2
theorem nt_no (h : e σ g = .ok (.bl true) g) : eNotT (eTru e) σ g = .ok false g := by
  unfold eNotT eTru
  rw [h]
  rfl
theorem ts_no (h : e σ g = .ok (.bl false) g) : eTst e σ g = .ok false g := by
  unfold eTst
  rw [h]
  try rfl
theorem if_no {t : Tv} {A r : Sx} {N B C : Sg → G → Prop} {R : D → G → Prop} (h : t σ g = .ok false g) (q : (r σ g).wp N R B C) : (sCons (sIf t A sNil) r σ g).wp N R B C := by
  rw [wp_cons, wp_if, h, wp_ok, pick_f, wp_nil]
  exact q
theorem nneq_v (h : a = b) (he1 : e1 σ g = .ok (sT a) g) (he2 : e2 σ g = .ok (sT b) g) : eOp (oNeO [("SignTable", f_SignTable___eq__)] own oNe) e1 e2 σ g = .ok (.bl false) g := op_v he1 he2 (by rw [ne_t, decide_eq_true h]; rfl)
end
end LW
namespace LW
open PySem PySem.Spec L2 AW
/-! ### texts as rows of signs -/
abbrev num (n : Nat) : List Nat := TL.numL n
def sD (l : List Nat) : D := .str (SX.S l)
theorem sD_of (s : Str) : D.str s = sD s.cps.toList := by
  unfold sD
  rw [SX.S_tl]
def figs : List Nat := [48, 49, 50, 51, 52, 53, 54, 55, 56, 57]
def fig (l : List Nat) : List Nat := if l.take 1 = [45] then l.drop 1 else l
def tw (l : List Nat) : Bool := (decide (1 ≤ (fig l).length) && decide ((fig l).length ≤ 2)) && (decide ((fig l).take 1 ≠ [48]) && (fig l).all fun c => decide (c ∈ figs))
def vl (l : List Nat) : Int := (PySem.intText? (SX.S l)).getD 0
def wds (l : List Nat) : List (List Nat) := TL.spl [32] 0 [] l
def msk (l : List Nat) : List Int := (wds l).map vl
def Mk (a : List Int) : Bool := (decide (1 ≤ a.length) && decide (a.length ≤ 64)) && decide (isrt (absL a) = Im a.length)
def okT (l : List Nat) : Bool := (wds l).all tw && Mk (msk l)
theorem mem_figs {c : Nat} : c ∈ figs ↔ 48 ≤ c ∧ c ≤ 57 := by
  unfold figs
  simp only [List.mem_cons, List.not_mem_nil, or_false]
  omega
theorem dv_le {r : List Nat} (h : PySem.NumText.AllDigits r) (hl : r.length ≤ 2) : PySem.NumText.digitsVal r ≤ 99 := by
  match r, h, hl with
  | [], _, _ => exact Nat.zero_le _
  | [a], h, _ =>
    have := h a (by simp)
    show 0 * 10 + (a - 48) ≤ 99
    omega
  | [a, b], h, _ =>
    have h1 := h a (by simp)
    have h2 := h b (by simp)
    show (0 * 10 + (a - 48)) * 10 + (b - 48) ≤ 99
    omega
  | _ :: _ :: _ :: _, _, hl => simp at hl
theorem tw_int {l : List Nat} (h : tw l = true) : PySem.intText? (SX.S l) = some (vl l) ∧ l.length ≤ 3 ∧ -100 < vl l ∧ vl l < 100 := by
  unfold tw at h
  simp only [Bool.and_eq_true, decide_eq_true_eq, List.all_eq_true] at h
  obtain ⟨⟨h1, h2⟩, h3, h4⟩ := h
  have hd : PySem.NumText.AllDigits (fig l) := fun c hc => mem_figs.1 (h4 c hc)
  have hn : fig l ≠ [] := fun e => by rw [e] at h1; simp at h1
  have hv := dv_le hd h2
  have key : ∃ z : Int, PySem.intText? (SX.S l) = some z ∧ -100 < z ∧ z < 100 ∧ l.length ≤ 3 := by
    by_cases h0 : l.take 1 = [45]
    · have hf : fig l = l.drop 1 := if_pos h0
      have hl : l = 45 :: fig l := by
        cases l with
        | nil => simp at h0
        | cons x r =>
          have : x = 45 := by simpa using h0
          subst this
          rw [hf]
          rfl
      have ll : l.length = (fig l).length + 1 := by rw [hf, List.length_drop]; rw [hf] at h1; rw [List.length_drop] at h1; omega
      refine ⟨_, PySem.intText_neg (x := SX.S l) (cs := fig l) hl hd hn (by rw [SX.S_len]; omega), by omega, by omega, by omega⟩
    · have hf : fig l = l := if_neg h0
      rw [hf] at hd hn hv h2
      exact ⟨((NumText.digitsVal l : Nat) : Int), PySem.intText_digits (x := SX.S l) hd hn (by rw [SX.S_len]; omega), by omega, by omega, by omega⟩
  obtain ⟨z, e, h5, h6, h7⟩ := key
  have ev : vl l = z := by
    unfold vl
    rw [e]
    rfl
  rw [ev]
  exact ⟨e, h7, h5, h6⟩
/-! ### the rules of texts -/
section
variable {g : G} {σ : Sg} {a b : List Nat}
theorem txt_num (n : Nat) : (Str.ofString (toString ((n : Nat) : Int))) = SX.S (num n) := TL.ext_tl (TL.tl_num n)
def zt (m : Int) : List Nat := if m < 0 then 45 :: num m.natAbs else num m.natAbs
theorem txt_z (m : Int) : Str.ofString (toString m) = SX.S (zt m) := by
  cases m with
  | ofNat n => exact txt_num n
  | negSucc n =>
    have e : toString (Int.negSucc n) = "-" ++ toString (n + 1) := rfl
    have e2 : zt (Int.negSucc n) = 45 :: num (n + 1) := if_pos (Int.negSucc_lt_zero n)
    rw [e, e2]
    refine TL.ext_tl ?_
    show (Str.ofString ("-" ++ toString (n + 1))).cps.toList = 45 :: (Nat.toDigits 10 (n + 1)).map Char.toNat
    rw [PyProof.Rows.signs_ofString, String.toList_append, List.map_append]
    show [45] ++ (Nat.repr (n + 1)).toList.map Char.toNat = _
    rw [Nat.toList_repr]
    rfl
theorem num_len {n : Nat} (h : n < 10 ^ 40) : (num n).length ≤ 40 := TL.numL_len (by decide) h
theorem zt_len {m : Int} (h : m.natAbs < 10 ^ 40) : (zt m).length ≤ 41 := by
  have := num_len h
  unfold zt
  split
  · rw [List.length_cons]
    omega
  · omega
theorem log_ok {m : Int} (h : m.natAbs < 10 ^ 40) : m.natAbs.log2 < 1920 := by
  by_cases h0 : m.natAbs = 0
  · rw [h0]
    decide
  · rw [Nat.log2_lt h0]
    exact Nat.lt_trans h (by decide +kernel)
theorem str_z {m : Int} (h : m.natAbs < 10 ^ 40) : fStr [.int m] g = .ok (sD (zt m)) g := by
  show okIf (showOk (.int m)) (D.str (strP (.int m))) g = _
  have l := zt_len h
  have e : showOk (.int m) = true := by
    unfold showOk
    rw [show (PyData.int m).showable = decide (m.natAbs.log2 < 1920) from rfl, decide_eq_true (log_ok h), show (PyData.int m).depth = 0 from rfl, show (PyData.int m).shown.length = (Str.ofString (toString m)).length from rfl, txt_z, SX.S_len, decide_eq_true (by omega), decide_eq_true (by omega)]
    rfl
  rw [e]
  show Res.ok (D.str (Str.ofString (toString m))) g = _
  rw [txt_z]
  rfl
theorem add_s (h : a.length + b.length ≤ 100000) : oAdd (sD a) (sD b) g = .ok (sD (a ++ b)) g := by
  show okIf (decide ((SX.S a).length + (SX.S b).length ≤ 100000)) (D.str (SX.S a ++ SX.S b)) g = _
  rw [SX.S_len, SX.S_len, decide_eq_true h, SX.S_cat]
  rfl
theorem ne_s : oNe (sD a) (sD b) g = .ok (.bl (!decide (a = b))) g := by
  show Res.ok (D.bl (!(SX.S a == SX.S b))) g = _
  rw [SX.S_beq_eq]
theorem eq_s : oEq (sD a) (sD b) g = .ok (.bl (decide (a = b))) g := by
  show Res.ok (D.bl (SX.S a == SX.S b)) g = _
  rw [SX.S_beq_eq]
theorem len_s (h : a.length ≤ 100000) : fLen [sD a] g = .ok (.int (a.length : Int)) g := by
  show (if (SX.S a).length ≤ 100000 then Res.ok (D.int ((SX.S a).length : Int)) g else .no) = _
  rw [if_pos (by rw [SX.S_len]; exact h), SX.S_len]
def cutL (l : List Nat) (lo hi : Option Int) : List Nat := (l.drop (HT.sIx l.length 0 lo)).take (HT.sIx l.length l.length hi - HT.sIx l.length 0 lo)
theorem cutL_len {lo hi : Option Int} : (cutL a lo hi).length ≤ a.length := by
  unfold cutL
  rw [List.length_take, List.length_drop]
  omega
theorem sl_s {lo hi : Option Int} (h : a.length ≤ 100000) : slD g (sD a) lo hi = .ok (sD (cutL a lo hi)) g := by
  show (if (SX.S a).length ≤ 100000 then Res.ok (D.str (cutS (SX.S a) lo hi)) g else .no) = _
  rw [if_pos (by rw [SX.S_len]; exact h)]
  unfold cutS
  rw [SX.S_len]
  rfl
theorem cut_to1 : cutL a none (some 1) = a.take 1 := by
  unfold cutL
  rw [show (1 : Int) = ((1 : Nat) : Int) from rfl, HT.sIx_nat]
  show (a.drop 0).take (min 1 a.length - 0) = _
  rw [List.drop_zero, Nat.sub_zero]
  cases a with
  | nil => rfl
  | cons x a => rw [List.length_cons, Nat.min_eq_left (by omega)]
theorem cut_from1 : cutL a (some 1) none = a.drop 1 := by
  unfold cutL
  rw [show (1 : Int) = ((1 : Nat) : Int) from rfl, HT.sIx_nat]
  show (a.drop (min 1 a.length)).take (a.length - min 1 a.length) = _
  cases a with
  | nil => rfl
  | cons x a =>
    rw [List.length_cons, Nat.min_eq_left (by omega)]
    exact List.take_of_length_le (by rw [List.length_drop, List.length_cons]; omega)
theorem at_s {c : Nat} (h : (c :: a).length ≤ 100000) : oIx (sD (c :: a)) (.int 0) g = .ok (sD [c]) g := by
  show (if (SX.S (c :: a)).length ≤ 100000 then (match atI (c :: a) 0 with | some c => Res.ok (D.str ⟨#[c]⟩) g | none => .no) else .no) = _
  have e : atI (c :: a) (0 : Int) = some c := by
    unfold atI ixN
    rw [if_pos (Int.le_refl 0), if_pos (by rw [List.length_cons]; omega)]
    rfl
  rw [if_pos (by rw [SX.S_len]; exact h), e]
  rfl
theorem sx_figs : D.str "0123456789" = sD figs := rfl
theorem sx_blank : D.str " " = sD [32] := rfl
theorem sx_minus : D.str "-" = sD [45] := rfl
theorem sx_0 : D.str "0" = sD [48] := rfl
theorem sx_e : D.str "" = sD [] := rfl
theorem in_s {c : Nat} : oIn false (sD [c]) (sD a) g = .ok (.bl (decide (c ∈ a))) g := by
  show Res.ok (D.bl (!(Builtin.Str.occurrences (SX.S a) (SX.S [c]) 0 (SX.S a).length 1).isEmpty)) g = _
  rw [SX.in_one]
theorem nin_s {c : Nat} : oIn true (sD [c]) (sD a) g = .ok (.bl (!decide (c ∈ a))) g := by
  show Res.ok (D.bl (!(!(Builtin.Str.occurrences (SX.S a) (SX.S [c]) 0 (SX.S a).length 1).isEmpty))) g = _
  rw [SX.in_one]
theorem iv_s : ivStr (sD a) g = .ok (.fix (a.map fun c => sD [c])) g := rfl
theorem split_s (h : a.length ≤ 90000) : splitD (SX.S a) (sD [32]) g = .ok (.lst ((wds a).map sD)) g := by
  show okIf (decide ((SX.S [32]).length ≠ 0) && decide ((SX.S a).length ≤ 90000)) (D.lst ((Txt.split (SX.S a) (SX.S [32])).map D.str)) g = _
  rw [SX.S_len, SX.S_len, decide_eq_true (show [32].length ≠ 0 by decide), decide_eq_true h, SX.split_S (by simp) (by decide), List.map_map]
  rfl
theorem wd_len {w : List Nat} (h : w ∈ wds a) : w.length ≤ a.length := by
  have h1 : SX.S w ∈ Txt.split (SX.S a) (SX.S [32]) := by
    rw [SX.split_S (by simp) (by decide)]
    exact List.mem_map_of_mem h
  have h2 := PyProof.Rows.part_short h1
  rw [SX.S_len, SX.S_len] at h2
  exact h2
theorem wds_len : 1 ≤ (wds a).length ∧ (wds a).length ≤ a.length + 2 := by
  have h1 := PyProof.Rows.split_pos (SX.S a) (SX.S [32])
  have h2 := PyProof.Rows.split_le (SX.S a) (SX.S [32])
  rw [SX.split_S (by simp) (by decide), List.length_map] at h1 h2
  rw [SX.S_len] at h2
  exact ⟨h1, h2⟩
theorem int_s (h : tw a = true) : fIntT [sD a] g = .ok (.int (vl a)) g := by
  obtain ⟨h1, h2, _, _⟩ := tw_int h
  show (match PySem.intText? (SX.S a) with | some n => okIf (decide ((SX.S a).length ≤ 640)) (D.int n) g | none => .no) = _
  rw [h1]
  show okIf (decide ((SX.S a).length ≤ 640)) (D.int (vl a)) g = _
  rw [SX.S_len, decide_eq_true (by omega)]
  rfl
end
end LW
namespace LW
open PySem PySem.Spec L2 AW
/-! ### values of expressions -/
section
variable {g : G} {σ : Sg} {e e1 e2 e3 : Ev} {x y z : D}
theorem wp_val {e : Ev} {d : D} {Q : D → G → Prop} (h : e σ g = .ok d g) (q : Q d g) : (e σ g).wp Q := by
  rw [h]
  exact q
theorem nt_v {e : Ev} {b : Bool} (h : e σ g = .ok (.bl b) g) : eNotT (eTru e) σ g = .ok (!b) g := by
  unfold eNotT eTru
  rw [h]
  rfl
theorem tr_v {e : Ev} {b : Bool} (h : e σ g = .ok (.bl b) g) : eTru e σ g = .ok b g := by
  unfold eTru
  rw [h]
  rfl
theorem ts_v {e : Ev} {b : Bool} (h : e σ g = .ok (.bl b) g) : eTst e σ g = .ok b g := by
  unfold eTst
  rw [h]
  try rfl
theorem or_v {ta tb : Tv} {p q : Bool} (h1 : ta σ g = .ok p g) (h2 : p = false → tb σ g = .ok q g) : eOrT ta tb σ g = .ok (p || q) g := by
  unfold eOrT
  rw [h1]
  cases p
  · exact h2 rfl
  · rfl
theorem if_v {t : Tv} {A r : Sx} {k : Bool} {N B C : Sg → G → Prop} {R : D → G → Prop} (h : t σ g = .ok k g) (q1 : k = true → (A σ g).wp (fun s1 g1 => (r s1 g1).wp N R B C) R B C) (q2 : k = false → (r σ g).wp N R B C) : (sCons (sIf t A sNil) r σ g).wp N R B C := by
  rw [wp_cons, wp_if, h, wp_ok]
  cases k with
  | true => rw [pick_t]; exact q1 rfl
  | false => rw [pick_f, wp_nil]; exact q2 rfl
theorem set_v {i : Nat} {e : Ev} {r : Sx} {d : D} {N B C : Sg → G → Prop} {R : D → G → Prop} (h : e σ g = .ok d g) (q : (r (σ.set i (some d)) g).wp N R B C) : (sCons (sSet i e) r σ g).wp N R B C := by
  rw [wp_cons, wp_set, h, wp_ok]
  exact q
theorem ret_v {e : Ev} {r : Sx} {d : D} {N B C : Sg → G → Prop} {R : D → G → Prop} (h : e σ g = .ok d g) (q : R d g) : (sCons (sRet e) r σ g).wp N R B C := by
  rw [wp_cons, wp_ret, h, wp_ok]
  exact q
theorem eif_v {ta : Tv} {a b : Ev} {k : Bool} (h : ta σ g = .ok k g) (h1 : k = true → a σ g = .ok z g) (h2 : k = false → b σ g = .ok z g) : eIf ta a b σ g = .ok z g := ok_of (by
  rw [wp_eIf, h, wp_ok]
  cases k
  · rw [pick_f, h2 rfl, wp_ok]; exact ⟨rfl, rfl⟩
  · rw [pick_t, h1 rfl, wp_ok]; exact ⟨rfl, rfl⟩)
theorem and_v {p : Bool} (h1 : e1 σ g = .ok (.bl p) g) (h2 : p = true → e2 σ g = .ok z g) (h3 : p = false → z = .bl false) : eAnd e1 e2 σ g = .ok z g := by
  unfold eAnd
  rw [h1]
  cases p
  · rw [h3 rfl]
    rfl
  · show (match Res.ok true g with | .ok c _ => (match c with | true => e2 σ g | false => Res.ok (D.bl true) g) | .ex e g => .ex e g | .no => .no) = _
    exact h2 rfl
theorem sl_v {a : List Nat} {lo hi : Ov} {l r : Option Int} (h : e σ g = .ok (sD a) g) (h1 : lo σ g = .ok l g) (h2 : hi σ g = .ok r g) (hl : a.length ≤ 100000) : eSl e lo hi σ g = .ok (sD (cutL a l r)) g := by
  unfold eSl
  rw [h]
  dsimp only [Res.bind]
  rw [h1]
  dsimp only
  rw [h2]
  exact sl_s hl
theorem chain_v {f f' : Op2} {p q : Bool} {w : D} (h1 : e1 σ g = .ok x g) (h2 : e2 σ g = .ok y g) (h3 : f x y g = .ok (.bl p) g) (h4 : e3 σ g = .ok w g) (h5 : f' y w g = .ok (.bl q) g) : eChain f f' e1 e2 e3 σ g = .ok (.bl (p && q)) g := by
  unfold eChain
  rw [h1]
  dsimp only [Res.bind]
  rw [h2]
  dsimp only
  rw [h3]
  cases p
  · rfl
  · show (e3 σ g).bind (fun w g4 => f' y w g4) = _
    rw [h4]
    exact h5
theorem lc_v {iv : Ivv} {gv : Gv} {tt : Tv} {te : Ev} {vs : List Nat} {xs ys : List D} (h : iv σ g = .ok (.fix xs) g) (h1 : lcL gv tt te (wipeD σ vs) xs g = .ok ys g) (h2 : ys.length ≤ 100000) : eLc iv gv tt te vs σ g = .ok (.lst ys) g := ok_of (by
  rw [wp_eLc, h, wp_ok, wp_noEx, lcAll_fix, h1, wp_ok]
  exact ⟨small_le h2, rfl, rfl⟩)
theorem istr_v {a : List Nat} (h : e σ g = .ok (sD a) g) : iStrS e σ g = .ok (.fix (a.map fun c => sD [c])) g := by
  unfold iStrS
  rw [h]
  exact iv_s
theorem iseq_v {xs : List D} (h : e σ g = .ok (.lst xs) g) : iSeq e σ g = .ok (.fix xs) g := by
  unfold iSeq
  rw [h]
  rfl
theorem iseqT_v {xs : List D} (h : e σ g = .ok (.tup xs) g) : iSeq e σ g = .ok (.fix xs) g := by
  unfold iSeq
  rw [h]
  rfl
theorem split_v {a : List Nat} (h : e1 σ g = .ok (sD a) g) (h2 : e2 σ g = .ok (sD [32]) g) (hl : a.length ≤ 90000) : eSplitS e1 e2 σ g = .ok (.lst ((wds a).map sD)) g := by
  unfold eSplitS
  rw [h]
  show (e2 σ g).bind (fun y g2 => splitD (SX.S a) y g2) = _
  rw [h2]
  exact split_s hl
theorem lcL_flt {α : Type} {gv : Gv} {tt : Tv} {te : Ev} {s : Sg} (P F : α → D) (p : α → Bool) : ∀ xs : List α, (∀ x ∈ xs, ∃ s1, gv (P x) s g = some (s1, g) ∧ tt s1 g = .ok (p x) g ∧ te s1 g = .ok (F x) g) → lcL gv tt te s (xs.map P) g = .ok ((xs.filter p).map F) g
  | [], _ => rfl
  | x :: xs, h => by
    obtain ⟨s1, h1, h2, h3⟩ := h x (List.mem_cons_self ..)
    have ih := lcL_flt P F p xs fun y hy => h y (List.mem_cons_of_mem _ hy)
    rw [List.map_cons, lcL_cons]
    unfold lcT
    rw [h1]
    dsimp only
    rw [h2]
    cases hp : p x
    · dsimp only
      rw [ih, List.filter_cons, hp]
      rfl
    · dsimp only
      rw [h3]
      dsimp only
      rw [ih, List.filter_cons, hp]
      rfl
theorem ne_nil {xs : List D} : oNe (.lst xs) (.lst []) g = .ok (.bl (!xs.isEmpty)) g := by
  cases xs with
  | nil => rfl
  | cons x xs =>
    have e : eqD g (.lst (x :: xs)) (.lst []) = some false := by
      show (match pyG g (.lst (x :: xs)), pyG g (.lst []) with | some p, some q => if (SeqAt.shaped p && SeqAt.shaped q) = true then some (PyData.eqv p q) else lenNe g (.lst (x :: xs)) (.lst []) | _, _ => lenNe g (.lst (x :: xs)) (.lst [])) = _
      have hn : lenNe g (.lst (x :: xs)) (.lst []) = some false := rfl
      have h2 : pyG g (.lst []) = some (.list []) := rfl
      rw [h2, hn]
      cases h : pyG g (.lst (x :: xs)) with
      | none => rfl
      | some p =>
        have hp : ∃ q qs, p = .list (q :: qs) := by
          have h' : D.py (.lst (x :: xs)) = some p := h
          rw [D.py] at h'
          cases hq : D.pys (x :: xs) with
          | none => rw [hq] at h'; cases h'
          | some ps =>
            rw [hq] at h'
            cases h'
            rw [D.pys] at hq
            split at hq
            · cases hq
              exact ⟨_, _, rfl⟩
            · cases hq
        obtain ⟨q, qs, rfl⟩ := hp
        dsimp only
        split
        · rw [PyData.eqv, PyData.eqvAll]
        · rfl
    unfold oNe
    rw [e]
    rfl
theorem ne_no {ps : List (Str × Fn)} {ow : List Str} {f : Op2} {x y : D} (h : insOf g x = none) : oNeO ps ow f x y g = f x y g := by
  unfold oNeO
  rw [h]
end
end LW
namespace LW
open PySem PySem.Spec L2 AW
/-! ### words -/
section
variable {g : G} {a : List Nat}
theorem fig_len : (fig a).length ≤ a.length := by
  unfold fig
  split
  · rw [List.length_drop]
    omega
  · exact Nat.le_refl _
theorem fig_v {σ : Sg} {e : Ev} (h : e σ g = .ok (sD a) g) (hl : a.length ≤ 100000) : eIf (eTst (eOp oEq (eSl e oNo (oPart (eC (.int 1)))) (eC (.str "-")))) (eSl e (oPart (eC (.int 1))) oNo) e σ g = .ok (sD (fig a)) g := by
  refine eif_v (k := decide (a.take 1 = [45])) (ts_v (op_v (sl_v h rfl rfl hl) (eC_ok ..) (by rw [cut_to1, sx_minus]; exact eq_s))) (fun hk => ?_) fun hk => ?_
  · have hk := of_decide_eq_true hk
    have q : eSl e (oPart (eC (.int 1))) oNo σ g = _ := sl_v h rfl rfl hl
    rw [q, cut_from1]
    unfold fig
    rw [if_pos hk]
  · have hk := of_decide_eq_false hk
    unfold fig
    rw [h, if_neg hk]
theorem told_w (hl : a.length ≤ 90000) : f_is_told [sD a] g = .ok (.bl (tw a)) g := by
  refine ok_of (wp_callS rfl ?_)
  unfold b_is_told
  rw [show (List.map some [sD a] ++ List.replicate (3 - 1) none) = [some (sD a), none, none] from rfl]
  refine set_v (fig_v (a := a) rfl (by omega)) ?_
  show SRes.wp (sCons _ _ [some (sD a), some (sD (fig a)), none] g) _ _ _ _
  have lf := fig_len (a := a)
  unfold tw
  generalize fig a = F at *
  have d1 : decide ((1 : Int) ≤ (F.length : Int)) = decide (1 ≤ F.length) := decide_eq_decide.2 (by omega)
  have d2 : decide ((F.length : Int) ≤ 2) = decide (F.length ≤ 2) := decide_eq_decide.2 (by omega)
  refine ret_v (and_v (z := .bl ((decide (1 ≤ F.length) && decide (F.length ≤ 2)) && (decide (F.take 1 ≠ [48]) && F.all fun c => decide (c ∈ figs)))) (chain_v (y := .int (F.length : Int)) (w := .int 2) (eC_ok ..) (call1_v rfl (len_s (by omega))) (by rw [oLe_ii, d1]) (eC_ok ..) (by rw [oLe_ii, d2])) (fun hp => ?_) fun hp => by rw [hp]; rfl) ⟨rfl, rfl, rfl⟩
  rw [hp, Bool.true_and]
  simp only [Bool.and_eq_true, decide_eq_true_eq] at hp
  cases F with
  | nil => simp at hp
  | cons c r =>
    refine and_v (p := decide ((c :: r).take 1 ≠ [48])) (op_v (x := sD [c]) (op_v (x := sD (c :: r)) rfl (eC_ok ..) (at_s (by omega))) (eC_ok ..) (by rw [sx_0, ne_s]; simp)) (fun hq => ?_) fun hq => by rw [hq]; rfl
    rw [hq, Bool.true_and]
    refine call1_v (x := .lst ((c :: r).map fun x => D.bl (decide (x ∈ figs)))) (lc_v (istr_v (a := c :: r) rfl) ?_ (by rw [List.length_map]; omega)) fAll_map
    refine lcL_a (fun x => sD [x]) _ (c :: r) fun x hx => ⟨[some (sD a), some (sD (c :: r)), some (sD [x])], rfl, ?_⟩
    exact op_v (x := sD [x]) rfl (eC_ok ..) (by rw [sx_figs]; exact in_s)
theorem mark_w (hl : a.length ≤ 90000) : f_law_mark [sD a] g = .ok (if tw a then .int (vl a) else .non) g := by
  refine ok_of (wp_callS rfl ?_)
  unfold b_law_mark
  rw [show (List.map some [sD a] ++ List.replicate (3 - 1) none) = [some (sD a), none, none] from rfl]
  refine set_v (fig_v (a := a) rfl (by omega)) ?_
  show SRes.wp (sCons _ _ [some (sD a), some (sD (fig a)), none] g) _ _ _ _
  have lf := fig_len (a := a)
  have hi := int_s (a := a) (g := g)
  have htw : tw a = ((decide (1 ≤ (fig a).length) && decide ((fig a).length ≤ 2)) && (decide ((fig a).take 1 ≠ [48]) && (fig a).all fun c => decide (c ∈ figs))) := rfl
  generalize tw a = T at *
  generalize fig a = F at *
  have d2 : decide ((2 : Int) < (F.length : Int)) = decide (2 < F.length) := decide_eq_decide.2 (by omega)
  refine if_v (or_v (p := decide (F = [])) (q := decide (F.take 1 = [48]) || decide (2 < F.length)) (ts_v (op_v (x := sD F) rfl (eC_ok ..) (by rw [sx_e]; exact eq_s))) fun hp => ?_) (fun hk => ?_) fun hk => ?_
  · have hp := of_decide_eq_false hp
    cases F with
    | nil => exact absurd rfl hp
    | cons c r => exact or_v (ts_v (op_v (x := sD [c]) (op_v (x := sD (c :: r)) rfl (eC_ok ..) (at_s (by omega))) (eC_ok ..) (by rw [sx_0, eq_s]; simp))) fun _ => ts_v (op_v (call1_v (x := sD (c :: r)) rfl (len_s (by omega))) (eC_ok ..) (by rw [oGt_ii, d2]))
  · have e : T = false := by
      rw [htw]
      simp only [Bool.or_eq_true, decide_eq_true_eq] at hk
      rcases hk with rfl | hk | hk
      · rfl
      · rw [show decide (F.take 1 ≠ [48]) = false from decide_eq_false (fun q => q hk), Bool.false_and, Bool.and_false]
      · rw [show decide (F.length ≤ 2) = false from decide_eq_false (by omega), Bool.and_false, Bool.false_and]
    rw [e]
    exact ret_v (eC_ok ..) ⟨rfl, rfl, rfl⟩
  · simp only [Bool.or_eq_false_iff, decide_eq_false_iff_not] at hk
    obtain ⟨h1, h2, h3⟩ := hk
    have h0 : 1 ≤ F.length := Nat.pos_of_ne_zero fun q => h1 (List.eq_nil_of_length_eq_zero q)
    have e : T = F.all fun c => decide (c ∈ figs) := by
      rw [htw, decide_eq_true h0, decide_eq_true (show F.length ≤ 2 by omega), decide_eq_true h2]
      rfl
    have lcf : (eLc (iStrS (eVar 1)) (gvName 2) (eTst (eOp (oIn true) (eVar 2) (eC (.str "0123456789")))) (eVar 2) [2]) [some (sD a), some (sD F), none] g = .ok (.lst ((F.filter fun c => !decide (c ∈ figs)).map fun c => sD [c])) g :=
      lc_v (istr_v (a := F) rfl) (lcL_flt (fun x => sD [x]) (fun x => sD [x]) (fun c => !decide (c ∈ figs)) F fun x hx => ⟨[some (sD a), some (sD F), some (sD [x])], rfl, ts_v (op_v (x := sD [x]) rfl (eC_ok ..) (by rw [sx_figs]; exact nin_s)), rfl⟩) (by
        rw [List.length_map]
        have := List.length_filter_le (fun c => !decide (c ∈ figs)) F
        omega)
    have ef : (!((F.filter fun c => !decide (c ∈ figs)).map fun c => sD [c]).isEmpty) = !T := by
      rw [e, List.isEmpty_map]
      congr 1
      rw [Bool.eq_iff_iff, List.isEmpty_iff, List.filter_eq_nil_iff, List.all_eq_true]
      simp
    refine if_v (ts_v (op_v lcf rfl ne_nil)) (fun hk => ?_) fun hk => ?_
    · rw [ef] at hk
      rw [show T = false by simpa using hk]
      exact ret_v (eC_ok ..) ⟨rfl, rfl, rfl⟩
    · rw [ef] at hk
      have ht : T = true := by simpa using hk
      rw [ht]
      exact ret_v (call1_v (x := sD a) rfl (hi ht)) ⟨rfl, rfl, rfl⟩
end
end LW
namespace LW
open PySem PySem.Spec L2 AW
section
variable {n tot : Nat} {b : Sx} {ds : List D} {g : G} {σ σ' : Sg} {e : Exn} {d : D}
theorem callD_ex (hl : ds.length = n) (h : b (ds.map some ++ List.replicate (tot - n) none) g = .ex σ e g) : callD n tot b ds g = .ex e g := by
  unfold callD
  rw [if_pos hl, h]
  exact if_pos rfl
theorem set_ok {a : Ev} {i : Nat} {r : Sx} (h : a σ g = .ok d g) : sCons (sSet i a) r σ g = r (σ.set i (some d)) g := by
  unfold sCons sSet sBind
  rw [h]
theorem if_t {c : Tv} {a r : Sx} (h : c σ g = .ok true g) (h2 : a σ g = .ex σ e g) : sCons (sIf c a sNil) r σ g = .ex σ e g := by
  unfold sCons sIf sBind
  rw [h]
  dsimp only
  rw [h2]
theorem raise_ex {isStr : Bool} {c f : Str} {a : Ev} {r : Sx} (h : a σ g = .ok d g) (ok : raiseOk isStr g d = true) : sCons (sRaiseX isStr c f a) r σ g = .ex σ ⟨c, [(f, d)]⟩ g := by
  unfold sCons sRaiseX sBind
  rw [h]
  dsimp only
  rw [ok]
theorem isi_v {ow : List Str} {t : CK} {e1 : Ev} {q : Bool} (h : e1 σ g = .ok d g) (h2 : fIsi ow t d g = .ok (.bl q) g) : eIsi ow t e1 σ g = .ok (.bl q) g := ok_of (by rw [wp_eIsi, h, wp_ok, h2, wp_ok]; exact ⟨rfl, rfl⟩)
theorem ntt_v {e1 : Ev} {q : Bool} (h : e1 σ g = .ok (.bl q) g) : eNotT (eTst e1) σ g = .ok (!q) g := by
  unfold eNotT
  rw [ts_v h]
end
section
variable {g : G} {a : List Nat}
def PE : Exn := ⟨"ParseError", [("spot", .int 0)]⟩
theorem marksin_w (hl : a.length ≤ 80000) : f_marks_in [sD a] g = .ok (if (wds a).all tw then mD (msk a) else .non) g := by
  refine ok_of (wp_callS rfl ?_)
  unfold b_marks_in
  rw [show (List.map some [sD a] ++ List.replicate (3 - 1) none) = [some (sD a), none, none] from rfl]
  refine set_v (split_v (a := a) rfl rfl (by omega)) ?_
  show SRes.wp (sCons _ _ [some (sD a), some (.lst ((wds a).map sD)), none] g) _ _ _ _
  have lw := wds_len (a := a)
  refine ret_v (eif_v (k := (wds a).all tw) (tr_v (call1_v (x := .lst ((wds a).map fun w => D.bl (tw w))) (lc_v (iseq_v (xs := (wds a).map sD) rfl) (lcL_a sD _ (wds a) fun w hw => ⟨[some (sD a), some (.lst ((wds a).map sD)), some (sD w)], rfl, call1_v (x := sD w) rfl (told_w (by have := wd_len hw; omega))⟩) (by rw [List.length_map]; omega)) fAll_map)) (fun hk => ?_) fun hk => ?_) ⟨rfl, rfl, rfl⟩
  · rw [if_pos hk]
    have e : mD (msk a) = .tup ((wds a).map fun w => D.int (vl w)) := by
      unfold mD msk
      rw [List.map_map]
      rfl
    rw [e]
    exact call1_v (x := .lst ((wds a).map fun w => D.int (vl w))) (lc_v (iseq_v (xs := (wds a).map sD) rfl) (lcL_a sD _ (wds a) fun w hw => ⟨[some (sD a), some (.lst ((wds a).map sD)), some (sD w)], rfl, call1_v (x := sD w) rfl (int_s (List.all_eq_true.1 hk w hw))⟩) (by rw [List.length_map]; omega)) rfl
  · rw [if_neg (by rw [hk]; exact Bool.false_ne_true)]
    rfl
theorem marks_b {ms : List Int} (h : ∀ x ∈ ms, -100 < x ∧ x < 100) (hl : ms.length ≤ 90000) : f_are_marks [mD ms] g = .ok (.bl (Mk ms)) g := by
  have fl : fLen [mD ms] g = .ok (.int (ms.length : Int)) g := by
    show fLen [.tup (ms.map D.int)] g = _
    rw [fLen_tup, List.length_map]
  have it : fIsi own (.bt .tup) (mD ms) g = .ok (.bl true) g := isTup
  refine ok_of (wp_callS rfl ?_)
  unfold b_are_marks
  rw [show (List.map some [mD ms] ++ List.replicate (2 - 1) none) = [some (mD ms), none] from rfl]
  have d1 : decide ((1 : Int) ≤ (ms.length : Int)) = decide (1 ≤ ms.length) := decide_eq_decide.2 (by omega)
  have d2 : decide ((ms.length : Int) ≤ 64) = decide (ms.length ≤ 64) := decide_eq_decide.2 (by omega)
  have hmk : Mk ms = ((decide (1 ≤ ms.length) && decide (ms.length ≤ 64)) && decide (isrt (absL ms) = Im ms.length)) := rfl
  generalize Mk ms = M at *
  refine if_v (or_v (p := false) (nt_v (isi_v rfl it)) fun _ => ntt_v (chain_v (y := .int (ms.length : Int)) (w := .int 64) (eC_ok ..) (call1_v rfl fl) (by rw [oLe_ii, d1]) (eC_ok ..) (by rw [oLe_ii, d2]))) (fun hk => ?_) fun hk => ?_
  · have e : M = false := by
      rw [hmk]
      rw [Bool.false_or, Bool.not_eq_true'] at hk
      rw [hk]
      rfl
    rw [e]
    exact ret_v (eC_ok ..) ⟨rfl, rfl, rfl⟩
  · rw [Bool.false_or, Bool.not_eq_false'] at hk
    have e : M = decide (isrt (absL ms) = Im ms.length) := by
      rw [hmk, hk]
      rfl
    have h64 : ms.length ≤ 64 := by
      simp only [Bool.and_eq_true, decide_eq_true_eq] at hk
      exact hk.2
    have al : (ms.all fun _ => true) = true := List.all_eq_true.2 fun _ _ => rfl
    refine if_v (k := false) (nt_v (b := true) (call1_v (x := .lst (ms.map fun _ => D.bl true)) (lc_v (iseqT_v (xs := ms.map D.int) rfl) (lcL_a D.int _ ms fun x hx => ⟨[some (mD ms), some (.int x)], rfl, call1_v (x := .int x) rfl (integer_i (by have := h x hx; omega) (by have := h x hx; omega))⟩) (by rw [List.length_map]; omega)) (by rw [fAll_map, al]))) (fun hk => by cases hk) fun _ => ?_
    have r2 : (eOp oAdd (eCall fLen (aCons (eVar 0) aNil)) (eC (.int 1))) [some (mD ms), none] g = .ok (.int ((ms.length : Int) + 1)) g := op_v (call1_v rfl fl) (eC_ok ..) oAdd_ii
    have lr : (eListRg2 (eC (.int 1)) (eOp oAdd (eCall fLen (aCons (eVar 0) aNil)) (eC (.int 1)))) [some (mD ms), none] g = .ok (.lst ((Im ms.length).map D.int)) g := ok_of (by rw [wp_lrg2 rfl r2 h64]; exact ⟨rfl, rfl⟩)
    rw [e]
    refine ret_v (op_v (call1_v (x := .lst ((absL ms).map D.int)) (lc_v (iseqT_v (xs := ms.map D.int) rfl) ?_ (by unfold absL; rw [List.length_map, List.length_map]; omega)) fSrt_l) lr oEq_iL) ⟨rfl, rfl, rfl⟩
    unfold absL
    rw [List.map_map]
    exact lcL_a D.int _ ms fun x hx => ⟨[some (mD ms), some (.int x)], rfl, rfl⟩
theorem msk_b (h : (wds a).all tw = true) : ∀ x ∈ msk a, -100 < x ∧ x < 100 := fun x hx => by
  unfold msk at hx
  obtain ⟨w, hw, rfl⟩ := List.mem_map.1 hx
  have := tw_int (List.all_eq_true.1 h w hw)
  exact ⟨this.2.2.1, this.2.2.2⟩
theorem msk_len : (msk a).length = (wds a).length := List.length_map ..
theorem mk_vd {ms : List Int} (h : Mk ms = true) : Vd ms.length ms ∧ 1 ≤ ms.length ∧ ms.length ≤ 64 := by
  unfold Mk at h
  simp only [Bool.and_eq_true, decide_eq_true_eq] at h
  obtain ⟨⟨h1, h2⟩, h3⟩ := h
  refine ⟨?_, h1, h2⟩
  unfold Vd
  have p : (absL ms).Perm (Im ms.length) := by
    rw [← h3]
    exact (isrt_perm _).symm
  have e : absL ms = (ms.map Int.natAbs).map fun k : Nat => (k : Int) := by
    unfold absL
    rw [List.map_map]
    refine List.map_congr_left fun x _ => ?_
    show (if x < 0 then -x else x) = ((x.natAbs : Nat) : Int)
    split <;> omega
  rw [e] at p
  have p2 := p.map Int.toNat
  have e2 : (Int.toNat ∘ fun k : Nat => (k : Int)) = id := by
    funext k
    exact Int.toNat_natCast k
  have q : ∀ l : List Nat, (l.map fun k : Nat => (k : Int)).map Int.toNat = l := fun l => by rw [List.map_map, e2, List.map_id]
  unfold Im at p2
  rw [q, q] at p2
  exact p2
theorem vd_mk {n : Nat} {ms : List Int} (h : Vd n ms) (h1 : 1 ≤ n) (h2 : n ≤ 64) : Mk ms = true := by
  have hl := h.len
  unfold Mk
  rw [decide_eq_true (by omega), decide_eq_true (by omega), srt_abs h, hl, decide_eq_true rfl]
  rfl
end
end LW
namespace LW
open PySem PySem.Spec L2 AW
section
variable {g : G} {a : List Nat}
def wD (w : List Nat) : D := if tw w then .int (vl w) else .non
theorem isStr : fIsi own (.bt .str) (sD a) g = .ok (.bl true) g := by
  unfold sD
  generalize SX.S a = s
  kernel_rfl
/-- what the law tells of a text -/
theorem told_t (hl : a.length ≤ 80000) : f_law_told [sD a] g = .ok (if okT a then mD (msk a) else .non) g := by
  refine ok_of (wp_callS rfl ?_)
  unfold b_law_told
  rw [show (List.map some [sD a] ++ List.replicate (4 - 1) none) = [some (sD a), none, none, none] from rfl]
  have lw := wds_len (a := a)
  refine if_v (k := false) (nt_v (b := true) (isi_v rfl isStr)) (fun hk => by cases hk) fun _ => ?_
  refine set_v (d := .lst ((wds a).map wD)) (lc_v (iseq_v (split_v (a := a) rfl rfl (by omega))) (lcL_a sD wD (wds a) fun w hw => ⟨[some (sD a), none, some (sD w), none], rfl, call1_v (x := sD w) rfl (mark_w (by have := wd_len hw; omega))⟩) (by rw [List.length_map]; omega)) ?_
  show SRes.wp (sCons _ _ [some (sD a), some (.lst ((wds a).map wD)), none, none] g) _ _ _ _
  have lcf : (eLc (iSeq (eVar 1)) (gvName 3) (eTst (eOp (oIs false) (eVar 3) (eC .non))) (eVar 3) [3]) [some (sD a), some (.lst ((wds a).map wD)), none, none] g = .ok (.lst (((wds a).filter fun w => !tw w).map wD)) g :=
    lc_v (iseq_v (xs := (wds a).map wD) rfl) (lcL_flt wD wD (fun w => !tw w) (wds a) fun w hw => ⟨[some (sD a), some (.lst ((wds a).map wD)), none, some (wD w)], rfl, ts_v (op_v (x := wD w) rfl (eC_ok ..) (by unfold wD; cases tw w <;> rfl)), rfl⟩) (by
      rw [List.length_map]
      have := List.length_filter_le (fun w => !tw w) (wds a)
      omega)
  have ef : (!(((wds a).filter fun w => !tw w).map wD).isEmpty) = !(wds a).all tw := by
    rw [List.isEmpty_map]
    congr 1
    rw [Bool.eq_iff_iff, List.isEmpty_iff, List.filter_eq_nil_iff, List.all_eq_true]
    simp
  have d2 : decide ((64 : Int) < ((wds a).length : Int)) = decide (64 < (wds a).length) := decide_eq_decide.2 (by omega)
  have fl : fLen [.lst ((wds a).map wD)] g = .ok (.int ((wds a).length : Int)) g := by rw [fLen_lst, List.length_map]
  refine if_v (or_v (ts_v (op_v lcf rfl ne_nil)) fun _ => ts_v (op_v (call1_v (x := .lst ((wds a).map wD)) rfl fl) (eC_ok ..) (by rw [oGt_ii, d2]))) (fun hk => ?_) fun hk => ?_
  · rw [ef] at hk
    have e : okT a = false := by
      unfold okT Mk
      rw [msk_len]
      simp only [Bool.or_eq_true, decide_eq_true_eq, Bool.not_eq_true'] at hk
      rcases hk with hk | hk
      · rw [hk]
        rfl
      · rw [show decide ((wds a).length ≤ 64) = false from decide_eq_false (by omega), Bool.and_false, Bool.false_and, Bool.and_false]
    rw [e]
    exact ret_v (eC_ok ..) ⟨rfl, rfl, rfl⟩
  · rw [ef] at hk
    simp only [Bool.or_eq_false_iff, decide_eq_false_iff_not, Bool.not_eq_false'] at hk
    obtain ⟨ha, h64⟩ := hk
    have e1 : (wds a).map wD = (msk a).map D.int := by
      unfold msk
      rw [List.map_map]
      refine List.map_congr_left fun w hw => ?_
      show (if tw w then D.int (vl w) else .non) = D.int (vl w)
      rw [if_pos (List.all_eq_true.1 ha w hw)]
    have lm := msk_len (a := a)
    have e : okT a = decide (isrt (absL (msk a)) = Im (msk a).length) := by
      unfold okT Mk
      rw [ha, decide_eq_true (show 1 ≤ (msk a).length by omega), decide_eq_true (show (msk a).length ≤ 64 by omega)]
      rfl
    rw [e, e1]
    rw [e1, ← lm] at fl
    generalize msk a = ms at *
    have r2 : (eOp oAdd (eCall fLen (aCons (eVar 1) aNil)) (eC (.int 1))) [some (sD a), some (.lst (ms.map D.int)), none, none] g = .ok (.int ((ms.length : Int) + 1)) g := op_v (call1_v (x := .lst (ms.map D.int)) rfl fl) (eC_ok ..) oAdd_ii
    have lr : (eListRg2 (eC (.int 1)) (eOp oAdd (eCall fLen (aCons (eVar 1) aNil)) (eC (.int 1)))) [some (sD a), some (.lst (ms.map D.int)), none, none] g = .ok (.lst ((Im ms.length).map D.int)) g := ok_of (by rw [wp_lrg2 rfl r2 (by omega)]; exact ⟨rfl, rfl⟩)
    refine ret_v (eif_v (ts_v (op_v (call1_v (x := .lst ((absL ms).map D.int)) (lc_v (iseq_v (xs := ms.map D.int) rfl) ?_ (by unfold absL; rw [List.length_map, List.length_map]; omega)) fSrt_l) lr oEq_iL)) (fun hk => ?_) fun hk => ?_) ⟨rfl, rfl, rfl⟩
    · unfold absL
      rw [List.map_map]
      exact lcL_a D.int _ ms fun x hx => ⟨[some (sD a), some (.lst (ms.map D.int)), none, some (.int x)], rfl, rfl⟩
    · rw [if_pos hk]
      exact call1_v (x := .lst (ms.map D.int)) rfl rfl
    · rw [if_neg (by rw [hk]; exact Bool.false_ne_true)]
      rfl
/-- what is read from a text -/
theorem read_m (hl : a.length ≤ 80000) : (eIf (eTru (eIsi own (.bt .str) (eVar 1))) (eCall f_marks_in (aCons (eVar 1) aNil)) (eC .non)) [some (.glo "SignTable"), some (sD a), none] g = .ok (if (wds a).all tw then mD (msk a) else .non) g :=
  eif_v (k := true) (tr_v (isi_v rfl isStr)) (fun _ => call1_v (x := sD a) rfl (marksin_w hl)) fun hk => by cases hk
theorem read_ok (h : okT a = true) (hg : Cl g) (hl : a.length ≤ 80000) : f_SignTable_read [.glo "SignTable", sD a] g = .ok (sT (msk a)) g := by
  have lw := wds_len (a := a)
  unfold okT at h
  rw [Bool.and_eq_true] at h
  obtain ⟨h1, h2⟩ := h
  refine ok_of (wp_callS rfl ?_)
  unfold b_SignTable_read
  rw [show (List.map some [D.glo "SignTable", sD a] ++ List.replicate (3 - 2) none) = [some (.glo "SignTable"), some (sD a), none] from rfl]
  have e := read_m (g := g) hl
  rw [if_pos h1] at e
  refine set_v e ?_
  show SRes.wp (sCons _ _ [some (.glo "SignTable"), some (sD a), some (mD (msk a))] g) _ _ _ _
  refine if_v (k := false) (or_v (p := false) (ts_v (op_v (x := mD (msk a)) rfl (eC_ok ..) rfl)) fun _ => nt_v (b := true) (call1_v (x := mD (msk a)) rfl (by rw [marks_b (msk_b h1) (by rw [msk_len]; omega), h2]))) (fun hk => by cases hk) fun _ => ?_
  obtain ⟨v, v1, v2⟩ := mk_vd h2
  refine ret_v (d := sT (msk a)) ?_ ⟨rfl, rfl, rfl⟩
  unfold eMakeV
  exact call1_v (x := mD (msk a)) rfl (make_eq hg v v1 v2)
theorem read_no (h : okT a = false) (hl : a.length ≤ 80000) : f_SignTable_read [.glo "SignTable", sD a] g = .ex PE g := by
  have lw := wds_len (a := a)
  have e := read_m (g := g) hl
  unfold f_SignTable_read
  refine callD_ex (σ := [some (.glo "SignTable"), some (sD a), some (if (wds a).all tw then mD (msk a) else .non)]) rfl ?_
  refine (set_ok e).trans (if_t ?_ (raise_ex (eC_ok ..) (by kernel_rfl)))
  cases hk : (wds a).all tw
  · exact or_v (p := true) (q := true) (ts_v (op_v (x := .non) rfl (eC_ok ..) rfl)) fun q => by cases q
  · unfold okT at h
    rw [hk, Bool.true_and] at h
    exact or_v (p := false) (q := true) (ts_v (op_v (x := mD (msk a)) rfl (eC_ok ..) rfl)) fun _ => nt_v (b := false) (call1_v (x := mD (msk a)) rfl (by rw [marks_b (msk_b hk) (by rw [msk_len]; omega), h]))
theorem read_odd {x : D} (h : ∀ σ, (eIsi own (.bt .str) (eVar 1)) [some (.glo "SignTable"), some x, σ] g = .ok (.bl false) g) : f_SignTable_read [.glo "SignTable", x] g = .ex PE g := by
  unfold f_SignTable_read
  refine callD_ex (σ := [some (.glo "SignTable"), some x, some .non]) rfl ?_
  exact (set_ok (eif_v (k := false) (tr_v (h _)) (fun hk => by cases hk) fun _ => rfl)).trans (if_t (or_v (p := true) (q := true) (ts_v (op_v (x := .non) rfl (eC_ok ..) rfl)) fun q => by cases q) (raise_ex (eC_ok ..) (by kernel_rfl)))
theorem refd : (⟨[("InvalidTable", false), ("ParseError", true)], some (1, "ParseError"), (.pre "refused " "spot")⟩ : Cla).k.val PE g = some (.str "refused 0") := by kernel_rfl
/-- the law's reading -/
theorem lread_ex {x : D} (h : f_SignTable_read [.glo "SignTable", x] g = .ex PE g) : f_law_read [x] g = .ok (.str "refused 0") g := by
  refine callD_rt rfl ?_
  unfold b_law_read
  have e : (sCons (sRet (eAttr stab [("SignTable", f_SignTable_marks)] "marks" (eClsM "SignTable" f_SignTable_read (aCons (eVar 0) aNil)))) sNil) [some x, none] g = .ex [some x, none] PE g := by
    unfold sCons sRet sBind eAttr eClsM eCall
    have ea : (aCons (eVar 0) aNil) [some x, none] g = .ok [x] g := rfl
    rw [ea]
    dsimp only [Res.bind]
    rw [h]
  show (match (sTry (sCons (sRet (eAttr stab [("SignTable", f_SignTable_marks)] "marks" (eClsM "SignTable" f_SignTable_read (aCons (eVar 0) aNil)))) sNil) [⟨[("InvalidTable", false), ("ParseError", true)], some (1, "ParseError"), (.pre "refused " "spot")⟩]) [some x, none] g with | .nx σ' g' => sNil σ' g' | r => r) = _
  unfold sTry
  rw [e]
  dsimp only
  unfold sNets
  rw [show ([("InvalidTable", false), ("ParseError", true)] : List (Str × Bool)).lookup PE.cls = some true from by kernel_rfl]
  dsimp only
  rw [show (⟨[("InvalidTable", false), ("ParseError", true)], some (1, "ParseError"), (.pre "refused " "spot")⟩ : Cla).fit PE [some x, none] = true from by kernel_rfl]
  dsimp only
  rw [refd]
theorem lread_t (hg : Cl g) (hl : a.length ≤ 80000) : f_law_read [sD a] g = .ok (if okT a then mD (msk a) else .str "refused 0") g := by
  cases h : okT a
  · exact lread_ex (read_no h hl)
  · refine callD_rt rfl ?_
    unfold b_law_read
    have e : (eAttr stab [("SignTable", f_SignTable_marks)] "marks" (eClsM "SignTable" f_SignTable_read (aCons (eVar 0) aNil))) [some (sD a), none] g = .ok (mD (msk a)) g := pr_at (cls_v (x := sD a) rfl (read_ok h hg hl)) sMk marks_m
    show (match (sTry (sCons (sRet (eAttr stab [("SignTable", f_SignTable_marks)] "marks" (eClsM "SignTable" f_SignTable_read (aCons (eVar 0) aNil)))) sNil) [⟨[("InvalidTable", false), ("ParseError", true)], some (1, "ParseError"), (.pre "refused " "spot")⟩]) [some (sD a), none] g with | .nx σ' g' => sNil σ' g' | r => r) = _
    unfold sTry sCons sRet sBind
    rw [e]
    rfl
end
end LW
namespace LW
open PySem PySem.Spec L2 AW
/-! ### the text of a table -/
def dueL (ms : List Int) : List Nat := TL.joinL [32] (ms.map zt)
theorem zt_all : ((List.range' 1 64).all fun n => tw (num n) && tw (45 :: num n)) = true := by decide +kernel
theorem zt_tw {m : Int} (h1 : 1 ≤ m.natAbs) (h2 : m.natAbs ≤ 64) : tw (zt m) = true := by
  have := List.all_eq_true.1 zt_all m.natAbs (List.mem_range'_1.2 (by omega))
  rw [Bool.and_eq_true] at this
  unfold zt
  split
  · exact this.2
  · exact this.1
theorem zt_vl {m : Int} (h2 : m.natAbs ≤ 64) : vl (zt m) = m := by
  have hl : (num m.natAbs).length ≤ 40 := num_len (Nat.lt_of_le_of_lt h2 (by decide))
  unfold vl zt
  split
  · rename_i h
    rw [PySem.intText_neg (x := SX.S (45 :: num m.natAbs)) (cs := num m.natAbs) rfl (TL.numL_digits _) (TL.numL_ne _) (by rw [SX.S_len, List.length_cons]; omega), TL.numL_val]
    show (-(m.natAbs : Int)) = m
    omega
  · rename_i h
    rw [PySem.intText_digits (x := SX.S (num m.natAbs)) (TL.numL_digits _) (TL.numL_ne _) (by rw [SX.S_len]; omega)]
    show ((NumText.digitsVal (num m.natAbs) : Nat) : Int) = m
    rw [TL.numL_val]
    omega
theorem zt_free (m : Int) : 32 ∉ zt m := by
  have h : 32 ∉ num m.natAbs := TL.numL_free (by omega)
  unfold zt
  split
  · intro q
    rcases List.mem_cons.1 q with q | q
    · cases q
    · exact h q
  · exact h
theorem zt_ne (m : Int) : zt m ≠ [] := by
  unfold zt
  split
  · exact fun q => by cases q
  · exact TL.numL_ne _
theorem due_wds {ms : List Int} (h : ms ≠ []) : wds (dueL ms) = ms.map zt := by
  unfold wds dueL
  refine TL.spl_join (fun q => h (List.map_eq_nil_iff.1 q)) fun p hp => ?_
  obtain ⟨m, _, rfl⟩ := List.mem_map.1 hp
  exact zt_free m
theorem due_ok {n : Nat} {ms : List Int} (h : Vd n ms) (h1 : 1 ≤ n) (h2 : n ≤ 64) : okT (dueL ms) = true ∧ msk (dueL ms) = ms := by
  have hl := h.len
  have hn : ms ≠ [] := fun q => by subst q; simp at hl; omega
  have e : msk (dueL ms) = ms := by
    unfold msk
    rw [due_wds hn, List.map_map]
    refine (List.map_congr_left (g := id) fun m hm => ?_).trans (List.map_id _)
    exact zt_vl (by have := h.mem hm; omega)
  refine ⟨?_, e⟩
  unfold okT
  rw [e, due_wds hn, vd_mk h h1 h2, Bool.and_true, List.all_eq_true]
  intro w hw
  obtain ⟨m, hm, rfl⟩ := List.mem_map.1 hw
  have := h.mem hm
  exact zt_tw this.1 (by omega)
theorem joinL_snoc (S : List Nat) (x : List Nat) : ∀ l : List (List Nat), TL.joinL S (l ++ [x]) = if l = [] then x else TL.joinL S l ++ S ++ x
  | [] => rfl
  | [p] => by
    show p ++ (S ++ x) = _
    rw [if_neg (fun q => by cases q)]
    show _ = p ++ S ++ x
    rw [List.append_assoc]
  | p :: q :: r => by
    have ih := joinL_snoc S x (q :: r)
    rw [if_neg (fun q => by cases q)] at ih ⊢
    show p ++ (S ++ TL.joinL S ((q :: r) ++ [x])) = p ++ (S ++ TL.joinL S (q :: r)) ++ S ++ x
    rw [ih]
    simp only [List.append_assoc]
theorem joinL_ne {S : List Nat} : ∀ {l : List (List Nat)}, l ≠ [] → (∀ w ∈ l, w ≠ []) → TL.joinL S l ≠ []
  | [], h, _ => absurd rfl h
  | [p], _, h => h p (List.mem_cons_self ..)
  | p :: q :: r, _, h => fun e => h p (List.mem_cons_self ..) (List.append_eq_nil_iff.1 (show p ++ (S ++ TL.joinL S (q :: r)) = [] from e)).1
theorem joinL_len : ∀ {l : List (List Nat)}, (∀ w ∈ l, w.length ≤ 41) → (TL.joinL [32] l).length ≤ 42 * l.length
  | [], _ => Nat.zero_le _
  | [p], h => by
    have := h p (List.mem_cons_self ..)
    show p.length ≤ _
    rw [List.length_singleton]
    omega
  | p :: q :: r, h => by
    have h1 := h p (List.mem_cons_self ..)
    have ih := joinL_len (l := q :: r) fun w hw => h w (List.mem_cons_of_mem _ hw)
    show (p ++ ([32] ++ TL.joinL [32] (q :: r))).length ≤ _
    rw [List.length_append, List.length_append, List.length_cons (a := p)]
    rw [List.length_singleton]
    omega
theorem sum_len : ∀ {l : List (List Nat)}, (∀ w ∈ l, w.length ≤ 41) → (l.map (·.length)).sum ≤ 41 * l.length
  | [], _ => Nat.zero_le _
  | p :: r, h => by
    have h1 := h p (List.mem_cons_self ..)
    have ih := sum_len (l := r) fun w hw => h w (List.mem_cons_of_mem _ hw)
    rw [List.map_cons, List.sum_cons, List.length_cons]
    omega
theorem due_len {ms : List Int} (h : ∀ m ∈ ms, m.natAbs ≤ 64) : (dueL ms).length ≤ 42 * ms.length := by
  have := joinL_len (l := ms.map zt) fun w hw => by
    obtain ⟨m, hm, rfl⟩ := List.mem_map.1 hw
    exact zt_len (Nat.lt_of_le_of_lt (h m hm) (by decide))
  rw [List.length_map] at this
  exact this
section
variable {g : G} {σ : Sg} {e1 e2 : Ev} {n : Nat} {a : List Int}
theorem strsD (l : List (List Nat)) : strsOf (l.map sD) = some (l.map SX.S) := by
  have := strsOf_map (l.map SX.S)
  rw [List.map_map] at this
  exact this
theorem joinS_v {l : List (List Nat)} (h1 : e1 σ g = .ok (sD [32]) g) (h2 : e2 σ g = .ok (.lst (l.map sD)) g) (hw : ∀ w ∈ l, w.length ≤ 41) (hl : l.length ≤ 1000) : eJoinS e1 e2 σ g = .ok (sD (TL.joinL [32] l)) g := by
  unfold eJoinS
  rw [h1]
  show (e2 σ g).bind (fun y g2 => joinD (SX.S [32]) y g2) = _
  rw [h2]
  show (match strsOf (l.map sD) with | some ys => okIf (decide ((ys.map fun y : Str => y.length).sum + ys.length * (SX.S [32]).length ≤ 16777216)) (D.str (Txt.join (SX.S [32]) ys)) g | none => .no) = _
  rw [strsD]
  dsimp only
  have sl := sum_len hw
  rw [SX.lens, SX.S_len, List.length_map, decide_eq_true (by rw [List.length_singleton]; omega), SX.join_S]
  rfl
theorem str_m (ha : Vd n a) (h2 : n ≤ 64) : f_SignTable___str__ [sT a] g = .ok (sD (dueL a)) g := by
  have hl := ha.len
  refine ok_of (wp_callS rfl ?_)
  unfold b_SignTable___str__
  rw [show (List.map some [sT a] ++ List.replicate (2 - 1) none) = [some (sT a), none] from rfl]
  refine ret_v (joinS_v (l := a.map zt) rfl (lc_v (iseqT_v (xs := a.map D.int) (at_m rfl)) ?_ (by rw [List.length_map, List.length_map]; omega)) (fun w hw => ?_) (by rw [List.length_map]; omega)) ⟨rfl, rfl, rfl⟩
  · rw [List.map_map]
    refine lcL_a D.int _ a fun m hm => ⟨[some (sT a), some (.int m)], rfl, call1_v (x := .int m) rfl (str_z ?_)⟩
    have := ha.mem hm
    exact Nat.lt_of_le_of_lt (show m.natAbs ≤ 64 by omega) (by decide)
  · obtain ⟨m, hm, rfl⟩ := List.mem_map.1 hw
    have := ha.mem hm
    exact zt_len (Nat.lt_of_le_of_lt (show m.natAbs ≤ 64 by omega) (by decide))
theorem strO_t (ha : Vd n a) (h2 : n ≤ 64) : fStrO [("SignTable", f_SignTable___str__)] [sT a] g = .ok (sD (dueL a)) g := by
  unfold fStrO
  dsimp only
  rw [insS]
  dsimp only
  rw [prOf_one]
  dsimp only
  rw [str_m ha h2]
  rfl
theorem strO_i {m : Int} (h : m.natAbs ≤ 64) : fStrO [("SignTable", f_SignTable___str__)] [.int m] g = .ok (sD (zt m)) g :=
  (show fStrO [("SignTable", f_SignTable___str__)] [.int m] g = fStr [.int m] g from rfl).trans (str_z (Nat.lt_of_le_of_lt h (by decide)))
end
end LW
namespace LW
open PySem PySem.Spec L2 AW
/-! ### values near a text -/
def Nr (d : D) : Prop := (∃ l : List Nat, d = sD l ∧ l.length ≤ 60000) ∨ ∀ g s, (eIsi own (.bt .str) (eVar 1)) [some (.glo "SignTable"), some d, s] g = .ok (.bl false) g ∧ (eIsi own (.bt .str) (eVar 0)) [some d, none, none, none] g = .ok (.bl false) g
theorem nr_s {l : List Nat} (h : l.length ≤ 60000) : Nr (sD l) := .inl ⟨l, rfl, h⟩
section
variable {g : G} {i : Nat} {k : Int} {l : List Nat} {Q : D → G → Prop}
theorem pick_s {ws : List (List Nat)} {m : Nat} (h : Pot i k g) (hk : k < 100000000) (h0 : 0 < ws.length) (h1 : ws.length < 1000) (hm : ∀ w ∈ ws, w.length ≤ m)
    (q : ∀ w g', w.length ≤ m → Pot i (k + 1) g' → g'.length = g.length → Q (sD w) g') : (f_law_pick [.ref i, .lst (ws.map sD)] g).wp Q := by
  have := pick_wp (cs := []) (xs := ws.map sD) (Q := Q) h hk (by rw [List.length_map]; exact h0) (by rw [List.length_map]; exact h1) fun d g' hd hp hl => by
    obtain ⟨w, hw, rfl⟩ := List.mem_map.1 hd
    rw [List.append_nil]
    exact q w g' (hm w hw) hp hl
  rw [List.append_nil] at this
  exact this
theorem pick_d {xs : List D} {P : D → Prop} (h : Pot i k g) (hk : k < 100000000) (h0 : 0 < xs.length) (h1 : xs.length < 1000) (hm : ∀ d ∈ xs, P d)
    (q : ∀ d g', P d → Pot i (k + 1) g' → g'.length = g.length → Q d g') : (f_law_pick [.ref i, .lst xs] g).wp Q := by
  have := pick_wp (cs := []) (xs := xs) (Q := Q) h hk h0 h1 fun d g' hd hp hl => by
    rw [List.append_nil]
    exact q d g' (hm d hd) hp hl
  rw [List.append_nil] at this
  exact this
def sgs : List (List Nat) := [[32], [45], [48], [49], [50], [51], [57], [43], [120], [44], [47], [40], [49, 50], [32, 51], [45, 45]]
theorem sgs_D : ([.str " ", .str "-", .str "0", .str "1", .str "2", .str "3", .str "9", .str "+", .str "x", .str ",", .str "/", .str "(", .str "12", .str " 3", .str "--"] : List D) = sgs.map sD := rfl
theorem sgs_len : ∀ w ∈ sgs, w.length ≤ 2 := by decide
theorem two_D : ([.str " ", .str ""] : List D) = [[32], []].map sD := rfl
theorem three_D : ([.str " ", .str "", .str "\n"] : List D) = [[32], [], [10]].map sD := rfl
def odds (l : List Nat) : List D := [.non, .int 1, .tup [.int 1], .lst [sD l], .str "", .str " ", .str "1 1", .str "0", .str "-0", .str "1 -1", .str "01", .str "2 1 ", .str "65", .str "1  2", .str "1,2", .str "-"]
theorem odds_nr : ∀ d ∈ odds l, Nr d := fun d hd => by
  unfold odds at hd
  simp only [List.mem_cons, List.not_mem_nil, or_false] at hd
  rcases hd with h | h | h | h | h | h | h | h | h | h | h | h | h | h | h | h <;> subst h
  · exact .inr fun g s => ⟨rfl, rfl⟩
  · exact .inr fun g s => ⟨rfl, rfl⟩
  · exact .inr fun g s => ⟨rfl, rfl⟩
  · exact .inr fun g s => ⟨rfl, rfl⟩
  all_goals
    rw [sD_of]
    exact nr_s (by decide)
theorem near_wp (h : Pot i k g) (hk : k < 1000000) (hl : l.length ≤ 20000)
    (q : ∀ d g', Nr d → Pot i (k + 10) g' → g'.length = g.length → Q d g') : (f_law_near [.ref i, sD l] g).wp Q := by
  refine wp_callS rfl ?_
  unfold b_law_near
  rw [show (List.map some [D.ref i, sD l] ++ List.replicate (6 - 2) none) = [some (.ref i), some (sD l), none, none, none, none] from rfl]
  rw [wp_cons, wp_par, wp_eCall, wp_aCons]
  show (Res.wp (Res.ok (D.ref i) g) _)
  rw [wp_ok, wp_aCons]
  refine wp_val (op_v (call1_v (x := sD l) rfl (len_s (by omega))) (eC_ok ..) oAdd_ii) ?_
  rw [aNil_ok, wp_ok]
  refine pour_wp0 h (by omega) (by omega) (by omega) fun r1 g1 ha hb hp1 hl1 => ?_
  rw [wp_eCall, wp_aCons]
  show (Res.wp (Res.ok (D.ref i) g1) _)
  rw [wp_ok, wp_aCons, eC_ok, wp_ok, aNil_ok, wp_ok]
  refine pour_wp0 hp1 (by omega) (by omega) (by omega) fun r2 g2 hc hd hp2 hl2 => ?_
  show SRes.wp (sCons _ _ [some (.ref i), some (sD l), none, none, some (.int r1), some (.int r2)] g2) _ _ _ _
  rw [wp_cons, wp_set, wp_eCall, wp_aCons]
  show (Res.wp (Res.ok (D.ref i) g2) _)
  rw [wp_ok, wp_aCons, wp_eLst]
  simp -implicitDefEqProofs only [wp_aCons, eC_ok, wp_ok, aNil_ok]
  refine ⟨rfl, ?_⟩
  rw [sgs_D]
  refine pick_s (m := 2) hp2 (by omega) (by decide) (by decide) sgs_len fun w g3 hw hp3 hl3 => ?_
  show SRes.wp (sCons _ _ [some (.ref i), some (sD l), some (sD w), none, some (.int r1), some (.int r2)] g3) _ _ _ _
  have hl3' : g3.length = g.length := by rw [hl3, hl2, hl1]
  have cl := @cutL_len l
  have s1 : ∀ {σ : Sg}, σ[1]? = some (some (sD l)) → eVar 1 σ g3 = .ok (sD l) g3 := fun h => by unfold eVar; rw [h]
  have fin : ∀ {z : List Nat} {n : Int}, z.length ≤ 60000 → n ≤ 10 → Pot i (k + n) g3 → Q (sD z) g3 := fun hz hn hp => q _ _ (nr_s hz) (hp.mono (by omega)) hl3'
  have hp3' : Pot i (k + 3) g3 := hp3.mono (by omega)
  have pl : (eSl (eVar 1) oNo (oPart (eVar 4))) [some (.ref i), some (sD l), some (sD w), none, some (.int r1), some (.int r2)] g3 = .ok (sD (cutL l none (some r1))) g3 := sl_v rfl rfl rfl (by omega)
  have pr : (eSl (eVar 1) (oPart (eVar 4)) oNo) [some (.ref i), some (sD l), some (sD w), none, some (.int r1), some (.int r2)] g3 = .ok (sD (cutL l (some r1) none)) g3 := sl_v rfl rfl rfl (by omega)
  have pr1 : (eSl (eVar 1) (oPart (eOp oAdd (eVar 4) (eC (.int 1)))) oNo) [some (.ref i), some (sD l), some (sD w), none, some (.int r1), some (.int r2)] g3 = .ok (sD (cutL l (some (r1 + 1)) none)) g3 := sl_v rfl rfl rfl (by omega)
  have c1 := @cl none (some r1)
  have c2 := @cl (some r1) none
  have c3 := @cl (some (r1 + 1)) none
  generalize cutL l none (some r1) = A at *
  generalize cutL l (some r1) none = B at *
  generalize cutL l (some (r1 + 1)) none = C at *
  refine if_v (ts_v (op_v (x := .int r2) rfl (eC_ok ..) oLt_ii)) (fun _ => ?_) fun _ => ?_
  · exact ret_v (op_v (op_v pl rfl (add_s (by omega))) pr (add_s (by rw [List.length_append]; omega))) ⟨by omega, fin (by rw [List.length_append, List.length_append]; omega) (by omega) hp3'⟩
  refine if_v (ts_v (op_v (x := .int r2) rfl (eC_ok ..) oEq_ii)) (fun _ => ?_) fun _ => ?_
  · exact ret_v (op_v pl pr1 (add_s (by omega))) ⟨by omega, fin (by rw [List.length_append]; omega) (by omega) hp3'⟩
  refine if_v (ts_v (op_v (x := .int r2) rfl (eC_ok ..) oEq_ii)) (fun _ => ?_) fun _ => ?_
  · exact ret_v (op_v (op_v pl rfl (add_s (by omega))) pr1 (add_s (by rw [List.length_append]; omega))) ⟨by omega, fin (by rw [List.length_append, List.length_append]; omega) (by omega) hp3'⟩
  clear fin pl pr pr1 s1
  refine if_v (ts_v (op_v (x := .int r2) rfl (eC_ok ..) oEq_ii)) (fun _ => ?_) fun _ => ?_
  · rw [wp_cons, wp_ret, wp_eOp, wp_eOp, wp_eCall, wp_aCons]
    show (Res.wp (Res.ok (D.ref i) g3) _)
    rw [wp_ok, wp_aCons, wp_eLst]
    simp -implicitDefEqProofs only [wp_aCons, eC_ok, wp_ok, aNil_ok]
    refine ⟨rfl, ?_⟩
    rw [two_D]
    refine pick_s (m := 1) hp3 (by omega) (by decide) (by decide) (by decide) fun w1 g4 hw1 hp4 hl4 => ?_
    show (Res.wp (Res.ok (sD l) g4) _)
    rw [wp_ok, add_s (by omega), wp_ok, wp_eCall, wp_aCons]
    show (Res.wp (Res.ok (D.ref i) g4) _)
    rw [wp_ok, wp_aCons, wp_eLst]
    simp -implicitDefEqProofs only [wp_aCons, eC_ok, wp_ok, aNil_ok]
    refine ⟨rfl, ?_⟩
    rw [three_D]
    refine pick_s (m := 1) hp4 (by omega) (by decide) (by decide) (by decide) fun w2 g5 hw2 hp5 hl5 => ?_
    rw [add_s (by rw [List.length_append]; omega), wp_ok]
    exact ⟨by omega, q _ _ (nr_s (by rw [List.length_append, List.length_append]; omega)) (hp5.mono (by omega)) (by omega)⟩
  · rw [wp_cons, wp_set, wp_eLst]
    simp -implicitDefEqProofs only [wp_aCons, eC_ok, wp_ok, aNil_ok, wp_eTup, wp_eLst, eVar_0, eVar_succ]
    refine ⟨rfl, rfl, rfl, ?_⟩
    show SRes.wp (sCons _ _ [some (.ref i), some (sD l), some (sD w), some (.lst (odds l)), some (.int r1), some (.int r2)] g3) _ _ _ _
    rw [wp_cons, wp_ret, wp_eCall, wp_aCons]
    show (Res.wp (Res.ok (D.ref i) g3) _)
    rw [wp_ok, wp_aCons]
    show (Res.wp (Res.ok (D.lst (odds l)) g3) _)
    rw [wp_ok, aNil_ok, wp_ok]
    refine pick_d (P := Nr) hp3 (by omega) (by unfold odds; simp) (by unfold odds; simp) odds_nr fun d g4 hd hp4 hl4 => ?_
    exact ⟨by omega, q _ _ hd (hp4.mono (by omega)) (by omega)⟩
end
end LW
namespace LW
open PySem PySem.Spec L2 AW
section
variable {g : G} {i n : Nat} {k : Int} {a : List Int} {σ : Sg}
theorem marks_wp0 {f : Fn} (hf : f_law_marks = f) {Q : D → G → Prop} (h : Pot i k g) (hk : k < 1000000) (h2 : n ≤ 64)
    (q : ∀ a g', Vd n a → Pot i (k + 2 * n) g' → g'.length = g.length → Q (mD a) g') : (f [.ref i, .int (n : Int)] g).wp Q := by
  have := marks_wp (cs := []) (Q := Q) hf h (fun _ => rfl) hk h2 fun a g' hv hp hl => by
    rw [List.append_nil]
    exact q a g' hv hp hl
  rw [List.append_nil] at this
  exact this
theorem told_odd {d : D} (h : (eIsi own (.bt .str) (eVar 0)) [some d, none, none, none] g = .ok (.bl false) g) : f_law_told [d] g = .ok .non g := by
  refine ok_of (wp_callS rfl ?_)
  unfold b_law_told
  rw [show (List.map some [d] ++ List.replicate (4 - 1) none) = [some d, none, none, none] from rfl]
  exact if_v (k := true) (nt_v (b := false) h) (fun _ => ret_v (eC_ok ..) ⟨rfl, rfl, rfl⟩) fun hk => by cases hk
def sizes : List Nat := [1, 1, 2, 3, 4, 8, 11, 64]
theorem sizes_D : ([.int 1, .int 1, .int 2, .int 3, .int 4, .int 8, .int 11, .int 64] : List D) = sizes.map fun n : Nat => D.int (n : Int) := rfl
theorem sizes_b : ∀ n ∈ sizes, 1 ≤ n ∧ n ≤ 64 := by decide
theorem ne_str {s : Str} : oNe (.str s) (.str s) g = .ok (.bl false) g := by
  show Res.ok (D.bl (!decide (s = s))) g = _
  rw [decide_eq_true rfl]
  rfl
theorem due_step {ms : List Int} {m : Int} (hm : ∀ x ∈ ms, 1 ≤ x.natAbs) : dueL (ms ++ [m]) = dueL ms ++ (if dueL ms ≠ [] then [32] else []) ++ zt m := by
  unfold dueL
  rw [List.map_append, List.map_singleton, joinL_snoc]
  by_cases h : ms = []
  · subst h
    rfl
  · have h1 : ms.map zt ≠ [] := fun q => h (List.map_eq_nil_iff.1 q)
    have h2 : TL.joinL [32] (ms.map zt) ≠ [] := joinL_ne h1 fun w hw => by
      obtain ⟨x, _, rfl⟩ := List.mem_map.1 hw
      exact zt_ne x
    rw [if_neg h1, if_pos h2]
def lI (i : Nat) (a : List Int) (g0 : G) (k : Nat) (σ : Sg) (g : G) : Prop := g = g0 ∧ ∃ c, σ = [some (.ref i), some (mD a), c, none, some (sT a), some (sD (dueL (a.take k))), none, none]
def nI (i : Nat) (a : List Int) (k0 : Int) (l : Nat) (k : Nat) (σ : Sg) (g : G) : Prop := Pot i (k0 + 10 * (k : Int)) g ∧ g.length = l ∧ ∃ c t x y, σ = [some (.ref i), some (mD a), c, t, some (sT a), some (sD (dueL a)), x, y]
theorem cmp_near {d : D} {s0 s1 s2 s3 s4 s5 : Option D} (hd : Nr d) (hg : Cl g) : ∃ t, f_law_told [d] g = .ok t g ∧
    eOp (oNeO [("SignTable", f_SignTable___eq__)] own oNe) (eCall f_law_read (aCons (eVar 6) aNil)) (eIf (eTst (eOp (oIs true) (eVar 7) (eC .non))) (eVar 7) (eC (.str "refused 0"))) [s0, s1, s2, s3, s4, s5, some d, some t] g = .ok (.bl false) g := by
  have fin_no : ∀ d, f_law_read [d] g = .ok (.str "refused 0") g → eOp (oNeO [("SignTable", f_SignTable___eq__)] own oNe) (eCall f_law_read (aCons (eVar 6) aNil)) (eIf (eTst (eOp (oIs true) (eVar 7) (eC .non))) (eVar 7) (eC (.str "refused 0"))) [s0, s1, s2, s3, s4, s5, some d, some .non] g = .ok (.bl false) g := fun d hr =>
    op_v (call1_v (x := d) rfl hr) (eif_v (k := false) (ts_v (op_v (x := .non) rfl (eC_ok ..) rfl)) (fun hk => by cases hk) fun _ => eC_ok ..) (by rw [ne_no rfl]; exact ne_str)
  rcases hd with ⟨l, rfl, hl⟩ | hd
  · have ht := told_t (g := g) (a := l) (by omega)
    have hr := lread_t (a := l) hg (by omega)
    cases ho : okT l
    · rw [ho] at ht hr
      exact ⟨.non, ht, fin_no _ hr⟩
    · rw [ho] at ht hr
      refine ⟨mD (msk l), ht, ?_⟩
      exact op_v (call1_v (x := sD l) rfl hr) (eif_v (k := true) (ts_v (op_v (x := mD (msk l)) rfl (eC_ok ..) rfl)) (fun _ => rfl) fun hk => by cases hk) (by rw [ne_no rfl, if_pos rfl, oNe_mD, decide_eq_true rfl]; rfl)
  · exact ⟨.non, told_odd (hd g none).2, fin_no _ (lread_ex (read_odd fun s => (hd g s).1))⟩
theorem right_wp {Q : D → G → Prop} (h : Pot i 0 g) (q : ∀ g', Pot i 1000 g' → g'.length = g.length → Q (.bl true) g') : (f_law_right [.ref i] g).wp Q := by
  generalize hfm : f_law_marks = fm
  refine wp_callS rfl ?_
  unfold b_law_right
  rw [hfm, show (List.map some [D.ref i] ++ List.replicate (8 - 1) none) = [some (.ref i), none, none, none, none, none, none, none] from rfl]
  rw [wp_cons, wp_set, wp_eCall, wp_aCons]
  show (Res.wp (Res.ok (D.ref i) g) _)
  rw [wp_ok, wp_aCons, wp_eCall, wp_aCons]
  show (Res.wp (Res.ok (D.ref i) g) _)
  rw [wp_ok, wp_aCons, wp_eLst]
  simp -implicitDefEqProofs only [wp_aCons, eC_ok, wp_ok, aNil_ok]
  refine ⟨rfl, ?_⟩
  rw [sizes_D]
  refine pick_d (P := fun d => ∃ n : Nat, d = .int (n : Int) ∧ 1 ≤ n ∧ n ≤ 64) h (by omega) (by decide) (by decide) (fun d hd => ?_) fun d g1 hd hp1 hl1 => ?_
  · obtain ⟨n, hn, rfl⟩ := List.mem_map.1 hd
    exact ⟨n, rfl, sizes_b n hn⟩
  obtain ⟨n, rfl, h1, h64⟩ := hd
  refine marks_wp0 hfm hp1 (by omega) h64 fun a g2 va hp2 hl2 => ?_
  clear hfm fm
  show SRes.wp (sCons _ _ [some (.ref i), some (mD a), none, none, none, none, none, none] g2) _ _ _ _
  have hg : Cl g2 := cl_pots hp2.1
  have la := va.len
  have mb : ∀ m ∈ a, 1 ≤ m.natAbs ∧ m.natAbs ≤ 64 := fun m hm => by
    have := va.mem hm
    omega
  rw [wp_cons, wp_par]
  refine wp_val (call1_v (x := mD a) rfl (make_eq hg va h1 h64)) ?_
  refine wp_val (eC_ok ..) ?_
  show SRes.wp (sCons _ _ [some (.ref i), some (mD a), none, none, some (sT a), some (.str ""), none, none] g2) _ _ _ _
  refine wp_cut (lI i a g2 a.length) ?_ ?_
  · refine wp_forI (lI i a g2) ?_
    rw [iseqT_v (xs := a.map D.int) rfl, wp_ok]
    refine ⟨_, rfl, ⟨rfl, none, rfl⟩, ?_, ?_⟩
    · rintro kk σ1 g3 d hd ⟨rfl, c, rfl⟩
      rw [List.getElem?_map] at hd
      cases hm : a[kk]? with
      | none => rw [hm] at hd; cases hd
      | some m =>
        rw [hm] at hd
        cases hd
        have hm1 := mb m (List.mem_of_getElem? hm)
        have hlk : kk < a.length := by
          by_cases z : kk < a.length
          · exact z
          · rw [List.getElem?_eq_none (by omega)] at hm; cases hm
        have et : a.take (kk + 1) = a.take kk ++ [m] := by
          rw [List.take_add_one, hm]
          rfl
        have hdl : (dueL (a.take kk)).length ≤ 42 * 64 := by
          have := due_len (ms := a.take kk) fun m hm => (mb m (List.mem_of_mem_take hm)).2
          rw [List.length_take] at this
          omega
        have hz := zt_len (m := m) (Nat.lt_of_le_of_lt hm1.2 (by decide))
        rw [gvP_name]
        show SRes.wp (sCons _ _ [some (.ref i), some (mD a), some (.int m), none, some (sT a), some (sD (dueL (a.take kk))), none, none] g3) _ _ _ _
        have due1 : dueL (a.take (kk + 1)) = dueL (a.take kk) ++ (if dueL (a.take kk) ≠ [] then [32] else []) ++ zt m := by
          rw [et]
          exact due_step fun x hx => (mb x (List.mem_of_mem_take hx)).1
        have hi : ∃ c, ([some (.ref i), some (mD a), some (.int m), none, some (sT a), some (sD (dueL (a.take kk) ++ (if dueL (a.take kk) ≠ [] then [32] else []) ++ zt m)), none, none] : Sg) = [some (.ref i), some (mD a), c, none, some (sT a), some (sD (dueL (a.take (kk + 1)))), none, none] := by
          rw [due1]
          exact ⟨_, rfl⟩
        generalize dueL (a.take kk) = D0 at *
        refine set_v (d := sD (D0 ++ (if D0 ≠ [] then [32] else []) ++ zt m)) (op_v (op_v (x := sD D0) (y := sD (if D0 ≠ [] then [32] else [])) rfl (eif_v (k := !decide (D0 = [])) (ts_v (op_v (x := sD D0) rfl (eC_ok ..) (by rw [ne_no rfl, sx_e]; exact ne_s))) (fun hk => ?_) fun hk => ?_) (add_s ?_)) (call1_v (x := .int m) rfl (strO_i hm1.2)) (add_s ?_)) ?_
        · rw [if_pos (by simpa using hk)]
          rfl
        · rw [if_neg (by simpa using hk)]
          rfl
        · split <;> simp <;> omega
        · rw [List.length_append]
          split <;> simp <;> omega
        · exact ⟨rfl, hi⟩
    · intro σ1 g3 hI
      rw [List.length_map] at hI
      exact hI
  rintro σ1 g3 ⟨rfl, c, rfl⟩
  rw [List.take_length]
  obtain ⟨ok1, ok2⟩ := due_ok va h1 h64
  have hdl : (dueL a).length ≤ 42 * 64 := by
    have := due_len (ms := a) fun m hm => (mb m hm).2
    omega
  have ht := told_t (g := g3) (a := dueL a) (by omega)
  have hr := read_ok ok1 hg (by omega)
  rw [ok1, ok2, if_pos rfl] at ht
  rw [ok2] at hr
  have hs := strO_t (g := g3) va h64
  generalize hU : dueL a = U at *
  refine if_v (k := false) (or_v (p := false) (ts_v (op_v (call1_v (x := sT a) rfl hs) (y := sD U) rfl (by rw [ne_no rfl, ne_s, decide_eq_true rfl]; rfl))) fun _ => or_v (p := false) (q := false) (ts_v (nneq_v rfl (cls_v (x := sD U) rfl hr) rfl)) fun _ => ts_v (op_v (call1_v (x := sD U) rfl ht) (y := mD a) rfl (by rw [ne_no rfl, oNe_mD, decide_eq_true rfl]; rfl))) (fun hk => by cases hk) fun _ => ?_
  refine wp_cut (nI i a (0 + 1 + 2 * (n : Int)) g3.length 8) ?_ ?_
  · refine wp_forI (nI i a (0 + 1 + 2 * (n : Int)) g3.length) ?_
    rw [wp_iRange1, eC_ok, wp_ok, intP_i]
    refine ⟨smallI_b (by omega) (by omega), _, rfl, ⟨hp2.mono (by omega), rfl, c, none, none, none, by rw [hU]⟩, ?_, fun σ1 g4 hI => hI⟩
    rintro kk σ1 g4 d hd ⟨hp4, hl4, c, t, x, y, rfl⟩
    obtain ⟨hkk, rfl⟩ := rangeD_get _ _ _ _ hd
    have hkk : kk < 8 := hkk
    rw [gvP_name, hU]
    show SRes.wp (sCons _ _ [some (.ref i), some (mD a), c, some (.int (0 + (kk : Int))), some (sT a), some (sD U), x, y] g4) _ _ _ _
    rw [wp_cons, wp_set, wp_eCall, wp_aCons]
    show (Res.wp (Res.ok (D.ref i) g4) _)
    rw [wp_ok, wp_aCons]
    show (Res.wp (Res.ok (sD U) g4) _)
    rw [wp_ok, aNil_ok, wp_ok]
    refine near_wp hp4 (by omega) (by omega) fun d g5 hd hp5 hl5 => ?_
    show SRes.wp (sCons _ _ [some (.ref i), some (mD a), c, some (.int (0 + (kk : Int))), some (sT a), some (sD U), some d, y] g5) _ _ _ _
    obtain ⟨w, hw, hcmp⟩ := cmp_near (s0 := some (.ref i)) (s1 := some (mD a)) (s2 := c) (s3 := some (.int (0 + (kk : Int)))) (s4 := some (sT a)) (s5 := some (sD U)) hd (cl_pots hp5.1)
    refine set_v (d := w) (call1_v (x := d) rfl hw) ?_
    show SRes.wp (sCons _ _ [some (.ref i), some (mD a), c, some (.int (0 + (kk : Int))), some (sT a), some (sD U), some d, some w] g5) _ _ _ _
    refine if_v (k := false) (ts_v hcmp) (fun hk => by cases hk) fun _ => ?_
    rw [wp_nil]
    exact ⟨hp5.mono (by omega), by omega, _, _, _, _, by rw [hU]⟩
  · rintro σ1 g4 ⟨hp4, hl4, c, t, x, y, rfl⟩
    exact ret_v (eC_ok ..) ⟨by omega, q _ (hp4.mono (by omega)) (by omega)⟩
end
end LW
namespace LW
open PySem PySem.Spec L2 AW
def lJ (ns : List Int) (k : Nat) (σ : Sg) (g : G) : Prop := Pots g ∧ g.length = k ∧ ∃ a : Option D, σ = [some (.seq (ns.map D.int)), a, none, none, none]
theorem pots_nil : Pots ([] : G) := fun x hx => by cases hx
theorem due_a : D.str "2 -1" = sD (dueL [2, -1]) := by kernel_rfl
theorem due_b : D.str "-1" = sD (dueL [-1]) := by kernel_rfl
theorem due_c : D.str "1 3" = sD (dueL [1, 3]) := by kernel_rfl
theorem vd_a : Vd 2 [2, -1] := by
  show ([2, 1] : List Nat).Perm [1, 2]
  exact List.Perm.swap ..
theorem vd_b : Vd 1 [-1] := List.Perm.refl _
section
variable {g : G} {σ : Sg}
theorem last_eq : oEq (.lst [mD [2, -1], mD [-1], .str "refused 0", .str "refused 0", .str "refused 0", .str "refused 0"]) (.lst [.tup [.int 2, .int (-1)], .tup [.int (-1)], .str "refused 0", .str "refused 0", .str "refused 0", .str "refused 0"]) g = .ok (.bl true) g := by
  kernel_rfl
theorem rd_a (hg : Cl g) : f_law_read [.str "2 -1"] g = .ok (mD [2, -1]) g := by
  obtain ⟨h1, h2⟩ := due_ok vd_a (by omega) (by omega)
  rw [due_a, lread_t hg (by decide), h1, h2, if_pos rfl]
theorem rd_b (hg : Cl g) : f_law_read [.str "-1"] g = .ok (mD [-1]) g := by
  obtain ⟨h1, h2⟩ := due_ok vd_b (by omega) (by omega)
  rw [due_b, lread_t hg (by decide), h1, h2, if_pos rfl]
theorem rd_n {l : List Nat} (hg : Cl g) (hl : l.length ≤ 80000) (h : okT l = false) : f_law_read [sD l] g = .ok (.str "refused 0") g := by
  rw [lread_t hg hl, h]
  rfl
theorem okT_tw {l : List Nat} (h : (wds l).all tw = false) : okT l = false := by
  unfold okT
  rw [h]
  rfl
theorem ok_c : okT (dueL [1, 3]) = false := by
  have e : msk (dueL [1, 3]) = [1, 3] := by
    unfold msk
    rw [due_wds (by simp)]
    show [vl (zt 1), vl (zt 3)] = _
    rw [zt_vl (by decide), zt_vl (by decide)]
  unfold okT
  rw [e, show Mk [1, 3] = false by decide, Bool.and_false]
theorem ok_w : okT (dueL (Im 65)) = false := by
  have e : (msk (dueL (Im 65))).length = 65 := by
    rw [msk_len, due_wds (by decide), List.length_map, Im_len]
  unfold okT Mk
  rw [e]
  simp
theorem due_wl : (dueL (Im 65)).length ≤ 80000 := by
  have := joinL_len (l := (Im 65).map zt) fun w hw => by
    obtain ⟨m, hm, rfl⟩ := List.mem_map.1 hw
    unfold Im at hm
    obtain ⟨k, hk, rfl⟩ := List.mem_map.1 hm
    have := List.mem_range'_1.1 hk
    exact zt_len (Nat.lt_of_le_of_lt (show ((k : Int)).natAbs ≤ 65 by omega) (by decide))
  rw [List.length_map, Im_len] at this
  unfold dueL
  omega
theorem wide_v {s0 s1 : Option D} : (eJoinS (eC (.str " ")) (eLc (iRange2 (aCons (eC (.int 1)) (aCons (eC (.int 66)) aNil))) (gvName 4) tvYes (eCall fStr (aCons (eVar 4) aNil)) [4])) [s0, s1, none, none, none] g = .ok (sD (dueL (Im 65))) g := by
  have b : ∀ m ∈ Im 65, m.natAbs < 10 ^ 40 := fun m hm => by
    unfold Im at hm
    obtain ⟨k, hk, rfl⟩ := List.mem_map.1 hm
    have := List.mem_range'_1.1 hk
    exact Nat.lt_of_le_of_lt (show ((k : Int)).natAbs ≤ 65 by omega) (by decide)
  refine joinS_v (l := (Im 65).map zt) rfl (lc_v (xs := (Im 65).map D.int) ?_ ?_ (by rw [List.length_map, List.length_map, Im_len]; omega)) (fun w hw => ?_) (by rw [List.length_map, Im_len]; omega)
  · rw [← rangeD_1]
    rfl
  · rw [List.map_map]
    exact lcL_a D.int _ (Im 65) fun m hm => ⟨[s0, s1, none, none, some (.int m)], rfl, call1_v (x := .int m) rfl (str_z (b m hm))⟩
  · obtain ⟨m, hm, rfl⟩ := List.mem_map.1 hw
    exact zt_len (b m hm)
end
theorem law_end {ns : List Int} {g : G} {a : Option D} (hg : Cl g) : ((sCons (sSet 2 (eJoinS (eC (.str " ")) (eLc (iRange2 (aCons (eC (.int 1)) (aCons (eC (.int 66)) aNil))) (gvName 4) tvYes (eCall fStr (aCons (eVar 4) aNil)) [4])))
  (sCons (sSet 3 (eLst (aCons (eCall f_law_read (aCons (eC (.str "2 -1")) aNil)) (aCons (eCall f_law_read (aCons (eC (.str "-1")) aNil)) (aCons (eCall f_law_read (aCons (eC (.str "1 3")) aNil)) (aCons (eCall f_law_read (aCons (eC (.str "2 01")) aNil)) (aCons (eCall f_law_read (aCons (eVar 2) aNil)) (aCons (eCall f_law_read (aCons (eC (.str "1\t2")) aNil)) aNil))))))))
  (sCons (sRet (eOp oEq (eVar 3) (eLst (aCons (eTup (aCons (eC (.int 2)) (aCons (eUn oNeg (eC (.int 1))) aNil))) (aCons (eTup (aCons (eUn oNeg (eC (.int 1))) aNil)) (aCons (eC (.str "refused 0")) (aCons (eC (.str "refused 0")) (aCons (eC (.str "refused 0")) (aCons (eC (.str "refused 0")) aNil)))))))))
  sNil))) [some (.seq (ns.map D.int)), a, none, none, none] g).wp (fun _ _ => False) (fun d _ => d = .bl true) (fun _ _ => False) (fun _ _ => False) := by
  refine set_v wide_v ?_
  show SRes.wp (sCons _ _ [some (.seq (ns.map D.int)), a, some (sD (dueL (Im 65))), none, none] g) _ _ _ _
  have dl := due_wl
  have ow := ok_w
  generalize dueL (Im 65) = U at *
  rw [wp_cons, wp_set, wp_eLst, wp_aCons]
  refine wp_val (call1_v (eC_ok ..) (rd_a hg)) ?_
  rw [wp_aCons]
  refine wp_val (call1_v (eC_ok ..) (rd_b hg)) ?_
  rw [wp_aCons]
  refine wp_val (call1_v (eC_ok ..) (by rw [due_c]; exact rd_n hg (by decide) ok_c)) ?_
  rw [wp_aCons]
  refine wp_val (call1_v (eC_ok ..) (show f_law_read [sD [50, 32, 48, 49]] g = _ from rd_n hg (by decide) (okT_tw (by decide +kernel)))) ?_
  rw [wp_aCons]
  refine wp_val (call1_v (x := sD U) rfl (rd_n hg dl ow)) ?_
  rw [wp_aCons]
  refine wp_val (call1_v (eC_ok ..) (show f_law_read [sD [49, 9, 50]] g = _ from rd_n hg (by decide) (okT_tw (by decide +kernel)))) ?_
  rw [aNil_ok, wp_ok]
  refine ⟨rfl, ?_⟩
  show SRes.wp (sCons _ _ [some (.seq (ns.map D.int)), a, some (sD U), some (.lst [mD [2, -1], mD [-1], .str "refused 0", .str "refused 0", .str "refused 0", .str "refused 0"]), none] g) _ _ _ _
  exact ret_v (op_v (y := .lst [.tup [.int 2, .int (-1)], .tup [.int (-1)], .str "refused 0", .str "refused 0", .str "refused 0", .str "refused 0"]) rfl rfl last_eq) rfl
theorem pure : ∀ ns : List Int, ns.length ≤ 63 → (f_law [.seq (ns.map D.int)] (g0 tf)).wpB := by
  intro ns hl
  suffices h : (f_law [.seq (ns.map D.int)] []).wp (fun d _ => d = .bl true) by
    obtain ⟨d, g, h1, h2⟩ := Res.wp_eq h
    show (f_law [.seq (ns.map D.int)] []).wpB
    rw [h1, h2]
    exact trivial
  refine wp_callD rfl ?_
  unfold b_law
  refine wp_cut (fun σ g => Pots g ∧ ∃ a : Option D, σ = [some (.seq (ns.map D.int)), a, none, none, none]) ?_ ?_
  · refine wp_for (lJ ns) (fun xs => ∃ n, 1 ≤ n ∧ n ≤ 3 ∧ xs = rangeD 0 n) ?_ ?_ ?_
    · simp -implicitDefEqProofs only [wp_iRange1, wp_eCall, wp_aCons, eC_ok, wp_ok, eVar_0, aNil_ok, fLen_seq, List.length_map, fMin2_ii, fMax2_ii, intP_i, List.map, List.cons_append]
      refine ⟨?_, _, rfl, ⟨_, ?_, ?_, rfl⟩, pots_nil, rfl, none, rfl⟩
      · unfold smallI
        rw [decide_eq_true, decide_eq_true]
        · rfl
        · split <;> split <;> omega
        · split <;> split <;> omega
      · split <;> split <;> omega
      · split <;> split <;> omega
    · rintro xs k σ g d ⟨n, hn1, hn, rfl⟩ hd ⟨hps, hlen, a, rfl⟩
      obtain ⟨hk, rfl⟩ := rangeD_get _ _ _ _ hd
      rw [Int.zero_add, gvP_name]
      subst hlen
      show SRes.wp (sCons _ _ [some (.seq (ns.map D.int)), some (.int (g.length : Int)), none, none, none] g) _ _ _ _
      rw [wp_cons, wp_if, wp_eNotT, wp_eTru, wp_eCall, wp_aCons, wp_eCall, wp_aCons]
      show (Res.wp (Res.ok (D.seq (ns.map D.int)) g) _)
      rw [wp_ok, wp_aCons]
      show (Res.wp (Res.ok (D.int (g.length : Int)) g) _)
      rw [wp_ok, aNil_ok, wp_ok]
      refine pot_wp (by omega) hps fun g1 h1 l1 => ?_
      rw [aNil_ok, wp_ok]
      refine right_wp h1 fun g2 h2 l2 => ?_
      rw [truP_bl, Bool.not_true, pick_f, wp_nil, wp_nil]
      exact ⟨h2.1, by omega, _, rfl⟩
    · rintro xs σ g ⟨n, hn1, hn, rfl⟩ ⟨hps, hlen, a, rfl⟩
      exact ⟨hps, a, rfl⟩
  rintro σ g ⟨hps, a, rfl⟩
  refine SRes.wp_mono (law_end (cl_pots hps)) (fun _ _ h => False.elim h) (fun d g2 h => ?_) (fun _ _ h => h) (fun _ _ h => h)
  subst h
  exact settle_0
end LW
open PySem PySem.W PySem.Calls PyProof.Rows
set_option maxRecDepth 100000 in
set_option maxHeartbeats 0 in
theorem PySem.Challenge.cw_squaretimes_k16_whole_texts_of_sign_tabl_holds : PySem.Challenge.rw_squaretimes_k16_whole_texts_of_sign_tabl.Holds := by
  w_on; o_law
  refine HandSHeadRun.head_any (r := OpenLaw.row PySem.Challenge.rw_squaretimes_k16_whole_texts_of_sign_tabl) (q := view (OpenLaw.row PySem.Challenge.rw_squaretimes_k16_whole_texts_of_sign_tabl).prog [47]) (H := LW.hk) (ob := LW.ob) (M := 12000) (loose := LW.loose) (d := HandSHeadRun.topDef (OpenLaw.row PySem.Challenge.rw_squaretimes_k16_whole_texts_of_sign_tabl).prog 47) (kwd := []) LW.ob_eq
    (by kernel_rfl) (fun s => by kernel_rfl) LW.run (by kernel_rfl) (by kernel_rfl) (by kernel_rfl) (by rfl) (by first | assumption | decide +kernel) (by decide +kernel) ⟨rfl, rfl, rfl, rfl, rfl, by decide +kernel⟩ ?hw ?hc
  case hw => w_witness2
  case hc =>
    refine AW.endG (l := PySem.Challenge.rw_squaretimes_k16_whole_texts_of_sign_tabl) (n := 63) (k := 12) (f := LW.f_law) (tf := LW.tf) rfl (by decide) (by kernel_rfl) ⟨rfl, by decide, by decide⟩ (by decide) LW.pure ?F
    intro w mg fa h Y N hmg0
    obtain ⟨K, KX, c⟩ := Y
    have e : (HandSHeadRun.topDef (OpenLaw.row PySem.Challenge.rw_squaretimes_k16_whole_texts_of_sign_tabl).prog 47).name = ("law" : PySem.Str) := by kernel_rfl
    rw [e] at hmg0 ⊢
    have T := AW.tx_of KX N c.b
    have HP : AW.PK (OpenLaw.row PySem.Challenge.rw_squaretimes_k16_whole_texts_of_sign_tabl).prog "/claim/cut.py" := ⟨by kernel_rfl, by kernel_rfl⟩
    refine ⟨K, KX, fun p hp => c.b.emp _ (List.mem_map.mpr ⟨p, hp, rfl⟩), fun p hp => c.b.out _ (List.mem_map.mpr ⟨p, hp, rfl⟩), fun p hp => PySem.W.codeHd_of_K KX (c.b.hd _ (List.mem_map.mpr ⟨p, hp, rfl⟩)), LW.tabs T, Value.ref.inj (Option.some.inj (hmg0.symm.trans (T.gl "law" (T.at_ 14 rfl)))), LW.all T c.c HP⟩
