import PyProof.Rows.All
import Wide.All
import OpenK.AllK
import Wide.FinOn
import KE.KStateDown
import HandS.ForMost
import HandS.ForExc
import HandS.HotCalls
import HandS.CallSlots
import HandS.HeadHook2
import PyProof.ReprRoads
import HandS.TupAny
import HandS.IsInst
import HandS.Property
import HandS.RaiseMore
import HandS.Style
import HandS.NoneIn
import HandS.FStr
import HandS.Star
import HandS.DictComp
import HandS.MakeKw
import HandS.HeadEnd
import HandS.Head0
import HandS.Head1
import HandS.Head2
import KE.GoesEnum
import HandS.Iter
import HandS.Conv
import HandS.SortInts
import KE.KCallOwn
import KE.KEqDeep
import PySem.Challenge.RW_joinrounds_k30_whole_levels
set_option Elab.async false
set_option linter.all false
set_option maxRecDepth 100000
/-! # DS: a data semantics over the hand layer. D: plain trees; Mu: the few objects that change; a def is a plain function. -/
namespace DS
open PySem PySem.Spec PyProof.Rows L2

inductive D where
  | non | bl (b : Bool) | int (i : Int) | str (x : Str)
  | tup (xs : List D) | lst (xs : List D) | fix (xs : List D)
  | obj (c : Str) (fs : List (Str × D))
  | dct (kvs : List (Str × D))
  | loc (n : Nat) | glo (x : Str) | ty (n : String)

inductive Cell where
  | lst (xs : List D) | ins (c : Str) (fs : List (Str × D)) | dct (fs : List (Str × D)) | dead
abbrev Mu := List Cell
abbrev Rho := List (Option D)

inductive Out (α : Type) where
  | ok (a : α) (m : Mu) | exc (c : Str) (fs : List (Str × D)) (m : Mu) | stuck
def Out.bind {α β : Type} : Out α → (α → Mu → Out β) → Out β
  | .ok a m, k => k a m
  | .exc c fs m, _ => .exc c fs m
  | .stuck, _ => .stuck

/-! ### locations below a bound -/
mutual
def D.inB (n : Nat) : D → Bool
  | .loc m => decide (m < n)
  | .tup xs => D.inL n xs
  | .lst xs => D.inL n xs
  | .fix xs => D.inL n xs
  | .obj _ fs => D.inF n fs
  | .dct fs => D.inF n fs
  | _ => true
def D.inL (n : Nat) : List D → Bool
  | [] => true
  | x :: r => D.inB n x && D.inL n r
def D.inF (n : Nat) : List (Str × D) → Bool
  | [] => true
  | (_, x) :: r => D.inB n x && D.inF n r
end
def Cell.inB (n : Nat) : Cell → Bool
  | .lst xs => D.inL n xs
  | .ins _ fs => D.inF n fs
  | .dct fs => D.inF n fs
  | .dead => true

/-! ### which value stands for which tree -/
mutual
inductive Rp (K : PySem.W.Frag) (F : Hp) (al : List Addr) : D → V → Prop
  | non : Rp K F al .non .non
  | bl (b : Bool) : Rp K F al (.bl b) (.bl b)
  | int (i : Int) : Rp K F al (.int i) (.int i)
  | str (x : Str) : Rp K F al (.str x) (.str x)
  | tup {a : Addr} {vs : List V} {ds : List D} : SqT K F a vs → RpL K F al ds vs → Rp K F al (.tup ds) (.ref a)
  | lst {a : Addr} {vs : List V} {ds : List D} : F a = some (.lst vs) → RpL K F al ds vs → Rp K F al (.lst ds) (.ref a)
  | fix {a : Addr} {vs : List V} {ds : List D} : SqL K F a vs → RpL K F al ds vs → Rp K F al (.fix ds) (.ref a)
  | obj {a dx : Addr} {c : Str} {fs : List (Str × V)} {gs : List (Str × D)} : F a = some (.ins (He.ga K c) dx fs) → RpF K F al gs fs → Rp K F al (.obj c gs) (.ref a)
  | dct {a : Addr} {fs : List (Str × V)} {gs : List (Str × D)} : F a = some (.dK (fs.map fun p => (Sum.inr p.1, p.2))) → RpF K F al gs fs → Rp K F al (.dct gs) (.ref a)
  | loc {n : Nat} {a : Addr} : al[n]? = some a → Rp K F al (.loc n) (.ref a)
  | glo (x : Str) : Rp K F al (.glo x) (.ref (He.ga K x))
  | ty (n : String) : Rp K F al (.ty n) (.ty n)
inductive RpL (K : PySem.W.Frag) (F : Hp) (al : List Addr) : List D → List V → Prop
  | nil : RpL K F al [] []
  | cons {d : D} {v : V} {ds : List D} {vs : List V} : Rp K F al d v → RpL K F al ds vs → RpL K F al (d :: ds) (v :: vs)
inductive RpF (K : PySem.W.Frag) (F : Hp) (al : List Addr) : List (Str × D) → List (Str × V) → Prop
  | nil : RpF K F al [] []
  | cons {x : Str} {d : D} {v : V} {ds : List (Str × D)} {vs : List (Str × V)} : Rp K F al d v → RpF K F al ds vs → RpF K F al ((x, d) :: ds) ((x, v) :: vs)
end

/-- more is known -/
structure Le (F : Hp) (al : List Addr) (F' : Hp) (al' : List Addr) : Prop where
  f : ∀ (a : Addr) (o : HO), F a = some o → F' a = some o
  a : ∀ (n : Nat) (a : Addr), al[n]? = some a → al'[n]? = some a
theorem Le.refl {F : Hp} {al : List Addr} : Le F al F al := ⟨fun _ _ h => h, fun _ _ h => h⟩
theorem Le.trans {F F1 F2 : Hp} {al al1 al2 : List Addr} (a : Le F al F1 al1) (b : Le F1 al1 F2 al2) : Le F al F2 al2 :=
  ⟨fun x o h => b.f x o (a.f x o h), fun n x h => b.a n x (a.a n x h)⟩
theorem rd_up {F F' : Hp} (h : ∀ a o, F a = some o → F' a = some o) {a : Addr} {u : HO} (r : Rd F a u) : Rd F' a u := by
  rcases r with r | ⟨o, r⟩
  · exact .inl (h _ _ r)
  · exact .inr ⟨o, h _ _ r⟩
theorem sqt_up {K : PySem.W.Frag} {F F' : Hp} (h : ∀ a o, F a = some o → F' a = some o) {a : Addr} {xs : List V} (r : SqT K F a xs) : SqT K F' a xs := by
  rcases r with r | r
  · exact .inl (rd_up h r)
  · exact .inr r
theorem sql_up {K : PySem.W.Frag} {F F' : Hp} (h : ∀ a o, F a = some o → F' a = some o) {a : Addr} {xs : List V} (r : SqL K F a xs) : SqL K F' a xs := by
  rcases r with r | r
  · exact .inl (rd_up h r)
  · exact .inr r
section
variable {K : PySem.W.Frag} {F F' : Hp} {al al' : List Addr}
mutual
theorem Rp.up (e : Le F al F' al') : ∀ {d : D} {v : V}, Rp K F al d v → Rp K F' al' d v
  | _, _, .non => .non
  | _, _, .bl b => .bl b
  | _, _, .int i => .int i
  | _, _, .str x => .str x
  | _, _, .tup s r => .tup (sqt_up e.f s) (RpL.up e r)
  | _, _, .lst s r => .lst (e.f _ _ s) (RpL.up e r)
  | _, _, .fix s r => .fix (sql_up e.f s) (RpL.up e r)
  | _, _, .obj s r => .obj (e.f _ _ s) (RpF.up e r)
  | _, _, .dct s r => .dct (e.f _ _ s) (RpF.up e r)
  | _, _, .loc s => .loc (e.a _ _ s)
  | _, _, .glo x => .glo x
  | _, _, .ty n => .ty n
theorem RpL.up (e : Le F al F' al') : ∀ {d : List D} {v : List V}, RpL K F al d v → RpL K F' al' d v
  | _, _, .nil => .nil
  | _, _, .cons r q => .cons (Rp.up e r) (RpL.up e q)
theorem RpF.up (e : Le F al F' al') : ∀ {d : List (Str × D)} {v : List (Str × V)}, RpF K F al d v → RpF K F' al' d v
  | _, _, .nil => .nil
  | _, _, .cons r q => .cons (Rp.up e r) (RpF.up e q)
end
mutual
theorem Rp.cut {n : Nat} : ∀ {d : D} {v : V}, Rp K F al d v → d.inB n = true → Rp K F (al.take n) d v
  | _, _, .non, _ => .non
  | _, _, .bl b, _ => .bl b
  | _, _, .int i, _ => .int i
  | _, _, .str x, _ => .str x
  | _, _, .tup s r, h => .tup s (RpL.cut r (by rw [D.inB] at h; exact h))
  | _, _, .lst s r, h => .lst s (RpL.cut r (by rw [D.inB] at h; exact h))
  | _, _, .fix s r, h => .fix s (RpL.cut r (by rw [D.inB] at h; exact h))
  | _, _, .obj s r, h => .obj s (RpF.cut r (by rw [D.inB] at h; exact h))
  | _, _, .dct s r, h => .dct s (RpF.cut r (by rw [D.inB] at h; exact h))
  | _, _, .loc s, h => .loc (by
      rw [D.inB] at h
      rw [List.getElem?_take_of_lt (of_decide_eq_true h)]
      exact s)
  | _, _, .glo x, _ => .glo x
  | _, _, .ty n, _ => .ty n
theorem RpL.cut {n : Nat} : ∀ {d : List D} {v : List V}, RpL K F al d v → D.inL n d = true → RpL K F (al.take n) d v
  | _, _, .nil, _ => .nil
  | _, _, .cons r q, h => by
    rw [D.inL, Bool.and_eq_true] at h
    exact .cons (Rp.cut r h.1) (RpL.cut q h.2)
theorem RpF.cut {n : Nat} : ∀ {d : List (Str × D)} {v : List (Str × V)}, RpF K F al d v → D.inF n d = true → RpF K F (al.take n) d v
  | _, _, .nil, _ => .nil
  | _, _, .cons r q, h => by
    rw [D.inF, Bool.and_eq_true] at h
    exact .cons (Rp.cut r h.1) (RpF.cut q h.2)
end
theorem RpL.len : ∀ {d : List D} {v : List V}, RpL K F al d v → d.length = v.length
  | _, _, .nil => rfl
  | _, _, .cons _ q => by rw [List.length_cons, List.length_cons, RpL.len q]
theorem RpL.get : ∀ {ds : List D} {vs : List V} {i : Nat} {d : D}, RpL K F al ds vs → ds[i]? = some d → ∃ v, vs[i]? = some v ∧ Rp K F al d v
  | _, _, 0, _, .cons r _, e => by
    cases e
    exact ⟨_, rfl, r⟩
  | _, _, i + 1, d, .cons _ q, e => by
    obtain ⟨v, h1, h2⟩ := RpL.get (i := i) (d := d) q (by simpa using e)
    exact ⟨v, by simpa using h1, h2⟩
theorem RpL.append : ∀ {ds es : List D} {vs ws : List V}, RpL K F al ds vs → RpL K F al es ws → RpL K F al (ds ++ es) (vs ++ ws)
  | _, _, _, _, .nil, s => s
  | _, _, _, _, .cons r t, s => .cons r (RpL.append t s)
theorem RpL.set {d : D} {v : V} (r : Rp K F al d v) : ∀ {ds : List D} {vs : List V} (i : Nat), RpL K F al ds vs → RpL K F al (ds.set i d) (vs.set i v)
  | _, _, _, .nil => .nil
  | _, _, 0, .cons _ t => .cons r t
  | _, _, i + 1, .cons q t => .cons q (RpL.set r i t)
theorem RpL.take : ∀ {ds : List D} {vs : List V} (n : Nat), RpL K F al ds vs → RpL K F al (ds.take n) (vs.take n)
  | _, _, 0, _ => .nil
  | _, _, _ + 1, .nil => .nil
  | _, _, n + 1, .cons r t => .cons r (RpL.take n t)
theorem RpL.drop : ∀ {ds : List D} {vs : List V} (n : Nat), RpL K F al ds vs → RpL K F al (ds.drop n) (vs.drop n)
  | _, _, 0, r => r
  | _, _, _ + 1, .nil => .nil
  | _, _, n + 1, .cons _ t => RpL.drop n t
theorem RpL.snoc {ds : List D} {vs : List V} {d : D} {v : V} (a : RpL K F al ds vs) (b : Rp K F al d v) : RpL K F al (ds ++ [d]) (vs ++ [v]) := a.append (.cons b .nil)
theorem RpF.look {x : Str} : ∀ {ds : List (Str × D)} {vs : List (Str × V)}, RpF K F al ds vs →
    (ds.lookup x = none → vs.lookup x = none) ∧ ∀ d, ds.lookup x = some d → ∃ v, vs.lookup x = some v ∧ Rp K F al d v
  | _, _, .nil => ⟨fun _ => rfl, (fun _ h => nomatch h)⟩
  | _, _, .cons (x := y) r q => by
    have ih := RpF.look (x := x) q
    simp only [List.lookup_cons]
    cases h : (x == y) with
    | true => exact ⟨(fun z => nomatch z), fun d e => ⟨_, rfl, by cases e; exact r⟩⟩
    | false => exact ih
theorem RpF.len : ∀ {d : List (Str × D)} {v : List (Str × V)}, RpF K F al d v → d.length = v.length
  | _, _, .nil => rfl
  | _, _, .cons _ q => by rw [List.length_cons, List.length_cons, RpF.len q]
end
end DS

namespace DS
open PySem PySem.Spec PyProof.Rows L2

/-! ### the store -/
def CellOk (K : PySem.W.Frag) (F : Hp) (al : List Addr) (H : Hp) (a : Addr) : Cell → Prop
  | .lst ds => F a = none ∧ ∃ vs, H a = some (.lst vs) ∧ RpL K F al ds vs
  | .ins c gs => F a = none ∧ ∃ dx fs, H a = some (.ins (He.ga K c) dx fs) ∧ RpF K F al gs fs
  | .dct gs => F a = none ∧ ∃ fs, H a = some (.dK (fs.map fun p => (Sum.inr p.1, p.2))) ∧ RpF K F al gs fs
  | .dead => True
structure Wd (K : PySem.W.Frag) (F : Hp) (al : List Addr) (m : Mu) (H : Hp) : Prop where
  sub : ∀ (a : Addr) (o : HO), F a = some o → H a = some o
  len : al.length = m.length
  nd : al.Nodup
  cell : ∀ (n : Nat) (a : Addr) (c : Cell), al[n]? = some a → m[n]? = some c → CellOk K F al H a c
  gen : ∀ (n : Nat) (c : Cell), m[n]? = some c → c.inB n = true
  tr : ∀ a ∈ al, H a ≠ none

/-- what is wanted behind a piece of code, by its outcome -/
def Post {δ ν : Type} (K : PySem.W.Frag) (R : Hp → List Addr → δ → ν → Prop) (W : XK) (F : Hp) (al : List Addr) (Q : ν → Hp → Prop) : Out δ → Prop
  | .ok d m => ∀ v H' F' al', Le F al F' al' → Wd K F' al' m H' → R F' al' d v → Q v H'
  | .exc c fs m => ∀ dd H' F' al' gs, Le F al F' al' → Wd K F' al' m H' → RpF K F' al' fs gs → (gs = [] ∧ dd = none ∨ ∃ x, dd = some x ∧ F' x = some (.xd gs)) → W (.ref (He.ga K c)) dd H'
  | .stuck => False
/-- one step more -/
theorem Post.step {δ ν δ' ν' : Type} {K : PySem.W.Frag} {R : Hp → List Addr → δ → ν → Prop} {R' : Hp → List Addr → δ' → ν' → Prop} {W : XK} {F : Hp} {al : List Addr} {Q : ν → Hp → Prop} {Q' : ν' → Hp → Prop} {o : Out δ} {k : δ → Mu → Out δ'}
    (h : Post K R' W F al Q' (o.bind k))
    (hk : ∀ d m v H1 F1 al1, Le F al F1 al1 → Wd K F1 al1 m H1 → R F1 al1 d v → Post K R' W F1 al1 Q' (k d m) → Q v H1) : Post K R W F al Q o := by
  have up : ∀ {F1 al1} {o : Out δ'}, Le F al F1 al1 → Post K R' W F al Q' o → Post K R' W F1 al1 Q' o := fun {F1 al1 o} e p => by
    cases o with
    | ok d m => exact fun v H' F' al' e' => p v H' F' al' (e.trans e')
    | exc c fs m => exact fun dd H' F' al' gs e' => p dd H' F' al' gs (e.trans e')
    | stuck => exact p
  cases o with
  | ok d m => exact fun v H' F' al' e w r => hk d m v H' F' al' e w r (up e h)
  | exc c fs m => exact h
  | stuck => exact h
theorem Post.up {δ ν : Type} {K : PySem.W.Frag} {R : Hp → List Addr → δ → ν → Prop} {W : XK} {F F1 : Hp} {al al1 : List Addr} {Q : ν → Hp → Prop} {o : Out δ} (e : Le F al F1 al1) (p : Post K R W F al Q o) : Post K R W F1 al1 Q o := by
  cases o with
  | ok d m => exact fun v H' F' al' e' => p v H' F' al' (e.trans e')
  | exc c fs m => exact fun dd H' F' al' gs e' => p dd H' F' al' gs (e.trans e')
  | stuck => exact p
theorem Post.imp {δ ν : Type} {K : PySem.W.Frag} {R : Hp → List Addr → δ → ν → Prop} {W W' : XK} {F : Hp} {al : List Addr} {Q Q' : ν → Hp → Prop} {o : Out δ} (p : Post K R W F al Q o) (hQ : ∀ v H, Q v H → Q' v H) (hW : ∀ c d H, W c d H → W' c d H) : Post K R W' F al Q' o := by
  cases o with
  | ok d m => exact fun v H' F' al' a b c => hQ _ _ (p v H' F' al' a b c)
  | exc c fs m => exact fun dd H' F' al' gs a b c d => hW _ _ _ (p dd H' F' al' gs a b c d)
  | stuck => exact p

/-- names' values -/
structure EnvOk (K : PySem.W.Frag) (F : Hp) (al : List Addr) (r : Rho) (σ : L2.St) : Prop where
  len : r.length = σ.length
  get : ∀ (i : Nat) (d : D), r[i]? = some (some d) → ∃ v, σ[i]? = some (some v) ∧ Rp K F al d v
theorem EnvOk.up {K : PySem.W.Frag} {F F' : Hp} {al al' : List Addr} {r : Rho} {σ : L2.St} (e : Le F al F' al') (h : EnvOk K F al r σ) : EnvOk K F' al' r σ :=
  ⟨h.len, fun i d q => let ⟨v, a, b⟩ := h.get i d q; ⟨v, a, b.up e⟩⟩
theorem EnvOk.set {K : PySem.W.Frag} {F : Hp} {al : List Addr} {r : Rho} {σ : L2.St} {d : D} {v : V} (h : EnvOk K F al r σ) (i : Nat) (q : Rp K F al d v) : EnvOk K F al (r.set i (some d)) (σ.set i (some v)) := by
  refine ⟨by rw [List.length_set, List.length_set]; exact h.len, fun j e hj => ?_⟩
  by_cases hij : j = i
  · subst hij
    have hl : j < r.length := by
      have := (List.getElem?_eq_some_iff.mp hj).1
      rw [List.length_set] at this
      exact this
    rw [List.getElem?_set_self hl] at hj
    cases hj
    exact ⟨v, List.getElem?_set_self (by rw [← h.len]; exact hl), q⟩
  · rw [List.getElem?_set_ne (Ne.symm hij)] at hj
    obtain ⟨w, a, b⟩ := h.get j e hj
    exact ⟨w, by rw [List.getElem?_set_ne (Ne.symm hij)]; exact a, b⟩

/-! ### contexts by their static part -/
structure SC where
  P : Program
  w : World
  K : PySem.W.Frag
  mg : Str → Option Value
  base : Heap
  N : List Str
  sc : Scope
  k : Nat
  fnB : Str → Bool
  gd : Bool
  calm : Bool := true
  hx : Option (Addr × Obj) := none
structure Dyn where
  A : Around
  s_0 : Shared
  H_0 : Hp
  env : Env
  outer : List Env
  stack : List Env
  ex : List Addr
  fn : Str → Bool
  pn : List (Addr × Obj)
  xe : Value → Shared → Prop
def SC.cx (c : SC) (y : Dyn) : Cx where
  prog := c.P
  w := c.w
  K := c.K
  mg := c.mg
  base := c.base
  A := y.A
  N := c.N
  s_0 := y.s_0
  H_0 := y.H_0
  env := y.env
  outer := y.outer
  stack := y.stack
  ex := y.ex
  fn := y.fn
  calm := c.calm
  pn := y.pn
  xe := y.xe
structure OkD (c : SC) (W : WX) (y : Dyn) : Prop where
  scope : y.env.scope = c.sc
  room : L2H.RoomH c.k y.A
  hd : c.calm = true → y.A.handled = none
  takes : Takes (c.cx y) W
  fn : ∀ x, c.fnB x = true → y.fn x = true
  gd : c.gd = true → y.A.guards = some []
  own : PassesOwn (model c.P c.w) y.A y.env y.xe
  pin : ∀ p, c.hx = some p → p ∈ y.pn
theorem OkD.rm {c : SC} {W : WX} {y : Dyn} (hy : OkD c W y) (hc : c.calm = true) {k : Nat} (hk : k ≤ c.k) : Room k y.A :=
  ⟨hy.hd hc, by have := hy.room.dp; omega, by have := hy.room.un; omega⟩
theorem OkD.un64 {c : SC} {W : WX} {y : Dyn} (hy : OkD c W y) : y.A.units + 64 < cLine := by have := hy.room.un; omega
abbrev atS (W : WX) (σ : L2.St) : XK := fun c d H => W c d σ H

abbrev XE' := Rho → Mu → Out D
abbrev XT := Rho → Mu → Out Bool
abbrev XA := Rho → Mu → Out (List D)
abbrev RD (K : PySem.W.Frag) : Hp → List Addr → D → V → Prop := fun F al d v => Rp K F al d v
abbrev RL (K : PySem.W.Frag) : Hp → List Addr → List D → List V → Prop := fun F al d v => RpL K F al d v
abbrev RB : Hp → List Addr → Bool → Bool → Prop := fun _ _ a b => a = b

/-- an expression, a test, an argument list -/
def DE (c : SC) (W : WX) (e : Expr) (f : XE') : Prop := ∃ t : TE, (∀ y, OkD c W y → PE (c.cx y) e t) ∧
  ∀ r m σ H F al Q, EnvOk c.K F al r σ → Wd c.K F al m H → Post c.K (RD c.K) (atS W σ) F al Q (f r m) → t σ H Q
def DT (c : SC) (W : WX) (e : Expr) (f : XT) : Prop := ∃ t : TT, (∀ y, OkD c W y → PT (c.cx y) e t) ∧
  ∀ r m σ H F al Q, EnvOk c.K F al r σ → Wd c.K F al m H → Post c.K RB (atS W σ) F al Q (f r m) → t σ H Q
def DW (c : SC) (W : WX) (e : Expr) (f : XT) : Prop := ∃ t : TT, (∀ y, OkD c W y → PW (c.cx y) e t) ∧
  ∀ r m σ H F al Q, EnvOk c.K F al r σ → Wd c.K F al m H → Post c.K RB (atS W σ) F al Q (f r m) → t σ H Q
def DA (c : SC) (W : WX) (es : List Expr) (f : XA) : Prop := (∃ t : TA, (∀ y, OkD c W y → PA (c.cx y) es t) ∧
  ∀ r m σ H F al Q, EnvOk c.K F al r σ → Wd c.K F al m H → Post c.K (RL c.K) (atS W σ) F al Q (f r m) → t σ H Q) ∧ ∀ r m ds m', f r m = .ok ds m' → ds.length = es.length

/-! ### statements -/
inductive SO where
  | next (r : Rho) (m : Mu) | ret (d : D) (m : Mu) | brk (r : Rho) (m : Mu) | cont (r : Rho) (m : Mu) | exc (c : Str) (fs : List (Str × D)) (r : Rho) (m : Mu) | stuck
abbrev XS := Rho → Mu → SO
def PostS (K : PySem.W.Frag) (W : WX) (F : Hp) (al : List Addr) (E : Ends) : SO → Prop
  | .next r m => ∀ σ' H' F' al', Le F al F' al' → Wd K F' al' m H' → EnvOk K F' al' r σ' → E.nx σ' H'
  | .brk r m => ∀ σ' H' F' al', Le F al F' al' → Wd K F' al' m H' → EnvOk K F' al' r σ' → E.bk σ' H'
  | .cont r m => ∀ σ' H' F' al', Le F al F' al' → Wd K F' al' m H' → EnvOk K F' al' r σ' → E.ct σ' H'
  | .ret d m => ∀ v H' F' al', Le F al F' al' → Wd K F' al' m H' → Rp K F' al' d v → E.rt v H'
  | .exc c fs r m => ∀ dd σ' H' F' al' gs, Le F al F' al' → Wd K F' al' m H' → EnvOk K F' al' r σ' → RpF K F' al' fs gs → (gs = [] ∧ dd = none ∨ ∃ x, dd = some x ∧ F' x = some (.xd gs)) → W (.ref (He.ga K c)) dd σ' H'
  | .stuck => False
theorem PostS.up {K : PySem.W.Frag} {W : WX} {F F1 : Hp} {al al1 : List Addr} {E : Ends} {o : SO} (e : Le F al F1 al1) (p : PostS K W F al E o) : PostS K W F1 al1 E o := by
  cases o with
  | next r m => exact fun σ' H' F' al' e' => p σ' H' F' al' (e.trans e')
  | brk r m => exact fun σ' H' F' al' e' => p σ' H' F' al' (e.trans e')
  | cont r m => exact fun σ' H' F' al' e' => p σ' H' F' al' (e.trans e')
  | ret d m => exact fun v H' F' al' e' => p v H' F' al' (e.trans e')
  | exc c fs r m => exact fun dd σ' H' F' al' gs e' => p dd σ' H' F' al' gs (e.trans e')
  | stuck => exact p
def DSt (c : SC) (W : WX) (st : Stmt) (f : XS) : Prop := ∃ t : TS, (∀ y, OkD c W y → PS (c.cx y) st t) ∧
  ∀ r m σ H F al E, EnvOk c.K F al r σ → Wd c.K F al m H → PostS c.K W F al E (f r m) → t E σ H
def DSs (c : SC) (W : WX) (st : List Stmt) (f : XS) : Prop := ∃ t : TS, (∀ y, OkD c W y → PSs (c.cx y) st t) ∧
  ∀ r m σ H F al E, EnvOk c.K F al r σ → Wd c.K F al m H → PostS c.K W F al E (f r m) → t E σ H
/-- an expression's outcome, then a statement -/
def Out.stm {α : Type} (r : Rho) : Out α → (α → Mu → SO) → SO
  | .ok a m, k => k a m
  | .exc c fs m, _ => .exc c fs r m
  | .stuck, _ => .stuck
theorem PostS.step {δ ν : Type} {K : PySem.W.Frag} {R : Hp → List Addr → δ → ν → Prop} {W : WX} {F : Hp} {al : List Addr} {E : Ends} {Q : ν → Hp → Prop} {o : Out δ} {k : δ → Mu → SO} {r : Rho} {σ : L2.St}
    (he : EnvOk K F al r σ) (h : PostS K W F al E (o.stm r k))
    (hk : ∀ d m v H1 F1 al1, Le F al F1 al1 → Wd K F1 al1 m H1 → R F1 al1 d v → PostS K W F1 al1 E (k d m) → Q v H1) : Post K R (atS W σ) F al Q o := by
  cases o with
  | ok d m => exact fun v H' F' al' e w q => hk d m v H' F' al' e w q (h.up e)
  | exc c fs m => exact fun dd H' F' al' gs e w q z => h dd σ H' F' al' gs e w (he.up e) q z
  | stuck => exact h
end DS

namespace DS
open PySem PySem.Spec PyProof.Rows L2

/-! ### the store's laws -/
section
variable {K : PySem.W.Frag} {F : Hp} {al : List Addr} {m : Mu} {H : Hp}
theorem ext_new {p : Addr} {o : HO} (h : F p = none) : Le F al (upd F p o) al :=
  ⟨fun a u e => by rw [upd_ne (ne_of_none e h)]; exact e, fun _ _ e => e⟩
theorem Wd.fnone (w : Wd K F al m H) {p : Addr} (h : H p = none) : F p = none := by
  cases q : F p with
  | none => rfl
  | some o => rw [w.sub p o q] at h; cases h
theorem CellOk.upTo {F' H' : Hp} {al' : List Addr} {a : Addr} {c : Cell} (e : Le F al F' al') (hF : F a = none → F' a = none) (hH : H a ≠ none → H' a = H a) (h : CellOk K F al H a c) : CellOk K F' al' H' a c := by
  cases c with
  | lst ds =>
    obtain ⟨z, vs, h1, h2⟩ := h
    exact ⟨hF z, vs, by rw [hH (by rw [h1]; simp)]; exact h1, h2.up e⟩
  | ins c gs =>
    obtain ⟨z, dx, fs, h1, h2⟩ := h
    exact ⟨hF z, dx, fs, by rw [hH (by rw [h1]; simp)]; exact h1, h2.up e⟩
  | dct gs =>
    obtain ⟨z, fs, h1, h2⟩ := h
    exact ⟨hF z, fs, by rw [hH (by rw [h1]; simp)]; exact h1, h2.up e⟩
  | dead => trivial
/-- a new object that stays as it is -/
theorem Wd.new {p : Addr} {o : HO} (w : Wd K F al m H) (h : H p = none) : Wd K (upd F p o) al m (upd H p o) := by
  have hf := w.fnone h
  have ne : ∀ a, H a ≠ none → a ≠ p := fun a ha e => ha (by rw [e]; exact h)
  refine ⟨fun a u e => ?_, w.len, w.nd, fun n a c h1 h2 => ?_, w.gen, fun a ha => ?_⟩
  · by_cases ha : a = p
    · subst ha; rw [upd_same] at e; rw [upd_same]; exact e
    · rw [upd_ne ha] at e; rw [upd_ne ha]; exact w.sub a u e
  · have hne := ne a (w.tr a (List.mem_of_getElem? h1))
    exact (w.cell n a c h1 h2).upTo (ext_new hf) (fun z => by rw [upd_ne hne]; exact z) fun _ => upd_ne hne
  · rw [upd_ne (ne a (w.tr a ha))]; exact w.tr a ha
/-- something new that nobody looks at -/
theorem Wd.junk {p : Addr} {o : HO} (w : Wd K F al m H) (h : H p = none) : Wd K F al m (upd H p o) := by
  have ne : ∀ a, H a ≠ none → a ≠ p := fun a ha e => ha (by rw [e]; exact h)
  refine ⟨fun a u e => ?_, w.len, w.nd, fun n a c h1 h2 => ?_, w.gen, fun a ha => ?_⟩
  · have := w.sub a u e
    rw [upd_ne (ne a (by rw [this]; simp))]; exact this
  · have hne := ne a (w.tr a (List.mem_of_getElem? h1))
    exact (w.cell n a c h1 h2).upTo Le.refl (fun z => z) fun _ => upd_ne hne
  · rw [upd_ne (ne a (w.tr a ha))]; exact w.tr a ha
theorem Le.snoc {p : Addr} : Le F al F (al ++ [p]) :=
  ⟨fun _ _ e => e, fun n a e => by
    rw [List.getElem?_append_left (List.getElem?_eq_some_iff.mp e).1]; exact e⟩
/-- a new object that will change -/
theorem Wd.newCell {p : Addr} {o : HO} {c : Cell} (w : Wd K F al m H) (h : H p = none) (hc : CellOk K F (al ++ [p]) (upd H p o) p c) (hg : c.inB m.length = true) : Wd K F (al ++ [p]) (m ++ [c]) (upd H p o) := by
  have ne : ∀ a, H a ≠ none → a ≠ p := fun a ha e => ha (by rw [e]; exact h)
  have hp : p ∉ al := fun z => w.tr p z h
  refine ⟨fun a u e => ?_, by simp [w.len], ?_, fun n a c' h1 h2 => ?_, fun n c' h2 => ?_, fun a ha => ?_⟩
  · have := w.sub a u e
    rw [upd_ne (ne a (by rw [this]; simp))]; exact this
  · exact List.nodup_append.mpr ⟨w.nd, by simp, fun a ha b hb => by
      rw [List.mem_singleton] at hb; subst hb; rintro rfl; exact hp ha⟩
  · by_cases hn : n < al.length
    · rw [List.getElem?_append_left hn] at h1
      rw [List.getElem?_append_left (by rw [← w.len]; exact hn)] at h2
      have hne := ne a (w.tr a (List.mem_of_getElem? h1))
      exact (w.cell n a c' h1 h2).upTo Le.snoc (fun z => z) fun _ => upd_ne hne
    · have hl := (List.getElem?_eq_some_iff.mp h1).1
      rw [List.length_append, List.length_singleton] at hl
      have e : n = al.length := by omega
      subst e
      rw [List.getElem?_append_right (Nat.le_refl _), Nat.sub_self] at h1
      rw [w.len, List.getElem?_append_right (Nat.le_refl _), Nat.sub_self] at h2
      cases h1; cases h2
      exact hc
  · by_cases hn : n < m.length
    · rw [List.getElem?_append_left hn] at h2
      exact w.gen n c' h2
    · have hl := (List.getElem?_eq_some_iff.mp h2).1
      rw [List.length_append, List.length_singleton] at hl
      have e : n = m.length := by omega
      subst e
      rw [List.getElem?_append_right (Nat.le_refl _), Nat.sub_self] at h2
      cases h2
      exact hg
  · by_cases e : a = p
    · subst e; rw [upd_same]; simp
    · rw [upd_ne e]
      rcases List.mem_append.mp ha with z | z
      · exact w.tr a z
      · exact absurd (List.mem_singleton.mp z) e
/-- an object changes -/
theorem Wd.write {n : Nat} {a : Addr} {o : HO} {c : Cell} (w : Wd K F al m H) (h1 : al[n]? = some a) (hf : F a = none) (hc : CellOk K F al (upd H a o) a c) (hg : c.inB n = true) : Wd K F al (m.set n c) (upd H a o) := by
  have inj : ∀ {k b}, al[k]? = some b → k ≠ n → b ≠ a := fun {k b} hb hk e => by
    subst e
    obtain ⟨l1, e1⟩ := List.getElem?_eq_some_iff.mp h1
    obtain ⟨l2, e2⟩ := List.getElem?_eq_some_iff.mp hb
    exact hk ((List.getElem_inj w.nd).mp (e2.trans e1.symm))
  refine ⟨fun b u e => ?_, by rw [List.length_set]; exact w.len, w.nd, fun k b c' h3 h4 => ?_, fun k c' h4 => ?_, fun b hb => ?_⟩
  · have hb : b ≠ a := fun z => by rw [z, hf] at e; cases e
    rw [upd_ne hb]; exact w.sub b u e
  · by_cases hk : k = n
    · subst hk
      rw [h1] at h3; cases h3
      rw [List.getElem?_set_self (by rw [← w.len]; exact (List.getElem?_eq_some_iff.mp h1).1)] at h4
      cases h4
      exact hc
    · rw [List.getElem?_set_ne (Ne.symm hk)] at h4
      exact (w.cell k b c' h3 h4).upTo Le.refl (fun z => z) fun _ => upd_ne (inj h3 hk)
  · by_cases hk : k = n
    · subst hk
      rw [List.getElem?_set_self (by rw [← w.len]; exact (List.getElem?_eq_some_iff.mp h1).1)] at h4
      cases h4
      exact hg
    · rw [List.getElem?_set_ne (Ne.symm hk)] at h4
      exact w.gen k c' h4
  · by_cases e : b = a
    · subst e; rw [upd_same]; simp
    · rw [upd_ne e]; exact w.tr b hb
end

/-! ### lists, tuples, as they lie -/
def lstOf (m : Mu) : D → Option (List D)
  | .lst xs => some xs
  | .fix xs => some xs
  | .loc n => match m[n]? with
    | some (.lst xs) => some xs
    | _ => none
  | _ => none
/-- .. as an object that stands by itself -/
def ownOf (m : Mu) : D → Option (List D)
  | .lst xs => some xs
  | .loc n => match m[n]? with
    | some (.lst xs) => some xs
    | _ => none
  | _ => none
section
variable {K : PySem.W.Frag} {F : Hp} {al : List Addr} {m : Mu} {H : Hp} {d : D} {v : V} {xs : List D}
theorem ownOf_ok (w : Wd K F al m H) (r : Rp K F al d v) (h : ownOf m d = some xs) : ∃ a vs, v = .ref a ∧ H a = some (.lst vs) ∧ RpL K F al xs vs := by
  cases r with
  | lst s q => cases h; exact ⟨_, _, rfl, w.sub _ _ s, q⟩
  | @loc n a s =>
    unfold ownOf at h
    cases e : m[n]? with
    | none => simp [e] at h
    | some c =>
      cases c with
      | lst ys =>
        simp [e] at h
        subst h
        obtain ⟨_, vs, h1, h2⟩ := w.cell n a _ s e
        exact ⟨a, vs, rfl, h1, h2⟩
      | ins c gs => simp [e] at h
      | dct gs => simp [e] at h
      | dead => simp [e] at h
  | _ => simp [ownOf] at h
theorem lstOf_ok (w : Wd K F al m H) (r : Rp K F al d v) (h : lstOf m d = some xs) : ∃ a vs, v = .ref a ∧ SqL K H a vs ∧ RpL K F al xs vs := by
  cases r with
  | lst s q => cases h; exact ⟨_, _, rfl, .of (w.sub _ _ s), q⟩
  | fix s q => cases h; exact ⟨_, _, rfl, sql_up w.sub s, q⟩
  | @loc n a s =>
    unfold lstOf at h
    cases e : m[n]? with
    | none => simp [e] at h
    | some c =>
      cases c with
      | lst ys =>
        simp [e] at h
        subst h
        obtain ⟨_, vs, h1, h2⟩ := w.cell n a _ s e
        exact ⟨a, vs, rfl, .of h1, h2⟩
      | ins c gs => simp [e] at h
      | dct gs => simp [e] at h
      | dead => simp [e] at h
  | _ => simp [lstOf] at h
end

/-! ### names and constants -/
section
variable {c : SC} {W : WX} {pos : Pos}
def xVar (i : Nat) : XE' := fun r m => match r[i]? with
  | some (some d) => .ok d m
  | _ => .stuck
def xC (d : D) : XE' := fun _ m => .ok d m
theorem OkD.vis {y : Dyn} {x : Str} (hy : OkD c W y) (h : Vis c.sc x) : Vis (c.cx y).env.scope x := by
  have e : (c.cx y).env.scope = c.sc := hy.scope
  rw [e]; exact h
theorem OkD.loc {y : Dyn} {x : Str} (hy : OkD c W y) (h : L2.Loc c.sc x) : L2.Loc (c.cx y).env.scope x := by
  have e : (c.cx y).env.scope = c.sc := hy.scope
  rw [e]; exact h
theorem OkD.gl {y : Dyn} {x : Str} (hy : OkD c W y) (h : c.sc.names.lookup x = some .globalImplicit) : Gl (c.cx y) x := by
  have e : (c.cx y).env.scope = c.sc := hy.scope
  show (c.cx y).env.scope.names.lookup x = _
  rw [e]; exact h
theorem de_var (i : Nat) {x : Str} (hN : c.N[i]? = some x := by rfl) (hv : Vis c.sc x := by first | exact .inl rfl | exact .inr (.inl rfl) | exact .inr (.inr rfl)) (hd : (x == ("__debug__" : Str)) = false := by decide) (hcd : (x == ("__classdict__" : Str)) = false := by decide) : DE c W (.Name x pos) (xVar i) := by
  refine ⟨tVar i, fun y hy => pe_var hN (hy.vis hv) hd hcd, fun r m σ H F al Q he hw p => ?_⟩
  unfold xVar at p
  cases q : r[i]? with
  | none => simp only [q] at p; exact p.elim
  | some o =>
    cases o with
    | none => simp only [q] at p; exact p.elim
    | some d =>
      simp only [q] at p
      obtain ⟨v, h1, h2⟩ := he.get i d q
      exact ⟨v, h1, p v H F al Le.refl hw h2⟩
theorem de_int {i : Int} {j : Nat} : DE c W (.Constant (.int i) j pos) (xC (.int i)) :=
  ⟨_, fun _ _ => pe_int, fun _ _ _ H F al Q _ hw p => p _ H F al Le.refl hw (.int i)⟩
theorem de_bl {b : Bool} {j : Nat} : DE c W (.Constant (.bool b) j pos) (xC (.bl b)) :=
  ⟨_, fun _ _ => pe_bl, fun _ _ _ H F al Q _ hw p => p _ H F al Le.refl hw (.bl b)⟩
theorem de_non {j : Nat} : DE c W (.Constant .none j pos) (xC .non) :=
  ⟨_, fun _ _ => pe_non, fun _ _ _ H F al Q _ hw p => p _ H F al Le.refl hw .non⟩
theorem de_str {x : Str} {j : Nat} : DE c W (.Constant (.str x) j pos) (xC (.str x)) :=
  ⟨_, fun _ _ => pe_str, fun _ _ _ H F al Q _ hw p => p _ H F al Le.refl hw (.str x)⟩
theorem de_gint {x : Str} {i : Int} (hm : ∃ t, c.mg x = some (.int i t)) (hg : c.sc.names.lookup x = some .globalImplicit := by rfl) (hd : (x == ("__debug__" : Str)) = false := by decide) : DE c W (.Name x pos) (xC (.int i)) := by
  obtain ⟨t, hm⟩ := hm
  exact ⟨_, fun y hy => pe_glob (hy.gl hg) hm (show RelV (.int i) _ from ⟨t, rfl⟩) hd, fun _ _ _ H F al Q _ hw p => p _ H F al Le.refl hw (.int i)⟩
theorem de_gstr {x z : Str} (hm : ∃ t, c.mg x = some (.str z t)) (hg : c.sc.names.lookup x = some .globalImplicit := by rfl) (hd : (x == ("__debug__" : Str)) = false := by decide) : DE c W (.Name x pos) (xC (.str z)) := by
  obtain ⟨t, hm⟩ := hm
  exact ⟨_, fun y hy => pe_glob (hy.gl hg) hm (show RelV (.str z) _ from ⟨t, rfl⟩) hd, fun _ _ _ H F al Q _ hw p => p _ H F al Le.refl hw (.str z)⟩

/-! ### operators -/
def OpD (c : SC) (f : Value → Value → Sem Value) (g : D → D → Mu → Out D) : Prop := ∃ r : R2, (∀ W y, OkD c W y → OpR (c.cx y) f r) ∧
  ∀ (W : XK) d e m x y H F al Q, Wd c.K F al m H → Rp c.K F al d x → Rp c.K F al e y → Post c.K (RD c.K) W F al Q (g d e m) → r x y H Q
def xOp (g : D → D → Mu → Out D) (a b : XE') : XE' := fun r m => (a r m).bind fun x m1 => (b r m1).bind fun y m2 => g x y m2
variable {a b e : Expr} {fa fb fe : XE'} {g : D → D → Mu → Out D}
theorem de_op {op : Operator} (ho : OpD c (binaryOp op) g) (ha : DE c W a fa) (hb : DE c W b fb) : DE c W (.BinOp a op b pos) (xOp g fa fb) := by
  obtain ⟨r, h1, h2⟩ := ho
  obtain ⟨ta, a1, a2⟩ := ha
  obtain ⟨tb, b1, b2⟩ := hb
  refine ⟨tOp r ta tb, fun y hy => pe_op (h1 W y hy) (a1 y hy) (b1 y hy), fun ρ m σ H F al Q he hw p => ?_⟩
  exact a2 ρ m σ H F al _ he hw (Post.step p fun x m1 v H1 F1 al1 e1 w1 q1 p1 => b2 ρ m1 σ H1 F1 al1 _ (he.up e1) w1
    (Post.step p1 fun z m2 u H2 F2 al2 e2 w2 q2 p2 => h2 _ x z m2 v u H2 F2 al2 Q w2 (q1.up e2) q2 p2))
theorem de_cmp {op : CmpOp} (ho : OpD c (compareOp op) g) (ha : DE c W a fa) (hb : DE c W b fb) (hm : behindInMarks op b = false := by rfl) : DE c W (.Compare a [op] [b] pos) (xOp g fa fb) := by
  obtain ⟨r, h1, h2⟩ := ho
  obtain ⟨ta, a1, a2⟩ := ha
  obtain ⟨tb, b1, b2⟩ := hb
  refine ⟨tOp r ta tb, fun y hy => pe_cmpR (h1 W y hy) (a1 y hy) (b1 y hy) hm, fun ρ m σ H F al Q he hw p => ?_⟩
  exact a2 ρ m σ H F al _ he hw (Post.step p fun x m1 v H1 F1 al1 e1 w1 q1 p1 => b2 ρ m1 σ H1 F1 al1 _ (he.up e1) w1
    (Post.step p1 fun z m2 u H2 F2 al2 e2 w2 q2 p2 => h2 _ x z m2 v u H2 F2 al2 Q w2 (q1.up e2) q2 p2))
def asB : D → Mu → Out Bool
  | .bl b, m => .ok b m
  | _, _ => .stuck
def xTest (f : XE') : XT := fun r m => (f r m).bind asB
theorem Post.asB {K : PySem.W.Frag} {W : XK} {F : Hp} {al : List Addr} {Q : Bool → Hp → Prop} {d : D} {v : V} {m : Mu} {H : Hp} (w : Wd K F al m H) (r : Rp K F al d v) (p : Post K RB W F al Q (DS.asB d m)) : ∃ k, v = .bl k ∧ Q k H := by
  cases r with
  | bl b => exact ⟨b, rfl, p b H F al Le.refl w rfl⟩
  | _ => exact p.elim
theorem dt_cmp {op : CmpOp} (ho : OpD c (compareOp op) g) (ha : DE c W a fa) (hb : DE c W b fb) (hm : behindInMarks op b = false := by rfl) : DT c W (.Compare a [op] [b] pos) (xTest (xOp g fa fb)) := by
  obtain ⟨r, h1, h2⟩ := ho
  obtain ⟨ta, a1, a2⟩ := ha
  obtain ⟨tb, b1, b2⟩ := hb
  refine ⟨tTest (tOp r ta tb), fun y hy => pt_cmpR (h1 W y hy) (a1 y hy) (b1 y hy) hm, fun ρ m σ H F al Q he hw p => ?_⟩
  have p' : Post c.K RB (atS W σ) F al Q ((fa ρ m).bind fun x m1 => (fb ρ m1).bind fun y m2 => (g x y m2).bind asB) := by
    have e : xTest (xOp g fa fb) ρ m = ((fa ρ m).bind fun x m1 => (fb ρ m1).bind fun y m2 => (g x y m2).bind asB) := by
      unfold xTest xOp
      cases fa ρ m with
      | ok x m1 =>
        show Out.bind (Out.bind (fb ρ m1) _) _ = Out.bind (fb ρ m1) _
        cases fb ρ m1 <;> rfl
      | exc _ _ _ => rfl
      | stuck => rfl
    rw [← e]; exact p
  exact a2 ρ m σ H F al _ he hw (Post.step p' fun x m1 v H1 F1 al1 e1 w1 q1 p1 => b2 ρ m1 σ H1 F1 al1 _ (he.up e1) w1
    (Post.step p1 fun z m2 u H2 F2 al2 e2 w2 q2 p2 => h2 _ x z m2 v u H2 F2 al2 _ w2 (q1.up e2) q2 (Post.step p2 fun d m3 v3 H3 F3 al3 e3 w3 q3 p3 => Post.asB w3 q3 p3)))
/-- an expression whose value is a bool, as a test -/
theorem dt_val (h : DE c W e fe) (he : ∀ env whole, isTrue e env whole = (do let v ← whole; standAt e.pos; holding [v] (truthy v)) := by intro _ _; rfl) : DT c W e (xTest fe) := by
  obtain ⟨t, h1, h2⟩ := h
  refine ⟨tB t, fun y hy => pt_val (h1 y hy) (he _), fun ρ m σ H F al Q ho hw p => ?_⟩
  exact h2 ρ m σ H F al _ ho hw (Post.step p fun d m3 v3 H3 F3 al3 e3 w3 q3 p3 => Post.asB w3 q3 p3)
/-! ### and, or, not -/
variable {ta tb : XT} {rest : List Expr}
def xAndT (a b : XT) : XT := fun r m => (a r m).bind fun k m1 => if k then b r m1 else .ok false m1
def xOrT (a b : XT) : XT := fun r m => (a r m).bind fun k m1 => if k then .ok true m1 else b r m1
def xNotT (a : XT) : XT := fun r m => (a r m).bind fun k m1 => .ok (!k) m1
theorem dw_and1 (ha : DT c W a ta) : DW c W (.BoolOp .And [a] pos) ta := by
  obtain ⟨t, h1, h2⟩ := ha
  exact ⟨t, fun y hy => pw_and1 (h1 y hy), h2⟩
theorem dw_or1 (ha : DT c W a ta) : DW c W (.BoolOp .Or [a] pos) ta := by
  obtain ⟨t, h1, h2⟩ := ha
  exact ⟨t, fun y hy => pw_or1 (h1 y hy), h2⟩
theorem dw_and (ha : DT c W a ta) (hb : DW c W (.BoolOp .And (b :: rest) pos) tb) : DW c W (.BoolOp .And (a :: b :: rest) pos) (xAndT ta tb) := by
  obtain ⟨t, a1, a2⟩ := ha
  obtain ⟨u, b1, b2⟩ := hb
  refine ⟨tAnd t u, fun y hy => pw_and (a1 y hy) (b1 y hy), fun ρ m σ H F al Q he hw p => ?_⟩
  refine a2 ρ m σ H F al _ he hw (Post.step p fun k m1 k' H1 F1 al1 e1 w1 q1 p1 => ?_)
  cases q1
  cases k with
  | true => exact b2 ρ m1 σ H1 F1 al1 _ (he.up e1) w1 p1
  | false => exact p1 false H1 F1 al1 Le.refl w1 rfl
theorem dw_or (ha : DT c W a ta) (hb : DW c W (.BoolOp .Or (b :: rest) pos) tb) : DW c W (.BoolOp .Or (a :: b :: rest) pos) (xOrT ta tb) := by
  obtain ⟨t, a1, a2⟩ := ha
  obtain ⟨u, b1, b2⟩ := hb
  refine ⟨tOr t u, fun y hy => pw_or (a1 y hy) (b1 y hy), fun ρ m σ H F al Q he hw p => ?_⟩
  refine a2 ρ m σ H F al _ he hw (Post.step p fun k m1 k' H1 F1 al1 e1 w1 q1 p1 => ?_)
  cases q1
  cases k with
  | true => exact p1 true H1 F1 al1 Le.refl w1 rfl
  | false => exact b2 ρ m1 σ H1 F1 al1 _ (he.up e1) w1 p1
theorem dt_w (h : DW c W e ta) : DT c W e ta := by
  obtain ⟨t, a1, a2⟩ := h
  exact ⟨t, fun y hy => (a1 y hy).pt, a2⟩
theorem dt_not (ha : DT c W a ta) : DT c W (.UnaryOp .Not a pos) (xNotT ta) := by
  obtain ⟨t, a1, a2⟩ := ha
  refine ⟨tNot t, fun y hy => pt_not (a1 y hy), fun ρ m σ H F al Q he hw p => ?_⟩
  refine a2 ρ m σ H F al _ he hw (Post.step p fun k m1 k' H1 F1 al1 e1 w1 q1 p1 => ?_)
  cases q1
  exact p1 _ H1 F1 al1 Le.refl w1 rfl
/-! as values -/
def xAnd (a b : XE') : XE' := fun r m => ((a r m).bind asB).bind fun k m1 => if k then b r m1 else .ok (.bl false) m1
def xOr (a b : XE') : XE' := fun r m => ((a r m).bind asB).bind fun k m1 => if k then .ok (.bl true) m1 else b r m1
def xNot (a : XE') : XE' := fun r m => ((a r m).bind asB).bind fun k m1 => .ok (.bl (!k)) m1
theorem Post.assoc {δ δ' δ2 : Type} {ν2 : Type} {K : PySem.W.Frag} {R : Hp → List Addr → δ2 → ν2 → Prop} {W : XK} {F : Hp} {al : List Addr} {Q : ν2 → Hp → Prop} {o : Out δ} {k : δ → Mu → Out δ'} {l : δ' → Mu → Out δ2} (p : Post K R W F al Q ((o.bind k).bind l)) : Post K R W F al Q (o.bind fun d m => (k d m).bind l) := by
  cases o <;> exact p
theorem Post.asB2 {δ ν : Type} {K : PySem.W.Frag} {R : Hp → List Addr → δ → ν → Prop} {W : XK} {F : Hp} {al : List Addr} {Q : ν → Hp → Prop} {d : D} {v : V} {m : Mu} {l : Bool → Mu → Out δ} (r : Rp K F al d v) (p : Post K R W F al Q ((DS.asB d m).bind l)) : ∃ k, v = .bl k ∧ Post K R W F al Q (l k m) := by
  cases r with
  | bl b => exact ⟨b, rfl, p⟩
  | _ => exact p.elim
theorem de_one {op : BoolOp} (ha : DE c W a fa) : DE c W (.BoolOp op [a] pos) fa := by
  obtain ⟨t, a1, a2⟩ := ha
  exact ⟨t, fun y hy => pe_one (a1 y hy), a2⟩
theorem de_and (ha : DE c W a fa) (hb : DE c W (.BoolOp .And (b :: rest) pos) fb) : DE c W (.BoolOp .And (a :: b :: rest) pos) (xAnd fa fb) := by
  obtain ⟨t, a1, a2⟩ := ha
  obtain ⟨u, b1, b2⟩ := hb
  refine ⟨_, fun y hy => pe_and (a1 y hy) (b1 y hy), fun ρ m σ H F al Q he hw p => ?_⟩
  refine a2 ρ m σ H F al _ he hw (Post.step p.assoc fun d m1 v H1 F1 al1 e1 w1 q1 p1 => ?_)
  obtain ⟨k, rfl, p2⟩ := Post.asB2 q1 p1
  refine ⟨k, rfl, ?_⟩
  cases k with
  | true => exact b2 ρ m1 σ H1 F1 al1 _ (he.up e1) w1 p2
  | false => exact p2 _ H1 F1 al1 Le.refl w1 (.bl false)
theorem de_or (ha : DE c W a fa) (hb : DE c W (.BoolOp .Or (b :: rest) pos) fb) : DE c W (.BoolOp .Or (a :: b :: rest) pos) (xOr fa fb) := by
  obtain ⟨t, a1, a2⟩ := ha
  obtain ⟨u, b1, b2⟩ := hb
  refine ⟨_, fun y hy => pe_or (a1 y hy) (b1 y hy), fun ρ m σ H F al Q he hw p => ?_⟩
  refine a2 ρ m σ H F al _ he hw (Post.step p.assoc fun d m1 v H1 F1 al1 e1 w1 q1 p1 => ?_)
  obtain ⟨k, rfl, p2⟩ := Post.asB2 q1 p1
  refine ⟨k, rfl, ?_⟩
  cases k with
  | true => exact p2 _ H1 F1 al1 Le.refl w1 (.bl true)
  | false => exact b2 ρ m1 σ H1 F1 al1 _ (he.up e1) w1 p2
theorem de_not (ha : DE c W a fa) : DE c W (.UnaryOp .Not a pos) (xNot fa) := by
  obtain ⟨t, a1, a2⟩ := ha
  refine ⟨_, fun y hy => pe_not (a1 y hy), fun ρ m σ H F al Q he hw p => ?_⟩
  refine a2 ρ m σ H F al _ he hw (Post.step p.assoc fun d m1 v H1 F1 al1 e1 w1 q1 p1 => ?_)
  obtain ⟨k, rfl, p2⟩ := Post.asB2 q1 p1
  exact ⟨k, rfl, p2 _ H1 F1 al1 Le.refl w1 (.bl _)⟩
def xIf (t : XT) (a b : XE') : XE' := fun r m => (t r m).bind fun k m1 => if k then a r m1 else b r m1
theorem de_if (ht : DT c W e ta) (ha : DE c W a fa) (hb : DE c W b fb) : DE c W (.IfExp e a b pos) (xIf ta fa fb) := by
  obtain ⟨t, t1, t2⟩ := ht
  obtain ⟨u, a1, a2⟩ := ha
  obtain ⟨v, b1, b2⟩ := hb
  refine ⟨_, fun y hy => pe_ifExp (t1 y hy) (a1 y hy) (b1 y hy), fun ρ m σ H F al Q he hw p => ?_⟩
  refine t2 ρ m σ H F al _ he hw (Post.step p fun k m1 k' H1 F1 al1 e1 w1 q1 p1 => ?_)
  cases q1
  cases k with
  | true => exact a2 ρ m1 σ H1 F1 al1 _ (he.up e1) w1 p1
  | false => exact b2 ρ m1 σ H1 F1 al1 _ (he.up e1) w1 p1
/-! a < b < c -/
def xChain (g g' : D → D → Mu → Out D) (a b k : XE') : XE' := fun r m => (a r m).bind fun x m1 => (b r m1).bind fun y m2 => ((g x y m2).bind asB).bind fun q m3 => if q then (k r m3).bind fun z m4 => g' y z m4 else .ok (.bl false) m3
theorem de_chain {op op' : CmpOp} {g' : D → D → Mu → Out D} {d : Expr} {fd : XE'} (ho : OpD c (compareOp op) g) (ho' : OpD c (compareOp op') g') (ha : DE c W a fa) (hb : DE c W b fb) (hd : DE c W d fd) (hm : lastMarks [op, op'] [b, d] = false := by with_unfolding_all rfl) : DE c W (.Compare a [op, op'] [b, d] pos) (xChain g g' fa fb fd) := by
  obtain ⟨r, r1, r2⟩ := ho
  obtain ⟨r', r1', r2'⟩ := ho'
  obtain ⟨t, a1, a2⟩ := ha
  obtain ⟨u, b1, b2⟩ := hb
  obtain ⟨v, d1, d2⟩ := hd
  refine ⟨tChain r r' t u v, fun y hy => pe_chain (r1 W y hy) (r1' W y hy) (a1 y hy) (b1 y hy) (d1 y hy) hm, fun ρ m σ H F al Q he hw p => ?_⟩
  refine a2 ρ m σ H F al _ he hw (Post.step p fun x m1 vx H1 F1 al1 e1 w1 q1 p1 => ?_)
  refine b2 ρ m1 σ H1 F1 al1 _ (he.up e1) w1 (Post.step p1 fun y m2 vy H2 F2 al2 e2 w2 q2 p2 => ?_)
  refine r2 _ x y m2 vx vy H2 F2 al2 _ w2 (q1.up e2) q2 (Post.step p2.assoc fun z m3 vz H3 F3 al3 e3 w3 q3 p3 => ?_)
  obtain ⟨k, rfl, p4⟩ := Post.asB2 q3 p3
  refine ⟨k, rfl, ?_⟩
  cases k with
  | true =>
    show v σ H3 _
    exact d2 ρ m3 σ H3 F3 al3 _ (((he.up e1).up e2).up e3) w3 (Post.step p4 fun z m4 vz H4 F4 al4 e4 w4 q4 p5 => r2' _ y z m4 vy vz H4 F4 al4 Q w4 ((q2.up e3).up e4) q4 p5)
  | false => exact p4 _ H3 F3 al3 Le.refl w3 (.bl false)
theorem dt_chain {op op' : CmpOp} {g' : D → D → Mu → Out D} {d : Expr} {fd : XE'} (ho : OpD c (compareOp op) g) (ho' : OpD c (compareOp op') g') (ha : DE c W a fa) (hb : DE c W b fb) (hd : DE c W d fd) (hm : lastMarks [op, op'] [b, d] = false := by with_unfolding_all rfl) : DT c W (.Compare a [op, op'] [b, d] pos) (xTest (xChain g g' fa fb fd)) := by
  obtain ⟨r, r1, r2⟩ := ho
  obtain ⟨r', r1', r2'⟩ := ho'
  obtain ⟨t, a1, a2⟩ := ha
  obtain ⟨u, b1, b2⟩ := hb
  obtain ⟨v, d1, d2⟩ := hd
  refine ⟨_, fun y hy => pt_chain (r1 W y hy) (r1' W y hy) (a1 y hy) (b1 y hy) (d1 y hy) hm, fun ρ m σ H F al Q he hw p => ?_⟩
  refine a2 ρ m σ H F al _ he hw (Post.step p.assoc fun x m1 vx H1 F1 al1 e1 w1 q1 p1 => ?_)
  refine b2 ρ m1 σ H1 F1 al1 _ (he.up e1) w1 (Post.step p1.assoc fun y m2 vy H2 F2 al2 e2 w2 q2 p2 => ?_)
  refine r2 _ x y m2 vx vy H2 F2 al2 _ w2 (q1.up e2) q2 (Post.step p2.assoc.assoc fun z m3 vz H3 F3 al3 e3 w3 q3 p3 => ?_)
  obtain ⟨k, rfl, p4⟩ := Post.asB2 q3 p3
  refine ⟨k, rfl, ?_⟩
  cases k with
  | true =>
    show v σ H3 _
    exact d2 ρ m3 σ H3 F3 al3 _ (((he.up e1).up e2).up e3) w3 (Post.step p4.assoc fun z m4 vz H4 F4 al4 e4 w4 q4 p5 => r2' _ y z m4 vy vz H4 F4 al4 _ w4 ((q2.up e3).up e4) q4
      (Post.step p5 fun z m5 vz H5 F5 al5 e5 w5 q5 p6 => Post.asB w5 q5 p6))
  | false => exact ⟨false, rfl, p4 _ H3 F3 al3 Le.refl w3 rfl⟩
/-! ### argument lists, displays -/
variable {es : List Expr} {fr : XA}
def xaNil : XA := fun _ m => .ok [] m
def xaCons (a : XE') (r : XA) : XA := fun ρ m => (a ρ m).bind fun x m1 => (r ρ m1).bind fun xs m2 => .ok (x :: xs) m2
theorem da_nil : DA c W [] xaNil := ⟨⟨tNil, fun _ _ => pa_nil, fun _ _ _ H F al Q _ hw p => p [] H F al Le.refl hw .nil⟩, fun r m ds m' h => by cases h; rfl⟩
theorem da_cons (ha : DE c W e fe) (hr : DA c W es fr) (hs : ∀ env, starEach (e :: es) env = (false, eval e env) :: starEach es env := by intro _; rfl) : DA c W (e :: es) (xaCons fe fr) := by
  obtain ⟨t, a1, a2⟩ := ha
  obtain ⟨⟨u, b1, b2⟩, hl⟩ := hr
  refine ⟨⟨tCons t u, fun y hy => pa_cons (a1 y hy) (b1 y hy) (hs _), fun ρ m σ H F al Q he hw p => ?_⟩, fun r m ds m' h => ?_⟩
  · refine a2 ρ m σ H F al _ he hw (Post.step p fun x m1 v H1 F1 al1 e1 w1 q1 p1 => ?_)
    refine b2 ρ m1 σ H1 F1 al1 _ (he.up e1) w1 (Post.step p1 fun xs m2 vs H2 F2 al2 e2 w2 q2 p2 => ?_)
    exact p2 _ H2 F2 al2 Le.refl w2 (.cons (q1.up e2) q2)
  · unfold xaCons at h
    cases h1 : fe r m with
    | ok x m1 =>
      rw [h1] at h
      have h' : Out.bind (fr r m1) (fun xs m2 => .ok (x :: xs) m2) = .ok ds m' := h
      cases h2 : fr r m1 with
      | ok xs m2 =>
        rw [h2] at h'
        cases h'
        rw [List.length_cons, hl _ _ _ _ h2, List.length_cons]
      | exc _ _ _ => rw [h2] at h'; cases h'
      | stuck => rw [h2] at h'; cases h'
    | exc _ _ _ => rw [h1] at h; cases h
    | stuck => rw [h1] at h; cases h
def xTup (a : XA) : XE' := fun r m => (a r m).bind fun ds m1 => .ok (.tup ds) m1
def xLst (a : XA) : XE' := fun r m => (a r m).bind fun ds m1 => .ok (.lst ds) m1
/-- a list that will change -/
def xNew (a : XA) : XE' := fun r m => (a r m).bind fun ds m1 => if D.inL m1.length ds then .ok (.loc m1.length) (m1 ++ [.lst ds]) else .stuck
/-- the length of what an argument list gives is known -/
theorem Post.lenA {K : PySem.W.Frag} {ν : Type} {R : Hp → List Addr → D → ν → Prop} {W : XK} {F : Hp} {al : List Addr} {Q : ν → Hp → Prop} {n : Nat} {o : Out (List D)} {k : List D → Mu → Out D} (p : Post K R W F al Q (o.bind k)) (hl : ∀ ds m', o = .ok ds m' → ds.length = n) :
    Post K R W F al Q (o.bind fun ds m => if ds.length = n then k ds m else .stuck) := by
  cases o with
  | ok ds m =>
    show Post K R W F al Q (if ds.length = n then k ds m else .stuck)
    rw [if_pos (hl ds m rfl)]; exact p
  | exc _ _ _ => exact p
  | stuck => exact p
theorem small_line {n : Nat} (h : n ≤ 100000) : n ≤ sizeLine := Nat.le_trans h (by rw [sizeLine_eq]; decide)
theorem de_tup {k : Nat} (h : DA c W es fr) (hz : es.length ≤ 100000 := by decide) : DE c W (.Tuple es k pos) (xTup fr) := by
  obtain ⟨⟨t, a1, a2⟩, hl⟩ := h
  refine ⟨tTup t, fun y hy => pe_tup (a1 y hy), fun ρ m σ H F al Q he hw p => ?_⟩
  refine a2 ρ m σ H F al _ he hw (Post.step (p.lenA fun ds m' e => hl ρ m ds m' e) fun xs m1 vs H1 F1 al1 e1 w1 q1 p1 => ?_)
  by_cases hn : xs.length = es.length
  · rw [if_pos hn] at p1
    refine ⟨by rw [← q1.len, hn]; exact small_line hz, fun q hq => p1 _ _ (upd F1 q (.tup vs)) al1 (ext_new (w1.fnone hq)) (w1.new hq) (.tup (.of upd_same) (q1.up (ext_new (w1.fnone hq))))⟩
  · rw [if_neg hn] at p1; exact p1.elim
theorem de_lst (h : DA c W es fr) (hz : es.length ≤ 100000 := by decide) : DE c W (.List es pos) (xLst fr) := by
  obtain ⟨⟨t, a1, a2⟩, hl⟩ := h
  refine ⟨tLst t, fun y hy => pe_lst (a1 y hy), fun ρ m σ H F al Q he hw p => ?_⟩
  refine a2 ρ m σ H F al _ he hw (Post.step (p.lenA fun ds m' e => hl ρ m ds m' e) fun xs m1 vs H1 F1 al1 e1 w1 q1 p1 => ?_)
  by_cases hn : xs.length = es.length
  · rw [if_pos hn] at p1
    refine ⟨by rw [← q1.len, hn]; exact small_line hz, fun q hq => p1 _ _ (upd F1 q (.lst vs)) al1 (ext_new (w1.fnone hq)) (w1.new hq) (.lst upd_same (q1.up (ext_new (w1.fnone hq))))⟩
  · rw [if_neg hn] at p1; exact p1.elim
theorem de_new (h : DA c W es fr) (hz : es.length ≤ 100000 := by decide) : DE c W (.List es pos) (xNew fr) := by
  obtain ⟨⟨t, a1, a2⟩, hl⟩ := h
  refine ⟨tLst t, fun y hy => pe_lst (a1 y hy), fun ρ m σ H F al Q he hw p => ?_⟩
  refine a2 ρ m σ H F al _ he hw (Post.step (p.lenA fun ds m' e => hl ρ m ds m' e) fun xs m1 vs H1 F1 al1 e1 w1 q1 p1 => ?_)
  by_cases hn : xs.length = es.length
  · rw [if_pos hn] at p1
    by_cases hb : D.inL m1.length xs = true
    · rw [if_pos hb] at p1
      refine ⟨by rw [← q1.len, hn]; exact small_line hz, fun q hq => p1 _ _ F1 (al1 ++ [q]) Le.snoc (w1.newCell hq ⟨w1.fnone hq, vs, upd_same, q1.up Le.snoc⟩ hb) (.loc (by rw [← w1.len, List.getElem?_append_right (Nat.le_refl _), Nat.sub_self]; rfl))⟩
    · rw [if_neg hb] at p1; exact p1.elim
  · rw [if_neg hn] at p1; exact p1.elim
end
end DS

namespace DS
open PySem PySem.Spec PyProof.Rows L2
section
variable {c : SC} {W : WX} {pos : Pos}

/-! ### operators on data -/
def addD (d e : D) (m : Mu) : Out D := match d, e with
  | .int i, .int j => .ok (.int (i + j)) m
  | .str x, .str y => if x.length + y.length ≤ sizeLine then .ok (.str (x ++ y)) m else .stuck
  | .tup xs, .tup ys => if xs.length + ys.length ≤ sizeLine then .ok (.tup (xs ++ ys)) m else .stuck
  | d, e => match ownOf m d, ownOf m e with
    | some xs, some ys => if xs.length + ys.length ≤ sizeLine then .ok (.lst (xs ++ ys)) m else .stuck
    | _, _ => .stuck
theorem op_addD : OpD c (binaryOp .Add) addD := by
  refine ⟨fun x y H Q => ((rI0 (fun i j => .int (i + j)) x y H Q ∨ ∃ i j, x = .str i ∧ y = .str j ∧ i.length + j.length ≤ sizeLine ∧ Q (.str (i ++ j)) H) ∨ rCatA c.K x y H Q) ∨ rCat x y H Q, fun W y hy => ((op_add.or op_add_str).or op_catA).or op_cat, fun W d e m x y H F al Q hw r1 r2 p => ?_⟩
  have lists : ∀ xs ys, ownOf m d = some xs → ownOf m e = some ys → Post c.K (RD c.K) W F al Q (if xs.length + ys.length ≤ sizeLine then .ok (.lst (xs ++ ys)) m else .stuck) → rCat x y H Q := fun xs ys h1 h2 p => by
    obtain ⟨a, vs, rfl, ha, qa⟩ := ownOf_ok hw r1 h1
    obtain ⟨b, ws, rfl, hb, qb⟩ := ownOf_ok hw r2 h2
    by_cases hl : xs.length + ys.length ≤ sizeLine
    · rw [if_pos hl] at p
      exact ⟨a, b, vs, ws, rfl, rfl, ha, hb, by rw [← qa.len, ← qb.len]; exact hl, fun q hq => p _ _ (upd F q _) al (ext_new (hw.fnone hq)) (hw.new hq) (.lst upd_same ((qa.append qb).up (ext_new (hw.fnone hq))))⟩
    · rw [if_neg hl] at p; exact p.elim
  unfold addD at p
  split at p
  · cases r1; cases r2
    exact .inl (.inl (.inl ⟨_, _, rfl, rfl, p _ H F al Le.refl hw (.int _)⟩))
  · cases r1; cases r2
    split at p
    · rename_i hl
      exact .inl (.inl (.inr ⟨_, _, rfl, rfl, hl, p _ H F al Le.refl hw (.str _)⟩))
    · exact p.elim
  · rename_i xs ys
    cases r1 with
    | @tup a vs _ s1 q1 =>
    cases r2 with
    | @tup b ws _ s2 q2 =>
    split at p
    · rename_i hl
      refine .inl (.inr ⟨a, b, vs, ws, rfl, rfl, sqt_up hw.sub s1, sqt_up hw.sub s2, by rw [← q1.len, ← q2.len]; exact hl, fun z => ?_, fun z z' => ?_, fun _ _ q hq => ?_⟩)
      · subst z
        cases q1
        exact p _ H F al Le.refl hw (.tup s2 q2)
      · subst z'
        cases q2
        rw [List.append_nil] at p
        exact p _ H F al Le.refl hw (.tup s1 q1)
      · exact p _ _ (upd F q _) al (ext_new (hw.fnone hq)) (hw.new hq) (.tup (.of upd_same) ((q1.append q2).up (ext_new (hw.fnone hq))))
    · exact p.elim
  · split at p
    · rename_i h1 h2
      exact .inr (lists _ _ h1 h2 p)
    · exact p.elim
/-- two ints -/
def intD (C : Int → Int → Bool) (g : Int → Int → Int) (d e : D) (m : Mu) : Out D := match d, e with
  | .int i, .int j => if C i j then .ok (.int (g i j)) m else .stuck
  | _, _ => .stuck
theorem opd_int {f : Value → Value → Sem Value} {C : Int → Int → Prop} {B : Int → Int → Bool} {g : Int → Int → Int} (h : ∀ X : Cx, OpR X f (rI C fun i j => .int (g i j))) (hB : ∀ i j, B i j = true → C i j) : OpD c f (intD B g) := by
  refine ⟨_, fun W y hy => h _, fun W d e m x y H F al Q hw r1 r2 p => ?_⟩
  unfold intD at p
  split at p
  · cases r1; cases r2
    split at p
    · rename_i hb
      exact ⟨_, _, rfl, rfl, hB _ _ hb, p _ H F al Le.refl hw (.int _)⟩
    · exact p.elim
  · exact p.elim
def subD (d e : D) (m : Mu) : Out D := match d, e with
  | .int i, .int j => .ok (.int (i - j)) m
  | _, _ => .stuck
theorem op_subD : OpD c (binaryOp .Sub) subD := by
  refine ⟨_, fun W y hy => op_sub, fun W d e m x y H F al Q hw r1 r2 p => ?_⟩
  unfold subD at p
  split at p
  · cases r1; cases r2
    exact ⟨_, _, rfl, rfl, p _ H F al Le.refl hw (.int _)⟩
  · exact p.elim
def mulOk (i j : Int) : Bool := decide (-(2 ^ 64) < i ∧ i < 2 ^ 64) || decide (-(2 ^ 64) < j ∧ j < 2 ^ 64)
def mulD (d e : D) (m : Mu) : Out D := match d, e with
  | .int i, .int j => if mulOk i j then .ok (.int (i * j)) m else .stuck
  | d, .int k => match ownOf m d with
    | some xs => if 0 ≤ k ∧ k < 100000 ∧ xs.length * k.toNat ≤ sizeLine then .ok (.lst (List.replicate k.toNat xs).flatten) m else .stuck
    | none => .stuck
  | _, _ => .stuck
theorem RpL.rep {K : PySem.W.Frag} {F : Hp} {al : List Addr} {xs : List D} {vs : List V} (h : RpL K F al xs vs) : ∀ k : Nat, RpL K F al (List.replicate k xs).flatten (List.replicate k vs).flatten
  | 0 => .nil
  | k + 1 => by
    rw [List.replicate_succ, List.replicate_succ, List.flatten_cons, List.flatten_cons]
    exact h.append (RpL.rep h k)
theorem op_mulD : OpD c (binaryOp .Mult) mulD := by
  refine ⟨_, fun W y hy => op_mul.or op_rep, fun W d e m x y H F al Q hw r1 r2 p => ?_⟩
  unfold mulD at p
  split at p
  · cases r1; cases r2
    split at p
    · rename_i hb
      refine .inl ⟨_, _, rfl, rfl, ?_, p _ H F al Le.refl hw (.int _)⟩
      unfold mulOk at hb
      rw [Bool.or_eq_true, decide_eq_true_eq, decide_eq_true_eq] at hb
      exact hb
    · exact p.elim
  · cases r2
    split at p
    · rename_i xs h1
      obtain ⟨a, vs, rfl, ha, qa⟩ := ownOf_ok hw r1 h1
      split at p
      · rename_i k _ hk
        obtain ⟨k0, k1, k2⟩ := hk
        refine .inr ⟨a, _, vs, rfl, rfl, ha, by omega, by omega, by rw [← qa.len]; exact k2, fun q hq => p _ _ (upd F q _) al (ext_new (hw.fnone hq)) (hw.new hq) (.lst upd_same ((qa.rep _).up (ext_new (hw.fnone hq))))⟩
      · exact p.elim
    · exact p.elim
  · exact p.elim
def modD : D → D → Mu → Out D := intD (fun _ j => decide (0 < j)) fun i j => i % j
theorem op_modD : OpD c (binaryOp .Mod) modD := opd_int (fun _ => op_mod) fun _ _ h => of_decide_eq_true h
def divD : D → D → Mu → Out D := intD (fun _ j => decide (0 < j ∧ j < 1073741824)) fun i j => i / j
theorem op_divD : OpD c (binaryOp .FloorDiv) divD := opd_int (fun _ => op_fdiv) fun i j h => (of_decide_eq_true h : 0 < j ∧ j < 1073741824)
def powD : D → D → Mu → Out D := intD (fun i j => decide (0 ≤ j ∧ j ≤ 1000000 ∧ i.natAbs < 2 ^ 64)) fun i j => i ^ j.toNat
theorem op_powD : OpD c (binaryOp .Pow) powD := opd_int (fun _ => op_pow) fun i j h => (of_decide_eq_true h : 0 ≤ j ∧ j ≤ 1000000 ∧ i.natAbs < 2 ^ 64)
/-- comparisons of ints -/
def cmpD (g : Int → Int → Bool) (d e : D) (m : Mu) : Out D := match d, e with
  | .int i, .int j => .ok (.bl (g i j)) m
  | _, _ => .stuck
theorem opd_cmp {f : Value → Value → Sem Value} {g : Int → Int → Bool} (h : ∀ X : Cx, OpR X f (rI0 fun i j => .bl (g i j))) : OpD c f (cmpD g) := by
  refine ⟨_, fun W y hy => h _, fun W d e m x y H F al Q hw r1 r2 p => ?_⟩
  unfold cmpD at p
  split at p
  · cases r1; cases r2
    exact ⟨_, _, rfl, rfl, p _ H F al Le.refl hw (.bl _)⟩
  · exact p.elim
def ltD : D → D → Mu → Out D := cmpD fun i j => decide (i < j)
def leD : D → D → Mu → Out D := cmpD fun i j => decide (i ≤ j)
def gtD : D → D → Mu → Out D := cmpD fun i j => decide (j < i)
def geD : D → D → Mu → Out D := cmpD fun i j => decide (j ≤ i)
theorem op_ltD : OpD c (compareOp .Lt) ltD := opd_cmp fun _ => op_lt
theorem op_leD : OpD c (compareOp .LtE) leD := opd_cmp fun _ => op_le
theorem op_gtD : OpD c (compareOp .Gt) gtD := opd_cmp fun _ => op_gt
theorem op_geD : OpD c (compareOp .GtE) geD := opd_cmp fun _ => op_ge
/-- is None -/
def isNonD : D → Bool
  | .non => true
  | _ => false
theorem Rp.isNon {K : PySem.W.Frag} {F : Hp} {al : List Addr} {d : D} {v : V} (r : Rp K F al d v) : decide (v = .non) = isNonD d := by
  cases r <;> first | rfl | exact decide_eq_false (fun z => nomatch z)
def isD (d e : D) (m : Mu) : Out D := match e with
  | .non => .ok (.bl (isNonD d)) m
  | _ => .stuck
def isntD (d e : D) (m : Mu) : Out D := match e with
  | .non => .ok (.bl (!isNonD d)) m
  | _ => .stuck
theorem op_isD : OpD c (compareOp .Is) isD := by
  refine ⟨_, fun W y hy => op_isN, fun W d e m x y H F al Q hw r1 r2 p => ?_⟩
  unfold isD at p
  split at p
  · cases r2
    refine ⟨rfl, ?_⟩
    rw [r1.isNon]
    exact p _ H F al Le.refl hw (.bl _)
  · exact p.elim
theorem op_isntD : OpD c (compareOp .IsNot) isntD := by
  refine ⟨_, fun W y hy => op_notN, fun W d e m x y H F al Q hw r1 r2 p => ?_⟩
  unfold isntD at p
  split at p
  · cases r2
    refine ⟨rfl, ?_⟩
    rw [r1.isNon]
    exact p _ H F al Le.refl hw (.bl _)
  · exact p.elim

/-! ### == of data -/
mutual
def toP : D → Option PyData
  | .non => some .none
  | .bl b => some (.bool b)
  | .int i => some (.int i)
  | .str x => some (.str x)
  | .tup xs => (toPs xs).map .tuple
  | .lst xs => (toPs xs).map .list
  | .fix xs => (toPs xs).map .list
  | _ => none
def toPs : List D → Option (List PyData)
  | [] => some []
  | x :: r => match toP x, toPs r with
    | some p, some ps => some (p :: ps)
    | _, _ => none
end
section
variable {K : PySem.W.Frag} {F : Hp} {al : List Addr} {H : Hp}
theorem dpall_get {F' : Hp} : True := trivial
mutual
theorem Rp.dp (sub : ∀ (a : Addr) (o : HO), F a = some o → H a = some o) : ∀ {d : D} {v : V} {p : PyData}, Rp K F al d v → toP d = some p → Dp K H v p
  | _, _, _, .non, h => by rw [toP] at h; cases h; exact .non
  | _, _, _, .bl b, h => by rw [toP] at h; cases h; exact .bl b
  | _, _, _, .int i, h => by rw [toP] at h; cases h; exact .int i
  | _, _, _, .str x, h => by rw [toP] at h; cases h; exact .str x
  | _, _, _, .tup (ds := ds) s q, h => by
    rw [toP] at h
    cases e : toPs ds with
    | none => rw [e] at h; cases h
    | some ps => rw [e] at h; cases h; exact .tup (sqt_up sub s) (RpL.dp sub q e)
  | _, _, _, .lst (ds := ds) s q, h => by
    rw [toP] at h
    cases e : toPs ds with
    | none => rw [e] at h; cases h
    | some ps => rw [e] at h; cases h; exact .lst (.of (sub _ _ s)) (RpL.dp sub q e)
  | _, _, _, .fix (ds := ds) s q, h => by
    rw [toP] at h
    cases e : toPs ds with
    | none => rw [e] at h; cases h
    | some ps => rw [e] at h; cases h; exact .lst (sql_up sub s) (RpL.dp sub q e)
  | _, _, _, .obj _ _, h => by rw [toP] at h <;> first | cases h | (intros; exact D.noConfusion)
  | _, _, _, .dct _ _, h => by rw [toP] at h <;> first | cases h | (intros; exact D.noConfusion)
  | _, _, _, .loc _, h => by rw [toP] at h <;> first | cases h | (intros; exact D.noConfusion)
  | _, _, _, .glo _, h => by rw [toP] at h <;> first | cases h | (intros; exact D.noConfusion)
  | _, _, _, .ty _, h => by rw [toP] at h <;> first | cases h | (intros; exact D.noConfusion)
theorem RpL.dp (sub : ∀ (a : Addr) (o : HO), F a = some o → H a = some o) : ∀ {d : List D} {v : List V} {p : List PyData}, RpL K F al d v → toPs d = some p → DpAll K H v p
  | _, _, _, .nil, h => by rw [toPs] at h; cases h; exact .nil
  | _, _, _, .cons (d := d) (ds := ds) r q, h => by
    rw [toPs] at h
    cases e1 : toP d with
    | none => rw [e1] at h; cases h
    | some p =>
      cases e2 : toPs ds with
      | none => rw [e1, e2] at h; cases h
      | some ps => rw [e1, e2] at h; cases h; exact .cons (Rp.dp sub r e1) (RpL.dp sub q e2)
end
end
/-- a list that stands in the store, as data -/
def dere (m : Mu) : D → D
  | .loc n => match m[n]? with
    | some (.lst xs) => .fix xs
    | _ => .loc n
  | d => d
theorem dere_dp {K : PySem.W.Frag} {F : Hp} {al : List Addr} {m : Mu} {H : Hp} {d : D} {v : V} {p : PyData} (w : Wd K F al m H) (r : Rp K F al d v) (h : toP (dere m d) = some p) : Dp K H v p := by
  cases d with
  | loc n =>
    unfold dere at h
    cases r with
    | @loc _ a s =>
    cases e : m[n]? with
    | none => simp only [e] at h; rw [toP] at h <;> first | cases h | (intros; exact D.noConfusion)
    | some cl =>
      cases cl with
      | lst xs =>
        simp only [e] at h
        obtain ⟨_, vs, h1, h2⟩ := w.cell n a _ s e
        rw [toP] at h
        cases e2 : toPs xs with
        | none => rw [e2] at h; cases h
        | some ps => rw [e2] at h; cases h; exact .lst (.of h1) (RpL.dp w.sub h2 e2)
      | ins _ _ => simp only [e] at h; rw [toP] at h <;> first | cases h | (intros; exact D.noConfusion)
      | dct _ => simp only [e] at h; rw [toP] at h <;> first | cases h | (intros; exact D.noConfusion)
      | dead => simp only [e] at h; rw [toP] at h <;> first | cases h | (intros; exact D.noConfusion)
  | _ => exact r.dp w.sub h
def eqB (m : Mu) (d e : D) : Option Bool := match toP (dere m d), toP (dere m e) with
  | some p, some q => if SeqAt.shaped p && SeqAt.shaped q then some (PyData.eqv p q) else none
  | _, _ => none
def eqD (d e : D) (m : Mu) : Out D := match d, e with
  | .str x, .str y => .ok (.bl (x == y)) m
  | d, e => match eqB m d e with
    | some b => .ok (.bl b) m
    | none => .stuck
def neD (d e : D) (m : Mu) : Out D := match d, e with
  | .str x, .str y => .ok (.bl (!(x == y))) m
  | d, e => match eqB m d e with
    | some b => .ok (.bl (!b)) m
    | none => .stuck
theorem eqB_ok {K : PySem.W.Frag} {F : Hp} {al : List Addr} {m : Mu} {H : Hp} {d e : D} {x y : V} {b : Bool} (w : Wd K F al m H) (r1 : Rp K F al d x) (r2 : Rp K F al e y) (h : eqB m d e = some b) :
    ∃ p q, Dp K H x p ∧ Dp K H y q ∧ SeqAt.shaped p = true ∧ SeqAt.shaped q = true ∧ b = PyData.eqv p q := by
  unfold eqB at h
  split at h
  · rename_i p q h1 h2
    split at h
    · rename_i hs
      rw [Bool.and_eq_true] at hs
      cases h
      exact ⟨p, q, dere_dp w r1 h1, dere_dp w r2 h2, hs.1, hs.2, rfl⟩
    · cases h
  · cases h
theorem op_eqD' : OpD c (compareOp .Eq) eqD := by
  refine ⟨fun x y H Q => rEq x y H Q ∨ rEqD c.K x y H Q, fun W y hy => (op_eq (X := c.cx y)).or (op_eqD (X := c.cx y) hy.un64), fun W d e m x y H F al Q hw r1 r2 p => ?_⟩
  have gen : Post c.K (RD c.K) W F al Q (match eqB m d e with
    | some b => .ok (.bl b) m
    | none => .stuck) → rEq x y H Q ∨ rEqD c.K x y H Q := fun p => by
    split at p
    · rename_i b h
      obtain ⟨p1, q1, a1, a2, a3, a4, rfl⟩ := eqB_ok hw r1 r2 h
      exact .inr ⟨p1, q1, a1, a2, a3, a4, p _ H F al Le.refl hw (.bl _)⟩
    · exact p.elim
  unfold eqD at p
  split at p
  · cases r1; cases r2
    refine .inl ⟨rfl, ?_⟩
    rw [dec_str]
    exact p _ H F al Le.refl hw (.bl _)
  · exact gen p
theorem op_neD' : OpD c (compareOp .NotEq) neD := by
  refine ⟨fun x y H Q => rNe x y H Q ∨ rNeD c.K x y H Q, fun W y hy => (op_ne (X := c.cx y)).or (op_neD (X := c.cx y) hy.un64), fun W d e m x y H F al Q hw r1 r2 p => ?_⟩
  have gen : Post c.K (RD c.K) W F al Q (match eqB m d e with
    | some b => .ok (.bl (!b)) m
    | none => .stuck) → rNe x y H Q ∨ rNeD c.K x y H Q := fun p => by
    split at p
    · rename_i b h
      obtain ⟨p1, q1, a1, a2, a3, a4, rfl⟩ := eqB_ok hw r1 r2 h
      exact .inr ⟨p1, q1, a1, a2, a3, a4, p _ H F al Le.refl hw (.bl _)⟩
    · exact p.elim
  unfold neD at p
  split at p
  · cases r1; cases r2
    refine .inl ⟨rfl, ?_⟩
    rw [dec_str]
    exact p _ H F al Le.refl hw (.bl _)
  · exact gen p

/-! ### in -/
def flatD : D → Bool
  | .non => true
  | .bl _ => true
  | .int _ => true
  | .str _ => true
  | _ => false
def eqF : D → D → Bool
  | .non, .non => true
  | .bl a, .bl b => a == b
  | .bl a, .int b => (if a = true then (1 : Int) else 0) == b
  | .int a, .bl b => a == if b = true then (1 : Int) else 0
  | .int a, .int b => a == b
  | .str a, .str b => a == b
  | _, _ => false
section
variable {K : PySem.W.Frag} {F : Hp} {al : List Addr}
theorem Rp.flat {d : D} {v : V} (r : Rp K F al d v) : flatD d = true → flatV v = true := by
  intro h
  cases r <;> first | rfl | cases h
theorem Rp.eqF {d e : D} {x y : V} (r1 : Rp K F al d x) (r2 : Rp K F al e y) (h1 : flatD d = true) (h2 : flatD e = true) : eqV x y = DS.eqF d e := by
  cases r1 <;> cases h1 <;> cases r2 <;> cases h2 <;> rfl
theorem RpL.flat : ∀ {ds : List D} {vs : List V}, RpL K F al ds vs → ds.all flatD = true → vs.all flatV = true
  | _, _, .nil, _ => rfl
  | _, _, .cons r q, h => by
    rw [List.all_cons, Bool.and_eq_true] at h ⊢
    exact ⟨r.flat h.1, RpL.flat q h.2⟩
theorem RpL.inF {d : D} {v : V} (r : Rp K F al d v) (hd : flatD d = true) : ∀ {ds : List D} {vs : List V}, RpL K F al ds vs → ds.all flatD = true → inV v vs = ds.any fun e => DS.eqF e d
  | _, _, .nil, _ => rfl
  | _, _, .cons r' q, h => by
    rw [List.all_cons, Bool.and_eq_true] at h
    have ih := RpL.inF r hd q h.2
    unfold inV at ih ⊢
    rw [List.any_cons, List.any_cons, ih, Rp.eqF r' r h.1 hd]
end
def inB (m : Mu) (d e : D) : Option Bool := match d, e with
  | .str x, .str y => some (!(Builtin.Str.occurrences y x 0 y.length 1).isEmpty)
  | d, .tup xs => if flatD d && xs.all flatD then some (xs.any fun y => eqF y d) else none
  | d, e => match lstOf m e with
    | some xs => if flatD d && xs.all flatD then some (xs.any fun y => eqF y d) else none
    | none => none
def inD (d e : D) (m : Mu) : Out D := match inB m d e with
  | some b => .ok (.bl b) m
  | none => .stuck
def ninD (d e : D) (m : Mu) : Out D := match inB m d e with
  | some b => .ok (.bl (!b)) m
  | none => .stuck
theorem inB_ok {K : PySem.W.Frag} {F : Hp} {al : List Addr} {m : Mu} {H : Hp} {d e : D} {x y : V} {b : Bool} (w : Wd K F al m H) (r1 : Rp K F al d x) (r2 : Rp K F al e y) (h : inB m d e = some b) :
    (∃ i j, x = .str i ∧ y = .str j ∧ b = (!(Builtin.Str.occurrences j i 0 j.length 1).isEmpty)) ∨ ∃ p xs, y = .ref p ∧ (SqL K H p xs ∨ SqT K H p xs) ∧ flatV x = true ∧ xs.all flatV = true ∧ b = inV x xs := by
  unfold inB at h
  split at h
  · cases r1; cases r2; cases h
    exact .inl ⟨_, _, rfl, rfl, rfl⟩
  · cases r2 with
    | @tup a vs _ s q =>
    split at h
    · rename_i hf
      rw [Bool.and_eq_true] at hf
      cases h
      exact .inr ⟨a, vs, rfl, .inr (sqt_up w.sub s), r1.flat hf.1, q.flat hf.2, (q.inF r1 hf.1 hf.2).symm⟩
    · cases h
  · split at h
    · rename_i hl
      split at h
      · rename_i hf
        rw [Bool.and_eq_true] at hf
        cases h
        obtain ⟨a, vs, rfl, s, q⟩ := lstOf_ok w r2 hl
        exact .inr ⟨a, vs, rfl, .inl s, r1.flat hf.1, q.flat hf.2, (q.inF r1 hf.1 hf.2).symm⟩
      · cases h
    · cases h
theorem op_inD : OpD c (compareOp .In) inD := by
  refine ⟨fun x y H Q => (∃ i j, x = .str i ∧ y = .str j ∧ Q (.bl (!(Builtin.Str.occurrences j i 0 j.length 1).isEmpty)) H) ∨ rIn c.K false x y H Q, fun W y hy => op_in_str.or op_in_seq, fun W d e m x y H F al Q hw r1 r2 p => ?_⟩
  unfold inD at p
  split at p
  · rename_i b h
    rcases inB_ok hw r1 r2 h with ⟨i, j, rfl, rfl, rfl⟩ | ⟨q, xs, rfl, h1, h2, h3, rfl⟩
    · exact .inl ⟨i, j, rfl, rfl, p _ H F al Le.refl hw (.bl _)⟩
    · exact .inr ⟨q, xs, rfl, h1, h2, h3, p _ H F al Le.refl hw (.bl _)⟩
  · exact p.elim
theorem op_ninD : OpD c (compareOp .NotIn) ninD := by
  refine ⟨fun x y H Q => (∃ i j, x = .str i ∧ y = .str j ∧ Q (.bl (!(!(Builtin.Str.occurrences j i 0 j.length 1).isEmpty))) H) ∨ rIn c.K true x y H Q, fun W y hy => op_notin_str.or op_notIn_seq, fun W d e m x y H F al Q hw r1 r2 p => ?_⟩
  unfold ninD at p
  split at p
  · rename_i b h
    rcases inB_ok hw r1 r2 h with ⟨i, j, rfl, rfl, rfl⟩ | ⟨q, xs, rfl, h1, h2, h3, rfl⟩
    · exact .inl ⟨i, j, rfl, rfl, p _ H F al Le.refl hw (.bl _)⟩
    · exact .inr ⟨q, xs, rfl, h1, h2, h3, p _ H F al Le.refl hw (.bl _)⟩
  · exact p.elim
end
end DS

namespace DS
open PySem PySem.Spec PyProof.Rows L2
section
variable {K : PySem.W.Frag} {F F' : Hp} {al al' : List Addr} {m : Mu} {H : Hp}
/-! ### leaving a def: what was new in the store is fixed or forgotten -/
theorem Le.cut {n : Nat} (e : Le F al F' al') (h : al.length ≤ n) : Le F al F' (al'.take n) :=
  ⟨e.f, fun k a q => by
    rw [List.getElem?_take_of_lt (Nat.lt_of_lt_of_le (List.getElem?_eq_some_iff.mp q).1 h)]
    exact e.a k a q⟩
theorem Cell.inB_lst {n : Nat} {xs : List D} : (Cell.lst xs).inB n = D.inL n xs := rfl
mutual
theorem D.inB_mono {n k : Nat} (h : n ≤ k) : ∀ d : D, d.inB n = true → d.inB k = true
  | .loc j, e => by rw [D.inB] at e ⊢; exact decide_eq_true (Nat.lt_of_lt_of_le (of_decide_eq_true e) h)
  | .tup xs, e => by rw [D.inB] at e ⊢; exact D.inL_mono h xs e
  | .lst xs, e => by rw [D.inB] at e ⊢; exact D.inL_mono h xs e
  | .fix xs, e => by rw [D.inB] at e ⊢; exact D.inL_mono h xs e
  | .obj _ fs, e => by rw [D.inB] at e ⊢; exact D.inF_mono h fs e
  | .dct fs, e => by rw [D.inB] at e ⊢; exact D.inF_mono h fs e
  | .non, _ => by simp only [D.inB]
  | .bl _, _ => by simp only [D.inB]
  | .int _, _ => by simp only [D.inB]
  | .str _, _ => by simp only [D.inB]
  | .glo _, _ => by simp only [D.inB]
  | .ty _, _ => by simp only [D.inB]
theorem D.inL_mono {n k : Nat} (h : n ≤ k) : ∀ d : List D, D.inL n d = true → D.inL k d = true
  | [], _ => by rw [D.inL]
  | x :: r, e => by
    rw [D.inL, Bool.and_eq_true] at e ⊢
    exact ⟨D.inB_mono h x e.1, D.inL_mono h r e.2⟩
theorem D.inF_mono {n k : Nat} (h : n ≤ k) : ∀ d : List (Str × D), D.inF n d = true → D.inF k d = true
  | [], _ => by rw [D.inF]
  | (_, x) :: r, e => by
    rw [D.inF, Bool.and_eq_true] at e ⊢
    exact ⟨D.inB_mono h x e.1, D.inF_mono h r e.2⟩
end
theorem Cell.inB_mono {n k : Nat} (h : n ≤ k) {c : Cell} (e : c.inB n = true) : c.inB k = true := by
  cases c with
  | lst xs => exact D.inL_mono h xs e
  | ins _ fs => exact D.inF_mono h fs e
  | dct fs => exact D.inF_mono h fs e
  | dead => rfl
theorem CellOk.cut {n : Nat} {a : Addr} {c : Cell} (h : CellOk K F al H a c) (e : c.inB n = true) : CellOk K F (al.take n) H a c := by
  cases c with
  | lst xs => obtain ⟨z, vs, h1, h2⟩ := h; exact ⟨z, vs, h1, h2.cut e⟩
  | ins _ gs => obtain ⟨z, dx, fs, h1, h2⟩ := h; exact ⟨z, dx, fs, h1, h2.cut e⟩
  | dct gs => obtain ⟨z, fs, h1, h2⟩ := h; exact ⟨z, fs, h1, h2.cut e⟩
  | dead => trivial
theorem Wd.cut (w : Wd K F al m H) (n : Nat) : Wd K F (al.take n) (m.take n) H := by
  refine ⟨w.sub, by rw [List.length_take, List.length_take, w.len], w.nd.sublist (List.take_sublist _ _), fun k a c h1 h2 => ?_, fun k c h2 => ?_, fun a ha => w.tr a (List.mem_of_mem_take ha)⟩
  · have hk : k < n := by
      have := (List.getElem?_eq_some_iff.mp h2).1
      rw [List.length_take] at this
      omega
    rw [List.getElem?_take_of_lt hk] at h1 h2
    exact (w.cell k a c h1 h2).cut (Cell.inB_mono (Nat.le_of_lt hk) (w.gen k c h2))
  · have hk : k < n := by
      have := (List.getElem?_eq_some_iff.mp h2).1
      rw [List.length_take] at this
      omega
    rw [List.getElem?_take_of_lt hk] at h2
    exact w.gen k c h2
theorem Wd.inj (w : Wd K F al m H) {i j : Nat} {a : Addr} (h1 : al[i]? = some a) (h2 : al[j]? = some a) : i = j := by
  obtain ⟨l1, e1⟩ := List.getElem?_eq_some_iff.mp h1
  obtain ⟨l2, e2⟩ := List.getElem?_eq_some_iff.mp h2
  exact (List.getElem_inj w.nd).mp (e1.trans e2.symm)
/-- the object at n is fixed, what is above k (k ≤ n) forgotten -/
theorem Wd.frz {n k : Nat} {a : Addr} {o : HO} (w : Wd K F al m H) (h1 : al[n]? = some a) (ho : H a = some o) (hf : F a = none) (hk : k ≤ n) : Wd K (upd F a o) (al.take k) (m.take k) H := by
  have w' := w.cut k
  refine ⟨fun b u e => ?_, w'.len, w'.nd, fun j b c h2 h3 => ?_, w'.gen, w'.tr⟩
  · by_cases hb : b = a
    · subst hb; rw [upd_same] at e; rw [← e]; exact ho
    · rw [upd_ne hb] at e; exact w.sub b u e
  · have hj : j < k := by
      have := (List.getElem?_eq_some_iff.mp h2).1
      rw [List.length_take] at this
      omega
    have hb : b ≠ a := fun z => by
      subst z
      rw [List.getElem?_take_of_lt hj] at h2
      have := w.inj h2 h1
      omega
    exact (w'.cell j b c h2 h3).upTo (ext_new hf) (fun z => by rw [upd_ne hb]; exact z) fun _ => rfl
/-- the object at n is fixed, its place stays empty -/
theorem Wd.fix {n : Nat} {a : Addr} {o : HO} (w : Wd K F al m H) (h1 : al[n]? = some a) (ho : H a = some o) (hf : F a = none) : Wd K (upd F a o) al (m.set n .dead) H := by
  refine ⟨fun b u e => ?_, by rw [List.length_set]; exact w.len, w.nd, fun j b c h2 h3 => ?_, fun j c h3 => ?_, w.tr⟩
  · by_cases hb : b = a
    · subst hb; rw [upd_same] at e; rw [← e]; exact ho
    · rw [upd_ne hb] at e; exact w.sub b u e
  · by_cases hj : j = n
    · subst hj
      rw [List.getElem?_set_self (by rw [← w.len]; exact (List.getElem?_eq_some_iff.mp h1).1)] at h3
      cases h3
      trivial
    · rw [List.getElem?_set_ne (Ne.symm hj)] at h3
      have hb : b ≠ a := fun z => by
        subst z
        exact hj (w.inj h2 h1)
      exact (w.cell j b c h2 h3).upTo (ext_new hf) (fun z => by rw [upd_ne hb]; exact z) fun _ => rfl
  · by_cases hj : j = n
    · subst hj
      rw [List.getElem?_set_self (by rw [← w.len]; exact (List.getElem?_eq_some_iff.mp h1).1)] at h3
      cases h3
      rfl
    · rw [List.getElem?_set_ne (Ne.symm hj)] at h3
      exact w.gen j c h3
def exitD (n0 : Nat) (d : D) (m : Mu) : Out D := if d.inB n0 then .ok d (m.take n0) else match d with
  | .loc n => match m[n]? with
    | some (.lst xs) => if D.inL n0 xs then .ok (.lst xs) (m.take n0) else .stuck
    | some (.ins c gs) => if D.inF n0 gs then .ok (.obj c gs) (m.take n0) else .stuck
    | _ => .stuck
  | _ => .stuck
theorem exit_ok {W : XK} {F0 : Hp} {al0 : List Addr} {Q : VK} {n0 : Nat} {d : D} {v : V} (w : Wd K F al m H) (e : Le F0 al0 F al) (h0 : al0.length = n0) (r : Rp K F al d v) (p : Post K (RD K) W F0 al0 Q (exitD n0 d m)) : Q v H := by
  unfold exitD at p
  split at p
  · rename_i hb
    exact p v H F (al.take n0) (e.cut (Nat.le_of_eq h0)) (w.cut n0) (r.cut hb)
  · rename_i hb
    split at p
    · rename_i n
      have hn : n0 ≤ n := by
        rw [D.inB, decide_eq_true_eq] at hb
        omega
      cases r with
      | @loc _ a s =>
      split at p
      · rename_i xs hc
        obtain ⟨hf, vs, h1, h2⟩ := w.cell n a _ s hc
        split at p
        · rename_i hi
          exact p _ H (upd F a (.lst vs)) (al.take n0) ((e.trans (ext_new hf)).cut (Nat.le_of_eq h0)) (w.frz s h1 hf hn) (.lst upd_same ((h2.cut hi).up (ext_new hf)))
        · exact p.elim
      · rename_i cn gs hc
        obtain ⟨hf, dx, fs, h1, h2⟩ := w.cell n a _ s hc
        split at p
        · rename_i hi
          exact p _ H (upd F a _) (al.take n0) ((e.trans (ext_new hf)).cut (Nat.le_of_eq h0)) (w.frz s h1 hf hn) (.obj upd_same ((h2.cut hi).up (ext_new hf)))
        · exact p.elim
      · exact p.elim
    · exact p.elim
end

/-! ### defs -/
abbrev Fn := List D → Mu → Out D
def spOf (K : PySem.W.Frag) (n : Nat) (G : Fn) : Sp := fun vs H Q E => ∃ ds m F al, ds.length = n ∧ RpL K F al ds vs ∧ Wd K F al m H ∧ Post K (RD K) E F al Q (G ds m)
def rho0 (n : Nat) (ds : List D) : Rho := ds.map some ++ List.replicate (n - ds.length) none
def fnOf (n : Nat) (keep : Bool) (g : XS) : Fn := fun ds m => match g (rho0 n ds) m with
  | .next _ m' => .ok .non (m'.take m.length)
  | .ret d m' => if keep then .ok d m' else exitD m.length d m'
  | .exc c fs _ m' => if D.inF m.length fs then .exc c fs (m'.take m.length) else .stuck
  | _ => .stuck
theorem env0_ok {K : PySem.W.Frag} {F : Hp} {al : List Addr} {N : List Str} {ds : List D} {vs : List V} (h : RpL K F al ds vs) : EnvOk K F al (rho0 N.length ds) (L2.start N vs) := by
  have hl := h.len
  refine ⟨by unfold rho0 L2.start; simp [hl], fun i d e => ?_⟩
  unfold rho0 at e
  by_cases hi : i < ds.length
  · rw [List.getElem?_append_left (by simpa using hi), List.getElem?_map] at e
    cases q : ds[i]? with
    | none => rw [q] at e; cases e
    | some d' =>
      rw [q] at e
      cases e
      obtain ⟨v, h1, h2⟩ := h.get q
      refine ⟨v, ?_, h2⟩
      unfold L2.start
      rw [List.getElem?_append_left (by simpa [← hl] using hi), List.getElem?_map, h1]
      rfl
  · rw [List.getElem?_append_right (by simpa using hi), List.getElem?_replicate] at e
    split at e <;> cases e
abbrev wOf (E : XK) : WX := fun cls d _ H => E cls d H
/-- a def's static context -/
structure Base where
  P : Program
  w : World
  K : PySem.W.Frag
  mg : Str → Option Value
  base : Heap
abbrev Base.at (b : Base) (N : List Str) (sc : Scope) (k : Nat) (gd : Bool) : SC := ⟨b.P, b.w, b.K, b.mg, b.base, N, sc, k, fun _ => true, gd, true, none⟩
abbrev Base.Ok (b : Base) (k : Nat) (f : Addr) (fd : FuncData) (ps : List Str) (G : Fn) : Prop := FnOk b.P b.w b.K b.mg b.base (L2.CX b.P b.w) k f fd ps (spOf b.K ps.length G)
theorem fn_body {b : Base} {N ps : List Str} {sc : Scope} {k : Nat} {body : List Stmt} {g : XS} {keep : Bool} {E : XK} {Q : VK} {y : Dyn} {vs : List V} {H : Hp} (h : DSs (b.at N sc k false) (wOf E) body g) (hy : OkD (b.at N sc k false) (wOf E) y) (hsp : spOf b.K ps.length (fnOf N.length keep g) vs H Q E) :
    ∃ t, PSs ((b.at N sc k false).cx y) body t ∧ t { nx := fun _ H' => Q .non H', rt := Q } (L2.start N vs) H := by
  obtain ⟨t, h1, h2⟩ := h
  obtain ⟨ds, m, F, al, hl, r, w, p⟩ := hsp
  refine ⟨t, h1 y hy, h2 (rho0 N.length ds) m (L2.start N vs) H F al _ (env0_ok r) w ?_⟩
  unfold fnOf at p
  cases q : g (rho0 N.length ds) m with
  | next r' m' =>
    rw [q] at p
    exact fun σ' H' F' al' e w' _ => p _ H' F' (al'.take m.length) (e.cut (Nat.le_of_eq w.len)) (w'.cut _) .non
  | ret d m' =>
    rw [q] at p
    intro v H' F' al' e w' rv
    cases keep with
    | true => exact p v H' F' al' e w' rv
    | false => exact exit_ok w' e w.len rv p
  | exc c fs r' m' =>
    rw [q] at p
    intro dd σ' H' F' al' gs e w' _ hg hd
    have p' : Post b.K (RD b.K) E F al Q (if D.inF m.length fs = true then .exc c fs (m'.take m.length) else .stuck) := p
    split at p'
    · rename_i hi
      exact p' dd H' F' (al'.take m.length) gs (e.cut (Nat.le_of_eq w.len)) (w'.cut _) (hg.cut hi) hd
    · exact p'.elim
  | brk _ _ => rw [q] at p; exact p.elim
  | cont _ _ => rw [q] at p; exact p.elim
  | stuck => rw [q] at p; exact p.elim
theorem RpL.lenV {K : PySem.W.Frag} {n : Nat} {G : Fn} {vs : List V} {H : Hp} {Q : VK} {E : XK} (h : spOf K n G vs H Q E) : vs.length = n := by
  obtain ⟨ds, m, F, al, hl, r, _⟩ := h
  rw [← r.len]; exact hl
theorem fn_ok {b : Base} {x qual : Str} {params : Arguments} {body : List Stmt} {scope : Scope} {dvs : List V} {kws : List (Str × V)} {f : Addr} {fd : FuncData} {N ps : List Str} {k : Nat} {g : XS} (keep : Bool) (D : FunD b.K x qual params body scope dvs kws f fd) (S : FnScope N ps scope)
    (h : ∀ E : XK, DSs (b.at N scope k false) (wOf E) body g) : b.Ok (k + 1) f fd ps (fnOf N.length keep g) := by
  refine D.ok S (fun vs H Q E hsp => RpL.lenV hsp) (fun cdv A outer s H vs Q E hr hsp => ?_)
  let y : Dyn := { A := A.deeper (envOfC qual scope s.heap.objs.size f cdv), s_0 := s, H_0 := H, env := envOfC qual scope s.heap.objs.size f cdv, outer := outer, stack := envOfC qual scope s.heap.objs.size f cdv :: outer, ex := [], fn := fun _ => true, pn := [], xe := (cxOf (L2.CX b.P b.w) b.P b.w b.K b.mg b.base N qual scope f cdv A outer s H E).xe }
  have ht : Takes ((b.at N scope k false).cx y) (wOf E) := takes_of (X := (b.at N scope k false).cx y) (E := E) rfl rfl rfl rfl
  have hy : OkD (b.at N scope k false) (wOf E) y := ⟨rfl, L2H.roomH_of hr, fun _ => hr.hd, ht, fun _ _ => rfl, (fun z => nomatch z), passes_of (X := (b.at N scope k false).cx y) rfl, fun _ z => nomatch z⟩
  exact fn_body (h E) hy hsp
end DS

namespace DS
open PySem PySem.Spec PyProof.Rows L2
section
variable {c : SC} {W : WX} {pos : Pos} {a b e : Expr} {fa fb fe : XE'}
/-! ### o[i] -/
section
variable {K : PySem.W.Frag} {F : Hp} {al : List Addr}
theorem RpL.atI {ds : List D} {vs : List V} {i : Int} {d : D} (h : RpL K F al ds vs) (e : atI ds i = some d) : ∃ v, L2.atI vs i = some v ∧ Rp K F al d v := by
  unfold L2.atI at e ⊢
  rw [← h.len]
  cases q : ixN ds.length i with
  | none => rw [q] at e; cases e
  | some j =>
    rw [q] at e
    exact h.get e
end
def ixD (d e : D) (m : Mu) : Out D := match e with
  | .int i => (match d with
    | .tup xs => (match L2.atI xs i with
      | some v => .ok v m
      | none => .stuck)
    | .str z => if z.length ≤ sizeLine then (match L2.atI z.cps.toList i with
      | some k => .ok (.str ⟨#[k]⟩) m
      | none => .stuck) else .stuck
    | d => (match lstOf m d with
      | some xs => (match L2.atI xs i with
        | some v => .ok v m
        | none => .stuck)
      | none => .stuck))
  | _ => .stuck
theorem ix_ok {W : XK} {d e : D} {m : Mu} {x y : V} {H F : Hp} {al : List Addr} {Q : VK} {K : PySem.W.Frag} (hw : Wd K F al m H) (r1 : Rp K F al d x) (r2 : Rp K F al e y) (p : Post K (RD K) W F al Q (ixD d e m)) : rIx K x y H Q := by
  unfold ixD at p
  split at p
  · cases r2
    split at p
    · cases r1 with
      | @tup q vs _ s r =>
      split at p
      · rename_i v h
        obtain ⟨u, h1, h2⟩ := r.atI h
        exact .inr (.inl ⟨q, vs, _, u, rfl, rfl, sqt_up hw.sub s, h1, p _ H F al Le.refl hw h2⟩)
      · exact p.elim
    · cases r1
      split at p
      · rename_i hz
        split at p
        · rename_i k h
          exact .inr (.inr ⟨_, _, k, rfl, rfl, hz, h, p _ H F al Le.refl hw (.str _)⟩)
        · exact p.elim
      · exact p.elim
    · split at p
      · rename_i xs hx
        obtain ⟨q, vs, rfl, s, r⟩ := lstOf_ok hw r1 hx
        split at p
        · rename_i v h
          obtain ⟨u, h1, h2⟩ := r.atI h
          exact .inl ⟨q, vs, _, u, rfl, rfl, s, h1, p _ H F al Le.refl hw h2⟩
        · exact p.elim
      · exact p.elim
  · exact p.elim
theorem de_ix (ha : DE c W a fa) (hb : DE c W b fb) (hs : PlainIx b := by exact fun _ _ => rfl) : DE c W (.Subscript a b pos) (xOp ixD fa fb) := by
  obtain ⟨t, a1, a2⟩ := ha
  obtain ⟨u, b1, b2⟩ := hb
  refine ⟨tOp (rIx c.K) t u, fun y hy => pe_ix (X := c.cx y) ix_seq (a1 y hy) (b1 y hy) hs, fun ρ m σ H F al Q he hw p => ?_⟩
  exact a2 ρ m σ H F al _ he hw (Post.step p fun x m1 v H1 F1 al1 e1 w1 q1 p1 => b2 ρ m1 σ H1 F1 al1 _ (he.up e1) w1
    (Post.step p1 fun z m2 u H2 F2 al2 e2 w2 q2 p2 => ix_ok w2 (q1.up e2) q2 p2))
/-! ### o[i:j] -/
def cutD (xs : List D) (lo hi : Option Int) : List D := (xs.drop (HT.sIx xs.length 0 lo)).take (HT.sIx xs.length xs.length hi - HT.sIx xs.length 0 lo)
abbrev XO := Rho → Mu → Out (Option Int)
def DO (c : SC) (W : WX) (e : Option Expr) (f : XO) : Prop := ∃ t : TO, (∀ y, OkD c W y → PO (c.cx y) e t) ∧
  ∀ r m σ H F al Q, EnvOk c.K F al r σ → Wd c.K F al m H → Post c.K (fun _ _ (x y : Option Int) => x = y) (atS W σ) F al Q (f r m) → t σ H Q
def xoN : XO := fun _ m => .ok none m
def asI : D → Mu → Out (Option Int)
  | .int i, m => .ok (some i) m
  | _, _ => .stuck
def xoS (a : XE') : XO := fun r m => (a r m).bind asI
theorem do_none : DO c W none xoN := ⟨_, fun _ _ => po_none, fun _ _ _ H F al Q _ hw p => p none H F al Le.refl hw rfl⟩
theorem do_some (ha : DE c W e fe) : DO c W (some e) (xoS fe) := by
  obtain ⟨t, a1, a2⟩ := ha
  refine ⟨_, fun y hy => po_some (a1 y hy), fun ρ m σ H F al Q he hw p => ?_⟩
  refine a2 ρ m σ H F al _ he hw (Post.step p fun x m1 v H1 F1 al1 e1 w1 q1 p1 => ?_)
  cases q1 with
  | int i => exact ⟨i, rfl, p1 _ H1 F1 al1 Le.refl w1 rfl⟩
  | _ => exact p1.elim
def slD (d : D) (lo hi : Option Int) (m : Mu) : Out D := match d with
  | .tup xs => .ok (.tup (cutD xs lo hi)) m
  | .str z => if z.length ≤ sizeLine then .ok (.str (cutS z lo hi)) m else .stuck
  | d => match lstOf m d with
    | some xs => .ok (.lst (cutD xs lo hi)) m
    | none => .stuck
theorem cut_rp {K : PySem.W.Frag} {F : Hp} {al : List Addr} {xs : List D} {vs : List V} (h : RpL K F al xs vs) (lo hi : Option Int) : RpL K F al (cutD xs lo hi) (cutV vs lo hi) := by
  unfold cutD cutV
  rw [h.len]
  exact (h.drop _).take _
theorem SlR.or {X : Cx} {r r' : V → Option Int → Option Int → Hp → VK → Prop} (h : SlR X r) (h' : SlR X r') : SlR X fun x lo hi H Q => r x lo hi H Q ∨ r' x lo hi H Q :=
  fun pins s σ H x v vl vu lo hi sl Q I rx is p1 p2 q => q.elim (fun q => h pins s σ H x v vl vu lo hi sl Q I rx is p1 p2 q) fun q => h' pins s σ H x v vl vu lo hi sl Q I rx is p1 p2 q
def xSl (a : XE') (lo hi : XO) : XE' := fun r m => (a r m).bind fun d m1 => (lo r m1).bind fun l m2 => (hi r m2).bind fun h m3 => slD d l h m3
theorem de_sl {lo hi : Option Expr} {fl fh : XO} {p2 : Pos} (ha : DE c W a fa) (hl : DO c W lo fl) (hh : DO c W hi fh) : DE c W (.Subscript a (.Slice lo hi none p2) pos) (xSl fa fl fh) := by
  obtain ⟨t, a1, a2⟩ := ha
  obtain ⟨tl, l1, l2⟩ := hl
  obtain ⟨th, h1, h2⟩ := hh
  refine ⟨tSl (fun x lo hi H Q => (rSlL c.K x lo hi H Q ∨ rSlA c.K x lo hi H Q) ∨ rSlS x lo hi H Q) t tl th, fun y hy => pe_slice (X := c.cx y) ((sl_list.or sl_tupA).or sl_str) (a1 y hy) (l1 y hy) (h1 y hy), fun ρ m σ H F al Q he hw p => ?_⟩
  refine a2 ρ m σ H F al _ he hw (Post.step p fun x m1 v H1 F1 al1 e1 w1 q1 p1 => ?_)
  refine l2 ρ m1 σ H1 F1 al1 _ (he.up e1) w1 (Post.step p1 fun l m2 l' H2 F2 al2 e2 w2 q2 p2 => ?_)
  cases q2
  refine h2 ρ m2 σ H2 F2 al2 _ ((he.up e1).up e2) w2 (Post.step p2 fun h m3 h' H3 F3 al3 e3 w3 q3 p3 => ?_)
  cases q3
  have q1 := (q1.up e2).up e3
  unfold slD at p3
  split at p3
  · cases q1 with
    | @tup q vs _ s r =>
    refine .inl (.inr ⟨q, vs, rfl, sqt_up w3.sub s, fun z => ?_, fun _ n hn => p3 _ _ (upd F3 n _) al3 (ext_new (w3.fnone hn)) (w3.new hn) (.tup (.of upd_same) ((cut_rp r l h).up (ext_new (w3.fnone hn))))⟩)
    have ec : cutV vs l h = vs := by
      unfold cutV
      rw [z.1, z.2, Nat.sub_zero, List.drop_zero, List.take_length]
    have := cut_rp r l h
    rw [ec] at this
    exact p3 _ H3 F3 al3 Le.refl w3 (.tup s this)
  · cases q1
    split at p3
    · rename_i hz
      exact .inr ⟨_, rfl, hz, p3 _ H3 F3 al3 Le.refl w3 (.str _)⟩
    · exact p3.elim
  · split at p3
    · rename_i xs hx
      obtain ⟨q, vs, rfl, s, r⟩ := lstOf_ok w3 q1 hx
      exact .inl (.inl ⟨q, vs, rfl, s, fun n hn => p3 _ _ (upd F3 n _) al3 (ext_new (w3.fnone hn)) (w3.new hn) (.lst upd_same ((cut_rp r l h).up (ext_new (w3.fnone hn))))⟩)
    · exact p3.elim
/-! ### o.f -/
def insOf (m : Mu) : D → Option (Str × List (Str × D))
  | .obj c gs => some (c, gs)
  | .loc n => match m[n]? with
    | some (.ins c gs) => some (c, gs)
    | _ => none
  | _ => none
theorem insOf_ok {K : PySem.W.Frag} {F : Hp} {al : List Addr} {m : Mu} {H : Hp} {d : D} {v : V} {cn : Str} {gs : List (Str × D)} (w : Wd K F al m H) (r : Rp K F al d v) (h : insOf m d = some (cn, gs)) :
    ∃ q dx fs, v = .ref q ∧ H q = some (.ins (He.ga K cn) dx fs) ∧ RpF K F al gs fs := by
  cases r with
  | obj s q => cases h; exact ⟨_, _, _, rfl, w.sub _ _ s, q⟩
  | @loc n a s =>
    unfold insOf at h
    cases e : m[n]? with
    | none => simp [e] at h
    | some cl =>
      cases cl with
      | ins c' gs' =>
        simp [e] at h
        obtain ⟨rfl, rfl⟩ := h
        obtain ⟨_, dx, fs, h1, h2⟩ := w.cell n a _ s e
        exact ⟨a, dx, fs, rfl, h1, h2⟩
      | lst _ => simp [e] at h
      | dct _ => simp [e] at h
      | dead => simp [e] at h
  | _ => simp [insOf] at h
def fldD (cn f : Str) (d : D) (m : Mu) : Out D := match insOf m d with
  | some (c', gs) => if c' = cn then (match gs.lookup f with
    | some v => .ok v m
    | none => .stuck) else .stuck
  | none => .stuck
def xFld (cn f : Str) (a : XE') : XE' := fun r m => (a r m).bind (fldD cn f)
theorem de_fld {cn f : Str} (hc : Cls c.K (He.ga c.K cn)) (hn : NoAttr c.K (He.ga c.K cn) f) (ha : DE c W a fa) (hb : ∀ env, attributeBase a f env (eval a env) = eval a env := by intro _; rfl) : DE c W (.Attribute a f pos) (xFld cn f fa) := by
  obtain ⟨t, a1, a2⟩ := ha
  refine ⟨tFld c.K t f, fun y hy => pe_fld (a1 y hy) (hb _), fun ρ m σ H F al Q he hw p => ?_⟩
  refine a2 ρ m σ H F al _ he hw (Post.step p fun x m1 v H1 F1 al1 e1 w1 q1 p1 => ?_)
  unfold fldD at p1
  split at p1
  · rename_i c' gs hi
    split at p1
    · rename_i hc'
      subst hc'
      obtain ⟨q, dx, fs, rfl, h1, h2⟩ := insOf_ok w1 q1 hi
      split at p1
      · rename_i d hd
        obtain ⟨u, h3, h4⟩ := (h2.look (x := f)).2 d hd
        exact ⟨q, _, dx, fs, u, rfl, h1, hc, hn, h3, p1 _ H1 F1 al1 Le.refl w1 h4⟩
      · exact p1.elim
    · exact p1.elim
  · exact p1.elim
/-! ### calls -/
variable {es : List Expr} {fr : XA} {x : Str} {p0 apos : Pos} {k : Nat} {f : Addr} {fd : FuncData} {ps : List Str} {G : Fn}
abbrev FOk (c : SC) (k : Nat) (f : Addr) (fd : FuncData) (ps : List Str) (G : Fn) : Prop := FnOk c.P c.w c.K c.mg c.base (L2.CX c.P c.w) k f fd ps (spOf c.K ps.length G)
def xCall (G : Fn) (a : XA) : XE' := fun r m => (a r m).bind G
theorem de_call (hF : FOk c k f fd ps G) (hm : c.mg x = some (.ref f)) (hk : PySem.W.keepIn c.K (.ref f) = true) (hb : Binds c.K fd ps []) (ha : DA c W (e :: es) fr) (hr : k ≤ c.k := by exact Nat.le_of_ble_eq_true rfl) (hcm : c.calm = true := by rfl) (hl : (e :: es).length = ps.length := by rfl) (hg : c.sc.names.lookup x = some .globalImplicit := by rfl)
    (hdb : (x == ("__debug__" : Str)) = false := by decide) (hs : ∀ env, starEach (e :: es) env = (false, eval e env) :: starEach es env := by intro _; rfl) (hpl : ∀ env, (backTo pos (starEach es env)).any (·.1) = false := by intro _; rfl) : DE c W (.Call (.Name x p0) (e :: es) [] pos) (xCall G fr) := by
  obtain ⟨⟨t, a1, a2⟩, hlen⟩ := ha
  refine ⟨tCallSD (spOf c.K ps.length G) [] (WE W) t, fun y hy => pe_callSD (X := c.cx y) hF (hy.rm hcm hr) (hy.gl hg) hm hk hb .nil (fun σ => passAt hy.takes σ) (a1 y hy) hdb (hs _) (hpl _), fun ρ m σ H F al Q he hw p => ?_⟩
  refine a2 ρ m σ H F al _ he hw (Post.step (p.lenA fun ds m' e => hlen ρ m ds m' e) fun ds m1 vs H1 F1 al1 e1 w1 q1 p1 => ?_)
  split at p1
  · rename_i hn
    exact ⟨ds, m1, F1, al1, hn.trans hl, by rw [List.append_nil]; exact q1, w1, p1⟩
  · exact p1.elim
/-- nothing of the caller's names is asked where an error is wanted -/
def Plain (W : WX) : Prop := ∀ cls d σ σ' H, W cls d σ H → W cls d σ' H
theorem Plain.of (E : XK) : Plain (wOf E) := fun _ _ _ _ _ h => h
abbrev allS (W : WX) : XK := fun cls d H => ∀ σ, W cls d σ H
theorem Plain.post {δ ν : Type} {K : PySem.W.Frag} {R : Hp → List Addr → δ → ν → Prop} (hW : Plain W) {F : Hp} {al : List Addr} {Q : ν → Hp → Prop} {o : Out δ} {σ : L2.St} (p : Post K R (atS W σ) F al Q o) : Post K R (allS W) F al Q o :=
  p.imp (fun _ _ h => h) fun cls d H h σ' => hW cls d σ σ' H h
theorem Plain.back {δ ν : Type} {K : PySem.W.Frag} {R : Hp → List Addr → δ → ν → Prop} {F : Hp} {al : List Addr} {Q : ν → Hp → Prop} {o : Out δ} (σ : L2.St) (p : Post K R (allS W) F al Q o) : Post K R (atS W σ) F al Q o :=
  p.imp (fun _ _ h => h) fun cls d H h => h σ
theorem OkD.passes {y : Dyn} (hy : OkD c W y) : Passes (L2.CX c.P c.w) (c.cx y) (allS W) := fun pins σ H s e s' I h => passes_call hy.takes (fun cls d σ H q => q σ) pins σ H s e s' I h
/-- o.m(e, ..) -/
def xMeth (cn m : Str) (G : Fn) (o : XE') (a : XA) : XE' := fun r mu => (o r mu).bind fun d m1 => match insOf m1 d with
  | some (c', gs) => if c' = cn ∧ gs.lookup m = none then (a r m1).bind fun ds m2 => G (d :: ds) m2 else .stuck
  | none => .stuck
theorem de_meth {o : Expr} {fo : XE'} {cn m : Str} (hW : Plain W) (hF : FOk c k f fd ps G) (hc : Cls c.K (He.ga c.K cn)) (hm : Meth c.K (He.ga c.K cn) m f) (hb : Binds c.K fd ps []) (ho : DE c W o fo) (ha : DA c W (e :: es) fr) (hr : k ≤ c.k := by exact Nat.le_of_ble_eq_true rfl) (hcm : c.calm = true := by rfl) (hl : (e :: es).length + 1 = ps.length := by rfl)
    (hs : ∀ env, starEach (e :: es) env = (false, eval e env) :: starEach es env := by intro _; rfl) (hpl : ∀ env, (backTo pos (starEach es env)).any (·.1) = false := by intro _; rfl)
    (ht : ∀ env, ∃ pl : Sem Bool, eval (.Call (.Attribute o m apos) (e :: es) [] pos) env = (do
      let ov ← eval o env
      standAt apos.atName
      let (f, first) ← holding [ov] (getMethod ov m pl)
      callWith pos f first (backTo pos (starEach (e :: es) env)) (backToKw pos (keywordEach [] env))) := by intro _; exact ⟨_, rfl⟩) : DE c W (.Call (.Attribute o m apos) (e :: es) [] pos) (xMeth cn m G fo fr) := by
  obtain ⟨to, o1, o2⟩ := ho
  obtain ⟨⟨t, a1, a2⟩, hlen⟩ := ha
  refine ⟨tMeth (He.ga c.K cn) m (spOf c.K ps.length G) [] (allS W) to t, fun y hy => ?_, fun ρ mu σ H F al Q he hw p => ?_⟩
  · obtain ⟨pl, ht⟩ := ht (c.cx y).env
    exact pe_meth (X := c.cx y) (pl := pl) (o1 y hy) hc hm hF (hy.rm hcm hr) hb .nil hy.passes (a1 y hy) (hs _) (hpl _) ht
  · refine o2 ρ mu σ H F al _ he hw (Post.step p fun d m1 v H1 F1 al1 e1 w1 q1 p1 => ?_)
    split at p1
    · rename_i c' gs hi
      obtain ⟨q, dx, fs, rfl, h1, h2⟩ := insOf_ok w1 q1 hi
      split at p1
      · rename_i hcl
        obtain ⟨rfl, hlk⟩ := hcl
        refine ⟨q, dx, fs, rfl, h1, (h2.look (x := m)).1 hlk, a2 ρ m1 σ H1 F1 al1 _ (he.up e1) w1 (Post.step (p1.lenA fun ds m' e => hlen ρ m1 ds m' e) fun ds m2 vs H2 F2 al2 e2 w2 q2 p2 => ?_)⟩
        split at p2
        · rename_i hn
          exact ⟨d :: ds, m2, F2, al2, by rw [List.length_cons, hn]; exact hl, by rw [List.append_nil]; exact .cons (q1.up e2) q2, w2, hW.post p2⟩
        · exact p2.elim
      · exact p1.elim
    · exact p1.elim
theorem de_meth0 {o : Expr} {fo : XE'} {cn m : Str} (hW : Plain W) (hF : FOk c k f fd ps G) (hc : Cls c.K (He.ga c.K cn)) (hm : Meth c.K (He.ga c.K cn) m f) (hb : Binds c.K fd ps []) (ho : DE c W o fo) (hr : k ≤ c.k := by exact Nat.le_of_ble_eq_true rfl) (hcm : c.calm = true := by rfl) (hl : 1 = ps.length := by rfl)
    (ht : ∀ env, ∃ pl : Sem Bool, eval (.Call (.Attribute o m apos) [] [] pos) env = (do
      let ov ← eval o env
      standAt apos.atName
      let (f, first) ← holding [ov] (getMethod ov m pl)
      callWith pos f first (backTo pos (starEach [] env)) (backToKw pos (keywordEach [] env))) := by intro _; exact ⟨_, rfl⟩) : DE c W (.Call (.Attribute o m apos) [] [] pos) (xMeth cn m G fo xaNil) := by
  obtain ⟨to, o1, o2⟩ := ho
  refine ⟨tMeth (He.ga c.K cn) m (spOf c.K ps.length G) [] (allS W) to tNil, fun y hy => ?_, fun ρ mu σ H F al Q he hw p => ?_⟩
  · obtain ⟨pl, ht⟩ := ht (c.cx y).env
    exact pe_meth0 (X := c.cx y) (pl := pl) (o1 y hy) hc hm hF (hy.rm hcm hr) hb .nil hy.passes ht
  · refine o2 ρ mu σ H F al _ he hw (Post.step p fun d m1 v H1 F1 al1 e1 w1 q1 p1 => ?_)
    split at p1
    · rename_i c' gs hi
      obtain ⟨q, dx, fs, rfl, h1, h2⟩ := insOf_ok w1 q1 hi
      split at p1
      · rename_i hcl
        obtain ⟨rfl, hlk⟩ := hcl
        exact ⟨q, dx, fs, rfl, h1, (h2.look (x := m)).1 hlk, [d], m1, F1, al1, hl, .cons q1 .nil, w1, hW.post p1⟩
      · exact p1.elim
    · exact p1.elim
/-- o.p, a property -/
def xProp (cn : Str) (G : Fn) (o : XE') : XE' := fun r mu => (o r mu).bind fun d m1 => match insOf m1 d with
  | some (c', _) => if c' = cn then (match G [d] m1 with
    | .exc _ _ _ => .stuck
    | q => q) else .stuck
  | none => .stuck
theorem de_prop {o : Expr} {fo : XE'} {cn m : Str} {pr : Addr} (hF : FOk c k f fd ps G) (hc : Cls c.K (He.ga c.K cn)) (hp : PropOf c.K (He.ga c.K cn) m pr f) (hb : Binds c.K fd ps []) (ho : DE c W o fo) (hr : k + 1 ≤ c.k := by exact Nat.le_of_ble_eq_true rfl) (hcm : c.calm = true := by rfl) (hl : 1 = ps.length := by rfl)
    (hab : ∀ env, attributeBase o m env (eval o env) = eval o env := by intro _; rfl) : DE c W (.Attribute o m pos) (xProp cn G fo) := by
  obtain ⟨to, o1, o2⟩ := ho
  refine ⟨tProp (He.ga c.K cn) (spOf c.K ps.length G) [] (fun _ _ _ => False) to, fun y hy => ?_, fun ρ mu σ H F al Q he hw p => ?_⟩
  · refine pe_prop (X := c.cx y) (o1 y hy) hc hp hF (hy.rm hcm hr) hb .nil (fun pins σ H s e s' I h => ?_) (hab _)
    obtain ⟨_, _, _, _, _, _, _, _, _, _, _, _, _, _, _, _, q⟩ := XE.of_call (W := fun _ _ _ _ => False) I (fun _ _ _ h => h) h
    exact q
  · refine o2 ρ mu σ H F al _ he hw (Post.step p fun d m1 v H1 F1 al1 e1 w1 q1 p1 => ?_)
    split at p1
    · rename_i c' gs hi
      obtain ⟨q, dx, fs, rfl, h1, h2⟩ := insOf_ok w1 q1 hi
      split at p1
      · rename_i hcl
        subst hcl
        refine ⟨q, dx, fs, rfl, h1, [d], m1, F1, al1, hl, .cons q1 .nil, w1, ?_⟩
        cases e : G [d] m1 with
        | ok d' m' => rw [e] at p1; exact p1
        | exc _ _ _ => rw [e] at p1; exact p1.elim
        | stuck => rw [e] at p1; exact p1.elim
      · exact p1.elim
    · exact p1.elim
/-- C(e, ..): a new object -/
def madeD (cn : Str) (frz : Bool) (n : Nat) (d : D) (m2 : Mu) : Out D := match d with
  | .non => (match m2[n]? with
    | some (.ins c' gs) => if c' = cn then (if frz then .ok (.obj cn gs) (m2.take n) else .ok (.loc n) m2) else .stuck
    | _ => .stuck)
  | _ => .stuck
def makeD (cn : Str) (G : Fn) (frz : Bool) (ds : List D) (m1 : Mu) : Out D := (G (.loc m1.length :: ds) (m1 ++ [.ins cn []])).bind (madeD cn frz m1.length)
def xMake (cn : Str) (G : Fn) (frz : Bool) (a : XA) : XE' := fun r m => (a r m).bind (makeD cn G frz)
theorem make_ok {K : PySem.W.Frag} {E : XK} {F : Hp} {al : List Addr} {m : Mu} {H : Hp} {Q : VK} {cn : Str} {n : Nat} {frz : Bool} {ds : List D} {vs : List V} (hl : ds.length + 1 = n) (w : Wd K F al m H) (r : RpL K F al ds vs) (p : Post K (RD K) E F al Q (makeD cn G frz ds m)) (x dx : Addr) (hx : H x = none) (hdx : H dx = none) (hne : dx ≠ x) :
    spOf K n G (.ref x :: vs) (upd (upd H dx (.own x)) x (.ins (He.ga K cn) dx [])) (fun v H2 => v = .non ∧ Q (.ref x) H2) E := by
  have w1 : Wd K F al m (upd H dx (.own x)) := w.junk hdx
  have hx1 : upd H dx (.own x) x = none := by rw [upd_ne (Ne.symm hne)]; exact hx
  have w2 : Wd K F (al ++ [x]) (m ++ [.ins cn []]) (upd (upd H dx (.own x)) x (.ins (He.ga K cn) dx [])) := w1.newCell hx1 ⟨w.fnone hx, dx, [], upd_same, .nil⟩ rfl
  have hlast : (al ++ [x])[m.length]? = some x := by rw [← w.len, List.getElem?_append_right (Nat.le_refl _), Nat.sub_self]; rfl
  refine ⟨.loc m.length :: ds, m ++ [.ins cn []], F, al ++ [x], by rw [List.length_cons]; exact hl, .cons (.loc hlast) (r.up Le.snoc), w2, ?_⟩
  unfold makeD at p
  cases e : G (.loc m.length :: ds) (m ++ [.ins cn []]) with
  | stuck => rw [e] at p; exact p.elim
  | exc c' fs' m' =>
    rw [e] at p
    exact fun dd H' F' al' gs e' => p dd H' F' al' gs (Le.snoc.trans e')
  | ok d m2 =>
    rw [e] at p
    intro v H2 F2 al2 e2 w3 q3
    have e3 : Le F al F2 al2 := Le.snoc.trans e2
    have hx2 : al2[m.length]? = some x := e2.a _ _ hlast
    have p3 : Post K (RD K) E F al Q (madeD cn frz m.length d m2) := p
    unfold madeD at p3
    cases q3 with
    | non =>
      refine ⟨rfl, ?_⟩
      simp only at p3
      split at p3
      · rename_i c' gs hcell
        split at p3
        · rename_i hc
          subst hc
          obtain ⟨hf, dx', fs, h1, h2⟩ := w3.cell _ _ _ hx2 hcell
          cases frz with
          | true =>
            have hg : D.inF m.length gs = true := w3.gen _ _ hcell
            exact p3 _ H2 (upd F2 x (.ins (He.ga K c') dx' fs)) (al2.take m.length) ((e3.trans (ext_new hf)).cut (Nat.le_of_eq w.len)) (w3.frz hx2 h1 hf (Nat.le_refl _)) (.obj upd_same ((h2.cut hg).up (ext_new hf)))
          | false => exact p3 _ H2 F2 al2 e3 w3 (.loc hx2)
        · exact p3.elim
      · exact p3.elim
    | _ => exact p3.elim
theorem de_make {cn : Str} {frz : Bool} (hW : Plain W) (hF : FOk c k f fd ps G) (hM : Mk c.K (He.ga c.K cn) f) (hm : c.mg x = some (.ref (He.ga c.K cn))) (hb : Binds c.K fd ps []) (ha : DA c W (e :: es) fr) (hr : k + 1 ≤ c.k := by exact Nat.le_of_ble_eq_true rfl) (hcm : c.calm = true := by rfl) (hl : (e :: es).length + 1 = ps.length := by rfl) (hg : c.sc.names.lookup x = some .globalImplicit := by rfl)
    (hdb : (x == ("__debug__" : Str)) = false := by decide) (hs : ∀ env, starEach (e :: es) env = (false, eval e env) :: starEach es env := by intro _; rfl) (hpl : ∀ env, (backTo pos (starEach es env)).any (·.1) = false := by intro _; rfl) : DE c W (.Call (.Name x p0) (e :: es) [] pos) (xMake cn G frz fr) := by
  obtain ⟨⟨t, a1, a2⟩, hlen⟩ := ha
  refine ⟨tMake (He.ga c.K cn) (spOf c.K ps.length G) [] (allS W) t, fun y hy => pe_make (X := c.cx y) hM hF (hy.rm hcm hr) (hy.gl hg) hm hb .nil hy.passes (a1 y hy) hdb (hs _) (hpl _), fun ρ m σ H F al Q he hw p => ?_⟩
  refine a2 ρ m σ H F al _ he hw (Post.step (p.lenA fun ds m' e => hlen ρ m ds m' e) fun ds m1 vs H1 F1 al1 e1 w1 q1 p1 => ?_)
  split at p1
  · rename_i hn
    exact fun x dx hx hdx hne => by
      rw [List.append_nil]
      exact make_ok (by rw [hn]; exact hl) w1 q1 (hW.post p1) x dx hx hdx hne
  · exact p1.elim
end
end DS

namespace DS
open PySem PySem.Spec PyProof.Rows L2
section
variable {c : SC} {W : WX} {pos : Pos} {a b e : Expr} {fa fb fe : XE'} {ft : XT} {st : Stmt} {rest sa sb : List Stmt} {g u v : XS}
/-! ### blocks, small statements -/
def sNil : XS := fun r m => .next r m
def sSeq (f g : XS) : XS := fun r m => match f r m with
  | .next r' m' => g r' m'
  | o => o
theorem dss_nil : DSs c W [] sNil := ⟨tNext, fun _ _ => pss_nil, fun r m σ H F al E he hw p => p σ H F al Le.refl hw he⟩
theorem dss_one (h : DSt c W st g) : DSs c W [st] g := by
  obtain ⟨t, h1, h2⟩ := h
  exact ⟨t, fun y hy => pss_one (h1 y hy), h2⟩
theorem dss_cons (h : DSt c W st g) (h' : DSs c W rest u) : DSs c W (st :: rest) (sSeq g u) := by
  obtain ⟨t, h1, h2⟩ := h
  obtain ⟨t', h1', h2'⟩ := h'
  refine ⟨tSeq t t', fun y hy => pss_cons (h1 y hy) (h1' y hy), fun r m σ H F al E he hw p => ?_⟩
  refine h2 r m σ H F al { E with nx := t' E } he hw ?_
  unfold sSeq at p
  cases q : g r m with
  | next r' m' =>
    rw [q] at p
    exact fun σ' H' F' al' e w' he' => h2' r' m' σ' H' F' al' E he' w' (p.up e)
  | brk r' m' => rw [q] at p; exact p
  | cont r' m' => rw [q] at p; exact p
  | ret d m' => rw [q] at p; exact p
  | exc _ _ _ _ => rw [q] at p; exact p
  | stuck => rw [q] at p; exact p
theorem ds_pass : DSt c W (.Pass pos) sNil := ⟨tNext, fun _ _ => ps_pass, fun r m σ H F al E he hw p => p σ H F al Le.refl hw he⟩
theorem ds_cont : DSt c W (.Continue pos) (fun r m => .cont r m) := ⟨_, fun _ _ => ps_continue, fun r m σ H F al E he hw p => p σ H F al Le.refl hw he⟩
def sNever : XS := fun _ _ => .stuck
theorem ds_never : DSt c W st sNever := ⟨tNever, fun _ _ => ps_never, fun r m σ H F al E he hw p => p.elim⟩
theorem dss_never {sts : List Stmt} : DSs c W sts sNever := ⟨tNever, fun _ _ => pss_never, fun r m σ H F al E he hw p => p.elim⟩
def sExpr (f : XE') : XS := fun r m => (f r m).stm r fun _ m1 => .next r m1
theorem ds_expr (h : DE c W e fe) (hs : ∀ env, swapsWith e none pos.line env = pure false := by intro _; rfl) : DSt c W (.Expr e pos) (sExpr fe) := by
  obtain ⟨t, h1, h2⟩ := h
  refine ⟨tDrop t, fun y hy => ps_expr (h1 y hy) (hs _), fun r m σ H F al E he hw p => ?_⟩
  exact h2 r m σ H F al _ he hw (PostS.step he p fun d m1 v H1 F1 al1 e1 w1 q1 p1 => p1 σ H1 F1 al1 Le.refl w1 (he.up e1))
def sRet (f : XE') : XS := fun r m => (f r m).stm r fun d m1 => .ret d m1
theorem ds_ret (h : DE c W e fe) : DSt c W (.Return (some e) pos) (sRet fe) := by
  obtain ⟨t, h1, h2⟩ := h
  refine ⟨tRet t, fun y hy => ps_ret (h1 y hy), fun r m σ H F al E he hw p => ?_⟩
  exact h2 r m σ H F al _ he hw (PostS.step he p fun d m1 v H1 F1 al1 e1 w1 q1 p1 => p1 v H1 F1 al1 Le.refl w1 q1)
def sIf (t : XT) (f g : XS) : XS := fun r m => (t r m).stm r fun k m1 => if k then f r m1 else g r m1
theorem ds_if (ht : DT c W e ft) (ha : DSs c W sa u) (hb : DSs c W sb v) : DSt c W (.If e sa sb pos) (sIf ft u v) := by
  obtain ⟨t, t1, t2⟩ := ht
  obtain ⟨ta, a1, a2⟩ := ha
  obtain ⟨tb, b1, b2⟩ := hb
  refine ⟨tIfS t ta tb, fun y hy => ps_if (t1 y hy) (a1 y hy) (b1 y hy), fun r m σ H F al E he hw p => ?_⟩
  refine t2 r m σ H F al _ he hw (PostS.step he p fun k m1 k' H1 F1 al1 e1 w1 q1 p1 => ?_)
  cases q1
  cases k with
  | true => exact a2 r m1 σ H1 F1 al1 E (he.up e1) w1 p1
  | false => exact b2 r m1 σ H1 F1 al1 E (he.up e1) w1 p1

/-! ### targets -/
abbrev XG := D → Rho → Mu → Out Rho
abbrev XGs := List D → Rho → Mu → Out Rho
/-- names' values, all but the slots vs as before -/
abbrev RE (K : PySem.W.Frag) (vs : List Nat) (σ : L2.St) : Hp → List Addr → Rho → L2.St → Prop := fun F al r σ' => EnvOk K F al r σ' ∧ wipe σ' vs = wipe σ vs
def DG (c : SC) (W : WX) (vs : List Nat) (tg : Expr) (g : XG) : Prop := ∃ t : TG, (∀ y, OkD c W y → PG (c.cx y) tg t) ∧
  ∀ d x r m σ H F al Q, EnvOk c.K F al r σ → Wd c.K F al m H → Rp c.K F al d x → Post c.K (RE c.K vs σ) (atS W σ) F al Q (g d r m) → t x σ H Q
def DGs (c : SC) (W : WX) (vs : List Nat) (tg : List Expr) (g : XGs) : Prop := ∃ t : TGs, (∀ y, OkD c W y → PGs (c.cx y) tg t) ∧
  ∀ ds xs r m σ H F al Q, EnvOk c.K F al r σ → Wd c.K F al m H → RpL c.K F al ds xs → Post c.K (RE c.K vs σ) (atS W σ) F al Q (g ds r m) → t xs σ H Q
theorem wipe_set {i : Nat} {x : Option V} : ∀ {vs : List Nat} {σ : L2.St}, i ∈ vs → wipe (σ.set i x) vs = wipe σ vs
  | [], _, h => by simp at h
  | v :: vs, σ, h => by
    unfold wipe
    rcases List.mem_cons.mp h with e | h
    · subst e
      by_cases hi : i ∈ vs
      · rw [wipe_set hi]
      · have wn : ∀ (vs : List Nat) (σ : L2.St), i ∉ vs → (wipe (σ.set i x) vs) = (wipe σ vs).set i x := fun vs => by
          induction vs with
          | nil => intro σ _; rfl
          | cons w ws ih =>
            intro σ hn
            have h1 : i ≠ w := fun z => hn (by simp [z])
            have h2 : i ∉ ws := fun z => hn (by simp [z])
            show (wipe (σ.set i x) ws).set w none = ((wipe σ ws).set w none).set i x
            rw [ih σ h2, List.set_comm _ _ h1]
        rw [wn vs σ hi, List.set_set]
    · rw [wipe_set h]
def gNm (i : Nat) : XG := fun d r m => .ok (r.set i (some d)) m
theorem dg_name (i : Nat) {x : Str} {vs : List Nat} (hN : c.N.Nodup) (hi : c.N[i]? = some x := by rfl) (hx : L2.Loc c.sc x := by first | exact .inl rfl | exact .inr rfl) (hf : c.fnB x = true ∨ c.sc.names.lookup x = some .local := by first | exact .inr rfl | exact .inl rfl) (hv : i ∈ vs := by simp) : DG c W vs (.Name x pos) (gNm i) := by
  refine ⟨gName i, fun y hy => pg_name hN hi (hy.loc hx) ?_, fun d v r m σ H F al Q he hw q p => ?_⟩
  · rcases hf with z | z
    · exact .inl (hy.fn x z)
    · refine .inr ?_
      have e : (c.cx y).env.scope = c.sc := hy.scope
      rw [e]; exact z
  · exact p _ H F al Le.refl hw ⟨he.set i q, wipe_set hv⟩
def gsNil : XGs := fun ds r m => match ds with
  | [] => .ok r m
  | _ => .stuck
def gsCons (g : XG) (gs : XGs) : XGs := fun ds r m => match ds with
  | d :: ds => (g d r m).bind fun r1 m1 => gs ds r1 m1
  | [] => .stuck
theorem dgs_nil {vs : List Nat} : DGs c W vs [] gsNil := by
  refine ⟨gNil, fun y hy => pgs_nil, fun ds xs r m σ H F al Q he hw q p => ?_⟩
  cases q with
  | nil => exact ⟨rfl, p σ H F al Le.refl hw ⟨he, rfl⟩⟩
  | cons _ _ => exact p.elim
theorem dgs_cons {vs : List Nat} {g : XG} {gs : XGs} {es : List Expr} (hW : Plain W) (h : DG c W vs e g) (h' : DGs c W vs es gs) (hs : ∀ env, (assignEach (e :: es) env).map (·.2) = assign e env :: (assignEach es env).map (·.2) := by intro _; rfl) : DGs c W vs (e :: es) (gsCons g gs) := by
  obtain ⟨t, h1, h2⟩ := h
  obtain ⟨t', h1', h2'⟩ := h'
  refine ⟨gCons t t', fun y hy => pgs_cons (h1 y hy) (h1' y hy) (hs _), fun ds xs r m σ H F al Q he hw q p => ?_⟩
  cases q with
  | nil => exact p.elim
  | @cons d v ds vs' q1 q2 =>
    refine ⟨v, vs', rfl, h2 d v r m σ H F al _ he hw q1 (Post.step p fun r1 m1 σ1 H1 F1 al1 e1 w1 qe p1 => ?_)⟩
    refine h2' ds vs' r1 m1 σ1 H1 F1 al1 _ qe.1 w1 (q2.up e1) ?_
    cases o : gs ds r1 m1 with
    | ok r2 m2 => rw [o] at p1; exact fun σ2 H2 F2 al2 e2 w2 q2 => p1 σ2 H2 F2 al2 e2 w2 ⟨q2.1, q2.2.trans qe.2⟩
    | exc cc fs m2 => rw [o] at p1; exact fun dd H' F' al' gs' e' w' r' z => hW _ _ _ _ _ (p1 dd H' F' al' gs' e' w' r' z)
    | stuck => rw [o] at p1; exact p1
def gTp (n : Nat) (g : XGs) : XG := fun d r m => match d with
  | .tup ds => if ds.length = n then g ds r m else .stuck
  | .lst ds => if ds.length = n then g ds r m else .stuck
  | _ => .stuck
theorem PG.or {X : Cx} {tg : Expr} {t t' : TG} (h : PG X tg t) (h' : PG X tg t') : PG X tg (fun v σ H Q => t v σ H Q ∨ t' v σ H Q) :=
  ⟨fun pins s σ H v u Q I r q => q.elim (fun q => h.run pins s σ H v u Q I r q) fun q => h'.run pins s σ H v u Q I r q⟩
theorem dg_tup {vs : List Nat} {es : List Expr} {gs : XGs} {k : Nat} (n : Nat) (h : DGs c W vs es gs) (hn : ∀ env, (assignEach es env).length = n := by intro _; rfl) (hst : ∀ env, (assignEach es env).findIdx? (·.1) = none := by intro _; rfl) (hcm : c.calm = true := by rfl) : DG c W vs (.Tuple es k pos) (gTp n gs) := by
  obtain ⟨t, h1, h2⟩ := h
  refine ⟨fun v σ H Q => gTup c.K n t v σ H Q ∨ gLst c.K n t v σ H Q, fun y hy => PG.or (pg_tup (X := c.cx y) hcm (h1 y hy) (hn _) (hst _)) (pg_lst (X := c.cx y) hcm (h1 y hy) (hn _) (hst _)), fun d x r m σ H F al Q he hw q p => ?_⟩
  unfold gTp at p
  split at p
  · cases q with
    | @tup q' xs _ s q =>
    split at p
    · rename_i hl
      exact .inl ⟨q', xs, rfl, sqt_up hw.sub s, by rw [← q.len]; exact hl, h2 _ _ r m σ H F al Q he hw q p⟩
    · exact p.elim
  · cases q with
    | @lst q' xs _ s q =>
    split at p
    · rename_i hl
      exact .inr ⟨q', xs, rfl, .of (hw.sub _ _ s), by rw [← q.len]; exact hl, h2 _ _ r m σ H F al Q he hw q p⟩
    · exact p.elim
  · exact p.elim
/-- o[i] = .. -/
def setD (o i d : D) (m : Mu) : Out Unit := match o, i with
  | .loc n, .int k => (match m[n]? with
    | some (.lst xs) => (match ixN xs.length k with
      | some j => if d.inB n then .ok () (m.set n (.lst (xs.set j d))) else .stuck
      | none => .stuck)
    | _ => .stuck)
  | _, _ => .stuck
theorem inL_set {n : Nat} {d : D} (hd : d.inB n = true) : ∀ {xs : List D} {j : Nat}, D.inL n xs = true → D.inL n (xs.set j d) = true
  | [], _, _ => by rw [List.set_nil, D.inL]
  | x :: r, 0, h => by
    rw [D.inL, Bool.and_eq_true] at h
    show D.inL n (d :: r) = true
    rw [D.inL, hd, h.2]; rfl
  | x :: r, j + 1, h => by
    rw [D.inL, Bool.and_eq_true] at h
    show D.inL n (x :: r.set j d) = true
    rw [D.inL, h.1, inL_set hd h.2]; rfl
theorem inL_append {n : Nat} : ∀ {xs ys : List D}, D.inL n xs = true → D.inL n ys = true → D.inL n (xs ++ ys) = true
  | [], _, _, h => h
  | x :: r, _, h, h' => by
    rw [D.inL, Bool.and_eq_true] at h
    show D.inL n (x :: (r ++ _)) = true
    rw [D.inL, h.1, inL_append h.2 h']; rfl
def gSb (o i : XE') : XG := fun d r m => (o r m).bind fun ov m1 => (i r m1).bind fun iv m2 => (setD ov iv d m2).bind fun _ m3 => .ok r m3
theorem dg_sub {vs : List Nat} {o i : Expr} {fo fi : XE'} (ho : DE c W o fo) (hi : DE c W i fi) (ha : ∀ env v, assign (.Subscript o i pos) env v = (do
      let ov ← holding [v] (eval o env)
      let iv ← holding [v, ov] (eval i env)
      standAt pos
      holding [v, ov, iv] (setItem ov iv v)
      release [v, ov, iv] []) := by intro _ _; rfl) : DG c W vs (.Subscript o i pos) (gSb fo fi) := by
  obtain ⟨t, h1, h2⟩ := ho
  obtain ⟨t', h1', h2'⟩ := hi
  refine ⟨gSub t t' rSetL, fun y hy => pg_sub (h1 y hy) (h1' y hy) set_list (ha _), fun d x r m σ H F al Q he hw q p => ?_⟩
  refine h2 r m σ H F al _ he hw (Post.step p fun ov m1 ox H1 F1 al1 e1 w1 q1 p1 => ?_)
  refine h2' r m1 σ H1 F1 al1 _ (he.up e1) w1 (Post.step p1 fun iv m2 ix H2 F2 al2 e2 w2 q2 p2 => ?_)
  have he2 := (he.up e1).up e2
  have q := (q.up e1).up e2
  have q1 := q1.up e2
  unfold setD at p2
  cases q1 with
  | @loc n ad s =>
    cases q2 with
    | int kk =>
      simp only at p2
      cases hc : m2[n]? with
      | none => rw [hc] at p2; exact p2.elim
      | some cl =>
        cases cl with
        | lst xs =>
          rw [hc] at p2
          simp only at p2
          cases hj : ixN xs.length kk with
          | none => rw [hj] at p2; exact p2.elim
          | some j =>
            rw [hj] at p2
            simp only at p2
            obtain ⟨hf, ys, h3, h4⟩ := w2.cell n ad _ s hc
            by_cases hb : d.inB n = true
            · rw [if_pos hb] at p2
              have hg : D.inL n xs = true := w2.gen _ _ hc
              exact ⟨ad, ys, kk, j, rfl, rfl, h3, by rw [← h4.len]; exact hj, p2 σ _ F2 al2 Le.refl (w2.write s hf ⟨hf, _, upd_same, h4.set q j⟩ (inL_set hb hg)) ⟨he2, rfl⟩⟩
            · rw [if_neg hb] at p2; exact p2.elim
        | ins _ _ => rw [hc] at p2; exact p2.elim
        | dct _ => rw [hc] at p2; exact p2.elim
        | dead => rw [hc] at p2; exact p2.elim
    | _ => exact p2.elim
  | _ => exact p2.elim
def sAsg (f : XE') (g : XG) : XS := fun r m => (f r m).stm r fun d m1 => (g d r m1).stm r fun r' m2 => .next r' m2
theorem ds_asg {tg : Expr} {g : XG} (vs : List Nat) (h : DE c W e fe) (hg : DG c W vs tg g) (hs : ∀ env, env.scope = c.sc → swapsWithSole [tg] e pos.line env = pure false := by (intro env h; rfl)) (hw : ∀ env, env.scope = c.sc → swappedStores [tg] e env = pure none := by (intro env h; rfl))
    (ha : ∀ env, (assignEach [tg] env).map (·.2) = [assign tg env] := by intro _; rfl) : DSt c W (.Assign [tg] e pos) (sAsg fe g) := by
  obtain ⟨t, h1, h2⟩ := h
  obtain ⟨t', h1', h2'⟩ := hg
  refine ⟨tAsg t t', fun y hy => ps_asg (h1 y hy) (h1' y hy) (hs _ hy.scope) (hw _ hy.scope) (ha _), fun r m σ H F al E he hw p => ?_⟩
  refine h2 r m σ H F al _ he hw (PostS.step he p fun d m1 x H1 F1 al1 e1 w1 q1 p1 => ?_)
  refine h2' d x r m1 σ H1 F1 al1 _ (he.up e1) w1 q1 (PostS.step (he.up e1) p1 fun r' m2 σ2 H2 F2 al2 e2 w2 q2 p2 => ?_)
  exact p2 σ2 H2 F2 al2 Le.refl w2 q2.1
def sPar (i j : Nat) (a : XA) : XS := fun r m => (a r m).stm r fun ds m1 => match ds with
  | [x, y] => .next ((r.set i (some x)).set j (some y)) m1
  | _ => .stuck
theorem ds_par (i j : Nat) {x y : Str} {fr : XA} {px py pt : Pos} {kt k2 : Nat} {pt2 : Pos} (hN : c.N.Nodup) (h : DA c W [a, b] fr) (hi : c.N[i]? = some x := by rfl) (hj : c.N[j]? = some y := by rfl) (hij : i ≠ j := by decide) (hx : c.sc.names.lookup x = some .local := by rfl) (hy : c.sc.names.lookup y = some .local := by rfl)
    (hsw : ∀ env, env.scope = c.sc → swappedStores [.Tuple [.Name x px, .Name y py] kt pt] (.Tuple [a, b] k2 pt2) env = pure (some [x, y]) := by (intro env h; cases env; cases h; rfl))
    (hs : ∀ env, env.scope = c.sc → swapsWithSole [.Tuple [.Name x px, .Name y py] kt pt] (.Tuple [a, b] k2 pt2) pos.line env = pure false := by (intro env h; rfl)) (hcm : c.calm = true := by rfl) : DSt c W (.Assign [.Tuple [.Name x px, .Name y py] kt pt] (.Tuple [a, b] k2 pt2) pos) (sPar i j fr) := by
  obtain ⟨⟨t, h1, h2⟩, hl⟩ := h
  refine ⟨tPar i j t, fun z hz => ?_, fun r m σ H F al E he hw p => ?_⟩
  · have e : (c.cx z).env.scope = c.sc := hz.scope
    exact ps_par (X := c.cx z) hcm hN hi hj hij (by rw [e]; exact hx) (by rw [e]; exact hy) (h1 z hz) (hsw _ hz.scope) (hs _ hz.scope)
  · refine h2 r m σ H F al _ he hw (PostS.step he p fun ds m1 vs H1 F1 al1 e1 w1 q1 p1 => ?_)
    split at p1
    · cases q1 with
      | cons qa q =>
        cases q with
        | cons qb q =>
          cases q
          exact ⟨_, _, rfl, p1 _ H1 F1 al1 Le.refl w1 (((he.up e1).set i qa).set j qb)⟩
    · exact p1.elim
def sPar3 (i j l : Nat) (a : XA) : XS := fun r m => (a r m).stm r fun ds m1 => match ds with
  | [x, y, z] => .next (((r.set i (some x)).set j (some y)).set l (some z)) m1
  | _ => .stuck
end
end DS

namespace DS
open PySem PySem.Spec PyProof.Rows L2
section
variable {c : SC} {W : WX} {pos : Pos} {a b d e : Expr} {fa fb fe : XE'} {ft : XT} {st : Stmt} {sts : List Stmt} {g u v : XS}
theorem ds_par3 (i j l : Nat) {x y z : Str} {fr : XA} {px py pz pt : Pos} {kt k2 : Nat} {pt2 : Pos} (hN : c.N.Nodup) (h : DA c W [a, b, d] fr) (hi : c.N[i]? = some x := by rfl) (hj : c.N[j]? = some y := by rfl) (hl : c.N[l]? = some z := by rfl) (hij : i ≠ j := by decide) (hil : i ≠ l := by decide) (hjl : j ≠ l := by decide)
    (hx : c.sc.names.lookup x = some .local := by rfl) (hy : c.sc.names.lookup y = some .local := by rfl) (hz : c.sc.names.lookup z = some .local := by rfl)
    (hsw : ∀ env, env.scope = c.sc → swappedStores [.Tuple [.Name x px, .Name y py, .Name z pz] kt pt] (.Tuple [a, b, d] k2 pt2) env = pure (some [x, y, z]) := by (intro env h; cases env; cases h; rfl))
    (hs : ∀ env, env.scope = c.sc → swapsWithSole [.Tuple [.Name x px, .Name y py, .Name z pz] kt pt] (.Tuple [a, b, d] k2 pt2) pos.line env = pure false := by (intro env h; rfl)) (hcm : c.calm = true := by rfl) : DSt c W (.Assign [.Tuple [.Name x px, .Name y py, .Name z pz] kt pt] (.Tuple [a, b, d] k2 pt2) pos) (sPar3 i j l fr) := by
  obtain ⟨⟨t, h1, h2⟩, hln⟩ := h
  refine ⟨tPar3 i j l t, fun q hq => ?_, fun r m σ H F al E he hw p => ?_⟩
  · have e : (c.cx q).env.scope = c.sc := hq.scope
    exact ps_par3 (X := c.cx q) hcm hN hi hj hl hij hil hjl (by rw [e]; exact hx) (by rw [e]; exact hy) (by rw [e]; exact hz) (h1 q hq) (hsw _ hq.scope) (hs _ hq.scope)
  · refine h2 r m σ H F al _ he hw (PostS.step he p fun ds m1 vs H1 F1 al1 e1 w1 q1 p1 => ?_)
    split at p1
    · cases q1 with
      | cons qa q =>
        cases q with
        | cons qb q =>
          cases q with
          | cons qc q =>
            cases q
            exact ⟨_, _, _, rfl, p1 _ H1 F1 al1 Le.refl w1 ((((he.up e1).set i qa).set j qb).set l qc)⟩
    · exact p1.elim
/-! ### o.f = e -/
def putD (f : Str) (d : D) : List (Str × D) → List (Str × D)
  | [] => [(f, d)]
  | (x, y) :: r => if x = f then (x, d) :: r else (x, y) :: putD f d r
theorem put_rp {K : PySem.W.Frag} {F : Hp} {al : List Addr} {f : Str} {q : D} {w : V} (h : Rp K F al q w) : ∀ {gs : List (Str × D)} {fs : List (Str × V)}, RpF K F al gs fs → RpF K F al (putD f q gs) (putF f w fs)
  | _, _, .nil => .cons h .nil
  | _, _, .cons (x := x) r t => by
    unfold putD putF
    by_cases e : x = f
    · rw [if_pos e, if_pos e]; exact .cons h t
    · rw [if_neg e, if_neg e]; exact .cons r (put_rp h t)
theorem put_in {n : Nat} {f : Str} {q : D} (h : q.inB n = true) : ∀ {gs : List (Str × D)}, D.inF n gs = true → D.inF n (putD f q gs) = true
  | [], _ => by unfold putD; rw [D.inF, h, D.inF]; rfl
  | (x, y) :: r, t => by
    rw [D.inF, Bool.and_eq_true] at t
    unfold putD
    split
    · rw [D.inF, h, t.2]; rfl
    · rw [D.inF, t.1, put_in h t.2]; rfl
def putC (cn f : Str) (o q : D) (m : Mu) : Out Unit := match o with
  | .loc n => (match m[n]? with
    | some (.ins c' gs) => if c' = cn ∧ gs.length < 1000 ∧ q.inB n = true then .ok () (m.set n (.ins cn (putD f q gs))) else .stuck
    | _ => .stuck)
  | _ => .stuck
def sFl (cn f : Str) (o v : XE') : XS := fun r m => (v r m).stm r fun q m1 => (o r m1).stm r fun od m2 => (putC cn f od q m2).stm r fun _ m3 => .next r m3
theorem ds_fld {cn f : Str} {o val : Expr} {fo fv : XE'} {pos' : Pos} (hc : Cls c.K (He.ga c.K cn)) (hn : NoAttr c.K (He.ga c.K cn) f) (ho : DE c W o fo) (hv : DE c W val fv) (hs : ∀ env, env.scope = c.sc → swapsWith val (some (.Attribute o f pos')) pos.line env = pure false := by (intro env h; rfl)) : DSt c W (.Assign [.Attribute o f pos'] val pos) (sFl cn f fo fv) := by
  obtain ⟨t, h1, h2⟩ := ho
  obtain ⟨t', h1', h2'⟩ := hv
  refine ⟨sFld c.K t t' f, fun y hy => ps_fld (X := c.cx y) (h1 y hy) (h1' y hy) (hs _ hy.scope), fun r m σ H F al E he hw p => ?_⟩
  refine h2' r m σ H F al _ he hw (PostS.step he p fun q m1 x H1 F1 al1 e1 w1 q1 p1 => ?_)
  refine h2 r m1 σ H1 F1 al1 _ (he.up e1) w1 (PostS.step (he.up e1) p1 fun od m2 ox H2 F2 al2 e2 w2 q2 p2 => ?_)
  have q1 := q1.up e2
  unfold putC at p2
  cases q2 with
  | @loc n ad s =>
    simp only at p2
    cases hcl : m2[n]? with
    | none => rw [hcl] at p2; exact p2.elim
    | some cl =>
      cases cl with
      | ins c' gs =>
        rw [hcl] at p2
        simp only at p2
        obtain ⟨hf, dx, fs, h3, h4⟩ := w2.cell n ad _ s hcl
        by_cases hb : c' = cn ∧ gs.length < 1000 ∧ q.inB n = true
        · rw [if_pos hb] at p2
          obtain ⟨rfl, hl, hq⟩ := hb
          have hg : D.inF n gs = true := w2.gen _ _ hcl
          exact ⟨ad, _, dx, fs, rfl, h3, hc, hn, by rw [← h4.len]; exact hl, p2 σ _ F2 al2 Le.refl (w2.write s hf ⟨hf, dx, _, upd_same, put_rp q1 h4⟩ (put_in hq hg)) ((he.up e1).up e2)⟩
        · rw [if_neg hb] at p2; exact p2.elim
      | lst _ => rw [hcl] at p2; exact p2.elim
      | dct _ => rw [hcl] at p2; exact p2.elim
      | dead => rw [hcl] at p2; exact p2.elim
  | _ => exact p2.elim
/-! ### x += e, o.f += e (ints) -/
def sAug (i : Nat) (f : XE') : XS := fun r m => match r[i]? with
  | some (some x) => (f r m).stm r fun y m1 => (match x, y with
    | .int p, .int q => .next (r.set i (some (.int (p + q)))) m1
    | _, _ => .stuck)
  | _ => .stuck
theorem ds_aug (i : Nat) {x : Str} {pos' : Pos} (hN : c.N.Nodup) (h : DE c W e fe) (hi : c.N[i]? = some x := by rfl) (hx : L2.Loc c.sc x := by first | exact .inl rfl | exact .inr rfl) (hf : c.fnB x = true ∨ c.sc.names.lookup x = some .local := by first | exact .inr rfl | exact .inl rfl) : DSt c W (.AugAssign (.Name x pos') .Add e pos) (sAug i fe) := by
  obtain ⟨t, h1, h2⟩ := h
  refine ⟨tAug i t (ipI fun i j => i + j), fun y hy => ps_aug hN hi (hy.loc hx) (h1 y hy) ip_add ?_, fun r m σ H F al E he hw p => ?_⟩
  · rcases hf with z | z
    · exact .inl (hy.fn x z)
    · refine .inr ?_
      have e : (c.cx y).env.scope = c.sc := hy.scope
      rw [e]; exact z
  · unfold sAug at p
    split at p
    · rename_i q hq
      obtain ⟨w, hv, rq⟩ := he.get i q hq
      refine ⟨w, hv, h2 r m σ H F al _ he hw (PostS.step he p fun z m1 x H1 F1 al1 e1 w1 q1 p1 => ?_)⟩
      split at p1
      · cases rq; cases q1
        exact ⟨_, _, rfl, rfl, p1 _ H1 F1 al1 Le.refl w1 ((he.up e1).set i (.int _))⟩
      · exact p1.elim
    · exact p.elim
/-! ### what is walked -/
structure Yld (K : PySem.W.Frag) (J : It) (xs : List D) (F : Hp) (al : List Addr) : Prop where
  go : ∀ (H : Hp) (F' : Hp) (al' : List Addr) (m : Mu) (i : Nat) (d : D), Le F al F' al' → Wd K F' al' m H → xs[i]? = some d →
    J.go i H ∧ ∀ x H', J.yld i H x H' → ∃ F2, Le F' al' F2 al' ∧ Wd K F2 al' m H' ∧ Rp K F2 al' d x
  stop : ∀ (H : Hp) (F' : Hp) (al' : List Addr) (m : Mu) (i : Nat), Le F al F' al' → Wd K F' al' m H → xs.length ≤ i → J.stop i H
def DI (c : SC) (W : WX) (tg iter : Expr) (f : XA) : Prop := ∃ wi : TI, (∀ y, OkD c W y → PI (c.cx y) tg iter wi) ∧
  ∀ r m σ H F al R, EnvOk c.K F al r σ → Wd c.K F al m H → Post c.K (fun F al xs J => Yld c.K J xs F al) (atS W σ) F al R (f r m) → wi σ H R
theorem PI.or {X : Cx} {tg it : Expr} {w w' : TI} (h : PI X tg it w) (h' : PI X tg it w') : PI X tg it (fun σ H R => w σ H R ∨ w' σ H R) :=
  ⟨fun pins s σ H R I q => q.elim (fun q => h.run pins s σ H R I q) fun q => h'.run pins s σ H R I q⟩
theorem SqL.fix {K : PySem.W.Frag} {F F' H : Hp} {al al' : List Addr} {m : Mu} {q : Addr} {vs : List V} (s : SqL K F q vs) (e : Le F al F' al') (w : Wd K F' al' m H) : SqL K H q vs := sql_up w.sub (sql_up e.f s)
theorem SqT.fix {K : PySem.W.Frag} {F F' H : Hp} {al al' : List Addr} {m : Mu} {q : Addr} {vs : List V} (s : SqT K F q vs) (e : Le F al F' al') (w : Wd K F' al' m H) : SqT K H q vs := sqt_up w.sub (sqt_up e.f s)
theorem yld_list {K : PySem.W.Frag} {F : Hp} {al : List Addr} {q : Addr} {vs : List V} {xs : List D} (s : SqL K F q vs) (r : RpL K F al xs vs) : Yld K (Itl K q) xs F al := by
  refine ⟨fun H F' al' m i d e w hd => ?_, fun H F' al' m i e w hi => ⟨vs, SqL.fix s e w, by rw [← r.len]; exact hi⟩⟩
  obtain ⟨x, h1, h2⟩ := r.get hd
  refine ⟨⟨vs, x, SqL.fix s e w, h1⟩, fun y H' hy => ?_⟩
  obtain ⟨rfl, hy⟩ := hy
  have := (hy vs (SqL.fix s e w)).symm.trans h1
  cases this
  exact ⟨F', Le.refl, w, h2.up e⟩
theorem yld_tup {K : PySem.W.Frag} {F : Hp} {al : List Addr} {q : Addr} {vs : List V} {xs : List D} (s : SqT K F q vs) (r : RpL K F al xs vs) : Yld K (Itt K q) xs F al := by
  refine ⟨fun H F' al' m i d e w hd => ?_, fun H F' al' m i e w hi => ⟨vs, SqT.fix s e w, by rw [← r.len]; exact hi⟩⟩
  obtain ⟨x, h1, h2⟩ := r.get hd
  refine ⟨⟨vs, x, SqT.fix s e w, h1⟩, fun y H' hy => ?_⟩
  obtain ⟨rfl, hy⟩ := hy
  have := (hy vs (SqT.fix s e w)).symm.trans h1
  cases this
  exact ⟨F', Le.refl, w, h2.up e⟩
/-- a list or a tuple that stands still, a text -/
def seqD : D → Mu → Out (List D)
  | .lst xs, m => .ok xs m
  | .fix xs, m => .ok xs m
  | .tup xs, m => .ok xs m
  | .str z, m => .ok (z.cps.toList.map fun k => .str ⟨#[k]⟩) m
  | _, _ => .stuck
def xiSeq (f : XE') : XA := fun r m => (f r m).bind seqD
theorem yld_str {K : PySem.W.Frag} {F : Hp} {al : List Addr} {z : Str} : Yld K (Its z) (z.cps.toList.map fun k => .str ⟨#[k]⟩) F al := by
  refine ⟨fun H F' al' m i d e w hd => ?_, fun H F' al' m i e w hi => ?_⟩
  · rw [List.getElem?_map] at hd
    cases hk : z.cps.toList[i]? with
    | none => rw [hk] at hd; cases hd
    | some k =>
      rw [hk] at hd
      cases hd
      have hk' : z.cps[i]? = some k := by rw [← Array.getElem?_toList]; exact hk
      refine ⟨(Array.getElem?_eq_some_iff.mp hk').1, fun x H' hy => ?_⟩
      obtain ⟨rfl, c', h1, rfl⟩ := hy
      rw [hk'] at h1
      cases h1
      exact ⟨F', Le.refl, w, .str _⟩
  · rw [List.length_map, Array.length_toList] at hi
    exact hi
theorem di_seq {tg : Expr} (h : DE c W e fe) : DI c W tg e (xiSeq fe) := by
  obtain ⟨t, h1, h2⟩ := h
  refine ⟨fun σ H R => (iList c.K t σ H R ∨ iTup c.K t σ H R) ∨ iStr t σ H R, fun y hy => PI.or (PI.or (pi_list (X := c.cx y) (h1 y hy)) (pi_tup (X := c.cx y) (h1 y hy))) (pi_str (h1 y hy)), fun r m σ H F al R he hw p => ?_⟩
  unfold xiSeq at p
  cases q : fe r m with
  | stuck => rw [q] at p; exact p.elim
  | exc cc fs m1 =>
    refine .inr (h2 r m σ H F al _ he hw ?_)
    rw [q] at p ⊢
    exact p
  | ok d m1 =>
    cases d with
    | str z =>
      refine .inr (h2 r m σ H F al _ he hw ?_)
      rw [q] at p ⊢
      intro x H1 F1 al1 e1 w1 q1
      cases q1
      exact ⟨z, rfl, p _ H1 F1 al1 e1 w1 yld_str⟩
    | tup xs =>
      refine .inl (.inr (h2 r m σ H F al _ he hw ?_))
      rw [q] at p ⊢
      intro x H1 F1 al1 e1 w1 q1
      cases q1 with
      | @tup q' vs _ s q2 => exact ⟨q', rfl, ⟨vs, sqt_up w1.sub s⟩, p _ H1 F1 al1 e1 w1 (yld_tup s q2)⟩
    | lst xs =>
      refine .inl (.inl (h2 r m σ H F al _ he hw ?_))
      rw [q] at p ⊢
      intro x H1 F1 al1 e1 w1 q1
      cases q1 with
      | @lst q' vs _ s q2 => exact ⟨q', rfl, ⟨vs, .of (w1.sub _ _ s)⟩, p _ H1 F1 al1 e1 w1 (yld_list (.of s) q2)⟩
    | fix xs =>
      refine .inl (.inl (h2 r m σ H F al _ he hw ?_))
      rw [q] at p ⊢
      intro x H1 F1 al1 e1 w1 q1
      cases q1 with
      | @fix q' vs _ s q2 => exact ⟨q', rfl, ⟨vs, sql_up w1.sub s⟩, p _ H1 F1 al1 e1 w1 (yld_list s q2)⟩
    | _ => rw [q] at p; exact p.elim
/-! range -/
def rngL (lo : Int) (n : Nat) : List D := (List.range n).map fun (i : Nat) => .int (lo + (i : Int))
theorem yld_rng {K : PySem.W.Frag} {F : Hp} {al : List Addr} {lo : Int} {n : Nat} : Yld K (Itr lo n) (rngL lo n) F al := by
  refine ⟨fun H F' al' m i d e w hd => ?_, fun H F' al' m i e w hi => ?_⟩
  · unfold rngL at hd
    rw [List.getElem?_map] at hd
    cases hk : (List.range n)[i]? with
    | none => rw [hk] at hd; cases hd
    | some k =>
      rw [hk] at hd
      cases hd
      obtain ⟨h1, h2⟩ := List.getElem?_eq_some_iff.mp hk
      rw [List.length_range] at h1
      rw [List.getElem_range] at h2
      subst h2
      refine ⟨h1, fun x H' hy => ?_⟩
      obtain ⟨rfl, rfl⟩ := hy
      exact ⟨F', Le.refl, w, .int _⟩
  · unfold rngL at hi
    rw [List.length_map, List.length_range] at hi
    exact hi
def rngD1 (ds : List D) (m : Mu) : Out (List D) := match ds with
  | [.int j] => if -(2 ^ 62) ≤ j ∧ j < 2 ^ 62 then .ok (rngL 0 j.toNat) m else .stuck
  | _ => .stuck
def rngD2 (ds : List D) (m : Mu) : Out (List D) := match ds with
  | [.int i, .int j] => if -(2 ^ 62) ≤ i ∧ i < 2 ^ 62 ∧ -(2 ^ 62) ≤ j ∧ j < 2 ^ 62 then .ok (rngL i (j - i).toNat) m else .stuck
  | _ => .stuck
def xiRng1 (f : XA) : XA := fun r m => (f r m).bind rngD1
def xiRng2 (f : XA) : XA := fun r m => (f r m).bind rngD2
theorem di_range1 {tg : Expr} {fr : XA} {p0 : Pos} (hm : c.mg "range" = none) (h : DA c W [a] fr) (hg : c.sc.names.lookup ("range" : Str) = some .globalImplicit := by rfl) (hs : ∀ env, starEach [a] env = [(false, eval a env)] := by intro _; rfl) : DI c W tg (.Call (.Name "range" p0) [a] [] pos) (xiRng1 fr) := by
  obtain ⟨⟨t, h1, h2⟩, _⟩ := h
  refine ⟨iRng1 t, fun y hy => pi_range1 (hy.gl hg) hm (h1 y hy) (hs _), fun r m σ H F al R he hw p => ?_⟩
  refine h2 r m σ H F al _ he hw (Post.step p fun ds m1 vs H1 F1 al1 e1 w1 q1 p1 => ?_)
  unfold rngD1 at p1
  split at p1
  · cases q1 with
    | cons qa q =>
      cases q; cases qa
      split at p1
      · rename_i hb
        exact ⟨_, rfl, hb.1, hb.2, p1 _ H1 F1 al1 Le.refl w1 yld_rng⟩
      · exact p1.elim
  · exact p1.elim
theorem di_range2 {tg : Expr} {fr : XA} {p0 : Pos} (hm : c.mg "range" = none) (h : DA c W [a, b] fr) (hg : c.sc.names.lookup ("range" : Str) = some .globalImplicit := by rfl) (hs : ∀ env, starEach [a, b] env = [(false, eval a env), (false, eval b env)] := by intro _; rfl) (hs2 : ∀ env, starEach [b] env = [(false, eval b env)] := by intro _; rfl) : DI c W tg (.Call (.Name "range" p0) [a, b] [] pos) (xiRng2 fr) := by
  obtain ⟨⟨t, h1, h2⟩, _⟩ := h
  refine ⟨iRng2 t, fun y hy => pi_range2 (hy.gl hg) hm (h1 y hy) (hs _) (hs2 _), fun r m σ H F al R he hw p => ?_⟩
  refine h2 r m σ H F al _ he hw (Post.step p fun ds m1 vs H1 F1 al1 e1 w1 q1 p1 => ?_)
  unfold rngD2 at p1
  split at p1
  · cases q1 with
    | cons qa q =>
      cases q with
      | cons qb q =>
      cases q; cases qa; cases qb
      split at p1
      · rename_i hb
        exact ⟨_, _, rfl, hb, p1 _ H1 F1 al1 Le.refl w1 yld_rng⟩
      · exact p1.elim
  · exact p1.elim
/-! enumerate of a list -/
def enumL : Nat → List D → List D
  | _, [] => []
  | i, x :: r => .tup [.int i, x] :: enumL (i + 1) r
theorem enumL_get : ∀ (xs : List D) (k i : Nat), (enumL k xs)[i]? = xs[i]?.map fun x => .tup [.int ((k + i : Nat) : Int), x]
  | [], _, _ => by simp [enumL]
  | x :: r, k, 0 => by simp [enumL]
  | x :: r, k, i + 1 => by
    rw [enumL, List.getElem?_cons_succ, List.getElem?_cons_succ, enumL_get r (k + 1) i, Nat.add_right_comm, Nat.add_assoc]
theorem enumL_len : ∀ (xs : List D) (k : Nat), (enumL k xs).length = xs.length
  | [], _ => rfl
  | _ :: r, k => by rw [enumL, List.length_cons, List.length_cons, enumL_len r]
theorem yld_enum {K : PySem.W.Frag} {F : Hp} {al : List Addr} {q : Addr} {vs : List V} {xs : List D} (s : SqL K F q vs) (r : RpL K F al xs vs) : Yld K (Ite K q) (enumL 0 xs) F al := by
  refine ⟨fun H F' al' m i d e w hd => ?_, fun H F' al' m i e w hi => ⟨vs, SqL.fix s e w, by rw [← r.len, ← enumL_len xs 0]; exact hi⟩⟩
  rw [enumL_get] at hd
  cases hx : xs[i]? with
  | none => rw [hx] at hd; cases hd
  | some z =>
    rw [hx] at hd
    cases hd
    obtain ⟨x, h1, h2⟩ := r.get hx
    refine ⟨⟨vs, x, SqL.fix s e w, h1⟩, fun y H' hy => ?_⟩
    obtain ⟨T, x', rfl, hT, rfl, hy⟩ := hy
    have := (hy vs (SqL.fix s e w)).symm.trans h1
    cases this
    have hf := w.fnone hT
    refine ⟨upd F' T _, ext_new hf, w.new hT, .tup (.of upd_same) (.cons ?_ (.cons ((h2.up e).up (ext_new hf)) .nil))⟩
    rw [Nat.zero_add]
    exact .int _
def enumD (ds : List D) (m : Mu) : Out (List D) := match ds with
  | [.lst xs] => .ok (enumL 0 xs) m
  | [.fix xs] => .ok (enumL 0 xs) m
  | _ => .stuck
def xiEnum (f : XA) : XA := fun r m => (f r m).bind enumD
theorem di_enum {fr : XA} {p0 tpos : Pos} {elts : List Expr} {kk : Nat} (hm : c.mg "enumerate" = none) (h : DA c W [e] fr) (hg : c.sc.names.lookup ("enumerate" : Str) = some .globalImplicit := by rfl) (hs : ∀ env, starEach [e] env = [(false, eval e env)] := by intro _; rfl) : DI c W (.Tuple elts kk tpos) (.Call (.Name "enumerate" p0) [e] [] pos) (xiEnum fr) := by
  obtain ⟨⟨t, h1, h2⟩, _⟩ := h
  refine ⟨iEnum c.K t, fun y hy => pi_enum (hy.gl hg) hm (h1 y hy) (hs _), fun r m σ H F al R he hw p => ?_⟩
  refine h2 r m σ H F al _ he hw (Post.step p fun ds m1 vs H1 F1 al1 e1 w1 q1 p1 => ?_)
  unfold enumD at p1
  split at p1
  · cases q1 with
    | cons qa q =>
      cases q
      cases qa with
      | @lst q' xs _ s q2 => exact ⟨q', xs, rfl, .of (w1.sub _ _ s), p1 _ H1 F1 al1 Le.refl w1 (yld_enum (.of s) q2)⟩
  · cases q1 with
    | cons qa q =>
      cases q
      cases qa with
      | @fix q' xs _ s q2 => exact ⟨q', xs, rfl, sql_up w1.sub s, p1 _ H1 F1 al1 Le.refl w1 (yld_enum s q2)⟩
  · exact p1.elim
/-! zip of two lists -/
def zipL : List D → List D → List D
  | x :: r, y :: s => .tup [x, y] :: zipL r s
  | _, _ => []
theorem zipL_get : ∀ (xs ys : List D) (i : Nat), (zipL xs ys)[i]? = match xs[i]?, ys[i]? with
    | some x, some y => some (.tup [x, y])
    | _, _ => none
  | [], ys, i => by simp [zipL]
  | x :: r, [], i => by
    simp only [zipL, List.getElem?_nil]
    cases (x :: r)[i]? <;> rfl
  | x :: r, y :: s, 0 => by simp [zipL]
  | x :: r, y :: s, i + 1 => by
    simp only [zipL, List.getElem?_cons_succ]
    exact zipL_get r s i
theorem zipL_len : ∀ (xs ys : List D), (zipL xs ys).length = min xs.length ys.length
  | [], _ => by simp [zipL]
  | _ :: _, [] => by simp [zipL]
  | _ :: r, _ :: s => by simp only [zipL, List.length_cons, zipL_len r s]; omega
theorem yld_zip {K : PySem.W.Frag} {F : Hp} {al : List Addr} {q q' : Addr} {vs ws : List V} {xs ys : List D} (s : SqL K F q vs) (r : RpL K F al xs vs) (s' : SqL K F q' ws) (r' : RpL K F al ys ws) : Yld K (Itz K q q') (zipL xs ys) F al := by
  refine ⟨fun H F' al' m i d e w hd => ?_, fun H F' al' m i e w hi => ⟨vs, ws, SqL.fix s e w, SqL.fix s' e w, ?_⟩⟩
  · rw [zipL_get] at hd
    cases hx : xs[i]? with
    | none => rw [hx] at hd; cases hd
    | some z =>
      cases hy : ys[i]? with
      | none => rw [hx, hy] at hd; cases hd
      | some z' =>
        rw [hx, hy] at hd
        cases hd
        obtain ⟨x, h1, h2⟩ := r.get hx
        obtain ⟨x', h1', h2'⟩ := r'.get hy
        refine ⟨⟨vs, ws, x, x', SqL.fix s e w, SqL.fix s' e w, h1, h1'⟩, fun y H' hy => ?_⟩
        obtain ⟨T, y1, y2, rfl, hT, rfl, hy1, hy2⟩ := hy
        have t1 := (hy1 vs (SqL.fix s e w)).symm.trans h1
        have t2 := (hy2 ws (SqL.fix s' e w)).symm.trans h1'
        cases t1; cases t2
        have hf := w.fnone hT
        exact ⟨upd F' T _, ext_new hf, w.new hT, .tup (.of upd_same) (.cons ((h2.up e).up (ext_new hf)) (.cons ((h2'.up e).up (ext_new hf)) .nil))⟩
  · rw [zipL_len] at hi
    rw [← r.len, ← r'.len]
    omega
def zipD (ds : List D) (m : Mu) : Out (List D) := match ds with
  | [.lst xs, .lst ys] => .ok (zipL xs ys) m
  | _ => .stuck
def xiZip (f : XA) : XA := fun r m => (f r m).bind zipD
theorem di_zip {fr : XA} {p0 tpos : Pos} {elts : List Expr} {kk : Nat} (hm : c.mg "zip" = none) (h : DA c W [a, b] fr) (hg : c.sc.names.lookup ("zip" : Str) = some .globalImplicit := by rfl) (hs : ∀ env, starEach [a, b] env = (false, eval a env) :: starEach [b] env := by intro _; rfl) (hpl : ∀ env, (backTo pos (starEach [b] env)).any (·.1) = false := by intro _; rfl) : DI c W (.Tuple elts kk tpos) (.Call (.Name "zip" p0) [a, b] [] pos) (xiZip fr) := by
  obtain ⟨⟨t, h1, h2⟩, _⟩ := h
  refine ⟨iZip c.K t, fun y hy => pi_zip (hy.gl hg) hm (h1 y hy) (hs _) (hpl _), fun r m σ H F al R he hw p => ?_⟩
  refine h2 r m σ H F al _ he hw (Post.step p fun ds m1 vs H1 F1 al1 e1 w1 q1 p1 => ?_)
  unfold zipD at p1
  split at p1
  · cases q1 with
    | cons qa q =>
      cases q with
      | cons qb q =>
      cases q
      cases qa with
      | @lst q' xs _ s q2 =>
      cases qb with
      | @lst q'' xs' _ s' q2' => exact ⟨q', q'', xs, xs', rfl, .of (w1.sub _ _ s), .of (w1.sub _ _ s'), p1 _ H1 F1 al1 Le.refl w1 (yld_zip (.of s) q2 (.of s') q2')⟩
  · exact p1.elim
/-! ### for -/
def loopF (g : XG) (body : XS) : List D → Rho → Mu → SO
  | [], r, m => .next r m
  | x :: xs, r, m => (g x r m).stm r fun r1 m1 => match body r1 m1 with
    | .next r2 m2 => loopF g body xs r2 m2
    | .cont r2 m2 => loopF g body xs r2 m2
    | .brk r2 m2 => .next r2 m2
    | o => o
def sFor (f : XA) (g : XG) (body : XS) : XS := fun r m => (f r m).stm r fun xs m1 => loopF g body xs r m1
theorem ds_for {tg it : Expr} {fi : XA} {gt : XG} (vs : List Nat) (hi : DI c W tg it fi) (hg : DG c W vs tg gt) (hb : DSs c W sts g) (hs : ∀ env x, foldedSetIterable it env x = pure x := by intro _ _; rfl) (hcm : c.calm = true := by rfl) : DSt c W (.For tg it sts [] pos) (sFor fi gt g) := by
  obtain ⟨wi, i1, i2⟩ := hi
  obtain ⟨tg', g1, g2⟩ := hg
  obtain ⟨tb, b1, b2⟩ := hb
  refine ⟨tFor wi tg' tb, fun y hy => ps_for hy.own hcm (i1 y hy) (g1 y hy) (b1 y hy) (hs _), fun r m σ H F al E he hw p => ?_⟩
  refine i2 r m σ H F al _ he hw (PostS.step he p fun xs m1 J H1 F1 al1 e1 w1 q1 p1 => ?_)
  refine ⟨fun i k σ' H' => ∃ r' m' F' al', k = xs.length - i ∧ i ≤ xs.length ∧ Le F1 al1 F' al' ∧ Wd c.K F' al' m' H' ∧ EnvOk c.K F' al' r' σ' ∧ PostS c.K W F' al' E (loopF gt g (xs.drop i) r' m'),
    ⟨xs.length, r, m1, F1, al1, rfl, Nat.zero_le _, Le.refl, w1, he.up e1, p1⟩, ?_⟩
  rintro i k σ' H' ⟨r', m', F', al', rfl, hi, e', w', he', p'⟩
  by_cases hlt : i < xs.length
  · have hd : xs[i]? = some xs[i] := List.getElem?_eq_getElem hlt
    obtain ⟨hgo, hyl⟩ := q1.go H' F' al' m' i xs[i] e' w' hd
    refine .inr ⟨hgo, fun σ2 H2 => ∃ r2 m2 F2 al2, Le F1 al1 F2 al2 ∧ Wd c.K F2 al2 m2 H2 ∧ EnvOk c.K F2 al2 r2 σ2 ∧ PostS c.K W F2 al2 E (loopF gt g (xs.drop (i + 1)) r2 m2), fun σ2 H2 ⟨r2, m2, F2, al2, z1, z2, z3, z4⟩ => ⟨xs.length - (i + 1), by omega, r2, m2, F2, al2, rfl, hlt, z1, z2, z3, z4⟩, fun x H2 hy => ?_⟩
    obtain ⟨F2, e2, w2, q2⟩ := hyl x H2 hy
    rw [List.drop_eq_getElem_cons hlt] at p'
    refine g2 xs[i] x r' m' σ' H2 F2 al' _ (he'.up e2) w2 q2 (PostS.step (he'.up e2) (p'.up e2) fun r3 m3 σ3 H3 F3 al3 e3 w3 q3 p3 => ?_)
    refine b2 r3 m3 σ3 H3 F3 al3 _ q3.1 w3 ?_
    have up3 := (e'.trans e2).trans e3
    cases o : g r3 m3 with
    | next r4 m4 => rw [o] at p3; exact fun σ4 H4 F4 al4 e4 w4 he4 => ⟨r4, m4, F4, al4, up3.trans e4, w4, he4, p3.up e4⟩
    | cont r4 m4 => rw [o] at p3; exact fun σ4 H4 F4 al4 e4 w4 he4 => ⟨r4, m4, F4, al4, up3.trans e4, w4, he4, p3.up e4⟩
    | brk r4 m4 => rw [o] at p3; exact p3
    | ret d m4 => rw [o] at p3; exact p3
    | exc _ _ _ _ => rw [o] at p3; exact p3
    | stuck => rw [o] at p3; exact p3
  · have ei : i = xs.length := by omega
    subst ei
    rw [List.drop_length] at p'
    exact .inl ⟨q1.stop H' F' al' m' _ e' w' (Nat.le_refl _), p' σ' H' F' al' Le.refl w' he'⟩
/-! ### while -/
def loopW (t : XT) (body : XS) : Nat → Rho → Mu → SO
  | 0, _, _ => .stuck
  | n + 1, r, m => (t r m).stm r fun k m1 => if k then (match body r m1 with
    | .next r2 m2 => loopW t body n r2 m2
    | .cont r2 m2 => loopW t body n r2 m2
    | .brk r2 m2 => .next r2 m2
    | o => o) else .next r m1
theorem ds_while {n : Nat} (ht : DT c W e ft) (hb : DSs c W sts g) : DSt c W (.While e sts [] pos) (loopW ft g n) := by
  obtain ⟨t, t1, t2⟩ := ht
  obtain ⟨tb, b1, b2⟩ := hb
  refine ⟨tWhile t tb, fun y hy => ps_while hy.own (t1 y hy) (b1 y hy), fun r m σ H F al E he hw p => ?_⟩
  refine ⟨fun k σ' H' => ∃ r' m' F' al', Wd c.K F' al' m' H' ∧ EnvOk c.K F' al' r' σ' ∧ PostS c.K W F' al' E (loopW ft g k r' m'), ⟨n, r, m, F, al, hw, he, p⟩, ?_⟩
  rintro k σ' H' ⟨r', m', F', al', w', he', p'⟩
  cases k with
  | zero => exact p'.elim
  | succ k =>
    refine t2 r' m' σ' H' F' al' _ he' w' (PostS.step he' p' fun q m1 q' H1 F1 al1 e1 w1 q1 p1 => ?_)
    cases q1
    cases q with
    | false => exact p1 σ' H1 F1 al1 Le.refl w1 (he'.up e1)
    | true =>
      show ∃ N, _
      refine ⟨fun σ2 H2 => ∃ r2 m2 F2 al2, Wd c.K F2 al2 m2 H2 ∧ EnvOk c.K F2 al2 r2 σ2 ∧ PostS c.K W F2 al2 E (loopW ft g k r2 m2), fun σ2 H2 z => ⟨k, Nat.lt_succ_self k, z⟩, ?_⟩
      refine b2 r' m1 σ' H1 F1 al1 _ (he'.up e1) w1 ?_
      have p1 : PostS c.K W F1 al1 E (match g r' m1 with
        | .next r2 m2 => loopW ft g k r2 m2
        | .cont r2 m2 => loopW ft g k r2 m2
        | .brk r2 m2 => .next r2 m2
        | o => o) := p1
      cases o : g r' m1 with
      | next r4 m4 => rw [o] at p1; exact fun σ4 H4 F4 al4 e4 w4 he4 => ⟨r4, m4, F4, al4, w4, he4, p1.up e4⟩
      | cont r4 m4 => rw [o] at p1; exact fun σ4 H4 F4 al4 e4 w4 he4 => ⟨r4, m4, F4, al4, w4, he4, p1.up e4⟩
      | brk r4 m4 => rw [o] at p1; exact p1
      | ret d m4 => rw [o] at p1; exact p1
      | exc _ _ _ _ => rw [o] at p1; exact p1
      | stuck => rw [o] at p1; exact p1
end
end DS

namespace DS
open PySem PySem.Spec PyProof.Rows L2
/-! ### list comprehensions -/
def wipeR (r : Rho) : List Nat → Rho
  | [] => r
  | v :: vs => (wipeR r vs).set v none
theorem EnvOk.unset {K : PySem.W.Frag} {F : Hp} {al : List Addr} {r : Rho} {σ : L2.St} (h : EnvOk K F al r σ) (i : Nat) : EnvOk K F al (r.set i none) (σ.set i none) := by
  refine ⟨by rw [List.length_set, List.length_set]; exact h.len, fun j e hj => ?_⟩
  by_cases hij : j = i
  · subst hij
    have hl : j < r.length := by
      have := (List.getElem?_eq_some_iff.mp hj).1
      rw [List.length_set] at this
      exact this
    rw [List.getElem?_set_self hl] at hj
    cases hj
  · rw [List.getElem?_set_ne (Ne.symm hij)] at hj
    obtain ⟨w, a, b⟩ := h.get j e hj
    exact ⟨w, by rw [List.getElem?_set_ne (Ne.symm hij)]; exact a, b⟩
theorem EnvOk.wipe {K : PySem.W.Frag} {F : Hp} {al : List Addr} {r : Rho} {σ : L2.St} (h : EnvOk K F al r σ) : ∀ vs : List Nat, EnvOk K F al (wipeR r vs) (L2.wipe σ vs)
  | [] => h
  | v :: vs => (EnvOk.wipe h vs).unset v
def noW : WX := fun _ _ _ _ => False
def Out.ne {α : Type} : Out α → Out α
  | .exc _ _ _ => .stuck
  | o => o
theorem Post.stepN {δ ν δ' ν' : Type} {K : PySem.W.Frag} {R : Hp → List Addr → δ → ν → Prop} {R' : Hp → List Addr → δ' → ν' → Prop} {W W' : XK} {F0 F : Hp} {al0 al : List Addr} {Q : ν → Hp → Prop} {Q' : ν' → Hp → Prop} {o : Out δ} {k : δ → Mu → Out δ'}
    (h : Post K R' W' F0 al0 Q' (o.ne.bind k)) (hk : ∀ d m v H1 F1 al1, Le F al F1 al1 → Wd K F1 al1 m H1 → R F1 al1 d v → Post K R' W' F0 al0 Q' (k d m) → Q v H1) : Post K R W F al Q o := by
  cases o with
  | ok d m => exact fun v H' F' al' e w r => hk d m v H' F' al' e w r h
  | exc c fs m => exact h.elim
  | stuck => exact h.elim
def pushD (n : Nat) (d : D) (m : Mu) : Out Unit := match m[n]? with
  | some (.lst acc) => if d.inB n = true ∧ acc.length < sizeLine then .ok () (m.set n (.lst (acc ++ [d]))) else .stuck
  | _ => .stuck
def lcF (g : XG) (tt : XT) (te : XE') (n : Nat) (r0 : Rho) : List D → Mu → Out Unit
  | [], m => .ok () m
  | x :: xs, m => (g x r0 m).ne.bind fun r1 m1 => (tt r1 m1).ne.bind fun b m2 => if b then (te r1 m2).ne.bind fun d m3 => (pushD n d m3).bind fun _ m4 => lcF g tt te n r0 xs m4 else lcF g tt te n r0 xs m2
def lcEnd (n : Nat) (m : Mu) : Out D := match m[n]? with
  | some (.lst acc) => .ok (.lst acc) (m.take n)
  | _ => .stuck
def lcD (g : XG) (tt : XT) (te : XE') (r0 : Rho) (xs : List D) (m : Mu) : Out D := (lcF g tt te m.length r0 xs (m ++ [.lst []])).bind fun _ m2 => lcEnd m.length m2
def xLc (f : XA) (vs : List Nat) (g : XG) (tt : XT) (te : XE') : XE' := fun r m => (f r m).bind fun xs m1 => lcD g tt te (wipeR r vs) xs m1
def SC.blk (c : SC) (scope : Scope) : SC := { c with sc := relS scope c.sc, fnB := fun x => scope.names.lookup x == some .cell, hx := none }
def blkD (y : Dyn) (s : Shared) (H : Hp) (scope : Scope) (cenv : Env) (fp : List Addr) : Dyn := { A := y.A, s_0 := s, H_0 := H, env := cenv, outer := y.stack, stack := y.stack, ex := fp, fn := fun x => scope.names.lookup x == some .cell, pn := [], xe := fun _ _ => False }
theorem OkD.blk {c : SC} {W : WX} {y : Dyn} (hy : OkD c W y) (s : Shared) (H : Hp) (scope : Scope) (C : Addr) (cl : List (Str × Addr)) (fp : List Addr) : OkD (c.blk scope) noW (blkD y s H scope (compEnvC scope cl C y.env) fp) := by
  refine ⟨?_, hy.room, hy.hd, ?_, fun x h => h, hy.gd, PassesOwn.never, fun _ z => nomatch z⟩
  · show relS scope y.env.scope = relS scope c.sc
    rw [hy.scope]
  · rintro u s' ⟨a, B, sI, pins, σ, H, cls, d, e, I, nb, up, sky, na, os, ag, w⟩
    exact w.elim
def xYes : XT := fun _ m => .ok true m
def DTs (c : SC) (W : WX) (ifs : List Expr) (f : XT) : Prop := ∃ t : TT, (∀ y, OkD c W y → PTs (c.cx y) ifs t) ∧
  ∀ r m σ H F al Q, EnvOk c.K F al r σ → Wd c.K F al m H → Post c.K RB (atS W σ) F al Q (f r m) → t σ H Q
section
variable {c : SC} {W : WX} {pos : Pos} {a b d e : Expr} {fa fb fe : XE'} {ft : XT}
theorem dts_nil : DTs c W [] xYes := ⟨tYes, fun _ _ => pts_nil, fun r m σ H F al Q he hw p => p true H F al Le.refl hw rfl⟩
theorem dts_one (h : DT c W e ft) : DTs c W [e] ft := by
  obtain ⟨t, h1, h2⟩ := h
  exact ⟨t, fun y hy => pts_one (h1 y hy), h2⟩
theorem lc_read {elt tg : Expr} {ifs : List Expr} {scope : Scope} {vs : List Nat} {gt : XG} {tt : XT} {te : XE'} {tg' : TG} {t2 : TT} {t3 : TE} {J : It} {xs : List D} {r : Rho} {m1 : Mu} {σ : L2.St} {H1 F1 : Hp} {al1 : List Addr} {Q : VK} {W' : XK}
    (g2 : ∀ d x r m σ H F al Q, EnvOk c.K F al r σ → Wd c.K F al m H → Rp c.K F al d x → Post c.K (RE c.K vs σ) (atS noW σ) F al Q (gt d r m) → tg' x σ H Q)
    (h2 : ∀ r m σ H F al Q, EnvOk c.K F al r σ → Wd c.K F al m H → Post c.K RB (atS noW σ) F al Q (tt r m) → t2 σ H Q)
    (h3 : ∀ r m σ H F al Q, EnvOk c.K F al r σ → Wd c.K F al m H → Post c.K (RD c.K) (atS noW σ) F al Q (te r m) → t3 σ H Q)
    (he : EnvOk c.K F1 al1 r σ) (w1 : Wd c.K F1 al1 m1 H1) (q1 : Yld c.K J xs F1 al1) (p : Post c.K (RD c.K) W' F1 al1 Q (lcD gt tt te (wipeR r vs) xs m1)) :
    ∀ D', H1 D' = none → ∃ Wv : Nat → Nat → Hp → Prop, (∃ k, Wv 0 k (upd H1 D' (.lst []))) ∧ ∀ i k H, Wv i k H →
      (J.stop i H ∧ Q (.ref D') H) ∨ (J.go i H ∧ ∃ Nx : Hp → Prop, (∀ H', Nx H' → ∃ k', k' < k ∧ Wv (i + 1) k' H') ∧ ∀ x H', J.yld i H x H' → tg' x (wipe σ vs) H' fun σ2 H2 => wipe σ2 vs = wipe σ vs ∧ t2 σ2 H2 fun b H3 =>
        if b = true then t3 σ2 H3 fun y H4 => ∃ acc, H4 D' = some (.lst acc) ∧ acc.length < sizeLine ∧ Nx (upd H4 D' (.lst (acc ++ [y]))) else Nx H3) := by
  intro D' hD
  have hlast : (al1 ++ [D'])[m1.length]? = some D' := by rw [← w1.len, List.getElem?_append_right (Nat.le_refl _), Nat.sub_self]; rfl
  have w0 : Wd c.K F1 (al1 ++ [D']) (m1 ++ [.lst []]) (upd H1 D' (.lst [])) := w1.newCell hD ⟨w1.fnone hD, [], upd_same, .nil⟩ rfl
  refine ⟨fun i k H' => ∃ m' F' al', k = xs.length - i ∧ i ≤ xs.length ∧ Le F1 (al1 ++ [D']) F' al' ∧ Wd c.K F' al' m' H' ∧ Post c.K (RD c.K) W' F1 al1 Q ((lcF gt tt te m1.length (wipeR r vs) (xs.drop i) m').bind fun _ m2 => lcEnd m1.length m2),
    ⟨xs.length, _, F1, al1 ++ [D'], rfl, Nat.zero_le _, Le.refl, w0, p⟩, ?_⟩
  rintro i k H' ⟨m', F', al', rfl, hi, e', w', p'⟩
  have e1' : Le F1 al1 F' al' := Le.snoc.trans e'
  by_cases hlt : i < xs.length
  · have hd : xs[i]? = some xs[i] := List.getElem?_eq_getElem hlt
    obtain ⟨hgo, hyl⟩ := q1.go H' F' al' m' i xs[i] e1' w' hd
    refine .inr ⟨hgo, fun H2 => ∃ m2 F2 al2, Le F1 (al1 ++ [D']) F2 al2 ∧ Wd c.K F2 al2 m2 H2 ∧ Post c.K (RD c.K) W' F1 al1 Q ((lcF gt tt te m1.length (wipeR r vs) (xs.drop (i + 1)) m2).bind fun _ m2 => lcEnd m1.length m2), fun H2 ⟨m2, F2, al2, z1, z2, z3⟩ => ⟨xs.length - (i + 1), by omega, m2, F2, al2, rfl, hlt, z1, z2, z3⟩, fun x H2 hy => ?_⟩
    obtain ⟨F2, e2, w2, q2⟩ := hyl x H2 hy
    rw [List.drop_eq_getElem_cons hlt, lcF] at p'
    have he2 : EnvOk c.K F2 al' (wipeR r vs) (wipe σ vs) := ((he.up e1').up e2).wipe vs
    refine g2 xs[i] x _ m' _ H2 F2 al' _ he2 w2 q2 (Post.stepN p'.assoc fun r3 m3 σ3 H3 F3 al3 e3 w3 q3 p3 => ?_)
    refine ⟨?_, h2 r3 m3 σ3 H3 F3 al3 _ q3.1 w3 (Post.stepN p3.assoc fun b m4 b' H4 F4 al4 e4 w4 q4 p4 => ?_)⟩
    · rw [q3.2]
      have wz : ∀ (ws : List Nat) (σ : L2.St), wipe (wipe σ ws) ws = wipe σ ws := fun ws σ => by
        apply List.ext_getElem?
        intro n
        have hl : ∀ (us : List Nat) (τ : L2.St), n ∈ us → n < τ.length → (wipe τ us)[n]? = some none := fun us => by
          induction us with
          | nil => intro τ h _; simp at h
          | cons u us ih =>
            intro τ h hn
            unfold L2.wipe
            by_cases hu : n = u
            · subst hu
              rw [List.getElem?_set_self (by rw [wipe_length]; exact hn)]
            · rw [List.getElem?_set_ne (Ne.symm hu)]
              exact ih τ ((List.mem_cons.mp h).resolve_left hu) hn
        have hr : ∀ (us : List Nat) (τ : L2.St), n ∉ us → (wipe τ us)[n]? = τ[n]? := fun us => by
          induction us with
          | nil => intro τ _; rfl
          | cons u us ih =>
            intro τ h
            unfold L2.wipe
            rw [List.getElem?_set_ne (fun z => h (by simp [z]))]
            exact ih τ fun z => h (by simp [z])
        by_cases hn : n ∈ ws
        · by_cases hlen : n < σ.length
          · rw [hl ws _ hn (by rw [wipe_length]; exact hlen), hl ws _ hn hlen]
          · rw [List.getElem?_eq_none_iff.mpr (by rw [wipe_length, wipe_length]; omega), List.getElem?_eq_none_iff.mpr (by rw [wipe_length]; omega)]
        · rw [hr ws _ hn]
      exact wz vs σ
    · cases q4
      have up4 : Le F1 (al1 ++ [D']) F4 al4 := ((e'.trans e2).trans e3).trans e4
      cases b with
      | false => exact ⟨m4, F4, al4, up4, w4, p4⟩
      | true =>
        show t3 σ3 H4 _
        have p4 : Post c.K (RD c.K) W' F1 al1 Q (((te r3 m4).ne.bind fun d m5 => (pushD m1.length d m5).bind fun _ m6 => lcF gt tt te m1.length (wipeR r vs) (xs.drop (i + 1)) m6).bind fun _ m2 => lcEnd m1.length m2) := p4
        refine h3 r3 m4 σ3 H4 F4 al4 _ (q3.1.up e4) w4 (Post.stepN p4.assoc fun q m5 y H5 F5 al5 e5 w5 q5 p5 => ?_)
        have up5 := up4.trans e5
        have hx5 : al5[m1.length]? = some D' := up5.a _ _ hlast
        unfold pushD at p5
        cases hc : m5[m1.length]? with
        | none => rw [hc] at p5; exact p5.elim
        | some cl =>
          cases cl with
          | ins _ _ => rw [hc] at p5; exact p5.elim
          | dct _ => rw [hc] at p5; exact p5.elim
          | dead => rw [hc] at p5; exact p5.elim
          | lst acc =>
            rw [hc] at p5
            simp only at p5
            obtain ⟨hf, ws, h4, h5⟩ := w5.cell _ _ _ hx5 hc
            by_cases hb : q.inB m1.length = true ∧ acc.length < sizeLine
            · rw [if_pos hb] at p5
              have hg : D.inL m1.length acc = true := w5.gen _ _ hc
              refine ⟨ws, h4, by rw [← h5.len]; exact hb.2, _, F5, al5, up5, w5.write (c := .lst (acc ++ [q])) hx5 hf ⟨hf, _, upd_same, h5.snoc q5⟩ (inL_append hg (by rw [D.inL, hb.1, D.inL]; rfl)), p5⟩
            · rw [if_neg hb] at p5; exact p5.elim
  · have ei : i = xs.length := by omega
    subst ei
    rw [List.drop_length, lcF] at p'
    refine .inl ⟨q1.stop H' F' al' m' _ e1' w' (Nat.le_refl _), ?_⟩
    have hx2 : al'[m1.length]? = some D' := e'.a _ _ hlast
    have p' : Post c.K (RD c.K) W' F1 al1 Q (lcEnd m1.length m') := p'
    unfold lcEnd at p'
    split at p'
    · rename_i acc hc
      obtain ⟨hf, ws, h4, h5⟩ := w'.cell _ _ _ hx2 hc
      have hg : D.inL m1.length acc = true := w'.gen _ _ hc
      exact p' _ H' (upd F' D' (.lst ws)) (al'.take m1.length) ((e1'.trans (ext_new hf)).cut (Nat.le_of_eq w1.len)) (w'.frz hx2 h4 hf (Nat.le_refl _)) (.lst upd_same ((h5.cut hg).up (ext_new hf)))
    · exact p'.elim
theorem de_lc {elt tg it : Expr} {ifs : List Expr} {scope : Scope} (own : List (Str × Nat)) {fi : XA} {gt : XG} {tt : XT} {te : XE'} (hN : c.N.Nodup) (ok : blkC c.N c.sc scope own = true) (hi : DI c W tg it fi) (hg : DG (c.blk scope) noW (own.map (·.2)) tg gt) (ht : DTs (c.blk scope) noW ifs tt) (he : DE (c.blk scope) noW elt te)
    (hs : ∀ env x, foldedSetIterable it env x = pure x := by intro _ _; rfl) (hcm : c.calm = true := by rfl) : DE c W (.ListComp elt [⟨tg, it, ifs, 0⟩] scope pos) (xLc fi (own.map (·.2)) gt tt te) := by
  obtain ⟨wi, i1, i2⟩ := hi
  obtain ⟨tg', g1, g2⟩ := hg
  obtain ⟨t2, t1, t2'⟩ := ht
  obtain ⟨t3, e1, e2⟩ := he
  refine ⟨tLc wi tg' t2 t3 (own.map (·.2)), fun y hy => pe_lc (X := c.cx y) hcm hN (i1 y hy) (by
      have z : (c.cx y).env.scope = c.sc := hy.scope
      rw [z]; exact blkOk_by ok) (fun s H C cl fp => g1 _ (hy.blk s H scope C cl fp)) (fun s H C cl fp => t1 _ (hy.blk s H scope C cl fp)) (fun s H C cl fp => e1 _ (hy.blk s H scope C cl fp)) (hs _), fun r m σ H F al Q he hw p => ?_⟩
  refine i2 r m σ H F al _ he hw (Post.step p fun xs m1 J H1 F1 al1 e3 w1 q1 p1 => ?_)
  exact lc_read (c := c) (elt := elt) (tg := tg) (ifs := ifs) (scope := scope) g2 t2' e2 (he.up e3) w1 q1 p1
theorem ds_lc (i : Nat) {y0 : Str} {py spos : Pos} {elt tg it : Expr} {ifs : List Expr} {scope : Scope} (own : List (Str × Nat)) {fi : XA} {gt : XG} {tt : XT} {te : XE'} (hN : c.N.Nodup) (ok : blkC c.N c.sc scope own = true) (hi : DI c W tg it fi) (hg : DG (c.blk scope) noW (own.map (·.2)) tg gt) (ht : DTs (c.blk scope) noW ifs tt) (he : DE (c.blk scope) noW elt te)
    (hy : c.N[i]? = some y0 := by rfl) (hyl : c.sc.names.lookup y0 = some .local := by rfl) (hk : c.sc.kind = .function := by rfl) (hl : (py.line == pos.line) = true := by rfl) (hn : (scope.names.any fun (n, k) => n == y0 && (k == .local || k == .cell)) = false := by decide +kernel)
    (hs : ∀ env x, foldedSetIterable it env x = pure x := by intro _ _; rfl) (hcm : c.calm = true := by rfl) : DSt c W (.Assign [.Name y0 py] (.ListComp elt [⟨tg, it, ifs, 0⟩] scope pos) spos) (sAsg (xLc fi (own.map (·.2)) gt tt te) (gNm i)) := by
  obtain ⟨wi, i1, i2⟩ := hi
  obtain ⟨tg', g1, g2⟩ := hg
  obtain ⟨t2, t1, t2'⟩ := ht
  obtain ⟨t3, e1, e2⟩ := he
  refine ⟨tAsg (tLc wi tg' t2 t3 (own.map (·.2))) (gName i), fun y hz => ?_, fun r m σ H F al E he hw p => ?_⟩
  · have z : (c.cx y).env.scope = c.sc := hz.scope
    exact ps_setLc (X := c.cx y) hcm hN hy (by rw [z]; exact hyl) (sw_true (by rw [z]; exact hk) (by rw [z]; exact hyl) hl hn) (i1 y hz) (by rw [z]; exact blkOk_by ok) (fun s H C cl fp => g1 _ (hz.blk s H scope C cl fp)) (fun s H C cl fp => t1 _ (hz.blk s H scope C cl fp)) (fun s H C cl fp => e1 _ (hz.blk s H scope C cl fp)) (hs _)
  · have p' : PostS c.K W F al E ((fi r m).stm r fun xs m1 => (lcD gt tt te (wipeR r (own.map (·.2))) xs m1).stm r fun d m2 => .next (r.set i (some d)) m2) := by
      have q : sAsg (xLc fi (own.map (·.2)) gt tt te) (gNm i) r m = ((fi r m).stm r fun xs m1 => (lcD gt tt te (wipeR r (own.map (·.2))) xs m1).stm r fun d m2 => .next (r.set i (some d)) m2) := by
        unfold sAsg xLc
        cases fi r m <;> rfl
      rw [← q]; exact p
    refine i2 r m σ H F al _ he hw (PostS.step he p' fun xs m1 J H1 F1 al1 e3 w1 q1 p1 => ?_)
    refine lc_read (c := c) (elt := elt) (tg := tg) (ifs := ifs) (scope := scope) (W' := atS W σ) (Q := fun x H1 => gName i x σ H1 E.nx) g2 t2' e2 (he.up e3) w1 q1 (PostS.step (he.up e3) p1 fun d m2 x H2 F2 al2 e4 w2 q2 p2 => ?_)
    exact p2 _ H2 F2 al2 Le.refl w2 (((he.up e3).up e4).set i q2)
end
end DS

namespace DS
open PySem PySem.Spec PyProof.Rows L2
section
variable {c : SC} {W : WX} {pos : Pos} {a b d e o : Expr} {fa fb fe fo : XE'} {ft : XT} {es : List Expr} {fr : XA} {x : Str} {p0 apos : Pos}
/-! ### built-ins called by name -/
def CallD (c : SC) (f : Value) (g : Fn) : Prop := ∃ r, (∀ W y, OkD c W y → CallR (c.cx y) f r) ∧
  ∀ (W : XK) ds m vs H F al Q, Wd c.K F al m H → RpL c.K F al ds vs → Post c.K (RD c.K) W F al Q (g ds m) → r vs H Q
theorem CallR.or {X : Cx} {f : Value} {r r' : List V → Hp → VK → Prop} (h : CallR X f r) (h' : CallR X f r') : CallR X f (fun vs H Q => r vs H Q ∨ r' vs H Q) :=
  fun pins s σ H vs us Q I rv q => q.elim (fun q => h pins s σ H vs us Q I rv q) fun q => h' pins s σ H vs us Q I rv q
theorem de_callB {id : String} {g : Fn} (hc : CallD c (.builtin id) g) (hm : c.mg x = none) (hv : bootBuiltins x = some (.builtin id)) (ha : DA c W (e :: es) fr) (hg : c.sc.names.lookup x = some .globalImplicit := by rfl) (hn : x ≠ "__name__" := by decide) (hdb : (x == ("__debug__" : Str)) = false := by decide)
    (hs : ∀ env, starEach (e :: es) env = (false, eval e env) :: starEach es env := by intro _; rfl) (hpl : ∀ env, (backTo pos (starEach es env)).any (·.1) = false := by intro _; rfl) : DE c W (.Call (.Name x p0) (e :: es) [] pos) (xCall g fr) := by
  obtain ⟨r, h1, h2⟩ := hc
  obtain ⟨⟨t, a1, a2⟩, _⟩ := ha
  refine ⟨tCB r t, fun y hy => pe_callB (h1 W y hy) (hy.gl hg) hm hv (a1 y hy) hn hdb (hs _) (hpl _), fun ρ m σ H F al Q he hw p => ?_⟩
  exact a2 ρ m σ H F al _ he hw (Post.step p fun ds m1 vs H1 F1 al1 e1 w1 q1 p1 => h2 _ ds m1 vs H1 F1 al1 Q w1 q1 p1)
theorem de_callT {T : String} {g : Fn} (hc : CallD c (.type T) g) (hm : c.mg x = none) (hv : bootBuiltins x = some (.type T)) (ha : DA c W (e :: es) fr) (hg : c.sc.names.lookup x = some .globalImplicit := by rfl) (hn : x ≠ "__name__" := by decide) (hdb : (x == ("__debug__" : Str)) = false := by decide)
    (hs : ∀ env, starEach (e :: es) env = (false, eval e env) :: starEach es env := by intro _; rfl) (hpl : ∀ env, (backTo pos (starEach es env)).any (·.1) = false := by intro _; rfl) : DE c W (.Call (.Name x p0) (e :: es) [] pos) (xCall g fr) := by
  obtain ⟨r, h1, h2⟩ := hc
  obtain ⟨⟨t, a1, a2⟩, _⟩ := ha
  refine ⟨tCB r t, fun y hy => pe_callTy (h1 W y hy) (hy.gl hg) hm hv (a1 y hy) hn hdb (hs _) (hpl _), fun ρ m σ H F al Q he hw p => ?_⟩
  exact a2 ρ m σ H F al _ he hw (Post.step p fun ds m1 vs H1 F1 al1 e1 w1 q1 p1 => h2 _ ds m1 vs H1 F1 al1 Q w1 q1 p1)
/-! len -/
def lenD (ds : List D) (m : Mu) : Out D := match ds with
  | [.str z] => if z.length ≤ sizeLine then .ok (.int z.length) m else .stuck
  | [.tup xs] => .ok (.int xs.length) m
  | [d] => (match lstOf m d with
    | some xs => .ok (.int xs.length) m
    | none => .stuck)
  | _ => .stuck
theorem b_len : CallD c (.builtin "len") lenD := by
  refine ⟨fun xs H Q => ∃ x n, xs = [x] ∧ LenV c.K x H n ∧ Q (.int n) H, fun W y hy => call_len (X := c.cx y), fun W ds m vs H F al Q hw r p => ?_⟩
  unfold lenD at p
  split at p
  · cases r with
    | cons q r =>
    cases r; cases q
    split at p
    · rename_i hz
      exact ⟨_, _, rfl, ⟨hz, rfl⟩, p _ H F al Le.refl hw (.int _)⟩
    · exact p.elim
  · cases r with
    | cons q r =>
    cases r
    cases q with
    | @tup q' ws _ s q => exact ⟨_, _, rfl, .inr ⟨ws, sqt_up hw.sub s, rfl⟩, by rw [← q.len]; exact p _ H F al Le.refl hw (.int _)⟩
  · cases r with
    | cons q r =>
    cases r
    split at p
    · rename_i xs hx
      obtain ⟨q', ws, rfl, s, q⟩ := lstOf_ok hw q hx
      exact ⟨_, _, rfl, .inl ⟨ws, s, rfl⟩, by rw [← q.len]; exact p _ H F al Le.refl hw (.int _)⟩
    · exact p.elim
  · exact p.elim
/-! int, str, abs, max, min of two -/
def intF (ds : List D) (m : Mu) : Out D := match ds with
  | [.int i] => .ok (.int i) m
  | [.str z] => (match PySem.intText? z with
    | some n => if z.length ≤ 640 then .ok (.int n) m else .stuck
    | none => .stuck)
  | _ => .stuck
theorem b_int : CallD c (.type "int") intF := by
  refine ⟨_, fun W y hy => CallR.or call_int1 call_int_str, fun W ds m vs H F al Q hw r p => ?_⟩
  unfold intF at p
  split at p
  · cases r with
    | cons q r =>
    cases r; cases q
    exact .inl (.inl ⟨_, rfl, p _ H F al Le.refl hw (.int _)⟩)
  · cases r with
    | cons q r =>
    cases r; cases q
    split at p
    · rename_i n hn
      split at p
      · rename_i hz
        exact .inr ⟨_, n, rfl, hn, hz, p _ H F al Le.refl hw (.int _)⟩
      · exact p.elim
    · exact p.elim
  · exact p.elim
def strF (ds : List D) (m : Mu) : Out D := match ds with
  | [.int i] => if i.natAbs.log2 < 1920 then .ok (.str (toString i)) m else .stuck
  | _ => .stuck
theorem b_str : CallD c (.type "str") strF := by
  refine ⟨_, fun W y hy => call_str_int, fun W ds m vs H F al Q hw r p => ?_⟩
  unfold strF at p
  split at p
  · cases r with
    | cons q r =>
    cases r; cases q
    split at p
    · rename_i hz
      exact ⟨_, rfl, hz, p _ H F al Le.refl hw (.str _)⟩
    · exact p.elim
  · exact p.elim
def absF (ds : List D) (m : Mu) : Out D := match ds with
  | [.int i] => .ok (.int (if i < 0 then -i else i)) m
  | _ => .stuck
theorem b_abs : CallD c (.builtin "abs") absF := by
  refine ⟨_, fun W y hy => call_abs, fun W ds m vs H F al Q hw r p => ?_⟩
  unfold absF at p
  split at p
  · cases r with
    | cons q r =>
    cases r; cases q
    exact ⟨_, rfl, p _ H F al Le.refl hw (.int _)⟩
  · exact p.elim
/-- the ints of a list -/
def intsL : List D → Option (List Int)
  | [] => some []
  | .int i :: r => (intsL r).map (i :: ·)
  | _ => none
theorem ints_rp {K : PySem.W.Frag} {F : Hp} {al : List Addr} : ∀ {ds : List D} {vs : List V} {ns : List Int}, RpL K F al ds vs → intsL ds = some ns → vs = ns.map V.int
  | _, _, _, .nil, h => by cases h; rfl
  | _, _, _, .cons (d := d) (ds := ds) r q, h => by
    cases d with
    | int i =>
      unfold intsL at h
      cases e : intsL ds with
      | none => rw [e] at h; cases h
      | some ns =>
        rw [e] at h
        cases h
        cases r
        rw [ints_rp q e]; rfl
    | _ => cases h
def maxL : Int → List Int → Int
  | i, [] => i
  | i, j :: r => maxL (if j > i then j else i) r
theorem maxL_ge : ∀ (r : List Int) (i : Int), i ≤ maxL i r ∧ ∀ y ∈ r, y ≤ maxL i r
  | [], i => ⟨Int.le_refl _, fun y h => by simp at h⟩
  | j :: r, i => by
    obtain ⟨h1, h2⟩ := maxL_ge r (if j > i then j else i)
    unfold maxL
    refine ⟨?_, fun y hy => ?_⟩
    · split at h1 <;> (split <;> omega)
    · rcases List.mem_cons.mp hy with rfl | hy
      · split at h1 <;> (split <;> omega)
      · exact h2 y hy
theorem maxL_mem : ∀ (r : List Int) (i : Int), maxL i r = i ∨ maxL i r ∈ r
  | [], i => .inl rfl
  | j :: r, i => by
    unfold maxL
    rcases maxL_mem r (if j > i then j else i) with h | h
    · rw [h]
      split
      · exact .inr (by simp)
      · exact .inl rfl
    · exact .inr (List.mem_cons_of_mem _ h)
def maxF (ds : List D) (m : Mu) : Out D := match ds with
  | [.int i, .int j] => .ok (.int (if j > i then j else i)) m
  | [d] => (match lstOf m d with
    | some xs => (match intsL xs with
      | some (i :: r) => .ok (.int (maxL i r)) m
      | _ => .stuck)
    | none => .stuck)
  | _ => .stuck
theorem b_max (hcm : c.calm = true := by rfl) : CallD c (.builtin "max") maxF := by
  refine ⟨fun xs H Q => (∃ i j, xs = [.int i, .int j] ∧ Q (.int (if j > i then j else i)) H) ∨ rMax c.K xs H Q, fun W y hy => CallR.or (call_max2 (X := c.cx y) hcm) (cr_max (X := c.cx y) hcm), fun W ds m vs H F al Q hw r p => ?_⟩
  unfold maxF at p
  split at p
  · cases r with
    | cons q r =>
    cases r with
    | cons q' r =>
    cases r; cases q; cases q'
    exact .inl ⟨_, _, rfl, p _ H F al Le.refl hw (.int _)⟩
  · cases r with
    | cons q r =>
    cases r
    split at p
    · rename_i xs hx
      obtain ⟨q', ws, rfl, s, q⟩ := lstOf_ok hw q hx
      split at p
      · rename_i i r hi
        have ew := ints_rp q hi
        subst ew
        refine .inr ⟨q', i :: r, rfl, s, by simp, fun k hk hle => ?_⟩
        have e : k = maxL i r := by
          obtain ⟨h1, h2⟩ := maxL_ge r i
          have h3 : k ≤ maxL i r := by
            rcases List.mem_cons.mp hk with rfl | hk
            · exact h1
            · exact h2 k hk
          have h4 : maxL i r ≤ k := by
            rcases maxL_mem r i with h | h
            · rw [h]; exact hle i (by simp)
            · exact hle _ (List.mem_cons_of_mem _ h)
          omega
        rw [e]
        exact p _ H F al Le.refl hw (.int _)
      · exact p.elim
    · exact p.elim
  · exact p.elim
def minF (ds : List D) (m : Mu) : Out D := match ds with
  | [.int i, .int j] => .ok (.int (if j < i then j else i)) m
  | _ => .stuck
theorem b_min (hcm : c.calm = true := by rfl) : CallD c (.builtin "min") minF := by
  refine ⟨_, fun W y hy => call_min2 (X := c.cx y) hcm, fun W ds m vs H F al Q hw r p => ?_⟩
  unfold minF at p
  split at p
  · cases r with
    | cons q r =>
    cases r with
    | cons q' r =>
    cases r; cases q; cases q'
    exact ⟨_, _, rfl, p _ H F al Le.refl hw (.int _)⟩
  · exact p.elim
def sumF (ds : List D) (m : Mu) : Out D := match ds with
  | [d] => (match lstOf m d with
    | some xs => (match intsL xs with
      | some ns => .ok (.int ns.sum) m
      | _ => .stuck)
    | none => .stuck)
  | _ => .stuck
theorem b_sum (hcm : c.calm = true := by rfl) : CallD c (.builtin "sum") sumF := by
  refine ⟨rSum c.K, fun W y hy => cr_sum (X := c.cx y) hcm, fun W ds m vs H F al Q hw r p => ?_⟩
  unfold sumF at p
  split at p
  · cases r with
    | cons q r =>
    cases r
    split at p
    · rename_i xs hx
      obtain ⟨q', ws, rfl, s, q⟩ := lstOf_ok hw q hx
      split at p
      · rename_i ns hi
        have ew := ints_rp q hi
        subst ew
        exact ⟨q', ns, rfl, s, p _ H F al Le.refl hw (.int _)⟩
      · exact p.elim
    · exact p.elim
  · exact p.elim
/-- the truth values of a list -/
def bsL : List D → Option (List Bool)
  | [] => some []
  | .bl i :: r => (bsL r).map (i :: ·)
  | _ => none
theorem bs_rp {K : PySem.W.Frag} {F : Hp} {al : List Addr} : ∀ {ds : List D} {vs : List V} {ns : List Bool}, RpL K F al ds vs → bsL ds = some ns → vs = ns.map V.bl
  | _, _, _, .nil, h => by cases h; rfl
  | _, _, _, .cons (d := d) (ds := ds) r q, h => by
    cases d with
    | bl i =>
      unfold bsL at h
      cases e : bsL ds with
      | none => rw [e] at h; cases h
      | some ns =>
        rw [e] at h
        cases h
        cases r
        rw [bs_rp q e]; rfl
    | _ => cases h
def allF (ds : List D) (m : Mu) : Out D := match ds with
  | [d] => (match lstOf m d with
    | some xs => (match bsL xs with
      | some ns => .ok (.bl (ns.all id)) m
      | _ => .stuck)
    | none => .stuck)
  | _ => .stuck
def anyF (ds : List D) (m : Mu) : Out D := match ds with
  | [d] => (match lstOf m d with
    | some xs => (match bsL xs with
      | some ns => .ok (.bl (ns.any id)) m
      | _ => .stuck)
    | none => .stuck)
  | _ => .stuck
theorem b_all (hcm : c.calm = true := by rfl) : CallD c (.builtin "all") allF := by
  refine ⟨rAll c.K, fun W y hy => cr_all (X := c.cx y) hcm, fun W ds m vs H F al Q hw r p => ?_⟩
  unfold allF at p
  split at p
  · cases r with
    | cons q r =>
    cases r
    split at p
    · rename_i xs hx
      obtain ⟨q', ws, rfl, s, q⟩ := lstOf_ok hw q hx
      split at p
      · rename_i ns hi
        have ew := bs_rp q hi
        subst ew
        exact ⟨q', ns, rfl, s, p _ H F al Le.refl hw (.bl _)⟩
      · exact p.elim
    · exact p.elim
  · exact p.elim
theorem b_any (hcm : c.calm = true := by rfl) : CallD c (.builtin "any") anyF := by
  refine ⟨rAny c.K, fun W y hy => cr_any (X := c.cx y) hcm, fun W ds m vs H F al Q hw r p => ?_⟩
  unfold anyF at p
  split at p
  · cases r with
    | cons q r =>
    cases r
    split at p
    · rename_i xs hx
      obtain ⟨q', ws, rfl, s, q⟩ := lstOf_ok hw q hx
      split at p
      · rename_i ns hi
        have ew := bs_rp q hi
        subst ew
        exact ⟨q', ns, rfl, s, p _ H F al Le.refl hw (.bl _)⟩
      · exact p.elim
    · exact p.elim
  · exact p.elim
/-! tuple(..), list(..), divmod -/
def tupF (ds : List D) (m : Mu) : Out D := match ds with
  | [.tup xs] => .ok (.tup xs) m
  | [d] => (match lstOf m d with
    | some xs => .ok (.tup xs) m
    | none => .stuck)
  | _ => .stuck
theorem b_tuple : CallD c (.type "tuple") tupF := by
  refine ⟨fun xs H Q => ∃ p ys, xs = [.ref p] ∧ ((SqL c.K H p ys ∧ ∀ l, H l = none → Q (.ref l) (upd H l (.tup ys))) ∨ SqT c.K H p ys ∧ Q (.ref p) H), fun W y hy => call_tuple_of (X := c.cx y), fun W ds m vs H F al Q hw r p => ?_⟩
  unfold tupF at p
  split at p
  · cases r with
    | cons q r =>
    cases r
    cases q with
    | @tup q' ws _ s q => exact ⟨q', ws, rfl, .inr ⟨sqt_up hw.sub s, p _ H F al Le.refl hw (.tup s q)⟩⟩
  · cases r with
    | cons q r =>
    cases r
    split at p
    · rename_i xs hx
      obtain ⟨q', ws, rfl, s, q⟩ := lstOf_ok hw q hx
      exact ⟨q', ws, rfl, .inl ⟨s, fun n hn => p _ _ (upd F n _) al (ext_new (hw.fnone hn)) (hw.new hn) (.tup (.of upd_same) (q.up (ext_new (hw.fnone hn))))⟩⟩
    · exact p.elim
  · exact p.elim
def seqOf (m : Mu) : D → Option (List D)
  | .tup xs => some xs
  | d => lstOf m d
theorem seqOf_ok {K : PySem.W.Frag} {F : Hp} {al : List Addr} {m : Mu} {H : Hp} {d : D} {v : V} {xs : List D} (w : Wd K F al m H) (r : Rp K F al d v) (h : seqOf m d = some xs) : ∃ a vs, v = .ref a ∧ (SqL K H a vs ∨ SqT K H a vs) ∧ RpL K F al xs vs := by
  cases r with
  | tup s q => cases h; exact ⟨_, _, rfl, .inr (sqt_up w.sub s), q⟩
  | lst s q => cases h; exact ⟨_, _, rfl, .inl (.of (w.sub _ _ s)), q⟩
  | fix s q => cases h; exact ⟨_, _, rfl, .inl (sql_up w.sub s), q⟩
  | @loc n q s =>
    obtain ⟨q', ws, e, s', q⟩ := lstOf_ok w (.loc s) (show lstOf m (.loc n) = some xs from h)
    exact ⟨q', ws, e, .inl s', q⟩
  | _ => cases h
def lstF (ds : List D) (m : Mu) : Out D := match ds with
  | [d] => (match seqOf m d with
    | some xs => .ok (.lst xs) m
    | none => .stuck)
  | _ => .stuck
/-- .. that will change -/
def newF (ds : List D) (m : Mu) : Out D := match ds with
  | [d] => (match seqOf m d with
    | some xs => if D.inL m.length xs then .ok (.loc m.length) (m ++ [.lst xs]) else .stuck
    | none => .stuck)
  | _ => .stuck
theorem b_list : CallD c (.type "list") lstF := by
  refine ⟨fun xs H Q => ∃ p ys, xs = [.ref p] ∧ (SqL c.K H p ys ∨ SqT c.K H p ys) ∧ ∀ l, H l = none → Q (.ref l) (upd H l (.lst ys)), fun W y hy => call_list_of (X := c.cx y), fun W ds m vs H F al Q hw r p => ?_⟩
  unfold lstF at p
  split at p
  · cases r with
    | cons q r =>
    cases r
    split at p
    · rename_i xs hx
      obtain ⟨q', ws, rfl, s, q⟩ := seqOf_ok hw q hx
      exact ⟨q', ws, rfl, s, fun n hn => p _ _ (upd F n _) al (ext_new (hw.fnone hn)) (hw.new hn) (.lst upd_same (q.up (ext_new (hw.fnone hn))))⟩
    · exact p.elim
  · exact p.elim
theorem b_listN : CallD c (.type "list") newF := by
  refine ⟨fun xs H Q => ∃ p ys, xs = [.ref p] ∧ (SqL c.K H p ys ∨ SqT c.K H p ys) ∧ ∀ l, H l = none → Q (.ref l) (upd H l (.lst ys)), fun W y hy => call_list_of (X := c.cx y), fun W ds m vs H F al Q hw r p => ?_⟩
  unfold newF at p
  split at p
  · cases r with
    | cons q r =>
    cases r
    split at p
    · rename_i xs hx
      obtain ⟨q', ws, rfl, s, q⟩ := seqOf_ok hw q hx
      split at p
      · rename_i hb
        exact ⟨q', ws, rfl, s, fun n hn => p _ _ F (al ++ [n]) Le.snoc (hw.newCell hn ⟨hw.fnone hn, ws, upd_same, q.up Le.snoc⟩ hb) (.loc (by rw [← hw.len, List.getElem?_append_right (Nat.le_refl _), Nat.sub_self]; rfl))⟩
      · exact p.elim
    · exact p.elim
  · exact p.elim
def dmF (ds : List D) (m : Mu) : Out D := match ds with
  | [.int i, .int j] => if 0 < j ∧ j < 1073741824 then .ok (.tup [.int (i / j), .int (i % j)]) m else .stuck
  | _ => .stuck
theorem b_divmod : CallD c (.builtin "divmod") dmF := by
  refine ⟨_, fun W y hy => call_divmod, fun W ds m vs H F al Q hw r p => ?_⟩
  unfold dmF at p
  split at p
  · cases r with
    | cons q r =>
    cases r with
    | cons q' r =>
    cases r; cases q; cases q'
    split at p
    · rename_i hj
      exact ⟨_, _, rfl, hj, fun n hn => p _ _ (upd F n _) al (ext_new (hw.fnone hn)) (hw.new hn) (.tup (.of upd_same) (.cons (.int _) (.cons (.int _) .nil)))⟩
    · exact p.elim
  · exact p.elim
/-! ### methods of built-in types -/
def tyD (T : String) (m : Mu) : D → Bool
  | .str _ => T == "str"
  | d => T == "list" && (lstOf m d).isSome
theorem tyD_ok {K : PySem.W.Frag} {F : Hp} {al : List Addr} {m : Mu} {H : Hp} {T : String} {d : D} {v : V} (w : Wd K F al m H) (r : Rp K F al d v) (h : tyD T m d = true) : tyV K T v H := by
  have lists : (T == "list" && (lstOf m d).isSome) = true → tyV K T v H := fun h => by
    rw [Bool.and_eq_true] at h
    obtain ⟨xs, hx⟩ := Option.isSome_iff_exists.mp h.2
    obtain ⟨q', ws, rfl, s, q⟩ := lstOf_ok w r hx
    exact .inl ⟨by simpa using h.1, ws, s⟩
  cases r with
  | str x => exact (by simpa [tyD] using h : T = "str")
  | _ => exact lists h
def MethD (c : SC) (id : String) (g : Fn) : Prop := ∃ r, (∀ W y, OkD c W y → MtR (c.cx y) id r) ∧
  ∀ (W : XK) o ds m x vs H F al Q, Wd c.K F al m H → Rp c.K F al o x → RpL c.K F al ds vs → Post c.K (RD c.K) W F al Q (g (o :: ds) m) → r x vs H Q
def xBM (T : String) (g : Fn) (o : XE') (a : XA) : XE' := fun r m => (o r m).bind fun d m1 => if tyD T m1 d then (a r m1).bind fun ds m2 => g (d :: ds) m2 else .stuck
theorem de_bm {T id : String} {name : Str} {g : Fn} (pa : PlainAttrs T) (slot : Slot T name id) (hty : typeOf (.builtin id) = pure (.type "method_descriptor")) (hm : MethD c id g) (ho : DE c W o fo) (ha : DA c W (e :: es) fr) (hb : ∀ env, attributeBase o name env (eval o env) = eval o env := by intro _; rfl)
    (hn : ∀ env, ((backTo pos (starEach (e :: es) env)).all (fun x => !x.1) && (backToKw pos (keywordEach [] env)).all (fun x => x.1.isSome) && decide ((e :: es).length + ([] : List Keyword).length + (if ([] : List Keyword).isEmpty then 0 else 1) < 30)) = true := by intro _; rfl) (hl : (apos.endLine == pos.line) = true := by rfl)
    (hs : ∀ env, starEach (e :: es) env = (false, eval e env) :: starEach es env := by intro _; rfl) (hpl : ∀ env, (backTo pos (starEach es env)).any (·.1) = false := by intro _; rfl) : DE c W (.Call (.Attribute o name apos) (e :: es) [] pos) (xBM T g fo fr) := by
  obtain ⟨r, h1, h2⟩ := hm
  obtain ⟨to, o1, o2⟩ := ho
  obtain ⟨⟨t, a1, a2⟩, _⟩ := ha
  refine ⟨tBM c.K T r to t, fun y hy => pe_bm (X := c.cx y) pa slot hty (h1 W y hy) (o1 y hy) (a1 y hy) (hb _) (hn _) hl (hs _) (hpl _), fun ρ m σ H F al Q he hw p => ?_⟩
  refine o2 ρ m σ H F al _ he hw (Post.step p fun d m1 v H1 F1 al1 e1 w1 q1 p1 => ?_)
  split at p1
  · rename_i ht
    exact ⟨tyD_ok w1 q1 ht, a2 ρ m1 σ H1 F1 al1 _ (he.up e1) w1 (Post.step p1 fun ds m2 vs H2 F2 al2 e2 w2 q2 p2 => h2 _ d ds m2 v vs H2 F2 al2 Q w2 (q1.up e2) q2 p2)⟩
  · exact p1.elim
theorem de_bm0 {T id : String} {name : Str} {g : Fn} (pa : PlainAttrs T) (slot : Slot T name id) (hty : typeOf (.builtin id) = pure (.type "method_descriptor")) (hm : MethD c id g) (ho : DE c W o fo) (hb : ∀ env, attributeBase o name env (eval o env) = eval o env := by intro _; rfl) (hl : (apos.endLine == pos.line) = true := by rfl) : DE c W (.Call (.Attribute o name apos) [] [] pos) (xBM T g fo xaNil) := by
  obtain ⟨r, h1, h2⟩ := hm
  obtain ⟨to, o1, o2⟩ := ho
  refine ⟨tBM0 c.K T r to, fun y hy => pe_bm0 (X := c.cx y) pa slot hty (h1 W y hy) (o1 y hy) (hb _) hl, fun ρ m σ H F al Q he hw p => ?_⟩
  refine o2 ρ m σ H F al _ he hw (Post.step p fun d m1 v H1 F1 al1 e1 w1 q1 p1 => ?_)
  split at p1
  · rename_i ht
    exact ⟨tyD_ok w1 q1 ht, h2 _ d [] m1 v [] H1 F1 al1 Q w1 q1 .nil p1⟩
  · exact p1.elim
def appF (ds : List D) (m : Mu) : Out D := match ds with
  | [.loc n, d] => (pushD n d m).bind fun _ m1 => .ok .non m1
  | _ => .stuck
theorem m_append : MethD c "list.append" appF := by
  refine ⟨rAppend, fun W y hy => mt_append, fun W o ds m x vs H F al Q hw r1 r p => ?_⟩
  unfold appF at p
  split at p
  · rename_i n d heq
    simp only [List.cons.injEq] at heq
    obtain ⟨rfl, rfl⟩ := heq
    cases r1 with
    | @loc _ ad s =>
    cases r with
    | cons q r =>
    cases r
    unfold pushD at p
    cases hc : m[n]? with
    | none => rw [hc] at p; exact p.elim
    | some cl =>
      cases cl with
      | ins _ _ => rw [hc] at p; exact p.elim
      | dct _ => rw [hc] at p; exact p.elim
      | dead => rw [hc] at p; exact p.elim
      | lst acc =>
        rw [hc] at p
        simp only at p
        obtain ⟨hf, ws, h4, h5⟩ := hw.cell _ _ _ s hc
        by_cases hb : d.inB n = true ∧ acc.length < sizeLine
        · rw [if_pos hb] at p
          have hg : D.inL n acc = true := hw.gen _ _ hc
          exact ⟨ad, ws, _, rfl, rfl, h4, by rw [← h5.len]; exact hb.2, p _ _ F al Le.refl (hw.write (c := .lst (acc ++ [d])) s hf ⟨hf, _, upd_same, h5.snoc q⟩ (inL_append hg (by rw [D.inL, hb.1, D.inL]; rfl))) .non⟩
        · rw [if_neg hb] at p; exact p.elim
  · exact p.elim
def popF (ds : List D) (m : Mu) : Out D := match ds with
  | [.loc n] => (match m[n]? with
    | some (.lst xs) => (match xs[xs.length - 1]? with
      | some d => .ok d (m.set n (.lst xs.dropLast))
      | none => .stuck)
    | _ => .stuck)
  | _ => .stuck
theorem inL_dropLast {n : Nat} : ∀ {xs : List D}, D.inL n xs = true → D.inL n xs.dropLast = true
  | [], h => h
  | [_], _ => by simp [D.inL]
  | x :: y :: r, h => by
    rw [D.inL, Bool.and_eq_true] at h
    show D.inL n (x :: (y :: r).dropLast) = true
    rw [D.inL, h.1, inL_dropLast h.2]; rfl
theorem RpL.dropLast {K : PySem.W.Frag} {F : Hp} {al : List Addr} : ∀ {ds : List D} {vs : List V}, RpL K F al ds vs → RpL K F al ds.dropLast vs.dropLast
  | _, _, .nil => .nil
  | _, _, .cons r .nil => .nil
  | _, _, .cons r (.cons r' q) => .cons r (RpL.dropLast (.cons r' q))
theorem m_pop : MethD c "list.pop" popF := by
  refine ⟨rPop, fun W y hy => mt_pop, fun W o ds m x vs H F al Q hw r1 r p => ?_⟩
  unfold popF at p
  split at p
  · rename_i n heq
    simp only [List.cons.injEq] at heq
    obtain ⟨rfl, rfl⟩ := heq
    cases r1 with
    | @loc _ ad s =>
    cases r
    cases hc : m[n]? with
    | none => rw [hc] at p; exact p.elim
    | some cl =>
      cases cl with
      | ins _ _ => rw [hc] at p; exact p.elim
      | dct _ => rw [hc] at p; exact p.elim
      | dead => rw [hc] at p; exact p.elim
      | lst acc =>
        rw [hc] at p
        simp only at p
        obtain ⟨hf, ws, h4, h5⟩ := hw.cell _ _ _ s hc
        have hg : D.inL n acc = true := hw.gen _ _ hc
        cases hl : acc[acc.length - 1]? with
        | none => rw [hl] at p; exact p.elim
        | some d =>
          rw [hl] at p
          obtain ⟨z, h6, h7⟩ := h5.get hl
          exact ⟨ad, ws, z, rfl, rfl, h4, by rw [← h5.len]; exact h6, p _ _ F al Le.refl (hw.write (c := .lst acc.dropLast) s hf ⟨hf, _, upd_same, h5.dropLast⟩ (inL_dropLast hg)) h7⟩
  · exact p.elim
/-! texts -/
def splitF (ds : List D) (m : Mu) : Out D := match ds with
  | [.str z, .str s] => if (s.length == 0) = false ∧ z.length + 2 ≤ sizeLine then .ok (.lst ((Txt.split z s).map .str)) m else .stuck
  | _ => .stuck
theorem strs_rp {K : PySem.W.Frag} {F : Hp} {al : List Addr} : ∀ (ys : List Str), RpL K F al (ys.map .str) (ys.map V.str)
  | [] => .nil
  | y :: r => .cons (.str y) (strs_rp r)
theorem m_split : MethD c "str.split" splitF := by
  refine ⟨_, fun W y hy => mt_split, fun W o ds m x vs H F al Q hw r1 r p => ?_⟩
  unfold splitF at p
  split at p
  · rename_i z s heq
    simp only [List.cons.injEq] at heq
    obtain ⟨rfl, rfl⟩ := heq
    cases r1
    cases r with
    | cons q r =>
    cases r; cases q
    split at p
    · rename_i hb
      exact ⟨z, s, rfl, rfl, hb.1, hb.2, fun n hn => p _ _ (upd F n _) al (ext_new (hw.fnone hn)) (hw.new hn) (.lst upd_same (strs_rp _))⟩
    · exact p.elim
  · exact p.elim
def strsL : List D → Option (List Str)
  | [] => some []
  | .str i :: r => (strsL r).map (i :: ·)
  | _ => none
theorem strs_of {K : PySem.W.Frag} {F : Hp} {al : List Addr} : ∀ {ds : List D} {vs : List V} {ns : List Str}, RpL K F al ds vs → strsL ds = some ns → vs = ns.map V.str
  | _, _, _, .nil, h => by cases h; rfl
  | _, _, _, .cons (d := d) (ds := ds) r q, h => by
    cases d with
    | str i =>
      unfold strsL at h
      cases e : strsL ds with
      | none => rw [e] at h; cases h
      | some ns =>
        rw [e] at h
        cases h
        cases r
        rw [strs_of q e]; rfl
    | _ => cases h
def joinF (ds : List D) (m : Mu) : Out D := match ds with
  | [.str s, d] => (match seqOf m d with
    | some xs => (match strsL xs with
      | some ys => if (ys.map (·.length)).sum + ys.length * s.length ≤ 16777216 then .ok (.str (Txt.join s ys)) m else .stuck
      | none => .stuck)
    | none => .stuck)
  | _ => .stuck
theorem m_join : MethD c "str.join" joinF := by
  refine ⟨fun x xs H Q => ∃ a p, ∃ ys : List Str, x = .str a ∧ xs = [.ref p] ∧ (SqL c.K H p (ys.map V.str) ∨ SqT c.K H p (ys.map V.str)) ∧ (ys.map (·.length)).sum + ys.length * a.length ≤ 16777216 ∧ Q (.str (Txt.join a ys)) H, fun W y hy => mt_join (X := c.cx y), fun W o ds m x vs H F al Q hw r1 r p => ?_⟩
  unfold joinF at p
  split at p
  · rename_i s d heq
    simp only [List.cons.injEq] at heq
    obtain ⟨rfl, rfl⟩ := heq
    cases r1
    cases r with
    | cons q r =>
    cases r
    split at p
    · rename_i xs hx
      obtain ⟨q', ws, rfl, sq, q⟩ := seqOf_ok hw q hx
      split at p
      · rename_i ys hi
        have ew := strs_of q hi
        subst ew
        split at p
        · rename_i hb
          exact ⟨s, q', ys, rfl, rfl, sq, hb, p _ H F al Le.refl hw (.str _)⟩
        · exact p.elim
      · exact p.elim
    · exact p.elim
  · exact p.elim
/-! ### (*a, b) -/
def xaStar (a : XE') (r : XA) : XA := fun ρ m => (a ρ m).bind fun x m1 => match seqOf m1 x with
  | some xs => (r ρ m1).bind fun ys m2 => .ok (xs ++ ys) m2
  | none => .stuck
/-- an argument list of any length -/
def DA' (c : SC) (W : WX) (es : List Expr) (f : XA) : Prop := ∃ t : TA, (∀ y, OkD c W y → PA (c.cx y) es t) ∧
  ∀ r m σ H F al Q, EnvOk c.K F al r σ → Wd c.K F al m H → Post c.K (RL c.K) (atS W σ) F al Q (f r m) → t σ H Q
theorem da_any (h : DA c W es fr) : DA' c W es fr := h.1
theorem da_cons' (ha : DE c W e fe) (hr : DA' c W es fr) (hs : ∀ env, starEach (e :: es) env = (false, eval e env) :: starEach es env := by intro _; rfl) : DA' c W (e :: es) (xaCons fe fr) := by
  obtain ⟨t, a1, a2⟩ := ha
  obtain ⟨u, b1, b2⟩ := hr
  refine ⟨tCons t u, fun y hy => pa_cons (a1 y hy) (b1 y hy) (hs _), fun ρ m σ H F al Q he hw p => ?_⟩
  refine a2 ρ m σ H F al _ he hw (Post.step p fun x m1 v H1 F1 al1 e1 w1 q1 p1 => ?_)
  refine b2 ρ m1 σ H1 F1 al1 _ (he.up e1) w1 (Post.step p1 fun xs m2 vs H2 F2 al2 e2 w2 q2 p2 => ?_)
  exact p2 _ H2 F2 al2 Le.refl w2 (.cons (q1.up e2) q2)
theorem de_tup' {k : Nat} (h : DA' c W es fr) : DE c W (.Tuple es k pos) (fun r m => (fr r m).bind fun ds m1 => if ds.length ≤ sizeLine then .ok (.tup ds) m1 else .stuck) := by
  obtain ⟨t, a1, a2⟩ := h
  refine ⟨tTup t, fun y hy => pe_tup (a1 y hy), fun ρ m σ H F al Q he hw p => ?_⟩
  refine a2 ρ m σ H F al _ he hw (Post.step p fun xs m1 vs H1 F1 al1 e1 w1 q1 p1 => ?_)
  split at p1
  · rename_i hn
    exact ⟨by rw [← q1.len]; exact hn, fun q hq => p1 _ _ (upd F1 q (.tup vs)) al1 (ext_new (w1.fnone hq)) (w1.new hq) (.tup (.of upd_same) (q1.up (ext_new (w1.fnone hq))))⟩
  · exact p1.elim
theorem de_lst' (h : DA' c W es fr) : DE c W (.List es pos) (fun r m => (fr r m).bind fun ds m1 => if ds.length ≤ sizeLine then .ok (.lst ds) m1 else .stuck) := by
  obtain ⟨t, a1, a2⟩ := h
  refine ⟨tLst t, fun y hy => pe_lst (a1 y hy), fun ρ m σ H F al Q he hw p => ?_⟩
  refine a2 ρ m σ H F al _ he hw (Post.step p fun xs m1 vs H1 F1 al1 e1 w1 q1 p1 => ?_)
  split at p1
  · rename_i hn
    exact ⟨by rw [← q1.len]; exact hn, fun q hq => p1 _ _ (upd F1 q (.lst vs)) al1 (ext_new (w1.fnone hq)) (w1.new hq) (.lst upd_same (q1.up (ext_new (w1.fnone hq))))⟩
  · exact p1.elim
theorem da_star {p2 : Pos} (ha : DE c W e fe) (hr : DA' c W es fr) : DA' c W (.Starred e p2 :: es) (xaStar fe fr) := by
  obtain ⟨t, a1, a2⟩ := ha
  obtain ⟨u, b1, b2⟩ := hr
  refine ⟨StX.tStar c.K t u, fun y hy => StX.pa_star (X := c.cx y) (a1 y hy) (b1 y hy), fun ρ m σ H F al Q he hw p => ?_⟩
  refine a2 ρ m σ H F al _ he hw (Post.step p fun x m1 v H1 F1 al1 e1 w1 q1 p1 => ?_)
  split at p1
  · rename_i xs hx
    obtain ⟨q', ws, rfl, sq, q⟩ := seqOf_ok w1 q1 hx
    refine ⟨q', ws, rfl, sq.symm, b2 ρ m1 σ H1 F1 al1 _ (he.up e1) w1 (Post.step p1 fun ys m2 vs H2 F2 al2 e2 w2 q2 p2 => ?_)⟩
    exact p2 _ H2 F2 al2 Le.refl w2 ((q.up e2).append q2)
  · exact p1.elim
end
end DS

namespace DS
open PySem PySem.Spec PyProof.Rows L2
/-! ### defs that are called where no repr runs: the law's own -/
structure FnG (b : Base) (k : Nat) (f : Addr) (fd : FuncData) (ps : List Str) (G : Fn) : Prop where
  run : ∀ (A : Around) (out : List Env) (s : Shared) (H : Hp) (ar : Args) (us : List Value) (vs : List V) (Q : VK) (E : XK), Room k A → A.guards = some [] → Env0 b.P b.w b.K b.mg b.base A out s H → BindsTo s fd ar (ps.zip us) → Vals vs us →
    spOf b.K ps.length G vs H Q E → codeAny (model b.P b.w) A (.call (.ref f) ar) (CR (L2.CX b.P b.w) out b.P b.w H s Q E) s
theorem FnG.of {b : Base} {k : Nat} {f : Addr} {fd : FuncData} {ps : List Str} {G : Fn} (h : b.Ok k f fd ps G) : FnG b k f fd ps G :=
  ⟨fun A out s H ar us vs Q E hr _ e0 hb r hs => h.run A out s H ar us vs Q E hr e0 hb r hs⟩
theorem FnG.mono {b : Base} {j k : Nat} {f : Addr} {fd : FuncData} {ps : List Str} {G : Fn} (h : FnG b j f fd ps G) (hk : j ≤ k) : FnG b k f fd ps G :=
  ⟨fun A out s H ar us vs Q E hr hg e0 hb r hs => h.run A out s H ar us vs Q E (hr.mono hk) hg e0 hb r hs⟩
theorem fnG_body {b : Base} {N ps : List Str} {sc : Scope} {k : Nat} {body : List Stmt} {g : XS} {keep : Bool} {E : XK} {Q : VK} {y : Dyn} {vs : List V} {H : Hp} (h : DSs (b.at N sc k true) (wOf E) body g) (hy : OkD (b.at N sc k true) (wOf E) y) (hsp : spOf b.K ps.length (fnOf N.length keep g) vs H Q E) :
    ∃ t, PSs ((b.at N sc k true).cx y) body t ∧ t { nx := fun _ H' => Q .non H', rt := Q } (L2.start N vs) H := by
  obtain ⟨t, h1, h2⟩ := h
  have q : DSs (b.at N sc k false) (wOf E) body g → True := fun _ => trivial
  obtain ⟨ds, m, F, al, hl, r, w, p⟩ := hsp
  refine ⟨t, h1 y hy, h2 (rho0 N.length ds) m (L2.start N vs) H F al _ (env0_ok r) w ?_⟩
  unfold fnOf at p
  cases q : g (rho0 N.length ds) m with
  | next r' m' =>
    rw [q] at p
    exact fun σ' H' F' al' e w' _ => p _ H' F' (al'.take m.length) (e.cut (Nat.le_of_eq w.len)) (w'.cut _) .non
  | ret d m' =>
    rw [q] at p
    intro v H' F' al' e w' rv
    cases keep with
    | true => exact p v H' F' al' e w' rv
    | false => exact exit_ok w' e w.len rv p
  | exc c fs r' m' =>
    rw [q] at p
    intro dd σ' H' F' al' gs e w' _ hg hd
    have p' : Post b.K (RD b.K) E F al Q (if D.inF m.length fs = true then .exc c fs (m'.take m.length) else .stuck) := p
    split at p'
    · rename_i hi
      exact p' dd H' F' (al'.take m.length) gs (e.cut (Nat.le_of_eq w.len)) (w'.cut _) (hg.cut hi) hd
    · exact p'.elim
  | brk _ _ => rw [q] at p; exact p.elim
  | cont _ _ => rw [q] at p; exact p.elim
  | stuck => rw [q] at p; exact p.elim
theorem fnG_ok {b : Base} {x qual : Str} {params : Arguments} {body : List Stmt} {scope : Scope} {dvs : List V} {kws : List (Str × V)} {f : Addr} {fd : FuncData} {N ps : List Str} {k : Nat} {g : XS} (keep : Bool) (D : FunD b.K x qual params body scope dvs kws f fd) (S : FnScope N ps scope)
    (h : ∀ E : XK, DSs (b.at N scope k true) (wOf E) body g) : FnG b (k + 1) f fd ps (fnOf N.length keep g) := by
  refine ⟨fun A out s H ar us vs Q E hr hgd e0 hb r hsp => ?_⟩
  have hl := RpL.lenV hsp
  obtain ⟨oc, od, dV, kV, doc, pm, an, cdv, ct, osl, rfl, lk, hcd, _, _⟩ := D.ex
  have kIn : b.K.In s.heap := e0.mod.kin.keeps fun z o q => (e0.bs z o q).1
  have noLim : s.heap.NoLimit := e0.mod.nolimit.keeps fun z o q => (e0.bs z o q).1
  refine codeAny_call_function hr.depth (kIn _ _ lk) rfl S.co S.gen rfl (PySem.W.codeRec_of kIn hcd) (hb _ _ _ _ ?_)
  refine wpAny_newFunctionEnv_cells S.kind (fun z hz => ?_) fun env he s1 hx => ?_
  · obtain ⟨n, u⟩ := z
    rcases S.par n (List.of_mem_zip hz).1 with q | q
    · exact .inl q
    · exact .inr ⟨q, PySem.W.cellsFrom_some _ _ _ (.inl q)⟩
  · subst he
    refine ⟨noLim.keeps hx.toInCall.keep, codeAny_func ?_⟩
    let y : Dyn := { A := A.deeper (envOfC qual scope s.heap.objs.size f cdv), s_0 := s, H_0 := H, env := envOfC qual scope s.heap.objs.size f cdv, outer := out, stack := envOfC qual scope s.heap.objs.size f cdv :: out, ex := [], fn := fun _ => true, pn := [], xe := (cxOf (L2.CX b.P b.w) b.P b.w b.K b.mg b.base N qual scope f cdv A out s H E).xe }
    have ht : Takes ((b.at N scope k true).cx y) (wOf E) := takes_of (X := (b.at N scope k true).cx y) (E := E) rfl rfl rfl rfl
    have hy : OkD (b.at N scope k true) (wOf E) y := ⟨rfl, L2H.roomH_of (hr.deeper _), fun _ => hr.hd, ht, fun _ _ => rfl, fun _ => hgd, passes_of (X := (b.at N scope k true).cx y) rfl, fun _ z => nomatch z⟩
    obtain ⟨t, t1, t2⟩ := fnG_body (h E) hy hsp
    have I : Inv (cxOf (L2.CX b.P b.w) b.P b.w b.K b.mg b.base N qual scope f cdv A out s H E) [] (L2.start N vs) H s1 := inv_start S hr.hd e0 hl r hx
    have t1' : PSs (cxOf (L2.CX b.P b.w) b.P b.w b.K b.mg b.base N qual scope f cdv A out s H E) body t := t1
    refine wpAny_mono (t1'.run [] s1 (L2.start N vs) H _ I t2) (fun fl s' hs => ?_) fun e s' hs => hs
    cases fl with
    | ret u =>
      obtain ⟨v, σ', H', J, rv, q⟩ := hs
      exact ⟨v, H', J.os, J.bare, J.base, J.hok, rv, q⟩
    | next =>
      obtain ⟨σ', H', J, q⟩ := hs
      exact ⟨V.non, H', J.os, J.bare, J.base, J.hok, rfl, q⟩
    | brk => obtain ⟨_, _, _, q⟩ := hs; exact q.elim
    | cont => obtain ⟨_, _, _, q⟩ := hs; exact q.elim
section
variable {c : SC} {W : WX} {pos : Pos} {a d e o : Expr} {fa fb fe fo : XE'} {ft : XT} {es : List Expr} {fr : XA} {x : Str} {p0 apos : Pos} {k : Nat} {f : Addr} {fd : FuncData} {ps : List Str} {G : Fn}
abbrev SC.toB (c : SC) : Base := ⟨c.P, c.w, c.K, c.mg, c.base⟩
theorem runG {X : Cx} {b : Base} {pins : List (Addr × Obj)} {σ : L2.St} {H : Hp} {s : Shared} {Q : VK} {E : XK} {us : List Value} {vs : List V} (e1 : X.prog = b.P) (e2 : X.w = b.w) (e3 : X.K = b.K) (e4 : X.mg = b.mg) (e5 : X.base = b.base) (hF : FnG b k f fd ps G) (hr : Room k X.A) (hg : X.A.guards = some []) (hb : Binds X.K fd ps [])
    (hx : PassesAt (L2.CX X.prog X.w) X σ E) (I : Inv X pins σ H s) (r : Vals vs us) (h : spOf X.K ps.length G vs H Q E) : wpAny (model X.prog X.w) X.A (call (.ref f) us) (EP X pins σ Q) X.xe s := by
  obtain ⟨P, w, K, mg, base⟩ := b
  simp only at e1 e2 e3 e4 e5
  subst e1 e2 e3 e4 e5
  have hl := RpL.lenV h
  have hl2 : (us ++ []).length = ps.length := by rw [List.append_nil, ← r.length]; exact hl
  have hb2 := hb s us I.kIn hl2
  rw [List.append_nil] at hb2
  refine wpAny_call (codeAny_mono (hF.run X.A X.stack s H ⟨us, []⟩ us vs Q E hr hg I.env0 hb2 r h) fun q s' hq => ?_)
  cases q with
  | error z => exact hx pins H s z s' I hq
  | ok fl =>
    cases fl with
    | ret u => exact I.after hq
    | next => exact False.elim hq
    | brk => exact False.elim hq
    | cont => exact False.elim hq
theorem de_callG (hF : FnG c.toB k f fd ps G) (hm : c.mg x = some (.ref f)) (hk : PySem.W.keepIn c.K (.ref f) = true) (hb : Binds c.K fd ps []) (ha : DA c W (e :: es) fr) (hgd : c.gd = true := by rfl) (hr : k ≤ c.k := by exact Nat.le_of_ble_eq_true rfl) (hcm : c.calm = true := by rfl) (hl : (e :: es).length = ps.length := by rfl) (hg : c.sc.names.lookup x = some .globalImplicit := by rfl)
    (hdb : (x == ("__debug__" : Str)) = false := by decide) (hs : ∀ env, starEach (e :: es) env = (false, eval e env) :: starEach es env := by intro _; rfl) (hpl : ∀ env, (backTo pos (starEach es env)).any (·.1) = false := by intro _; rfl) : DE c W (.Call (.Name x p0) (e :: es) [] pos) (xCall G fr) := by
  obtain ⟨⟨t, a1, a2⟩, hlen⟩ := ha
  refine ⟨fun σ H Q => t σ H fun vs H1 => spOf c.K ps.length G vs H1 Q (WE W σ), fun y hy => ⟨fun pins s σ H Q I h => ?_⟩, fun ρ m σ H F al Q he hw p => ?_⟩
  · refine wpAny_Call_Name_kw (ld_glob I (hy.gl hg) hm ?_ hdb)
    refine PySem.W.callWith_K (h₀ := c.base) I.ok.mod.kin hk (thn ((a1 y hy).run pos pins s σ H _ I h) fun us s1 ⟨vs, H1, I1, r, q⟩ => ⟨I1.kIn, ?_⟩) (hs _) (hpl _)
    exact runG (X := c.cx y) (b := c.toB) rfl rfl rfl rfl rfl hF (hy.rm hcm hr) (hy.gd hgd) hb (passAt hy.takes σ) I1 r q
  · refine a2 ρ m σ H F al _ he hw (Post.step (p.lenA fun ds m' e => hlen ρ m ds m' e) fun ds m1 vs H1 F1 al1 e1 w1 q1 p1 => ?_)
    split at p1
    · rename_i hn
      exact ⟨ds, m1, F1, al1, hn.trans hl, q1, w1, p1⟩
    · exact p1.elim
/-! ### repr -/
def reprF (ds : List D) (m : Mu) : Out D := match ds with
  | [d] => (match toP (dere m d) with
    | some p => if p.showable = true ∧ p.depth ≤ 60 ∧ p.hasDict = false ∧ p.shown.length ≤ sizeLine then .ok (.str p.shown) m else .stuck
    | none => .stuck)
  | _ => .stuck
theorem b_repr (hgd : c.gd = true) : CallD c (.builtin "repr") reprF := by
  refine ⟨fun vs H Q => ∃ v p, vs = [v] ∧ Dp c.K H v p ∧ p.showable = true ∧ p.depth ≤ 60 ∧ p.hasDict = false ∧ p.shown.length ≤ sizeLine ∧ Q (.str p.shown) H, fun W y hy => ?_, fun W ds m vs H F al Q hw r p => ?_⟩
  · rintro pins s σ H vs us Q I rv ⟨v, p, rfl, hd, h1, h2, h3, h4, q⟩
    obtain ⟨u, rfl, ru⟩ := vals1 rv
    obtain ⟨as, hr⟩ := Dp.reads I p v u hd ru
    have hu : y.A.units + 64 < cLine := hy.un64
    have fin : ∀ (h' : Heap) (tk tk' : Tok), (∀ b o, s.heap.get? b = some o → h'.get? b = some o) → EP (c.cx y) pins σ Q (.str p.shown tk) { s with heap := h', toks := tk' } := fun h' tk tk' hk => ⟨.str p.shown, H, I.kept (t' := tk') hk, ⟨_, rfl⟩, q⟩
    cases hd with
    | lst _ _ =>
      obtain rfl : u = Value.ref _ := ru
      exact repr_of_reads' hr h1 (PyData.noDict_hsm h3) (hy.gd hgd) (show y.A.units + _ < cLine by omega) (fun _ _ e => e) (fun h' t tk hk => fin h' t tk hk) h4
    | tup _ _ =>
      obtain rfl : u = Value.ref _ := ru
      exact repr_of_reads' hr h1 (PyData.noDict_hsm h3) (hy.gd hgd) (show y.A.units + _ < cLine by omega) (fun _ _ e => e) (fun h' t tk hk => fin h' t tk hk) h4
    | non =>
      obtain rfl : u = Value.none := ru
      exact PySem.P.repr_of_none (fin s.heap _ _ fun _ _ e => e)
    | bl b =>
      obtain rfl : u = Value.bool b := ru
      exact PySem.P.repr_of_bool (fin s.heap _ _ fun _ _ e => e)
    | int i =>
      obtain ⟨t, rfl⟩ := ru
      exact PySem.P.repr_of_int (by simpa [PyData.showable] using h1) (fin s.heap _ _ fun _ _ e => e)
    | str x =>
      obtain ⟨t, rfl⟩ := ru
      exact PySem.P.repr_of_str (fin s.heap _ _ fun _ _ e => e) h4
  · unfold reprF at p
    split at p
    · cases r with
      | cons q r =>
      cases r
      split at p
      · rename_i pd hp
        split at p
        · rename_i hb
          exact ⟨_, pd, rfl, dere_dp hw q hp, hb.1, hb.2.1, hb.2.2.1, hb.2.2.2, p _ H F al Le.refl hw (.str _)⟩
        · exact p.elim
      · exact p.elim
    · exact p.elim
end
end DS

namespace DS
open PySem PySem.Spec PyProof.Rows L2
section
variable {c : SC} {W : WX} {pos : Pos} {a b d e o : Expr} {fa fb fe fo : XE'} {ft : XT} {es : List Expr} {fr : XA} {x : Str} {p0 apos : Pos} {k : Nat} {f : Addr} {fd : FuncData} {ps : List Str} {G : Fn}
/-! ### isinstance -/
/-- what the written part must tell of classes (the laws' own list cs) -/
def tyNames : List String := ["NoneType", "bool", "int", "str", "tuple", "list"]
structure Isi (K : PySem.W.Frag) (cs : List Str) : Prop where
  cl : ∀ cn ∈ cs, Cls K (He.ga K cn) ∧ PySem.W.findIn K (.ref (He.ga K cn)) "__class__" = some (some (.builtin "object.__class__")) ∧ PySem.W.mroIn K (He.ga K cn) (.type "object") = some true
  gs : PySem.W.specialIn K (.builtin "object.__class__") "__get__" = some (some (.builtin "getset_descriptor.__get__"))
  tk : PySem.W.takesIn K (.builtin "object.__class__") = some true
  ot : ∀ cn ∈ cs, ∀ n ∈ tyNames, PySem.W.kitOne K (.ref (He.ga K cn)) (.type n) = some false
  to : ∀ n ∈ tyNames, ∀ cn ∈ cs, PySem.W.kitOne K (.type n) (.ref (He.ga K cn)) = some false
  oo : ∀ cn ∈ cs, ∀ cm ∈ cs, PySem.W.kitOne K (.ref (He.ga K cn)) (.ref (He.ga K cm)) = some (decide (cn = cm))
/-- the type of data: a built-in one, a class -/
def tyOf (m : Mu) (d : D) : Option (String ⊕ Str) := match d with
  | .non => some (.inl "NoneType")
  | .bl _ => some (.inl "bool")
  | .int _ => some (.inl "int")
  | .str _ => some (.inl "str")
  | .tup _ => some (.inl "tuple")
  | .lst _ => some (.inl "list")
  | d => match insOf m d with
    | some (c, _) => some (.inr c)
    | none => match ownOf m d with
      | some _ => some (.inl "list")
      | none => none
def tyVal (K : PySem.W.Frag) : String ⊕ Str → Value
  | .inl n => .type n
  | .inr c => .ref (He.ga K c)
theorem sqt_ty {K : PySem.W.Frag} {H : Hp} {q : Addr} {vs : List V} (s : SqT K H q vs) : TyX K H (.ref q) (.type "tuple") := by
  rcases s with (s | ⟨o, s⟩) | ⟨o, its, n, h1, h2, h3⟩
  · exact .base (.tup s)
  · exact .fTuple s
  · exact .kTuple h1 h2
theorem tyOf_ok {K : PySem.W.Frag} {cs : List Str} {F : Hp} {al : List Addr} {m : Mu} {H : Hp} {d : D} {v : V} {t : String ⊕ Str} (I : Isi K cs) (w : Wd K F al m H) (r : Rp K F al d v) (h : tyOf m d = some t) (hc : ∀ cn, t = .inr cn → cn ∈ cs) : TyX K H v (tyVal K t) := by
  have rest : (match insOf m d with
    | some (c, _) => some (.inr c)
    | none => match ownOf m d with
      | some _ => some (.inl "list")
      | none => (none : Option (String ⊕ Str))) = some t → TyX K H v (tyVal K t) := fun h => by
    split at h
    · rename_i cn gs hi
      cases h
      obtain ⟨q, dx, fs, rfl, h1, h2⟩ := insOf_ok w r hi
      obtain ⟨c1, c2, c3⟩ := I.cl cn (hc cn rfl)
      exact .base (.ins h1 c1 c2 I.gs I.tk c3)
    · split at h
      · rename_i xs hx
        cases h
        obtain ⟨q, vs, rfl, h1, h2⟩ := ownOf_ok w r hx
        exact .base (.lst h1)
      · cases h
  cases r with
  | non => cases h; exact .base .non
  | bl b => cases h; exact .base (.bl b)
  | int i => cases h; exact .base (.int i)
  | str x => cases h; exact .base (.str x)
  | tup s _ => cases h; exact sqt_ty (sqt_up w.sub s)
  | lst s _ => cases h; exact .base (.lst (w.sub _ _ s))
  | _ => exact rest h
def isiB (cs : List Str) (t : String ⊕ Str) (d : D) : Option Bool := match t, d with
  | .inl a, .ty b => L2.kitB a b
  | .inr a, .ty b => if a ∈ cs ∧ b ∈ tyNames then some false else none
  | .inl a, .glo b => if a ∈ tyNames ∧ b ∈ cs then some false else none
  | .inr a, .glo b => if a ∈ cs ∧ b ∈ cs then some (decide (a = b)) else none
  | _, _ => none
def isiF (cs : List Str) (ds : List D) (m : Mu) : Out D := match ds with
  | [d, e] => (match tyOf m d with
    | some t => (match isiB cs t e with
      | some b => .ok (.bl b) m
      | none => .stuck)
    | none => .stuck)
  | _ => .stuck
theorem b_isi {cs : List Str} (I : Isi c.K cs) : CallD c (.builtin "isinstance") (isiF cs) := by
  refine ⟨rIsi c.K, fun W y hy => call_isi (X := c.cx y), fun W ds m vs H F al Q hw r p => ?_⟩
  unfold isiF at p
  split at p
  · cases r with
    | cons q r =>
    cases r with
    | cons q' r =>
    cases r
    split at p
    · rename_i t ht
      split at p
      · rename_i b hb
        unfold isiB at hb
        split at hb
        · cases q'
          exact ⟨_, _, _, _, b, rfl, .ty _, tyOf_ok I hw q ht (fun _ z => nomatch z), L2.kit_ty hb, p _ H F al Le.refl hw (.bl _)⟩
        · cases q'
          split at hb
          · rename_i hi
            cases hb
            exact ⟨_, _, _, _, false, rfl, .ty _, tyOf_ok I hw q ht (fun _ z => by cases z; exact hi.1), I.ot _ hi.1 _ hi.2, p _ H F al Le.refl hw (.bl _)⟩
          · cases hb
        · cases q'
          split at hb
          · rename_i hi
            cases hb
            exact ⟨_, _, _, _, false, rfl, .own _, tyOf_ok I hw q ht (fun _ z => nomatch z), I.to _ hi.1 _ hi.2, p _ H F al Le.refl hw (.bl _)⟩
          · cases hb
        · cases q'
          split at hb
          · rename_i hi
            cases hb
            exact ⟨_, _, _, _, _, rfl, .own _, tyOf_ok I hw q ht (fun _ z => by cases z; exact hi.1), I.oo _ hi.1 _ hi.2, p _ H F al Le.refl hw (.bl _)⟩
          · cases hb
        · cases hb
      · exact p.elim
    · exact p.elim
  · exact p.elim
/-- a built-in type's name, an own class's -/
theorem de_ty {n : String} (hm : c.mg x = none) (hv : bootBuiltins x = some (.type n)) (hg : c.sc.names.lookup x = some .globalImplicit := by rfl) (hn : x ≠ "__name__" := by decide) (hd : (x == ("__debug__" : Str)) = false := by decide) : DE c W (.Name x pos) (xC (.ty n)) :=
  ⟨_, fun y hy => pe_bltn (v := .ty n) (hy.gl hg) hm hv rfl hn hd, fun _ _ _ H F al Q _ hw p => p _ H F al Le.refl hw (.ty n)⟩
theorem de_glo (hm : c.mg x = some (.ref (He.ga c.K x))) (hg : c.sc.names.lookup x = some .globalImplicit := by rfl) (hd : (x == ("__debug__" : Str)) = false := by decide) : DE c W (.Name x pos) (xC (.glo x)) :=
  ⟨_, fun y hy => pe_glob (v := .ref (He.ga c.K x)) (hy.gl hg) hm rfl hd, fun _ _ _ H F al Q _ hw p => p _ H F al Le.refl hw (.glo x)⟩
/-! ### C(e, ..) with defaults, with keywords -/
def xMakeD (cn : Str) (G : Fn) (frz : Bool) (dds : List D) (a : XA) : XE' := fun r m => (a r m).bind fun ds m1 => makeD cn G frz (ds ++ dds) m1
theorem de_makeD {cn : Str} {frz : Bool} {dvs : List V} (dds : List D) (hW : Plain W) (hF : FOk c k f fd ps G) (hM : Mk c.K (He.ga c.K cn) f) (hm : c.mg x = some (.ref (He.ga c.K cn))) (hb : ∃ ds, Vals dvs ds ∧ Binds c.K fd ps ds) (hd : ∀ F al, RpL c.K F al dds dvs) (ha : DA c W (e :: es) fr) (hr : k + 1 ≤ c.k := by exact Nat.le_of_ble_eq_true rfl) (hcm : c.calm = true := by rfl) (hl : (e :: es).length + dds.length + 1 = ps.length := by rfl) (hg : c.sc.names.lookup x = some .globalImplicit := by rfl)
    (hdb : (x == ("__debug__" : Str)) = false := by decide) (hs : ∀ env, starEach (e :: es) env = (false, eval e env) :: starEach es env := by intro _; rfl) (hpl : ∀ env, (backTo pos (starEach es env)).any (·.1) = false := by intro _; rfl) : DE c W (.Call (.Name x p0) (e :: es) [] pos) (xMakeD cn G frz dds fr) := by
  obtain ⟨⟨t, a1, a2⟩, hlen⟩ := ha
  obtain ⟨dsv, hv, hb⟩ := hb
  refine ⟨tMake (He.ga c.K cn) (spOf c.K ps.length G) dvs (allS W) t, fun y hy => pe_make (X := c.cx y) hM hF (hy.rm hcm hr) (hy.gl hg) hm hb hv hy.passes (a1 y hy) hdb (hs _) (hpl _), fun ρ m σ H F al Q he hw p => ?_⟩
  refine a2 ρ m σ H F al _ he hw (Post.step (p.lenA fun ds m' e => hlen ρ m ds m' e) fun ds m1 vs H1 F1 al1 e1 w1 q1 p1 => ?_)
  split at p1
  · rename_i hn
    exact fun x dx hx hdx hne => make_ok (by rw [List.length_append, hn]; exact hl) w1 (q1.append (hd F1 al1)) (hW.post p1) x dx hx hdx hne
  · exact p1.elim
def DK (c : SC) (W : WX) (kws : List Keyword) (f : XA) : Prop := (∃ t : TA, (∀ y, OkD c W y → PK (c.cx y) kws t) ∧
  ∀ r m σ H F al Q, EnvOk c.K F al r σ → Wd c.K F al m H → Post c.K (RL c.K) (atS W σ) F al Q (f r m) → t σ H Q) ∧ ∀ r m ds m', f r m = .ok ds m' → ds.length = kws.length
theorem dk_nil : DK c W [] xaNil := ⟨⟨tNil, fun _ _ => pk_nil, fun _ _ _ H F al Q _ hw p => p [] H F al Le.refl hw .nil⟩, fun r m ds m' h => by cases h; rfl⟩
theorem xaCons_len {n : Nat} (hl : ∀ r m ds m', fr r m = .ok ds m' → ds.length = n) : ∀ r m ds m', xaCons fe fr r m = .ok ds m' → ds.length = n + 1 := fun r m ds m' h => by
  unfold xaCons at h
  cases h1 : fe r m with
  | ok x m1 =>
    rw [h1] at h
    have h' : Out.bind (fr r m1) (fun xs m2 => .ok (x :: xs) m2) = .ok ds m' := h
    cases h2 : fr r m1 with
    | ok xs m2 =>
      rw [h2] at h'
      cases h'
      rw [List.length_cons, hl _ _ _ _ h2]
    | exc _ _ _ => rw [h2] at h'; cases h'
    | stuck => rw [h2] at h'; cases h'
  | exc _ _ _ => rw [h1] at h; cases h
  | stuck => rw [h1] at h; cases h
theorem dk_cons {nm : Option Str} {kpos : Pos} {kws : List Keyword} (ha : DE c W e fe) (hr : DK c W kws fr) : DK c W (⟨nm, e, kpos⟩ :: kws) (xaCons fe fr) := by
  obtain ⟨t, a1, a2⟩ := ha
  obtain ⟨⟨u, b1, b2⟩, hl⟩ := hr
  refine ⟨⟨tCons t u, fun y hy => pk_cons (a1 y hy) (b1 y hy), fun ρ m σ H F al Q he hw p => ?_⟩, xaCons_len hl⟩
  refine a2 ρ m σ H F al _ he hw (Post.step p fun x m1 v H1 F1 al1 e1 w1 q1 p1 => ?_)
  refine b2 ρ m1 σ H1 F1 al1 _ (he.up e1) w1 (Post.step p1 fun xs m2 vs H2 F2 al2 e2 w2 q2 p2 => ?_)
  exact p2 _ H2 F2 al2 Le.refl w2 (.cons (q1.up e2) q2)
/-- C(e, .., k = v): the values between stand by their defaults -/
def xMakeK (cn : Str) (G : Fn) (frz : Bool) (mid : List D) (a b : XA) : XE' := fun r m => (a r m).bind fun ds m1 => (b r m1).bind fun zs m2 => makeD cn G frz (ds ++ (mid ++ zs)) m2
theorem de_makeK {cn : Str} {frz : Bool} {n : Nat} {ks : List Str} {g : List Value → List Value → List Value} {gV : List V → List V → List V} {midV : List V} {kws : List Keyword} {fk : XA} (mid : List D) (hW : Plain W) (hF : FOk c k f fd ps G) (hM : Mk c.K (He.ga c.K cn) f) (hm : c.mg x = some (.ref (He.ga c.K cn))) (hb : KBn c.K fd ps (n + 1) ks g gV) (hgV : ∀ x vs zs, gV (x :: vs) zs = x :: (vs ++ (midV ++ zs))) (hmid : ∀ F al, RpL c.K F al mid midV) (ha : DA c W (e :: es) fr) (hkw : DK c W kws fk)
    (hr : k + 1 ≤ c.k := by exact Nat.le_of_ble_eq_true rfl) (hcm : c.calm = true := by rfl) (hn : (e :: es).length = n := by rfl) (hl : n + (mid.length + kws.length) + 1 = ps.length := by rfl) (hg : c.sc.names.lookup x = some .globalImplicit := by rfl)
    (hall : ∀ env, (backToKw pos (keywordEach kws env)).all (·.1.isSome) = true := by intro _; rfl) (hks : ∀ env, (backToKw pos (keywordEach kws env)).filterMap (·.1) = ks := by intro _; rfl) (hkl : kws.length = ks.length := by rfl)
    (hdb : (x == ("__debug__" : Str)) = false := by decide) (hs : ∀ env, starEach (e :: es) env = (false, eval e env) :: starEach es env := by intro _; rfl) (hpl : ∀ env, ((backTo pos (starEach (e :: es) env)).any (·.1) || (backToKw pos (keywordEach kws env)).any (·.1.isNone)) = false := by intro _; rfl) : DE c W (.Call (.Name x p0) (e :: es) kws pos) (xMakeK cn G frz mid fr fk) := by
  obtain ⟨⟨t, a1, a2⟩, hlen⟩ := ha
  obtain ⟨⟨tk, k1, k2⟩, hlenk⟩ := hkw
  refine ⟨tMakeN (He.ga c.K cn) n ks.length (spOf c.K ps.length G) gV (allS W) t tk, fun y hy => pe_makeN (X := c.cx y) hM hF (hy.rm hcm hr) (hy.gl hg) hm hb hy.passes (a1 y hy) (k1 y hy) (hall _) (hks _) hdb (hs _) (hpl _), fun ρ m σ H F al Q he hw p => ?_⟩
  refine a2 ρ m σ H F al _ he hw (Post.step (p.lenA fun ds m' e => hlen ρ m ds m' e) fun ds m1 vs H1 F1 al1 e1 w1 q1 p1 => ?_)
  split at p1
  · rename_i hn1
    refine k2 ρ m1 σ H1 F1 al1 _ (he.up e1) w1 (Post.step (p1.lenA fun ds m' e => hlenk ρ m1 ds m' e) fun zs m2 ws H2 F2 al2 e2 w2 q2 p2 => ?_)
    split at p2
    · rename_i hn2
      refine ⟨by rw [← q1.len, hn1]; exact hn, by rw [← q2.len, hn2]; exact hkl, fun x dx hx hdx hne => ?_⟩
      rw [hgV]
      exact make_ok (by rw [List.length_append, List.length_append, hn1, hn2, hn]; exact hl) w2 ((q1.up e2).append ((hmid F2 al2).append q2)) (hW.post p2) x dx hx hdx hne
    · exact p2.elim
  · exact p1.elim
/-- f(k = v, ..) -/
def xCallK (G : Fn) (sh : List D → List D) (b : XA) : XE' := fun r m => (b r m).bind fun zs m2 => G (sh zs) m2
theorem de_callK {ks : List Str} {g : List Value → List Value → List Value} {gV : List V → List V → List V} {kws : List Keyword} {fk : XA} (sh : List D → List D) (hF : FOk c k f fd ps G) (hm : c.mg x = some (.ref f)) (hk : PySem.W.keepIn c.K (.ref f) = true) (hb : KBn c.K fd ps 0 ks g gV) (hW : Plain W) (hsh : ∀ F al zs ws, zs.length = kws.length → RpL c.K F al zs ws → RpL c.K F al (sh zs) (gV [] ws)) (hl : ∀ zs : List D, zs.length = kws.length → (sh zs).length = ps.length) (hkw : DK c W kws fk)
    (hr : k ≤ c.k := by exact Nat.le_of_ble_eq_true rfl) (hcm : c.calm = true := by rfl) (hg : c.sc.names.lookup x = some .globalImplicit := by rfl)
    (hall : ∀ env, (backToKw pos (keywordEach kws env)).all (·.1.isSome) = true := by intro _; rfl) (hks : ∀ env, (backToKw pos (keywordEach kws env)).filterMap (·.1) = ks := by intro _; rfl) (hkl : kws.length = ks.length := by rfl)
    (hdb : (x == ("__debug__" : Str)) = false := by decide) (hpl : ∀ env, ((backTo pos (starEach [] env)).any (·.1) || (backToKw pos (keywordEach kws env)).any (·.1.isNone)) = false := by intro _; rfl) : DE c W (.Call (.Name x p0) [] kws pos) (xCallK G sh fk) := by
  obtain ⟨⟨tk, k1, k2⟩, hlenk⟩ := hkw
  refine ⟨fun σ H Q => tk σ H fun zs H1 => zs.length = ks.length ∧ spOf c.K ps.length G (gV [] zs) H1 Q (allS W), fun y hy => ⟨fun pins s σ H Q I h => ?_⟩, fun ρ m σ H F al Q he hw p => ?_⟩
  · refine wpAny_Call_Name_kw (ld_glob I (hy.gl hg) hm ?_ hdb)
    refine PySem.W.callWith_KW0 (h₀ := c.base) I.ok.mod.kin hk (hall _) ?_ (hpl _)
    refine thn ((k1 y hy).run pos pins s σ H _ I h) fun ws s2 ⟨zs, H2, I2, rz, lz, q2⟩ => ⟨I2.kIn, ?_⟩
    rw [hks]
    exact run_fnN (X := c.cx y) (us := []) (vs := []) hF (hy.rm hcm hr) hb hy.passes I2 .nil rz rfl lz q2
  · refine k2 ρ m σ H F al _ he hw (Post.step (p.lenA fun ds m' e => hlenk ρ m ds m' e) fun zs m2 ws H2 F2 al2 e2 w2 q2 p2 => ?_)
    split at p2
    · rename_i hn
      exact ⟨by rw [← q2.len, hn]; exact hkl, sh zs, m2, F2, al2, hl zs hn, hsh F2 al2 zs ws hn q2, w2, hW.post p2⟩
    · exact p2.elim
/-! ### dicts with text keys: {k: v for ..}, d[k] -/
def getF (f : Str) (gs : List (Str × D)) : Option D := gs.lookup f
def dgetD (d e : D) (m : Mu) : Out D := match d, e with
  | .dct gs, .str f => (match gs.lookup f with
    | some v => .ok v m
    | none => .stuck)
  | _, _ => .stuck
theorem valV_look {fs : List (Str × V)} {f : Str} {v : V} (h : fs.lookup f = some v) : valV (fs.map fun p => ((Sum.inr p.1 : Key), p.2)) (Sum.inr f) = some v := by
  induction fs with
  | nil => cases h
  | cons p r ih =>
    obtain ⟨g, w⟩ := p
    unfold valV at ih ⊢
    rw [List.lookup_cons] at h
    simp only [List.map_cons, List.find?_cons]
    by_cases e : f = g
    · subst e
      simp at h
      simp [h]
    · have e1 : (f == g) = false := by simpa using e
      rw [e1] at h
      have e2 : decide ((Sum.inr g : Key) = Sum.inr f) = false := decide_eq_false fun z => e (Sum.inr.inj z).symm
      rw [e2]
      exact ih h
theorem de_dget (ha : DE c W a fa) (hb : DE c W b fb) (hs : NoSl b := by exact fun _ _ => rfl) : DE c W (.Subscript a b pos) (xOp dgetD fa fb) := by
  obtain ⟨t, a1, a2⟩ := ha
  obtain ⟨u, b1, b2⟩ := hb
  refine ⟨tDGet t u, fun y hy => pe_dget (X := c.cx y) (show y.A.units + 1 < cLine by have := hy.un64; omega) (a1 y hy) (b1 y hy) hs, fun ρ m σ H F al Q he hw p => ?_⟩
  refine a2 ρ m σ H F al _ he hw (Post.step p fun z m1 v H1 F1 al1 e1 w1 q1 p1 => b2 ρ m1 σ H1 F1 al1 _ (he.up e1) w1 (Post.step p1 fun z' m2 v' H2 F2 al2 e2 w2 q2 p2 => ?_))
  have q1' := q1.up e2
  clear q1
  unfold dgetD at p2
  split at p2
  · rename_i gs f
    cases q2
    cases q1' with
    | @dct q fs _ s r =>
    split at p2
    · rename_i dv hv
      obtain ⟨u', h3, h4⟩ := (r.look (x := f)).2 dv hv
      exact ⟨q, u', rfl, .inl ⟨_, Sum.inr f, .inl (w2.sub _ _ s), rfl, (valV_look h3).symm⟩, p2 _ H2 F2 al2 Le.refl w2 h4⟩
    · exact p2.elim
  · exact p2.elim
def dputD (n : Nat) (k d : D) (m : Mu) : Out Unit := match m[n]?, k with
  | some (.dct gs), .str f => if d.inB n = true ∧ gs.length < 1000 ∧ gs.lookup f = none then .ok () (m.set n (.dct (gs ++ [(f, d)]))) else .stuck
  | _, _ => .stuck
def dcF (g : XG) (tk te : XE') (n : Nat) (r0 : Rho) : List D → Mu → Out Unit
  | [], m => .ok () m
  | x :: xs, m => (g x r0 m).ne.bind fun r1 m1 => (tk r1 m1).ne.bind fun k m2 => (te r1 m2).ne.bind fun d m3 => (dputD n k d m3).bind fun _ m4 => dcF g tk te n r0 xs m4
def dcEnd (n : Nat) (m : Mu) : Out D := match m[n]? with
  | some (.dct gs) => .ok (.dct gs) (m.take n)
  | _ => .stuck
def xDc (f : XA) (vs : List Nat) (g : XG) (tk te : XE') : XE' := fun r m => (f r m).bind fun xs m1 => (dcF g tk te m1.length (wipeR r vs) xs (m1 ++ [.dct []])).bind fun _ m2 => dcEnd m1.length m2
theorem wipe_twice (ws : List Nat) (σ : L2.St) : L2.wipe (L2.wipe σ ws) ws = L2.wipe σ ws := by
  apply List.ext_getElem?
  intro n
  have hl : ∀ (us : List Nat) (τ : L2.St), n ∈ us → n < τ.length → (L2.wipe τ us)[n]? = some none := fun us => by
    induction us with
    | nil => intro τ h _; simp at h
    | cons u us ih =>
      intro τ h hn
      unfold L2.wipe
      by_cases hu : n = u
      · subst hu
        rw [List.getElem?_set_self (by rw [wipe_length]; exact hn)]
      · rw [List.getElem?_set_ne (Ne.symm hu)]
        exact ih τ ((List.mem_cons.mp h).resolve_left hu) hn
  have hr : ∀ (us : List Nat) (τ : L2.St), n ∉ us → (L2.wipe τ us)[n]? = τ[n]? := fun us => by
    induction us with
    | nil => intro τ _; rfl
    | cons u us ih =>
      intro τ h
      unfold L2.wipe
      rw [List.getElem?_set_ne (fun z => h (by simp [z]))]
      exact ih τ fun z => h (by simp [z])
  by_cases hn : n ∈ ws
  · by_cases hlen : n < σ.length
    · rw [hl ws _ hn (by rw [wipe_length]; exact hlen), hl ws _ hn hlen]
    · rw [List.getElem?_eq_none_iff.mpr (by rw [wipe_length, wipe_length]; omega), List.getElem?_eq_none_iff.mpr (by rw [wipe_length]; omega)]
  · rw [hr ws _ hn]
theorem any_none {fs : List (Str × V)} {f : Str} (h : fs.lookup f = none) : (((fs.map fun p => ((Sum.inr p.1 : Key), p.2))).any fun kv => decide (kv.1 = Sum.inr f)) = false := by
  induction fs with
  | nil => rfl
  | cons p r ih =>
    obtain ⟨g, w⟩ := p
    rw [List.lookup_cons] at h
    by_cases e : f = g
    · subst e; simp at h
    · have e1 : (f == g) = false := by simpa using e
      rw [e1] at h
      have e2 : decide ((Sum.inr g : Key) = Sum.inr f) = false := decide_eq_false fun z => e (Sum.inr.inj z).symm
      rw [List.map_cons, List.any_cons, e2]
      exact ih h
theorem RpF.snoc {K : PySem.W.Frag} {F : Hp} {al : List Addr} {f : Str} {q : D} {w : V} (h : Rp K F al q w) : ∀ {gs : List (Str × D)} {fs : List (Str × V)}, RpF K F al gs fs → RpF K F al (gs ++ [(f, q)]) (fs ++ [(f, w)])
  | _, _, .nil => .cons h .nil
  | _, _, .cons r t => .cons r (RpF.snoc h t)
theorem inF_append {n : Nat} : ∀ {xs ys : List (Str × D)}, D.inF n xs = true → D.inF n ys = true → D.inF n (xs ++ ys) = true
  | [], _, _, h => h
  | (_, x) :: r, _, h, h' => by
    rw [D.inF, Bool.and_eq_true] at h
    show D.inF n ((_, x) :: (r ++ _)) = true
    rw [D.inF, h.1, inF_append h.2 h']; rfl
theorem de_dc {kx vx tg it : Expr} {scope : Scope} (own : List (Str × Nat)) {fi : XA} {gt : XG} {tk te : XE'} (hN : c.N.Nodup) (ok : blkC c.N c.sc scope own = true) (hi : DI c W tg it fi) (hg : DG (c.blk scope) noW (own.map (·.2)) tg gt) (hk : DE (c.blk scope) noW kx tk) (he : DE (c.blk scope) noW vx te)
    (hs : ∀ env x, foldedSetIterable it env x = pure x := by intro _ _; rfl) (hcm : c.calm = true := by rfl) : DE c W (.DictComp kx vx [⟨tg, it, [], 0⟩] scope pos) (xDc fi (own.map (·.2)) gt tk te) := by
  obtain ⟨wi, i1, i2⟩ := hi
  obtain ⟨tg', g1, g2⟩ := hg
  obtain ⟨t2, k1, k2⟩ := hk
  obtain ⟨t3, e1, e2⟩ := he
  refine ⟨tDc wi tg' tYes t2 t3 (own.map (·.2)), fun y hy => pe_dc (X := c.cx y) hcm hN (i1 y hy) (by
      have z : (c.cx y).env.scope = c.sc := hy.scope
      rw [z]; exact blkOk_by ok) (fun s H C cl fp => g1 _ (hy.blk s H scope C cl fp)) (fun s H C cl fp => pts_nil) (fun s H C cl fp => k1 _ (hy.blk s H scope C cl fp)) (fun s H C cl fp => e1 _ (hy.blk s H scope C cl fp)) (hs _), fun r m σ H F al Q he hw p => ?_⟩
  refine i2 r m σ H F al _ he hw (Post.step p fun xs m1 J H1 F1 al1 e3 w1 q1 p1 => ?_)
  have he1 := he.up e3
  intro D' hD
  have hlast : (al1 ++ [D'])[m1.length]? = some D' := by rw [← w1.len, List.getElem?_append_right (Nat.le_refl _), Nat.sub_self]; rfl
  have w0 : Wd c.K F1 (al1 ++ [D']) (m1 ++ [.dct []]) (upd H1 D' (.dK [])) := w1.newCell hD ⟨w1.fnone hD, [], upd_same, .nil⟩ rfl
  refine ⟨fun i k H' => ∃ m' F' al', k = xs.length - i ∧ i ≤ xs.length ∧ Le F1 (al1 ++ [D']) F' al' ∧ Wd c.K F' al' m' H' ∧ Post c.K (RD c.K) (atS W σ) F1 al1 Q ((dcF gt tk te m1.length (wipeR r (own.map (·.2))) (xs.drop i) m').bind fun _ m2 => dcEnd m1.length m2),
    ⟨xs.length, _, F1, al1 ++ [D'], rfl, Nat.zero_le _, Le.refl, w0, p1⟩, ?_⟩
  rintro i k H' ⟨m', F', al', rfl, hi, e', w', p'⟩
  have e1' : Le F1 al1 F' al' := Le.snoc.trans e'
  by_cases hlt : i < xs.length
  · have hd : xs[i]? = some xs[i] := List.getElem?_eq_getElem hlt
    obtain ⟨hgo, hyl⟩ := q1.go H' F' al' m' i xs[i] e1' w' hd
    refine .inr ⟨hgo, fun H2 => ∃ m2 F2 al2, Le F1 (al1 ++ [D']) F2 al2 ∧ Wd c.K F2 al2 m2 H2 ∧ Post c.K (RD c.K) (atS W σ) F1 al1 Q ((dcF gt tk te m1.length (wipeR r (own.map (·.2))) (xs.drop (i + 1)) m2).bind fun _ m2 => dcEnd m1.length m2), fun H2 ⟨m2, F2, al2, z1, z2, z3⟩ => ⟨xs.length - (i + 1), by omega, m2, F2, al2, rfl, hlt, z1, z2, z3⟩, fun x H2 hy => ?_⟩
    obtain ⟨F2, e2', w2, q2⟩ := hyl x H2 hy
    rw [List.drop_eq_getElem_cons hlt, dcF] at p'
    have he2 : EnvOk c.K F2 al' (wipeR r (own.map (·.2))) (wipe σ (own.map (·.2))) := ((he1.up e1').up e2').wipe _
    refine g2 xs[i] x _ m' _ H2 F2 al' _ he2 w2 q2 (Post.stepN p'.assoc fun r3 m3 σ3 H3 F3 al3 e3' w3 q3 p3 => ?_)
    refine ⟨q3.2.trans (wipe_twice _ _), ?_⟩
    show t2 σ3 H3 _
    refine k2 r3 m3 σ3 H3 F3 al3 _ q3.1 w3 (Post.stepN p3.assoc fun kd m4 ky H4 F4 al4 e4 w4 q4 p4 => ?_)
    refine e2 r3 m4 σ3 H4 F4 al4 _ (q3.1.up e4) w4 (Post.stepN p4.assoc fun q m5 y H5 F5 al5 e5 w5 q5 p5 => ?_)
    have up5 : Le F1 (al1 ++ [D']) F5 al5 := (((e'.trans e2').trans e3').trans e4).trans e5
    have hx5 : al5[m1.length]? = some D' := up5.a _ _ hlast
    have q4' := q4.up e5
    unfold dputD at p5
    cases hc : m5[m1.length]? with
    | none => rw [hc] at p5; exact p5.elim
    | some cl =>
      cases cl with
      | ins _ _ => rw [hc] at p5; exact p5.elim
      | lst _ => rw [hc] at p5; exact p5.elim
      | dead => rw [hc] at p5; exact p5.elim
      | dct gs =>
        rw [hc] at p5
        cases q4' with
        | str f =>
          simp only at p5
          obtain ⟨hf, fs, h4, h5⟩ := w5.cell _ _ _ hx5 hc
          by_cases hb : q.inB m1.length = true ∧ gs.length < 1000 ∧ gs.lookup f = none
          · rw [if_pos hb] at p5
            have hgn : D.inF m1.length gs = true := w5.gen _ _ hc
            have hno : fs.lookup f = none := (h5.look (x := f)).1 hb.2.2
            refine ⟨_, Sum.inr f, rfl, h4, ?_, _, F5, al5, up5, w5.write (c := .dct (gs ++ [(f, q)])) hx5 hf ⟨hf, fs ++ [(f, y)], ?_, RpF.snoc q5 h5⟩ (inF_append hgn (by rw [D.inF, hb.1, D.inF]; rfl)), p5⟩
            · rw [List.length_map, ← h5.len]
              exact Nat.lt_of_lt_of_le hb.2.1 (small_line (by decide))
            · rw [upd_same]
              unfold putK
              rw [any_none hno, if_neg (by simp), List.map_append]
              rfl
          · rw [if_neg hb] at p5; exact p5.elim
        | _ => exact p5.elim
  · have ei : i = xs.length := by omega
    subst ei
    rw [List.drop_length, dcF] at p'
    refine .inl ⟨q1.stop H' F' al' m' _ e1' w' (Nat.le_refl _), ?_⟩
    have hx2 : al'[m1.length]? = some D' := e'.a _ _ hlast
    have p' : Post c.K (RD c.K) (atS W σ) F1 al1 Q (dcEnd m1.length m') := p'
    unfold dcEnd at p'
    split at p'
    · rename_i gs hc
      obtain ⟨hf, fs, h4, h5⟩ := w'.cell _ _ _ hx2 hc
      have hgn : D.inF m1.length gs = true := w'.gen _ _ hc
      exact p' _ H' (upd F' D' _) (al'.take m1.length) ((e1'.trans (ext_new hf)).cut (Nat.le_of_eq w1.len)) (w'.frz hx2 h4 hf (Nat.le_refl _)) (.dct upd_same ((h5.cut hgn).up (ext_new hf)))
    · exact p'.elim
/-! ### small things -/
def xNeg (a : XE') : XE' := fun r m => (a r m).bind fun d m1 => match d with
  | .int i => .ok (.int (-i)) m1
  | _ => .stuck
theorem de_neg (ha : DE c W a fa) : DE c W (.UnaryOp .USub a pos) (xNeg fa) := by
  obtain ⟨t, a1, a2⟩ := ha
  refine ⟨_, fun y hy => pe_un un_neg (a1 y hy), fun ρ m σ H F al Q he hw p => ?_⟩
  refine a2 ρ m σ H F al _ he hw (Post.step p fun d m1 v H1 F1 al1 e1 w1 q1 p1 => ?_)
  cases q1 with
  | int i => exact ⟨i, rfl, p1 _ H1 F1 al1 Le.refl w1 (.int _)⟩
  | _ => exact p1.elim
theorem Plain_no : Plain noW := fun _ _ _ _ _ h => h
theorem non_rp {K : PySem.W.Frag} {F : Hp} {al : List Addr} : ∀ n : Nat, RpL K F al (List.replicate n .non) (List.replicate n V.non)
  | 0 => .nil
  | n + 1 => .cons .non (non_rp n)
def xTupS (fr : XA) : XE' := fun r m => (fr r m).bind fun ds m1 => if ds.length ≤ sizeLine then .ok (.tup ds) m1 else .stuck
def xLstS (fr : XA) : XE' := fun r m => (fr r m).bind fun ds m1 => if ds.length ≤ sizeLine then .ok (.lst ds) m1 else .stuck
def sCont : XS := fun r m => .cont r m
theorem kbn_of {K : PySem.W.Frag} {x qual : Str} {params : Arguments} {body : List Stmt} {scope : Scope} {f : Addr} {fd : FuncData} {ps ks : List Str} (sh : {α : Type} → List α → List α) (F : FunD K x qual params body scope [] [] f fd)
    (h : ∀ (kV doc pm : Value) (an : Option Addr) (cdv ct : Value) (ws : List Value), ws.length = ks.length → bindArgs (PySem.W.fnOf x qual params body scope .none kV doc pm an cdv ct) ⟨[], ks.zip ws⟩ = pure (ps.zip (sh ws))) (hrel : ∀ {zs : List V} {ws : List Value}, Vals zs ws → Vals (sh zs) (sh ws)) : KBn K fd ps 0 ks (fun _ ws => sh ws) (fun _ zs => sh zs) := by
  obtain ⟨oc, od, dV, kV, doc, pm, an, cdv, ct, osl, rfl, lk, hcd, hD, hK⟩ := F.ex
  rcases hD with ⟨_, rfl⟩ | ⟨e, _⟩
  · refine ⟨fun s us ws _ l1 l2 => ?_, fun _ r => hrel r⟩
    have hu : us = [] := List.length_eq_zero_iff.mp l1
    subst hu
    exact .of_eq (h kV doc pm an cdv ct ws l2)
  · exact absurd rfl e
end
end DS

namespace DS
open PySem PySem.Spec PyProof.Rows L2
/-! ### the written part: facts by names -/
/-- a property's record, its getter -/
def prA (K : PySem.W.Frag) (cn m : Str) : Addr := He.ma K (He.ga K cn) m
def gtA (K : PySem.W.Frag) (cn m : Str) : Addr := match PySem.W.recIn K (prA K cn m) "property" with
  | some (.ref g :: _) => g
  | _ => 0
/-- a getter: class, name, and the def -/
structure PrD where
  cn : Str
  m : Str
  qual : Str
  params : Arguments
  body : List Stmt
  scope : Scope
def fnAt (K : PySem.W.Frag) (a : Addr) : He.FnW := match K.lookup a with
  | some ⟨_, _, .func fd, _⟩ => some (fd.name, fd.qualname, fd.params, fd.body, fd.scope, fd.globals, fd.closure, fd.builtins)
  | _ => none
def PrD.val (d : PrD) : He.FnW := some (d.m, d.qual, d.params, .stmts d.body, d.scope, mainGlobals, [], builtinsNs)
def PrD.ok (K : PySem.W.Frag) (d : PrD) : Bool := (PySem.W.keepIn K (.ref (gtA K d.cn d.m)) && (match K.lookup (gtA K d.cn d.m) with
  | some ⟨_, _, .func fd, _⟩ => PySem.W.codeIn K fd.code d.qual && (He.dflB K fd.defaults [] && He.kwdB K fd.kwdefaults [])
  | _ => false)) && (He.eqO (PySem.W.findIn K (.ref (He.ga K d.cn)) d.m) (some (some (.ref (prA K d.cn d.m)))) && (He.eqO (PySem.W.specialIn K (.ref (prA K d.cn d.m)) "__get__") (some (some (.builtin "property.__get__"))) && (decide (PySem.W.takesIn K (.ref (prA K d.cn d.m)) = some true) &&
    (match PySem.W.recIn K (prA K d.cn d.m) "property" with
      | some (.ref _ :: _) => true
      | _ => false))))
theorem PrD.prop {K : PySem.W.Frag} {d : PrD} (c : d.ok K = true) : PropOf K (He.ga K d.cn) d.m (prA K d.cn d.m) (gtA K d.cn d.m) := by
  obtain ⟨_, c⟩ := He.ba c
  obtain ⟨c1, c⟩ := He.ba c
  obtain ⟨c2, c⟩ := He.ba c
  obtain ⟨c3, c4⟩ := He.ba c
  refine ⟨He.eqO_ok c1, He.eqO_ok c2, of_decide_eq_true c3, ?_⟩
  unfold gtA
  split at c4
  · rename_i g r e
    rw [e]
    exact ⟨r, rfl⟩
  · cases c4
theorem PrD.funD {K : PySem.W.Frag} {d : PrD} (e : fnAt K (gtA K d.cn d.m) = d.val) (c : d.ok K = true) : ∃ fd, FunD K d.m d.qual d.params d.body d.scope [] [] (gtA K d.cn d.m) fd := by
  obtain ⟨c0, _⟩ := He.ba c
  obtain ⟨kp, c2⟩ := He.ba c0
  unfold fnAt at e
  cases q : K.lookup (gtA K d.cn d.m) with
  | none => rw [q] at c2; cases c2
  | some o =>
    obtain ⟨oc, od, dt, osl⟩ := o
    rw [q] at c2 e
    cases dt with
    | func fd =>
      obtain ⟨n1, n2, n3, n4, n5, n6, n7, n8, n9, n10, n11, n12, n13, n14, n15⟩ := fd
      have e2 : (some (n1, n2, n3, n4, n5, n6, n7, n15) : He.FnW) = some (d.m, d.qual, d.params, .stmts d.body, d.scope, mainGlobals, [], builtinsNs) := e
      simp only [Option.some.injEq, Prod.mk.injEq] at e2
      obtain ⟨h1, h2, h3, h4, h5, h6, h7, h8⟩ := e2
      subst h1 h2 h3 h4 h5 h6 h7 h8
      have c3 : (PySem.W.codeIn K n13 d.qual && (He.dflB K n8 [] && He.kwdB K n9 [])) = true := c2
      obtain ⟨k1, k2⟩ := He.ba c3
      obtain ⟨k3, k4⟩ := He.ba k2
      exact ⟨_, ⟨oc, od, n8, n9, n10, n11, n12, n13, n14, osl, rfl, q, k1, He.dflB_ok k3, He.kwdB_ok k4⟩, kp⟩
    | _ => cases c2
def isiOk (K : PySem.W.Frag) (cs : List Str) : Bool := cs.all (fun cn => (He.Fa.cls cn).ok K && (He.eqO (PySem.W.findIn K (.ref (He.ga K cn)) "__class__") (some (some (.builtin "object.__class__"))) && decide (PySem.W.mroIn K (He.ga K cn) (.type "object") = some true))) &&
  (He.eqO (PySem.W.specialIn K (.builtin "object.__class__") "__get__") (some (some (.builtin "getset_descriptor.__get__"))) && (decide (PySem.W.takesIn K (.builtin "object.__class__") = some true) &&
  (cs.all (fun cn => tyNames.all fun n => decide (PySem.W.kitOne K (.ref (He.ga K cn)) (.type n) = some false)) && (tyNames.all (fun n => cs.all fun cn => decide (PySem.W.kitOne K (.type n) (.ref (He.ga K cn)) = some false)) &&
  cs.all (fun cn => cs.all fun cm => decide (PySem.W.kitOne K (.ref (He.ga K cn)) (.ref (He.ga K cm)) = some (decide (cn = cm))))))))
theorem isiOk_ok {K : PySem.W.Frag} {cs : List Str} (h : isiOk K cs = true) : Isi K cs := by
  obtain ⟨h1, h⟩ := He.ba h
  obtain ⟨h2, h⟩ := He.ba h
  obtain ⟨h3, h⟩ := He.ba h
  obtain ⟨h4, h⟩ := He.ba h
  obtain ⟨h5, h6⟩ := He.ba h
  refine ⟨fun cn hc => ?_, He.eqO_ok h2, of_decide_eq_true h3, fun cn hc n hn => ?_, fun n hn cn hc => ?_, fun cn hc cm hm => ?_⟩
  · obtain ⟨a1, a2⟩ := He.ba (List.all_eq_true.mp h1 cn hc)
    obtain ⟨a3, a4⟩ := He.ba a2
    exact ⟨He.cls_ok a1, He.eqO_ok a3, of_decide_eq_true a4⟩
  · exact of_decide_eq_true (List.all_eq_true.mp (List.all_eq_true.mp h4 cn hc) n hn)
  · exact of_decide_eq_true (List.all_eq_true.mp (List.all_eq_true.mp h5 n hn) cn hc)
  · exact of_decide_eq_true (List.all_eq_true.mp (List.all_eq_true.mp h6 cn hc) cm hm)
/-! the Hook -/
abbrev AlM : Type := He.AlD × Bool × List He.FnW
def obsM (fa : List He.Fa) (fn : List He.DefD) (pr : List PrD) (cs : List Str) (xf : List (PySem.W.Frag → Bool)) (K : PySem.W.Frag) : AlM := (He.obsD fa fn K, (pr.all fun d => d.ok K) && isiOk K cs && xf.all (fun f => f K), pr.map fun d => fnAt K (gtA K d.cn d.m))
def valM (fn : List He.DefD) (pr : List PrD) : AlM := (He.valD fn, true, pr.map PrD.val)
structure SaysM (fa : List He.Fa) (fn : List He.DefD) (pr : List PrD) (cs : List Str) (xf : List (PySem.W.Frag → Bool)) (K : PySem.W.Frag) : Prop where
  c : He.SaysD fa fn K
  isi : Isi K cs
  xf : ∀ f ∈ xf, f K = true
  prp : ∀ d ∈ pr, PropOf K (He.ga K d.cn) d.m (prA K d.cn d.m) (gtA K d.cn d.m) ∧ ∃ fd, FunD K d.m d.qual d.params d.body d.scope [] [] (gtA K d.cn d.m) fd
theorem saysM_of {fa : List He.Fa} {fn : List He.DefD} {pr : List PrD} {cs : List Str} {xf : List (PySem.W.Frag → Bool)} {K : PySem.W.Frag} (e : obsM fa fn pr cs xf K = valM fn pr) : SaysM fa fn pr cs xf K := by
  have e1 : He.obsD fa fn K = He.valD fn := congrArg (fun z : AlM => z.1) e
  have e2 : ((pr.all fun d => d.ok K) && isiOk K cs && xf.all (fun f => f K)) = true := congrArg (fun z : AlM => z.2.1) e
  have e3 : (pr.map fun d => fnAt K (gtA K d.cn d.m)) = pr.map PrD.val := congrArg (fun z : AlM => z.2.2) e
  obtain ⟨h12, h3⟩ := He.ba e2
  obtain ⟨h1, h2⟩ := He.ba h12
  refine ⟨e1, isiOk_ok h2, fun f hf => List.all_eq_true.mp h3 f hf, fun d hd => ?_⟩
  have ok := List.all_eq_true.mp h1 d hd
  obtain ⟨i, hi, ei⟩ := List.mem_iff_getElem.mp hd
  have e4 : (pr.map fun d => fnAt K (gtA K d.cn d.m))[i]? = (pr.map PrD.val)[i]? := by rw [e3]
  rw [List.getElem?_map, List.getElem?_map, List.getElem?_eq_getElem hi, ei] at e4
  exact ⟨d.prop ok, d.funD (Option.some.inj e4) ok⟩
def obsMG (n : Nat) (fa : List He.Fa) (fn : List He.DefD) (pr : List PrD) (cs : List Str) (xf : List (PySem.W.Frag → Bool)) (g : Addr → Option Obj) : AlM := obsM fa fn pr cs xf (He.frG g (List.range n))
def hookM (n : Nat) (fa : List He.Fa) (fn : List He.DefD) (pr : List PrD) (cs : List Str) (xf : List (PySem.W.Frag → Bool)) : PySem.W.Hook where
  α := AlM
  obs := fun s => obsMG n fa fn pr cs xf s.heap.get?
  val := fun _ => valM fn pr
  says := fun _ h => ∃ K : PySem.W.Frag, K.In h ∧ SaysM fa fn pr cs xf K
  of := fun _ _ e => ⟨_, He.frG_in, saysM_of e⟩
  keeps := fun _ _ _ ⟨K, hK, c⟩ k => ⟨K, PySem.W.Frag.In.keeps hK k, c⟩
theorem obsMG_eq {n : Nat} {fa : List He.Fa} {fn : List He.DefD} {pr : List PrD} {cs : List Str} {xf : List (PySem.W.Frag → Bool)} {g : Addr → Option Obj} {s : Shared} (h : ∀ a, g a = s.heap.get? a) : obsMG n fa fn pr cs xf g = (hookM n fa fn pr cs xf).obs s := by
  have e : g = s.heap.get? := funext h
  rw [e] <;> rfl
/-- all that a proof of a def leans on -/
structure Tx (fa : List He.Fa) (fn : List He.DefD) (pr : List PrD) (cs : List Str) (xf : List (PySem.W.Frag → Bool)) (b : Base) : Prop where
  s : SaysM fa fn pr cs xf b.K
  h : ∃ h : Heap, b.K.In h ∧ h.Ns mainGlobals b.mg
section
variable {fa : List He.Fa} {fn : List He.DefD} {pr : List PrD} {cs : List Str} {xf : List (PySem.W.Frag → Bool)} {b : Base}
theorem Tx.glo (T : Tx fa fn pr cs xf b) (i : Nat) {x : Str} (h : fa[i]? = some (.glo x) := by rfl) : b.mg x = some (.ref (He.ga b.K x)) := let ⟨_, a, c⟩ := T.h; He.glo_ok a c (T.s.c.fact i h)
theorem Tx.free (T : Tx fa fn pr cs xf b) (i : Nat) {x : Str} (h : fa[i]? = some (.free x) := by rfl) : b.mg x = none := let ⟨_, a, c⟩ := T.h; He.free_ok a c (T.s.c.fact i h)
theorem Tx.int (T : Tx fa fn pr cs xf b) (i : Nat) {x : Str} {n : Int} (h : fa[i]? = some (.int x n) := by rfl) : ∃ t, b.mg x = some (.int n t) := let ⟨_, a, c⟩ := T.h; He.int_ok a c (T.s.c.fact i h)
theorem Tx.str (T : Tx fa fn pr cs xf b) (i : Nat) {x z : Str} (h : fa[i]? = some (.str x z) := by rfl) : ∃ t, b.mg x = some (.str z t) := let ⟨_, a, c⟩ := T.h; He.str_ok a c (T.s.c.fact i h)
theorem Tx.cls (T : Tx fa fn pr cs xf b) (i : Nat) {x : Str} (h : fa[i]? = some (.cls x) := by rfl) : Cls b.K (He.ga b.K x) := He.cls_ok (T.s.c.fact i h)
theorem Tx.noat (T : Tx fa fn pr cs xf b) (i : Nat) {x f : Str} (h : fa[i]? = some (.noat x f) := by rfl) : NoAttr b.K (He.ga b.K x) f := He.noat_ok (T.s.c.fact i h)
theorem Tx.meth (T : Tx fa fn pr cs xf b) (i : Nat) {x f : Str} (h : fa[i]? = some (.meth x f) := by rfl) : Meth b.K (He.ga b.K x) f (He.ma b.K (He.ga b.K x) f) := He.meth_ok (T.s.c.fact i h)
theorem Tx.x (T : Tx fa fn pr cs xf b) (i : Nat) {f : PySem.W.Frag → Bool} (h : xf[i]? = some f := by rfl) : f b.K = true := T.s.xf f (List.mem_of_getElem? h)
theorem Tx.ns (T : Tx fa fn pr cs xf b) {x : Str} {v : Value} (h : PySem.W.nsIn b.K mainGlobals x = some (some v)) : b.mg x = some v := let ⟨_, a, c⟩ := T.h; PySem.W.mg_of a c h
theorem Tx.mkr (T : Tx fa fn pr cs xf b) (i : Nat) {x : Str} (h : fa[i]? = some (.mkr x) := by rfl) : Mk b.K (He.ga b.K x) (He.ma b.K (He.ga b.K x) "__init__") := He.mkr_ok (T.s.c.fact i h)
end
/-! ### the law is called -/
theorem ints_all {K : PySem.W.Frag} {F : Hp} {al : List Addr} : ∀ ns : List Int, RpL K F al (ns.map .int) (ns.map V.int)
  | [] => .nil
  | n :: r => .cons (.int n) (ints_all r)
theorem noCX {P : Program} {w : World} {H : Hp} {s : Shared} {u : Value} {s' : Shared} (h : L2.CX P w [] H s (fun _ _ _ => False) u s') : False := by
  obtain ⟨_, _, _, _, _, _, _, _, _, _, _, _, z⟩ := h
  exact z
/-- the script's list: known to the object, or one of the module's own -/
theorem enterG {P : Program} {w : World} {K : PySem.W.Frag} {mg mb : Str → Option Value} {k : Nat} {fa a : Addr} {fd : FuncData} {x : Str} {G : Fn} {s1 : Shared} {vs : List Value} {ns : List Int}
    (KX : K.In s1.heap) (hns : s1.heap.Ns mainGlobals mg) (hb : s1.heap.Ns builtinsNs mb) (hbb : ∀ x : Str, x ≠ "__name__" → mb x = bootBuiltins x) (hlim : s1.heap.NoLimit) (hg : s1.gens = #[])
    (ha : s1.heap.get? a = some { cls := .type "list", data := .seq vs.toArray }) (hi : IntsAre vs ns) (hl : ns.length ≤ sizeLine) (hr : Room k callerA)
    (hF : ∀ base : Heap, K.In base → base.Ns mainGlobals mg → FnG ⟨P, w, K, mg, base⟩ k fa fd [x] G) (hbd : ∀ (s : Shared) (u : Value), BindsTo s fd ⟨[u], []⟩ [(x, u)])
    (hG : ∃ m', G [.fix (ns.map .int)] [] = .ok (.bl true) m') :
    codeAny (model P w) callerA (.call (.ref fa) ⟨[.ref a], []⟩) (fun r s' => r = .ok (.ret (.bool true)) ∧ OldK s1.heap s'.heap ∧ s'.os = s1.os ∧ AllBare s'.gens) s1 := by
  have rv := vals_ints hi
  have lenV := hi.length
  obtain ⟨m', hG⟩ := hG
  have core : ∀ H : Hp, SqL K H a (ns.map V.int) → HOk P w H s1.heap → (∀ (q : Addr) (u : HO), H q = some u → q = a ∧ ∃ o xs, u = .frz o (.lst xs)) → (H a ≠ none → K.lookup a = none) →
      codeAny (model P w) callerA (.call (.ref fa) ⟨[.ref a], []⟩) (fun r s' => r = .ok (.ret (.bool true)) ∧ OldK s1.heap s'.heap ∧ s'.os = s1.os ∧ AllBare s'.gens) s1 := by
    intro H hS hok hone hK
    have away : ∀ {q : Addr} {o : Obj} {es : Array DictEntry} {ep : Nat}, s1.heap.get? q = some o → o.data = .dict es ep → H q = none := fun {q o es ep} e d => by
      cases z : H q with
      | none => rfl
      | some u =>
        obtain ⟨rfl, _⟩ := hone q u z
        rw [ha] at e
        cases e
        cases d
    have ns' : ∀ {q : Addr} {mm : Str → Option Value}, s1.heap.Ns q mm → (hidT s1.heap H).Ns q mm := fun {q mm} ⟨o, es, ep, e, d, r⟩ => ⟨o, es, ep, hidT_get e (away e d), d, r⟩
    have kb : K.In (hidT s1.heap H) := fun q o e => hidT_get (KX q o e) (by
      cases z : H q with
      | none => rfl
      | some u =>
        obtain ⟨rfl, _⟩ := hone q u z
        rw [hK (by rw [z]; simp)] at e
        cases e)
    have md : Mod K mg (hidT s1.heap H) := ⟨kb, ns' hns, ⟨mb, ns' hb, hbb⟩, let ⟨mc, h1, h2⟩ := hlim; ⟨mc, ns' h1, h2⟩⟩
    have e0 : Env0 P w K mg (hidT s1.heap H) callerA [] s1 H := ⟨rfl, md, fun q o e => of_hidT e, Nat.le_of_eq (hidT_size _ _), trivial, fun q hq => (by cases hq), hok, .of_eq hg⟩
    have hsp : spOf K 1 G [.ref a] H (fun v _ => v = .bl true) fun _ _ _ => False := by
      refine ⟨[.fix (ns.map .int)], [], H, [], rfl, .cons (.fix hS (ints_all ns)) .nil, ⟨fun _ _ e => e, rfl, List.nodup_nil, fun n q c h => by simp at h, fun n c h => by simp at h, fun q h => by simp at h⟩, ?_⟩
      rw [hG]
      intro v H' F' al' _ _ r
      cases r
      rfl
    refine codeAny_mono ((hF _ kb (ns' hns)).run callerA [] s1 H ⟨[.ref a], []⟩ [.ref a] [.ref a] _ _ hr rfl e0 (hbd s1 (.ref a)) (.cons rfl .nil) hsp) fun r s' h => ?_
    cases r with
    | error e => exact (noCX h).elim
    | ok fl =>
      cases fl with
      | next => exact h.elim
      | brk => exact h.elim
      | cont => exact h.elim
      | ret u =>
        obtain ⟨v, H', os, bare, un, hok', r', q⟩ := h
        have q' : v = .bl true := q
        subst q'
        obtain rfl : u = Value.bool true := r'
        refine ⟨rfl, OldK.of_keep fun q o e => ?_, os, bare⟩
        cases z : H q with
        | none => exact un.keep q o e z (by intro y; cases y) (by simp)
        | some u =>
          obtain ⟨rfl, ob, xs, rfl⟩ := hone q u z
          have z2 := un.frzs q ob _ z
          obtain ⟨e1, _⟩ := hok q _ z
          obtain ⟨e2, _⟩ := hok' q _ z2
          rw [e] at e1
          cases e1
          exact e2
  cases hk : K.lookup a with
  | some o =>
    have e := KX a o hk
    rw [ha] at e
    cases e
    exact core (fun _ => none) (.inr ⟨_, vs.toArray, _, hk, rfl, rfl, rfl, by rw [List.size_toArray, lenV]; exact hl, by simpa using rv⟩) (fun q u z => by cases z) (fun q u z => by cases z) fun z => absurd rfl z
  | none =>
    refine core (fun q => if q = a then some (.frz { cls := .type "list", data := .seq vs.toArray } (.lst (ns.map V.int))) else none) (.inl (.inr ⟨{ cls := .type "list", data := .seq vs.toArray }, if_pos rfl⟩)) (fun q u z => ?_) (fun q u z => ?_) fun _ => hk
    · by_cases hq : q = a
      · have z' := (if_pos hq).symm.trans z
        cases z'
        subst hq
        exact ⟨ha, by rw [List.length_map]; exact hl, vs, _, rv, ha⟩
      · have z' := (if_neg hq).symm.trans z
        cases z'
    · by_cases hq : q = a
      · have z' := (if_pos hq).symm.trans z
        cases z'
        exact ⟨hq, _, _, rfl⟩
      · have z' := (if_neg hq).symm.trans z
        cases z'
/-- the end: what the head leaves, from the law's plain function -/
theorem walkG {l : PySem.W.OpenLaw} {n k : Nat} {q : Program} {loose : List Str} {XP : (Str → Option Value) → Heap → Prop} {fa : List He.Fa} {fn : List He.DefD} {pr : List PrD} {cs : List Str} {xf : List (PySem.W.Frag → Bool)} {N : Nat} {d : DefRec} {x : Str} {G : Fn}
    (hn : l.most = some n) (hn2 : n ≤ sizeLine) (hdf : d.params.defaults = []) (hd : d.name = ("law" : Str)) (hr : Room k callerA)
    {pa : Arguments} {bd : List Stmt} {sc : Scope} (hfun : ∀ K : PySem.W.Frag, SaysM fa fn pr cs xf K → ∃ fd : FuncData, FunD K "law" "law" pa bd sc [] [] (He.ga K "law") fd)
    (hF : ∀ (b : Base), b.P = l.prog → Tx fa fn pr cs xf b → ∀ fd : FuncData, FunD b.K "law" "law" pa bd sc [] [] (He.ga b.K "law") fd → (∀ (s : Shared) (u : Value), BindsTo s fd ⟨[u], []⟩ [(x, u)]) ∧ FnG b k (He.ga b.K "law") fd [x] G)
    (hfd : ∀ (K : PySem.W.Frag), SaysM fa fn pr cs xf K → ∃ f : Nat, fa[f]? = some (.glo "law"))
    (hG : ∀ ns : List Int, ns.length ≤ n → ∃ m', G [.fix (ns.map .int)] [] = .ok (.bl true) m') :
    PySem.W.WalkO q loose XP (hookM N fa fn pr cs xf).says l.row.toRowW d [] (fun f vs => PySem.call f vs) := by
  refine Att.attach_call hn hdf fun w s0 s1 mg mb f o pm cd doc a vs ns Gr Y ho hd' hcd hmg hobj hints hlen hg => ?_
  obtain ⟨K, KX, c⟩ := Y
  obtain ⟨i, hi⟩ := hfd K c
  rw [hd] at hmg
  have e := hmg.symm.trans (He.glo_ok KX Gr.T.g (c.c.fact i hi))
  cases e
  have T : ∀ base : Heap, K.In base → base.Ns mainGlobals mg → Tx fa fn pr cs xf ⟨l.prog, w, K, mg, base⟩ := fun base h1 h2 => ⟨c, base, h1, h2⟩
  obtain ⟨fd, hfd'⟩ := hfun K c
  exact enterG (fd := fd) KX Gr.T.g Gr.T.b Gr.T.builtins Gr.T.nolimit hg hobj hints (Nat.le_trans hlen hn2) hr (fun base h1 h2 => (hF ⟨l.prog, w, K, mg, base⟩ rfl (T base h1 h2) fd hfd').2) (hF ⟨l.prog, w, K, mg, s1.heap⟩ rfl (T s1.heap KX Gr.T.g) fd hfd').1 (hG ns hlen)
end DS

namespace DS
open PySem PySem.Spec PyProof.Rows L2
set_option maxHeartbeats 1000000 in
theorem meets_enum1 {v : Value} {o : Obj} {H : Heap → Prop} (B : Begins v o H) :
    Meets (Builtin.«enumerate.__new__» ⟨[.type "enumerate", v], []⟩) (fun _ R s => H s.heap ∧
      R (.ok (.ret (.ref (s.heap.push o).objs.size))) { s with heap := (s.heap.push o).push { cls := .type "enumerate", data := .fields #[.none, .bool false, .ref s.heap.objs.size, rawInt 0, .none, .none] } }) :=
  .of_wp fun prog w A R s h => by
    obtain ⟨hp, g, d, tk, os⟩ := s; obtain ⟨h1, h⟩ := h
    have hs := sub_enumerate
    have q1 : ∀ {A' : Around} {E : Value → Shared → Prop} {Q : Value → Shared → Prop}, Q (.ref hp.objs.size) ⟨hp.push o, g, d, tk, os⟩ → wpAny (model prog w) A' (pyIter v) Q E ⟨hp, g, d, tk, os⟩ :=
      fun q => B.iter prog w _ _ ⟨hp, g, d, tk, os⟩ _ h1 q
    wp_walk using q1
    refine wpAny_stack_any fun st => wpAny_pure ?_
    split
    · rename_i c _ _ _ _ _
      cases (c == Value.type "enumerate")
      · wp_walk using q1
        exact ⟨_, rfl, h⟩
      · wp_walk using q1
        exact ⟨_, rfl, h⟩
    · wp_walk using q1
      exact ⟨_, rfl, h⟩
theorem enum1_begins {prog : Program} {w : World} {A : Around} {E : Value → Shared → Prop} {s : Shared} {v : Value} {o : Obj} {H : Heap → Prop} {Q : Value → Shared → Prop} (B : Begins v o H) (h1 : H s.heap)
    (h : ∀ h', IsEnum h' (s.heap.objs.size + 1) s.heap.objs.size 0 .none → h'.get? s.heap.objs.size = some o → (∀ b o, s.heap.get? b = some o → h'.get? b = some o) → Q (.ref (s.heap.objs.size + 1)) { s with heap := h' }) :
    wpAny (model prog w) A (call (.type "enumerate") [v]) Q E s := by
  refine callType_new F.called_enumerate (by decide) (F.typeCall_enumerate_1 _) (F.newCall_enumerate_1 _) (fun obj => F.args_object_init_2 obj _) F.entry_enumerate_new (meets_enum1 B) ⟨h1, ?_⟩
  have hz : (s.heap.push o).objs.size = s.heap.objs.size + 1 := Heap.size_push ..
  show _ ∧ _
  rw [hz]
  have he : IsEnum ((s.heap.push o).push { cls := .type "enumerate", data := .fields #[.none, .bool false, .ref s.heap.objs.size, rawInt 0, .none, .none] }) (s.heap.objs.size + 1) s.heap.objs.size 0 .none := by
    have z := Heap.get?_push_size (s.heap.push o) (o := { cls := .type "enumerate", data := .fields #[.none, .bool false, .ref s.heap.objs.size, rawInt 0, .none, .none] }) rfl
    rw [hz] at z; exact z
  exact ⟨⟨_, he, rfl⟩, h _ he (Heap.get?_push_of_some _ (Heap.get?_push_size _ B.free)) fun b o x => Heap.get?_push_of_some _ (Heap.get?_push_of_some _ x)⟩
/-- enumerate of a tuple -/
def Iet (K : PySem.W.Frag) (a : Addr) : It :=
  ⟨fun i H => ∃ xs x, SqT K H a xs ∧ xs[i]? = some x, fun i H v H' => ∃ T x, v = .ref T ∧ H T = none ∧ H' = upd H T (.tup [.int (i : Nat), x]) ∧ ∀ xs, SqT K H a xs → xs[i]? = some x, fun i H => ∃ xs, SqT K H a xs ∧ xs.length ≤ i⟩
theorem tup_ne {h : Heap} {t it : Addr} {items : Array Value} {i : Nat} (h1 : IsTup h t items) (h2 : h.IsTupleIter it t i) : t ≠ it := by
  rintro rfl
  obtain ⟨o, e, c, _⟩ := h1
  obtain ⟨o', e', c', _⟩ := h2
  rw [e] at e'
  cases e'
  rw [c] at c'
  exact absurd c' (by simp)
theorem enum_ne {h : Heap} {t e it : Addr} {items : Array Value} {i : Int} {old : Value} (h1 : IsTup h t items) (h2 : IsEnum h e it i old) : e ≠ t := by
  rintro rfl
  obtain ⟨o, q, c, _⟩ := h1
  have h2' : h.get? e = some _ := h2
  rw [q] at h2'
  cases h2'
  exact absurd c (by simp)
theorem turn_enumT {P : Program} {w : World} {K : PySem.W.Frag} {elts : List Expr} {kk : Nat} {tpos : Pos} (a e it : Addr) :
    Turn P w K (.Tuple elts kk tpos) (Iet K a) [e, it] e (fun i h => (∃ old, IsEnum h e it ((i : Nat) : Int) old) ∧ h.IsTupleIter it a i ∧ e ≠ it) where
  mem := by simp
  obj := fun i h st q hq => by
    obtain ⟨⟨old, he⟩, ⟨o, ho, hc, hd⟩, _⟩ := st
    rcases (by simpa using hq : q = e ∨ q = it) with rfl | rfl
    · exact ⟨_, he, fun v z => nomatch z⟩
    · exact ⟨o, ho, fun v z => by rw [hd] at z; cases z⟩
  keep := fun i h h' st k => let ⟨⟨old, he⟩, hi, hne⟩ := st; ⟨⟨old, k e (by simp) _ he⟩, hi.at fun o q => k it (by simp) o q, hne⟩
  item := by
    intro X hP hw hK hc i pins s σ H E I hf st hg
    subst hP hw hK
    obtain ⟨⟨old, he⟩, hit, hne⟩ := st
    obtain ⟨xs, x, hq, hx⟩ := hg
    obtain ⟨its, rv, p, hz⟩ := I.tuple hq
    obtain ⟨u, hu, ru⟩ := rv.get hx
    have n1 := tup_ne p hit
    have n2 := enum_ne p he
    have hel : e < s.heap.objs.size := Heap.lt_size he
    have hil : it < s.heap.objs.size := by obtain ⟨_, q, _⟩ := hit; exact Heap.lt_size q
    have hlt : i < its.toArray.size := by
      have := (List.getElem?_eq_some_iff.mp hu).1
      simpa using this
    refine wpAny_pyNext_enum_itemD (Draws.tuple (A := X.A.in1) (I.ok.hd hc) it a n1 its.toArray) he ⟨hit, p⟩ hlt hne (by simp [hne, n2]) fun x' h' tk hPx ho hst' hT hsz hk => ?_
    have eu : x' = u := by
      have hPx : its.toArray[i]? = some x' := hPx
      rw [List.getElem?_toArray, hu] at hPx
      cases hPx
      rfl
    subst eu
    refine ⟨_, rfl, wpAny_letOwnedTupleGo_enum (s := { s with heap := h', toks := tk + 1 }) ho fun h'' he' sb => ?_⟩
    have hT2 : h''.get? s.heap.objs.size = some { cls := .type "tuple", data := .seq #[.int i tk, x'] } := (sb.2 _ (Nat.ne_of_gt hel)).trans hT
    have new : ObjOk X.prog X.w (upd H s.heap.objs.size (.tup [.int (i : Nat), x])) h'' s.heap.objs.size (.tup [.int (i : Nat), x]) :=
      ⟨small_line (by decide : 2 ≤ 100000), [.int i tk, x'], .cons ⟨_, rfl⟩ (.cons ru .nil), ⟨_, hT2, rfl, _, rfl⟩⟩
    have I1 : Inv X pins σ (upd H s.heap.objs.size (.tup [.int (i : Nat), x])) { s with heap := h'', toks := tk + 1 } :=
      I.turnedNew (ch := [e, it]) (fun q ob hb z => (sb.2 q (fun y => hb (by simp [y]))).trans (hk q ob (fun y => hb (by simp [y])) (fun y => hb (by simp [y])) z)) hf (Nat.le_refl _) new
    refine ⟨.ref s.heap.objs.size, _, I1, rfl, ⟨_, x, rfl, I.hok.fresh (Nat.le_refl _), rfl, fun ys hy => by rw [I.tuple_inj hy hq]; exact hx⟩, ⟨⟨x', ?_⟩, hst'.1.at fun o q => (sb.2 it (Ne.symm hne)).trans q, hne⟩, fun q hq' => ?_⟩
    · have e1 : ((i + 1 : Nat) : Int) = (i : Int) + 1 := by omega
      rw [e1]; exact he'
    · have hb' : q < s.heap.objs.size := by
        rcases (by simpa using hq' : q = e ∨ q = it) with z | z
        · rw [z]; exact hel
        · rw [z]; exact hil
      rw [upd_ne (Nat.ne_of_lt hb')]
      exact (hf q hq').1
  done := by
    intro X hP hw hK hc i pins s σ H E I hf st hg
    subst hP hw hK
    obtain ⟨⟨old, he⟩, hit, hne⟩ := st
    obtain ⟨xs, hq, hx⟩ := hg
    obtain ⟨its, rv, p, hz⟩ := I.tuple hq
    obtain ⟨f0, f1, f2, f3, f4, f5⟩ := hf it (by simp)
    have hl := rv.length
    have hnone : its.toArray[i]? = none := by
      rw [List.getElem?_toArray]
      exact List.getElem?_eq_none_iff.mpr (by omega)
    have hT : s.TypeIs (.ref e) "enumerate" := ⟨_, he, rfl⟩
    unfold pyNext
    refine wpAny_bind (wpAny_attempt (wpAny_callSpecial?_slot (name := Str.ofString "__next__") hT F.slot_enumerate_next (wpAny_call_entry F.slot_enumerate_next hT F.entry_enumerate_next ?_ (F.args_enumerate_next_1 _))))
    show wpAny _ _ (field (.ref e) 2 >>= _) _ _ _
    refine wpAny_bind (wpAny_field he rfl (x := .ref it) rfl ?_)
    refine wpAny_bind (wpAny_nextOf_tuple_end (A := X.A.in1) (I.ok.hd hc) hit p hnone fun h' y hk' hy => ?_)
    obtain ⟨oy, hoy, hcy⟩ := hy
    refine wpAny_bind (wpAny_isInstance (T := "StopIteration") (b := true) ⟨oy, hoy, hcy⟩ isSubtype_stop ?_)
    exact wpAny_pure ⟨rfl, I.turned (t' := s.toks) (fun q o hb z => hk' q o hb z) f0 f1 f3 f4 f5⟩
  self := fun A i s Q E st h => let ⟨⟨_, he⟩, _⟩ := st; wpAny_pyIter_enum he h
def iEnumT (K : PySem.W.Frag) (ta : TA) : TI := fun σ H R => ta σ H fun vs H1 => ∃ a xs, vs = [.ref a] ∧ SqT K H1 a xs ∧ R (Iet K a) H1
theorem pi_enumT {X : Cx} {e : Expr} {ta : TA} {p pos tpos : Pos} {elts : List Expr} {kk : Nat} (hg : Gl X "enumerate") (hm : X.mg "enumerate" = none) (ha : PA X [e] ta) (hs : starEach [e] X.env = [(false, eval e X.env)]) :
    PI X (.Tuple elts kk tpos) (.Call (.Name "enumerate" p) [e] [] pos) (iEnumT X.K ta) := by
  refine ⟨fun pins s σ H R I h => ?_⟩
  refine Call_ (ld_blt I hg hm boot_enumerate (PyProof.Rows.callWith_type1 (thn (ha.run pos pins s σ H _ I h) fun us s1 ⟨vs, H1, I1, r1, q1⟩ => ?_) hs rfl))
  obtain ⟨a, xs, ex, hq, q⟩ := q1
  subst ex
  obtain ⟨u, rfl, ru⟩ := vals1 r1
  obtain rfl : u = Value.ref a := ru
  obtain ⟨its, rv, ht, hz⟩ := I1.tuple hq
  refine enum1_begins (begins_tuple a its.toArray) ht fun h' he hit hk => wpAny_pyIter_enum he ?_
  have I2 : Inv X pins σ H1 { s1 with heap := h' } := I1.kept (t' := s1.toks) hk
  refine ⟨s1.heap.objs.size + 1, [s1.heap.objs.size + 1, s1.heap.objs.size], _, _, H1, rfl, I2, turn_enumT a (s1.heap.objs.size + 1) s1.heap.objs.size, ⟨⟨.none, he⟩, ⟨_, hit, rfl, rfl⟩, Nat.succ_ne_self _⟩, fun y hy => ?_, q⟩
  have hle : s1.heap.objs.size ≤ y := by
    rcases (by simpa using hy : y = s1.heap.objs.size + 1 ∨ y = s1.heap.objs.size) with z | z
    · rw [z]; exact Nat.le_add_right _ _
    · rw [z]; exact Nat.le_refl _
  exact I1.fpOk hle (I1.hok.fresh hle)
theorem yld_enumT {K : PySem.W.Frag} {F : Hp} {al : List Addr} {q : Addr} {vs : List V} {xs : List D} (s : SqT K F q vs) (r : RpL K F al xs vs) : Yld K (Iet K q) (enumL 0 xs) F al := by
  refine ⟨fun H F' al' m i d e w hd => ?_, fun H F' al' m i e w hi => ⟨vs, SqT.fix s e w, by rw [← r.len, ← enumL_len xs 0]; exact hi⟩⟩
  rw [enumL_get] at hd
  cases hx : xs[i]? with
  | none => rw [hx] at hd; cases hd
  | some z =>
    rw [hx] at hd
    cases hd
    obtain ⟨x, h1, h2⟩ := r.get hx
    refine ⟨⟨vs, x, SqT.fix s e w, h1⟩, fun y H' hy => ?_⟩
    obtain ⟨T, x', rfl, hT, rfl, hy⟩ := hy
    have hz := (hy vs (SqT.fix s e w)).symm.trans h1
    cases hz
    have hf := w.fnone hT
    refine ⟨upd F' T _, ext_new hf, w.new hT, .tup (.of upd_same) (.cons ?_ (.cons ((h2.up e).up (ext_new hf)) .nil))⟩
    rw [Nat.zero_add]
    exact .int _
def enumD' (ds : List D) (m : Mu) : Out (List D) := match ds with
  | [.lst xs] => .ok (enumL 0 xs) m
  | [.tup xs] => .ok (enumL 0 xs) m
  | _ => .stuck
def xiEnum' (f : XA) : XA := fun r m => (f r m).bind enumD'
theorem di_enum' {c : SC} {W : WX} {e : Expr} {pos : Pos} {fr : XA} {p0 tpos : Pos} {elts : List Expr} {kk : Nat} (hm : c.mg "enumerate" = none) (h : DA c W [e] fr) (hg : c.sc.names.lookup ("enumerate" : Str) = some .globalImplicit := by rfl) (hs : ∀ env, starEach [e] env = [(false, eval e env)] := by intro _; rfl) : DI c W (.Tuple elts kk tpos) (.Call (.Name "enumerate" p0) [e] [] pos) (xiEnum' fr) := by
  obtain ⟨⟨t, h1, h2⟩, _⟩ := h
  refine ⟨fun σ H R => iEnum c.K t σ H R ∨ iEnumT c.K t σ H R, fun y hy => PI.or (pi_enum (hy.gl hg) hm (h1 y hy) (hs _)) (pi_enumT (hy.gl hg) hm (h1 y hy) (hs _)), fun r m σ H F al R he hw p => ?_⟩
  unfold xiEnum' at p
  have lists : ∀ q xs m1, fr r m = .ok q m1 → q = [.lst xs] → Post c.K (fun F al xs J => Yld c.K J xs F al) (atS W σ) F al R (.ok (enumL 0 xs) m1) → iEnum c.K t σ H R := fun q xs m1 e1 e2 p => by
    subst e2
    refine h2 r m σ H F al _ he hw ?_
    rw [e1]
    intro vs H1 F1 al1 ex w1 q1
    cases q1 with
    | cons qa q =>
      cases q
      cases qa with
      | @lst q' ys _ s q2 => exact ⟨q', ys, rfl, .of (w1.sub _ _ s), p _ H1 F1 al1 ex w1 (yld_enum (.of s) q2)⟩
  have tups : ∀ q xs m1, fr r m = .ok q m1 → q = [.tup xs] → Post c.K (fun F al xs J => Yld c.K J xs F al) (atS W σ) F al R (.ok (enumL 0 xs) m1) → iEnumT c.K t σ H R := fun q xs m1 e1 e2 p => by
    subst e2
    refine h2 r m σ H F al _ he hw ?_
    rw [e1]
    intro vs H1 F1 al1 ex w1 q1
    cases q1 with
    | cons qa q =>
      cases q
      cases qa with
      | @tup q' ys _ s q2 => exact ⟨q', ys, rfl, sqt_up w1.sub s, p _ H1 F1 al1 ex w1 (yld_enumT s q2)⟩
  cases o : fr r m with
  | stuck => rw [o] at p; exact p.elim
  | exc cc fs m1 =>
    refine .inl (h2 r m σ H F al _ he hw ?_)
    rw [o] at p ⊢
    exact p
  | ok ds m1 =>
    rw [o] at p
    have p : Post c.K (fun F al xs J => Yld c.K J xs F al) (atS W σ) F al R (enumD' ds m1) := p
    unfold enumD' at p
    split at p
    · exact .inl (lists _ _ _ o rfl p)
    · exact .inr (tups _ _ _ o rfl p)
    · exact p.elim
end DS

/-! # DSF: frames. A run on a small store is the run on a store with more cells ahead. -/
namespace DS
open PySem PySem.Spec PyProof.Rows L2
mutual
def D.sh (k : Nat) : D → D
  | .loc n => .loc (k + n)
  | .tup xs => .tup (D.shL k xs)
  | .lst xs => .lst (D.shL k xs)
  | .fix xs => .fix (D.shL k xs)
  | .obj c fs => .obj c (D.shF k fs)
  | .dct fs => .dct (D.shF k fs)
  | .non => .non
  | .bl b => .bl b
  | .int i => .int i
  | .str x => .str x
  | .glo x => .glo x
  | .ty x => .ty x
def D.shL (k : Nat) : List D → List D
  | [] => []
  | x :: r => D.sh k x :: D.shL k r
def D.shF (k : Nat) : List (Str × D) → List (Str × D)
  | [] => []
  | (f, x) :: r => (f, D.sh k x) :: D.shF k r
end
theorem shL_map (k : Nat) : ∀ xs : List D, D.shL k xs = xs.map (D.sh k)
  | [] => rfl
  | x :: r => by rw [D.shL, List.map_cons, shL_map k r]
theorem shL_len (k : Nat) (xs : List D) : (D.shL k xs).length = xs.length := by rw [shL_map, List.length_map]
theorem shL_app (k : Nat) (xs ys : List D) : D.shL k (xs ++ ys) = D.shL k xs ++ D.shL k ys := by simp [shL_map]
theorem shL_get (k : Nat) (xs : List D) (i : Nat) : (D.shL k xs)[i]? = (xs[i]?).map (D.sh k) := by rw [shL_map, List.getElem?_map]
theorem shF_len (k : Nat) : ∀ xs : List (Str × D), (D.shF k xs).length = xs.length
  | [] => rfl
  | (_, x) :: r => by rw [D.shF, List.length_cons, List.length_cons, shF_len k r]
theorem shF_look (k : Nat) (f : Str) : ∀ xs : List (Str × D), (D.shF k xs).lookup f = (xs.lookup f).map (D.sh k)
  | [] => rfl
  | (g, x) :: r => by
    rw [D.shF, List.lookup_cons, List.lookup_cons]
    cases f == g
    · exact shF_look k f r
    · rfl
mutual
theorem inB_sh (k n : Nat) : ∀ d : D, (d.sh k).inB (k + n) = d.inB n
  | .loc m => by rw [D.sh, D.inB, D.inB]; simp
  | .tup xs => by rw [D.sh, D.inB, D.inB, inL_sh k n xs]
  | .lst xs => by rw [D.sh, D.inB, D.inB, inL_sh k n xs]
  | .fix xs => by rw [D.sh, D.inB, D.inB, inL_sh k n xs]
  | .obj c fs => by rw [D.sh, D.inB, D.inB, inF_sh k n fs]
  | .dct fs => by rw [D.sh, D.inB, D.inB, inF_sh k n fs]
  | .non => rfl
  | .bl b => rfl
  | .int i => rfl
  | .str x => rfl
  | .glo x => rfl
  | .ty x => rfl
theorem inL_sh (k n : Nat) : ∀ d : List D, D.inL (k + n) (D.shL k d) = D.inL n d
  | [] => rfl
  | x :: r => by rw [D.shL, D.inL, D.inL, inB_sh k n x, inL_sh k n r]
theorem inF_sh (k n : Nat) : ∀ d : List (Str × D), D.inF (k + n) (D.shF k d) = D.inF n d
  | [] => rfl
  | (_, x) :: r => by rw [D.shF, D.inF, D.inF, inB_sh k n x, inF_sh k n r]
end
mutual
theorem sh_id (k : Nat) : ∀ d : D, d.inB 0 = true → d.sh k = d
  | .loc m, h => by rw [D.inB] at h; simp at h
  | .tup xs, h => by rw [D.inB] at h; rw [D.sh, shL_id k xs h]
  | .lst xs, h => by rw [D.inB] at h; rw [D.sh, shL_id k xs h]
  | .fix xs, h => by rw [D.inB] at h; rw [D.sh, shL_id k xs h]
  | .obj c fs, h => by rw [D.inB] at h; rw [D.sh, shF_id k fs h]
  | .dct fs, h => by rw [D.inB] at h; rw [D.sh, shF_id k fs h]
  | .non, _ => rfl
  | .bl b, _ => rfl
  | .int i, _ => rfl
  | .str x, _ => rfl
  | .glo x, _ => rfl
  | .ty x, _ => rfl
theorem shL_id (k : Nat) : ∀ d : List D, D.inL 0 d = true → D.shL k d = d
  | [], _ => rfl
  | x :: r, h => by
    rw [D.inL, Bool.and_eq_true] at h
    rw [D.shL, sh_id k x h.1, shL_id k r h.2]
theorem shF_id (k : Nat) : ∀ d : List (Str × D), D.inF 0 d = true → D.shF k d = d
  | [], _ => rfl
  | (_, x) :: r, h => by
    rw [D.inF, Bool.and_eq_true] at h
    rw [D.shF, sh_id k x h.1, shF_id k r h.2]
end
mutual
theorem toP_sh (k : Nat) : ∀ d : D, toP (d.sh k) = toP d
  | .loc m => by rw [D.sh]; rfl
  | .tup xs => by rw [D.sh, toP, toP, toPs_sh k xs]
  | .lst xs => by rw [D.sh, toP, toP, toPs_sh k xs]
  | .fix xs => by rw [D.sh, toP, toP, toPs_sh k xs]
  | .obj c fs => rfl
  | .dct fs => rfl
  | .non => rfl
  | .bl b => rfl
  | .int i => rfl
  | .str x => rfl
  | .glo x => rfl
  | .ty x => rfl
theorem toPs_sh (k : Nat) : ∀ d : List D, toPs (D.shL k d) = toPs d
  | [] => rfl
  | x :: r => by rw [D.shL, toPs, toPs, toP_sh k x, toPs_sh k r]
end
def Cell.sh (k : Nat) : Cell → Cell
  | .lst xs => .lst (D.shL k xs)
  | .ins c fs => .ins c (D.shF k fs)
  | .dct fs => .dct (D.shF k fs)
  | .dead => .dead
def shM (μ ν : Mu) : Mu := μ ++ ν.map (Cell.sh μ.length)
section
variable {μ ν : Mu}
theorem shM_len : (shM μ ν).length = μ.length + ν.length := by simp [shM]
theorem shM_get (n : Nat) : (shM μ ν)[μ.length + n]? = (ν[n]?).map (Cell.sh μ.length) := by
  rw [shM, List.getElem?_append_right (Nat.le_add_right _ _), Nat.add_sub_cancel_left, List.getElem?_map]
theorem shM_set (n : Nat) (c : Cell) : (shM μ ν).set (μ.length + n) (c.sh μ.length) = shM μ (ν.set n c) := by
  rw [shM, shM, List.set_append_right _ _ (Nat.le_add_right _ _), Nat.add_sub_cancel_left, List.map_set]
theorem shM_take (n : Nat) : (shM μ ν).take (μ.length + n) = shM μ (ν.take n) := by
  rw [shM, shM, List.take_append, List.take_of_length_le (Nat.le_add_right _ _), Nat.add_sub_cancel_left, List.map_take]
theorem shM_app (c : Cell) : shM μ ν ++ [c.sh μ.length] = shM μ (ν ++ [c]) := by simp [shM]
theorem shM_nil : shM μ [] = μ := by simp [shM]
theorem lstOf_sh (d : D) : lstOf (shM μ ν) (d.sh μ.length) = (lstOf ν d).map (D.shL μ.length) := by
  cases d <;> try rfl
  rename_i n
  rw [D.sh]
  unfold lstOf
  simp only [shM_get]
  cases ν[n]? with
  | none => rfl
  | some c => cases c <;> rfl
theorem ownOf_sh (d : D) : ownOf (shM μ ν) (d.sh μ.length) = (ownOf ν d).map (D.shL μ.length) := by
  cases d <;> try rfl
  rename_i n
  rw [D.sh]
  unfold ownOf
  simp only [shM_get]
  cases ν[n]? with
  | none => rfl
  | some c => cases c <;> rfl
theorem insOf_sh (d : D) : insOf (shM μ ν) (d.sh μ.length) = (insOf ν d).map fun p => (p.1, D.shF μ.length p.2) := by
  cases d <;> try rfl
  rename_i n
  rw [D.sh]
  unfold insOf
  simp only [shM_get]
  cases ν[n]? with
  | none => rfl
  | some c => cases c <;> rfl
theorem seqOf_sh (d : D) : seqOf (shM μ ν) (d.sh μ.length) = (seqOf ν d).map (D.shL μ.length) := by
  unfold seqOf
  cases d <;> try rfl
  exact lstOf_sh (.loc _)
theorem dere_sh (d : D) : toP (dere (shM μ ν) (d.sh μ.length)) = toP (dere ν d) := by
  cases d <;> try exact toP_sh _ _
  rename_i n
  rw [D.sh]
  unfold dere
  simp only [shM_get]
  cases ν[n]? with
  | none => rfl
  | some c =>
    cases c <;> try rfl
    exact toP_sh μ.length (.fix _)
end

/-! ### shifts of answers -/
class Shf (α : Type) where
  sh : Nat → α → α
instance : Shf D := ⟨D.sh⟩
instance : Shf Bool := ⟨fun _ b => b⟩
instance : Shf Unit := ⟨fun _ b => b⟩
instance : Shf (List D) := ⟨D.shL⟩
instance : Shf (Option Int) := ⟨fun _ b => b⟩
def shR (k : Nat) (r : Rho) : Rho := r.map (Option.map (D.sh k))
instance : Shf Rho := ⟨shR⟩
/-- o' is what o is, on the greater store -/
def FrO {α : Type} [Shf α] (μ : Mu) (o' : Out α) : Out α → Prop
  | .ok a ν => o' = .ok (Shf.sh μ.length a) (shM μ ν)
  | .exc c fs ν => o' = .exc c (D.shF μ.length fs) (shM μ ν)
  | .stuck => True
def FrS (μ : Mu) (o' : SO) : SO → Prop
  | .next r ν => o' = .next (shR μ.length r) (shM μ ν)
  | .brk r ν => o' = .brk (shR μ.length r) (shM μ ν)
  | .cont r ν => o' = .cont (shR μ.length r) (shM μ ν)
  | .ret d ν => o' = .ret (d.sh μ.length) (shM μ ν)
  | .exc c fs r ν => o' = .exc c (D.shF μ.length fs) (shR μ.length r) (shM μ ν)
  | .stuck => True
theorem FrO.bind {α β : Type} [Shf α] [Shf β] {μ : Mu} {o' o : Out α} {k' k : α → Mu → Out β} (h : FrO μ o' o) (hk : ∀ a ν, FrO μ (k' (Shf.sh μ.length a) (shM μ ν)) (k a ν)) : FrO μ (o'.bind k') (o.bind k) := by
  cases o with
  | ok a ν =>
    rw [show o' = _ from h]
    exact hk a ν
  | exc c fs ν =>
    rw [show o' = _ from h]
    rfl
  | stuck => trivial
theorem FrO.ne {α : Type} [Shf α] {μ : Mu} {o' o : Out α} (h : FrO μ o' o) : FrO μ o'.ne o.ne := by
  cases o with
  | ok a ν =>
    rw [show o' = _ from h]
    rfl
  | exc c fs ν => trivial
  | stuck => trivial
theorem FrO.stm {α : Type} [Shf α] {μ : Mu} {o' o : Out α} {r : Rho} {k' k : α → Mu → SO} (h : FrO μ o' o) (hk : ∀ a ν, FrS μ (k' (Shf.sh μ.length a) (shM μ ν)) (k a ν)) : FrS μ (o'.stm (shR μ.length r) k') (o.stm r k) := by
  cases o with
  | ok a ν =>
    rw [show o' = _ from h]
    exact hk a ν
  | exc c fs ν =>
    rw [show o' = _ from h]
    rfl
  | stuck => trivial
def FrE (f : XE') : Prop := ∀ μ r ν, FrO μ (f (shR μ.length r) (shM μ ν)) (f r ν)
def FrT (f : XT) : Prop := ∀ μ r ν, FrO μ (f (shR μ.length r) (shM μ ν)) (f r ν)
def FrA (f : XA) : Prop := ∀ μ r ν, FrO μ (f (shR μ.length r) (shM μ ν)) (f r ν)
def FrI (f : XO) : Prop := ∀ μ r ν, FrO μ (f (shR μ.length r) (shM μ ν)) (f r ν)
def FrB (f : XS) : Prop := ∀ μ r ν, FrS μ (f (shR μ.length r) (shM μ ν)) (f r ν)
def FrG (f : XG) : Prop := ∀ μ d r ν, FrO μ (f (d.sh μ.length) (shR μ.length r) (shM μ ν)) (f d r ν)
def FrGs (f : XGs) : Prop := ∀ μ d r ν, FrO μ (f (D.shL μ.length d) (shR μ.length r) (shM μ ν)) (f d r ν)
def FrF (f : Fn) : Prop := ∀ μ d ν, FrO μ (f (D.shL μ.length d) (shM μ ν)) (f d ν)
def Fr2 (g : D → D → Mu → Out D) : Prop := ∀ μ d e ν, FrO μ (g (d.sh μ.length) (e.sh μ.length) (shM μ ν)) (g d e ν)
theorem shR_get (k : Nat) (r : Rho) (i : Nat) : (shR k r)[i]? = (r[i]?).map (Option.map (D.sh k)) := by rw [shR, List.getElem?_map]
theorem shR_set (k : Nat) (r : Rho) (i : Nat) (d : D) : (shR k r).set i (some (d.sh k)) = shR k (r.set i (some d)) := by rw [shR, shR, List.map_set]; rfl
theorem shR_set0 (k : Nat) (r : Rho) (i : Nat) : (shR k r).set i none = shR k (r.set i none) := by rw [shR, shR, List.map_set]; rfl
theorem shR_wipe (k : Nat) (r : Rho) : ∀ vs, wipeR (shR k r) vs = shR k (wipeR r vs)
  | [] => rfl
  | v :: vs => by rw [wipeR, wipeR, shR_wipe k r vs, shR_set0]
theorem fr_xVar (i : Nat) : FrE (xVar i) := fun μ r ν => by
  unfold xVar
  rw [shR_get]
  cases r[i]? with
  | none => trivial
  | some o => cases o with
    | none => trivial
    | some d => rfl
theorem fr_xC (d : D) (h : d.inB 0 = true := by rfl) : FrE (xC d) := fun μ r ν => by
  show _ = _
  rw [show Shf.sh μ.length d = d.sh μ.length from rfl, sh_id _ d h]
  rfl
theorem fr_xOp {g : D → D → Mu → Out D} {a b : XE'} (hg : Fr2 g) (ha : FrE a) (hb : FrE b) : FrE (xOp g a b) := fun μ r ν =>
  (ha μ r ν).bind fun x ν1 => (hb μ r ν1).bind fun y ν2 => hg μ x y ν2
theorem fr_asB (μ : Mu) (d : D) (ν : Mu) : FrO μ (asB (d.sh μ.length) (shM μ ν)) (asB d ν) := by cases d <;> trivial
theorem fr_xTest {f : XE'} (hf : FrE f) : FrT (xTest f) := fun μ r ν => (hf μ r ν).bind fun d ν1 => fr_asB μ d ν1
theorem fr_xAndT {a b : XT} (ha : FrT a) (hb : FrT b) : FrT (xAndT a b) := fun μ r ν => (ha μ r ν).bind fun k ν1 => by
  cases k
  · exact rfl
  · exact hb μ r ν1
theorem fr_xOrT {a b : XT} (ha : FrT a) (hb : FrT b) : FrT (xOrT a b) := fun μ r ν => (ha μ r ν).bind fun k ν1 => by
  cases k
  · exact hb μ r ν1
  · exact rfl
theorem fr_xNotT {a : XT} (ha : FrT a) : FrT (xNotT a) := fun μ r ν => (ha μ r ν).bind fun k ν1 => rfl
theorem fr_xAnd {a b : XE'} (ha : FrE a) (hb : FrE b) : FrE (xAnd a b) := fun μ r ν => ((ha μ r ν).bind fun d ν1 => fr_asB μ d ν1).bind fun k ν1 => by
  cases k
  · exact rfl
  · exact hb μ r ν1
theorem fr_xOr {a b : XE'} (ha : FrE a) (hb : FrE b) : FrE (xOr a b) := fun μ r ν => ((ha μ r ν).bind fun d ν1 => fr_asB μ d ν1).bind fun k ν1 => by
  cases k
  · exact hb μ r ν1
  · exact rfl
theorem fr_xNot {a : XE'} (ha : FrE a) : FrE (xNot a) := fun μ r ν => ((ha μ r ν).bind fun d ν1 => fr_asB μ d ν1).bind fun k ν1 => rfl
theorem fr_xIf {t : XT} {a b : XE'} (ht : FrT t) (ha : FrE a) (hb : FrE b) : FrE (xIf t a b) := fun μ r ν => (ht μ r ν).bind fun k ν1 => by
  cases k
  · exact hb μ r ν1
  · exact ha μ r ν1
theorem fr_xChain {g g' : D → D → Mu → Out D} {a b k : XE'} (hg : Fr2 g) (hg' : Fr2 g') (ha : FrE a) (hb : FrE b) (hk : FrE k) : FrE (xChain g g' a b k) := fun μ r ν =>
  (ha μ r ν).bind fun x ν1 => (hb μ r ν1).bind fun y ν2 => ((hg μ x y ν2).bind fun d ν1 => fr_asB μ d ν1).bind fun q ν3 => by
    cases q
    · exact rfl
    · exact (hk μ r ν3).bind fun z ν4 => hg' μ y z ν4
theorem fr_xaNil : FrA xaNil := fun μ r ν => rfl
theorem fr_xaCons {a : XE'} {b : XA} (ha : FrE a) (hb : FrA b) : FrA (xaCons a b) := fun μ r ν => (ha μ r ν).bind fun x ν1 => (hb μ r ν1).bind fun xs ν2 => rfl
theorem fr_xTup {a : XA} (ha : FrA a) : FrE (xTup a) := fun μ r ν => (ha μ r ν).bind fun x ν1 => rfl
theorem fr_xLst {a : XA} (ha : FrA a) : FrE (xLst a) := fun μ r ν => (ha μ r ν).bind fun x ν1 => rfl
theorem fr_new (μ : Mu) (ds : List D) (ν : Mu) : FrO μ (if D.inL (shM μ ν).length (D.shL μ.length ds) then Out.ok (D.loc (shM μ ν).length) (shM μ ν ++ [.lst (D.shL μ.length ds)]) else .stuck) (if D.inL ν.length ds then Out.ok (D.loc ν.length) (ν ++ [.lst ds]) else .stuck) := by
  rw [shM_len, inL_sh]
  split
  · exact congrArg (Out.ok _) (shM_app (.lst ds))
  · trivial
theorem fr_xNew {a : XA} (ha : FrA a) : FrE (xNew a) := fun μ r ν => (ha μ r ν).bind fun x ν1 => fr_new μ x ν1

/-! ### operators -/
theorem fr_addD : Fr2 addD := fun μ d e ν => by
  have lists : FrO μ (match ownOf (shM μ ν) (d.sh μ.length), ownOf (shM μ ν) (e.sh μ.length) with
    | some xs, some ys => if xs.length + ys.length ≤ sizeLine then Out.ok (D.lst (xs ++ ys)) (shM μ ν) else .stuck
    | _, _ => .stuck) (match ownOf ν d, ownOf ν e with
    | some xs, some ys => if xs.length + ys.length ≤ sizeLine then .ok (.lst (xs ++ ys)) ν else .stuck
    | _, _ => .stuck) := by
    rw [ownOf_sh, ownOf_sh]
    cases ownOf ν d with
    | none => trivial
    | some xs => cases ownOf ν e with
      | none => trivial
      | some ys =>
        simp only [Option.map_some, shL_len]
        split
        · show _ = Out.ok (D.lst (D.shL μ.length (xs ++ ys))) _
          rw [shL_app]
        · trivial
  cases d <;> cases e <;> try (first | exact lists | trivial)
  · rename_i x y
    unfold addD
    simp only [D.sh]
    split
    · rfl
    · trivial
  · rename_i xs ys
    unfold addD
    simp only [D.sh, shL_len]
    split
    · show _ = Out.ok (D.tup (D.shL μ.length (xs ++ ys))) _
      rw [shL_app]
    · trivial
theorem fr_intD {C : Int → Int → Bool} {g : Int → Int → Int} : Fr2 (intD C g) := fun μ d e ν => by
  cases d <;> try trivial
  cases e <;> try trivial
  rename_i i j
  unfold intD
  simp only [D.sh]
  split
  · rfl
  · trivial
theorem fr_subD : Fr2 subD := fun μ d e ν => by
  cases d <;> try trivial
  cases e <;> trivial
theorem fr_mulD : Fr2 mulD := fun μ d e ν => by
  have lists : ∀ k : Int, FrO μ (match ownOf (shM μ ν) (d.sh μ.length) with
    | some xs => if 0 ≤ k ∧ k < 100000 ∧ xs.length * k.toNat ≤ sizeLine then Out.ok (D.lst (List.replicate k.toNat xs).flatten) (shM μ ν) else .stuck
    | none => .stuck) (match ownOf ν d with
    | some xs => if 0 ≤ k ∧ k < 100000 ∧ xs.length * k.toNat ≤ sizeLine then Out.ok (D.lst (List.replicate k.toNat xs).flatten) ν else .stuck
    | none => .stuck) := fun k => by
    rw [ownOf_sh]
    cases ownOf ν d with
    | none => trivial
    | some xs =>
      simp only [Option.map_some, shL_len]
      split
      · show _ = Out.ok (D.lst (D.shL μ.length _)) _
        simp [shL_map, List.map_flatten]
      · trivial
  cases e <;> try (cases d <;> trivial)
  rename_i k
  cases d <;> try exact lists k
  rename_i i
  unfold mulD
  simp only [D.sh]
  split
  · rfl
  · trivial
theorem fr_modD : Fr2 modD := fr_intD
theorem fr_divD : Fr2 divD := fr_intD
theorem fr_powD : Fr2 powD := fr_intD
theorem fr_cmpD {g : Int → Int → Bool} : Fr2 (cmpD g) := fun μ d e ν => by
  cases d <;> try trivial
  cases e <;> trivial
theorem fr_ltD : Fr2 ltD := fr_cmpD
theorem fr_leD : Fr2 leD := fr_cmpD
theorem fr_gtD : Fr2 gtD := fr_cmpD
theorem fr_geD : Fr2 geD := fr_cmpD
theorem isNon_sh (k : Nat) (d : D) : isNonD (d.sh k) = isNonD d := by cases d <;> rfl
theorem fr_isD : Fr2 isD := fun μ d e ν => by
  cases e <;> try trivial
  show Out.ok _ _ = _
  rw [isNon_sh]
  rfl
theorem fr_isntD : Fr2 isntD := fun μ d e ν => by
  cases e <;> try trivial
  show Out.ok _ _ = _
  rw [isNon_sh]
  rfl
theorem eqB_sh {μ ν : Mu} (d e : D) : eqB (shM μ ν) (d.sh μ.length) (e.sh μ.length) = eqB ν d e := by
  unfold eqB
  rw [dere_sh, dere_sh]
theorem fr_eqD : Fr2 eqD := fun μ d e ν => by
  have gen : FrO μ (match eqB (shM μ ν) (d.sh μ.length) (e.sh μ.length) with
    | some b => Out.ok (D.bl b) (shM μ ν)
    | none => .stuck) (match eqB ν d e with
    | some b => .ok (.bl b) ν
    | none => .stuck) := by
    rw [eqB_sh]
    cases eqB ν d e <;> trivial
  cases d <;> cases e <;> first | exact gen | exact rfl
theorem fr_neD : Fr2 neD := fun μ d e ν => by
  have gen : FrO μ (match eqB (shM μ ν) (d.sh μ.length) (e.sh μ.length) with
    | some b => Out.ok (D.bl (!b)) (shM μ ν)
    | none => .stuck) (match eqB ν d e with
    | some b => .ok (.bl (!b)) ν
    | none => .stuck) := by
    rw [eqB_sh]
    cases eqB ν d e <;> trivial
  cases d <;> cases e <;> first | exact gen | exact rfl
theorem flat_sh (k : Nat) (d : D) : flatD (d.sh k) = flatD d := by cases d <;> rfl
theorem eqF_sh (k : Nat) (d e : D) : eqF (d.sh k) (e.sh k) = eqF d e := by cases d <;> cases e <;> rfl
theorem any_sh (k : Nat) (d : D) (xs : List D) : ((D.shL k xs).any fun y => eqF y (d.sh k)) = xs.any fun y => eqF y d := by
  rw [shL_map, List.any_map]
  congr 1
  funext y
  exact eqF_sh k y d
theorem all_sh (k : Nat) (xs : List D) : (D.shL k xs).all flatD = xs.all flatD := by
  rw [shL_map, List.all_map]
  congr 1
  funext y
  exact flat_sh k y
theorem inB_frame {μ ν : Mu} (d e : D) {b : Bool} (h : DS.inB ν d e = some b) : DS.inB (shM μ ν) (d.sh μ.length) (e.sh μ.length) = some b := by
  have lists : (match lstOf ν e with
    | some xs => if flatD d && xs.all flatD then some (xs.any fun y => eqF y d) else none
    | none => none) = some b → (match lstOf (shM μ ν) (e.sh μ.length) with
    | some xs => if flatD (d.sh μ.length) && xs.all flatD then some (xs.any fun y => eqF y (d.sh μ.length)) else none
    | none => none) = some b := by
    rw [lstOf_sh]
    cases lstOf ν e with
    | none => exact fun z => z
    | some xs =>
      simp only [Option.map_some]
      rw [flat_sh, any_sh, all_sh]
      exact fun z => z
  have tup : ∀ xs, (if flatD d && xs.all flatD then some (xs.any fun y => eqF y d) else none) = some b → (if flatD (d.sh μ.length) && (D.shL μ.length xs).all flatD then some ((D.shL μ.length xs).any fun y => eqF y (d.sh μ.length)) else none) = some b := fun xs => by
    rw [flat_sh, any_sh, all_sh]
    exact fun z => z
  cases e <;> cases d <;> first | exact lists h | exact tup _ h | exact h
theorem fr_inD : Fr2 inD := fun μ d e ν => by
  unfold inD
  cases h : DS.inB ν d e with
  | none => trivial
  | some b => rw [inB_frame d e h]; rfl
theorem fr_ninD : Fr2 ninD := fun μ d e ν => by
  unfold ninD
  cases h : DS.inB ν d e with
  | none => trivial
  | some b => rw [inB_frame d e h]; rfl
theorem atI_sh (k : Nat) (xs : List D) (i : Int) : L2.atI (D.shL k xs) i = (L2.atI xs i).map (D.sh k) := by
  unfold L2.atI
  rw [shL_len]
  cases L2.ixN xs.length i with
  | none => rfl
  | some j => exact shL_get _ _ _
theorem fr_ixD : Fr2 ixD := fun μ d e ν => by
  cases e <;> try (cases d <;> trivial)
  rename_i i
  have at_ : ∀ xs : List D, FrO μ (match L2.atI (D.shL μ.length xs) i with
      | some v => Out.ok v (shM μ ν)
      | none => .stuck) (match L2.atI xs i with
      | some v => .ok v ν
      | none => .stuck) := fun xs => by
    rw [atI_sh]
    cases L2.atI xs i <;> trivial
  have lists : FrO μ (match lstOf (shM μ ν) (d.sh μ.length) with
      | some xs => (match L2.atI xs i with
        | some v => Out.ok v (shM μ ν)
        | none => .stuck)
      | none => .stuck) (match lstOf ν d with
      | some xs => (match L2.atI xs i with
        | some v => .ok v ν
        | none => .stuck)
      | none => .stuck) := by
    rw [lstOf_sh]
    cases lstOf ν d with
    | none => trivial
    | some xs => exact at_ xs
  cases d <;> first | exact lists | exact at_ _ | skip
  rename_i z
  unfold ixD
  simp only [D.sh]
  split
  · cases L2.atI z.cps.toList i <;> trivial
  · trivial
theorem fr_xoN : FrI xoN := fun μ r ν => rfl
theorem fr_xoS {a : XE'} (ha : FrE a) : FrI (xoS a) := fun μ r ν => (ha μ r ν).bind fun d ν1 => by cases d <;> trivial
theorem cut_sh (k : Nat) (xs : List D) (lo hi : Option Int) : cutD (D.shL k xs) lo hi = D.shL k (cutD xs lo hi) := by
  unfold cutD
  rw [shL_len, shL_map, shL_map, List.map_take, List.map_drop]
theorem fr_slD (μ : Mu) (d : D) (lo hi : Option Int) (ν : Mu) : FrO μ (slD (d.sh μ.length) lo hi (shM μ ν)) (slD d lo hi ν) := by
  have lists : FrO μ (match lstOf (shM μ ν) (d.sh μ.length) with
    | some xs => Out.ok (D.lst (cutD xs lo hi)) (shM μ ν)
    | none => .stuck) (match lstOf ν d with
    | some xs => .ok (.lst (cutD xs lo hi)) ν
    | none => .stuck) := by
    rw [lstOf_sh]
    cases lstOf ν d with
    | none => trivial
    | some xs =>
      show Out.ok (D.lst (cutD (D.shL μ.length xs) lo hi)) _ = _
      rw [cut_sh]
      rfl
  cases d <;> try exact lists
  · unfold slD
    simp only [D.sh]
    split <;> trivial
  · rename_i xs
    show Out.ok (D.tup (cutD (D.shL μ.length xs) lo hi)) _ = _
    rw [cut_sh]
    rfl
theorem fr_xSl {a : XE'} {lo hi : XO} (ha : FrE a) (hl : FrI lo) (hh : FrI hi) : FrE (xSl a lo hi) := fun μ r ν =>
  (ha μ r ν).bind fun d ν1 => (hl μ r ν1).bind fun l ν2 => (hh μ r ν2).bind fun h ν3 => fr_slD μ d l h ν3
theorem fr_xFld (cn f : Str) {a : XE'} (ha : FrE a) : FrE (xFld cn f a) := fun μ r ν => (ha μ r ν).bind fun d ν1 => by
  show FrO μ (fldD cn f (d.sh μ.length) (shM μ ν1)) (fldD cn f d ν1)
  unfold fldD
  rw [insOf_sh]
  cases insOf ν1 d with
  | none => trivial
  | some p =>
    simp only [Option.map_some, shF_look]
    split
    · cases p.2.lookup f <;> trivial
    · trivial
theorem fr_xCall {G : Fn} {a : XA} (hG : FrF G) (ha : FrA a) : FrE (xCall G a) := fun μ r ν => (ha μ r ν).bind fun d ν1 => hG μ d ν1
theorem fr_xMeth (cn m : Str) {G : Fn} {o : XE'} {a : XA} (hG : FrF G) (ho : FrE o) (ha : FrA a) : FrE (xMeth cn m G o a) := fun μ r ν => (ho μ r ν).bind fun d ν1 => by
  show FrO μ (match insOf (shM μ ν1) (d.sh μ.length) with
  | some (c', gs) => if c' = cn ∧ gs.lookup m = none then (a (shR μ.length r) (shM μ ν1)).bind fun ds m2 => G (d.sh μ.length :: ds) m2 else .stuck
  | none => .stuck) _
  rw [insOf_sh]
  cases insOf ν1 d with
  | none => trivial
  | some p =>
    simp only [Option.map_some, shF_look, Option.map_eq_none_iff]
    split
    · exact (ha μ r ν1).bind fun ds ν2 => hG μ (d :: ds) ν2
    · trivial
theorem fr_xProp (cn : Str) {G : Fn} {o : XE'} (hG : FrF G) (ho : FrE o) : FrE (xProp cn G o) := fun μ r ν => (ho μ r ν).bind fun d ν1 => by
  show FrO μ (match insOf (shM μ ν1) (d.sh μ.length) with
  | some (c', _) => if c' = cn then (match G [d.sh μ.length] (shM μ ν1) with
    | .exc _ _ _ => .stuck
    | q => q) else .stuck
  | none => .stuck) _
  rw [insOf_sh]
  cases insOf ν1 d with
  | none => trivial
  | some p =>
    simp only [Option.map_some]
    split
    · have h := hG μ [d] ν1
      cases e : G [d] ν1 with
      | ok a ν2 =>
        rw [e] at h
        rw [show G [d.sh μ.length] (shM μ ν1) = _ from h]
        rfl
      | exc c fs ν2 => trivial
      | stuck => trivial
    · trivial
theorem fr_madeD (cn : Str) (frz : Bool) (n : Nat) (μ : Mu) (d : D) (ν : Mu) : FrO μ (madeD cn frz (μ.length + n) (d.sh μ.length) (shM μ ν)) (madeD cn frz n d ν) := by
  cases d <;> try trivial
  show FrO μ (match (shM μ ν)[μ.length + n]? with
    | some (.ins c' gs) => if c' = cn then (if frz then Out.ok (D.obj cn gs) ((shM μ ν).take (μ.length + n)) else .ok (.loc (μ.length + n)) (shM μ ν)) else .stuck
    | _ => .stuck) (match ν[n]? with
    | some (.ins c' gs) => if c' = cn then (if frz then Out.ok (D.obj cn gs) (ν.take n) else .ok (.loc n) ν) else .stuck
    | _ => .stuck)
  rw [shM_get]
  cases ν[n]? with
  | none => trivial
  | some c => cases c with
    | ins c' gs =>
      simp only [Option.map_some, Cell.sh]
      split
      · cases frz
        · rfl
        · exact congrArg (Out.ok _) (shM_take n)
      · trivial
    | _ => trivial
theorem fr_makeD (cn : Str) {G : Fn} (frz : Bool) (hG : FrF G) : FrF (makeD cn G frz) := fun μ ds ν => by
  unfold makeD
  refine FrO.bind (μ := μ) ?_ fun d ν2 => ?_
  · have h := hG μ (.loc ν.length :: ds) (ν ++ [.ins cn []])
    rw [← shM_app] at h
    rw [shM_len]
    exact h
  · rw [shM_len]
    exact fr_madeD cn frz ν.length μ d ν2
theorem fr_xMake (cn : Str) {G : Fn} (hG : FrF G) (frz : Bool) {a : XA} (ha : FrA a) : FrE (xMake cn G frz a) := fun μ r ν => (ha μ r ν).bind fun ds ν1 => fr_makeD cn frz hG μ ds ν1
theorem fr_xMakeD (cn : Str) {G : Fn} (hG : FrF G) (frz : Bool) (dds : List D) {a : XA} (ha : FrA a) (hd : D.inL 0 dds = true := by rfl) : FrE (xMakeD cn G frz dds a) := fun μ r ν => (ha μ r ν).bind fun ds ν1 => by
  have h := fr_makeD cn frz hG μ (ds ++ dds) ν1
  rw [shL_app, shL_id _ dds hd] at h
  exact h
theorem fr_xMakeK (cn : Str) {G : Fn} (hG : FrF G) (frz : Bool) (mid : List D) {a b : XA} (ha : FrA a) (hb : FrA b) (hd : D.inL 0 mid = true := by rfl) : FrE (xMakeK cn G frz mid a b) := fun μ r ν => (ha μ r ν).bind fun ds ν1 => (hb μ r ν1).bind fun zs ν2 => by
  have h := fr_makeD cn frz hG μ (ds ++ (mid ++ zs)) ν2
  rw [shL_app, shL_app, shL_id _ mid hd] at h
  exact h
theorem fr_xCallK {G : Fn} {sh : List D → List D} {b : XA} (hG : FrF G) (hs : ∀ k l, D.shL k (sh l) = sh (D.shL k l)) (hb : FrA b) : FrE (xCallK G sh b) := fun μ r ν => (hb μ r ν).bind fun zs ν1 => by
  have h := hG μ (sh zs) ν1
  rw [hs] at h
  exact h

/-! ### statements, targets -/
theorem fr_sNil : FrB sNil := fun μ r ν => rfl
theorem fr_sCont : FrB sCont := fun μ r ν => rfl
theorem fr_sNever : FrB sNever := fun μ r ν => trivial
theorem fr_sSeq {f g : XS} (hf : FrB f) (hg : FrB g) : FrB (sSeq f g) := fun μ r ν => by
  have h := hf μ r ν
  unfold sSeq
  cases e : f r ν <;> rw [e] at h
  · rw [show f (shR μ.length r) (shM μ ν) = _ from h]
    exact hg μ _ _
  · rw [show f (shR μ.length r) (shM μ ν) = _ from h]; rfl
  · rw [show f (shR μ.length r) (shM μ ν) = _ from h]; rfl
  · rw [show f (shR μ.length r) (shM μ ν) = _ from h]; rfl
  · rw [show f (shR μ.length r) (shM μ ν) = _ from h]; rfl
  · trivial
theorem fr_sExpr {f : XE'} (hf : FrE f) : FrB (sExpr f) := fun μ r ν => (hf μ r ν).stm fun d ν1 => rfl
theorem fr_sRet {f : XE'} (hf : FrE f) : FrB (sRet f) := fun μ r ν => (hf μ r ν).stm fun d ν1 => rfl
theorem fr_sIf {t : XT} {f g : XS} (ht : FrT t) (hf : FrB f) (hg : FrB g) : FrB (sIf t f g) := fun μ r ν => (ht μ r ν).stm fun k ν1 => by
  cases k
  · exact hg μ r ν1
  · exact hf μ r ν1
theorem fr_gNm (i : Nat) : FrG (gNm i) := fun μ d r ν => by
  show Out.ok _ _ = _
  rw [shR_set]
  rfl
theorem fr_gsNil : FrGs gsNil := fun μ d r ν => by cases d <;> trivial
theorem fr_gsCons {g : XG} {gs : XGs} (hg : FrG g) (hs : FrGs gs) : FrGs (gsCons g gs) := fun μ d r ν => by
  cases d with
  | nil => trivial
  | cons d ds => exact (hg μ d r ν).bind fun r1 ν1 => hs μ ds r1 ν1
theorem fr_gTp (n : Nat) {g : XGs} (hg : FrGs g) : FrG (gTp n g) := fun μ d r ν => by
  cases d <;> try trivial
  all_goals
    unfold gTp
    simp only [D.sh, shL_len]
    split
    · exact hg μ _ r ν
    · trivial
theorem fr_setD (μ : Mu) (o i d : D) (ν : Mu) : FrO μ (setD (o.sh μ.length) (i.sh μ.length) (d.sh μ.length) (shM μ ν)) (setD o i d ν) := by
  cases o <;> try trivial
  cases i <;> try trivial
  rename_i n k
  unfold setD
  simp only [D.sh, shM_get, inB_sh]
  cases ν[n]? with
  | none => trivial
  | some c => cases c with
    | lst xs =>
      simp only [Option.map_some, Cell.sh, shL_len]
      cases L2.ixN xs.length k with
      | none => trivial
      | some j =>
        simp only
        split
        · have h := shM_set (μ := μ) (ν := ν) n (.lst (xs.set j d))
          rw [Cell.sh, shL_map, List.map_set, ← shL_map] at h
          exact congrArg (Out.ok _) h
        · trivial
    | _ => trivial
theorem fr_gSb {o i : XE'} (ho : FrE o) (hi : FrE i) : FrG (gSb o i) := fun μ d r ν => (ho μ r ν).bind fun ov ν1 => (hi μ r ν1).bind fun iv ν2 => (fr_setD μ ov iv d ν2).bind fun _ ν3 => rfl
theorem fr_sAsg {f : XE'} {g : XG} (hf : FrE f) (hg : FrG g) : FrB (sAsg f g) := fun μ r ν => (hf μ r ν).stm fun d ν1 => (hg μ d r ν1).stm fun r' ν2 => rfl
theorem fr_sPar (i j : Nat) {a : XA} (ha : FrA a) : FrB (sPar i j a) := fun μ r ν => (ha μ r ν).stm fun ds ν1 => by
  rcases ds with _ | ⟨x, _ | ⟨y, _ | ⟨z, l⟩⟩⟩ <;> try trivial
  show SO.next (((shR μ.length r).set i (some (x.sh _))).set j (some (y.sh _))) _ = _
  rw [shR_set, shR_set]
theorem fr_sPar3 (i j l : Nat) {a : XA} (ha : FrA a) : FrB (sPar3 i j l a) := fun μ r ν => (ha μ r ν).stm fun ds ν1 => by
  rcases ds with _ | ⟨x, _ | ⟨y, _ | ⟨z, _ | ⟨w, q⟩⟩⟩⟩ <;> try trivial
  show SO.next ((((shR μ.length r).set i (some (x.sh _))).set j (some (y.sh _))).set l (some (z.sh _))) _ = _
  rw [shR_set, shR_set, shR_set]
theorem put_sh (k : Nat) (f : Str) (d : D) : ∀ gs, putD f (d.sh k) (D.shF k gs) = D.shF k (putD f d gs)
  | [] => rfl
  | (x, y) :: r => by
    rw [D.shF, putD, putD]
    split
    · rfl
    · rw [put_sh k f d r]; rfl
theorem fr_putC (cn f : Str) (μ : Mu) (o q : D) (ν : Mu) : FrO μ (putC cn f (o.sh μ.length) (q.sh μ.length) (shM μ ν)) (putC cn f o q ν) := by
  cases o <;> try trivial
  rename_i n
  unfold putC
  simp only [D.sh, shM_get, inB_sh]
  cases ν[n]? with
  | none => trivial
  | some c => cases c with
    | ins c' gs =>
      simp only [Option.map_some, Cell.sh, shF_len]
      split
      · have h := shM_set (μ := μ) (ν := ν) n (.ins cn (putD f q gs))
        rw [Cell.sh, ← put_sh] at h
        exact congrArg (Out.ok _) h
      · trivial
    | _ => trivial
theorem fr_sFl (cn f : Str) {o v : XE'} (ho : FrE o) (hv : FrE v) : FrB (sFl cn f o v) := fun μ r ν => (hv μ r ν).stm fun q ν1 => (ho μ r ν1).stm fun od ν2 => (fr_putC cn f μ od q ν2).stm fun _ ν3 => rfl
theorem fr_sAug (i : Nat) {f : XE'} (hf : FrE f) : FrB (sAug i f) := fun μ r ν => by
  unfold sAug
  rw [shR_get]
  cases r[i]? with
  | none => trivial
  | some o => cases o with
    | none => trivial
    | some x =>
      refine (hf μ r ν).stm fun y ν1 => ?_
      cases x <;> try trivial
      cases y <;> try trivial
      rename_i p q
      show SO.next ((shR μ.length r).set i (some (D.sh μ.length (.int (p + q))))) _ = _
      rw [shR_set]
theorem fr_seqD (μ : Mu) (d : D) (ν : Mu) : FrO μ (seqD (d.sh μ.length) (shM μ ν)) (seqD d ν) := by
  cases d <;> try trivial
  rename_i z
  show _ = Out.ok (D.shL _ _) _
  rw [shL_map, List.map_map]
  rfl
theorem fr_xiSeq {f : XE'} (hf : FrE f) : FrA (xiSeq f) := fun μ r ν => (hf μ r ν).bind fun d ν1 => fr_seqD μ d ν1
theorem rng_sh (k : Nat) (lo : Int) (n : Nat) : D.shL k (rngL lo n) = rngL lo n := by
  rw [shL_map, rngL, List.map_map]
  rfl
theorem fr_rngD1 (μ : Mu) (ds : List D) (ν : Mu) : FrO μ (rngD1 (D.shL μ.length ds) (shM μ ν)) (rngD1 ds ν) := by
  rcases ds with _ | ⟨x, _ | ⟨y, l⟩⟩ <;> try trivial
  · cases x <;> try trivial
    unfold rngD1
    simp only [D.shL, D.sh]
    split
    · show _ = Out.ok (D.shL _ _) _
      rw [rng_sh]
    · trivial
  · cases x <;> trivial
theorem fr_rngD2 (μ : Mu) (ds : List D) (ν : Mu) : FrO μ (rngD2 (D.shL μ.length ds) (shM μ ν)) (rngD2 ds ν) := by
  rcases ds with _ | ⟨x, _ | ⟨y, _ | ⟨z, l⟩⟩⟩ <;> try trivial
  · cases x <;> trivial
  · cases x <;> try trivial
    cases y <;> try trivial
    unfold rngD2
    simp only [D.shL, D.sh]
    split
    · show _ = Out.ok (D.shL _ _) _
      rw [rng_sh]
    · trivial
  · cases x <;> try trivial
    cases y <;> trivial
theorem fr_xiRng1 {f : XA} (hf : FrA f) : FrA (xiRng1 f) := fun μ r ν => (hf μ r ν).bind fun d ν1 => fr_rngD1 μ d ν1
theorem fr_xiRng2 {f : XA} (hf : FrA f) : FrA (xiRng2 f) := fun μ r ν => (hf μ r ν).bind fun d ν1 => fr_rngD2 μ d ν1
theorem enum_sh (k : Nat) : ∀ (i : Nat) (xs : List D), enumL i (D.shL k xs) = D.shL k (enumL i xs)
  | _, [] => rfl
  | i, x :: r => by rw [D.shL, enumL, enumL, D.shL, enum_sh k (i + 1) r]; rfl
theorem fr_xiEnum {f : XA} (hf : FrA f) : FrA (xiEnum f) := fun μ r ν => (hf μ r ν).bind fun ds ν1 => by
  rcases ds with _ | ⟨x, _ | ⟨y, l⟩⟩ <;> try trivial
  · cases x <;> try trivial
    all_goals
      show Out.ok (enumL 0 (D.shL _ _)) _ = _
      rw [enum_sh]
      rfl
  · cases x <;> trivial
theorem fr_xiEnum' {f : XA} (hf : FrA f) : FrA (xiEnum' f) := fun μ r ν => (hf μ r ν).bind fun ds ν1 => by
  rcases ds with _ | ⟨x, _ | ⟨y, l⟩⟩ <;> try trivial
  · cases x <;> try trivial
    all_goals
      show Out.ok (enumL 0 (D.shL _ _)) _ = _
      rw [enum_sh]
      rfl
  · cases x <;> trivial
theorem zip_sh (k : Nat) : ∀ (xs ys : List D), zipL (D.shL k xs) (D.shL k ys) = D.shL k (zipL xs ys)
  | [], _ => by simp [D.shL, zipL]
  | _ :: _, [] => by simp [D.shL, zipL]
  | x :: r, y :: s => by rw [D.shL, D.shL, zipL, zipL, D.shL, zip_sh k r s]; rfl
theorem fr_xiZip {f : XA} (hf : FrA f) : FrA (xiZip f) := fun μ r ν => (hf μ r ν).bind fun ds ν1 => by
  rcases ds with _ | ⟨x, _ | ⟨y, _ | ⟨z, l⟩⟩⟩ <;> try trivial
  · cases x <;> trivial
  · cases x <;> try trivial
    cases y <;> try trivial
    show Out.ok (zipL (D.shL _ _) (D.shL _ _)) _ = _
    rw [zip_sh]
    rfl
  · cases x <;> try trivial
    cases y <;> trivial
theorem fr_loopF {g : XG} {body : XS} (hg : FrG g) (hb : FrB body) (μ : Mu) : ∀ (xs : List D) (r : Rho) (ν : Mu), FrS μ (loopF g body (D.shL μ.length xs) (shR μ.length r) (shM μ ν)) (loopF g body xs r ν)
  | [], r, ν => rfl
  | x :: xs, r, ν => by
    rw [D.shL, loopF, loopF]
    refine (hg μ x r ν).stm fun r1 ν1 => ?_
    have h := hb μ r1 ν1
    show FrS μ (match body (shR μ.length r1) (shM μ ν1) with
      | .next r2 m2 => loopF g body (D.shL μ.length xs) r2 m2
      | .cont r2 m2 => loopF g body (D.shL μ.length xs) r2 m2
      | .brk r2 m2 => .next r2 m2
      | o => o) _
    cases e : body r1 ν1 <;> rw [e] at h
    · rw [show body (shR μ.length r1) (shM μ ν1) = _ from h]; exact fr_loopF hg hb μ xs _ _
    · rw [show body (shR μ.length r1) (shM μ ν1) = _ from h]; rfl
    · rw [show body (shR μ.length r1) (shM μ ν1) = _ from h]; rfl
    · rw [show body (shR μ.length r1) (shM μ ν1) = _ from h]; exact fr_loopF hg hb μ xs _ _
    · rw [show body (shR μ.length r1) (shM μ ν1) = _ from h]; rfl
    · trivial
theorem fr_sFor {f : XA} {g : XG} {body : XS} (hf : FrA f) (hg : FrG g) (hb : FrB body) : FrB (sFor f g body) := fun μ r ν => (hf μ r ν).stm fun xs ν1 => fr_loopF hg hb μ xs r ν1
theorem fr_loopW {t : XT} {body : XS} (ht : FrT t) (hb : FrB body) : ∀ n, FrB (loopW t body n)
  | 0 => fun μ r ν => trivial
  | n + 1 => fun μ r ν => by
    rw [loopW, loopW]
    refine (ht μ r ν).stm fun k ν1 => ?_
    cases k
    · rfl
    · have h := hb μ r ν1
      show FrS μ (match body (shR μ.length r) (shM μ ν1) with
        | .next r2 m2 => loopW t body n r2 m2
        | .cont r2 m2 => loopW t body n r2 m2
        | .brk r2 m2 => .next r2 m2
        | o => o) (match body r ν1 with
        | .next r2 m2 => loopW t body n r2 m2
        | .cont r2 m2 => loopW t body n r2 m2
        | .brk r2 m2 => .next r2 m2
        | o => o)
      cases e : body r ν1 <;> rw [e] at h
      · rw [show body (shR μ.length r) (shM μ ν1) = _ from h]; exact fr_loopW ht hb n μ _ _
      · rw [show body (shR μ.length r) (shM μ ν1) = _ from h]; rfl
      · rw [show body (shR μ.length r) (shM μ ν1) = _ from h]; rfl
      · rw [show body (shR μ.length r) (shM μ ν1) = _ from h]; exact fr_loopW ht hb n μ _ _
      · rw [show body (shR μ.length r) (shM μ ν1) = _ from h]; rfl
      · trivial

/-! ### comprehensions -/
theorem fr_xYes : FrT xYes := fun μ r ν => rfl
theorem fr_pushD (n : Nat) (d : D) (μ ν : Mu) : FrO μ (pushD (μ.length + n) (d.sh μ.length) (shM μ ν)) (pushD n d ν) := by
  unfold pushD
  rw [shM_get]
  cases ν[n]? with
  | none => trivial
  | some c => cases c with
    | lst acc =>
      simp only [Option.map_some, Cell.sh, inB_sh, shL_len]
      split
      · have h := shM_set (μ := μ) (ν := ν) n (.lst (acc ++ [d]))
        rw [Cell.sh, shL_app] at h
        exact congrArg (Out.ok _) h
      · trivial
    | _ => trivial
theorem fr_lcF {g : XG} {tt : XT} {te : XE'} (hg : FrG g) (ht : FrT tt) (he : FrE te) (μ : Mu) (n : Nat) (r0 : Rho) : ∀ (xs : List D) (ν : Mu), FrO μ (lcF g tt te (μ.length + n) (shR μ.length r0) (D.shL μ.length xs) (shM μ ν)) (lcF g tt te n r0 xs ν)
  | [], ν => rfl
  | x :: xs, ν => by
    rw [D.shL, lcF, lcF]
    refine (hg μ x r0 ν).ne.bind fun r1 ν1 => (ht μ r1 ν1).ne.bind fun b ν2 => ?_
    cases b
    · exact fr_lcF hg ht he μ n r0 xs ν2
    · exact (he μ r1 ν2).ne.bind fun d ν3 => (fr_pushD n d μ ν3).bind fun _ ν4 => fr_lcF hg ht he μ n r0 xs ν4
theorem fr_lcEnd (n : Nat) (μ ν : Mu) : FrO μ (lcEnd (μ.length + n) (shM μ ν)) (lcEnd n ν) := by
  unfold lcEnd
  rw [shM_get]
  cases ν[n]? with
  | none => trivial
  | some c => cases c with
    | lst acc => exact congrArg (Out.ok _) (shM_take n)
    | _ => trivial
theorem fr_xLc {f : XA} {g : XG} {tt : XT} {te : XE'} (hf : FrA f) (vs : List Nat) (hg : FrG g) (ht : FrT tt) (he : FrE te) : FrE (xLc f vs g tt te) := fun μ r ν => (hf μ r ν).bind fun xs ν1 => by
  show FrO μ (lcD g tt te (wipeR (shR μ.length r) vs) (D.shL μ.length xs) (shM μ ν1)) (lcD g tt te (wipeR r vs) xs ν1)
  unfold lcD
  rw [shR_wipe, shM_len]
  refine FrO.bind ?_ fun _ ν2 => fr_lcEnd ν1.length μ ν2
  have h := fr_lcF hg ht he μ ν1.length (wipeR r vs) xs (ν1 ++ [.lst []])
  rw [← shM_app] at h
  exact h
theorem fr_dputD (n : Nat) (k d : D) (μ ν : Mu) : FrO μ (dputD (μ.length + n) (k.sh μ.length) (d.sh μ.length) (shM μ ν)) (dputD n k d ν) := by
  unfold dputD
  rw [shM_get]
  cases ν[n]? with
  | none => trivial
  | some c => cases c with
    | dct gs =>
      cases k <;> try trivial
      rename_i f
      simp only [Option.map_some, Cell.sh, inB_sh, shF_len, shF_look, Option.map_eq_none_iff, D.sh]
      split
      · have h := shM_set (μ := μ) (ν := ν) n (.dct (gs ++ [(f, d)]))
        have e : ∀ gs : List (Str × D), D.shF μ.length (gs ++ [(f, d)]) = D.shF μ.length gs ++ [(f, d.sh μ.length)] := fun gs => by
          induction gs with
          | nil => rfl
          | cons p r ih => rw [List.cons_append, D.shF, D.shF, ih]; rfl
        rw [Cell.sh, e] at h
        exact congrArg (Out.ok _) h
      · trivial
    | _ => trivial
theorem fr_dcF {g : XG} {tk te : XE'} (hg : FrG g) (ht : FrE tk) (he : FrE te) (μ : Mu) (n : Nat) (r0 : Rho) : ∀ (xs : List D) (ν : Mu), FrO μ (dcF g tk te (μ.length + n) (shR μ.length r0) (D.shL μ.length xs) (shM μ ν)) (dcF g tk te n r0 xs ν)
  | [], ν => rfl
  | x :: xs, ν => by
    rw [D.shL, dcF, dcF]
    exact (hg μ x r0 ν).ne.bind fun r1 ν1 => (ht μ r1 ν1).ne.bind fun k ν2 => (he μ r1 ν2).ne.bind fun d ν3 => (fr_dputD n k d μ ν3).bind fun _ ν4 => fr_dcF hg ht he μ n r0 xs ν4
theorem fr_dcEnd (n : Nat) (μ ν : Mu) : FrO μ (dcEnd (μ.length + n) (shM μ ν)) (dcEnd n ν) := by
  unfold dcEnd
  rw [shM_get]
  cases ν[n]? with
  | none => trivial
  | some c => cases c with
    | dct acc => exact congrArg (Out.ok _) (shM_take n)
    | _ => trivial
theorem fr_xDc {f : XA} {g : XG} {tk te : XE'} (hf : FrA f) (vs : List Nat) (hg : FrG g) (ht : FrE tk) (he : FrE te) : FrE (xDc f vs g tk te) := fun μ r ν => (hf μ r ν).bind fun xs ν1 => by
  show FrO μ ((dcF g tk te (shM μ ν1).length (wipeR (shR μ.length r) vs) (D.shL μ.length xs) (shM μ ν1 ++ [.dct []])).bind fun _ m2 => dcEnd (shM μ ν1).length m2) _
  rw [shR_wipe, shM_len]
  refine FrO.bind ?_ fun _ ν2 => fr_dcEnd ν1.length μ ν2
  have h := fr_dcF hg ht he μ ν1.length (wipeR r vs) xs (ν1 ++ [.dct []])
  rw [← shM_app] at h
  exact h

/-! ### built-ins -/
theorem fr_lenD : FrF lenD := fun μ ds ν => by
  rcases ds with _ | ⟨d, _ | ⟨e, l⟩⟩ <;> try trivial
  · have lists : FrO μ (match lstOf (shM μ ν) (d.sh μ.length) with
      | some xs => Out.ok (D.int xs.length) (shM μ ν)
      | none => .stuck) (match lstOf ν d with
      | some xs => .ok (.int xs.length) ν
      | none => .stuck) := by
      rw [lstOf_sh]
      cases lstOf ν d with
      | none => trivial
      | some xs => simp only [Option.map_some, shL_len]; rfl
    cases d <;> try exact lists
    · unfold lenD
      simp only [D.shL, D.sh]
      split <;> trivial
    · unfold lenD
      simp only [D.shL, D.sh, shL_len]
      rfl
  · cases d <;> trivial
theorem fr_intF : FrF intF := fun μ ds ν => by
  rcases ds with _ | ⟨d, _ | ⟨e, l⟩⟩ <;> try trivial
  · cases d <;> try trivial
    rename_i z
    unfold intF
    simp only [D.shL, D.sh]
    cases PySem.intText? z with
    | none => trivial
    | some n =>
      simp only
      split <;> trivial
  · cases d <;> trivial
theorem fr_strF : FrF strF := fun μ ds ν => by
  rcases ds with _ | ⟨d, _ | ⟨e, l⟩⟩ <;> try trivial
  · cases d <;> try trivial
    unfold strF
    simp only [D.shL, D.sh]
    split <;> trivial
  · cases d <;> trivial
theorem fr_absF : FrF absF := fun μ ds ν => by
  rcases ds with _ | ⟨d, _ | ⟨e, l⟩⟩ <;> try trivial
  all_goals cases d <;> trivial
theorem ints_sh (k : Nat) : ∀ xs, intsL (D.shL k xs) = intsL xs
  | [] => rfl
  | x :: r => by
    have ih := ints_sh k r
    cases x <;> try rfl
    rw [D.shL, D.sh, intsL, intsL, ih]
theorem bs_sh (k : Nat) : ∀ xs, bsL (D.shL k xs) = bsL xs
  | [] => rfl
  | x :: r => by
    have ih := bs_sh k r
    cases x <;> try rfl
    rw [D.shL, D.sh, bsL, bsL, ih]
theorem strs_sh (k : Nat) : ∀ xs, strsL (D.shL k xs) = strsL xs
  | [] => rfl
  | x :: r => by
    have ih := strs_sh k r
    cases x <;> try rfl
    rw [D.shL, D.sh, strsL, strsL, ih]
theorem fr_lstq {α : Type} [Shf α] {μ ν : Mu} {d : D} {k : Mu → List D → Out α} (h : ∀ xs, FrO μ (k (shM μ ν) (D.shL μ.length xs)) (k ν xs)) : FrO μ (match lstOf (shM μ ν) (d.sh μ.length) with
      | some xs => k (shM μ ν) xs
      | none => .stuck) (match lstOf ν d with
      | some xs => k ν xs
      | none => .stuck) := by
  rw [lstOf_sh]
  cases lstOf ν d with
  | none => trivial
  | some xs => exact h xs
theorem fr_seqq {α : Type} [Shf α] {μ ν : Mu} {d : D} {k : Mu → List D → Out α} (h : ∀ xs, FrO μ (k (shM μ ν) (D.shL μ.length xs)) (k ν xs)) : FrO μ (match seqOf (shM μ ν) (d.sh μ.length) with
      | some xs => k (shM μ ν) xs
      | none => .stuck) (match seqOf ν d with
      | some xs => k ν xs
      | none => .stuck) := by
  rw [seqOf_sh]
  cases seqOf ν d with
  | none => trivial
  | some xs => exact h xs
theorem fr_sumF : FrF sumF := fun μ ds ν => by
  rcases ds with _ | ⟨d, _ | ⟨e, l⟩⟩ <;> try trivial
  exact fr_lstq (k := fun m xs => match intsL xs with
      | some ns => .ok (D.int ns.sum) m
      | _ => .stuck) fun xs => by
    show FrO μ (match intsL (D.shL μ.length xs) with
      | some ns => Out.ok (D.int ns.sum) (shM μ ν)
      | _ => .stuck) _
    rw [ints_sh]
    cases intsL xs <;> trivial
theorem fr_allF : FrF allF := fun μ ds ν => by
  rcases ds with _ | ⟨d, _ | ⟨e, l⟩⟩ <;> try trivial
  exact fr_lstq (k := fun m xs => match bsL xs with
      | some ns => .ok (D.bl (ns.all id)) m
      | _ => .stuck) fun xs => by
    show FrO μ (match bsL (D.shL μ.length xs) with
      | some ns => Out.ok (D.bl (ns.all id)) (shM μ ν)
      | _ => .stuck) _
    rw [bs_sh]
    cases bsL xs <;> trivial
theorem fr_anyF : FrF anyF := fun μ ds ν => by
  rcases ds with _ | ⟨d, _ | ⟨e, l⟩⟩ <;> try trivial
  exact fr_lstq (k := fun m xs => match bsL xs with
      | some ns => .ok (D.bl (ns.any id)) m
      | _ => .stuck) fun xs => by
    show FrO μ (match bsL (D.shL μ.length xs) with
      | some ns => Out.ok (D.bl (ns.any id)) (shM μ ν)
      | _ => .stuck) _
    rw [bs_sh]
    cases bsL xs <;> trivial
theorem fr_maxF : FrF maxF := fun μ ds ν => by
  rcases ds with _ | ⟨d, _ | ⟨e, _ | ⟨f, l⟩⟩⟩ <;> try trivial
  · have lists : FrO μ (match lstOf (shM μ ν) (d.sh μ.length) with
      | some xs => (match intsL xs with
        | some (i :: r) => Out.ok (D.int (maxL i r)) (shM μ ν)
        | _ => .stuck)
      | none => .stuck) (match lstOf ν d with
      | some xs => (match intsL xs with
        | some (i :: r) => .ok (.int (maxL i r)) ν
        | _ => .stuck)
      | none => .stuck) := by
      rw [lstOf_sh]
      cases lstOf ν d with
      | none => trivial
      | some xs =>
        simp only [Option.map_some, ints_sh]
        rcases intsL xs with _ | ⟨_ | ⟨i, r⟩⟩ <;> trivial
    cases d <;> exact lists
  · cases d <;> try trivial
    cases e <;> trivial
  · cases d <;> try trivial
    cases e <;> trivial
theorem fr_minF : FrF minF := fun μ ds ν => by
  rcases ds with _ | ⟨d, _ | ⟨e, _ | ⟨f, l⟩⟩⟩ <;> try trivial
  · cases d <;> trivial
  · cases d <;> try trivial
    cases e <;> trivial
  · cases d <;> try trivial
    cases e <;> trivial
theorem fr_tupF : FrF tupF := fun μ ds ν => by
  rcases ds with _ | ⟨d, _ | ⟨e, l⟩⟩ <;> try trivial
  · have lists := fr_lstq (μ := μ) (ν := ν) (d := d) (k := fun m xs => .ok (D.tup xs) m) fun xs => rfl
    cases d <;> first | exact lists | exact rfl
  · cases d <;> trivial
theorem fr_lstF : FrF lstF := fun μ ds ν => by
  rcases ds with _ | ⟨d, _ | ⟨e, l⟩⟩ <;> try trivial
  exact fr_seqq (k := fun m xs => .ok (D.lst xs) m) fun xs => rfl
theorem fr_newF : FrF newF := fun μ ds ν => by
  rcases ds with _ | ⟨d, _ | ⟨e, l⟩⟩ <;> try trivial
  exact fr_seqq (k := fun m xs => if D.inL m.length xs then .ok (D.loc m.length) (m ++ [.lst xs]) else .stuck) fun xs => fr_new μ xs ν
theorem fr_dmF : FrF dmF := fun μ ds ν => by
  rcases ds with _ | ⟨d, _ | ⟨e, _ | ⟨f, l⟩⟩⟩ <;> try trivial
  · cases d <;> trivial
  · cases d <;> try trivial
    cases e <;> try trivial
    unfold dmF
    simp only [D.shL, D.sh]
    split <;> trivial
  · cases d <;> try trivial
    cases e <;> trivial
theorem ty_sh {μ ν : Mu} (T : String) (d : D) : tyD T (shM μ ν) (d.sh μ.length) = tyD T ν d := by
  have lists : (T == "list" && (lstOf (shM μ ν) (d.sh μ.length)).isSome) = (T == "list" && (lstOf ν d).isSome) := by
    rw [lstOf_sh, Option.isSome_map]
  cases d <;> first | exact lists | rfl
theorem fr_xBM (T : String) {g : Fn} {o : XE'} {a : XA} (hg : FrF g) (ho : FrE o) (ha : FrA a) : FrE (xBM T g o a) := fun μ r ν => (ho μ r ν).bind fun d ν1 => by
  show FrO μ (if tyD T (shM μ ν1) (d.sh μ.length) then (a (shR μ.length r) (shM μ ν1)).bind fun ds m2 => g (d.sh μ.length :: ds) m2 else .stuck) _
  rw [ty_sh]
  split
  · exact (ha μ r ν1).bind fun ds ν2 => hg μ (d :: ds) ν2
  · trivial
theorem fr_appF : FrF appF := fun μ ds ν => by
  rcases ds with _ | ⟨d, _ | ⟨e, _ | ⟨f, l⟩⟩⟩ <;> try trivial
  · cases d <;> trivial
  · cases d <;> try trivial
    exact (fr_pushD _ e μ ν).bind fun _ ν1 => rfl
  · cases d <;> trivial
theorem fr_popF : FrF popF := fun μ ds ν => by
  rcases ds with _ | ⟨d, _ | ⟨e, l⟩⟩ <;> try trivial
  · cases d <;> try trivial
    rename_i n
    unfold popF
    simp only [D.shL, D.sh, shM_get]
    cases ν[n]? with
    | none => trivial
    | some c => cases c with
      | lst xs =>
        simp only [Option.map_some, Cell.sh, shL_len, shL_get]
        cases xs[xs.length - 1]? with
        | none => trivial
        | some d =>
          have h := shM_set (μ := μ) (ν := ν) n (.lst xs.dropLast)
          rw [Cell.sh] at h
          have e : D.shL μ.length xs.dropLast = (D.shL μ.length xs).dropLast := by rw [shL_map, shL_map, List.map_dropLast]
          rw [e] at h
          exact congrArg (Out.ok _) h
      | _ => trivial
  · cases d <;> trivial
theorem fr_splitF : FrF splitF := fun μ ds ν => by
  rcases ds with _ | ⟨d, _ | ⟨e, _ | ⟨f, l⟩⟩⟩ <;> try trivial
  · cases d <;> trivial
  · cases d <;> try trivial
    cases e <;> try trivial
    unfold splitF
    simp only [D.shL, D.sh]
    split
    · show _ = Out.ok (D.lst (D.shL _ _)) _
      rw [shL_map, List.map_map]
      rfl
    · trivial
  · cases d <;> try trivial
    cases e <;> trivial
theorem fr_joinF : FrF joinF := fun μ ds ν => by
  rcases ds with _ | ⟨d, _ | ⟨e, _ | ⟨f, l⟩⟩⟩ <;> try trivial
  · cases d <;> trivial
  · cases d <;> try trivial
    rename_i s
    exact fr_seqq (k := fun m xs => match strsL xs with
      | some ys => if (ys.map (·.length)).sum + ys.length * s.length ≤ 16777216 then .ok (D.str (Txt.join s ys)) m else .stuck
      | none => .stuck) fun xs => by
      show FrO μ (match strsL (D.shL μ.length xs) with
        | some ys => if (ys.map (·.length)).sum + ys.length * s.length ≤ 16777216 then .ok (D.str (Txt.join s ys)) (shM μ ν) else .stuck
        | none => .stuck) _
      rw [strs_sh]
      cases strsL xs with
      | none => trivial
      | some ys =>
        simp only
        split <;> trivial
  · cases d <;> trivial
theorem fr_xaStar {a : XE'} {b : XA} (ha : FrE a) (hb : FrA b) : FrA (xaStar a b) := fun μ r ν => (ha μ r ν).bind fun x ν1 => by
  show FrO μ (match seqOf (shM μ ν1) (x.sh μ.length) with
    | some xs => (b (shR μ.length r) (shM μ ν1)).bind fun ys m2 => .ok (xs ++ ys) m2
    | none => .stuck) _
  rw [seqOf_sh]
  cases seqOf ν1 x with
  | none => trivial
  | some xs =>
    refine (hb μ r ν1).bind fun ys ν2 => ?_
    show Out.ok _ _ = Out.ok (D.shL _ (xs ++ ys)) _
    rw [shL_app]
    rfl
theorem fr_reprF : FrF reprF := fun μ ds ν => by
  rcases ds with _ | ⟨d, _ | ⟨e, l⟩⟩ <;> try trivial
  unfold reprF
  simp only [D.shL, dere_sh]
  cases toP (dere ν d) with
  | none => trivial
  | some p =>
    simp only
    split <;> trivial
theorem tyOf_sh {μ ν : Mu} (d : D) : tyOf (shM μ ν) (d.sh μ.length) = tyOf ν d := by
  have gen : (match insOf (shM μ ν) (d.sh μ.length) with
    | some (c, _) => some (Sum.inr c)
    | none => match ownOf (shM μ ν) (d.sh μ.length) with
      | some _ => some (Sum.inl "list")
      | none => none) = (match insOf ν d with
    | some (c, _) => some (Sum.inr c)
    | none => match ownOf ν d with
      | some _ => some (Sum.inl "list")
      | none => none : Option (String ⊕ Str)) := by
    rw [insOf_sh, ownOf_sh]
    cases insOf ν d with
    | some p => rfl
    | none => cases ownOf ν d <;> rfl
  cases d <;> first | exact gen | rfl
theorem isiB_sh (k : Nat) (cs : List Str) (t : String ⊕ Str) (e : D) : isiB cs t (e.sh k) = isiB cs t e := by
  cases e <;> cases t <;> rfl
theorem fr_isiF (cs : List Str) : FrF (isiF cs) := fun μ ds ν => by
  rcases ds with _ | ⟨d, _ | ⟨e, _ | ⟨f, l⟩⟩⟩ <;> try trivial
  unfold isiF
  simp only [D.shL, tyOf_sh, isiB_sh]
  cases tyOf ν d with
  | none => trivial
  | some t =>
    simp only
    cases isiB cs t e <;> trivial
theorem fr_dgetD : Fr2 dgetD := fun μ d e ν => by
  cases d <;> try trivial
  cases e <;> try trivial
  rename_i gs f
  unfold dgetD
  simp only [D.sh, shF_look]
  cases gs.lookup f <;> trivial
theorem fr_xNeg {a : XE'} (ha : FrE a) : FrE (xNeg a) := fun μ r ν => (ha μ r ν).bind fun d ν1 => by cases d <;> trivial
theorem fr_xTupS {a : XA} (ha : FrA a) : FrE (xTupS a) := fun μ r ν => (ha μ r ν).bind fun ds ν1 => by
  show FrO μ (if (D.shL μ.length ds).length ≤ sizeLine then _ else _) _
  rw [shL_len]
  split <;> trivial
theorem fr_xLstS {a : XA} (ha : FrA a) : FrE (xLstS a) := fun μ r ν => (ha μ r ν).bind fun ds ν1 => by
  show FrO μ (if (D.shL μ.length ds).length ≤ sizeLine then _ else _) _
  rw [shL_len]
  split <;> trivial

/-! ### defs -/
theorem fr_exitD (n : Nat) (μ : Mu) (d : D) (ν : Mu) : FrO μ (exitD (μ.length + n) (d.sh μ.length) (shM μ ν)) (exitD n d ν) := by
  unfold exitD
  rw [inB_sh]
  split
  · exact congrArg (Out.ok _) (shM_take n)
  · rename_i hb
    cases d <;> try trivial
    rename_i i
    simp only [D.sh, shM_get]
    cases ν[i]? with
    | none => trivial
    | some c => cases c with
      | lst xs =>
        simp only [Option.map_some, Cell.sh, inL_sh]
        split
        · exact congrArg (Out.ok _) (shM_take n)
        · trivial
      | ins c xs =>
        simp only [Option.map_some, Cell.sh, inF_sh]
        split
        · exact congrArg (Out.ok _) (shM_take n)
        · trivial
      | _ => trivial
theorem rho0_sh (k n : Nat) (ds : List D) : rho0 n (D.shL k ds) = shR k (rho0 n ds) := by
  unfold rho0 shR
  rw [shL_len, shL_map]
  simp
theorem fr_fnOf (n : Nat) (keep : Bool) {g : XS} (hg : FrB g) : FrF (fnOf n keep g) := fun μ ds ν => by
  unfold fnOf
  rw [rho0_sh, shM_len]
  have h := hg μ (rho0 n ds) ν
  cases e : g (rho0 n ds) ν <;> rw [e] at h
  · rw [show g (shR μ.length (rho0 n ds)) (shM μ ν) = _ from h]; exact congrArg (Out.ok _) (shM_take _)
  · rw [show g (shR μ.length (rho0 n ds)) (shM μ ν) = _ from h]
    cases keep
    · exact fr_exitD _ μ _ _
    · rfl
  · trivial
  · trivial
  · rw [show g (shR μ.length (rho0 n ds)) (shM μ ν) = _ from h]
    rename_i c fs r m
    show FrO μ (if D.inF (μ.length + ν.length) (D.shF μ.length fs) then Out.exc c (D.shF μ.length fs) ((shM μ m).take (μ.length + ν.length)) else .stuck) (if D.inF ν.length fs then .exc c fs (m.take ν.length) else .stuck)
    rw [inF_sh]
    split
    · exact congrArg (Out.exc c _) (shM_take _)
    · trivial
  · trivial

/-! ### from the empty store to any -/
mutual
def D.same : D → D → Bool
  | .non, .non => true
  | .bl a, .bl b => a == b
  | .int a, .int b => a == b
  | .str a, .str b => a == b
  | .tup a, .tup b => D.sameL a b
  | .lst a, .lst b => D.sameL a b
  | .obj c a, .obj d b => c == d && D.sameF a b
  | .dct a, .dct b => D.sameF a b
  | _, _ => false
def D.sameL : List D → List D → Bool
  | [], [] => true
  | x :: r, y :: s => D.same x y && D.sameL r s
  | _, _ => false
def D.sameF : List (Str × D) → List (Str × D) → Bool
  | [], [] => true
  | (f, x) :: r, (g, y) :: s => f == g && (D.same x y && D.sameF r s)
  | _, _ => false
end
mutual
theorem D.same_eq : ∀ a b : D, D.same a b = true → a = b := fun a b h => by
  cases a <;> cases b <;> first
    | (simp only [D.same, beq_iff_eq] at h; rw [h])
    | (simp only [D.same] at h; rw [D.sameL_eq _ _ h])
    | (simp only [D.same, Bool.and_eq_true, beq_iff_eq] at h; rw [h.1, D.sameF_eq _ _ h.2])
    | (simp only [D.same] at h; rw [D.sameF_eq _ _ h])
    | rfl
    | (exfalso; exact Bool.noConfusion h)
theorem D.sameL_eq : ∀ a b : List D, D.sameL a b = true → a = b
  | [], [], _ => rfl
  | x :: r, y :: s, h => by
    rw [D.sameL, Bool.and_eq_true] at h
    rw [D.same_eq x y h.1, D.sameL_eq r s h.2]
  | [], _ :: _, h => by simp [D.sameL] at h
  | _ :: _, [], h => by simp [D.sameL] at h
theorem D.sameF_eq : ∀ a b : List (Str × D), D.sameF a b = true → a = b
  | [], [], _ => rfl
  | (f, x) :: r, (g, y) :: s, h => by
    rw [D.sameF, Bool.and_eq_true, Bool.and_eq_true, beq_iff_eq] at h
    rw [h.1, D.same_eq x y h.2.1, D.sameF_eq r s h.2.2]
  | [], (_, _) :: _, h => by simp [D.sameF] at h
  | (_, _) :: _, [], h => by simp [D.sameF] at h
end
/-- the run from nothing ends with d, which holds no place -/
def okIs (o : Out D) (d : D) : Bool := match o with
  | .ok e [] => D.same e d && e.inB 0
  | _ => false
theorem FrF.of {G : Fn} (hG : FrF G) {ds : List D} {d : D} (hd : D.inL 0 ds = true) (h : G ds [] = .ok d []) (hb : d.inB 0 = true) (μ : Mu) : G ds μ = .ok d μ := by
  have q := hG μ ds []
  rw [shL_id _ ds hd, h, shM_nil] at q
  rw [show G ds μ = _ from q, shM_nil]
  show Out.ok (d.sh _) _ = _
  rw [sh_id _ d hb]
theorem FrF.is {G : Fn} (hG : FrF G) {ds : List D} {d : D} (hd : D.inL 0 ds = true) (h : okIs (G ds []) d = true) (μ : Mu) : G ds μ = .ok d μ := by
  unfold okIs at h
  split at h
  · rename_i e he
    rw [Bool.and_eq_true] at h
    cases D.same_eq _ _ h.1
    exact hG.of hd he h.2 μ
  · cases h
end DS

/-! # DSG: ranges with a step, lists of ranges, sorted, two-clause comprehensions. -/
namespace DS
open PySem PySem.Spec PyProof.Rows L2
variable {c : SC} {W : WX} {pos : Pos} {a b e : Expr} {fa fb : XE'} {fr : XA}
def rngC (lo st : Int) (n : Nat) : List D := (List.range n).map fun (i : Nat) => .int (lo + (i : Nat) * st)
theorem yld_rngC {K : PySem.W.Frag} {F : Hp} {al : List Addr} {lo st : Int} {n : Nat} : Yld K (Itc lo st n) (rngC lo st n) F al := by
  refine ⟨fun H F' al' m i d e w hd => ?_, fun H F' al' m i e w hi => ?_⟩
  · unfold rngC at hd
    rw [List.getElem?_map] at hd
    cases hk : (List.range n)[i]? with
    | none => rw [hk] at hd; cases hd
    | some k =>
      rw [hk] at hd
      cases hd
      obtain ⟨h1, h2⟩ := List.getElem?_eq_some_iff.mp hk
      rw [List.length_range] at h1
      rw [List.getElem_range] at h2
      subst h2
      refine ⟨h1, fun x H' hy => ?_⟩
      obtain ⟨rfl, rfl⟩ := hy
      exact ⟨F', Le.refl, w, .int _⟩
  · unfold rngC at hi
    rw [List.length_map, List.length_range] at hi
    exact hi
def rgB (i j st : Int) : Bool := decide (st ≠ 0 ∧ st.natAbs < 1073741824) && (Builtin.Range.small i j st && decide (0 ≤ Builtin.Range.rangeSize i j st))
def rngD3 (ds : List D) (m : Mu) : Out (List D) := match ds with
  | [.int i, .int j, .int st] => if rgB i j st then .ok (rngC i st (Builtin.Range.rangeSize i j st).toNat) m else .stuck
  | _ => .stuck
theorem rgB_ok {i j st : Int} (h : rgB i j st = true) : RgC i j st (Builtin.Range.rangeSize i j st).toNat := by
  unfold rgB at h
  rw [Bool.and_eq_true, Bool.and_eq_true, decide_eq_true_eq, decide_eq_true_eq] at h
  exact ⟨h.1.1, h.1.2, h.2.1, (Int.toNat_of_nonneg h.2.2).symm⟩
def xiRng3 (f : XA) : XA := fun r m => (f r m).bind rngD3
theorem di_range3 {tg d : Expr} {p0 : Pos} (hm : c.mg "range" = none) (h : DA c W [a, b, d] fr) (hg : c.sc.names.lookup ("range" : Str) = some .globalImplicit := by rfl) (hs : ∀ env, starEach [a, b, d] env = (false, eval a env) :: starEach [b, d] env := by intro _; rfl) (hpl : ∀ env, (backTo pos (starEach [b, d] env)).any (·.1) = false := by intro _; rfl) : DI c W tg (.Call (.Name "range" p0) [a, b, d] [] pos) (xiRng3 fr) := by
  obtain ⟨⟨t, h1, h2⟩, _⟩ := h
  refine ⟨iRng3 t, fun y hy => pi_range3 (hy.gl hg) hm (h1 y hy) (hs _) (hpl _), fun r m σ H F al R he hw p => ?_⟩
  refine h2 r m σ H F al _ he hw (Post.step p fun ds m1 vs H1 F1 al1 e1 w1 q1 p1 => ?_)
  unfold rngD3 at p1
  split at p1
  · cases q1 with
    | cons qa q =>
      cases q with
      | cons qb q =>
      cases q with
      | cons qc q =>
      cases q; cases qa; cases qb; cases qc
      split at p1
      · rename_i hb
        exact ⟨_, _, _, _, rfl, rgB_ok hb, p1 _ H1 F1 al1 Le.refl w1 yld_rngC⟩
      · exact p1.elim
  · exact p1.elim

/-! ### list(range(..)) -/
/-- the list, as data; or as a list that will change -/
def frzL (xs : List D) (m : Mu) : Out D := if xs.length ≤ 16777216 then .ok (.lst xs) m else .stuck
def newL (xs : List D) (m : Mu) : Out D := if D.inL m.length xs ∧ xs.length ≤ 16777216 then .ok (.loc m.length) (m ++ [.lst xs]) else .stuck
def xLstR (f : XA) : XE' := fun r m => (f r m).bind frzL
def xNewR (f : XA) : XE' := fun r m => (f r m).bind newL
theorem frz_ok {W' : XK} {F : Hp} {al : List Addr} {Q : VK} {m : Mu} {H : Hp} {xs : List D} {vs : List V} (w : Wd c.K F al m H) (q : RpL c.K F al xs vs) (p : Post c.K (RD c.K) W' F al Q (frzL xs m)) : xs.length ≤ 16777216 ∧ ∀ n, H n = none → Q (.ref n) (upd H n (.lst vs)) := by
  unfold frzL at p
  split at p
  · rename_i hl
    exact ⟨hl, fun n hn => p _ _ (upd F n _) al (ext_new (w.fnone hn)) (w.new hn) (.lst upd_same (q.up (ext_new (w.fnone hn))))⟩
  · exact p.elim
theorem new_ok {W' : XK} {F : Hp} {al : List Addr} {Q : VK} {m : Mu} {H : Hp} {xs : List D} {vs : List V} (w : Wd c.K F al m H) (q : RpL c.K F al xs vs) (p : Post c.K (RD c.K) W' F al Q (newL xs m)) : xs.length ≤ 16777216 ∧ ∀ n, H n = none → Q (.ref n) (upd H n (.lst vs)) := by
  unfold newL at p
  split at p
  · rename_i hb
    exact ⟨hb.2, fun n hn => p _ _ F (al ++ [n]) Le.snoc (w.newCell hn ⟨w.fnone hn, vs, upd_same, q.up Le.snoc⟩ hb.1) (.loc (by rw [← w.len, List.getElem?_append_right (Nat.le_refl _), Nat.sub_self]; rfl))⟩
  · exact p.elim
/-- either of the two -/
structure LKind (k : List D → Mu → Out D) : Prop where
  ok : ∀ {c : SC} {W' : XK} {F : Hp} {al : List Addr} {Q : VK} {m : Mu} {H : Hp} {xs : List D} {vs : List V}, Wd c.K F al m H → RpL c.K F al xs vs → Post c.K (RD c.K) W' F al Q (k xs m) → xs.length ≤ 16777216 ∧ ∀ n, H n = none → Q (.ref n) (upd H n (.lst vs))
theorem lk_frz : LKind frzL := ⟨fun w q p => frz_ok w q p⟩
theorem lk_new : LKind newL := ⟨fun w q p => new_ok w q p⟩
theorem rpl_ints {K : PySem.W.Frag} {F : Hp} {al : List Addr} (f : Nat → Int) (ks : List Nat) : RpL K F al (ks.map fun i => D.int (f i)) (ks.map fun i => V.int (f i)) := by
  induction ks with
  | nil => exact .nil
  | cons x r ih => exact .cons (.int _) ih
theorem de_listR1 {k : List D → Mu → Out D} {p0 p1 pos1 : Pos} (lk : LKind k) (hl : c.mg "list" = none) (hm : c.mg "range" = none) (h : DE c W a fa) (hgl : c.sc.names.lookup ("list" : Str) = some .globalImplicit := by rfl) (hg : c.sc.names.lookup ("range" : Str) = some .globalImplicit := by rfl)
    (ns : ∀ env, starEach [.Call (.Name "range" p1) [a] [] pos1] env = (false, eval (.Call (.Name "range" p1) [a] [] pos1) env) :: starEach [] env := by intro _; rfl) (hs : ∀ env, starEach [a] env = (false, eval a env) :: starEach [] env := by intro _; rfl) (hcm : c.calm = true := by rfl) :
    DE c W (.Call (.Name "list" p0) [.Call (.Name "range" p1) [a] [] pos1] [] pos) (fun r m => (xiRng1 (xaCons fa xaNil) r m).bind k) := by
  obtain ⟨t, h1, h2⟩ := h
  refine ⟨tLstRg (tRg1 t), fun y hy => pe_listRg (X := c.cx y) hcm (hy.gl hgl) hl (prg_1 (hy.gl hg) hm (h1 y hy) (hs _)) (ns _), fun r m σ H F al Q he hw p => ?_⟩
  unfold xiRng1 xaCons at p
  refine h2 r m σ H F al _ he hw (Post.step p.assoc.assoc fun d m1 v H1 F1 al1 e1 w1 q1 p1 => ?_)
  have p2 : Post c.K (RD c.K) (atS W σ) F1 al1 Q ((rngD1 [d] m1).bind k) := p1
  clear p1
  unfold rngD1 at p2
  split at p2
  · rename_i j e
    cases e
    cases q1
    split at p2
    · rename_i hb
      have q := lk.ok w1 (rpl_ints (K := c.K) (F := F1) (al := al1) (fun i => 0 + (i : Int)) (List.range j.toNat)) p2
      rw [List.length_map, List.length_range] at q
      refine ⟨j, rfl, ⟨by omega, by omega, hb.1, hb.2, by omega⟩, fun n hn => ?_⟩
      have z := q.2 n hn
      unfold rgV
      rw [Int.sub_zero]
      exact z
    · exact p2.elim
  · exact p2.elim
theorem de_listR2 {k : List D → Mu → Out D} {p0 p1 pos1 : Pos} (lk : LKind k) (hl : c.mg "list" = none) (hm : c.mg "range" = none) (h : DE c W a fa) (h' : DE c W b fb) (hgl : c.sc.names.lookup ("list" : Str) = some .globalImplicit := by rfl) (hg : c.sc.names.lookup ("range" : Str) = some .globalImplicit := by rfl)
    (ns : ∀ env, starEach [.Call (.Name "range" p1) [a, b] [] pos1] env = (false, eval (.Call (.Name "range" p1) [a, b] [] pos1) env) :: starEach [] env := by intro _; rfl) (hs : ∀ env, starEach [a, b] env = (false, eval a env) :: starEach [b] env := by intro _; rfl) (hs2 : ∀ env, starEach [b] env = (false, eval b env) :: starEach [] env := by intro _; rfl) (hp : ∀ env, (backTo pos1 (starEach [b] env)).any (·.1) = false := by intro _; rfl) (hcm : c.calm = true := by rfl) :
    DE c W (.Call (.Name "list" p0) [.Call (.Name "range" p1) [a, b] [] pos1] [] pos) (fun r m => (xiRng2 (xaCons fa (xaCons fb xaNil)) r m).bind k) := by
  obtain ⟨t, h1, h2⟩ := h
  obtain ⟨t', h3, h4⟩ := h'
  refine ⟨tLstRg (tRg2 t t'), fun y hy => pe_listRg (X := c.cx y) hcm (hy.gl hgl) hl (prg_2 (hy.gl hg) hm (h1 y hy) (h3 y hy) (hs _) (hs2 _) (hp _)) (ns _), fun r m σ H F al Q he hw p => ?_⟩
  unfold xiRng2 xaCons at p
  refine h2 r m σ H F al _ he hw (Post.step p.assoc.assoc fun d m1 v H1 F1 al1 e1 w1 q1 p1 => ?_)
  have p3 : Post c.K (RD c.K) (atS W σ) F1 al1 Q ((fb r m1).bind fun z m2 => (rngD2 [d, z] m2).bind k) := by
    have z := p1.assoc
    cases hb : fb r m1 with
    | ok z' m2 => rw [hb] at z; exact z
    | exc _ _ _ => rw [hb] at z; exact z
    | stuck => rw [hb] at z; exact z
  refine h4 r m1 σ H1 F1 al1 _ (he.up e1) w1 (Post.step p3 fun d2 m2 v2 H2 F2 al2 e2 w2 q2 p2 => ?_)
  · have q1 := Rp.up e2 q1
    unfold rngD2 at p2
    split at p2
    · rename_i i j e
      cases e
      cases q1; cases q2
      split at p2
      · rename_i hb
        have q := lk.ok w2 (rpl_ints (K := c.K) (F := F2) (al := al2) (fun n => i + (n : Int)) (List.range (j - i).toNat)) p2
        rw [List.length_map, List.length_range] at q
        exact ⟨i, j, rfl, rfl, ⟨hb.1, hb.2.1, hb.2.2.1, hb.2.2.2, by omega⟩, fun n hn => q.2 n hn⟩
      · exact p2.elim
    · exact p2.elim
/-- list(range(i, j, st)) -/
def tLstR3 (ta : TA) : TE := fun σ H Q => ta σ H fun vs H1 => ∃ (i j st : Int) (n : Nat), vs = [.int i, .int j, .int st] ∧ RgC i j st n ∧ n ≤ 2 ^ 24 ∧ ∀ q, H1 q = none → Q (.ref q) (upd H1 q (.lst ((List.range n).map fun k => V.int (i + (k : Nat) * st))))
theorem pe_listR3 {X : Cx} {a b d : Expr} {ta : TA} {p0 p1 pos pos1 : Pos} (hc : X.calm = true) (hgl : Gl X "list") (hl : X.mg "list" = none) (hg : Gl X "range") (hm : X.mg "range" = none) (ha : PA X [a, b, d] ta)
    (ns : starEach [.Call (.Name "range" p1) [a, b, d] [] pos1] X.env = (false, eval (.Call (.Name "range" p1) [a, b, d] [] pos1) X.env) :: starEach [] X.env)
    (hs : starEach [a, b, d] X.env = (false, eval a X.env) :: starEach [b, d] X.env) (hpl : (backTo pos1 (starEach [b, d] X.env)).any (·.1) = false) :
    PE X (.Call (.Name "list" p0) [.Call (.Name "range" p1) [a, b, d] [] pos1] [] pos) (tLstR3 ta) := by
  refine ⟨fun pins s σ H Q I h => ?_⟩
  refine Call_ (ld_blt I hgl hl boot_list (PyProof.Rows.callWith_type1 (args_cons ?_ ns) ns))
  refine Call_ (ld_blt I hg hm boot_range (PyProof.Rows.callWith_type1 (thn (ha.run pos1 pins s σ H _ I h) fun us s1 ⟨vs, H1, I1, r1, q1⟩ => ?_) hs hpl))
  obtain ⟨i, j, st, n, e, ⟨c0, c1, c2, c3⟩, hn, q⟩ := q1
  subst e
  cases r1 with
  | cons r rr =>
    cases rr with
    | cons r' rr =>
      cases rr with
      | cons r'' rr =>
        cases rr
        obtain ⟨t, rfl⟩ := r
        obtain ⟨t', rfl⟩ := r'
        obtain ⟨t'', rfl⟩ := r''
        refine call_range_3 c0 ?_ (.inl (PyProof.noPylong_small c1))
        have I2 : Inv X pins σ H1 { s1 with heap := s1.heap.push { cls := .type "range", data := .fields #[.int i t, .int j t', .int st t''] } } := I1.kept (t' := s1.toks) fun b o e => Heap.get?_push_of_some _ e
        refine args_nil ?_
        refine call_list_range (n := n) (I2.ok.hd hc) (IsRange.new ..) c2 c3 hn fun h' tk acc cc hk e' hi => ?_
        refine ⟨.ref _, upd H1 _ (.lst ((List.range n).map fun k => V.int (i + (k : Nat) * st))), I2.laid hk (Nat.le_refl _) (show ObjOk X.prog X.w _ _ _ (.lst _) from ⟨?_, acc.toList, cc, ?_, ?_⟩), rfl, q _ (I2.hok.fresh (Nat.le_refl _))⟩
        · rw [List.length_map, List.length_range, sizeLine_eq]; omega
        · have hz : acc.toList.length = n := by rw [Array.length_toList]; exact hi.1
          rw [← hz]
          refine vals_of_get acc.toList _ fun k u hk => ?_
          obtain ⟨t, rfl⟩ := hi.2 k u (by rw [← hk, Array.getElem?_toList])
          exact ⟨t, rfl⟩
        · rw [Array.toArray_toList]; exact e'
theorem de_listR3 {d : Expr} {k : List D → Mu → Out D} {p0 p1 pos1 : Pos} (lk : LKind k) (hl : c.mg "list" = none) (hm : c.mg "range" = none) (h : DA c W [a, b, d] fr) (hgl : c.sc.names.lookup ("list" : Str) = some .globalImplicit := by rfl) (hg : c.sc.names.lookup ("range" : Str) = some .globalImplicit := by rfl)
    (ns : ∀ env, starEach [.Call (.Name "range" p1) [a, b, d] [] pos1] env = (false, eval (.Call (.Name "range" p1) [a, b, d] [] pos1) env) :: starEach [] env := by intro _; rfl) (hs : ∀ env, starEach [a, b, d] env = (false, eval a env) :: starEach [b, d] env := by intro _; rfl) (hpl : ∀ env, (backTo pos1 (starEach [b, d] env)).any (·.1) = false := by intro _; rfl) (hcm : c.calm = true := by rfl) :
    DE c W (.Call (.Name "list" p0) [.Call (.Name "range" p1) [a, b, d] [] pos1] [] pos) (fun r m => (xiRng3 fr r m).bind k) := by
  obtain ⟨⟨t, h1, h2⟩, _⟩ := h
  refine ⟨tLstR3 t, fun y hy => pe_listR3 (X := c.cx y) hcm (hy.gl hgl) hl (hy.gl hg) hm (h1 y hy) (ns _) (hs _) (hpl _), fun r m σ H F al Q he hw p => ?_⟩
  unfold xiRng3 at p
  refine h2 r m σ H F al _ he hw (Post.step p.assoc fun ds m1 vs H1 F1 al1 e1 w1 q1 p1 => ?_)
  unfold rngD3 at p1
  split at p1
  · rename_i i j st
    cases q1 with
    | cons qa q =>
      cases q with
      | cons qb q =>
      cases q with
      | cons qc q =>
      cases q; cases qa; cases qb; cases qc
      split at p1
      · rename_i hb
        have q := lk.ok w1 (rpl_ints (K := c.K) (F := F1) (al := al1) (fun n => i + (n : Nat) * st) (List.range (Builtin.Range.rangeSize i j st).toNat)) p1
        rw [List.length_map, List.length_range] at q
        exact ⟨_, _, _, _, rfl, rgB_ok hb, by omega, fun n hn => q.2 n hn⟩
      · exact p1.elim
  · exact p1.elim
/-! ### sorted -/
def insI (i : Int) : List Int → List Int
  | [] => [i]
  | j :: r => if i ≤ j then i :: j :: r else j :: insI i r
def sortI : List Int → List Int
  | [] => []
  | i :: r => insI i (sortI r)
theorem insI_perm (i : Int) : ∀ l : List Int, (insI i l).Perm (i :: l)
  | [] => List.Perm.refl _
  | j :: r => by
    unfold insI
    split
    · exact List.Perm.refl _
    · exact ((insI_perm i r).cons j).trans (List.Perm.swap i j r)
theorem sortI_perm : ∀ l : List Int, (sortI l).Perm l
  | [] => List.Perm.refl _
  | i :: r => (insI_perm i _).trans ((sortI_perm r).cons i)
theorem insI_sorted (i : Int) : ∀ l : List Int, l.Pairwise (· ≤ ·) → (insI i l).Pairwise (· ≤ ·)
  | [], _ => List.pairwise_singleton _ _
  | j :: r, h => by
    obtain ⟨h1, h2⟩ := List.pairwise_cons.mp h
    unfold insI
    split
    · rename_i hij
      refine List.pairwise_cons.mpr ⟨fun k hk => ?_, h⟩
      rcases List.mem_cons.mp hk with rfl | hk
      · exact hij
      · exact Int.le_trans hij (h1 k hk)
    · rename_i hij
      refine List.pairwise_cons.mpr ⟨fun k hk => ?_, insI_sorted i r h2⟩
      rcases List.mem_cons.mp ((insI_perm i r).mem_iff.mp hk) with rfl | hk
      · omega
      · exact h1 k hk
theorem sortI_sorted : ∀ l : List Int, (sortI l).Pairwise (· ≤ ·)
  | [] => List.Pairwise.nil
  | i :: r => insI_sorted i _ (sortI_sorted r)
theorem sorted_unique : ∀ {l m : List Int}, l.Perm m → l.Pairwise (· ≤ ·) → m.Pairwise (· ≤ ·) → l = m
  | [], m, p, _, _ => by rw [List.Perm.eq_nil p.symm]
  | x :: l, [], p, _, _ => by have := p.length_eq; simp at this
  | x :: l, y :: m, p, hl, hm => by
    obtain ⟨l1, l2⟩ := List.pairwise_cons.mp hl
    obtain ⟨m1, m2⟩ := List.pairwise_cons.mp hm
    have h1 : x ≤ y := by
      rcases List.mem_cons.mp (p.mem_iff.mpr (List.mem_cons_self (a := y) (l := m))) with e | e
      · omega
      · exact l1 y e
    have h2 : y ≤ x := by
      rcases List.mem_cons.mp (p.mem_iff.mp (List.mem_cons_self (a := x) (l := l))) with e | e
      · omega
      · exact m1 x e
    have e : x = y := by omega
    subst e
    rw [sorted_unique p.cons_inv l2 m2]
def sortF (ds : List D) (m : Mu) : Out D := match ds with
  | [d] => (match lstOf m d with
    | some xs => (match intsL xs with
      | some ns => .ok (.lst ((sortI ns).map .int)) m
      | _ => .stuck)
    | none => .stuck)
  | _ => .stuck
theorem rpl_int {K : PySem.W.Frag} {F : Hp} {al : List Addr} (ns : List Int) : RpL K F al (ns.map D.int) (ns.map V.int) := by
  induction ns with
  | nil => exact .nil
  | cons x r ih => exact .cons (.int _) ih
theorem b_sorted : CallD c (.builtin "sorted") sortF := by
  refine ⟨rSortedI c.K, fun W y hy => cr_sortedI (X := c.cx y), fun W ds m vs H F al Q hw r p => ?_⟩
  unfold sortF at p
  split at p
  · cases r with
    | cons q r =>
    cases r
    split at p
    · rename_i xs hx
      obtain ⟨q', ws, rfl, s, q⟩ := lstOf_ok hw q hx
      split at p
      · rename_i ns hi
        have ew := ints_rp q hi
        subst ew
        refine ⟨q', ns, rfl, s, fun ns' n h1 h2 hn => ?_⟩
        rw [sorted_unique (h1.trans (sortI_perm ns).symm) h2 (sortI_sorted ns)]
        exact p _ _ (upd F n _) al (ext_new (hw.fnone hn)) (hw.new hn) (.lst upd_same ((rpl_int _).up (ext_new (hw.fnone hn))))
      · exact p.elim
    · exact p.elim
  · exact p.elim
theorem bt_sorted : bootBuiltins "sorted" = some (.builtin "sorted") := by kernel_rfl

/-! ### comprehensions of two clauses -/
def lcF1 (g1 : XG) (tt1 : XT) (te : XE') (n : Nat) (r1 : Rho) : List D → Mu → Out Unit := lcF g1 tt1 te n r1
def lcG (g : XG) (tt : XT) (fi1 : XA) (vs1 : List Nat) (g1 : XG) (tt1 : XT) (te : XE') (n : Nat) (r0 : Rho) : List D → Mu → Out Unit
  | [], m => .ok () m
  | x :: xs, m => (g x r0 m).ne.bind fun r1 m1 => (tt r1 m1).ne.bind fun b m2 => if b then (fi1 r1 m2).ne.bind fun ys m3 => (lcF g1 tt1 te n (wipeR r1 vs1) ys m3).bind fun _ m4 => lcG g tt fi1 vs1 g1 tt1 te n r0 xs m4 else lcG g tt fi1 vs1 g1 tt1 te n r0 xs m2
def lc2D (g : XG) (tt : XT) (fi1 : XA) (vs1 : List Nat) (g1 : XG) (tt1 : XT) (te : XE') (r0 : Rho) (xs : List D) (m : Mu) : Out D := (lcG g tt fi1 vs1 g1 tt1 te m.length r0 xs (m ++ [.lst []])).bind fun _ m2 => lcEnd m.length m2
def xLc2 (f : XA) (vs : List Nat) (g : XG) (tt : XT) (fi1 : XA) (vs1 : List Nat) (g1 : XG) (tt1 : XT) (te : XE') : XE' := fun r m => (f r m).bind fun xs m1 => lc2D g tt fi1 vs1 g1 tt1 te (wipeR r vs) xs m1
theorem lc2_read {elt tg it tg1 it1 : Expr} {ifs ifs1 : List Expr} {scope : Scope} {vs vs1 : List Nat} {fi1 : XA} {gt gt1 : XG} {tt tt1 : XT} {te : XE'} {tg' tg1' : TG} {t2 t4 : TT} {t5 : TE} {wi1 : TI} {J : It} {xs : List D} {r : Rho} {m1 : Mu} {σ : L2.St} {H1 F1 : Hp} {al1 : List Addr} {Q : VK} {W' : XK}
    (g2 : ∀ d x r m σ H F al Q, EnvOk c.K F al r σ → Wd c.K F al m H → Rp c.K F al d x → Post c.K (RE c.K vs σ) (atS noW σ) F al Q (gt d r m) → tg' x σ H Q)
    (t2' : ∀ r m σ H F al Q, EnvOk c.K F al r σ → Wd c.K F al m H → Post c.K RB (atS noW σ) F al Q (tt r m) → t2 σ H Q)
    (j2 : ∀ r m σ H F al R, EnvOk c.K F al r σ → Wd c.K F al m H → Post c.K (fun F al xs J => Yld c.K J xs F al) (atS noW σ) F al R (fi1 r m) → wi1 σ H R)
    (g4 : ∀ d x r m σ H F al Q, EnvOk c.K F al r σ → Wd c.K F al m H → Rp c.K F al d x → Post c.K (RE c.K vs1 σ) (atS noW σ) F al Q (gt1 d r m) → tg1' x σ H Q)
    (t4' : ∀ r m σ H F al Q, EnvOk c.K F al r σ → Wd c.K F al m H → Post c.K RB (atS noW σ) F al Q (tt1 r m) → t4 σ H Q)
    (e2 : ∀ r m σ H F al Q, EnvOk c.K F al r σ → Wd c.K F al m H → Post c.K (RD c.K) (atS noW σ) F al Q (te r m) → t5 σ H Q)
    (he : EnvOk c.K F1 al1 r σ) (w1 : Wd c.K F1 al1 m1 H1) (q1 : Yld c.K J xs F1 al1) (p1 : Post c.K (RD c.K) W' F1 al1 Q (lc2D gt tt fi1 vs1 gt1 tt1 te (wipeR r vs) xs m1)) :
    ∀ D', H1 D' = none → ∃ Wv : Nat → Nat → Hp → Prop, (∃ m, Wv 0 m (upd H1 D' (.lst []))) ∧ ∀ i m H, Wv i m H →
  (J.stop i H ∧ Q (.ref D') H) ∨ (J.go i H ∧ ∃ Nx : Hp → Prop, (∀ H', Nx H' → ∃ m', m' < m ∧ Wv (i + 1) m' H') ∧ ∀ x H', J.yld i H x H' → tg' x (wipe σ vs) H' fun σ2 H2 => wipe σ2 vs = wipe σ vs ∧ t2 σ2 H2 fun b H3 =>
    if b = true then wi1 σ2 H3 fun J1 H4 => ∃ W1 : Nat → Nat → Hp → Prop, (∃ m, W1 0 m H4) ∧ ∀ j k H, W1 j k H →
      (J1.stop j H ∧ Nx H) ∨ (J1.go j H ∧ ∃ Nx1 : Hp → Prop, (∀ H', Nx1 H' → ∃ k', k' < k ∧ W1 (j + 1) k' H') ∧ ∀ x H', J1.yld j H x H' → tg1' x (wipe σ2 vs1) H' fun σ3 H5 => wipe σ3 vs1 = wipe σ2 vs1 ∧ t4 σ3 H5 fun b H6 =>
        if b = true then t5 σ3 H6 fun y H7 => ∃ acc, H7 D' = some (.lst acc) ∧ acc.length < sizeLine ∧ Nx1 (upd H7 D' (.lst (acc ++ [y]))) else Nx1 H6)
    else Nx H3) := by
  intro D' hD
  have hlast : (al1 ++ [D'])[m1.length]? = some D' := by rw [← w1.len, List.getElem?_append_right (Nat.le_refl _), Nat.sub_self]; rfl
  have w0 : Wd c.K F1 (al1 ++ [D']) (m1 ++ [.lst []]) (upd H1 D' (.lst [])) := w1.newCell hD ⟨w1.fnone hD, [], upd_same, .nil⟩ rfl
  let P : Out Unit → Prop := fun o => Post c.K (RD c.K) W' F1 al1 Q (o.bind fun _ m2 => lcEnd m1.length m2)
  refine ⟨fun i k H' => ∃ m' F' al', k = xs.length - i ∧ i ≤ xs.length ∧ Le F1 (al1 ++ [D']) F' al' ∧ Wd c.K F' al' m' H' ∧ P (lcG gt tt fi1 vs1 gt1 tt1 te m1.length (wipeR r vs) (xs.drop i) m'),
    ⟨xs.length, _, F1, al1 ++ [D'], rfl, Nat.zero_le _, Le.refl, w0, p1⟩, ?_⟩
  rintro i k H' ⟨m', F', al', rfl, hi, e', w', p'⟩
  have e1' : Le F1 al1 F' al' := Le.snoc.trans e'
  by_cases hlt : i < xs.length
  · have hd : xs[i]? = some xs[i] := List.getElem?_eq_getElem hlt
    obtain ⟨hgo, hyl⟩ := q1.go H' F' al' m' i xs[i] e1' w' hd
    refine .inr ⟨hgo, fun H2 => ∃ m2 F2 al2, Le F1 (al1 ++ [D']) F2 al2 ∧ Wd c.K F2 al2 m2 H2 ∧ P (lcG gt tt fi1 vs1 gt1 tt1 te m1.length (wipeR r vs) (xs.drop (i + 1)) m2), fun H2 ⟨m2, F2, al2, z1, z2, z3⟩ => ⟨xs.length - (i + 1), by omega, m2, F2, al2, rfl, hlt, z1, z2, z3⟩, fun x H2 hy => ?_⟩
    obtain ⟨F2, e2', w2, q2⟩ := hyl x H2 hy
    rw [List.drop_eq_getElem_cons hlt, lcG] at p'
    have he2 : EnvOk c.K F2 al' (wipeR r vs) (wipe σ vs) := ((he.up e1').up e2').wipe vs
    have p' : Post c.K (RD c.K) W' F1 al1 Q _ := p'
    refine g2 xs[i] x _ m' _ H2 F2 al' _ he2 w2 q2 (Post.stepN p'.assoc fun r3 m3 σ3 H3 F3 al3 e3 w3 q3 p3 => ?_)
    refine ⟨by rw [q3.2]; exact wipe_twice vs σ, t2' r3 m3 σ3 H3 F3 al3 _ q3.1 w3 (Post.stepN p3.assoc fun b m4 b' H4 F4 al4 e4 w4 q4 p4 => ?_)⟩
    cases q4
    have up4 : Le F1 (al1 ++ [D']) F4 al4 := ((e'.trans e2').trans e3).trans e4
    have he4 := q3.1.up e4
    cases b with
    | false => exact ⟨m4, F4, al4, up4, w4, p4⟩
    | true =>
      show wi1 σ3 H4 _
      have p4 : Post c.K (RD c.K) W' F1 al1 Q (((fi1 r3 m4).ne.bind fun ys m5 => (lcF gt1 tt1 te m1.length (wipeR r3 vs1) ys m5).bind fun _ m6 => lcG gt tt fi1 vs1 gt1 tt1 te m1.length (wipeR r vs) (xs.drop (i + 1)) m6).bind fun _ m2 => lcEnd m1.length m2) := p4
      refine j2 r3 m4 σ3 H4 F4 al4 _ he4 w4 (Post.stepN p4.assoc fun ys m5 J1 H5 F5 al5 e5 w5 q5 p5 => ?_)
      have up5 := up4.trans e5
      let P1 : Out Unit → Prop := fun o => Post c.K (RD c.K) W' F1 al1 Q (o.bind fun _ m6 => (lcG gt tt fi1 vs1 gt1 tt1 te m1.length (wipeR r vs) (xs.drop (i + 1)) m6).bind fun _ m2 => lcEnd m1.length m2)
      refine ⟨fun j k H' => ∃ m' F' al', k = ys.length - j ∧ j ≤ ys.length ∧ Le F5 al5 F' al' ∧ Wd c.K F' al' m' H' ∧ P1 (lcF gt1 tt1 te m1.length (wipeR r3 vs1) (ys.drop j) m'),
        ⟨ys.length, m5, F5, al5, rfl, Nat.zero_le _, Le.refl, w5, p5.assoc⟩, ?_⟩
      rintro j k H6 ⟨m6, F6, al6, rfl, hj, e6, w6, p6⟩
      by_cases hjt : j < ys.length
      · have hdj : ys[j]? = some ys[j] := List.getElem?_eq_getElem hjt
        obtain ⟨hgo1, hyl1⟩ := q5.go H6 F6 al6 m6 j ys[j] e6 w6 hdj
        refine .inr ⟨hgo1, fun H2 => ∃ m2 F2 al2, Le F5 al5 F2 al2 ∧ Wd c.K F2 al2 m2 H2 ∧ P1 (lcF gt1 tt1 te m1.length (wipeR r3 vs1) (ys.drop (j + 1)) m2), fun H2 ⟨m2, F2, al2, z1, z2, z3⟩ => ⟨ys.length - (j + 1), by omega, m2, F2, al2, rfl, hjt, z1, z2, z3⟩, fun x1 H7 hy1 => ?_⟩
        obtain ⟨F7, e7, w7, q7⟩ := hyl1 x1 H7 hy1
        rw [List.drop_eq_getElem_cons hjt, lcF] at p6
        have he7 : EnvOk c.K F7 al6 (wipeR r3 vs1) (wipe σ3 vs1) := (((he4.up e5).up e6).up e7).wipe vs1
        have p6 : Post c.K (RD c.K) W' F1 al1 Q _ := p6
        refine g4 ys[j] x1 _ m6 _ H7 F7 al6 _ he7 w7 q7 (Post.stepN p6.assoc fun r8 m8 σ8 H8 F8 al8 e8 w8 q8 p8 => ?_)
        refine ⟨by rw [q8.2]; exact wipe_twice vs1 σ3, t4' r8 m8 σ8 H8 F8 al8 _ q8.1 w8 (Post.stepN p8.assoc fun b m9 b' H9 F9 al9 e9 w9 q9 p9 => ?_)⟩
        cases q9
        have up9 : Le F5 al5 F9 al9 := ((e6.trans e7).trans e8).trans e9
        cases b with
        | false => exact ⟨m9, F9, al9, up9, w9, p9⟩
        | true =>
          show t5 σ8 H9 _
          have p9 : Post c.K (RD c.K) W' F1 al1 Q (((te r8 m9).ne.bind fun d m5 => (pushD m1.length d m5).bind fun _ m6 => lcF gt1 tt1 te m1.length (wipeR r3 vs1) (ys.drop (j + 1)) m6).bind fun _ m6 => (lcG gt tt fi1 vs1 gt1 tt1 te m1.length (wipeR r vs) (xs.drop (i + 1)) m6).bind fun _ m2 => lcEnd m1.length m2) := p9
          refine e2 r8 m9 σ8 H9 F9 al9 _ (q8.1.up e9) w9 (Post.stepN p9.assoc fun q m10 y H10 F10 al10 e10 w10 q10 p10 => ?_)
          have up10 := up9.trans e10
          have hx10 : al10[m1.length]? = some D' := (up5.trans up10).a _ _ hlast
          unfold pushD at p10
          cases hc : m10[m1.length]? with
          | none => rw [hc] at p10; exact p10.elim
          | some cl =>
            cases cl with
            | ins _ _ => rw [hc] at p10; exact p10.elim
            | dct _ => rw [hc] at p10; exact p10.elim
            | dead => rw [hc] at p10; exact p10.elim
            | lst acc =>
              rw [hc] at p10
              simp only at p10
              obtain ⟨hf, ws, h4, h5⟩ := w10.cell _ _ _ hx10 hc
              by_cases hb : q.inB m1.length = true ∧ acc.length < sizeLine
              · rw [if_pos hb] at p10
                have hg : D.inL m1.length acc = true := w10.gen _ _ hc
                refine ⟨ws, h4, by rw [← h5.len]; exact hb.2, _, F10, al10, up10, w10.write (c := .lst (acc ++ [q])) hx10 hf ⟨hf, _, upd_same, h5.snoc q10⟩ (inL_append hg (by rw [D.inL, hb.1, D.inL]; rfl)), p10⟩
              · rw [if_neg hb] at p10; exact p10.elim
      · have ej : j = ys.length := by omega
        subst ej
        rw [List.drop_length, lcF] at p6
        exact .inl ⟨q5.stop H6 F6 al6 m6 _ e6 w6 (Nat.le_refl _), m6, F6, al6, up5.trans e6, w6, p6⟩
  · have ei : i = xs.length := by omega
    subst ei
    rw [List.drop_length, lcG] at p'
    refine .inl ⟨q1.stop H' F' al' m' _ e1' w' (Nat.le_refl _), ?_⟩
    have hx2 : al'[m1.length]? = some D' := e'.a _ _ hlast
    have p' : Post c.K (RD c.K) W' F1 al1 Q (lcEnd m1.length m') := p'
    unfold lcEnd at p'
    split at p'
    · rename_i acc hc
      obtain ⟨hf, ws, h4, h5⟩ := w'.cell _ _ _ hx2 hc
      have hg : D.inL m1.length acc = true := w'.gen _ _ hc
      exact p' _ H' (upd F' D' (.lst ws)) (al'.take m1.length) ((e1'.trans (ext_new hf)).cut (Nat.le_of_eq w1.len)) (w'.frz hx2 h4 hf (Nat.le_refl _)) (.lst upd_same ((h5.cut hg).up (ext_new hf)))
    · exact p'.elim
theorem de_lc2 {elt tg it tg1 it1 : Expr} {ifs ifs1 : List Expr} {scope : Scope} (own : List (Str × Nat)) (vs1 : List Nat) {fi fi1 : XA} {gt gt1 : XG} {tt tt1 : XT} {te : XE'} (hN : c.N.Nodup) (ok : blkC c.N c.sc scope own = true) (hv : ∀ i ∈ vs1, i ∈ own.map (·.2)) (hi : DI c W tg it fi) (hg : DG (c.blk scope) noW (own.map (·.2)) tg gt) (ht : DTs (c.blk scope) noW ifs tt)
    (hi1 : DI (c.blk scope) noW tg1 it1 fi1) (hg1 : DG (c.blk scope) noW vs1 tg1 gt1) (ht1 : DTs (c.blk scope) noW ifs1 tt1) (he : DE (c.blk scope) noW elt te)
    (hs : ∀ env x, foldedSetIterable it env x = pure x := by intro _ _; rfl) (hs1 : ∀ env x, foldedSetIterable it1 env x = pure x := by intro _ _; rfl) (hcm : c.calm = true := by rfl) : DE c W (.ListComp elt [⟨tg, it, ifs, 0⟩, ⟨tg1, it1, ifs1, 0⟩] scope pos) (xLc2 fi (own.map (·.2)) gt tt fi1 vs1 gt1 tt1 te) := by
  obtain ⟨wi, i1, i2⟩ := hi
  obtain ⟨tg', g1, g2⟩ := hg
  obtain ⟨t2, t1, t2'⟩ := ht
  obtain ⟨wi1, j1, j2⟩ := hi1
  obtain ⟨tg1', g3, g4⟩ := hg1
  obtain ⟨t4, t3, t4'⟩ := ht1
  obtain ⟨t5, e1, e2⟩ := he
  refine ⟨tLc2 wi tg' t2 wi1 tg1' t4 t5 (own.map (·.2)) vs1, fun y hy => pe_lc2 (X := c.cx y) hcm hN (i1 y hy) (by
      have z : (c.cx y).env.scope = c.sc := hy.scope
      rw [z]; exact blkOk_by ok) hv (fun s H C cl fp => g1 _ (hy.blk s H scope C cl fp)) (fun s H C cl fp => t1 _ (hy.blk s H scope C cl fp)) (fun s H C cl fp => j1 _ (hy.blk s H scope C cl fp)) (fun s H C cl fp => g3 _ (hy.blk s H scope C cl fp)) (fun s H C cl fp => t3 _ (hy.blk s H scope C cl fp)) (fun s H C cl fp => e1 _ (hy.blk s H scope C cl fp)) (hs _) hs1, fun r m σ H F al Q he hw p => ?_⟩
  refine i2 r m σ H F al _ he hw (Post.step p fun xs m1 J H1 F1 al1 e3 w1 q1 p1 => ?_)
  exact lc2_read (c := c) (elt := elt) (tg := tg) (it := it) (tg1 := tg1) (it1 := it1) (ifs := ifs) (ifs1 := ifs1) (scope := scope) g2 t2' j2 g4 t4' e2 (he.up e3) w1 q1 p1
theorem ds_lc2 (i : Nat) {y0 : Str} {py spos : Pos} {elt tg it tg1 it1 : Expr} {ifs ifs1 : List Expr} {scope : Scope} (own : List (Str × Nat)) (vs1 : List Nat) {fi fi1 : XA} {gt gt1 : XG} {tt tt1 : XT} {te : XE'} (hN : c.N.Nodup) (ok : blkC c.N c.sc scope own = true) (hv : ∀ i ∈ vs1, i ∈ own.map (·.2)) (hi : DI c W tg it fi) (hg : DG (c.blk scope) noW (own.map (·.2)) tg gt) (ht : DTs (c.blk scope) noW ifs tt)
    (hi1 : DI (c.blk scope) noW tg1 it1 fi1) (hg1 : DG (c.blk scope) noW vs1 tg1 gt1) (ht1 : DTs (c.blk scope) noW ifs1 tt1) (he : DE (c.blk scope) noW elt te)
    (hy : c.N[i]? = some y0 := by rfl) (hyl : c.sc.names.lookup y0 = some .local := by rfl) (hk : c.sc.kind = .function := by rfl) (hl : (py.line == pos.line) = true := by rfl) (hn : (scope.names.any fun (n, k) => n == y0 && (k == .local || k == .cell)) = false := by decide +kernel)
    (hs : ∀ env x, foldedSetIterable it env x = pure x := by intro _ _; rfl) (hs1 : ∀ env x, foldedSetIterable it1 env x = pure x := by intro _ _; rfl) (hcm : c.calm = true := by rfl) : DSt c W (.Assign [.Name y0 py] (.ListComp elt [⟨tg, it, ifs, 0⟩, ⟨tg1, it1, ifs1, 0⟩] scope pos) spos) (sAsg (xLc2 fi (own.map (·.2)) gt tt fi1 vs1 gt1 tt1 te) (gNm i)) := by
  obtain ⟨wi, i1, i2⟩ := hi
  obtain ⟨tg', g1, g2⟩ := hg
  obtain ⟨t2, t1, t2'⟩ := ht
  obtain ⟨wi1, j1, j2⟩ := hi1
  obtain ⟨tg1', g3, g4⟩ := hg1
  obtain ⟨t4, t3, t4'⟩ := ht1
  obtain ⟨t5, e1, e2⟩ := he
  refine ⟨tAsg (tLc2 wi tg' t2 wi1 tg1' t4 t5 (own.map (·.2)) vs1) (gName i), fun y hz => ?_, fun r m σ H F al E he hw p => ?_⟩
  · have z : (c.cx y).env.scope = c.sc := hz.scope
    exact ps_setLc2 (X := c.cx y) hcm hN hy (by rw [z]; exact hyl) (sw_true (by rw [z]; exact hk) (by rw [z]; exact hyl) hl hn) (i1 y hz) (by rw [z]; exact blkOk_by ok) hv (fun s H C cl fp => g1 _ (hz.blk s H scope C cl fp)) (fun s H C cl fp => t1 _ (hz.blk s H scope C cl fp)) (fun s H C cl fp => j1 _ (hz.blk s H scope C cl fp)) (fun s H C cl fp => g3 _ (hz.blk s H scope C cl fp)) (fun s H C cl fp => t3 _ (hz.blk s H scope C cl fp)) (fun s H C cl fp => e1 _ (hz.blk s H scope C cl fp)) (hs _) hs1
  · have p' : PostS c.K W F al E ((fi r m).stm r fun xs m1 => (lc2D gt tt fi1 vs1 gt1 tt1 te (wipeR r (own.map (·.2))) xs m1).stm r fun d m2 => .next (r.set i (some d)) m2) := by
      have q : sAsg (xLc2 fi (own.map (·.2)) gt tt fi1 vs1 gt1 tt1 te) (gNm i) r m = ((fi r m).stm r fun xs m1 => (lc2D gt tt fi1 vs1 gt1 tt1 te (wipeR r (own.map (·.2))) xs m1).stm r fun d m2 => .next (r.set i (some d)) m2) := by
        unfold sAsg xLc2
        cases fi r m <;> rfl
      rw [← q]; exact p
    refine i2 r m σ H F al _ he hw (PostS.step he p' fun xs m1 J H1 F1 al1 e3 w1 q1 p1 => ?_)
    refine lc2_read (c := c) (elt := elt) (tg := tg) (it := it) (tg1 := tg1) (it1 := it1) (ifs := ifs) (ifs1 := ifs1) (scope := scope) (W' := atS W σ) (Q := fun x H1 => gName i x σ H1 E.nx) g2 t2' j2 g4 t4' e2 (he.up e3) w1 q1 (PostS.step (he.up e3) p1 fun d m2 x H2 F2 al2 e4 w2 q2 p2 => ?_)
    exact p2 _ H2 F2 al2 Le.refl w2 (((he.up e3).up e4).set i q2)
/-! ### frames -/
theorem rngC_sh (k : Nat) (lo st : Int) (n : Nat) : D.shL k (rngC lo st n) = rngC lo st n := by
  rw [shL_map, rngC, List.map_map]
  rfl
theorem fr_rngD3 (μ : Mu) (ds : List D) (ν : Mu) : FrO μ (rngD3 (D.shL μ.length ds) (shM μ ν)) (rngD3 ds ν) := by
  rcases ds with _ | ⟨x, _ | ⟨y, _ | ⟨z, _ | ⟨u, l⟩⟩⟩⟩ <;> try trivial
  · cases x <;> trivial
  · cases x <;> try trivial
    cases y <;> trivial
  · cases x <;> try trivial
    cases y <;> try trivial
    cases z <;> try trivial
    unfold rngD3
    simp only [D.shL, D.sh]
    split
    · show _ = Out.ok (D.shL _ _) _
      rw [rngC_sh]
    · trivial
  · cases x <;> try trivial
    cases y <;> try trivial
    cases z <;> trivial
theorem fr_xiRng3 {f : XA} (hf : FrA f) : FrA (xiRng3 f) := fun μ r ν => (hf μ r ν).bind fun d ν1 => fr_rngD3 μ d ν1
theorem fr_xLstR {f : XA} (hf : FrA f) : FrE (xLstR f) := fun μ r ν => (hf μ r ν).bind fun xs ν1 => by
  show FrO μ (frzL (D.shL μ.length xs) (shM μ ν1)) (frzL xs ν1)
  unfold frzL
  rw [shL_len]
  split <;> trivial
theorem fr_xNewR {f : XA} (hf : FrA f) : FrE (xNewR f) := fun μ r ν => (hf μ r ν).bind fun xs ν1 => by
  show FrO μ (newL (D.shL μ.length xs) (shM μ ν1)) (newL xs ν1)
  unfold newL
  rw [shL_len, shM_len, inL_sh]
  split
  · exact congrArg (Out.ok _) (shM_app (.lst xs))
  · trivial
theorem shL_ints (k : Nat) (ns : List Int) : D.shL k (ns.map .int) = ns.map .int := by
  rw [shL_map, List.map_map]
  rfl
theorem fr_sortF : FrF sortF := fun μ ds ν => by
  rcases ds with _ | ⟨d, _ | ⟨e, l⟩⟩ <;> try trivial
  exact fr_lstq (k := fun m xs => match intsL xs with
      | some ns => .ok (D.lst ((sortI ns).map .int)) m
      | _ => .stuck) fun xs => by
    show FrO μ (match intsL (D.shL μ.length xs) with
      | some ns => Out.ok (D.lst ((sortI ns).map .int)) (shM μ ν)
      | _ => .stuck) _
    rw [ints_sh]
    cases intsL xs with
    | none => trivial
    | some ns =>
      show Out.ok _ _ = Out.ok (D.lst (D.shL _ _)) _
      rw [shL_ints]
theorem fr_lcG {g : XG} {tt : XT} {fi1 : XA} {vs1 : List Nat} {g1 : XG} {tt1 : XT} {te : XE'} (hg : FrG g) (ht : FrT tt) (hf : FrA fi1) (hg1 : FrG g1) (ht1 : FrT tt1) (he : FrE te) (μ : Mu) (n : Nat) (r0 : Rho) : ∀ (xs : List D) (ν : Mu), FrO μ (lcG g tt fi1 vs1 g1 tt1 te (μ.length + n) (shR μ.length r0) (D.shL μ.length xs) (shM μ ν)) (lcG g tt fi1 vs1 g1 tt1 te n r0 xs ν)
  | [], ν => rfl
  | x :: xs, ν => by
    rw [D.shL, lcG, lcG]
    refine (hg μ x r0 ν).ne.bind fun r1 ν1 => (ht μ r1 ν1).ne.bind fun b ν2 => ?_
    cases b
    · exact fr_lcG hg ht hf hg1 ht1 he μ n r0 xs ν2
    · refine (hf μ r1 ν2).ne.bind fun ys ν3 => ?_
      show FrO μ ((lcF g1 tt1 te (μ.length + n) (wipeR (shR μ.length r1) vs1) (D.shL μ.length ys) (shM μ ν3)).bind _) _
      rw [shR_wipe]
      exact (fr_lcF hg1 ht1 he μ n (wipeR r1 vs1) ys ν3).bind fun _ ν4 => fr_lcG hg ht hf hg1 ht1 he μ n r0 xs ν4
theorem fr_xLc2 {f : XA} {g : XG} {tt : XT} {fi1 : XA} {g1 : XG} {tt1 : XT} {te : XE'} (hf : FrA f) (vs : List Nat) (hg : FrG g) (ht : FrT tt) (hf1 : FrA fi1) (vs1 : List Nat) (hg1 : FrG g1) (ht1 : FrT tt1) (he : FrE te) : FrE (xLc2 f vs g tt fi1 vs1 g1 tt1 te) := fun μ r ν => (hf μ r ν).bind fun xs ν1 => by
  show FrO μ (lc2D g tt fi1 vs1 g1 tt1 te (wipeR (shR μ.length r) vs) (D.shL μ.length xs) (shM μ ν1)) (lc2D g tt fi1 vs1 g1 tt1 te (wipeR r vs) xs ν1)
  unfold lc2D
  rw [shR_wipe, shM_len]
  refine FrO.bind ?_ fun _ ν2 => fr_lcEnd ν1.length μ ν2
  have h := fr_lcG (vs1 := vs1) hg ht hf1 hg1 ht1 he μ ν1.length (wipeR r vs) xs (ν1 ++ [.lst []])
  rw [← shM_app] at h
  exact h
end DS

/-! # DSI: further rules. -/
namespace DS
open PySem PySem.Spec PyProof.Rows L2
variable {c : SC} {W : WX} {pos : Pos} {a b e : Expr} {fa fb : XE'} {fr : XA}
/-! ### xs[::-1] -/
def revD (d : D) (m : Mu) : Out D := match lstOf m d with
  | some xs => .ok (.lst xs.reverse) m
  | none => .stuck
def xRev (f : XE') : XE' := fun r m => (f r m).bind revD
theorem rpl_rev {K : PySem.W.Frag} {F : Hp} {al : List Addr} : ∀ {ds : List D} {vs : List V}, RpL K F al ds vs → RpL K F al ds.reverse vs.reverse
  | _, _, .nil => .nil
  | _, _, .cons r q => by
    rw [List.reverse_cons, List.reverse_cons]
    exact (rpl_rev q).snoc r
theorem de_rev {k : Nat} {p1 p2 p3 : Pos} (h : DE c W a fa) : DE c W (.Subscript a (.Slice none none (some (.UnaryOp .USub (.Constant (.int 1) k p1) p2)) p3) pos) (xRev fa) := by
  obtain ⟨t, h1, h2⟩ := h
  refine ⟨tRevL c.K t, fun y hy => pe_revL (X := c.cx y) (h1 y hy), fun r m σ H F al Q he hw p => ?_⟩
  refine h2 r m σ H F al _ he hw (Post.step p fun d m1 v H1 F1 al1 e1 w1 q1 p1 => ?_)
  unfold revD at p1
  split at p1
  · rename_i xs hx
    obtain ⟨q, vs, rfl, s, r⟩ := lstOf_ok w1 q1 hx
    exact ⟨q, vs, rfl, s, fun n hn => p1 _ _ (upd F1 n _) al1 (ext_new (w1.fnone hn)) (w1.new hn) (.lst upd_same ((rpl_rev r).up (ext_new (w1.fnone hn))))⟩
  · exact p1.elim
end DS

/-! # DSJ: global tuples, f-strings, str of an own object. -/
namespace DS
open PySem PySem.Spec PyProof.Rows L2
variable {c : SC} {W : WX} {pos : Pos} {a b e : Expr} {fa fb : XE'} {fr : XA}
/-! ### a tuple of the module -/
def flatIs : D → Value → Bool
  | .int i, .int j _ => decide (i = j)
  | .str x, .str y _ => decide (x = y)
  | .non, .none => true
  | .bl p, .bool q => decide (p = q)
  | _, _ => false
def flatsAre : List D → List Value → Bool
  | [], [] => true
  | d :: ds, v :: vs => flatIs d v && flatsAre ds vs
  | _, _ => false
def tupB (x : Str) (ds : List D) (K : PySem.W.Frag) : Bool := He.eqO (PySem.W.nsIn K mainGlobals x) (some (some (.ref (He.ga K x)))) && (match K.lookup (He.ga K x) with
  | some ⟨cl, _, .seq its _, _⟩ => decide (cl = .type "tuple") && (decide (its.size ≤ sizeLine) && flatsAre ds its.toList)
  | _ => false)
theorem flatIs_ok {K : PySem.W.Frag} {F : Hp} {al : List Addr} {d : D} {v : Value} (h : flatIs d v = true) : ∃ w, Rp K F al d w ∧ RelV w v := by
  unfold flatIs at h
  split at h
  · exact ⟨.int _, .int _, by rw [of_decide_eq_true h]; exact ⟨_, rfl⟩⟩
  · exact ⟨.str _, .str _, by rw [of_decide_eq_true h]; exact ⟨_, rfl⟩⟩
  · exact ⟨.non, .non, rfl⟩
  · exact ⟨.bl _, .bl _, by rw [of_decide_eq_true h]; rfl⟩
  · cases h
theorem flatsAre_ok {K : PySem.W.Frag} {F : Hp} {al : List Addr} : ∀ {ds : List D} {vs : List Value}, flatsAre ds vs = true → ∃ ws, RpL K F al ds ws ∧ Vals ws vs
  | [], [], _ => ⟨[], .nil, .nil⟩
  | d :: ds, v :: vs, h => by
    rw [flatsAre, Bool.and_eq_true] at h
    obtain ⟨w, h1, h2⟩ := flatIs_ok (K := K) (F := F) (al := al) h.1
    obtain ⟨ws, h3, h4⟩ := flatsAre_ok (K := K) (F := F) (al := al) h.2
    exact ⟨w :: ws, .cons h1 h3, .cons h2 h4⟩
  | [], _ :: _, h => by cases h
  | _ :: _, [], h => by cases h
theorem de_gtup {x : Str} {ds : List D} (h : tupB x ds c.K = true) (hm : c.mg x = some (.ref (He.ga c.K x))) (hg : c.sc.names.lookup x = some .globalImplicit := by rfl) (hd : (x == ("__debug__" : Str)) = false := by decide) : DE c W (.Name x pos) (xC (.tup ds)) := by
  obtain ⟨_, h2⟩ := He.ba h
  refine ⟨_, fun y hy => pe_glob (v := .ref (He.ga c.K x)) (hy.gl hg) hm rfl hd, fun _ _ _ H F al Q _ hw p => p _ H F al Le.refl hw ?_⟩
  split at h2
  · rename_i cl od its n sl e
    obtain ⟨h3, h4⟩ := He.ba h2
    obtain ⟨h5, h6⟩ := He.ba h4
    obtain ⟨ws, h7, h8⟩ := flatsAre_ok (K := c.K) (F := F) (al := al) h6
    exact .tup (.inr ⟨_, its, n, e, of_decide_eq_true h3, rfl, of_decide_eq_true h5, h8⟩) h7
  · cases h2
theorem tupB_glo {x : Str} {ds : List D} {K : PySem.W.Frag} (h : tupB x ds K = true) : PySem.W.nsIn K mainGlobals x = some (some (.ref (He.ga K x))) := He.eqO_ok (He.ba h).1

/-! ### tuple(range(..)) -/
def frzT (xs : List D) (m : Mu) : Out D := if xs.length ≤ 16777216 then .ok (.tup xs) m else .stuck
def xTupR (f : XA) : XE' := fun r m => (f r m).bind frzT
theorem frzT_ok {W' : XK} {F : Hp} {al : List Addr} {Q : VK} {m : Mu} {H : Hp} {xs : List D} {vs : List V} (w : Wd c.K F al m H) (q : RpL c.K F al xs vs) (p : Post c.K (RD c.K) W' F al Q (frzT xs m)) : xs.length ≤ 16777216 ∧ ∀ n, H n = none → Q (.ref n) (upd H n (.tup vs)) := by
  unfold frzT at p
  split at p
  · rename_i hl
    exact ⟨hl, fun n hn => p _ _ (upd F n _) al (ext_new (w.fnone hn)) (w.new hn) (.tup (.of upd_same) (q.up (ext_new (w.fnone hn))))⟩
  · exact p.elim
theorem de_tupR1 {p0 p1 pos1 : Pos} (hl : c.mg "tuple" = none) (hm : c.mg "range" = none) (h : DE c W a fa) (hgl : c.sc.names.lookup ("tuple" : Str) = some .globalImplicit := by rfl) (hg : c.sc.names.lookup ("range" : Str) = some .globalImplicit := by rfl)
    (ns : ∀ env, starEach [.Call (.Name "range" p1) [a] [] pos1] env = (false, eval (.Call (.Name "range" p1) [a] [] pos1) env) :: starEach [] env := by intro _; rfl) (hs : ∀ env, starEach [a] env = (false, eval a env) :: starEach [] env := by intro _; rfl) (hcm : c.calm = true := by rfl) :
    DE c W (.Call (.Name "tuple" p0) [.Call (.Name "range" p1) [a] [] pos1] [] pos) (xTupR (xiRng1 (xaCons fa xaNil))) := by
  obtain ⟨t, h1, h2⟩ := h
  refine ⟨tTupRg (tRg1 t), fun y hy => pe_tupRg (X := c.cx y) hcm (hy.gl hgl) hl (prg_1 (hy.gl hg) hm (h1 y hy) (hs _)) (ns _), fun r m σ H F al Q he hw p => ?_⟩
  unfold xTupR xiRng1 xaCons at p
  refine h2 r m σ H F al _ he hw (Post.step p.assoc.assoc fun d m1 v H1 F1 al1 e1 w1 q1 p1 => ?_)
  have p2 : Post c.K (RD c.K) (atS W σ) F1 al1 Q ((rngD1 [d] m1).bind frzT) := p1
  clear p1
  unfold rngD1 at p2
  split at p2
  · rename_i j e
    cases e
    cases q1
    split at p2
    · rename_i hb
      have q := frzT_ok w1 (rpl_ints (K := c.K) (F := F1) (al := al1) (fun i => 0 + (i : Int)) (List.range j.toNat)) p2
      rw [List.length_map, List.length_range] at q
      refine ⟨j, rfl, ⟨by omega, by omega, hb.1, hb.2, by omega⟩, fun n hn => ?_⟩
      have z := q.2 n hn
      unfold rgV
      rw [Int.sub_zero]
      exact z
    · exact p2.elim
  · exact p2.elim
theorem de_tupR2 {p0 p1 pos1 : Pos} (hl : c.mg "tuple" = none) (hm : c.mg "range" = none) (h : DE c W a fa) (h' : DE c W b fb) (hgl : c.sc.names.lookup ("tuple" : Str) = some .globalImplicit := by rfl) (hg : c.sc.names.lookup ("range" : Str) = some .globalImplicit := by rfl)
    (ns : ∀ env, starEach [.Call (.Name "range" p1) [a, b] [] pos1] env = (false, eval (.Call (.Name "range" p1) [a, b] [] pos1) env) :: starEach [] env := by intro _; rfl) (hs : ∀ env, starEach [a, b] env = (false, eval a env) :: starEach [b] env := by intro _; rfl) (hs2 : ∀ env, starEach [b] env = (false, eval b env) :: starEach [] env := by intro _; rfl) (hp : ∀ env, (backTo pos1 (starEach [b] env)).any (·.1) = false := by intro _; rfl) (hcm : c.calm = true := by rfl) :
    DE c W (.Call (.Name "tuple" p0) [.Call (.Name "range" p1) [a, b] [] pos1] [] pos) (xTupR (xiRng2 (xaCons fa (xaCons fb xaNil)))) := by
  obtain ⟨t, h1, h2⟩ := h
  obtain ⟨t', h3, h4⟩ := h'
  refine ⟨tTupRg (tRg2 t t'), fun y hy => pe_tupRg (X := c.cx y) hcm (hy.gl hgl) hl (prg_2 (hy.gl hg) hm (h1 y hy) (h3 y hy) (hs _) (hs2 _) (hp _)) (ns _), fun r m σ H F al Q he hw p => ?_⟩
  unfold xTupR xiRng2 xaCons at p
  refine h2 r m σ H F al _ he hw (Post.step p.assoc.assoc fun d m1 v H1 F1 al1 e1 w1 q1 p1 => ?_)
  have p3 : Post c.K (RD c.K) (atS W σ) F1 al1 Q ((fb r m1).bind fun z m2 => (rngD2 [d, z] m2).bind frzT) := by
    have z := p1.assoc
    cases hb : fb r m1 with
    | ok z' m2 => rw [hb] at z; exact z
    | exc _ _ _ => rw [hb] at z; exact z
    | stuck => rw [hb] at z; exact z
  refine h4 r m1 σ H1 F1 al1 _ (he.up e1) w1 (Post.step p3 fun d2 m2 v2 H2 F2 al2 e2 w2 q2 p2 => ?_)
  · have q1 := Rp.up e2 q1
    unfold rngD2 at p2
    split at p2
    · rename_i i j e
      cases e
      cases q1; cases q2
      split at p2
      · rename_i hb
        have q := frzT_ok w2 (rpl_ints (K := c.K) (F := F2) (al := al2) (fun n => i + (n : Int)) (List.range (j - i).toNat)) p2
        rw [List.length_map, List.length_range] at q
        exact ⟨i, j, rfl, rfl, ⟨hb.1, hb.2.1, hb.2.2.1, hb.2.2.2, by omega⟩, fun n hn => q.2 n hn⟩
      · exact p2.elim
    · exact p2.elim

/-! ### f-strings -/
def fmtD (d : D) (m : Mu) : Out D := match d with
  | .str y => if y.length ≤ sizeLine then .ok (.str y) m else .stuck
  | .int i => if i.natAbs.log2 < 1920 then .ok (.str (toString i)) m else .stuck
  | _ => .stuck
def xFmt (f : XE') : XE' := fun r m => (f r m).bind fmtD
theorem de_fmt (h : DE c W e fa) : DE c W (.FormattedValue e (-1) none pos) (xFmt fa) := by
  obtain ⟨t, h1, h2⟩ := h
  refine ⟨tFmt t, fun y hy => pe_fmt (X := c.cx y) (h1 y hy), fun r m σ H F al Q he hw p => ?_⟩
  refine h2 r m σ H F al _ he hw (Post.step p fun d m1 v H1 F1 al1 e1 w1 q1 p1 => ?_)
  unfold fmtD at p1
  split at p1
  · cases q1
    split at p1
    · rename_i hz
      exact .inl ⟨_, rfl, hz, p1 _ H1 F1 al1 Le.refl w1 (.str _)⟩
    · exact p1.elim
  · cases q1
    split at p1
    · rename_i hz
      exact .inr ⟨_, rfl, hz, p1 _ H1 F1 al1 Le.refl w1 (.str _)⟩
    · exact p1.elim
  · exact p1.elim
/-- the parts of an f-string, one behind the other -/
abbrev XJ := Str → Rho → Mu → Out Str
def xjNil : XJ := fun acc _ m => .ok acc m
def xjCons (f : XE') (g : XJ) : XJ := fun acc r m => (f r m).bind fun d m1 => match d with
  | .str y => if (acc ++ y).length ≤ sizeLine then g (acc ++ y) r m1 else .stuck
  | _ => .stuck
def RS : Hp → List Addr → Str → Str → Prop := fun _ _ a b => a = b
def DJ (c : SC) (W : WX) (es : List Expr) (f : XJ) : Prop := ∃ ts : List TE, (∀ y, OkD c W y → PJ (c.cx y) es ts) ∧
  ∀ acc r m σ H F al (Q : Str → Hp → Prop), EnvOk c.K F al r σ → Wd c.K F al m H → Post c.K RS (atS W σ) F al Q (f acc r m) → tJs ts acc σ H Q
theorem dj_nil : DJ c W [] xjNil := ⟨[], fun _ _ => .nil, fun acc r m σ H F al Q he hw p => p acc H F al Le.refl hw rfl⟩
theorem dj_cons {es : List Expr} {g : XJ} (h : DE c W e fa) (hs : DJ c W es g) : DJ c W (e :: es) (xjCons fa g) := by
  obtain ⟨t, h1, h2⟩ := h
  obtain ⟨ts, h3, h4⟩ := hs
  refine ⟨t :: ts, fun y hy => .cons (h1 y hy) (h3 y hy), fun acc r m σ H F al Q he hw p => ?_⟩
  refine h2 r m σ H F al _ he hw (Post.step p fun d m1 v H1 F1 al1 e1 w1 q1 p1 => ?_)
  split at p1
  · cases q1
    split at p1
    · rename_i hz
      exact ⟨_, rfl, hz, h4 _ r m1 σ H1 F1 al1 Q (he.up e1) w1 p1⟩
    · exact p1.elim
  · exact p1.elim
def xJoin (g : XJ) : XE' := fun r m => (g Str.empty r m).bind fun z m1 => .ok (.str z) m1
theorem de_joined {v1 v2 : Expr} {rest : List Expr} {g : XJ} (h : DJ c W (v1 :: v2 :: rest) g) : DE c W (.JoinedStr (v1 :: v2 :: rest) pos) (xJoin g) := by
  obtain ⟨ts, h1, h2⟩ := h
  refine ⟨_, fun y hy => pe_joined (X := c.cx y) (h1 y hy), fun r m σ H F al Q he hw p => ?_⟩
  refine h2 Str.empty r m σ H F al _ he hw (Post.step p fun z m1 z' H1 F1 al1 e1 w1 q1 p1 => ?_)
  cases q1
  exact p1 _ H1 F1 al1 Le.refl w1 (.str _)

/-! ### str(o) by the class's own __str__ -/
theorem call_strO {X : Cx} {CX : CXT} {C f : Addr} {fd : FuncData} {ps : List Str} {sp : Sp} {n : Nat} {E : XK} (F : FnOk X.prog X.w X.K X.mg X.base CX n f fd ps sp) (hs : PySem.W.findIn X.K (.ref C) "__str__" = some (some (.ref f))) (hf : PySem.W.isFn X.K (.ref f) = true) (hb : Binds X.K fd ps []) (hx : Passes CX X E) (hr : Room (n + 2) X.A) :
    CallR X (.type "str") (fun vs H Q => ∃ a dx fs, vs = [.ref a] ∧ H a = some (.ins C dx fs) ∧ sp [.ref a] H (fun v H' => (∃ y, v = .str y) ∧ Q v H') E) := by
  intro pins s σ H vs us Q I rv q
  obtain ⟨a, dx, fs, rfl, ha, hsp⟩ := q
  obtain ⟨u, rfl, ru⟩ := vals1 rv
  obtain rfl : u = Value.ref a := ru
  obtain ⟨mA, J, _⟩ := ins_get I.hok ha
  obtain ⟨od, J, _⟩ := J.look
  have hr1 : Room (n + 1) X.A.in1 := hr.in1
  have hr2 : Room n X.A.in1.in1 := hr1.in1
  refine PySem.W.kso_call hr2.units0 I.kIn J hs hf ?_
  have hl := F.len _ _ _ _ hsp
  have r2 : Vals [V.ref a] [Value.ref a] := .cons rfl .nil
  refine wpAny_call (codeAny_mono (F.run X.A.in1.in1 X.stack s H ⟨[.ref a], []⟩ [.ref a] [.ref a] _ E hr2 I.env0.in1.in1 (by
    have := hb s [.ref a] I.kIn (by simpa using hl)
    simpa using this) r2 hsp) fun r s' hq => ?_)
  cases r with
  | error e => exact hx pins σ H s e s' I hq
  | ok fl =>
    cases fl with
    | ret w =>
      obtain ⟨z, H', I', rz, ⟨y, ez⟩, ex⟩ := I.after hq
      subst ez
      obtain ⟨t, rfl⟩ := rz
      exact ⟨.str y, H', I', ⟨t, rfl⟩, ex⟩
    | next => exact False.elim hq
    | brk => exact False.elim hq
    | cont => exact False.elim hq
def strO (cn : Str) (G : Fn) (ds : List D) (m : Mu) : Out D := match ds with
  | [d] => (match insOf m d with
    | some (c', _) => if c' = cn then (match G [d] m with
      | .ok (.str y) m' => .ok (.str y) m'
      | _ => .stuck) else .stuck
    | none => .stuck)
  | _ => .stuck
theorem b_strO {cn : Str} {k : Nat} {f : Addr} {fd : FuncData} {ps : List Str} {G : Fn} (hF : FOk c k f fd ps G) (hm : Meth c.K (He.ga c.K cn) "__str__" f) (hb : Binds c.K fd ps []) (hr : k + 2 ≤ c.k := by exact Nat.le_of_ble_eq_true rfl) (hcm : c.calm = true := by rfl) (hl : 1 = ps.length := by rfl) : CallD c (.type "str") (strO cn G) := by
  refine ⟨_, fun W y hy => call_strO (X := c.cx y) (C := He.ga c.K cn) (E := fun _ _ _ => False) hF hm.at_ hm.fn hb (fun pins σ H s e s' I h => ?_) (hy.rm hcm hr), fun W ds m vs H F al Q hw r p => ?_⟩
  · obtain ⟨_, _, _, _, _, _, _, _, _, _, _, _, _, _, _, _, q⟩ := XE.of_call (W := fun _ _ _ _ => False) I (fun _ _ _ h => h) h
    exact q.elim
  · unfold strO at p
    split at p
    · cases r with
      | cons q1 r =>
      cases r
      split at p
      · rename_i c' gs hi
        obtain ⟨q, dx, fs, rfl, h1, h2⟩ := insOf_ok hw q1 hi
        split at p
        · rename_i hcl
          subst hcl
          refine ⟨q, dx, fs, rfl, h1, [_], m, F, al, hl, .cons q1 .nil, hw, ?_⟩
          split at p
          · rename_i y m' e
            rw [e]
            intro v H' F' al' e1 w1 r1
            cases r1
            exact ⟨⟨_, rfl⟩, p _ H' F' al' e1 w1 (.str _)⟩
          · exact p.elim
        · exact p.elim
      · exact p.elim
    · exact p.elim
end DS

namespace J
open PySem PySem.Spec PyProof.Rows L2 DS
def sh_210 {α : Type} (l : List α) : List α := match l with
  | [x0, x1, x2] => [x2, x1, x0]
  | l => l
def sh_120 {α : Type} (l : List α) : List α := match l with
  | [x0, x1, x2] => [x1, x2, x0]
  | l => l
def cs : List Str := ["Book", "Clause"]
def B_text_of : XS := (sSeq (sAsg (xVar 0) (gTp 4 (gsCons (gNm 1) (gsCons (gNm 2) (gsCons (gNm 3) (gsCons (gNm 4) gsNil))))))
  (sRet (xBM "str" joinF (xC (.str "\n")) (xaCons (xLstS (xaCons (xJoin (xjCons (xC (.str "plan ")) (xjCons (xFmt (xVar 1)) (xjCons (xC (.str " ")) (xjCons (xFmt (xVar 2)) (xjCons (xC (.str " base ")) (xjCons (xFmt (xVar 3)) xjNil))))))) (xaStar (xVar 4) xaNil))) xaNil))))
def F_text_of : Fn := fnOf 5 false B_text_of
def B_Book_D_strD_ : XS := (sRet (xBM "str" joinF (xC (.str "\n")) (xaCons (xLc (xiSeq (xFld "Book" "held" (xVar 0))) [1] (gNm 1) xYes (xCall F_text_of (xaCons (xVar 1) xaNil))) xaNil)))
def F_Book_D_strD_ : Fn := fnOf 2 false B_Book_D_strD_
def B_joined : XS := (sSeq (sIf (xOrT (xTest (xOp isD (xVar 0) (xC .non))) (xTest (xOp isD (xVar 1) (xC .non)))) (sRet (xC .non)) sNil)
  (sSeq (sIf (xOrT (xTest (xOp eqD (xVar 0) (xC (.tup [.int 0, .int 0])))) (xTest (xOp eqD (xVar 1) (xC (.tup [.int 0, .int 0]))))) (sRet (xIf (xTest (xOp eqD (xVar 0) (xC (.tup [.int 0, .int 0])))) (xVar 1) (xVar 0))) sNil)
  (sRet (xIf (xTest (xOp eqD (xOp ixD (xVar 0) (xC (.int 1))) (xOp ixD (xVar 1) (xC (.int 0))))) (xTup (xaCons (xOp ixD (xVar 0) (xC (.int 0))) (xaCons (xOp ixD (xVar 1) (xC (.int 1))) xaNil))) (xC .non)))))
def F_joined : Fn := fnOf 2 false B_joined
def B_read_at : XS := (sSeq (sAsg (xIf (xTest (xOp eqD (xFld "Clause" "side" (xVar 0)) (xC (.str "left")))) (xOp subD (xVar 1) (xFld "Clause" "far" (xVar 0))) (xOp addD (xVar 1) (xFld "Clause" "far" (xVar 0)))) (gNm 3))
  (sRet (xIf (xTest (xChain leD ltD (xC (.int 0)) (xVar 3) (xVar 2))) (xVar 3) (xC .non))))
def F_read_at : Fn := fnOf 4 false B_read_at
def B_word_behind : XS := (sSeq (sIf (xTest (xOp eqD (xFld "Clause" "word" (xVar 0)) (xC (.str "clear")))) (sRet (xTup (xaCons (xC (.int 0)) (xaCons (xC (.int 0)) xaNil)))) sNil)
  (sSeq (sAsg (xCall F_read_at (xaCons (xVar 0) (xaCons (xVar 1) (xaCons (xCall lenD (xaCons (xVar 2) xaNil)) xaNil)))) (gNm 3))
  (sSeq (sIf (xTest (xOp isD (xVar 3) (xC .non))) (sRet (xIf (xTest (xOp eqD (xFld "Clause" "word" (xVar 0)) (xC (.str "take")))) (xTup (xaCons (xC (.int 0)) (xaCons (xC (.int 0)) xaNil))) (xOp ixD (xVar 2) (xVar 1)))) sNil)
  (sSeq (sIf (xTest (xOp eqD (xFld "Clause" "word" (xVar 0)) (xC (.str "take")))) (sRet (xOp ixD (xVar 2) (xVar 3))) sNil)
  (sSeq (sAsg (xIf (xTest (xOp eqD (xFld "Clause" "side" (xVar 0)) (xC (.str "left")))) (xTup (xaCons (xVar 3) (xaCons (xVar 1) xaNil))) (xTup (xaCons (xVar 1) (xaCons (xVar 3) xaNil)))) (gTp 2 (gsCons (gNm 4) (gsCons (gNm 5) gsNil))))
  (sRet (xCall F_joined (xaCons (xOp ixD (xVar 2) (xVar 4)) (xaCons (xOp ixD (xVar 2) (xVar 5)) xaNil)))))))))
def F_word_behind : Fn := fnOf 6 false B_word_behind
def B_joined_all : XS := (sSeq (sAsg (xC (.tup [.int 0, .int 0])) (gNm 1))
  (sSeq (sFor (xiSeq (xVar 0)) (gNm 2)
  (sAsg (xCall F_joined (xaCons (xVar 1) (xaCons (xVar 2) xaNil))) (gNm 1)))
  (sRet (xVar 1))))
def F_joined_all : Fn := fnOf 3 false B_joined_all
def B_beginnings : XS := (sSeq (sAsg (xNew (xaCons (xC (.tup [.int 0, .int 0])) xaNil)) (gNm 1))
  (sSeq (sFor (xiSeq (xVar 0)) (gNm 2)
  (sExpr (xBM "list" appF (xVar 1) (xaCons (xCall F_joined (xaCons (xOp ixD (xVar 1) (xNeg (xC (.int 1)))) (xaCons (xVar 2) xaNil))) xaNil))))
  (sRet (xVar 1))))
def F_beginnings : Fn := fnOf 3 false B_beginnings
def B_goal_runs : XS := (sSeq (sAsg (xVar 0) (gTp 2 (gsCons (gNm 2) (gsCons (gNm 3) gsNil))))
  (sSeq (sIf (xTest (xOp eqD (xVar 2) (xC (.str "all")))) (sRet (xSl (xCall F_beginnings (xaCons (xVar 1) xaNil)) (xoS (xC (.int 1))) xoN)) sNil)
  (sSeq (sIf (xTest (xOp eqD (xVar 2) (xC (.str "before")))) (sRet (xSl (xCall F_beginnings (xaCons (xVar 1) xaNil)) xoN (xoS (xNeg (xC (.int 1)))))) sNil)
  (sRet (xLc (xiRng1 (xaCons (xCall lenD (xaCons (xVar 1) xaNil)) xaNil)) [4] (gNm 4) xYes (xCall F_joined_all (xaCons (xSl (xVar 1) (xoS (xCall maxF (xaCons (xC (.int 0)) (xaCons (xOp addD (xOp subD (xVar 4) (xVar 3)) (xC (.int 1))) xaNil)))) (xoS (xOp addD (xVar 4) (xC (.int 1))))) xaNil)))))))
def F_goal_runs : Fn := fnOf 5 false B_goal_runs
def B_is_integer : XS := (sRet (xAnd (xCall (isiF cs) (xaCons (xVar 0) (xaCons (xC (.ty "int")) xaNil))) (xNot (xCall (isiF cs) (xaCons (xVar 0) (xaCons (xC (.ty "bool")) xaNil))))))
def F_is_integer : Fn := fnOf 1 false B_is_integer
def B_is_between : XS := (sRet (xAnd (xCall F_is_integer (xaCons (xVar 0) xaNil)) (xChain leD leD (xVar 1) (xVar 0) (xVar 2))))
def F_is_between : Fn := fnOf 3 false B_is_between
def B_digit_of : XS := (sRet (xIf (xAndT (xTest (xOp eqD (xCall lenD (xaCons (xVar 0) xaNil)) (xC (.int 1)))) (xTest (xOp inD (xVar 0) (xC (.str "0123456789"))))) (xCall intF (xaCons (xVar 0) xaNil)) (xC .non)))
def F_digit_of : Fn := fnOf 1 false B_digit_of
def B_read_goal : XS := (sSeq (sIf (xNotT (xTest (xCall (isiF cs) (xaCons (xVar 0) (xaCons (xC (.ty "str")) xaNil))))) (sRet (xC .non)) sNil)
  (sSeq (sIf (xTest (xOp inD (xVar 0) (xTup (xaCons (xC (.str "all")) (xaCons (xC (.str "before")) xaNil))))) (sRet (xTup (xaCons (xVar 0) (xaCons (xC .non) xaNil)))) sNil)
  (sSeq (sAsg (xIf (xTest (xOp eqD (xSl (xVar 0) xoN (xoS (xC (.int 5)))) (xC (.str "last ")))) (xCall F_digit_of (xaCons (xSl (xVar 0) (xoS (xC (.int 5))) xoN) xaNil)) (xC .non)) (gNm 1))
  (sRet (xIf (xTest (xCall F_is_between (xaCons (xVar 1) (xaCons (xC (.int 1)) (xaCons (xC (.int 4)) xaNil))))) (xTup (xaCons (xC (.str "last")) (xaCons (xVar 1) xaNil))) (xC .non))))))
def F_read_goal : Fn := fnOf 2 false B_read_goal
def B_Book_plan : XS := (sSeq (sFor (xiSeq (xFld "Book" "held" (xVar 0))) (gNm 2)
  (sIf (xAndT (xTest (xCall (isiF cs) (xaCons (xVar 1) (xaCons (xC (.ty "str")) xaNil)))) (xTest (xOp eqD (xOp ixD (xVar 2) (xC (.int 0))) (xVar 1)))) (sRet (xVar 2)) sNil))
  sNever)
def F_Book_plan : Fn := fnOf 3 false B_Book_plan
def B_Book_goal_of : XS := (sRet (xCall F_read_goal (xaCons (xOp ixD (xMeth "Book" "plan" F_Book_plan (xVar 0) (xaCons (xVar 1) xaNil)) (xC (.int 1))) xaNil)))
def F_Book_goal_of : Fn := fnOf 2 false B_Book_goal_of
def B_places_of : XS := (sRet (xLstR (xiRng3 (xaCons (xFld "Clause" "rest" (xVar 0)) (xaCons (xVar 1) (xaCons (xFld "Clause" "step" (xVar 0)) xaNil))))))
def F_places_of : Fn := fnOf 2 false B_places_of
def B_round_done : XS := (sSeq (sAsg (xCall newF (xaCons (xVar 2) xaNil)) (gNm 3))
  (sSeq (sFor (xiSeq (xVar 1)) (gNm 4)
  (sSeq (sAsg (xCall F_places_of (xaCons (xVar 4) (xaCons (xCall lenD (xaCons (xVar 2) xaNil)) xaNil))) (gNm 5))
  (sSeq (sIf (xTest (xOp eqD (xFld "Clause" "word" (xVar 4)) (xC (.str "call")))) (sAsg (xCall F_goal_runs (xaCons (xMeth "Book" "goal_of" F_Book_goal_of (xVar 0) (xaCons (xFld "Clause" "goal" (xVar 4)) xaNil)) (xaCons (xLc (xiSeq (xVar 5)) [7] (gNm 7) xYes (xOp ixD (xVar 2) (xVar 7))) xaNil))) (gNm 6)) (sAsg (xLc (xiSeq (xVar 5)) [7] (gNm 7) xYes (xCall F_word_behind (xaCons (xVar 4) (xaCons (xVar 7) (xaCons (xVar 2) xaNil))))) (gNm 6)))
  (sFor (xiZip (xaCons (xVar 5) (xaCons (xVar 6) xaNil))) (gTp 2 (gsCons (gNm 7) (gsCons (gNm 8) gsNil)))
  (sAsg (xVar 8) (gSb (xVar 3) (xVar 7)))))))
  (sRet (xVar 3))))
def F_round_done : Fn := fnOf 9 false B_round_done
def B_Book_program : XS := (sRet (xOp dgetD (xFld "Book" "parsed" (xVar 0)) (xVar 1)))
def F_Book_program : Fn := fnOf 2 false B_Book_program
def B_levels_of : XS := (sSeq (sAsg (xNew (xaCons (xLc (xiRng1 (xaCons (xVar 2) xaNil)) [5] (gNm 5) xYes (xTup (xaCons (xVar 5) (xaCons (xOp addD (xVar 5) (xC (.int 1))) xaNil)))) xaNil)) (gNm 3))
  (sSeq (sFor (xiSeq (xMeth "Book" "program" F_Book_program (xVar 0) (xaCons (xVar 1) xaNil))) (gNm 4)
  (sExpr (xBM "list" appF (xVar 3) (xaCons (xCall F_round_done (xaCons (xVar 0) (xaCons (xVar 4) (xaCons (xOp ixD (xVar 3) (xNeg (xC (.int 1)))) xaNil)))) xaNil))))
  (sRet (xVar 3))))
def F_levels_of : Fn := fnOf 6 false B_levels_of
def B_check_size : XS := (sIf (xNotT (xTest (xCall F_is_between (xaCons (xVar 0) (xaCons (xC (.int 1)) (xaCons (xVar 1) xaNil)))))) sNever sNil)
def F_check_size : Fn := fnOf 2 false B_check_size
def B_check_plan : XS := (sExpr (xMeth "Book" "plan" F_Book_plan (xVar 0) (xaCons (xVar 1) xaNil)))
def F_check_plan : Fn := fnOf 2 false B_check_plan
def B_check_book : XS := (sIf (xNotT (xTest (xCall (isiF cs) (xaCons (xVar 0) (xaCons (xC (.glo "Book")) xaNil))))) sNever sNil)
def F_check_book : Fn := fnOf 1 false B_check_book
def B_level : XS := (sSeq (sExpr (xCall F_check_book (xaCons (xVar 0) xaNil)))
  (sSeq (sExpr (xCall F_check_plan (xaCons (xVar 0) (xaCons (xVar 1) xaNil))))
  (sSeq (sExpr (xCall F_check_size (xaCons (xVar 2) (xaCons (xC (.int 100)) xaNil))))
  (sRet (xCall tupF (xaCons (xLc (xiSeq (xCall F_levels_of (xaCons (xVar 0) (xaCons (xVar 1) (xaCons (xVar 2) xaNil))))) [3] (gNm 3) xYes (xCall tupF (xaCons (xVar 3) xaNil))) xaNil))))))
def F_level : Fn := fnOf 4 false B_level
def B_due_run : XS := (sSeq (sAsg (xVar 0) (gTp 2 (gsCons (gNm 2) (gsCons (gNm 3) gsNil))))
  (sSeq (sIf (xTest (xOp eqD (xVar 2) (xC (.str "all")))) (sRet (xTup (xaCons (xC (.int 0)) (xaCons (xOp addD (xVar 1) (xC (.int 1))) xaNil)))) sNil)
  (sRet (xIf (xTest (xOp eqD (xVar 2) (xC (.str "before")))) (xTup (xaCons (xC (.int 0)) (xaCons (xVar 1) xaNil))) (xTup (xaCons (xCall maxF (xaCons (xC (.int 0)) (xaCons (xOp addD (xOp subD (xVar 1) (xVar 3)) (xC (.int 1))) xaNil))) (xaCons (xOp addD (xVar 1) (xC (.int 1))) xaNil)))))))
def F_due_run : Fn := fnOf 4 false B_due_run
def B_wrong_places : XS := (sSeq (sAsg (xTup (xaCons (xMeth "Book" "goal_of" F_Book_goal_of (xVar 0) (xaCons (xVar 1) xaNil)) (xaCons (xOp ixD (xCall F_levels_of (xaCons (xVar 0) (xaCons (xVar 1) (xaCons (xVar 2) xaNil)))) (xNeg (xC (.int 1)))) xaNil))) (gTp 2 (gsCons (gNm 3) (gsCons (gNm 4) gsNil))))
  (sRet (xLc (xiRng1 (xaCons (xVar 2) xaNil)) [5] (gNm 5) (xTest (xOp neD (xOp ixD (xVar 4) (xVar 5)) (xCall F_due_run (xaCons (xVar 3) (xaCons (xVar 5) xaNil))))) (xVar 5))))
def F_wrong_places : Fn := fnOf 6 false B_wrong_places
def B_holds_at : XS := (sRet (xOr (xOp leD (xVar 2) (xOp ixD (xMeth "Book" "plan" F_Book_plan (xVar 0) (xaCons (xVar 1) xaNil)) (xC (.int 2)))) (xOp eqD (xCall F_wrong_places (xaCons (xVar 0) (xaCons (xVar 1) (xaCons (xVar 2) xaNil)))) (xLst xaNil))))
def F_holds_at : Fn := fnOf 3 false B_holds_at
def B_holds : XS := (sSeq (sExpr (xCall F_check_book (xaCons (xVar 0) xaNil)))
  (sSeq (sExpr (xCall F_check_plan (xaCons (xVar 0) (xaCons (xVar 1) xaNil))))
  (sSeq (sExpr (xCall F_check_size (xaCons (xVar 2) (xaCons (xC (.int 100)) xaNil))))
  (sRet (xCall F_holds_at (xaCons (xVar 0) (xaCons (xVar 1) (xaCons (xVar 2) xaNil))))))))
def F_holds : Fn := fnOf 3 false B_holds
def B__law_due : XS := (sSeq (sIf (xTest (xOp eqD (xOp ixD (xVar 0) (xC (.int 0))) (xC (.str "last")))) (sRet (xTupR (xiRng2 (xaCons (xCall maxF (xaCons (xC (.int 0)) (xaCons (xOp subD (xOp addD (xVar 1) (xC (.int 1))) (xOp ixD (xVar 0) (xC (.int 1)))) xaNil))) (xaCons (xOp addD (xVar 1) (xC (.int 1))) xaNil))))) sNil)
  (sRet (xTupR (xiRng1 (xaCons (xIf (xTest (xOp eqD (xOp ixD (xVar 0) (xC (.int 0))) (xC (.str "all")))) (xOp addD (xVar 1) (xC (.int 1))) (xVar 1)) xaNil)))))
def F__law_due : Fn := fnOf 2 false B__law_due
def B__law_joint : XS := (sSeq (sIf (xOrT (xTest (xOp isD (xVar 0) (xC .non))) (xTest (xOp isD (xVar 1) (xC .non)))) (sRet (xC .non)) sNil)
  (sSeq (sIf (xOrT (xTest (xOp eqD (xVar 0) (xTup xaNil))) (xOrT (xTest (xOp eqD (xVar 1) (xTup xaNil))) (xTest (xOp eqD (xOp addD (xOp ixD (xVar 0) (xNeg (xC (.int 1)))) (xC (.int 1))) (xOp ixD (xVar 1) (xC (.int 0))))))) (sRet (xOp addD (xVar 0) (xVar 1))) sNil)
  (sRet (xC .non))))
def F__law_joint : Fn := fnOf 2 false B__law_joint
def B__law_all_joint : XS := (sSeq (sAsg (xTup xaNil) (gNm 1))
  (sSeq (sFor (xiSeq (xVar 0)) (gNm 2)
  (sAsg (xCall F__law_joint (xaCons (xVar 1) (xaCons (xVar 2) xaNil))) (gNm 1)))
  (sRet (xVar 1))))
def F__law_all_joint : Fn := fnOf 3 false B__law_all_joint
def B__law_says : XS := (sSeq (sAsg (xNew xaNil) (gNm 2))
  (sSeq (sFor (xiRng1 (xaCons (xCall lenD (xaCons (xVar 1) xaNil)) xaNil)) (gNm 3)
  (sIf (xTest (xOp eqD (xOp ixD (xVar 0) (xC (.int 0))) (xC (.str "all")))) (sExpr (xBM "list" appF (xVar 2) (xaCons (xCall F__law_all_joint (xaCons (xSl (xVar 1) xoN (xoS (xOp addD (xVar 3) (xC (.int 1))))) xaNil)) xaNil))) (sIf (xTest (xOp eqD (xOp ixD (xVar 0) (xC (.int 0))) (xC (.str "before")))) (sExpr (xBM "list" appF (xVar 2) (xaCons (xCall F__law_all_joint (xaCons (xSl (xVar 1) xoN (xoS (xVar 3))) xaNil)) xaNil))) (sExpr (xBM "list" appF (xVar 2) (xaCons (xCall F__law_all_joint (xaCons (xSl (xVar 1) (xoS (xCall maxF (xaCons (xC (.int 0)) (xaCons (xOp subD (xOp addD (xVar 3) (xC (.int 1))) (xOp ixD (xVar 0) (xC (.int 1)))) xaNil)))) (xoS (xOp addD (xVar 3) (xC (.int 1))))) xaNil)) xaNil))))))
  (sRet (xVar 2))))
def F__law_says : Fn := fnOf 4 false B__law_says
def B__law_done : XS := (sSeq (sPar 3 4 (xaCons (xCall newF (xaCons (xVar 2) xaNil)) (xaCons (xCall lenD (xaCons (xVar 2) xaNil)) xaNil)))
  (sSeq (sFor (xiSeq (xVar 1)) (gTp 6 (gsCons (gNm 5) (gsCons (gNm 6) (gsCons (gNm 7) (gsCons (gNm 8) (gsCons (gNm 9) (gsCons (gNm 10) gsNil)))))))
  (sSeq (sAsg (xLstR (xiRng3 (xaCons (xVar 6) (xaCons (xVar 4) (xaCons (xVar 7) xaNil))))) (gNm 11))
  (sSeq (sIf (xTest (xOp eqD (xVar 5) (xC (.str "call")))) (sSeq (sAsg (xOp ixD (xLc (xiSeq (xVar 0)) [18] (gNm 18) (xTest (xOp eqD (xOp ixD (xVar 18) (xC (.int 0))) (xVar 10))) (xOp ixD (xVar 18) (xC (.int 1)))) (xC (.int 0))) (gNm 12))
  (sSeq (sAsg (xCall F__law_says (xaCons (xVar 12) (xaCons (xLc (xiSeq (xVar 11)) [15] (gNm 15) xYes (xOp ixD (xVar 2) (xVar 15))) xaNil))) (gNm 13))
  (sFor (xiRng1 (xaCons (xCall lenD (xaCons (xVar 11) xaNil)) xaNil)) (gNm 14)
  (sAsg (xOp ixD (xVar 13) (xVar 14)) (gSb (xVar 3) (xOp ixD (xVar 11) (xVar 14))))))) sNil)
  (sFor (xiSeq (xIf (xTest (xOp eqD (xVar 5) (xC (.str "call")))) (xLst xaNil) (xVar 11))) (gNm 15)
  (sSeq (sAsg (xIf (xTest (xOp eqD (xVar 8) (xC (.str "left")))) (xOp subD (xVar 15) (xVar 9)) (xOp addD (xVar 15) (xVar 9))) (gNm 16))
  (sSeq (sAsg (xIf (xTest (xChain leD ltD (xC (.int 0)) (xVar 16) (xVar 4))) (xOp ixD (xVar 2) (xVar 16)) (xTup xaNil)) (gNm 17))
  (sIf (xTest (xOp eqD (xVar 5) (xC (.str "join")))) (sAsg (xIf (xTest (xOp eqD (xVar 8) (xC (.str "left")))) (xCall F__law_joint (xaCons (xVar 17) (xaCons (xOp ixD (xVar 2) (xVar 15)) xaNil))) (xCall F__law_joint (xaCons (xOp ixD (xVar 2) (xVar 15)) (xaCons (xVar 17) xaNil)))) (gSb (xVar 3) (xVar 15))) (sAsg (xIf (xTest (xOp eqD (xVar 5) (xC (.str "clear")))) (xTup xaNil) (xVar 17)) (gSb (xVar 3) (xVar 15))))))))))
  (sRet (xVar 3))))
def F__law_done : Fn := fnOf 19 false B__law_done
def B__law_level : XS := (sSeq (sAsg (xNew (xaCons (xLc (xiRng1 (xaCons (xVar 2) xaNil)) [5] (gNm 5) xYes (xTup (xaCons (xVar 5) xaNil))) xaNil)) (gNm 3))
  (sSeq (sFor (xiSeq (xOp ixD (xVar 1) (xC (.int 3)))) (gNm 4)
  (sExpr (xBM "list" appF (xVar 3) (xaCons (xCall F__law_done (xaCons (xVar 0) (xaCons (xVar 4) (xaCons (xOp ixD (xVar 3) (xNeg (xC (.int 1)))) xaNil)))) xaNil))))
  (sRet (xVar 3))))
def F__law_level : Fn := fnOf 6 false B__law_level
def B__law_faults : XS := (sSeq (sAsg (xOp ixD (xCall F__law_level (xaCons (xVar 0) (xaCons (xVar 1) (xaCons (xVar 2) xaNil)))) (xNeg (xC (.int 1)))) (gNm 3))
  (sRet (xLc (xiRng1 (xaCons (xVar 2) xaNil)) [4] (gNm 4) (xTest (xOp neD (xOp ixD (xVar 3) (xVar 4)) (xCall F__law_due (xaCons (xOp ixD (xVar 1) (xC (.int 1))) (xaCons (xVar 4) xaNil))))) (xVar 4))))
def F__law_faults : Fn := fnOf 5 false B__law_faults
def B__law_run : XS := (sSeq (sIf (xTest (xOp isD (xVar 0) (xC .non))) (sRet (xC .non)) sNil)
  (sRet (xIf (xTest (xOp eqD (xVar 0) (xTup xaNil))) (xTup (xaCons (xC (.int 0)) (xaCons (xC (.int 0)) xaNil))) (xTup (xaCons (xOp ixD (xVar 0) (xC (.int 0))) (xaCons (xOp addD (xOp ixD (xVar 0) (xNeg (xC (.int 1)))) (xC (.int 1))) xaNil))))))
def F__law_run : Fn := fnOf 1 false B__law_run
def B__law_size_right : XS := (sSeq (sAsg (xCall tupF (xaCons (xLc (xiSeq (xCall F__law_level (xaCons (xVar 0) (xaCons (xVar 2) (xaCons (xVar 3) xaNil))))) [6] (gNm 6) xYes (xCall tupF (xaCons (xLc (xiSeq (xVar 6)) [7] (gNm 7) xYes (xCall F__law_run (xaCons (xVar 7) xaNil))) xaNil))) xaNil)) (gNm 4))
  (sSeq (sIf (xTest (xOp neD (xCall reprF (xaCons (xCall F_level (xaCons (xVar 1) (xaCons (xOp ixD (xVar 2) (xC (.int 0))) (xaCons (xVar 3) xaNil)))) xaNil)) (xCall reprF (xaCons (xVar 4) xaNil)))) (sRet (xC (.bl false))) sNil)
  (sSeq (sAsg (xOr (xOp leD (xVar 3) (xOp ixD (xVar 2) (xC (.int 2)))) (xOp eqD (xCall F__law_faults (xaCons (xVar 0) (xaCons (xVar 2) (xaCons (xVar 3) xaNil)))) (xLst xaNil))) (gNm 5))
  (sRet (xOp eqD (xCall reprF (xaCons (xLst (xaCons (xCall F_holds (xaCons (xVar 1) (xaCons (xOp ixD (xVar 2) (xC (.int 0))) (xaCons (xVar 3) xaNil)))) (xaCons (xCallK F_holds sh_210 (xaCons (xVar 3) (xaCons (xOp ixD (xVar 2) (xC (.int 0))) (xaCons (xVar 1) xaNil)))) xaNil))) xaNil)) (xCall reprF (xaCons (xLst (xaCons (xVar 5) (xaCons (xVar 5) xaNil))) xaNil)))))))
def F__law_size_right : Fn := fnOf 8 false B__law_size_right
def B__law_sip : XS := (sSeq (sAsg (xOp addD (xOp ixD (xVar 0) (xC (.int 2))) (xC (.int 1))) (gSb (xVar 0) (xC (.int 2))))
  (sSeq (sIf (xTest (xOp gtD (xOp ixD (xVar 0) (xC (.int 0))) (xC (.int 0)))) (sSeq (sAsg (xCall dmF (xaCons (xOp ixD (xVar 0) (xC (.int 0))) (xaCons (xVar 1) xaNil))) (gTp 2 (gsCons (gSb (xVar 0) (xC (.int 0))) (gsCons (gNm 2) gsNil))))
  (sRet (xVar 2))) sNil)
  (sSeq (sAsg (xOp modD (xCall intF (xaCons (xOp addD (xOp mulD (xOp ixD (xVar 0) (xC (.int 1))) (xC (.int 48271))) (xOp mulD (xC (.int 6089)) (xOp ixD (xVar 0) (xC (.int 2))))) xaNil)) (xC (.int 2147483477))) (gSb (xVar 0) (xC (.int 1))))
  (sRet (xOp modD (xCall intF (xaCons (xOp divD (xOp ixD (xVar 0) (xC (.int 1))) (xC (.int 1024))) xaNil)) (xVar 1))))))
def F__law_sip : Fn := fnOf 3 false B__law_sip
def B_meet : XS := (sRet (xOr (xOp neD (xFld "Clause" "step" (xVar 0)) (xFld "Clause" "step" (xVar 1))) (xOp eqD (xFld "Clause" "rest" (xVar 0)) (xFld "Clause" "rest" (xVar 1)))))
def F_meet : Fn := fnOf 2 false B_meet
def B_Clause_D_initD_ : XS := (sSeq (sFl "Clause" "word" (xVar 0) (xVar 1))
  (sSeq (sFl "Clause" "rest" (xVar 0) (xVar 2))
  (sSeq (sFl "Clause" "step" (xVar 0) (xVar 3))
  (sSeq (sFl "Clause" "side" (xVar 0) (xVar 4))
  (sSeq (sFl "Clause" "far" (xVar 0) (xVar 5))
  (sFl "Clause" "goal" (xVar 0) (xVar 6)))))))
def F_Clause_D_initD_ : Fn := fnOf 7 false B_Clause_D_initD_
def B_class_of : XS := (sSeq (sIf (xOrT (xTest (xOp neD (xCall lenD (xaCons (xVar 0) xaNil)) (xC (.int 3)))) (xTest (xOp neD (xOp ixD (xVar 0) (xC (.int 1))) (xC (.str "of"))))) (sRet (xC .non)) sNil)
  (sSeq (sPar 1 2 (xaCons (xCall F_digit_of (xaCons (xOp ixD (xVar 0) (xC (.int 0))) xaNil)) (xaCons (xCall F_digit_of (xaCons (xOp ixD (xVar 0) (xC (.int 2))) xaNil)) xaNil)))
  (sSeq (sIf (xOrT (xNotT (xTest (xCall F_is_between (xaCons (xVar 2) (xaCons (xC (.int 1)) (xaCons (xC (.int 3)) xaNil)))))) (xNotT (xTest (xCall F_is_between (xaCons (xVar 1) (xaCons (xC (.int 0)) (xaCons (xOp subD (xVar 2) (xC (.int 1))) xaNil))))))) (sRet (xC .non)) sNil)
  (sRet (xTup (xaCons (xVar 1) (xaCons (xVar 2) xaNil)))))))
def F_class_of : Fn := fnOf 3 false B_class_of
def B_is_name : XS := (sSeq (sIf (xOrT (xNotT (xTest (xCall (isiF cs) (xaCons (xVar 0) (xaCons (xC (.ty "str")) xaNil))))) (xOrT (xNotT (xTest (xChain ltD ltD (xC (.int 0)) (xCall lenD (xaCons (xVar 0) xaNil)) (xC (.int 9))))) (xTest (xOp ninD (xOp ixD (xVar 0) (xC (.int 0))) (xC (.str "abcdefghijklmnopqrstuvwxyz")))))) (sRet (xC (.bl false))) sNil)
  (sRet (xCall allF (xaCons (xLc (xiSeq (xVar 0)) [1] (gNm 1) xYes (xOr (xOp inD (xVar 1) (xC (.str "abcdefghijklmnopqrstuvwxyz"))) (xOp inD (xVar 1) (xC (.str "0123456789"))))) xaNil))))
def F_is_name : Fn := fnOf 2 false B_is_name
def B_read_call : XS := (sSeq (sAsg (xCall F_class_of (xaCons (xSl (xVar 0) (xoS (xC (.int 3))) xoN) xaNil)) (gNm 1))
  (sSeq (sIf (xOrT (xTest (xOp isD (xVar 1) (xC .non))) (xOrT (xTest (xOp neD (xOp ixD (xVar 0) (xC (.int 2))) (xC (.str "on")))) (xNotT (xTest (xCall F_is_name (xaCons (xOp ixD (xVar 0) (xC (.int 1))) xaNil)))))) (sRet (xC .non)) sNil)
  (sSeq (sAsg (xVar 1) (gTp 2 (gsCons (gNm 2) (gsCons (gNm 3) gsNil))))
  (sRet (xMakeK "Clause" F_Clause_D_initD_ true [.non, .non] (xaCons (xC (.str "call")) (xaCons (xVar 2) (xaCons (xVar 3) xaNil))) (xaCons (xOp ixD (xVar 0) (xC (.int 1))) xaNil))))))
def F_read_call : Fn := fnOf 4 false B_read_call
def B_read_clause : XS := (sSeq (sAsg (xBM "str" splitF (xVar 0) (xaCons (xC (.str " ")) xaNil)) (gNm 1))
  (sSeq (sIf (xTest (xOp eqD (xOp ixD (xVar 1) (xC (.int 0))) (xC (.str "call")))) (sRet (xCall F_read_call (xaCons (xVar 1) xaNil))) sNil)
  (sSeq (sAsg (xCall F_class_of (xaCons (xSl (xVar 1) (xoS (xC (.int 1))) (xoS (xC (.int 4)))) xaNil)) (gNm 2))
  (sSeq (sIf (xTest (xOp isD (xVar 2) (xC .non))) (sRet (xC .non)) sNil)
  (sSeq (sAsg (xVar 2) (gTp 2 (gsCons (gNm 3) (gsCons (gNm 4) gsNil))))
  (sSeq (sIf (xTest (xOp eqD (xOp ixD (xVar 1) (xC (.int 0))) (xC (.str "clear")))) (sRet (xIf (xTest (xOp eqD (xCall lenD (xaCons (xVar 1) xaNil)) (xC (.int 4)))) (xMakeD "Clause" F_Clause_D_initD_ true [.non, .non, .non] (xaCons (xC (.str "clear")) (xaCons (xVar 3) (xaCons (xVar 4) xaNil)))) (xC .non))) sNil)
  (sSeq (sIf (xOrT (xTest (xOp ninD (xOp ixD (xVar 1) (xC (.int 0))) (xTup (xaCons (xC (.str "join")) (xaCons (xC (.str "take")) xaNil))))) (xOrT (xTest (xOp neD (xCall lenD (xaCons (xVar 1) xaNil)) (xC (.int 6)))) (xTest (xOp ninD (xOp ixD (xVar 1) (xC (.int 4))) (xTup (xaCons (xC (.str "left")) (xaCons (xC (.str "right")) xaNil))))))) (sRet (xC .non)) sNil)
  (sSeq (sAsg (xCall F_digit_of (xaCons (xOp ixD (xVar 1) (xC (.int 5))) xaNil)) (gNm 5))
  (sRet (xIf (xTest (xCall F_is_between (xaCons (xVar 5) (xaCons (xC (.int 1)) (xaCons (xC (.int 4)) xaNil))))) (xMakeD "Clause" F_Clause_D_initD_ true [.non] (xaCons (xOp ixD (xVar 1) (xC (.int 0))) (xaCons (xVar 3) (xaCons (xVar 4) (xaCons (xOp ixD (xVar 1) (xC (.int 4))) (xaCons (xVar 5) xaNil)))))) (xC .non)))))))))))
def F_read_clause : Fn := fnOf 6 false B_read_clause
def B_read_clauses : XS := (sSeq (sIf (xNotT (xTest (xCall (isiF cs) (xaCons (xVar 0) (xaCons (xC (.ty "str")) xaNil))))) (sRet (xC .non)) sNil)
  (sSeq (sAsg (xLc (xiSeq (xBM "str" splitF (xVar 0) (xaCons (xC (.str "; ")) xaNil))) [5] (gNm 5) xYes (xCall F_read_clause (xaCons (xVar 5) xaNil))) (gNm 1))
  (sSeq (sIf (xOrT (xTest (xOp gtD (xCall lenD (xaCons (xVar 1) xaNil)) (xC (.int 3)))) (xTest (xCall anyF (xaCons (xLc (xiSeq (xVar 1)) [4] (gNm 4) xYes (xOp isD (xVar 4) (xC .non))) xaNil)))) (sRet (xC .non)) sNil)
  (sSeq (sAsg (xLc (xiSeq (xVar 1)) [4] (gNm 4) (xTest (xOp eqD (xFld "Clause" "word" (xVar 4)) (xC (.str "call")))) (xVar 4)) (gNm 2))
  (sSeq (sIf (xTest (xChain ltD ltD (xC (.int 0)) (xCall lenD (xaCons (xVar 2) xaNil)) (xCall lenD (xaCons (xVar 1) xaNil)))) (sRet (xC .non)) sNil)
  (sSeq (sFor (xiEnum' (xaCons (xVar 1) xaNil)) (gTp 2 (gsCons (gNm 3) (gsCons (gNm 4) gsNil)))
  (sIf (xTest (xCall anyF (xaCons (xLc (xiSeq (xSl (xVar 1) xoN (xoS (xVar 3)))) [6] (gNm 6) xYes (xCall F_meet (xaCons (xVar 4) (xaCons (xVar 6) xaNil)))) xaNil))) (sRet (xC .non)) sNil))
  (sRet (xVar 1))))))))
def F_read_clauses : Fn := fnOf 7 false B_read_clauses
def B_read_round : XS := (sSeq (sAsg (xCall F_read_clauses (xaCons (xVar 0) xaNil)) (gNm 3))
  (sSeq (sIf (xTest (xOp isD (xVar 3) (xC .non))) (sRet (xC .non)) sNil)
  (sSeq (sFor (xiSeq (xVar 3)) (gNm 4)
  (sIf (xAndT (xTest (xOp eqD (xFld "Clause" "word" (xVar 4)) (xC (.str "call")))) (xOrT (xTest (xOp ninD (xFld "Clause" "goal" (xVar 4)) (xVar 1))) (xAndT (xTest (xOp eqD (xFld "Clause" "step" (xVar 4)) (xC (.int 1)))) (xTest (xOp inD (xFld "Clause" "goal" (xVar 4)) (xVar 2)))))) (sRet (xC .non)) sNil))
  (sRet (xVar 3)))))
def F_read_round : Fn := fnOf 5 false B_read_round
def B_is_plan : XS := (sSeq (sIf (xOrT (xNotT (xTest (xCall (isiF cs) (xaCons (xVar 0) (xaCons (xC (.ty "tuple")) xaNil))))) (xTest (xOp neD (xCall lenD (xaCons (xVar 0) xaNil)) (xC (.int 4))))) (sRet (xC (.bl false))) sNil)
  (sSeq (sAsg (xVar 0) (gTp 4 (gsCons (gNm 1) (gsCons (gNm 2) (gsCons (gNm 3) (gsCons (gNm 4) gsNil))))))
  (sSeq (sIf (xOrT (xNotT (xTest (xCall F_is_name (xaCons (xVar 1) xaNil)))) (xOrT (xTest (xOp isD (xCall F_read_goal (xaCons (xVar 2) xaNil)) (xC .non))) (xNotT (xTest (xCall F_is_between (xaCons (xVar 3) (xaCons (xC (.int 1)) (xaCons (xC (.int 4)) xaNil)))))))) (sRet (xC (.bl false))) sNil)
  (sSeq (sIf (xOrT (xNotT (xTest (xCall (isiF cs) (xaCons (xVar 4) (xaCons (xC (.ty "tuple")) xaNil))))) (xNotT (xTest (xChain ltD leD (xC (.int 0)) (xCall lenD (xaCons (xVar 4) xaNil)) (xC (.int 5)))))) (sRet (xC (.bl false))) sNil)
  (sRet (xCall allF (xaCons (xLc (xiSeq (xVar 4)) [5] (gNm 5) xYes (xOp isntD (xCall F_read_clauses (xaCons (xVar 5) xaNil)) (xC .non))) xaNil)))))))
def F_is_plan : Fn := fnOf 6 false B_is_plan
def B_first_invalid : XS := (sSeq (sAsg (xNew xaNil) (gNm 1))
  (sSeq (sFor (xiEnum' (xaCons (xVar 0) xaNil)) (gTp 2 (gsCons (gNm 2) (gsCons (gNm 3) gsNil)))
  (sSeq (sIf (xOrT (xTest (xOp eqD (xVar 2) (xC (.int 4)))) (xOrT (xNotT (xTest (xCall F_is_plan (xaCons (xVar 3) xaNil)))) (xTest (xOp inD (xOp ixD (xVar 3) (xC (.int 0))) (xVar 1))))) (sRet (xVar 2)) sNil)
  (sExpr (xBM "list" appF (xVar 1) (xaCons (xOp ixD (xVar 3) (xC (.int 0))) xaNil)))))
  (sSeq (sFor (xiEnum' (xaCons (xVar 0) xaNil)) (gTp 2 (gsCons (gNm 2) (gsCons (gNm 3) gsNil)))
  (sIf (xTest (xCall anyF (xaCons (xLc (xiSeq (xOp ixD (xVar 3) (xC (.int 3)))) [4] (gNm 4) xYes (xOp isD (xCall F_read_round (xaCons (xVar 4) (xaCons (xVar 1) (xaCons (xSl (xVar 1) xoN (xoS (xOp addD (xVar 2) (xC (.int 1))))) xaNil)))) (xC .non))) xaNil))) (sRet (xVar 2)) sNil))
  (sRet (xC .non)))))
def F_first_invalid : Fn := fnOf 5 false B_first_invalid
def B_Book_D_initD_ : XS := (sSeq (sIf (xOrT (xNotT (xTest (xCall (isiF cs) (xaCons (xVar 1) (xaCons (xC (.ty "tuple")) xaNil))))) (xTest (xOp eqD (xCall lenD (xaCons (xVar 1) xaNil)) (xC (.int 0))))) sNever sNil)
  (sSeq (sAsg (xCall F_first_invalid (xaCons (xVar 1) xaNil)) (gNm 2))
  (sSeq (sIf (xTest (xOp isntD (xVar 2) (xC .non))) sNever sNil)
  (sSeq (sFl "Book" "held" (xVar 0) (xVar 1))
  (sFl "Book" "parsed" (xVar 0) (xDc (xiSeq (xVar 1)) [3] (gNm 3) (xOp ixD (xVar 3) (xC (.int 0))) (xLc (xiSeq (xOp ixD (xVar 3) (xC (.int 3)))) [4] (gNm 4) xYes (xCall F_read_clauses (xaCons (xVar 4) xaNil)))))))))
def F_Book_D_initD_ : Fn := fnOf 5 false B_Book_D_initD_
def B__law_goal_text : XS := (sRet (xOp addD (xOp ixD (xVar 0) (xC (.int 0))) (xIf (xTest (xOp eqD (xOp ixD (xVar 0) (xC (.int 0))) (xC (.str "last")))) (xOp addD (xC (.str " ")) (xCall strF (xaCons (xOp ixD (xVar 0) (xC (.int 1))) xaNil))) (xC (.str "")))))
def F__law_goal_text : Fn := fnOf 1 false B__law_goal_text
def B__law_clause_text : XS := (sSeq (sAsg (xVar 0) (gTp 6 (gsCons (gNm 1) (gsCons (gNm 2) (gsCons (gNm 3) (gsCons (gNm 4) (gsCons (gNm 5) (gsCons (gNm 6) gsNil))))))))
  (sSeq (sAsg (xOp addD (xOp addD (xCall strF (xaCons (xVar 2) xaNil)) (xC (.str " of "))) (xCall strF (xaCons (xVar 3) xaNil))) (gNm 7))
  (sSeq (sIf (xTest (xOp eqD (xVar 1) (xC (.str "call")))) (sRet (xOp addD (xOp addD (xOp addD (xC (.str "call ")) (xVar 6)) (xC (.str " on "))) (xVar 7))) sNil)
  (sRet (xOp addD (xOp addD (xOp addD (xVar 1) (xC (.str " "))) (xVar 7)) (xIf (xTest (xOp eqD (xVar 1) (xC (.str "clear")))) (xC (.str "")) (xOp addD (xOp addD (xOp addD (xC (.str " ")) (xVar 4)) (xC (.str " "))) (xCall strF (xaCons (xVar 5) xaNil)))))))))
def F__law_clause_text : Fn := fnOf 8 false B__law_clause_text
def B__law_parts : XS := (sSeq (sAsg (xCall tupF (xaCons (xLc (xiSeq (xOp ixD (xVar 0) (xC (.int 3)))) [2] (gNm 2) xYes (xBM "str" joinF (xC (.str "; ")) (xaCons (xLc (xiSeq (xVar 2)) [3] (gNm 3) xYes (xCall F__law_clause_text (xaCons (xVar 3) xaNil))) xaNil))) xaNil)) (gNm 1))
  (sRet (xTup (xaCons (xOp ixD (xVar 0) (xC (.int 0))) (xaCons (xCall F__law_goal_text (xaCons (xOp ixD (xVar 0) (xC (.int 1))) xaNil)) (xaCons (xOp ixD (xVar 0) (xC (.int 2))) (xaCons (xVar 1) xaNil)))))))
def F__law_parts : Fn := fnOf 4 false B__law_parts
def B__law_vol : XS := (sRet (xMake "Book" F_Book_D_initD_ true (xaCons (xCall tupF (xaCons (xLc (xiSeq (xVar 0)) [1] (gNm 1) xYes (xCall F__law_parts (xaCons (xVar 1) xaNil))) xaNil)) xaNil)))
def F__law_vol : Fn := fnOf 2 false B__law_vol
def B__law_clause : XS := (sSeq (sPar 6 7 (xaCons (xCall F__law_sip (xaCons (xVar 0) (xaCons (xC (.int 5)) xaNil))) (xaCons (xOp ixD (xLst (xaCons (xC (.str "left")) (xaCons (xC (.str "left")) (xaCons (xC (.str "right")) xaNil)))) (xCall F__law_sip (xaCons (xVar 0) (xaCons (xC (.int 3)) xaNil)))) xaNil)))
  (sSeq (sIf (xTest (xVar 5)) (sRet (xTup (xaCons (xC (.str "call")) (xaCons (xVar 3) (xaCons (xVar 4) (xaCons (xC (.str "")) (xaCons (xC (.int 0)) (xaCons (xOp ixD (xVar 1) (xIf (xTest (xOp gtD (xVar 4) (xC (.int 1)))) (xCall F__law_sip (xaCons (xVar 0) (xaCons (xCall lenD (xaCons (xVar 1) xaNil)) xaNil))) (xOp addD (xVar 2) (xC (.int 1))))) xaNil)))))))) sNil)
  (sSeq (sAsg (xOp ixD (xLst (xaCons (xC (.str "join")) (xaCons (xC (.str "join")) (xaCons (xC (.str "join")) (xaCons (xC (.str "take")) (xaCons (xC (.str "clear")) xaNil)))))) (xVar 6)) (gNm 6))
  (sRet (xTup (xaCons (xVar 6) (xaCons (xVar 3) (xaCons (xVar 4) (xaCons (xVar 7) (xaCons (xOp ixD (xLst (xaCons (xC (.int 1)) (xaCons (xC (.int 1)) (xaCons (xC (.int 2)) (xaCons (xC (.int 2)) (xaCons (xC (.int 3)) (xaCons (xC (.int 4)) xaNil))))))) (xCall F__law_sip (xaCons (xVar 0) (xaCons (xC (.int 6)) xaNil)))) (xaCons (xC (.str "")) xaNil)))))))))))
def F__law_clause : Fn := fnOf 8 false B__law_clause
def B__law_round : XS := (sSeq (sAsg (xTup (xaCons (xOp eqD (xCall F__law_sip (xaCons (xVar 0) (xaCons (xC (.int 4)) xaNil))) (xC (.int 0))) (xaCons (xOp ixD (xLst (xaCons (xC (.int 1)) (xaCons (xC (.int 1)) (xaCons (xC (.int 2)) (xaCons (xC (.int 2)) (xaCons (xC (.int 2)) (xaCons (xC (.int 3)) xaNil))))))) (xCall F__law_sip (xaCons (xVar 0) (xaCons (xC (.int 6)) xaNil)))) xaNil))) (gTp 2 (gsCons (gNm 3) (gsCons (gNm 4) gsNil))))
  (sSeq (sAsg (xTup (xaCons (xCall F__law_sip (xaCons (xVar 0) (xaCons (xVar 4) xaNil))) (xaCons (xOp addD (xC (.int 1)) (xCall F__law_sip (xaCons (xVar 0) (xaCons (xC (.int 3)) xaNil)))) xaNil))) (gTp 2 (gsCons (gNm 5) (gsCons (gNm 6) gsNil))))
  (sSeq (sIf (xAndT (xTest (xVar 3)) (xAndT (xTest (xOp eqD (xVar 4) (xC (.int 1)))) (xTest (xOp geD (xOp addD (xVar 2) (xC (.int 1))) (xCall lenD (xaCons (xVar 1) xaNil)))))) (sAsg (xC (.int 2)) (gNm 4)) sNil)
  (sSeq (sAsg (xCall minF (xaCons (xVar 6) (xaCons (xVar 4) xaNil))) (gNm 6))
  (sRet (xLc (xiRng1 (xaCons (xVar 6) xaNil)) [7] (gNm 7) xYes (xCall F__law_clause (xaCons (xVar 0) (xaCons (xVar 1) (xaCons (xVar 2) (xaCons (xOp modD (xCall intF (xaCons (xOp addD (xVar 5) (xVar 7)) xaNil)) (xVar 4)) (xaCons (xVar 4) (xaCons (xVar 3) xaNil)))))))))))))
def F__law_round : Fn := fnOf 8 false B__law_round
def B__law_goal : XS := (sSeq (sAsg (xOp ixD (xLst (xaCons (xC (.str "all")) (xaCons (xC (.str "all")) (xaCons (xC (.str "before")) (xaCons (xC (.str "last")) xaNil))))) (xCall F__law_sip (xaCons (xVar 0) (xaCons (xC (.int 4)) xaNil)))) (gNm 1))
  (sRet (xTup (xaCons (xVar 1) (xaCons (xIf (xTest (xOp eqD (xVar 1) (xC (.str "last")))) (xOp addD (xC (.int 1)) (xCall F__law_sip (xaCons (xVar 0) (xaCons (xC (.int 4)) xaNil)))) (xC (.int 0))) xaNil)))))
def F__law_goal : Fn := fnOf 2 false B__law_goal
def B__law_plan : XS := (sSeq (sPar3 4 5 6 (xaCons (xCall F__law_goal (xaCons (xVar 0) xaNil)) (xaCons (xOp addD (xC (.int 1)) (xCall F__law_sip (xaCons (xVar 0) (xaCons (xC (.int 4)) xaNil)))) (xaCons (xOp addD (xC (.int 1)) (xCall F__law_sip (xaCons (xVar 0) (xaCons (xVar 3) xaNil)))) xaNil))))
  (sRet (xLst (xaCons (xOp ixD (xVar 1) (xVar 2)) (xaCons (xVar 4) (xaCons (xVar 5) (xaCons (xLc (xiRng1 (xaCons (xVar 6) xaNil)) [7] (gNm 7) xYes (xCall F__law_round (xaCons (xVar 0) (xaCons (xVar 1) (xaCons (xVar 2) xaNil))))) xaNil)))))))
def F__law_plan : Fn := fnOf 8 false B__law_plan
def B__law_good : XS := (sSeq (sPar3 3 4 5 (xaCons (xOp ixD (xVar 1) (xVar 2)) (xaCons (xOp addD (xC (.int 1)) (xCall F__law_sip (xaCons (xVar 0) (xaCons (xC (.int 3)) xaNil)))) (xaCons (xCall F__law_sip (xaCons (xVar 0) (xaCons (xC (.int 4)) xaNil))) xaNil))))
  (sSeq (sIf (xTest (xOp eqD (xVar 5) (xC (.int 0)))) (sRet (xLst (xaCons (xVar 3) (xaCons (xTup (xaCons (xC (.str "last")) (xaCons (xC (.int 2)) xaNil))) (xaCons (xVar 4) (xaCons (xLst (xaCons (xLst (xaCons (xTup (xaCons (xC (.str "join")) (xaCons (xC (.int 0)) (xaCons (xC (.int 1)) (xaCons (xC (.str "left")) (xaCons (xC (.int 1)) (xaCons (xC (.str "")) xaNil))))))) xaNil)) xaNil)) xaNil)))))) sNil)
  (sSeq (sIf (xTest (xOp eqD (xVar 5) (xC (.int 1)))) (sRet (xLst (xaCons (xVar 3) (xaCons (xTup (xaCons (xC (.str "last")) (xaCons (xC (.int 4)) xaNil))) (xaCons (xVar 4) (xaCons (xLst (xaCons (xLst (xaCons (xTup (xaCons (xC (.str "join")) (xaCons (xC (.int 0)) (xaCons (xC (.int 1)) (xaCons (xC (.str "left")) (xaCons (xC (.int 1)) (xaCons (xC (.str "")) xaNil))))))) xaNil)) (xaCons (xLst (xaCons (xTup (xaCons (xC (.str "join")) (xaCons (xC (.int 0)) (xaCons (xC (.int 1)) (xaCons (xC (.str "left")) (xaCons (xC (.int 2)) (xaCons (xC (.str "")) xaNil))))))) xaNil)) xaNil))) xaNil)))))) sNil)
  (sSeq (sIf (xTest (xOp eqD (xVar 5) (xC (.int 2)))) (sSeq (sAsg (xLst (xaCons (xLst (xaCons (xTup (xaCons (xC (.str "join")) (xaCons (xC (.int 1)) (xaCons (xC (.int 2)) (xaCons (xC (.str "left")) (xaCons (xC (.int 1)) (xaCons (xC (.str "")) xaNil))))))) xaNil)) (xaCons (xLst (xaCons (xTup (xaCons (xC (.str "call")) (xaCons (xC (.int 1)) (xaCons (xC (.int 2)) (xaCons (xC (.str "")) (xaCons (xC (.int 0)) (xaCons (xVar 3) xaNil))))))) xaNil)) xaNil))) (gNm 6))
  (sRet (xLst (xaCons (xVar 3) (xaCons (xTup (xaCons (xC (.str "all")) (xaCons (xC (.int 0)) xaNil))) (xaCons (xVar 4) (xaCons (xOp addD (xVar 6) (xLst (xaCons (xLst (xaCons (xTup (xaCons (xC (.str "join")) (xaCons (xC (.int 0)) (xaCons (xC (.int 2)) (xaCons (xC (.str "left")) (xaCons (xC (.int 1)) (xaCons (xC (.str "")) xaNil))))))) xaNil)) xaNil))) xaNil))))))) sNil)
  (sSeq (sAsg (xLst (xaCons (xLst (xaCons (xTup (xaCons (xC (.str "join")) (xaCons (xC (.int 1)) (xaCons (xC (.int 3)) (xaCons (xC (.str "left")) (xaCons (xC (.int 1)) (xaCons (xC (.str "")) xaNil))))))) xaNil)) (xaCons (xLst (xaCons (xTup (xaCons (xC (.str "join")) (xaCons (xC (.int 2)) (xaCons (xC (.int 3)) (xaCons (xC (.str "left")) (xaCons (xC (.int 1)) (xaCons (xC (.str "")) xaNil))))))) xaNil)) (xaCons (xLst (xaCons (xTup (xaCons (xC (.str "call")) (xaCons (xC (.int 2)) (xaCons (xC (.int 3)) (xaCons (xC (.str "")) (xaCons (xC (.int 0)) (xaCons (xVar 3) xaNil))))))) xaNil)) xaNil)))) (gNm 6))
  (sRet (xLst (xaCons (xVar 3) (xaCons (xTup (xaCons (xC (.str "all")) (xaCons (xC (.int 0)) xaNil))) (xaCons (xVar 4) (xaCons (xOp addD (xVar 6) (xLst (xaCons (xLst (xaCons (xTup (xaCons (xC (.str "join")) (xaCons (xC (.int 0)) (xaCons (xC (.int 3)) (xaCons (xC (.str "left")) (xaCons (xC (.int 1)) (xaCons (xC (.str "")) xaNil))))))) (xaCons (xTup (xaCons (xC (.str "join")) (xaCons (xC (.int 1)) (xaCons (xC (.int 3)) (xaCons (xC (.str "left")) (xaCons (xC (.int 2)) (xaCons (xC (.str "")) xaNil))))))) xaNil))) xaNil))) xaNil)))))))))))
def F__law_good : Fn := fnOf 7 false B__law_good
def B__law_labels : XS := (sSeq (sAsg (xTup (xaCons (xCall F__law_sip (xaCons (xVar 0) (xaCons (xC (.int 9)) xaNil))) (xaCons (xOp ixD (xLst (xaCons (xC (.int 1)) (xaCons (xC (.int 2)) (xaCons (xC (.int 4)) (xaCons (xC (.int 5)) xaNil))))) (xCall F__law_sip (xaCons (xVar 0) (xaCons (xC (.int 4)) xaNil)))) xaNil))) (gTp 2 (gsCons (gNm 2) (gsCons (gNm 3) gsNil))))
  (sSeq (sAsg (xLst (xaCons (xC (.str "join")) (xaCons (xC (.str "left")) (xaCons (xC (.str "on")) (xaCons (xC (.str "of")) (xaCons (xC (.str "a1")) (xaCons (xC (.str "a2")) (xaCons (xC (.str "plan")) (xaCons (xC (.str "call")) (xaCons (xC (.str "z9z9z9z9")) xaNil)))))))))) (gNm 4))
  (sRet (xLc (xiRng1 (xaCons (xVar 1) xaNil)) [5] (gNm 5) xYes (xOp ixD (xVar 4) (xOp modD (xCall intF (xaCons (xOp addD (xVar 2) (xOp mulD (xVar 3) (xVar 5))) xaNil)) (xC (.int 9))))))))
def F__law_labels : Fn := fnOf 6 false B__law_labels
def B__law_sketch : XS := (sSeq (sPar 3 4 (xaCons (xCall F__law_labels (xaCons (xVar 0) (xaCons (xVar 1) xaNil))) (xaCons (xNew xaNil) xaNil)))
  (sSeq (sFor (xiRng1 (xaCons (xVar 1) xaNil)) (gNm 5)
  (sExpr (xBM "list" appF (xVar 4) (xaCons (xIf (xTest (xOp eqD (xCall F__law_sip (xaCons (xVar 0) (xaCons (xC (.int 2)) xaNil))) (xC (.int 0)))) (xCall F__law_good (xaCons (xVar 0) (xaCons (xVar 3) (xaCons (xVar 5) xaNil)))) (xCall F__law_plan (xaCons (xVar 0) (xaCons (xVar 3) (xaCons (xVar 5) (xaCons (xVar 2) xaNil)))))) xaNil))))
  (sRet (xVar 4))))
def F__law_sketch : Fn := fnOf 6 false B__law_sketch
def B__law_right : XS := (sSeq (sAsg (xCall F__law_sketch (xaCons (xVar 0) (xaCons (xOp addD (xC (.int 1)) (xCall F__law_sip (xaCons (xVar 0) (xaCons (xC (.int 4)) xaNil)))) (xaCons (xC (.int 5)) xaNil)))) (gNm 1))
  (sSeq (sPar 2 3 (xaCons (xCall F__law_vol (xaCons (xVar 1) xaNil)) (xaCons (xOp addD (xC (.int 13)) (xCall F__law_sip (xaCons (xVar 0) (xaCons (xC (.int 18)) xaNil)))) xaNil)))
  (sSeq (sAsg (xCall (strO "Book" F_Book_D_strD_) (xaCons (xVar 2) xaNil)) (gNm 4))
  (sSeq (sFor (xiSeq (xVar 1)) (gNm 5)
  (sSeq (sFor (xiSeq (xOp addD (xLstR (xiRng2 (xaCons (xC (.int 1)) (xaCons (xC (.int 13)) xaNil)))) (xLst (xaCons (xVar 3) xaNil)))) (gNm 6)
  (sIf (xNotT (xTest (xCall F__law_size_right (xaCons (xVar 1) (xaCons (xVar 2) (xaCons (xVar 5) (xaCons (xVar 6) xaNil))))))) (sRet (xC (.bl false))) sNil))
  (sIf (xTest (xOp neD (xCallK F_level sh_120 (xaCons (xC (.int 2)) (xaCons (xVar 2) (xaCons (xOp ixD (xVar 5) (xC (.int 0))) xaNil)))) (xCall F_level (xaCons (xVar 2) (xaCons (xOp ixD (xVar 5) (xC (.int 0))) (xaCons (xC (.int 2)) xaNil)))))) (sRet (xC (.bl false))) sNil)))
  (sRet (xOp eqD (xCall (strO "Book" F_Book_D_strD_) (xaCons (xVar 2) xaNil)) (xVar 4)))))))
def F__law_right : Fn := fnOf 7 false B__law_right
def B__law_cup : XS := (sSeq (sAsg (xIf (xTest (xOp ltD (xVar 1) (xCall lenD (xaCons (xVar 0) xaNil)))) (xOp ixD (xVar 0) (xVar 1)) (xOp addD (xVar 1) (xC (.int 2)))) (gNm 2))
  (sSeq (sAsg (xOp addD (xC (.int 50021)) (xOp mulD (xC (.int 8017)) (xVar 1))) (gNm 3))
  (sSeq (sFor (xiSeq (xOp addD (xSl (xVar 0) xoN (xoS (xC (.int 4)))) (xLst (xaCons (xVar 2) xaNil)))) (gNm 4)
  (sAsg (xOp modD (xCall intF (xaCons (xOp addD (xOp mulD (xVar 3) (xC (.int 26021))) (xVar 4)) xaNil)) (xC (.int 2147483477))) (gNm 3)))
  (sRet (xNew (xaCons (xIf (xOrT (xTest (xOp ltD (xVar 2) (xC (.int 0)))) (xTest (xOp geD (xVar 2) (xOp powD (xC (.int 10)) (xC (.int 18)))))) (xCall absF (xaCons (xVar 2) xaNil)) (xC (.int 0))) (xaCons (xVar 3) (xaCons (xC (.int 0)) xaNil))))))))
def F__law_cup : Fn := fnOf 5 true B__law_cup
def B_law : XS := (sRet (xCall allF (xaCons (xLc (xiRng1 (xaCons (xCall maxF (xaCons (xC (.int 2)) (xaCons (xCall minF (xaCons (xCall lenD (xaCons (xVar 0) xaNil)) (xaCons (xC (.int 4)) xaNil))) xaNil))) xaNil)) [1] (gNm 1) xYes (xCall F__law_right (xaCons (xCall F__law_cup (xaCons (xVar 0) (xaCons (xVar 1) xaNil))) xaNil))) xaNil)))
def F_law : Fn := fnOf 2 false B_law
theorem fr_B_is_integer : FrB B_is_integer := (fr_sRet (fr_xAnd (fr_xCall (fr_isiF cs) (fr_xaCons (fr_xVar 0) (fr_xaCons (fr_xC (.ty "int")) fr_xaNil))) (fr_xNot (fr_xCall (fr_isiF cs) (fr_xaCons (fr_xVar 0) (fr_xaCons (fr_xC (.ty "bool")) fr_xaNil))))))
theorem fr_F_is_integer : FrF F_is_integer := fr_fnOf 1 false fr_B_is_integer
theorem fr_B_is_between : FrB B_is_between := (fr_sRet (fr_xAnd (fr_xCall fr_F_is_integer (fr_xaCons (fr_xVar 0) fr_xaNil)) (fr_xChain fr_leD fr_leD (fr_xVar 1) (fr_xVar 0) (fr_xVar 2))))
theorem fr_F_is_between : FrF F_is_between := fr_fnOf 3 false fr_B_is_between
theorem fr_B_digit_of : FrB B_digit_of := (fr_sRet (fr_xIf (fr_xAndT (fr_xTest (fr_xOp fr_eqD (fr_xCall fr_lenD (fr_xaCons (fr_xVar 0) fr_xaNil)) (fr_xC (.int 1)))) (fr_xTest (fr_xOp fr_inD (fr_xVar 0) (fr_xC (.str "0123456789"))))) (fr_xCall fr_intF (fr_xaCons (fr_xVar 0) fr_xaNil)) (fr_xC .non)))
theorem fr_F_digit_of : FrF F_digit_of := fr_fnOf 1 false fr_B_digit_of
theorem fr_B_read_goal : FrB B_read_goal := (fr_sSeq (fr_sIf (fr_xNotT (fr_xTest (fr_xCall (fr_isiF cs) (fr_xaCons (fr_xVar 0) (fr_xaCons (fr_xC (.ty "str")) fr_xaNil))))) (fr_sRet (fr_xC .non)) fr_sNil)
  (fr_sSeq (fr_sIf (fr_xTest (fr_xOp fr_inD (fr_xVar 0) (fr_xTup (fr_xaCons (fr_xC (.str "all")) (fr_xaCons (fr_xC (.str "before")) fr_xaNil))))) (fr_sRet (fr_xTup (fr_xaCons (fr_xVar 0) (fr_xaCons (fr_xC .non) fr_xaNil)))) fr_sNil)
  (fr_sSeq (fr_sAsg (fr_xIf (fr_xTest (fr_xOp fr_eqD (fr_xSl (fr_xVar 0) fr_xoN (fr_xoS (fr_xC (.int 5)))) (fr_xC (.str "last ")))) (fr_xCall fr_F_digit_of (fr_xaCons (fr_xSl (fr_xVar 0) (fr_xoS (fr_xC (.int 5))) fr_xoN) fr_xaNil)) (fr_xC .non)) (fr_gNm 1))
  (fr_sRet (fr_xIf (fr_xTest (fr_xCall fr_F_is_between (fr_xaCons (fr_xVar 1) (fr_xaCons (fr_xC (.int 1)) (fr_xaCons (fr_xC (.int 4)) fr_xaNil))))) (fr_xTup (fr_xaCons (fr_xC (.str "last")) (fr_xaCons (fr_xVar 1) fr_xaNil))) (fr_xC .non))))))
theorem fr_F_read_goal : FrF F_read_goal := fr_fnOf 2 false fr_B_read_goal
theorem fr_B_meet : FrB B_meet := (fr_sRet (fr_xOr (fr_xOp fr_neD (fr_xFld "Clause" "step" (fr_xVar 0)) (fr_xFld "Clause" "step" (fr_xVar 1))) (fr_xOp fr_eqD (fr_xFld "Clause" "rest" (fr_xVar 0)) (fr_xFld "Clause" "rest" (fr_xVar 1)))))
theorem fr_F_meet : FrF F_meet := fr_fnOf 2 false fr_B_meet
theorem fr_B_Clause_D_initD_ : FrB B_Clause_D_initD_ := (fr_sSeq (fr_sFl "Clause" "word" (fr_xVar 0) (fr_xVar 1))
  (fr_sSeq (fr_sFl "Clause" "rest" (fr_xVar 0) (fr_xVar 2))
  (fr_sSeq (fr_sFl "Clause" "step" (fr_xVar 0) (fr_xVar 3))
  (fr_sSeq (fr_sFl "Clause" "side" (fr_xVar 0) (fr_xVar 4))
  (fr_sSeq (fr_sFl "Clause" "far" (fr_xVar 0) (fr_xVar 5))
  (fr_sFl "Clause" "goal" (fr_xVar 0) (fr_xVar 6)))))))
theorem fr_F_Clause_D_initD_ : FrF F_Clause_D_initD_ := fr_fnOf 7 false fr_B_Clause_D_initD_
theorem fr_B_class_of : FrB B_class_of := (fr_sSeq (fr_sIf (fr_xOrT (fr_xTest (fr_xOp fr_neD (fr_xCall fr_lenD (fr_xaCons (fr_xVar 0) fr_xaNil)) (fr_xC (.int 3)))) (fr_xTest (fr_xOp fr_neD (fr_xOp fr_ixD (fr_xVar 0) (fr_xC (.int 1))) (fr_xC (.str "of"))))) (fr_sRet (fr_xC .non)) fr_sNil)
  (fr_sSeq (fr_sPar 1 2 (fr_xaCons (fr_xCall fr_F_digit_of (fr_xaCons (fr_xOp fr_ixD (fr_xVar 0) (fr_xC (.int 0))) fr_xaNil)) (fr_xaCons (fr_xCall fr_F_digit_of (fr_xaCons (fr_xOp fr_ixD (fr_xVar 0) (fr_xC (.int 2))) fr_xaNil)) fr_xaNil)))
  (fr_sSeq (fr_sIf (fr_xOrT (fr_xNotT (fr_xTest (fr_xCall fr_F_is_between (fr_xaCons (fr_xVar 2) (fr_xaCons (fr_xC (.int 1)) (fr_xaCons (fr_xC (.int 3)) fr_xaNil)))))) (fr_xNotT (fr_xTest (fr_xCall fr_F_is_between (fr_xaCons (fr_xVar 1) (fr_xaCons (fr_xC (.int 0)) (fr_xaCons (fr_xOp fr_subD (fr_xVar 2) (fr_xC (.int 1))) fr_xaNil))))))) (fr_sRet (fr_xC .non)) fr_sNil)
  (fr_sRet (fr_xTup (fr_xaCons (fr_xVar 1) (fr_xaCons (fr_xVar 2) fr_xaNil)))))))
theorem fr_F_class_of : FrF F_class_of := fr_fnOf 3 false fr_B_class_of
theorem fr_B_is_name : FrB B_is_name := (fr_sSeq (fr_sIf (fr_xOrT (fr_xNotT (fr_xTest (fr_xCall (fr_isiF cs) (fr_xaCons (fr_xVar 0) (fr_xaCons (fr_xC (.ty "str")) fr_xaNil))))) (fr_xOrT (fr_xNotT (fr_xTest (fr_xChain fr_ltD fr_ltD (fr_xC (.int 0)) (fr_xCall fr_lenD (fr_xaCons (fr_xVar 0) fr_xaNil)) (fr_xC (.int 9))))) (fr_xTest (fr_xOp fr_ninD (fr_xOp fr_ixD (fr_xVar 0) (fr_xC (.int 0))) (fr_xC (.str "abcdefghijklmnopqrstuvwxyz")))))) (fr_sRet (fr_xC (.bl false))) fr_sNil)
  (fr_sRet (fr_xCall fr_allF (fr_xaCons (fr_xLc (fr_xiSeq (fr_xVar 0)) [1] (fr_gNm 1) fr_xYes (fr_xOr (fr_xOp fr_inD (fr_xVar 1) (fr_xC (.str "abcdefghijklmnopqrstuvwxyz"))) (fr_xOp fr_inD (fr_xVar 1) (fr_xC (.str "0123456789"))))) fr_xaNil))))
theorem fr_F_is_name : FrF F_is_name := fr_fnOf 2 false fr_B_is_name
theorem fr_B_read_call : FrB B_read_call := (fr_sSeq (fr_sAsg (fr_xCall fr_F_class_of (fr_xaCons (fr_xSl (fr_xVar 0) (fr_xoS (fr_xC (.int 3))) fr_xoN) fr_xaNil)) (fr_gNm 1))
  (fr_sSeq (fr_sIf (fr_xOrT (fr_xTest (fr_xOp fr_isD (fr_xVar 1) (fr_xC .non))) (fr_xOrT (fr_xTest (fr_xOp fr_neD (fr_xOp fr_ixD (fr_xVar 0) (fr_xC (.int 2))) (fr_xC (.str "on")))) (fr_xNotT (fr_xTest (fr_xCall fr_F_is_name (fr_xaCons (fr_xOp fr_ixD (fr_xVar 0) (fr_xC (.int 1))) fr_xaNil)))))) (fr_sRet (fr_xC .non)) fr_sNil)
  (fr_sSeq (fr_sAsg (fr_xVar 1) (fr_gTp 2 (fr_gsCons (fr_gNm 2) (fr_gsCons (fr_gNm 3) fr_gsNil))))
  (fr_sRet (fr_xMakeK "Clause" fr_F_Clause_D_initD_ true [.non, .non] (fr_xaCons (fr_xC (.str "call")) (fr_xaCons (fr_xVar 2) (fr_xaCons (fr_xVar 3) fr_xaNil))) (fr_xaCons (fr_xOp fr_ixD (fr_xVar 0) (fr_xC (.int 1))) fr_xaNil))))))
theorem fr_F_read_call : FrF F_read_call := fr_fnOf 4 false fr_B_read_call
theorem fr_B_read_clause : FrB B_read_clause := (fr_sSeq (fr_sAsg (fr_xBM "str" fr_splitF (fr_xVar 0) (fr_xaCons (fr_xC (.str " ")) fr_xaNil)) (fr_gNm 1))
  (fr_sSeq (fr_sIf (fr_xTest (fr_xOp fr_eqD (fr_xOp fr_ixD (fr_xVar 1) (fr_xC (.int 0))) (fr_xC (.str "call")))) (fr_sRet (fr_xCall fr_F_read_call (fr_xaCons (fr_xVar 1) fr_xaNil))) fr_sNil)
  (fr_sSeq (fr_sAsg (fr_xCall fr_F_class_of (fr_xaCons (fr_xSl (fr_xVar 1) (fr_xoS (fr_xC (.int 1))) (fr_xoS (fr_xC (.int 4)))) fr_xaNil)) (fr_gNm 2))
  (fr_sSeq (fr_sIf (fr_xTest (fr_xOp fr_isD (fr_xVar 2) (fr_xC .non))) (fr_sRet (fr_xC .non)) fr_sNil)
  (fr_sSeq (fr_sAsg (fr_xVar 2) (fr_gTp 2 (fr_gsCons (fr_gNm 3) (fr_gsCons (fr_gNm 4) fr_gsNil))))
  (fr_sSeq (fr_sIf (fr_xTest (fr_xOp fr_eqD (fr_xOp fr_ixD (fr_xVar 1) (fr_xC (.int 0))) (fr_xC (.str "clear")))) (fr_sRet (fr_xIf (fr_xTest (fr_xOp fr_eqD (fr_xCall fr_lenD (fr_xaCons (fr_xVar 1) fr_xaNil)) (fr_xC (.int 4)))) (fr_xMakeD "Clause" fr_F_Clause_D_initD_ true [.non, .non, .non] (fr_xaCons (fr_xC (.str "clear")) (fr_xaCons (fr_xVar 3) (fr_xaCons (fr_xVar 4) fr_xaNil)))) (fr_xC .non))) fr_sNil)
  (fr_sSeq (fr_sIf (fr_xOrT (fr_xTest (fr_xOp fr_ninD (fr_xOp fr_ixD (fr_xVar 1) (fr_xC (.int 0))) (fr_xTup (fr_xaCons (fr_xC (.str "join")) (fr_xaCons (fr_xC (.str "take")) fr_xaNil))))) (fr_xOrT (fr_xTest (fr_xOp fr_neD (fr_xCall fr_lenD (fr_xaCons (fr_xVar 1) fr_xaNil)) (fr_xC (.int 6)))) (fr_xTest (fr_xOp fr_ninD (fr_xOp fr_ixD (fr_xVar 1) (fr_xC (.int 4))) (fr_xTup (fr_xaCons (fr_xC (.str "left")) (fr_xaCons (fr_xC (.str "right")) fr_xaNil))))))) (fr_sRet (fr_xC .non)) fr_sNil)
  (fr_sSeq (fr_sAsg (fr_xCall fr_F_digit_of (fr_xaCons (fr_xOp fr_ixD (fr_xVar 1) (fr_xC (.int 5))) fr_xaNil)) (fr_gNm 5))
  (fr_sRet (fr_xIf (fr_xTest (fr_xCall fr_F_is_between (fr_xaCons (fr_xVar 5) (fr_xaCons (fr_xC (.int 1)) (fr_xaCons (fr_xC (.int 4)) fr_xaNil))))) (fr_xMakeD "Clause" fr_F_Clause_D_initD_ true [.non] (fr_xaCons (fr_xOp fr_ixD (fr_xVar 1) (fr_xC (.int 0))) (fr_xaCons (fr_xVar 3) (fr_xaCons (fr_xVar 4) (fr_xaCons (fr_xOp fr_ixD (fr_xVar 1) (fr_xC (.int 4))) (fr_xaCons (fr_xVar 5) fr_xaNil)))))) (fr_xC .non)))))))))))
theorem fr_F_read_clause : FrF F_read_clause := fr_fnOf 6 false fr_B_read_clause
theorem fr_B_read_clauses : FrB B_read_clauses := (fr_sSeq (fr_sIf (fr_xNotT (fr_xTest (fr_xCall (fr_isiF cs) (fr_xaCons (fr_xVar 0) (fr_xaCons (fr_xC (.ty "str")) fr_xaNil))))) (fr_sRet (fr_xC .non)) fr_sNil)
  (fr_sSeq (fr_sAsg (fr_xLc (fr_xiSeq (fr_xBM "str" fr_splitF (fr_xVar 0) (fr_xaCons (fr_xC (.str "; ")) fr_xaNil))) [5] (fr_gNm 5) fr_xYes (fr_xCall fr_F_read_clause (fr_xaCons (fr_xVar 5) fr_xaNil))) (fr_gNm 1))
  (fr_sSeq (fr_sIf (fr_xOrT (fr_xTest (fr_xOp fr_gtD (fr_xCall fr_lenD (fr_xaCons (fr_xVar 1) fr_xaNil)) (fr_xC (.int 3)))) (fr_xTest (fr_xCall fr_anyF (fr_xaCons (fr_xLc (fr_xiSeq (fr_xVar 1)) [4] (fr_gNm 4) fr_xYes (fr_xOp fr_isD (fr_xVar 4) (fr_xC .non))) fr_xaNil)))) (fr_sRet (fr_xC .non)) fr_sNil)
  (fr_sSeq (fr_sAsg (fr_xLc (fr_xiSeq (fr_xVar 1)) [4] (fr_gNm 4) (fr_xTest (fr_xOp fr_eqD (fr_xFld "Clause" "word" (fr_xVar 4)) (fr_xC (.str "call")))) (fr_xVar 4)) (fr_gNm 2))
  (fr_sSeq (fr_sIf (fr_xTest (fr_xChain fr_ltD fr_ltD (fr_xC (.int 0)) (fr_xCall fr_lenD (fr_xaCons (fr_xVar 2) fr_xaNil)) (fr_xCall fr_lenD (fr_xaCons (fr_xVar 1) fr_xaNil)))) (fr_sRet (fr_xC .non)) fr_sNil)
  (fr_sSeq (fr_sFor (fr_xiEnum' (fr_xaCons (fr_xVar 1) fr_xaNil)) (fr_gTp 2 (fr_gsCons (fr_gNm 3) (fr_gsCons (fr_gNm 4) fr_gsNil)))
  (fr_sIf (fr_xTest (fr_xCall fr_anyF (fr_xaCons (fr_xLc (fr_xiSeq (fr_xSl (fr_xVar 1) fr_xoN (fr_xoS (fr_xVar 3)))) [6] (fr_gNm 6) fr_xYes (fr_xCall fr_F_meet (fr_xaCons (fr_xVar 4) (fr_xaCons (fr_xVar 6) fr_xaNil)))) fr_xaNil))) (fr_sRet (fr_xC .non)) fr_sNil))
  (fr_sRet (fr_xVar 1))))))))
theorem fr_F_read_clauses : FrF F_read_clauses := fr_fnOf 7 false fr_B_read_clauses
theorem fr_B_read_round : FrB B_read_round := (fr_sSeq (fr_sAsg (fr_xCall fr_F_read_clauses (fr_xaCons (fr_xVar 0) fr_xaNil)) (fr_gNm 3))
  (fr_sSeq (fr_sIf (fr_xTest (fr_xOp fr_isD (fr_xVar 3) (fr_xC .non))) (fr_sRet (fr_xC .non)) fr_sNil)
  (fr_sSeq (fr_sFor (fr_xiSeq (fr_xVar 3)) (fr_gNm 4)
  (fr_sIf (fr_xAndT (fr_xTest (fr_xOp fr_eqD (fr_xFld "Clause" "word" (fr_xVar 4)) (fr_xC (.str "call")))) (fr_xOrT (fr_xTest (fr_xOp fr_ninD (fr_xFld "Clause" "goal" (fr_xVar 4)) (fr_xVar 1))) (fr_xAndT (fr_xTest (fr_xOp fr_eqD (fr_xFld "Clause" "step" (fr_xVar 4)) (fr_xC (.int 1)))) (fr_xTest (fr_xOp fr_inD (fr_xFld "Clause" "goal" (fr_xVar 4)) (fr_xVar 2)))))) (fr_sRet (fr_xC .non)) fr_sNil))
  (fr_sRet (fr_xVar 3)))))
theorem fr_F_read_round : FrF F_read_round := fr_fnOf 5 false fr_B_read_round
theorem fr_B_is_plan : FrB B_is_plan := (fr_sSeq (fr_sIf (fr_xOrT (fr_xNotT (fr_xTest (fr_xCall (fr_isiF cs) (fr_xaCons (fr_xVar 0) (fr_xaCons (fr_xC (.ty "tuple")) fr_xaNil))))) (fr_xTest (fr_xOp fr_neD (fr_xCall fr_lenD (fr_xaCons (fr_xVar 0) fr_xaNil)) (fr_xC (.int 4))))) (fr_sRet (fr_xC (.bl false))) fr_sNil)
  (fr_sSeq (fr_sAsg (fr_xVar 0) (fr_gTp 4 (fr_gsCons (fr_gNm 1) (fr_gsCons (fr_gNm 2) (fr_gsCons (fr_gNm 3) (fr_gsCons (fr_gNm 4) fr_gsNil))))))
  (fr_sSeq (fr_sIf (fr_xOrT (fr_xNotT (fr_xTest (fr_xCall fr_F_is_name (fr_xaCons (fr_xVar 1) fr_xaNil)))) (fr_xOrT (fr_xTest (fr_xOp fr_isD (fr_xCall fr_F_read_goal (fr_xaCons (fr_xVar 2) fr_xaNil)) (fr_xC .non))) (fr_xNotT (fr_xTest (fr_xCall fr_F_is_between (fr_xaCons (fr_xVar 3) (fr_xaCons (fr_xC (.int 1)) (fr_xaCons (fr_xC (.int 4)) fr_xaNil)))))))) (fr_sRet (fr_xC (.bl false))) fr_sNil)
  (fr_sSeq (fr_sIf (fr_xOrT (fr_xNotT (fr_xTest (fr_xCall (fr_isiF cs) (fr_xaCons (fr_xVar 4) (fr_xaCons (fr_xC (.ty "tuple")) fr_xaNil))))) (fr_xNotT (fr_xTest (fr_xChain fr_ltD fr_leD (fr_xC (.int 0)) (fr_xCall fr_lenD (fr_xaCons (fr_xVar 4) fr_xaNil)) (fr_xC (.int 5)))))) (fr_sRet (fr_xC (.bl false))) fr_sNil)
  (fr_sRet (fr_xCall fr_allF (fr_xaCons (fr_xLc (fr_xiSeq (fr_xVar 4)) [5] (fr_gNm 5) fr_xYes (fr_xOp fr_isntD (fr_xCall fr_F_read_clauses (fr_xaCons (fr_xVar 5) fr_xaNil)) (fr_xC .non))) fr_xaNil)))))))
theorem fr_F_is_plan : FrF F_is_plan := fr_fnOf 6 false fr_B_is_plan
theorem fr_B_first_invalid : FrB B_first_invalid := (fr_sSeq (fr_sAsg (fr_xNew fr_xaNil) (fr_gNm 1))
  (fr_sSeq (fr_sFor (fr_xiEnum' (fr_xaCons (fr_xVar 0) fr_xaNil)) (fr_gTp 2 (fr_gsCons (fr_gNm 2) (fr_gsCons (fr_gNm 3) fr_gsNil)))
  (fr_sSeq (fr_sIf (fr_xOrT (fr_xTest (fr_xOp fr_eqD (fr_xVar 2) (fr_xC (.int 4)))) (fr_xOrT (fr_xNotT (fr_xTest (fr_xCall fr_F_is_plan (fr_xaCons (fr_xVar 3) fr_xaNil)))) (fr_xTest (fr_xOp fr_inD (fr_xOp fr_ixD (fr_xVar 3) (fr_xC (.int 0))) (fr_xVar 1))))) (fr_sRet (fr_xVar 2)) fr_sNil)
  (fr_sExpr (fr_xBM "list" fr_appF (fr_xVar 1) (fr_xaCons (fr_xOp fr_ixD (fr_xVar 3) (fr_xC (.int 0))) fr_xaNil)))))
  (fr_sSeq (fr_sFor (fr_xiEnum' (fr_xaCons (fr_xVar 0) fr_xaNil)) (fr_gTp 2 (fr_gsCons (fr_gNm 2) (fr_gsCons (fr_gNm 3) fr_gsNil)))
  (fr_sIf (fr_xTest (fr_xCall fr_anyF (fr_xaCons (fr_xLc (fr_xiSeq (fr_xOp fr_ixD (fr_xVar 3) (fr_xC (.int 3)))) [4] (fr_gNm 4) fr_xYes (fr_xOp fr_isD (fr_xCall fr_F_read_round (fr_xaCons (fr_xVar 4) (fr_xaCons (fr_xVar 1) (fr_xaCons (fr_xSl (fr_xVar 1) fr_xoN (fr_xoS (fr_xOp fr_addD (fr_xVar 2) (fr_xC (.int 1))))) fr_xaNil)))) (fr_xC .non))) fr_xaNil))) (fr_sRet (fr_xVar 2)) fr_sNil))
  (fr_sRet (fr_xC .non)))))
theorem fr_F_first_invalid : FrF F_first_invalid := fr_fnOf 5 false fr_B_first_invalid
theorem fr_B_Book_D_initD_ : FrB B_Book_D_initD_ := (fr_sSeq (fr_sIf (fr_xOrT (fr_xNotT (fr_xTest (fr_xCall (fr_isiF cs) (fr_xaCons (fr_xVar 1) (fr_xaCons (fr_xC (.ty "tuple")) fr_xaNil))))) (fr_xTest (fr_xOp fr_eqD (fr_xCall fr_lenD (fr_xaCons (fr_xVar 1) fr_xaNil)) (fr_xC (.int 0))))) fr_sNever fr_sNil)
  (fr_sSeq (fr_sAsg (fr_xCall fr_F_first_invalid (fr_xaCons (fr_xVar 1) fr_xaNil)) (fr_gNm 2))
  (fr_sSeq (fr_sIf (fr_xTest (fr_xOp fr_isntD (fr_xVar 2) (fr_xC .non))) fr_sNever fr_sNil)
  (fr_sSeq (fr_sFl "Book" "held" (fr_xVar 0) (fr_xVar 1))
  (fr_sFl "Book" "parsed" (fr_xVar 0) (fr_xDc (fr_xiSeq (fr_xVar 1)) [3] (fr_gNm 3) (fr_xOp fr_ixD (fr_xVar 3) (fr_xC (.int 0))) (fr_xLc (fr_xiSeq (fr_xOp fr_ixD (fr_xVar 3) (fr_xC (.int 3)))) [4] (fr_gNm 4) fr_xYes (fr_xCall fr_F_read_clauses (fr_xaCons (fr_xVar 4) fr_xaNil)))))))))
theorem fr_F_Book_D_initD_ : FrF F_Book_D_initD_ := fr_fnOf 5 false fr_B_Book_D_initD_
theorem fr_B__law_goal_text : FrB B__law_goal_text := (fr_sRet (fr_xOp fr_addD (fr_xOp fr_ixD (fr_xVar 0) (fr_xC (.int 0))) (fr_xIf (fr_xTest (fr_xOp fr_eqD (fr_xOp fr_ixD (fr_xVar 0) (fr_xC (.int 0))) (fr_xC (.str "last")))) (fr_xOp fr_addD (fr_xC (.str " ")) (fr_xCall fr_strF (fr_xaCons (fr_xOp fr_ixD (fr_xVar 0) (fr_xC (.int 1))) fr_xaNil))) (fr_xC (.str "")))))
theorem fr_F__law_goal_text : FrF F__law_goal_text := fr_fnOf 1 false fr_B__law_goal_text
theorem fr_B__law_clause_text : FrB B__law_clause_text := (fr_sSeq (fr_sAsg (fr_xVar 0) (fr_gTp 6 (fr_gsCons (fr_gNm 1) (fr_gsCons (fr_gNm 2) (fr_gsCons (fr_gNm 3) (fr_gsCons (fr_gNm 4) (fr_gsCons (fr_gNm 5) (fr_gsCons (fr_gNm 6) fr_gsNil))))))))
  (fr_sSeq (fr_sAsg (fr_xOp fr_addD (fr_xOp fr_addD (fr_xCall fr_strF (fr_xaCons (fr_xVar 2) fr_xaNil)) (fr_xC (.str " of "))) (fr_xCall fr_strF (fr_xaCons (fr_xVar 3) fr_xaNil))) (fr_gNm 7))
  (fr_sSeq (fr_sIf (fr_xTest (fr_xOp fr_eqD (fr_xVar 1) (fr_xC (.str "call")))) (fr_sRet (fr_xOp fr_addD (fr_xOp fr_addD (fr_xOp fr_addD (fr_xC (.str "call ")) (fr_xVar 6)) (fr_xC (.str " on "))) (fr_xVar 7))) fr_sNil)
  (fr_sRet (fr_xOp fr_addD (fr_xOp fr_addD (fr_xOp fr_addD (fr_xVar 1) (fr_xC (.str " "))) (fr_xVar 7)) (fr_xIf (fr_xTest (fr_xOp fr_eqD (fr_xVar 1) (fr_xC (.str "clear")))) (fr_xC (.str "")) (fr_xOp fr_addD (fr_xOp fr_addD (fr_xOp fr_addD (fr_xC (.str " ")) (fr_xVar 4)) (fr_xC (.str " "))) (fr_xCall fr_strF (fr_xaCons (fr_xVar 5) fr_xaNil)))))))))
theorem fr_F__law_clause_text : FrF F__law_clause_text := fr_fnOf 8 false fr_B__law_clause_text
end J
namespace J
open PySem PySem.Spec PyProof.Rows L2 DS
/-! ### clauses, as drawn, as texts, as read -/
def menuS : List Str := ["join", "left", "on", "of", "a1", "a2", "plan", "call", "z9z9z9z9"]
def nmS (g : Nat) : Str := menuS.getD g ""
def wordS : Nat → Str
  | 0 => "join"
  | 1 => "take"
  | 2 => "clear"
  | _ => "call"
def sideS : Nat → Str
  | 0 => "left"
  | _ => "right"
def digS (n : Nat) : Str := ⟨#[48 + n]⟩
structure Cl where
  w : Nat
  rest : Nat
  step : Nat
  side : Nat
  far : Nat
  goal : Nat
structure Cl.Ok (c : Cl) : Prop where
  w : c.w < 4
  rest : c.rest < c.step
  step : c.step < 4
  side : c.side < 2
  far0 : 0 < c.far
  far : c.far < 5
  goal : c.goal < 9
def Cl.dat (c : Cl) : D := if c.w = 3 then .tup [.str "call", .int c.rest, .int c.step, .str "", .int 0, .str (nmS c.goal)] else .tup [.str (wordS c.w), .int c.rest, .int c.step, .str (sideS c.side), .int c.far, .str ""]
def Cl.text (c : Cl) : Str := if c.w = 3 then "call " ++ nmS c.goal ++ " on " ++ (digS c.rest ++ " of " ++ digS c.step) else wordS c.w ++ " " ++ (digS c.rest ++ " of " ++ digS c.step) ++ if c.w = 2 then ("" : Str) else " " ++ sideS c.side ++ " " ++ digS c.far
def clO (w : Str) (rest step : Nat) (side far goal : D) : D := .obj "Clause" [("word", .str w), ("rest", .int rest), ("step", .int step), ("side", side), ("far", far), ("goal", goal)]
def Cl.obj (c : Cl) : D := clO (wordS c.w) c.rest c.step (if c.w < 2 then .str (sideS c.side) else .non) (if c.w < 2 then .int c.far else .non) (if c.w = 3 then .str (nmS c.goal) else .non)
def kls : List (Nat × Nat) := [(0, 1), (0, 2), (1, 2), (0, 3), (1, 3), (2, 3)]
def chkC (c : Cl) : Bool := okIs (F__law_clause_text [c.dat] []) (.str c.text) && (okIs (F_read_clause [.str c.text] []) c.obj && ((c.text.cps.toList).all (· != 59) && decide (c.text.length < 40)))
theorem chk3_00 : ∀ g < 3, chkC ⟨3, 0, 1, 0, 0, 0 + g⟩ = true := by decide +kernel
theorem chk3_01 : ∀ g < 3, chkC ⟨3, 0, 1, 0, 0, 3 + g⟩ = true := by decide +kernel
theorem chk3_02 : ∀ g < 3, chkC ⟨3, 0, 1, 0, 0, 6 + g⟩ = true := by decide +kernel
theorem chk3_0 : ∀ g < 9, chkC ⟨3, 0, 1, 0, 0, g⟩ = true := fun g h => by
  by_cases h1 : g < 3
  · have := chk3_00 g h1
    rw [Nat.zero_add] at this
    exact this
  by_cases h2 : g < 6
  · have := chk3_01 (g - 3) (by omega)
    rw [Nat.add_sub_cancel' (by omega)] at this
    exact this
  · have := chk3_02 (g - 6) (by omega)
    rw [Nat.add_sub_cancel' (by omega)] at this
    exact this
theorem chk1_000 : ∀ f < 4, chkC ⟨0, 0, 1, 0, f + 1, 0⟩ = true := by decide +kernel
theorem chk1_001 : ∀ f < 4, chkC ⟨0, 0, 1, 1, f + 1, 0⟩ = true := by decide +kernel
theorem chk1_010 : ∀ f < 4, chkC ⟨1, 0, 1, 0, f + 1, 0⟩ = true := by decide +kernel
theorem chk1_011 : ∀ f < 4, chkC ⟨1, 0, 1, 1, f + 1, 0⟩ = true := by decide +kernel
theorem chk1_0 : ∀ w < 2, ∀ s < 2, ∀ f < 4, chkC ⟨w, 0, 1, s, f + 1, 0⟩ = true := fun w hw s hs => by
  have hw : w = 0 ∨ w = 1 := by omega
  have hs : s = 0 ∨ s = 1 := by omega
  rcases hw with rfl | rfl <;> rcases hs with rfl | rfl
  · exact chk1_000
  · exact chk1_001
  · exact chk1_010
  · exact chk1_011
theorem chk3_10 : ∀ g < 3, chkC ⟨3, 0, 2, 0, 0, 0 + g⟩ = true := by decide +kernel
theorem chk3_11 : ∀ g < 3, chkC ⟨3, 0, 2, 0, 0, 3 + g⟩ = true := by decide +kernel
theorem chk3_12 : ∀ g < 3, chkC ⟨3, 0, 2, 0, 0, 6 + g⟩ = true := by decide +kernel
theorem chk3_1 : ∀ g < 9, chkC ⟨3, 0, 2, 0, 0, g⟩ = true := fun g h => by
  by_cases h1 : g < 3
  · have := chk3_10 g h1
    rw [Nat.zero_add] at this
    exact this
  by_cases h2 : g < 6
  · have := chk3_11 (g - 3) (by omega)
    rw [Nat.add_sub_cancel' (by omega)] at this
    exact this
  · have := chk3_12 (g - 6) (by omega)
    rw [Nat.add_sub_cancel' (by omega)] at this
    exact this
theorem chk1_100 : ∀ f < 4, chkC ⟨0, 0, 2, 0, f + 1, 0⟩ = true := by decide +kernel
theorem chk1_101 : ∀ f < 4, chkC ⟨0, 0, 2, 1, f + 1, 0⟩ = true := by decide +kernel
theorem chk1_110 : ∀ f < 4, chkC ⟨1, 0, 2, 0, f + 1, 0⟩ = true := by decide +kernel
theorem chk1_111 : ∀ f < 4, chkC ⟨1, 0, 2, 1, f + 1, 0⟩ = true := by decide +kernel
theorem chk1_1 : ∀ w < 2, ∀ s < 2, ∀ f < 4, chkC ⟨w, 0, 2, s, f + 1, 0⟩ = true := fun w hw s hs => by
  have hw : w = 0 ∨ w = 1 := by omega
  have hs : s = 0 ∨ s = 1 := by omega
  rcases hw with rfl | rfl <;> rcases hs with rfl | rfl
  · exact chk1_100
  · exact chk1_101
  · exact chk1_110
  · exact chk1_111
theorem chk3_20 : ∀ g < 3, chkC ⟨3, 1, 2, 0, 0, 0 + g⟩ = true := by decide +kernel
theorem chk3_21 : ∀ g < 3, chkC ⟨3, 1, 2, 0, 0, 3 + g⟩ = true := by decide +kernel
theorem chk3_22 : ∀ g < 3, chkC ⟨3, 1, 2, 0, 0, 6 + g⟩ = true := by decide +kernel
theorem chk3_2 : ∀ g < 9, chkC ⟨3, 1, 2, 0, 0, g⟩ = true := fun g h => by
  by_cases h1 : g < 3
  · have := chk3_20 g h1
    rw [Nat.zero_add] at this
    exact this
  by_cases h2 : g < 6
  · have := chk3_21 (g - 3) (by omega)
    rw [Nat.add_sub_cancel' (by omega)] at this
    exact this
  · have := chk3_22 (g - 6) (by omega)
    rw [Nat.add_sub_cancel' (by omega)] at this
    exact this
theorem chk1_200 : ∀ f < 4, chkC ⟨0, 1, 2, 0, f + 1, 0⟩ = true := by decide +kernel
theorem chk1_201 : ∀ f < 4, chkC ⟨0, 1, 2, 1, f + 1, 0⟩ = true := by decide +kernel
theorem chk1_210 : ∀ f < 4, chkC ⟨1, 1, 2, 0, f + 1, 0⟩ = true := by decide +kernel
theorem chk1_211 : ∀ f < 4, chkC ⟨1, 1, 2, 1, f + 1, 0⟩ = true := by decide +kernel
theorem chk1_2 : ∀ w < 2, ∀ s < 2, ∀ f < 4, chkC ⟨w, 1, 2, s, f + 1, 0⟩ = true := fun w hw s hs => by
  have hw : w = 0 ∨ w = 1 := by omega
  have hs : s = 0 ∨ s = 1 := by omega
  rcases hw with rfl | rfl <;> rcases hs with rfl | rfl
  · exact chk1_200
  · exact chk1_201
  · exact chk1_210
  · exact chk1_211
theorem chk3_30 : ∀ g < 3, chkC ⟨3, 0, 3, 0, 0, 0 + g⟩ = true := by decide +kernel
theorem chk3_31 : ∀ g < 3, chkC ⟨3, 0, 3, 0, 0, 3 + g⟩ = true := by decide +kernel
theorem chk3_32 : ∀ g < 3, chkC ⟨3, 0, 3, 0, 0, 6 + g⟩ = true := by decide +kernel
theorem chk3_3 : ∀ g < 9, chkC ⟨3, 0, 3, 0, 0, g⟩ = true := fun g h => by
  by_cases h1 : g < 3
  · have := chk3_30 g h1
    rw [Nat.zero_add] at this
    exact this
  by_cases h2 : g < 6
  · have := chk3_31 (g - 3) (by omega)
    rw [Nat.add_sub_cancel' (by omega)] at this
    exact this
  · have := chk3_32 (g - 6) (by omega)
    rw [Nat.add_sub_cancel' (by omega)] at this
    exact this
theorem chk1_300 : ∀ f < 4, chkC ⟨0, 0, 3, 0, f + 1, 0⟩ = true := by decide +kernel
theorem chk1_301 : ∀ f < 4, chkC ⟨0, 0, 3, 1, f + 1, 0⟩ = true := by decide +kernel
theorem chk1_310 : ∀ f < 4, chkC ⟨1, 0, 3, 0, f + 1, 0⟩ = true := by decide +kernel
theorem chk1_311 : ∀ f < 4, chkC ⟨1, 0, 3, 1, f + 1, 0⟩ = true := by decide +kernel
theorem chk1_3 : ∀ w < 2, ∀ s < 2, ∀ f < 4, chkC ⟨w, 0, 3, s, f + 1, 0⟩ = true := fun w hw s hs => by
  have hw : w = 0 ∨ w = 1 := by omega
  have hs : s = 0 ∨ s = 1 := by omega
  rcases hw with rfl | rfl <;> rcases hs with rfl | rfl
  · exact chk1_300
  · exact chk1_301
  · exact chk1_310
  · exact chk1_311
theorem chk3_40 : ∀ g < 3, chkC ⟨3, 1, 3, 0, 0, 0 + g⟩ = true := by decide +kernel
theorem chk3_41 : ∀ g < 3, chkC ⟨3, 1, 3, 0, 0, 3 + g⟩ = true := by decide +kernel
theorem chk3_42 : ∀ g < 3, chkC ⟨3, 1, 3, 0, 0, 6 + g⟩ = true := by decide +kernel
theorem chk3_4 : ∀ g < 9, chkC ⟨3, 1, 3, 0, 0, g⟩ = true := fun g h => by
  by_cases h1 : g < 3
  · have := chk3_40 g h1
    rw [Nat.zero_add] at this
    exact this
  by_cases h2 : g < 6
  · have := chk3_41 (g - 3) (by omega)
    rw [Nat.add_sub_cancel' (by omega)] at this
    exact this
  · have := chk3_42 (g - 6) (by omega)
    rw [Nat.add_sub_cancel' (by omega)] at this
    exact this
theorem chk1_400 : ∀ f < 4, chkC ⟨0, 1, 3, 0, f + 1, 0⟩ = true := by decide +kernel
theorem chk1_401 : ∀ f < 4, chkC ⟨0, 1, 3, 1, f + 1, 0⟩ = true := by decide +kernel
theorem chk1_410 : ∀ f < 4, chkC ⟨1, 1, 3, 0, f + 1, 0⟩ = true := by decide +kernel
theorem chk1_411 : ∀ f < 4, chkC ⟨1, 1, 3, 1, f + 1, 0⟩ = true := by decide +kernel
theorem chk1_4 : ∀ w < 2, ∀ s < 2, ∀ f < 4, chkC ⟨w, 1, 3, s, f + 1, 0⟩ = true := fun w hw s hs => by
  have hw : w = 0 ∨ w = 1 := by omega
  have hs : s = 0 ∨ s = 1 := by omega
  rcases hw with rfl | rfl <;> rcases hs with rfl | rfl
  · exact chk1_400
  · exact chk1_401
  · exact chk1_410
  · exact chk1_411
theorem chk3_50 : ∀ g < 3, chkC ⟨3, 2, 3, 0, 0, 0 + g⟩ = true := by decide +kernel
theorem chk3_51 : ∀ g < 3, chkC ⟨3, 2, 3, 0, 0, 3 + g⟩ = true := by decide +kernel
theorem chk3_52 : ∀ g < 3, chkC ⟨3, 2, 3, 0, 0, 6 + g⟩ = true := by decide +kernel
theorem chk3_5 : ∀ g < 9, chkC ⟨3, 2, 3, 0, 0, g⟩ = true := fun g h => by
  by_cases h1 : g < 3
  · have := chk3_50 g h1
    rw [Nat.zero_add] at this
    exact this
  by_cases h2 : g < 6
  · have := chk3_51 (g - 3) (by omega)
    rw [Nat.add_sub_cancel' (by omega)] at this
    exact this
  · have := chk3_52 (g - 6) (by omega)
    rw [Nat.add_sub_cancel' (by omega)] at this
    exact this
theorem chk1_500 : ∀ f < 4, chkC ⟨0, 2, 3, 0, f + 1, 0⟩ = true := by decide +kernel
theorem chk1_501 : ∀ f < 4, chkC ⟨0, 2, 3, 1, f + 1, 0⟩ = true := by decide +kernel
theorem chk1_510 : ∀ f < 4, chkC ⟨1, 2, 3, 0, f + 1, 0⟩ = true := by decide +kernel
theorem chk1_511 : ∀ f < 4, chkC ⟨1, 2, 3, 1, f + 1, 0⟩ = true := by decide +kernel
theorem chk1_5 : ∀ w < 2, ∀ s < 2, ∀ f < 4, chkC ⟨w, 2, 3, s, f + 1, 0⟩ = true := fun w hw s hs => by
  have hw : w = 0 ∨ w = 1 := by omega
  have hs : s = 0 ∨ s = 1 := by omega
  rcases hw with rfl | rfl <;> rcases hs with rfl | rfl
  · exact chk1_500
  · exact chk1_501
  · exact chk1_510
  · exact chk1_511
theorem kls_cases {k : Nat × Nat} (h : k ∈ kls) : k = (0, 1) ∨ k = (0, 2) ∨ k = (1, 2) ∨ k = (0, 3) ∨ k = (1, 3) ∨ k = (2, 3) := by
  simpa only [kls, List.mem_cons, List.not_mem_nil, or_false] using h
theorem chk3 : ∀ k ∈ kls, ∀ g < 9, chkC ⟨3, k.1, k.2, 0, 0, g⟩ = true := fun k hk => by
  rcases kls_cases hk with rfl | rfl | rfl | rfl | rfl | rfl
  · exact chk3_0
  · exact chk3_1
  · exact chk3_2
  · exact chk3_3
  · exact chk3_4
  · exact chk3_5
theorem chk1 : ∀ k ∈ kls, ∀ w < 2, ∀ s < 2, ∀ f < 4, chkC ⟨w, k.1, k.2, s, f + 1, 0⟩ = true := fun k hk => by
  rcases kls_cases hk with rfl | rfl | rfl | rfl | rfl | rfl
  · exact chk1_0
  · exact chk1_1
  · exact chk1_2
  · exact chk1_3
  · exact chk1_4
  · exact chk1_5
theorem chk2 : ∀ k ∈ kls, ∀ s < 2, ∀ f < 4, okIs (F__law_clause_text [(⟨2, k.1, k.2, s, f + 1, 0⟩ : Cl).dat] []) (.str (⟨2, k.1, k.2, 0, 0, 0⟩ : Cl).text) = true := by decide +kernel
theorem chk2' : ∀ k ∈ kls, (let c : Cl := ⟨2, k.1, k.2, 0, 0, 0⟩; okIs (F_read_clause [.str c.text] []) c.obj && ((c.text.cps.toList).all (· != 59) && decide (c.text.length < 40))) = true := by decide +kernel
theorem chkN : ∀ g < 9, okIs (F_is_name [.str (nmS g)] []) (.bl true) = true := by decide +kernel
end J

namespace J
open PySem PySem.Spec PyProof.Rows L2 DS
/-! ### comprehensions and loops over answers that leave the store alone -/
theorem lc_go {i : Nat} {tt : XT} {te : XE'} {r0 : Rho} {μ : Mu} (b : D → Bool) (f : D → D) : ∀ (xs acc : List D),
    (∀ x ∈ xs, ∀ acc, tt (r0.set i (some x)) (μ ++ [.lst acc]) = .ok (b x) (μ ++ [.lst acc])) →
    (∀ x ∈ xs, b x = true → ∀ acc, te (r0.set i (some x)) (μ ++ [.lst acc]) = .ok (f x) (μ ++ [.lst acc])) →
    (∀ x ∈ xs, b x = true → (f x).inB μ.length = true) → acc.length + xs.length ≤ sizeLine →
    lcF (gNm i) tt te μ.length r0 xs (μ ++ [.lst acc]) = .ok () (μ ++ [.lst (acc ++ (xs.filter b).map f)])
  | [], acc, _, _, _, _ => by simp [lcF]
  | x :: xs, acc, h1, h2, h3, hl => by
    rw [List.length_cons] at hl
    have m1 : ∀ y ∈ xs, y ∈ x :: xs := fun y hy => List.mem_cons_of_mem _ hy
    have m0 : x ∈ x :: xs := List.mem_cons_self ..
    rw [lcF]
    simp only [gNm, Out.ne, Out.bind, h1 x m0 acc]
    cases hb : b x
    · simp only [Bool.false_eq_true, if_false, List.filter_cons, hb]
      exact lc_go b f xs acc (fun y hy => h1 y (m1 y hy)) (fun y hy => h2 y (m1 y hy)) (fun y hy => h3 y (m1 y hy)) (by omega)
    · simp only [if_true, List.filter_cons, hb, h2 x m0 hb acc, List.map_cons]
      have e : pushD μ.length (f x) (μ ++ [.lst acc]) = .ok () (μ ++ [.lst (acc ++ [f x])]) := by
        unfold pushD
        rw [List.getElem?_append_right (Nat.le_refl _), Nat.sub_self]
        simp only [List.getElem?_cons_zero]
        rw [if_pos ⟨h3 x m0 hb, by omega⟩, List.set_append_right _ _ (Nat.le_refl _), Nat.sub_self]
        rfl
      rw [e]
      simp only
      rw [lc_go b f xs (acc ++ [f x]) (fun y hy => h1 y (m1 y hy)) (fun y hy => h2 y (m1 y hy)) (fun y hy => h3 y (m1 y hy)) (by rw [List.length_append]; simp; omega)]
      simp
theorem lc_of {i : Nat} {tt : XT} {te : XE'} {r0 : Rho} {μ : Mu} (b : D → Bool) (f : D → D) {xs : List D}
    (h1 : ∀ x ∈ xs, ∀ acc, tt (r0.set i (some x)) (μ ++ [.lst acc]) = .ok (b x) (μ ++ [.lst acc]))
    (h2 : ∀ x ∈ xs, b x = true → ∀ acc, te (r0.set i (some x)) (μ ++ [.lst acc]) = .ok (f x) (μ ++ [.lst acc]))
    (h3 : ∀ x ∈ xs, b x = true → (f x).inB μ.length = true) (hl : xs.length ≤ sizeLine) :
    lcD (gNm i) tt te r0 xs μ = .ok (.lst ((xs.filter b).map f)) μ := by
  unfold lcD
  rw [lc_go b f xs [] h1 h2 h3 (by simpa using hl)]
  simp [Out.bind, lcEnd]
/-- .. over typed things, no test -/
theorem lc_map {α : Type} {i : Nat} {te : XE'} {r0 : Rho} {μ : Mu} (e : α → D) (f : α → D) {xs : List α}
    (h2 : ∀ x ∈ xs, ∀ acc, te (r0.set i (some (e x))) (μ ++ [.lst acc]) = .ok (f x) (μ ++ [.lst acc]))
    (h3 : ∀ x ∈ xs, (f x).inB μ.length = true) (hl : xs.length ≤ sizeLine) :
    lcD (gNm i) xYes te r0 (xs.map e) μ = .ok (.lst (xs.map f)) μ := by
  have go : ∀ (ys : List α) (acc : List D), (∀ y ∈ ys, y ∈ xs) → acc.length + ys.length ≤ sizeLine → lcF (gNm i) xYes te μ.length r0 (ys.map e) (μ ++ [.lst acc]) = .ok () (μ ++ [.lst (acc ++ ys.map f)]) := fun ys => by
    induction ys with
    | nil => intro acc _ _; simp [lcF]
    | cons y ys ih =>
      intro acc hm hl
      rw [List.length_cons] at hl
      have hy := hm y (List.mem_cons_self ..)
      have e : pushD μ.length (f y) (μ ++ [.lst acc]) = .ok () (μ ++ [.lst (acc ++ [f y])]) := by
        unfold pushD
        rw [List.getElem?_append_right (Nat.le_refl _), Nat.sub_self]
        simp only [List.getElem?_cons_zero]
        rw [if_pos ⟨h3 y hy, by omega⟩, List.set_append_right _ _ (Nat.le_refl _), Nat.sub_self]
        rfl
      rw [List.map_cons, lcF]
      simp only [gNm, Out.ne, Out.bind, xYes, if_true, h2 y hy acc, e]
      rw [ih (acc ++ [f y]) (fun z hz => hm z (List.mem_cons_of_mem _ hz)) (by rw [List.length_append]; simp; omega)]
      simp
  unfold lcD
  rw [go xs [] (fun _ h => h) (by simpa using hl)]
  simp [Out.bind, lcEnd]

/-! ### the applied equations -/
theorem AP : (∀ {g : D → D → Mu → Out D} {a b : XE'} {r : Rho} {m : Mu}, xOp g a b r m = (a r m).bind fun x m1 => (b r m1).bind fun y m2 => g x y m2) ∧
  (∀ {f : XE'} {r : Rho} {m : Mu}, xTest f r m = (f r m).bind asB) ∧
  (∀ {a b : XT} {r : Rho} {m : Mu}, xAndT a b r m = (a r m).bind fun k m1 => if k then b r m1 else .ok false m1) ∧
  (∀ {a b : XT} {r : Rho} {m : Mu}, xOrT a b r m = (a r m).bind fun k m1 => if k then .ok true m1 else b r m1) ∧
  (∀ {a : XT} {r : Rho} {m : Mu}, xNotT a r m = (a r m).bind fun k m1 => .ok (!k) m1) ∧
  (∀ {a b : XE'} {r : Rho} {m : Mu}, xAnd a b r m = ((a r m).bind asB).bind fun k m1 => if k then b r m1 else .ok (.bl false) m1) ∧
  (∀ {a b : XE'} {r : Rho} {m : Mu}, xOr a b r m = ((a r m).bind asB).bind fun k m1 => if k then .ok (.bl true) m1 else b r m1) ∧
  (∀ {a : XE'} {r : Rho} {m : Mu}, xNot a r m = ((a r m).bind asB).bind fun k m1 => .ok (.bl (!k)) m1) ∧
  (∀ {t : XT} {a b : XE'} {r : Rho} {m : Mu}, xIf t a b r m = (t r m).bind fun k m1 => if k then a r m1 else b r m1) ∧
  (∀ {g g' : D → D → Mu → Out D} {a b k : XE'} {r : Rho} {m : Mu}, xChain g g' a b k r m = (a r m).bind fun x m1 => (b r m1).bind fun y m2 => ((g x y m2).bind asB).bind fun q m3 => if q then (k r m3).bind fun z m4 => g' y z m4 else .ok (.bl false) m3) ∧
  (∀ {r : Rho} {m : Mu}, xaNil r m = .ok [] m) ∧
  (∀ {a : XE'} {b : XA} {r : Rho} {m : Mu}, xaCons a b r m = (a r m).bind fun x m1 => (b r m1).bind fun xs m2 => .ok (x :: xs) m2) ∧
  (∀ {a : XA} {r : Rho} {m : Mu}, xTup a r m = (a r m).bind fun ds m1 => .ok (.tup ds) m1) ∧
  (∀ {a : XA} {r : Rho} {m : Mu}, xLst a r m = (a r m).bind fun ds m1 => .ok (.lst ds) m1) ∧
  (∀ {a : XA} {r : Rho} {m : Mu}, xNew a r m = (a r m).bind fun ds m1 => if D.inL m1.length ds then .ok (.loc m1.length) (m1 ++ [.lst ds]) else .stuck) ∧
  (∀ {d : D} {r : Rho} {m : Mu}, xC d r m = .ok d m) ∧
  (∀ {r : Rho} {m : Mu}, xYes r m = .ok true m) ∧
  (∀ {r : Rho} {m : Mu}, xoN r m = .ok none m) ∧
  (∀ {a : XE'} {r : Rho} {m : Mu}, xoS a r m = (a r m).bind asI) ∧
  (∀ {a : XE'} {lo hi : XO} {r : Rho} {m : Mu}, xSl a lo hi r m = (a r m).bind fun d m1 => (lo r m1).bind fun l m2 => (hi r m2).bind fun h m3 => slD d l h m3) ∧
  (∀ {cn f : Str} {a : XE'} {r : Rho} {m : Mu}, xFld cn f a r m = (a r m).bind (fldD cn f)) ∧
  (∀ {G : Fn} {a : XA} {r : Rho} {m : Mu}, xCall G a r m = (a r m).bind G) ∧
  (∀ {cn : Str} {G : Fn} {frz : Bool} {a : XA} {r : Rho} {m : Mu}, xMake cn G frz a r m = (a r m).bind (makeD cn G frz)) ∧
  (∀ {T : String} {g : Fn} {o : XE'} {a : XA} {r : Rho} {m : Mu}, xBM T g o a r m = (o r m).bind fun d m1 => if tyD T m1 d then (a r m1).bind fun ds m2 => g (d :: ds) m2 else .stuck) ∧
  (∀ {f : XA} {vs : List Nat} {g : XG} {tt : XT} {te : XE'} {r : Rho} {m : Mu}, xLc f vs g tt te r m = (f r m).bind fun xs m1 => lcD g tt te (wipeR r vs) xs m1) ∧
  (∀ {f : XE'} {r : Rho} {m : Mu}, xiSeq f r m = (f r m).bind seqD) ∧
  (∀ {f : XA} {r : Rho} {m : Mu}, xiRng1 f r m = (f r m).bind rngD1) ∧
  (∀ {f : XA} {r : Rho} {m : Mu}, xiRng2 f r m = (f r m).bind rngD2) ∧
  (∀ {f : XA} {r : Rho} {m : Mu}, xiEnum' f r m = (f r m).bind enumD') ∧
  (∀ {r : Rho} {m : Mu}, sNil r m = .next r m) ∧
  (∀ {f : XE'} {r : Rho} {m : Mu}, sExpr f r m = (f r m).stm r fun _ m1 => .next r m1) ∧
  (∀ {f : XE'} {r : Rho} {m : Mu}, sRet f r m = (f r m).stm r fun d m1 => .ret d m1) ∧
  (∀ {t : XT} {f g : XS} {r : Rho} {m : Mu}, sIf t f g r m = (t r m).stm r fun k m1 => if k then f r m1 else g r m1) ∧
  (∀ {f : XE'} {g : XG} {r : Rho} {m : Mu}, sAsg f g r m = (f r m).stm r fun d m1 => (g d r m1).stm r fun r' m2 => .next r' m2) ∧
  (∀ {f : XA} {g : XG} {b : XS} {r : Rho} {m : Mu}, sFor f g b r m = (f r m).stm r fun xs m1 => loopF g b xs r m1) ∧
  (∀ {i : Nat} {d : D} {r : Rho} {m : Mu}, gNm i d r m = .ok (r.set i (some d)) m) ∧
  (∀ {o i : XE'} {d : D} {r : Rho} {m : Mu}, gSb o i d r m = (o r m).bind fun ov m1 => (i r m1).bind fun iv m2 => (setD ov iv d m2).bind fun _ m3 => .ok r m3) ∧
  (∀ {n : Nat} {g : XGs} {ds : List D} {r : Rho} {m : Mu}, gTp n g (.tup ds) r m = if ds.length = n then g ds r m else .stuck) ∧
  (∀ {n : Nat} {g : XGs} {ds : List D} {r : Rho} {m : Mu}, gTp n g (.lst ds) r m = if ds.length = n then g ds r m else .stuck) ∧
  (∀ {r : Rho} {m : Mu}, gsNil [] r m = .ok r m) ∧
  (∀ {g : XG} {gs : XGs} {d : D} {ds : List D} {r : Rho} {m : Mu}, gsCons g gs (d :: ds) r m = (g d r m).bind fun r1 m1 => gs ds r1 m1) ∧
  (∀ {r : Rho} {m : Mu} {f g : XS}, sSeq f g r m = (match f r m with
  | .next r' m' => g r' m'
  | o => o)) := by
  refine ⟨?_, ?_, ?_, ?_, ?_, ?_, ?_, ?_, ?_, ?_, ?_, ?_, ?_, ?_, ?_, ?_, ?_, ?_, ?_, ?_, ?_, ?_, ?_, ?_, ?_, ?_, ?_, ?_, ?_, ?_, ?_, ?_, ?_, ?_, ?_, ?_, ?_, ?_, ?_, ?_, ?_, ?_⟩ <;> intros <;> rfl
theorem AV {i : Nat} {r : Rho} {m : Mu} : xVar i r m = (match r[i]? with
  | some (some d) => .ok d m
  | _ => .stuck) := rfl
theorem AB : (∀ {α β : Type} {a : α} {m : Mu} {k : α → Mu → Out β}, (Out.ok a m).bind k = k a m) ∧ (∀ {α : Type} {a : α} {m : Mu} {r : Rho} {k : α → Mu → SO}, (Out.ok a m).stm r k = k a m) ∧ (∀ {b : Bool} {m : Mu}, asB (.bl b) m = .ok b m) ∧ (∀ {i : Int} {m : Mu}, asI (.int i) m = .ok (some i) m) ∧
  (∀ {xs : List D} {m : Mu}, seqD (.lst xs) m = .ok xs m) ∧ (∀ {xs : List D} {m : Mu}, seqD (.fix xs) m = .ok xs m) ∧ (∀ {xs : List D} {m : Mu}, seqD (.tup xs) m = .ok xs m) := by
  refine ⟨?_, ?_, ?_, ?_, ?_, ?_, ?_⟩ <;> intros <;> rfl
theorem fn_ap {n : Nat} {keep : Bool} {g : XS} {ds : List D} {m : Mu} : fnOf n keep g ds m = (match g (rho0 n ds) m with
  | .next _ m' => .ok .non (m'.take m.length)
  | .ret d m' => if keep then .ok d m' else exitD m.length d m'
  | .exc c fs _ m' => if D.inF m.length fs then .exc c fs (m'.take m.length) else .stuck
  | _ => .stuck) := rfl
theorem exit_in {n : Nat} {d : D} {m : Mu} (h : d.inB n = true) : exitD n d m = .ok d (m.take n) := by
  unfold exitD
  rw [if_pos h]
theorem LS : (∀ {α : Type} {x : α} {l : List α}, (x :: l)[0]? = some x) ∧ (∀ {α : Type} {x : α} {l : List α} {i : Nat}, (x :: l)[i + 1]? = l[i]?) ∧ (∀ {α : Type} {x y : α} {l : List α}, (x :: l).set 0 y = y :: l) ∧ (∀ {α : Type} {x y : α} {l : List α} {i : Nat}, (x :: l).set (i + 1) y = x :: l.set i y) := by
  refine ⟨?_, ?_, ?_, ?_⟩ <;> intros <;> rfl
/-! ### clauses -/
theorem kls_mem : ∀ step < 4, ∀ rest < step, (rest, step) ∈ kls := by decide
theorem Cl.Ok.kls {c : Cl} (h : c.Ok) : (c.rest, c.step) ∈ kls := kls_mem c.step h.step c.rest h.rest
theorem nmS_in (g : Nat) : (D.str (nmS g)).inB 0 = true := rfl
theorem Cl.dat_in (c : Cl) (n : Nat) : c.dat.inB n = true := by unfold Cl.dat; split <;> rfl
theorem Cl.obj_in (c : Cl) (n : Nat) : c.obj.inB n = true := by
  unfold Cl.obj clO
  by_cases h : c.w < 2 <;> by_cases h3 : c.w = 3 <;> simp [h, h3, D.inB, D.inF]
structure Cl.Facts (c : Cl) : Prop where
  text : okIs (F__law_clause_text [c.dat] []) (.str c.text) = true
  read : okIs (F_read_clause [.str c.text] []) c.obj = true
  free : (c.text.cps.toList).all (· != 59) = true
  len : c.text.length < 40
theorem Cl.Facts.move {c c' : Cl} (f : c.Facts) (h1 : c'.dat = c.dat) (h2 : c'.text = c.text) (h3 : c'.obj = c.obj) : c'.Facts :=
  ⟨by rw [h1, h2]; exact f.text, by rw [h2, h3]; exact f.read, by rw [h2]; exact f.free, by rw [h2]; exact f.len⟩
theorem facts_of {c : Cl} (q : chkC c = true) : c.Facts := by
  unfold chkC at q
  rw [Bool.and_eq_true, Bool.and_eq_true, Bool.and_eq_true, decide_eq_true_eq] at q
  exact ⟨q.1, q.2.1, q.2.2.1, q.2.2.2⟩
theorem Cl.Ok.facts {c : Cl} (h : c.Ok) : c.Facts := by
  have hk := h.kls
  obtain ⟨h1, h2, h3, h4, h5, h6, h7⟩ := h
  obtain ⟨w, rest, step, side, far, goal⟩ := c
  simp only at h1 h2 h3 h4 h5 h6 h7 hk
  have : w = 3 ∨ w = 2 ∨ w < 2 := by omega
  rcases this with rfl | rfl | hw
  · exact (facts_of (chk3 _ hk goal h7)).move (by simp [Cl.dat]) (by simp [Cl.text]) (by simp [Cl.obj])
  · have p := chk2 _ hk side h4 (far - 1) (by omega)
    have q := chk2' _ hk
    rw [Nat.sub_add_cancel h5] at p
    have t : ∀ a b g, (⟨2, rest, step, a, b, g⟩ : Cl).text = (⟨2, rest, step, 0, 0, 0⟩ : Cl).text := fun a b g => by simp [Cl.text]
    have d : ∀ g, (⟨2, rest, step, side, far, g⟩ : Cl).dat = (⟨2, rest, step, side, far, 0⟩ : Cl).dat := fun g => by simp [Cl.dat]
    have o : ∀ a b g, (⟨2, rest, step, a, b, g⟩ : Cl).obj = (⟨2, rest, step, 0, 0, 0⟩ : Cl).obj := fun a b g => by simp [Cl.obj]
    rw [Bool.and_eq_true, Bool.and_eq_true, decide_eq_true_eq] at q
    exact ⟨by rw [t, d]; exact p, by rw [t, o]; exact q.1, by rw [t]; exact q.2.1, by rw [t]; exact q.2.2⟩
  · have q := chk1 _ hk w hw side h4 (far - 1) (by omega)
    rw [Nat.sub_add_cancel h5] at q
    exact (facts_of q).move (by simp [Cl.dat, show w ≠ 3 by omega]) (by simp [Cl.text, show w ≠ 3 by omega]) (by simp [Cl.obj, show w ≠ 3 by omega])
theorem Cl.Ok.text {c : Cl} (h : c.Ok) (μ : Mu) : F__law_clause_text [c.dat] μ = .ok (.str c.text) μ := fr_F__law_clause_text.is (by simp [D.inL, c.dat_in]) h.facts.text μ
theorem Cl.Ok.read {c : Cl} (h : c.Ok) (μ : Mu) : F_read_clause [.str c.text] μ = .ok c.obj μ := fr_F_read_clause.is rfl h.facts.read μ

/-! ### rounds -/
abbrev Rd' := List Cl
def rText (r : List Cl) : Str := Txt.join "; " (r.map Cl.text)
structure ROk (r : List Cl) : Prop where
  len0 : 0 < r.length
  len : r.length ≤ 3
  ok : ∀ c ∈ r, c.Ok
  calls : (∀ c ∈ r, c.w = 3) ∨ (∀ c ∈ r, c.w ≠ 3)
  apart : r.Pairwise fun a b => b.step = a.step ∧ b.rest ≠ a.rest
theorem sum_len {r : List Cl} (h : ∀ c ∈ r, c.Ok) : ((r.map Cl.text).map (·.length)).sum ≤ 40 * r.length := by
  induction r with
  | nil => simp
  | cons c r ih =>
    have h1 := (h c (List.mem_cons_self ..)).facts.len
    have h2 := ih fun x hx => h x (List.mem_cons_of_mem _ hx)
    simp only [List.map_cons, List.sum_cons, List.length_cons]
    omega
theorem strs_map (l : List Str) : strsL (l.map .str) = some l := by
  induction l with
  | nil => rfl
  | cons x r ih => simp [strsL, ih]
theorem split_r {r : List Cl} (h : ROk r) : Txt.split (rText r) "; " = r.map Cl.text := by
  refine TL.split_join (s := 59) (S := [32]) (by decide +kernel) (by decide +kernel) (fun e => ?_) fun p hp => ?_
  · have h0 := h.len0
    rw [List.map_eq_nil_iff] at e
    rw [e] at h0
    exact Nat.lt_irrefl _ h0
  · obtain ⟨c, hc, rfl⟩ := List.mem_map.mp hp
    have q := (h.ok c hc).facts.free
    rw [List.all_eq_true] at q
    intro hm
    have := q _ hm
    simp at this
/-! ### operators on known data -/
theorem OI : (∀ {i j : Int} {m : Mu}, ltD (.int i) (.int j) m = .ok (.bl (decide (i < j))) m) ∧ (∀ {i j : Int} {m : Mu}, leD (.int i) (.int j) m = .ok (.bl (decide (i ≤ j))) m) ∧ (∀ {i j : Int} {m : Mu}, gtD (.int i) (.int j) m = .ok (.bl (decide (j < i))) m) ∧ (∀ {i j : Int} {m : Mu}, geD (.int i) (.int j) m = .ok (.bl (decide (j ≤ i))) m) ∧
  (∀ {i j : Int} {m : Mu}, addD (.int i) (.int j) m = .ok (.int (i + j)) m) ∧ (∀ {i j : Int} {m : Mu}, subD (.int i) (.int j) m = .ok (.int (i - j)) m) ∧
  (∀ {xs : List D} {m : Mu}, lenD [.lst xs] m = .ok (.int xs.length) m) ∧ (∀ {xs : List D} {m : Mu}, lenD [.tup xs] m = .ok (.int xs.length) m) ∧
  (∀ {xs : List D} {m : Mu}, enumD' [.lst xs] m = .ok (enumL 0 xs) m) ∧ (∀ {xs : List D} {m : Mu}, enumD' [.tup xs] m = .ok (enumL 0 xs) m) ∧
  (∀ {xs : List D} {m : Mu}, tupF [.lst xs] m = .ok (.tup xs) m) ∧ (∀ {xs : List D} {m : Mu}, tupF [.tup xs] m = .ok (.tup xs) m) ∧
  (∀ {d : D} {m : Mu}, isD d .non m = .ok (.bl (isNonD d)) m) ∧ (∀ {d : D} {m : Mu}, isntD d .non m = .ok (.bl (!isNonD d)) m) ∧
  (∀ {xs : List D} {lo hi : Option Int} {m : Mu}, slD (.lst xs) lo hi m = .ok (.lst (cutD xs lo hi)) m) ∧ (∀ {xs : List D} {lo hi : Option Int} {m : Mu}, slD (.tup xs) lo hi m = .ok (.tup (cutD xs lo hi)) m) := by
  refine ⟨?_, ?_, ?_, ?_, ?_, ?_, ?_, ?_, ?_, ?_, ?_, ?_, ?_, ?_, ?_, ?_⟩ <;> intros <;> rfl
theorem TY : (∀ {x : Str} {m : Mu}, isiF cs [.str x, .ty "str"] m = .ok (.bl true) m) ∧ (∀ {x : List D} {m : Mu}, isiF cs [.tup x, .ty "tuple"] m = .ok (.bl true) m) ∧ (∀ {x : Int} {m : Mu}, isiF cs [.int x, .ty "int"] m = .ok (.bl true) m) ∧ (∀ {x : Int} {m : Mu}, isiF cs [.int x, .ty "bool"] m = .ok (.bl false) m) ∧
  (∀ {x : Str} {m : Mu}, tyD "str" m (.str x) = true) ∧ (∀ {x : List D} {m : Mu}, tyD "list" m (.lst x) = true) := by
  refine ⟨?_, ?_, ?_, ?_, ?_, ?_⟩ <;> intros <;> rfl
theorem bs_map {α : Type} (p : α → Bool) (xs : List α) : bsL (xs.map fun x => .bl (p x)) = some (xs.map p) := by
  induction xs with
  | nil => rfl
  | cons x r ih => simp [bsL, ih]
theorem any_map {α : Type} (p : α → Bool) (xs : List α) (m : Mu) : anyF [.lst (xs.map fun x => .bl (p x))] m = .ok (.bl (xs.any p)) m := by
  unfold anyF
  simp only [lstOf, bs_map]
  congr 2
  induction xs with
  | nil => rfl
  | cons x r ih => simp_all
theorem all_map {α : Type} (p : α → Bool) (xs : List α) (m : Mu) : allF [.lst (xs.map fun x => .bl (p x))] m = .ok (.bl (xs.all p)) m := by
  unfold allF
  simp only [lstOf, bs_map]
  congr 2
  induction xs with
  | nil => rfl
  | cons x r ih => simp_all
theorem mem_enum {x : D} : ∀ {i : Nat} {xs : List D}, x ∈ enumL i xs → ∃ k y, xs[k]? = some y ∧ x = .tup [.int ((i + k : Nat) : Int), y]
  | _, [], h => by simp [enumL] at h
  | i, z :: r, h => by
    rw [enumL, List.mem_cons] at h
    rcases h with rfl | h
    · exact ⟨0, z, rfl, rfl⟩
    · obtain ⟨k, y, h1, h2⟩ := mem_enum h
      exact ⟨k + 1, y, h1, by rw [h2, show i + 1 + k = i + (k + 1) by omega]⟩
theorem loop_keep {g : XG} {body : XS} {μ : Mu} (I : Rho → Prop) : ∀ {xs : List D} {r : Rho}, I r → (∀ x ∈ xs, ∀ r, I r → ∃ r1 r2, g x r μ = .ok r1 μ ∧ body r1 μ = .next r2 μ ∧ I r2) → ∃ r', loopF g body xs r μ = .next r' μ ∧ I r'
  | [], r, h, _ => ⟨r, rfl, h⟩
  | x :: xs, r, h, hs => by
    obtain ⟨r1, r2, h1, h2, h3⟩ := hs x (List.mem_cons_self ..) r h
    obtain ⟨r', h4, h5⟩ := loop_keep I h3 fun y hy => hs y (List.mem_cons_of_mem _ hy)
    refine ⟨r', ?_, h5⟩
    rw [loopF, h1]
    simp only [AB, h2]
    exact h4
theorem cut_to (xs : List D) (k : Nat) (h : k ≤ xs.length) : cutD xs none (some (k : Int)) = xs.take k := by
  unfold DS.cutD
  rw [HT.sIx_nat, HT.sIx_none, Nat.min_eq_left h, List.drop_zero, Nat.sub_zero]
/-- a text that is joined -/
theorem join_len (y : Str) : ∀ parts : List Str, (Txt.join y parts).length ≤ (parts.map (·.length)).sum + parts.length * y.length := fun parts => by
  have hl : ∀ x : Str, x.length = (TL.tl x).length := fun x => by simp [Str.length]
  rw [TL.join_eq, hl, TL.tl_join]
  induction parts with
  | nil => simp [TL.joinL]
  | cons p r ih =>
    cases r with
    | nil => simp [TL.joinL, hl]
    | cons q r =>
      simp only [List.map_cons, TL.joinL, List.length_append, List.sum_cons, List.length_cons] at ih ⊢
      rw [hl p, hl y] at *
      have e : (r.length + 1 + 1) * (TL.tl y).length = (r.length + 1) * (TL.tl y).length + (TL.tl y).length := by rw [Nat.succ_mul]
      omega
theorem ix_at (i : Nat) (xs : List D) (x : D) (h : xs[i]? = some x) : L2.atI xs (i : Int) = some x := by
  have hl := (List.getElem?_eq_some_iff.mp h).1
  unfold L2.atI L2.ixN
  rw [if_pos (by omega), if_pos (by omega)]
  simpa using h
theorem Cl.fld_word (c : Cl) (m : Mu) : fldD "Clause" "word" c.obj m = .ok (.str (wordS c.w)) m := rfl
theorem Cl.fld_rest (c : Cl) (m : Mu) : fldD "Clause" "rest" c.obj m = .ok (.int c.rest) m := rfl
theorem Cl.fld_step (c : Cl) (m : Mu) : fldD "Clause" "step" c.obj m = .ok (.int c.step) m := rfl
theorem Cl.fld_goal (c : Cl) (m : Mu) : fldD "Clause" "goal" c.obj m = .ok (if c.w = 3 then .str (nmS c.goal) else .non) m := rfl
theorem EQ : (∀ {i j : Int} {m : Mu}, eqD (.int i) (.int j) m = .ok (.bl (i == j)) m) ∧ (∀ {i j : Int} {m : Mu}, neD (.int i) (.int j) m = .ok (.bl (!(i == j))) m) ∧ (∀ {i j : Str} {m : Mu}, eqD (.str i) (.str j) m = .ok (.bl (i == j)) m) ∧ (∀ {i j : Str} {m : Mu}, neD (.str i) (.str j) m = .ok (.bl (!(i == j))) m) := by
  refine ⟨?_, ?_, ?_, ?_⟩ <;> intros <;> rfl
theorem exit_bl {n : Nat} {b : Bool} {m : Mu} : exitD n (.bl b) m = .ok (.bl b) (m.take n) := exit_in rfl
theorem meet_ok (a b : Cl) (μ : Mu) : F_meet [a.obj, b.obj] μ = .ok (.bl (!((a.step : Int) == b.step) || ((a.rest : Int) == b.rest))) μ := by
  simp only [F_meet, B_meet, fn_ap, rho0, List.map, List.replicate, List.length, Nat.reduceSub, Nat.reduceAdd, List.cons_append, List.nil_append, AP, AV, AB, LS, Cl.fld_step, Cl.fld_rest, EQ]
  by_cases h : ((a.step : Int) == b.step) = true
  · simp only [h, Bool.not_true, Bool.false_eq_true, if_false, AB, exit_bl, List.take_length, Bool.false_or]
  · simp only [h, Bool.not_false, if_true, AB, exit_bl, List.take_length, Bool.true_or, if_false, Bool.false_eq_true]
theorem word_call (w : Nat) (h : w < 4) : (wordS w == "call") = decide (w = 3) := by
  have : w = 0 ∨ w = 1 ∨ w = 2 ∨ w = 3 := by omega
  rcases this with rfl | rfl | rfl | rfl <;> decide +kernel
theorem lc_fil {α : Type} {i : Nat} {tt : XT} {te : XE'} {r0 : Rho} {μ : Mu} (e : α → D) (b : α → Bool) (f : α → D) {xs : List α}
    (h1 : ∀ x ∈ xs, ∀ acc, tt (r0.set i (some (e x))) (μ ++ [.lst acc]) = .ok (b x) (μ ++ [.lst acc]))
    (h2 : ∀ x ∈ xs, b x = true → ∀ acc, te (r0.set i (some (e x))) (μ ++ [.lst acc]) = .ok (f x) (μ ++ [.lst acc]))
    (h3 : ∀ x ∈ xs, b x = true → (f x).inB μ.length = true) (hl : xs.length ≤ sizeLine) :
    lcD (gNm i) tt te r0 (xs.map e) μ = .ok (.lst ((xs.filter b).map f)) μ := by
  have go : ∀ (ys : List α) (acc : List D), (∀ y ∈ ys, y ∈ xs) → acc.length + ys.length ≤ sizeLine → lcF (gNm i) tt te μ.length r0 (ys.map e) (μ ++ [.lst acc]) = .ok () (μ ++ [.lst (acc ++ (ys.filter b).map f)]) := fun ys => by
    induction ys with
    | nil => intro acc _ _; simp [lcF]
    | cons y ys ih =>
      intro acc hm hl
      rw [List.length_cons] at hl
      have hy := hm y (List.mem_cons_self ..)
      rw [List.map_cons, lcF]
      simp only [gNm, Out.ne, Out.bind, h1 y hy acc]
      cases hb : b y
      · simp only [Bool.false_eq_true, if_false, List.filter_cons, hb]
        exact ih acc (fun z hz => hm z (List.mem_cons_of_mem _ hz)) (by omega)
      · have e : pushD μ.length (f y) (μ ++ [.lst acc]) = .ok () (μ ++ [.lst (acc ++ [f y])]) := by
          unfold pushD
          rw [List.getElem?_append_right (Nat.le_refl _), Nat.sub_self]
          simp only [List.getElem?_cons_zero]
          rw [if_pos ⟨h3 y hy hb, by omega⟩, List.set_append_right _ _ (Nat.le_refl _), Nat.sub_self]
          rfl
        simp only [if_true, List.filter_cons, hb, h2 y hy hb acc, e]
        rw [ih (acc ++ [f y]) (fun z hz => hm z (List.mem_cons_of_mem _ hz)) (by rw [List.length_append]; simp; omega)]
        simp
  unfold lcD
  rw [go xs [] (fun _ h => h) (by simpa using hl)]
  simp [Out.bind, lcEnd]
theorem inL_map {α : Type} (f : α → D) (n : Nat) (xs : List α) (h : ∀ x ∈ xs, (f x).inB n = true) : D.inL n (xs.map f) = true := by
  induction xs with
  | nil => rfl
  | cons x r ih => rw [List.map_cons, D.inL, h x (List.mem_cons_self ..), ih fun y hy => h y (List.mem_cons_of_mem _ hy)]; rfl
theorem rText_len {r : List Cl} (h : ROk r) : (rText r).length ≤ 200 := by
  have h1 := join_len "; " (r.map Cl.text)
  have h2 := sum_len h.ok
  have h3 := h.len
  rw [List.length_map] at h1
  have e : ("; " : Str).length = 2 := by decide +kernel
  rw [e] at h1
  show (Txt.join "; " (r.map Cl.text)).length ≤ 200
  omega
theorem any_no {α : Type} (xs : List α) : (xs.any fun _ => false) = false := by
  induction xs <;> simp_all
theorem read_clauses {r : List Cl} (h : ROk r) (μ : Mu) : F_read_clauses [.str (rText r)] μ = .ok (.lst (r.map Cl.obj)) μ := by
  have hl : r.length ≤ sizeLine := Nat.le_trans h.len (by decide)
  have hs : splitF [.str (rText r), .str "; "] μ = .ok (.lst (r.map fun c => .str c.text)) μ := by
    have := rText_len h
    unfold splitF
    simp only
    rw [if_pos ⟨by decide +kernel, by unfold sizeLine; omega⟩, split_r h, List.map_map]
    rfl
  have e1 : ∀ r0 : Rho, 5 < r0.length → lcD (gNm 5) xYes (xCall F_read_clause (xaCons (xVar 5) xaNil)) r0 (r.map fun c => .str c.text) μ = .ok (.lst (r.map Cl.obj)) μ := fun r0 h5 =>
    lc_map _ _ (fun c hc acc => by
      simp only [AP, AV, AB, List.getElem?_set_self h5]
      exact (h.ok c hc).read _) (fun c _ => c.obj_in _) hl
  have e2 : ∀ r0 : Rho, 4 < r0.length → lcD (gNm 4) xYes (xOp isD (xVar 4) (xC D.non)) r0 (r.map Cl.obj) μ = .ok (.lst (r.map fun c => .bl false)) μ := fun r0 h5 =>
    lc_map _ _ (fun c hc acc => by
      simp only [AP, AV, AB, List.getElem?_set_self h5, OI]
      rfl) (fun c _ => rfl) hl
  have e3 : ∀ r0 : Rho, 4 < r0.length → lcD (gNm 4) (xTest (xOp eqD (xFld "Clause" "word" (xVar 4)) (xC (D.str "call")))) (xVar 4) r0 (r.map Cl.obj) μ = .ok (.lst ((r.filter fun c => decide (c.w = 3)).map Cl.obj)) μ := fun r0 h5 =>
    lc_fil _ _ _ (fun c hc acc => by
      simp only [AP, AV, AB, List.getElem?_set_self h5, Cl.fld_word, EQ, word_call _ (h.ok c hc).w]) (fun c hc _ acc => by
      simp only [AP, AV, AB, List.getElem?_set_self h5]) (fun c _ _ => c.obj_in _) hl
  have e4 : ¬(0 < (r.filter fun c => decide (c.w = 3)).length ∧ (r.filter fun c => decide (c.w = 3)).length < r.length) := by
    rcases h.calls with q | q
    · rw [List.filter_eq_self.mpr fun c hc => by simpa using q c hc]
      omega
    · rw [List.filter_eq_nil_iff.mpr fun c hc => by simpa using q c hc]
      simp
  have hx : exitD μ.length (.lst (r.map Cl.obj)) μ = .ok (.lst (r.map Cl.obj)) μ := by
    rw [exit_in (by rw [D.inB]; exact inL_map _ _ _ fun c _ => c.obj_in _), List.take_length]
  have lp : ∀ (calls : D) (d5 d6 : Option D), ∃ r', loopF (gTp 2 (gsCons (gNm 3) (gsCons (gNm 4) gsNil))) (sIf (xTest (xCall anyF (xaCons (xLc (xiSeq (xSl (xVar 1) xoN (xoS (xVar 3)))) [6] (gNm 6) xYes (xCall F_meet (xaCons (xVar 4) (xaCons (xVar 6) xaNil)))) xaNil))) (sRet (xC D.non)) sNil) (enumL 0 (r.map Cl.obj)) [some (.str (rText r)), some (.lst (r.map Cl.obj)), some calls, none, none, none, none] μ = .next r' μ ∧ ∃ a b, r' = [some (.str (rText r)), some (.lst (r.map Cl.obj)), some calls, a, b, none, none] := fun calls d5 d6 => by
    refine loop_keep (fun r' => ∃ a b, r' = [some (.str (rText r)), some (.lst (r.map Cl.obj)), some calls, a, b, none, none]) ⟨none, none, rfl⟩ fun x hx ρ hρ => ?_
    obtain ⟨a, b, rfl⟩ := hρ
    obtain ⟨k, y, h1, rfl⟩ := mem_enum hx
    rw [List.getElem?_map] at h1
    cases hc : r[k]? with
    | none => rw [hc] at h1; cases h1
    | some c =>
      rw [hc] at h1
      cases h1
      have hk : k < r.length := (List.getElem?_eq_some_iff.mp hc).1
      refine ⟨[some (.str (rText r)), some (.lst (r.map Cl.obj)), some calls, some (.int ((0 + k : Nat) : Int)), some c.obj, none, none], [some (.str (rText r)), some (.lst (r.map Cl.obj)), some calls, some (.int ((0 + k : Nat) : Int)), some c.obj, none, none], by simp only [AP, AB, LS, List.length, Nat.reduceAdd, if_true], ?_, ⟨_, _, rfl⟩⟩
      have e5 : lcD (gNm 6) xYes (xCall F_meet (xaCons (xVar 4) (xaCons (xVar 6) xaNil))) [some (.str (rText r)), some (.lst (r.map Cl.obj)), some calls, some (.int ((0 + k : Nat) : Int)), some c.obj, none, none] ((r.take k).map Cl.obj) μ = .ok (.lst ((r.take k).map fun o => .bl (!((c.step : Int) == o.step) || ((c.rest : Int) == o.rest)))) μ :=
        lc_map _ _ (fun o ho acc => by simp only [AP, AV, AB, LS, meet_ok]) (fun _ _ => rfl) (by rw [List.length_take]; exact Nat.le_trans (Nat.min_le_right _ _) hl)
      simp only [AP, AV, AB, LS, OI, wipeR, Nat.zero_add] at e5 ⊢
      rw [cut_to _ _ (by rw [List.length_map]; omega), ← List.map_take, e5]
      simp only [AB, any_map]
      have hf : ((r.take k).any fun o => !((c.step : Int) == o.step) || ((c.rest : Int) == o.rest)) = false := by
        rw [List.any_eq_false]
        intro o ho
        obtain ⟨j, hj⟩ := List.getElem?_of_mem ho
        rw [List.getElem?_take] at hj
        split at hj
        · rename_i hjk
          have q := List.pairwise_iff_getElem.mp h.apart j k (by omega) hk hjk
          rw [List.getElem?_eq_getElem (by omega)] at hj hc
          cases hj
          cases hc
          have q1 := q.1
          have q2 := q.2
          simp only [Bool.or_eq_true, Bool.not_eq_true', beq_eq_false_iff_ne, beq_iff_eq, not_or]
          omega
        · cases hj
      rw [hf]
      rfl
  obtain ⟨r', l1, a, b, rfl⟩ := lp (.lst ((r.filter fun c : Cl => decide (c.w = 3)).map Cl.obj)) none none
  have e4' : (decide ((0 : Int) < ((r.filter fun c : Cl => decide (c.w = 3)).length : Int)) && decide (((r.filter fun c : Cl => decide (c.w = 3)).length : Int) < (r.length : Int))) = false := by
    rw [Bool.and_eq_false_iff, decide_eq_false_iff_not, decide_eq_false_iff_not]
    omega
  have e6 : decide ((3 : Int) < (r.length : Int)) = false := by
    rw [decide_eq_false_iff_not]
    have := h.len
    omega
  simp only [F_read_clauses, B_read_clauses, fn_ap, rho0, List.map, List.replicate, List.length, Nat.reduceSub, Nat.reduceAdd, List.cons_append, List.nil_append, AP, AV, AB, LS, wipeR, TY, hs, if_true, Bool.not_true, Bool.false_eq_true, if_false, OI, e1, e2, e3, Nat.reduceLT, any_map, List.length_map, e6, any_no]
  by_cases q : 0 < (r.filter fun c : Cl => decide (c.w = 3)).length
  · have q2 : ¬ (r.filter fun c : Cl => decide (c.w = 3)).length < r.length := fun z => e4 ⟨q, z⟩
    simp only [decide_eq_true (show (0 : Int) < ((r.filter fun c : Cl => decide (c.w = 3)).length : Int) by omega), decide_eq_false (show ¬ ((r.filter fun c : Cl => decide (c.w = 3)).length : Int) < (r.length : Int) by omega), if_true, AB, Bool.false_eq_true, if_false, OI, l1, LS, hx, Bool.and_false]
  · simp only [decide_eq_false (show ¬ (0 : Int) < ((r.filter fun c : Cl => decide (c.w = 3)).length : Int) by omega), if_true, AB, Bool.false_eq_true, if_false, OI, l1, LS, hx, Bool.and_false]

/-! ### goals, plans -/
inductive Gl where
  | all | before | last (n : Nat)
def Gl.Ok : Gl → Prop
  | .last n => 1 ≤ n ∧ n ≤ 4
  | _ => True
def Gl.dat : Gl → D
  | .all => .tup [.str "all", .int 0]
  | .before => .tup [.str "before", .int 0]
  | .last n => .tup [.str "last", .int n]
def Gl.text : Gl → Str
  | .all => "all"
  | .before => "before"
  | .last n => "last " ++ digS n
def Gl.read : Gl → D
  | .all => .tup [.str "all", .non]
  | .before => .tup [.str "before", .non]
  | .last n => .tup [.str "last", .int n]
def chkG (g : Gl) : Bool := okIs (F__law_goal_text [g.dat] []) (.str g.text) && okIs (F_read_goal [.str g.text] []) g.read
theorem chkG1 : chkG .all = true := by decide +kernel
theorem chkG2 : chkG .before = true := by decide +kernel
theorem chkG3 : ∀ n < 4, chkG (.last (n + 1)) = true := by decide +kernel
theorem Gl.Ok.chk {g : Gl} (h : g.Ok) : chkG g = true := by
  cases g with
  | all => exact chkG1
  | before => exact chkG2
  | last n =>
    have q := chkG3 (n - 1) (by have := h.1; have := h.2; omega)
    rw [Nat.sub_add_cancel h.1] at q
    exact q
theorem Gl.dat_in (g : Gl) (n : Nat) : g.dat.inB n = true := by cases g <;> rfl
theorem Gl.Ok.text {g : Gl} (h : g.Ok) (μ : Mu) : F__law_goal_text [g.dat] μ = .ok (.str g.text) μ := by
  have q := h.chk
  unfold chkG at q
  rw [Bool.and_eq_true] at q
  exact fr_F__law_goal_text.is (by simp [D.inL, g.dat_in]) q.1 μ
theorem Gl.Ok.read {g : Gl} (h : g.Ok) (μ : Mu) : F_read_goal [.str g.text] μ = .ok g.read μ := by
  have q := h.chk
  unfold chkG at q
  rw [Bool.and_eq_true] at q
  exact fr_F_read_goal.is rfl q.2 μ
theorem is_name_ok {g : Nat} (h : g < 9) (μ : Mu) : F_is_name [.str (nmS g)] μ = .ok (.bl true) μ := fr_F_is_name.is rfl (chkN g h) μ
theorem is_integer_ok (i : Int) (μ : Mu) : F_is_integer [.int i] μ = .ok (.bl true) μ := by
  simp only [F_is_integer, B_is_integer, fn_ap, rho0, List.map, List.replicate, List.length, Nat.reduceSub, Nat.reduceAdd, List.cons_append, List.nil_append, AP, AV, AB, LS, TY, if_true, Bool.not_false, exit_bl, List.take_length, Bool.false_eq_true, if_false]
theorem is_between_ok (i a b : Int) (μ : Mu) : F_is_between [.int i, .int a, .int b] μ = .ok (.bl (decide (a ≤ i) && decide (i ≤ b))) μ := by
  simp only [F_is_between, B_is_between, fn_ap, rho0, List.map, List.replicate, List.length, Nat.reduceSub, Nat.reduceAdd, List.cons_append, List.nil_append, AP, AV, AB, LS, is_integer_ok, OI, if_true, exit_bl, List.take_length, Bool.false_eq_true, if_false]
  by_cases h : a ≤ i
  · simp only [decide_eq_true h, if_true, OI, exit_bl, List.take_length, Bool.true_and, AB]
  · simp only [decide_eq_false h, Bool.false_eq_true, if_false, exit_bl, List.take_length, Bool.false_and, AB]
structure Pl where
  nm : Nat
  goal : Gl
  base : Nat
  rounds : List (List Cl)
def Pl.dat (p : Pl) : D := .lst [.str (nmS p.nm), p.goal.dat, .int p.base, .lst (p.rounds.map fun r => .lst (r.map Cl.dat))]
def Pl.parts (p : Pl) : D := .tup [.str (nmS p.nm), .str p.goal.text, .int p.base, .tup (p.rounds.map fun r => .str (rText r))]
def Pl.prog (p : Pl) : D := .lst (p.rounds.map fun r => .lst (r.map Cl.obj))
structure Pl.Ok (p : Pl) : Prop where
  nm : p.nm < 9
  goal : p.goal.Ok
  base0 : 1 ≤ p.base
  base : p.base ≤ 4
  len0 : 0 < p.rounds.length
  len : p.rounds.length ≤ 5
  ok : ∀ r ∈ p.rounds, ROk r
theorem Pl.dat_in (p : Pl) (n : Nat) : p.dat.inB n = true := by
  simp only [Pl.dat, D.inB, D.inL, Gl.dat_in, Bool.true_and, Bool.and_true]
  exact inL_map _ _ _ fun r _ => by rw [D.inB]; exact inL_map _ _ _ fun c _ => c.dat_in _
theorem Pl.parts_in (p : Pl) (n : Nat) : p.parts.inB n = true := by
  simp only [Pl.parts, D.inB, D.inL, Bool.true_and, Bool.and_true]
  exact inL_map _ _ _ fun r _ => rfl
theorem Pl.prog_in (p : Pl) (n : Nat) : p.prog.inB n = true := by
  simp only [Pl.prog, D.inB, D.inL, Bool.true_and, Bool.and_true]
  exact inL_map _ _ _ fun r _ => by rw [D.inB]; exact inL_map _ _ _ fun c _ => c.obj_in _
theorem join_ok {r : List Cl} (h : ROk r) (μ : Mu) : joinF [.str "; ", .lst (r.map fun c => .str c.text)] μ = .ok (.str (rText r)) μ := by
  have h1 := sum_len h.ok
  have h2 := h.len
  have e : ("; " : Str).length = 2 := by decide +kernel
  have q := strs_map (r.map Cl.text)
  rw [List.map_map] at q
  unfold joinF
  simp only [seqOf, lstOf]
  rw [show (r.map fun c => D.str c.text) = r.map (D.str ∘ Cl.text) from rfl, q]
  simp only
  rw [if_pos (by rw [List.length_map, e]; omega)]
  rfl
theorem IX : (∀ {x : D} {xs : List D} {m : Mu}, ixD (.lst (x :: xs)) (.int 0) m = .ok x m) ∧ (∀ {x y : D} {xs : List D} {m : Mu}, ixD (.lst (x :: y :: xs)) (.int 1) m = .ok y m) ∧ (∀ {x y z : D} {xs : List D} {m : Mu}, ixD (.lst (x :: y :: z :: xs)) (.int 2) m = .ok z m) ∧ (∀ {x y z w : D} {xs : List D} {m : Mu}, ixD (.lst (x :: y :: z :: w :: xs)) (.int 3) m = .ok w m) ∧
  (∀ {x : D} {xs : List D} {m : Mu}, ixD (.tup (x :: xs)) (.int 0) m = .ok x m) ∧ (∀ {x y : D} {xs : List D} {m : Mu}, ixD (.tup (x :: y :: xs)) (.int 1) m = .ok y m) ∧ (∀ {x y z : D} {xs : List D} {m : Mu}, ixD (.tup (x :: y :: z :: xs)) (.int 2) m = .ok z m) ∧ (∀ {x y z w : D} {xs : List D} {m : Mu}, ixD (.tup (x :: y :: z :: w :: xs)) (.int 3) m = .ok w m) := by
  have lt : ∀ {x : D} {xs : List D} {i : Nat} {y : D}, xs[i]? = some y → ∀ m, ixD (.lst xs) (.int (i : Int)) m = .ok y m := fun {x xs i y} h m => by
    unfold ixD
    simp only [lstOf, ix_at i xs y h]
  have tp : ∀ {x : D} {xs : List D} {i : Nat} {y : D}, xs[i]? = some y → ∀ m, ixD (.tup xs) (.int (i : Int)) m = .ok y m := fun {x xs i y} h m => by
    unfold ixD
    simp only [ix_at i xs y h]
  refine ⟨?_, ?_, ?_, ?_, ?_, ?_, ?_, ?_⟩ <;> intros
  · exact lt (x := .non) (i := 0) rfl _
  · exact lt (x := .non) (i := 1) rfl _
  · exact lt (x := .non) (i := 2) rfl _
  · exact lt (x := .non) (i := 3) rfl _
  · exact tp (x := .non) (i := 0) rfl _
  · exact tp (x := .non) (i := 1) rfl _
  · exact tp (x := .non) (i := 2) rfl _
  · exact tp (x := .non) (i := 3) rfl _
theorem parts_ok {p : Pl} (h : p.Ok) (μ : Mu) : F__law_parts [p.dat] μ = .ok p.parts μ := by
  have hl : p.rounds.length ≤ sizeLine := Nat.le_trans h.len (by decide)
  have e0 : ∀ (ν : Mu) (r : List Cl), ROk r → ∀ r0 : Rho, 3 < r0.length → lcD (gNm 3) xYes (xCall F__law_clause_text (xaCons (xVar 3) xaNil)) r0 (r.map Cl.dat) ν = .ok (.lst (r.map fun c => .str c.text)) ν := fun ν r hr r0 h5 =>
    lc_map _ _ (fun c hc acc => by
      simp only [AP, AV, AB, List.getElem?_set_self h5]
      exact (hr.ok c hc).text _) (fun c _ => rfl) (Nat.le_trans hr.len (by decide))
  have e1 : lcD (gNm 2) xYes (xBM "str" joinF (xC (.str "; ")) (xaCons (xLc (xiSeq (xVar 2)) [3] (gNm 3) xYes (xCall F__law_clause_text (xaCons (xVar 3) xaNil))) xaNil)) [some p.dat, none, none, none] (p.rounds.map fun r => .lst (r.map Cl.dat)) μ = .ok (.lst (p.rounds.map fun r => .str (rText r))) μ :=
    lc_map _ _ (fun r hr acc => by
      simp only [AP, AV, AB, LS, TY, if_true, wipeR, e0 _ r (h.ok r hr), List.length, Nat.reduceAdd, Nat.reduceLT, join_ok (h.ok r hr)]) (fun c _ => rfl) hl
  have hx : exitD μ.length p.parts μ = .ok p.parts μ := by rw [exit_in (p.parts_in _), List.take_length]
  unfold Pl.dat at e1 ⊢
  unfold Pl.parts at hx ⊢
  simp only [F__law_parts, B__law_parts, fn_ap, rho0, List.map, List.replicate, List.length, Nat.reduceSub, Nat.reduceAdd, List.cons_append, List.nil_append, AP, AV, AB, LS, wipeR, IX, e1, OI, h.goal.text, Bool.false_eq_true, if_false, hx]
end J

namespace J
open PySem PySem.Spec PyProof.Rows L2 DS
theorem nmS_eq : ∀ a < 9, ∀ b < 9, (nmS a == nmS b) = decide (a = b) := by decide +kernel
def nmD (a : Nat) : D := .str (nmS a)
theorem any_nm {g : Nat} (hg : g < 9) : ∀ {ns : List Nat}, (∀ n ∈ ns, n < 9) → ((ns.map nmD).any fun y => eqF y (.str (nmS g))) = decide (g ∈ ns)
  | [], _ => by simp
  | n :: ns, h => by
    rw [List.map_cons, List.any_cons, any_nm hg fun x hx => h x (List.mem_cons_of_mem _ hx)]
    show (nmS n == nmS g || _) = _
    rw [nmS_eq n (h n (List.mem_cons_self ..)) g hg]
    by_cases e : n = g
    · subst e; simp
    · by_cases e2 : g ∈ ns <;> simp [e, e2, Ne.symm e, Ne.symm (Ne.symm e)] <;> omega
theorem flat_nm (ns : List Nat) : (ns.map nmD).all flatD = true := by
  rw [List.all_map, List.all_eq_true]
  intros
  rfl
theorem in_lst {g : Nat} (hg : g < 9) {ns : List Nat} (h : ∀ n ∈ ns, n < 9) (m : Mu) : DS.inB m (.str (nmS g)) (.lst (ns.map nmD)) = some (decide (g ∈ ns)) := by
  show (if flatD (.str (nmS g)) && (ns.map nmD).all flatD then some ((ns.map nmD).any fun y => eqF y (.str (nmS g))) else none) = _
  rw [flat_nm, any_nm hg h]
  rfl
theorem in_loc {g n : Nat} (hg : g < 9) {ns : List Nat} (h : ∀ n ∈ ns, n < 9) {m : Mu} (hm : m[n]? = some (.lst (ns.map nmD))) : DS.inB m (.str (nmS g)) (.loc n) = some (decide (g ∈ ns)) := by
  show (match lstOf m (.loc n) with
    | some xs => if flatD (.str (nmS g)) && xs.all flatD then some (xs.any fun y => eqF y (.str (nmS g))) else none
    | none => none) = _
  rw [show lstOf m (.loc n) = some (ns.map nmD) by unfold lstOf; simp only [hm]]
  show (if flatD (.str (nmS g)) && (ns.map nmD).all flatD then some ((ns.map nmD).any fun y => eqF y (.str (nmS g))) else none) = _
  rw [flat_nm, any_nm hg h]
  rfl
/-- which calls may stand in the round of a plan -/
def Calls (names above : List Nat) (r : List Cl) : Prop := ∀ c ∈ r, c.w = 3 → c.goal ∈ names ∧ (c.step = 1 → c.goal ∉ above)
theorem read_round {r : List Cl} (h : ROk r) {names above : List Nat} (hn : ∀ n ∈ names, n < 9) (ha : ∀ n ∈ above, n < 9) (hc : Calls names above r) {n : Nat} {μ : Mu} (hm : μ[n]? = some (.lst (names.map nmD))) :
    F_read_round [.str (rText r), .loc n, .lst (above.map nmD)] μ = .ok (.lst (r.map Cl.obj)) μ := by
  have hx : exitD μ.length (.lst (r.map Cl.obj)) μ = .ok (.lst (r.map Cl.obj)) μ := by
    rw [exit_in (by rw [D.inB]; exact inL_map _ _ _ fun c _ => c.obj_in _), List.take_length]
  have lp : ∃ r', loopF (gNm 4) (sIf (xAndT (xTest (xOp eqD (xFld "Clause" "word" (xVar 4)) (xC (.str "call")))) (xOrT (xTest (xOp ninD (xFld "Clause" "goal" (xVar 4)) (xVar 1))) (xAndT (xTest (xOp eqD (xFld "Clause" "step" (xVar 4)) (xC (.int 1)))) (xTest (xOp inD (xFld "Clause" "goal" (xVar 4)) (xVar 2)))))) (sRet (xC .non)) sNil)
      (r.map Cl.obj) [some (.str (rText r)), some (.loc n), some (.lst (above.map nmD)), some (.lst (r.map Cl.obj)), none] μ = .next r' μ ∧ ∃ a, r' = [some (.str (rText r)), some (.loc n), some (.lst (above.map nmD)), some (.lst (r.map Cl.obj)), a] := by
    refine loop_keep (fun r' => ∃ a, r' = [some (.str (rText r)), some (.loc n), some (.lst (above.map nmD)), some (.lst (r.map Cl.obj)), a]) ⟨none, rfl⟩ fun x hx ρ hρ => ?_
    obtain ⟨a, rfl⟩ := hρ
    obtain ⟨c, hcm, rfl⟩ := List.mem_map.mp hx
    have ok := h.ok c hcm
    refine ⟨[some (.str (rText r)), some (.loc n), some (.lst (above.map nmD)), some (.lst (r.map Cl.obj)), some c.obj], [some (.str (rText r)), some (.loc n), some (.lst (above.map nmD)), some (.lst (r.map Cl.obj)), some c.obj], by simp only [AP, LS], ?_, ⟨_, rfl⟩⟩
    simp only [AP, AV, AB, LS, Cl.fld_word, Cl.fld_goal, Cl.fld_step, word_call _ ok.w, EQ]
    by_cases hw : c.w = 3
    · obtain ⟨c1, c2⟩ := hc c hcm hw
      simp only [hw, decide_true, if_true, ninD, inD, in_loc ok.goal hn hm, c1, Bool.not_true, AB, Bool.false_eq_true, if_false]
      by_cases hs : c.step = 1
      · simp only [hs, Int.natCast_one, beq_self_eq_true, if_true, in_lst ok.goal ha, c2 hs, decide_false, AB, Bool.false_eq_true, if_false]
      · have e : ((c.step : Int) == 1) = false := by simp; omega
        simp only [e, AB, Bool.false_eq_true, if_false]
    · simp only [hw, decide_false, Bool.false_eq_true, if_false, AB]
  obtain ⟨r', l1, a, rfl⟩ := lp
  simp only [F_read_round, B_read_round, fn_ap, rho0, List.map, List.replicate, List.length, Nat.reduceSub, Nat.reduceAdd, List.cons_append, List.nil_append, AP, AV, AB, LS, read_clauses h, OI, isNonD, Bool.false_eq_true, if_false, l1, hx]
theorem is_plan_ok {p : Pl} (h : p.Ok) (μ : Mu) : F_is_plan [p.parts] μ = .ok (.bl true) μ := by
  have hl : p.rounds.length ≤ sizeLine := Nat.le_trans h.len (by decide)
  have e1 : ∀ r0 : Rho, 5 < r0.length → lcD (gNm 5) xYes (xOp isntD (xCall F_read_clauses (xaCons (xVar 5) xaNil)) (xC .non)) r0 (p.rounds.map fun r => .str (rText r)) μ = .ok (.lst (p.rounds.map fun _ => .bl true)) μ := fun r0 h5 =>
    lc_map _ _ (fun r hr acc => by
      simp only [AP, AV, AB, List.getElem?_set_self h5, read_clauses (h.ok r hr), OI]
      rfl) (fun c _ => rfl) hl
  have b1 : (decide ((1 : Int) ≤ (p.base : Int)) && decide ((p.base : Int) ≤ 4)) = true := by
    have := h.base0
    have := h.base
    simp
    omega
  have b2 : decide ((0 : Int) < (p.rounds.length : Int)) = true := by
    have := h.len0
    simp
    omega
  have b3 : decide ((p.rounds.length : Int) ≤ 5) = true := by
    have := h.len
    simp
    omega
  have g1 : isNonD p.goal.read = false := by cases p.goal <;> rfl
  have al : (p.rounds.all fun _ => true) = true := by simp
  unfold Pl.parts
  simp only [F_is_plan, B_is_plan, fn_ap, rho0, List.map, List.replicate, List.length, Nat.reduceSub, Nat.reduceAdd, List.cons_append, List.nil_append, AP, AV, AB, LS, wipeR, TY, OI, Bool.not_true, Bool.false_eq_true, if_false, if_true, EQ, is_name_ok h.nm, h.goal.read, is_between_ok, List.length_map, b1, b2, b3, e1, Nat.reduceLT, all_map, g1, al, exit_bl, List.take_length, show (((4 : Nat) : Int) == 4) = true from rfl]
theorem loop_inv {g : XG} {body : XS} (I : Nat → Rho → Mu → Prop) : ∀ {xs : List D} {k : Nat} {r : Rho} {m : Mu}, I k r m → (∀ i x r m, xs[i]? = some x → I (k + i) r m → ∃ r1 m1 r2 m2, g x r m = .ok r1 m1 ∧ body r1 m1 = .next r2 m2 ∧ I (k + i + 1) r2 m2) → ∃ r' m', loopF g body xs r m = .next r' m' ∧ I (k + xs.length) r' m'
  | [], k, r, m, h, _ => ⟨r, m, rfl, h⟩
  | x :: xs, k, r, m, h, hs => by
    obtain ⟨r1, m1, r2, m2, h1, h2, h3⟩ := hs 0 x r m rfl h
    obtain ⟨r', m', h4, h5⟩ := loop_inv I (k := k + 1) h3 fun i y r m hy hi => by
      have := hs (i + 1) y r m hy (by rw [show k + (i + 1) = k + 1 + i by omega]; exact hi)
      rw [show k + (i + 1) + 1 = k + 1 + i + 1 by omega] at this
      exact this
    refine ⟨r', m', ?_, by rw [List.length_cons, show k + (xs.length + 1) = k + 1 + xs.length by omega]; exact h5⟩
    rw [loopF, h1]
    simp only [AB, h2]
    exact h4
theorem enum_get : ∀ {xs : List D} {b i : Nat}, (enumL b xs)[i]? = (xs[i]?).map fun y => .tup [.int ((b + i : Nat) : Int), y]
  | [], b, i => by simp [enumL]
  | x :: xs, b, 0 => rfl
  | x :: xs, b, i + 1 => by
    rw [enumL, List.getElem?_cons_succ, List.getElem?_cons_succ, enum_get, show b + 1 + i = b + (i + 1) by omega]
/-! ### books -/
structure SOk (sk : List Pl) : Prop where
  len0 : 0 < sk.length
  len : sk.length ≤ 4
  ok : ∀ p ∈ sk, p.Ok
  apart : (sk.map Pl.nm).Nodup
  calls : ∀ (i : Nat) (p : Pl), sk[i]? = some p → ∀ r ∈ p.rounds, Calls (sk.map Pl.nm) ((sk.map Pl.nm).take (i + 1)) r
def heldD (sk : List Pl) : D := .tup (sk.map Pl.parts)
theorem heldD_in (sk : List Pl) (n : Nat) : (heldD sk).inB n = true := by
  rw [heldD, D.inB]
  exact inL_map _ _ _ fun p _ => p.parts_in _
theorem SOk.nm {sk : List Pl} (h : SOk sk) : ∀ n ∈ sk.map Pl.nm, n < 9 := fun n hn => by
  obtain ⟨p, hp, rfl⟩ := List.mem_map.mp hn
  exact (h.ok p hp).nm
theorem first_invalid0 {sk : List Pl} (h : SOk sk) : F_first_invalid [heldD sk] [] = .ok .non [] := by
  let names := sk.map Pl.nm
  have hn : ∀ n ∈ names, n < 9 := h.nm
  have hlen : names.length = sk.length := List.length_map ..
  -- the names
  have l1 : ∃ r' m', loopF (gTp 2 (gsCons (gNm 2) (gsCons (gNm 3) gsNil))) (sSeq (sIf (xOrT (xTest (xOp eqD (xVar 2) (xC (.int 4)))) (xOrT (xNotT (xTest (xCall F_is_plan (xaCons (xVar 3) xaNil)))) (xTest (xOp inD (xOp ixD (xVar 3) (xC (.int 0))) (xVar 1))))) (sRet (xVar 2)) sNil)
      (sExpr (xBM "list" appF (xVar 1) (xaCons (xOp ixD (xVar 3) (xC (.int 0))) xaNil)))) (enumL 0 (sk.map Pl.parts)) [some (heldD sk), some (.loc 0), none, none, none] [.lst []] = .next r' m' ∧ ((∃ a b, r' = [some (heldD sk), some (.loc 0), a, b, none]) ∧ m' = [.lst ((names.take (0 + (enumL 0 (sk.map Pl.parts)).length)).map nmD)]) := by
    refine loop_inv (fun k r m => (∃ a b, r = [some (heldD sk), some (.loc 0), a, b, none]) ∧ m = [.lst ((names.take k).map nmD)]) ⟨⟨_, _, rfl⟩, rfl⟩ fun i x r m hx hi => ?_
    obtain ⟨⟨a, b, rfl⟩, rfl⟩ := hi
    rw [enum_get, List.getElem?_map] at hx
    cases hp : sk[i]? with
    | none => rw [hp] at hx; cases hx
    | some p =>
      rw [hp] at hx
      cases hx
      have hil : i < sk.length := (List.getElem?_eq_some_iff.mp hp).1
      have hpm : p ∈ sk := List.mem_of_getElem? hp
      have hnk : names[i]? = some p.nm := by
        show (sk.map Pl.nm)[i]? = _
        rw [List.getElem?_map, hp]
        rfl
      have hnot : p.nm ∉ names.take i := fun hm => by
        obtain ⟨j, hj⟩ := List.getElem?_of_mem hm
        rw [List.getElem?_take] at hj
        split at hj
        · rename_i hji
          have q := List.pairwise_iff_getElem.mp h.apart j i (by rw [List.length_map]; omega) (by rw [List.length_map]; exact hil) hji
          obtain ⟨_, a1⟩ := List.getElem?_eq_some_iff.mp hj
          obtain ⟨_, a2⟩ := List.getElem?_eq_some_iff.mp hnk
          exact q (a1.trans a2.symm)
        · cases hj
      have hlt : ∀ n ∈ names.take i, n < 9 := fun n hm => hn n (List.mem_of_mem_take hm)
      have e4 : (((0 + i : Nat) : Int) == 4) = false := by
        have := h.len
        simp
        omega
      refine ⟨[some (heldD sk), some (.loc 0), some (.int ((0 + i : Nat) : Int)), some p.parts, none], [.lst ((names.take i).map nmD)], [some (heldD sk), some (.loc 0), some (.int ((0 + i : Nat) : Int)), some p.parts, none], [.lst ((names.take (i + 1)).map nmD)], by simp only [AP, AB, LS, List.length, Nat.reduceAdd, if_true, Nat.zero_add], ?_, ⟨⟨_, _, rfl⟩, by rw [Nat.zero_add]⟩⟩
      have hix : ∀ m, ixD p.parts (.int 0) m = .ok (.str (nmS p.nm)) m := fun m => IX.2.2.2.2.1
      have hap : appF [.loc 0, .str (nmS p.nm)] [.lst ((names.take i).map nmD)] = .ok .non [.lst ((names.take (i + 1)).map nmD)] := by
        have hl4 := h.len
        have : ((names.take i).map nmD).length < sizeLine := by
          rw [List.length_map, List.length_take, hlen]
          unfold sizeLine
          omega
        show (pushD 0 (.str (nmS p.nm)) _).bind _ = _
        unfold pushD
        simp only [LS]
        rw [if_pos ⟨rfl, this⟩]
        simp only [AB, LS]
        have e : names.take (i + 1) = names.take i ++ [p.nm] := by rw [List.take_succ, hnk]; rfl
        rw [e, List.map_append]
        rfl
      simp only [AP, AV, AB, LS, EQ, e4, Bool.false_eq_true, if_false, is_plan_ok (h.ok p hpm), Bool.not_true, hix, inD, in_loc (h.ok p hpm).nm hlt (show [Cell.lst ((names.take i).map nmD)][0]? = some (.lst ((names.take i).map nmD)) from rfl), hnot, decide_false]
      rw [if_pos (show tyD "list" [Cell.lst ((names.take i).map nmD)] (.loc 0) = true from rfl), hap]
      rfl
  -- the rounds
  have l2 : ∀ a b, ∃ r', loopF (gTp 2 (gsCons (gNm 2) (gsCons (gNm 3) gsNil))) (sIf (xTest (xCall anyF (xaCons (xLc (xiSeq (xOp ixD (xVar 3) (xC (.int 3)))) [4] (gNm 4) xYes (xOp isD (xCall F_read_round (xaCons (xVar 4) (xaCons (xVar 1) (xaCons (xSl (xVar 1) xoN (xoS (xOp addD (xVar 2) (xC (.int 1))))) xaNil)))) (xC .non))) xaNil))) (sRet (xVar 2)) sNil)
      (enumL 0 (sk.map Pl.parts)) [some (heldD sk), some (.loc 0), a, b, none] [.lst (names.map nmD)] = .next r' [.lst (names.map nmD)] ∧ ∃ a b, r' = [some (heldD sk), some (.loc 0), a, b, none] := fun a b => by
    refine loop_keep (fun r => ∃ a b, r = [some (heldD sk), some (.loc 0), a, b, none]) ⟨_, _, rfl⟩ fun x hx r hr => ?_
    obtain ⟨a, b, rfl⟩ := hr
    obtain ⟨i, y, hy, rfl⟩ := mem_enum hx
    rw [List.getElem?_map] at hy
    cases hp : sk[i]? with
    | none => rw [hp] at hy; cases hy
    | some p =>
      rw [hp] at hy
      cases hy
      have hil : i < sk.length := (List.getElem?_eq_some_iff.mp hp).1
      have hpm : p ∈ sk := List.mem_of_getElem? hp
      have ok := h.ok p hpm
      refine ⟨[some (heldD sk), some (.loc 0), some (.int ((0 + i : Nat) : Int)), some p.parts, none], [some (heldD sk), some (.loc 0), some (.int ((0 + i : Nat) : Int)), some p.parts, none], by simp only [AP, AB, LS, List.length, Nat.reduceAdd, if_true, Nat.zero_add], ?_, ⟨_, _, rfl⟩⟩
      have hix : ∀ m, ixD p.parts (.int 3) m = .ok (.tup (p.rounds.map fun r => .str (rText r))) m := fun m => IX.2.2.2.2.2.2.2
      have e1 : lcD (gNm 4) xYes (xOp isD (xCall F_read_round (xaCons (xVar 4) (xaCons (xVar 1) (xaCons (xSl (xVar 1) xoN (xoS (xOp addD (xVar 2) (xC (.int 1))))) xaNil)))) (xC .non)) [some (heldD sk), some (.loc 0), some (.int ((0 + i : Nat) : Int)), some p.parts, none] (p.rounds.map fun r => .str (rText r)) [.lst (names.map nmD)] = .ok (.lst (p.rounds.map fun _ => .bl false)) [.lst (names.map nmD)] :=
        lc_map (μ := [.lst (names.map nmD)]) _ _ (fun r hr acc => by
          have hsl : slD (.loc 0) none (some (((0 + i : Nat) : Int) + 1)) ([.lst (names.map nmD)] ++ [.lst acc]) = .ok (.lst ((names.take (i + 1)).map nmD)) ([.lst (names.map nmD)] ++ [.lst acc]) := by
            show Out.ok (D.lst (DS.cutD (names.map nmD) none (some (((0 + i : Nat) : Int) + 1)))) _ = _
            rw [show (((0 + i : Nat) : Int) + 1) = ((i + 1 : Nat) : Int) by omega, cut_to _ _ (by rw [List.length_map, hlen]; omega), List.map_take]
          have hrr := read_round (μ := [.lst (names.map nmD)] ++ [.lst acc]) (n := 0) (ok.ok r hr) hn (fun n hm => hn n (List.mem_of_mem_take hm)) (h.calls i p hp r hr) rfl
          simp only [AP, AV, AB, LS, OI, hsl, hrr, isNonD]) (fun _ _ => rfl) (Nat.le_trans ok.len (by decide))
      simp only [AP, AV, AB, LS, hix, wipeR, e1, any_map, any_no, Bool.false_eq_true, if_false]
  obtain ⟨r1, m1, q1, ⟨a, b, rfl⟩, rfl⟩ := l1
  have hfull : names.take (0 + (enumL 0 (sk.map Pl.parts)).length) = names := by
    have : ∀ (b : Nat) (xs : List D), (enumL b xs).length = xs.length := fun b xs => by
      induction xs generalizing b with
      | nil => rfl
      | cons x r ih => rw [enumL, List.length_cons, List.length_cons, ih]
    rw [this, Nat.zero_add, List.length_map, List.take_of_length_le (by rw [hlen]; exact Nat.le_refl _)]
  rw [hfull] at q1
  obtain ⟨r2, q2, a2, b2, rfl⟩ := l2 a b
  simp only [F_first_invalid, B_first_invalid, fn_ap, rho0, List.map, List.replicate, List.length, Nat.reduceSub, Nat.reduceAdd, List.cons_append, List.nil_append, AP, AV, AB, LS, D.inL, if_true, wipeR, show ∀ m, enumD' [heldD sk] m = .ok (enumL 0 (sk.map Pl.parts)) m from fun _ => rfl, q1, q2, Bool.false_eq_true, if_false]
  rfl
theorem first_invalid {sk : List Pl} (h : SOk sk) (μ : Mu) : F_first_invalid [heldD sk] μ = .ok .non μ :=
  fr_F_first_invalid.of (by simp [D.inL, heldD_in]) (first_invalid0 h) rfl μ
theorem dc_map {α : Type} {i : Nat} {tk te : XE'} {r0 : Rho} {μ : Mu} (e : α → D) (kf : α → Str) (f : α → D) {xs : List α}
    (h1 : ∀ x ∈ xs, ∀ acc, tk (r0.set i (some (e x))) (μ ++ [.dct acc]) = .ok (.str (kf x)) (μ ++ [.dct acc]))
    (h2 : ∀ x ∈ xs, ∀ acc, te (r0.set i (some (e x))) (μ ++ [.dct acc]) = .ok (f x) (μ ++ [.dct acc]))
    (h3 : ∀ x ∈ xs, (f x).inB μ.length = true) (hd : xs.Pairwise fun a b => (kf a == kf b) = false) (hl : xs.length < 1000) :
    (dcF (gNm i) tk te μ.length r0 (xs.map e) (μ ++ [.dct []])).bind (fun _ m2 => dcEnd μ.length m2) = .ok (.dct (xs.map fun x => (kf x, f x))) μ := by
  have look : ∀ (y : α) (ys : List α), (∀ z ∈ ys, (kf z == kf y) = false) → (ys.map fun x => (kf x, f x)).lookup (kf y) = none := fun y ys hz => by
    induction ys with
    | nil => rfl
    | cons z r ih =>
      rw [List.map_cons, List.lookup_cons]
      have := hz z (List.mem_cons_self ..)
      rw [show (kf y == kf z) = false by rw [beq_eq_false_iff_ne] at this ⊢; exact Ne.symm this]
      exact ih fun w hw => hz w (List.mem_cons_of_mem _ hw)
  have go : ∀ (ys zs : List α), zs ++ ys = xs → dcF (gNm i) tk te μ.length r0 (ys.map e) (μ ++ [.dct (zs.map fun x => (kf x, f x))]) = .ok () (μ ++ [.dct (xs.map fun x => (kf x, f x))]) := fun ys => by
    induction ys with
    | nil => intro zs hz; rw [List.append_nil] at hz; subst hz; simp [dcF]
    | cons y ys ih =>
      intro zs hz
      have hy : y ∈ xs := by rw [← hz]; simp
      have hlen : zs.length < xs.length := by rw [← hz]; simp
      have e : dputD μ.length (.str (kf y)) (f y) (μ ++ [.dct (zs.map fun x => (kf x, f x))]) = .ok () (μ ++ [.dct ((zs ++ [y]).map fun x => (kf x, f x))]) := by
        unfold dputD
        rw [List.getElem?_append_right (Nat.le_refl _), Nat.sub_self]
        simp only [List.getElem?_cons_zero]
        rw [if_pos ⟨h3 y hy, by rw [List.length_map]; omega, look y zs fun z hz' => by
          rw [← hz] at hd
          exact (List.pairwise_append.mp hd).2.2 z hz' y (List.mem_cons_self ..)⟩, List.set_append_right _ _ (Nat.le_refl _), Nat.sub_self]
        simp
      rw [List.map_cons, dcF]
      simp only [gNm, Out.ne, Out.bind, h1 y hy, h2 y hy, e]
      exact ih (zs ++ [y]) (by rw [← hz]; simp)
  have g0 := go xs [] rfl
  rw [List.map_nil] at g0
  rw [g0]
  simp [Out.bind, dcEnd]
def bookD (sk : List Pl) : D := .obj "Book" [("held", heldD sk), ("parsed", .dct (sk.map fun p => (nmS p.nm, p.prog)))]
theorem inF_map {α : Type} (k : α → Str) (f : α → D) (n : Nat) (xs : List α) (h : ∀ x ∈ xs, (f x).inB n = true) : D.inF n (xs.map fun x => (k x, f x)) = true := by
  induction xs with
  | nil => rfl
  | cons x r ih => rw [List.map_cons, D.inF, h x (List.mem_cons_self ..), ih fun y hy => h y (List.mem_cons_of_mem _ hy)]; rfl
theorem bookD_in (sk : List Pl) (n : Nat) : (bookD sk).inB n = true := by
  simp only [bookD, D.inB, D.inF, heldD_in, Bool.true_and, Bool.and_true]
  exact inF_map _ _ _ _ fun p _ => p.prog_in _
theorem book0 {sk : List Pl} (h : SOk sk) : makeD "Book" F_Book_D_initD_ true [heldD sk] [] = .ok (bookD sk) [] := by
  have hl4 := h.len
  have e0 : ∀ (ν : Mu) (p : Pl), p.Ok → ∀ r0 : Rho, 4 < r0.length → lcD (gNm 4) xYes (xCall F_read_clauses (xaCons (xVar 4) xaNil)) r0 (p.rounds.map fun r => .str (rText r)) ν = .ok p.prog ν := fun ν p hp r0 h5 =>
    lc_map _ _ (fun r hr acc => by
      simp only [AP, AV, AB, List.getElem?_set_self h5, read_clauses (hp.ok r hr)]) (fun r _ => by rw [D.inB]; exact inL_map _ _ _ fun c _ => c.obj_in _) (Nat.le_trans hp.len (by decide))
  have e1 : (dcF (gNm 3) (xOp ixD (xVar 3) (xC (.int 0))) (xLc (xiSeq (xOp ixD (xVar 3) (xC (.int 3)))) [4] (gNm 4) xYes (xCall F_read_clauses (xaCons (xVar 4) xaNil))) 1 [some (.loc 0), some (heldD sk), some .non, none, none] (sk.map Pl.parts) ([.ins "Book" [("held", heldD sk)]] ++ [.dct []])).bind (fun _ m2 => dcEnd 1 m2) = .ok (.dct (sk.map fun p => (nmS p.nm, p.prog))) [.ins "Book" [("held", heldD sk)]] :=
    dc_map (μ := [.ins "Book" [("held", heldD sk)]]) Pl.parts (fun p => nmS p.nm) Pl.prog (fun p hp acc => by
      have hix : ∀ m, ixD p.parts (.int 0) m = .ok (.str (nmS p.nm)) m := fun m => IX.2.2.2.2.1
      simp only [AP, AV, AB, LS, hix]) (fun p hp acc => by
      have hix : ∀ m, ixD p.parts (.int 3) m = .ok (.tup (p.rounds.map fun r => .str (rText r))) m := fun m => IX.2.2.2.2.2.2.2
      simp only [AP, AV, AB, LS, hix, wipeR, e0 _ p (h.ok p hp), List.length, Nat.reduceAdd, Nat.reduceLT]) (fun p _ => p.prog_in _) (by
      have q := h.apart
      rw [List.Nodup, List.pairwise_map] at q
      exact q.imp_of_mem fun {a b} ha hb hab => by rw [nmS_eq _ (h.ok a ha).nm _ (h.ok b hb).nm]; simpa using hab) (by omega)
  have e2 : (((sk.map Pl.parts).length : Int) == 0) = false := by
    have := h.len0
    simp
    intro z
    rw [z] at this
    exact absurd this (Nat.lt_irrefl _)
  have xd : ∀ (f : XA) (vs : List Nat) (g : XG) (tk te : XE') (r : Rho) (m : Mu), xDc f vs g tk te r m = (f r m).bind fun xs m1 => (dcF g tk te m1.length (wipeR r vs) xs (m1 ++ [.dct []])).bind fun _ m2 => dcEnd m1.length m2 := fun _ _ _ _ _ _ _ => rfl
  have xf : ∀ (cn f : Str) (o v : XE') (r : Rho) (m : Mu), sFl cn f o v r m = (v r m).stm r fun q m1 => (o r m1).stm r fun od m2 => (putC cn f od q m2).stm r fun _ m3 => .next r m3 := fun _ _ _ _ _ _ => rfl
  have p1 : putC "Book" "held" (.loc 0) (heldD sk) [.ins "Book" []] = .ok () [.ins "Book" [("held", heldD sk)]] := by
    unfold putC
    simp only [LS]
    rw [if_pos ⟨trivial, by decide, heldD_in sk 0⟩]
    rfl
  have p2 : putC "Book" "parsed" (.loc 0) (.dct (sk.map fun p => (nmS p.nm, p.prog))) [.ins "Book" [("held", heldD sk)]] = .ok () [.ins "Book" [("held", heldD sk), ("parsed", .dct (sk.map fun p => (nmS p.nm, p.prog)))]] := by
    unfold putC
    simp only [LS]
    rw [if_pos ⟨trivial, by simp, by rw [D.inB]; exact inF_map _ _ _ _ fun p _ => p.prog_in _⟩]
    rfl
  have t1 : ∀ m, isiF cs [heldD sk, .ty "tuple"] m = .ok (.bl true) m := fun _ => rfl
  have t2 : ∀ m, lenD [heldD sk] m = .ok (.int ((sk.map Pl.parts).length : Int)) m := fun _ => rfl
  have t3 : ∀ m, seqD (heldD sk) m = .ok (sk.map Pl.parts) m := fun _ => rfl
  simp only [List.cons_append, List.nil_append] at e1
  unfold makeD
  simp only [F_Book_D_initD_, B_Book_D_initD_, fn_ap, rho0, List.map, List.replicate, List.length, Nat.reduceSub, Nat.reduceAdd, List.cons_append, List.nil_append, AP, AV, AB, LS, wipeR, t1, t2, t3, EQ, e2, Bool.not_true, Bool.false_eq_true, if_false, first_invalid h, OI, isNonD, xd, xf, p1, p2, e1]
  rfl
theorem book_ok {sk : List Pl} (h : SOk sk) (μ : Mu) : makeD "Book" F_Book_D_initD_ true [heldD sk] μ = .ok (bookD sk) μ :=
  (fr_makeD "Book" true fr_F_Book_D_initD_).of (by simp [D.inL, heldD_in]) (book0 h) (bookD_in sk 0) μ
def skD (sk : List Pl) : D := .lst (sk.map Pl.dat)
theorem skD_in (sk : List Pl) (n : Nat) : (skD sk).inB n = true := by
  rw [skD, D.inB]
  exact inL_map _ _ _ fun p _ => p.dat_in _
theorem vol_ok {sk : List Pl} (h : SOk sk) (μ : Mu) : F__law_vol [skD sk] μ = .ok (bookD sk) μ := by
  have hl : sk.length ≤ sizeLine := Nat.le_trans h.len (by decide)
  have e1 : ∀ r0 : Rho, 1 < r0.length → lcD (gNm 1) xYes (xCall F__law_parts (xaCons (xVar 1) xaNil)) r0 (sk.map Pl.dat) μ = .ok (.lst (sk.map Pl.parts)) μ := fun r0 h5 =>
    lc_map _ _ (fun p hp acc => by
      simp only [AP, AV, AB, List.getElem?_set_self h5, parts_ok (h.ok p hp)]) (fun p _ => p.parts_in _) hl
  have hx : exitD μ.length (bookD sk) μ = .ok (bookD sk) μ := by rw [exit_in (bookD_in sk _), List.take_length]
  simp only [F__law_vol, B__law_vol, fn_ap, rho0, List.map, List.replicate, List.length, Nat.reduceSub, Nat.reduceAdd, List.cons_append, List.nil_append, AP, AV, AB, LS, wipeR, show ∀ m, seqD (skD sk) m = .ok (sk.map Pl.dat) m from fun _ => rfl, e1, Nat.reduceLT, show ∀ m, tupF [.lst (sk.map Pl.parts)] m = .ok (heldD sk) m from fun _ => rfl, book_ok h, Bool.false_eq_true, if_false, hx]
end J

namespace J
open PySem PySem.Spec PyProof.Rows L2 DS
/-! ### cups -/
def cupC (a b c : Int) : Cell := .lst [.int a, .int b, .int c]
def Cup (n : Nat) (μ : Mu) : Prop := ∃ a b c, μ[n]? = some (cupC a b c)
def Sip (n : Nat) (μ μ' : Mu) : Prop := ∃ a b c, μ' = μ.set n (cupC a b c)
theorem Cup.lt {n : Nat} {μ : Mu} (h : Cup n μ) : n < μ.length := by
  obtain ⟨a, b, c, e⟩ := h
  exact (List.getElem?_eq_some_iff.mp e).1
theorem Sip.refl {n : Nat} {μ : Mu} (h : Cup n μ) : Sip n μ μ := by
  obtain ⟨a, b, c, e⟩ := h
  refine ⟨a, b, c, ?_⟩
  obtain ⟨hl, q⟩ := List.getElem?_eq_some_iff.mp e
  rw [← q, List.set_getElem_self]
theorem Sip.trans {n : Nat} {μ μ1 μ2 : Mu} (h : Sip n μ μ1) (g : Sip n μ1 μ2) : Sip n μ μ2 := by
  obtain ⟨a, b, c, rfl⟩ := h
  obtain ⟨a', b', c', rfl⟩ := g
  exact ⟨a', b', c', by rw [List.set_set]⟩
theorem Sip.cup {n : Nat} {μ μ1 : Mu} (h : Sip n μ μ1) (g : Cup n μ) : Cup n μ1 := by
  obtain ⟨a, b, c, rfl⟩ := h
  exact ⟨a, b, c, by rw [List.getElem?_set_self g.lt]⟩
theorem Sip.len {n : Nat} {μ μ1 : Mu} (h : Sip n μ μ1) : μ1.length = μ.length := by
  obtain ⟨a, b, c, rfl⟩ := h
  rw [List.length_set]
theorem Sip.app {n : Nat} {μ μ1 ν : Mu} (h : Sip n (μ ++ ν) μ1) (g : n < μ.length) : ∃ μ2, Sip n μ μ2 ∧ μ1 = μ2 ++ ν := by
  obtain ⟨a, b, c, rfl⟩ := h
  exact ⟨μ.set n (cupC a b c), ⟨a, b, c, rfl⟩, by rw [List.set_append_left _ _ g]⟩
theorem Cup.app {n : Nat} {μ : Mu} (h : Cup n μ) (ν : Mu) : Cup n (μ ++ ν) := by
  have hl := h.lt
  obtain ⟨a, b, c, e⟩ := h
  exact ⟨a, b, c, by rw [List.getElem?_append_left hl]; exact e⟩
theorem Sip.take {n k : Nat} {μ μ1 : Mu} (h : Sip n μ μ1) (hk : k = μ.length) : μ1.take k = μ1 := by
  rw [List.take_of_length_le (by rw [h.len, hk]; exact Nat.le_refl _)]
theorem ix_loc {n i : Nat} {m : Mu} {xs : List D} {x : D} (h : m[n]? = some (.lst xs)) (hx : xs[i]? = some x) : ixD (.loc n) (.int (i : Int)) m = .ok x m := by
  unfold ixD
  simp only [lstOf, h, ix_at i xs x hx]
theorem ix_lst {i : Nat} {m : Mu} {xs : List D} {x : D} (hx : xs[i]? = some x) : ixD (.lst xs) (.int (i : Int)) m = .ok x m := by
  unfold ixD
  simp only [lstOf, ix_at i xs x hx]
theorem set_cup {n : Nat} {m : Mu} {a b c v : Int} (h : m[n]? = some (cupC a b c)) : setD (.loc n) (.int 2) (.int v) m = .ok () (m.set n (cupC a b v)) ∧ setD (.loc n) (.int 1) (.int v) m = .ok () (m.set n (cupC a v c)) ∧ setD (.loc n) (.int 0) (.int v) m = .ok () (m.set n (cupC v b c)) := by
  unfold cupC at h
  refine ⟨?_, ?_, ?_⟩ <;>
  · unfold setD
    simp only [h]
    rfl
theorem exit_int {n : Nat} {b : Int} {m : Mu} : exitD n (.int b) m = .ok (.int b) (m.take n) := exit_in rfl
theorem sip_ok {n top : Nat} {μ : Mu} (h : Cup n μ) (h0 : 0 < top) (h1 : top < 1073741824) : ∃ (r : Nat) (μ' : Mu), F__law_sip [.loc n, .int top] μ = .ok (.int r) μ' ∧ r < top ∧ Sip n μ μ' := by
  have hl := h.lt
  obtain ⟨a, b, c, e⟩ := h
  have i0 : ∀ {a b c : Int} {m : Mu}, m[n]? = some (cupC a b c) → ixD (.loc n) (.int 0) m = .ok (.int a) m := fun h => ix_loc (i := 0) h rfl
  have i1 : ∀ {a b c : Int} {m : Mu}, m[n]? = some (cupC a b c) → ixD (.loc n) (.int 1) m = .ok (.int b) m := fun h => ix_loc (i := 1) h rfl
  have i2 : ∀ {a b c : Int} {m : Mu}, m[n]? = some (cupC a b c) → ixD (.loc n) (.int 2) m = .ok (.int c) m := fun h => ix_loc (i := 2) h rfl
  have gs : ∀ (x : Cell), (μ.set n x)[n]? = some x := fun x => List.getElem?_set_self hl
  have md : ∀ {i j : Int} {m : Mu}, 0 < j → modD (.int i) (.int j) m = .ok (.int (i % j)) m := fun hj => by
    unfold modD DS.intD
    simp only [decide_eq_true hj, if_true]
  have dv : ∀ {i : Int} {m : Mu}, divD (.int i) (.int 1024) m = .ok (.int (i / 1024)) m := fun {i m} => rfl
  have mu1 : ∀ {i : Int} {m : Mu}, mulD (.int i) (.int 48271) m = .ok (.int (i * 48271)) m := fun {i m} => by
    unfold mulD mulOk
    simp
  have mu2 : ∀ {i : Int} {m : Mu}, mulD (.int 6089) (.int i) m = .ok (.int (6089 * i)) m := fun {i m} => by
    unfold mulD mulOk
    simp
  have ii : ∀ {i : Int} {m : Mu}, intF [.int i] m = .ok (.int i) m := rfl
  have dm : ∀ {i : Int} {m : Mu}, dmF [.int i, .int top] m = .ok (.tup [.int (i / top), .int (i % top)]) m := fun {i m} => by
    unfold dmF
    simp only
    rw [if_pos (by omega)]
  by_cases ha : 0 < a
  · refine ⟨(a % top).toNat, μ.set n (cupC (a / top) b (c + 1)), ?_, ?_, ⟨_, _, _, rfl⟩⟩
    · have ht : ((a % (top : Int)).toNat : Int) = a % top := Int.toNat_of_nonneg (Int.emod_nonneg _ (by omega))
      simp only [F__law_sip, B__law_sip, fn_ap, rho0, List.map, List.replicate, List.length, Nat.reduceSub, Nat.reduceAdd, List.cons_append, List.nil_append, AP, AV, AB, LS, i2 e, OI, (set_cup e).1, i0 (gs _), decide_eq_true ha, if_true, dm, (set_cup (gs _)).2.2, List.set_set, Bool.false_eq_true, if_false, exit_int, ht]
      rw [List.take_of_length_le (by rw [List.length_set]; exact Nat.le_refl _)]
    · have := Int.emod_lt_of_pos a (show (0 : Int) < top by omega)
      have := Int.emod_nonneg a (show (top : Int) ≠ 0 by omega)
      omega
  · let b' := (b * 48271 + 6089 * (c + 1)) % 2147483477
    refine ⟨((b' / 1024) % top).toNat, μ.set n (cupC a b' (c + 1)), ?_, ?_, ⟨_, _, _, rfl⟩⟩
    · have ht : (((b' / 1024) % (top : Int)).toNat : Int) = (b' / 1024) % top := Int.toNat_of_nonneg (Int.emod_nonneg _ (by omega))
      simp only [F__law_sip, B__law_sip, fn_ap, rho0, List.map, List.replicate, List.length, Nat.reduceSub, Nat.reduceAdd, List.cons_append, List.nil_append, AP, AV, AB, LS, i2 e, OI, (set_cup e).1, i0 (gs _), decide_eq_false ha, if_true, i1 (gs _), i2 (gs _), mu1, mu2, ii, md (show (0 : Int) < 2147483477 by omega), (set_cup (gs _)).2.1, List.set_set, Bool.false_eq_true, if_false, exit_int, dv, md (show (0 : Int) < (top : Int) by omega), ht]
      rw [List.take_of_length_le (by rw [List.length_set]; exact Nat.le_refl _)]
    · have := Int.emod_lt_of_pos (b' / 1024) (show (0 : Int) < top by omega)
      have := Int.emod_nonneg (b' / 1024) (show (top : Int) ≠ 0 by omega)
      omega
theorem rng_get {lo : Int} {N k : Nat} (h : k < N) : (rngL lo N)[k]? = some (.int (lo + k)) := by
  unfold rngL
  rw [List.getElem?_map, List.getElem?_range h]
  rfl
theorem lc_rng {T : Type} {i n : Nat} {te : XE'} {r0 : Rho} (enc : T → D) (hin : ∀ t m, (enc t).inB m = true) (Q : Nat → T → Prop) {N : Nat} (hN : N ≤ sizeLine)
    (he : ∀ k < N, ∀ μ, Cup n μ → ∃ t μ', te (r0.set i (some (.int (k : Nat)))) μ = .ok (enc t) μ' ∧ Q k t ∧ Sip n μ μ') {μ : Mu} (h : Cup n μ) :
    ∃ (ts : List T) (μ' : Mu), lcD (gNm i) xYes te r0 (rngL 0 N) μ = .ok (.lst (ts.map enc)) μ' ∧ ts.length = N ∧ (∀ k t, ts[k]? = some t → Q k t) ∧ Sip n μ μ' := by
  have go : ∀ (j : Nat) (ts : List T) (ν : Mu), ts.length + j = N → Cup n ν → ν.length = μ.length → (∀ k t, ts[k]? = some t → Q k t) → ∃ (ts' : List T) (ν' : Mu), lcF (gNm i) xYes te μ.length r0 ((rngL 0 N).drop ts.length) (ν ++ [.lst (ts.map enc)]) = .ok () (ν' ++ [.lst (ts'.map enc)]) ∧ ts'.length = N ∧ (∀ k t, ts'[k]? = some t → Q k t) ∧ Sip n ν ν' := fun j => by
    induction j with
    | zero =>
      intro ts ν hl hc hln hq
      refine ⟨ts, ν, ?_, hl, hq, Sip.refl hc⟩
      rw [List.drop_of_length_le (by simp [rngL]; omega)]
      rfl
    | succ j ih =>
      intro ts ν hl hc hln hq
      have hk : ts.length < N := by omega
      obtain ⟨t, ν1, e1, q1, s1⟩ := he ts.length hk (ν ++ [.lst (ts.map enc)]) (hc.app _)
      obtain ⟨ν2, s2, rfl⟩ := s1.app hc.lt
      have hd : (rngL 0 N).drop ts.length = .int ((ts.length : Nat) : Int) :: (rngL 0 N).drop (ts.length + 1) := by
        have := rng_get (lo := 0) hk
        rw [List.drop_eq_getElem?_toList_append, this]
        simp
      have hp : pushD μ.length (enc t) (ν2 ++ [.lst (ts.map enc)]) = .ok () (ν2 ++ [.lst ((ts ++ [t]).map enc)]) := by
        have hl2 : ν2.length = μ.length := s2.len.trans hln
        unfold pushD
        rw [List.getElem?_append_right (by omega), ← hl2, Nat.sub_self]
        simp only [List.getElem?_cons_zero]
        rw [if_pos ⟨hin _ _, by rw [List.length_map]; omega⟩, List.set_append_right _ _ (Nat.le_refl _), Nat.sub_self]
        simp
      obtain ⟨ts', ν', e2, l2, q2, s3⟩ := ih (ts ++ [t]) ν2 (by rw [List.length_append, List.length_singleton]; omega) (s2.cup hc) (s2.len.trans hln) (fun k u hu => by
        by_cases hkk : k < ts.length
        · rw [List.getElem?_append_left hkk] at hu
          exact hq k u hu
        · rw [List.getElem?_append_right (by omega)] at hu
          have : k = ts.length := by
            by_cases e : k - ts.length = 0
            · omega
            · obtain ⟨z, ez⟩ := Nat.exists_eq_succ_of_ne_zero e
              rw [ez] at hu
              cases hu
          subst this
          rw [Nat.sub_self] at hu
          cases hu
          exact q1)
      refine ⟨ts', ν', ?_, l2, q2, s2.trans s3⟩
      rw [hd, lcF]
      simp only [gNm, Out.ne, Out.bind, xYes, if_true, e1, hp]
      rw [List.length_append, List.length_singleton] at e2
      exact e2
  obtain ⟨ts, ν, e, l, q, s⟩ := go N [] μ (by simp) h rfl (fun k t ht => by simp at ht)
  refine ⟨ts, ν, ?_, l, q, s⟩
  rw [List.length_nil, List.drop_zero, List.map_nil] at e
  unfold lcD
  rw [e]
  have hl2 : ν.length = μ.length := s.len
  simp [Out.bind, lcEnd, ← hl2]
end J

namespace J
open PySem PySem.Spec PyProof.Rows L2 DS
/-! ### drawn things -/
theorem md_ok {i j : Int} {m : Mu} (hj : 0 < j) : modD (.int i) (.int j) m = .ok (.int (i % j)) m := by
  unfold modD DS.intD
  simp only [decide_eq_true hj, if_true]
theorem mul_ok {i j : Int} {m : Mu} (h : -(2 ^ 64) < i ∧ i < 2 ^ 64) : mulD (.int i) (.int j) m = .ok (.int (i * j)) m := by
  unfold mulD mulOk
  simp only [decide_eq_true h, Bool.true_or, if_true]
theorem int_ok {i : Int} {m : Mu} : intF [.int i] m = .ok (.int i) m := rfl
theorem PAR : (∀ {i j : Nat} {a : XA} {r : Rho} {m : Mu}, sPar i j a r m = (a r m).stm r fun ds m1 => match ds with
  | [x, y] => .next ((r.set i (some x)).set j (some y)) m1
  | _ => .stuck) ∧ (∀ {i j l : Nat} {a : XA} {r : Rho} {m : Mu}, sPar3 i j l a r m = (a r m).stm r fun ds m1 => match ds with
  | [x, y, z] => .next (((r.set i (some x)).set j (some y)).set l (some z)) m1
  | _ => .stuck) := by
  refine ⟨?_, ?_⟩ <;> intros <;> rfl
theorem menu_ix {r : Nat} (h : r < 9) (m : Mu) : ixD (.lst [.str "join", .str "left", .str "on", .str "of", .str "a1", .str "a2", .str "plan", .str "call", .str "z9z9z9z9"]) (.int (r : Int)) m = .ok (nmD r) m := by
  refine ix_lst ?_
  have : r = 0 ∨ r = 1 ∨ r = 2 ∨ r = 3 ∨ r = 4 ∨ r = 5 ∨ r = 6 ∨ r = 7 ∨ r = 8 := by omega
  rcases this with rfl | rfl | rfl | rfl | rfl | rfl | rfl | rfl | rfl <;> rfl
theorem hop_ix {r : Nat} (h : r < 4) : ∃ f ∈ [1, 2, 4, 5], ∀ m, ixD (.lst [.int 1, .int 2, .int 4, .int 5]) (.int (r : Int)) m = .ok (.int ((f : Nat) : Int)) m := by
  have : r = 0 ∨ r = 1 ∨ r = 2 ∨ r = 3 := by omega
  rcases this with rfl | rfl | rfl | rfl
  · exact ⟨1, by decide, fun m => ix_lst rfl⟩
  · exact ⟨2, by decide, fun m => ix_lst rfl⟩
  · exact ⟨4, by decide, fun m => ix_lst rfl⟩
  · exact ⟨5, by decide, fun m => ix_lst rfl⟩
theorem side_ix {r : Nat} (h : r < 3) : ∃ s < 2, ∀ m, ixD (.lst [.str "left", .str "left", .str "right"]) (.int (r : Int)) m = .ok (.str (sideS s)) m := by
  have : r = 0 ∨ r = 1 ∨ r = 2 := by omega
  rcases this with rfl | rfl | rfl
  · exact ⟨0, by decide, fun m => ix_lst rfl⟩
  · exact ⟨0, by decide, fun m => ix_lst rfl⟩
  · exact ⟨1, by decide, fun m => ix_lst rfl⟩
theorem word_ix {r : Nat} (h : r < 5) : ∃ w < 3, ∀ m, ixD (.lst [.str "join", .str "join", .str "join", .str "take", .str "clear"]) (.int (r : Int)) m = .ok (.str (wordS w)) m := by
  have : r = 0 ∨ r = 1 ∨ r = 2 ∨ r = 3 ∨ r = 4 := by omega
  rcases this with rfl | rfl | rfl | rfl | rfl
  · exact ⟨0, by decide, fun m => ix_lst rfl⟩
  · exact ⟨0, by decide, fun m => ix_lst rfl⟩
  · exact ⟨0, by decide, fun m => ix_lst rfl⟩
  · exact ⟨1, by decide, fun m => ix_lst rfl⟩
  · exact ⟨2, by decide, fun m => ix_lst rfl⟩
theorem far_ix {r : Nat} (h : r < 6) : ∃ f, (0 < f ∧ f < 5) ∧ ∀ m, ixD (.lst [.int 1, .int 1, .int 2, .int 2, .int 3, .int 4]) (.int (r : Int)) m = .ok (.int ((f : Nat) : Int)) m := by
  have : r = 0 ∨ r = 1 ∨ r = 2 ∨ r = 3 ∨ r = 4 ∨ r = 5 := by omega
  rcases this with rfl | rfl | rfl | rfl | rfl | rfl
  · exact ⟨1, by decide, fun m => ix_lst rfl⟩
  · exact ⟨1, by decide, fun m => ix_lst rfl⟩
  · exact ⟨2, by decide, fun m => ix_lst rfl⟩
  · exact ⟨2, by decide, fun m => ix_lst rfl⟩
  · exact ⟨3, by decide, fun m => ix_lst rfl⟩
  · exact ⟨4, by decide, fun m => ix_lst rfl⟩
theorem step_ix {r : Nat} (h : r < 6) : ∃ f, (0 < f ∧ f < 4) ∧ ∀ m, ixD (.lst [.int 1, .int 1, .int 2, .int 2, .int 2, .int 3]) (.int (r : Int)) m = .ok (.int ((f : Nat) : Int)) m := by
  have : r = 0 ∨ r = 1 ∨ r = 2 ∨ r = 3 ∨ r = 4 ∨ r = 5 := by omega
  rcases this with rfl | rfl | rfl | rfl | rfl | rfl
  · exact ⟨1, by decide, fun m => ix_lst rfl⟩
  · exact ⟨1, by decide, fun m => ix_lst rfl⟩
  · exact ⟨2, by decide, fun m => ix_lst rfl⟩
  · exact ⟨2, by decide, fun m => ix_lst rfl⟩
  · exact ⟨2, by decide, fun m => ix_lst rfl⟩
  · exact ⟨3, by decide, fun m => ix_lst rfl⟩
theorem label_ix {ls : List Nat} {r x : Nat} (h : ls[r]? = some x) (m : Mu) : ixD (.lst (ls.map nmD)) (.int (r : Int)) m = .ok (nmD x) m :=
  ix_lst (by rw [List.getElem?_map, h]; rfl)
theorem hops : ∀ b < 9, ∀ f ∈ [1, 2, 4, 5], ((List.range 9).map fun k => (b + f * k) % 9).Nodup := by decide
theorem labels_ok {n span : Nat} {μ : Mu} (h : Cup n μ) (hs : span ≤ 9) : ∃ (ls : List Nat) (μ' : Mu), F__law_labels [.loc n, .int span] μ = .ok (.lst (ls.map nmD)) μ' ∧ ls.length = span ∧ (∀ x ∈ ls, x < 9) ∧ ls.Nodup ∧ Sip n μ μ' := by
  obtain ⟨b, μ1, e1, hb, s1⟩ := sip_ok (top := 9) h (by decide) (by decide)
  obtain ⟨q, μ2, e2, hq, s2⟩ := sip_ok (top := 4) (s1.cup h) (by decide) (by decide)
  obtain ⟨f, hf, e3⟩ := hop_ix hq
  have s := s1.trans s2
  have hf5 : f < 6 := by
    simp only [List.mem_cons, List.not_mem_nil, or_false] at hf
    omega
  change F__law_sip [.loc n, .int 9] μ = _ at e1
  change F__law_sip [.loc n, .int 4] μ1 = _ at e2
  refine ⟨(List.range span).map fun k => (b + f * k) % 9, μ2, ?_, by simp, fun x hx => ?_, ?_, s⟩
  · have e4 : ∀ (v : D), lcD (gNm 5) xYes (xOp ixD (xVar 4) (xOp modD (xCall intF (xaCons (xOp addD (xVar 2) (xOp mulD (xVar 3) (xVar 5))) xaNil)) (xC (.int 9)))) [some (.loc n), some (.int span), some (.int b), some (.int f), some (.lst [.str "join", .str "left", .str "on", .str "of", .str "a1", .str "a2", .str "plan", .str "call", .str "z9z9z9z9"]), none] (rngL 0 span) μ2 = .ok (.lst (((List.range span).map fun k => (b + f * k) % 9).map nmD)) μ2 := fun _ => by
      rw [List.map_map]
      refine lc_map (fun (i : Nat) => .int (0 + (i : Int))) _ (fun k hk acc => ?_) (fun _ _ => rfl) (by rw [List.length_range]; exact Nat.le_trans hs (by decide))
      have hz : ((b : Int) + (f : Int) * (0 + (k : Int))) % 9 = (((b + f * k) % 9 : Nat) : Int) := by
        rw [Int.zero_add]
        omega
      simp only [AP, AV, AB, LS, mul_ok (show -(2 ^ 64) < (f : Int) ∧ (f : Int) < 2 ^ 64 by omega), OI, int_ok, md_ok (show (0 : Int) < 9 by decide), hz, menu_ix (Nat.mod_lt _ (show 0 < 9 by decide))]
      rfl
    have hr : rngD1 [.int (span : Int)] μ2 = .ok (rngL 0 span) μ2 := by
      unfold rngD1
      simp only
      rw [if_pos (by omega), Int.toNat_natCast]
    have hx : exitD μ.length (.lst (((List.range span).map fun k => (b + f * k) % 9).map nmD)) μ2 = .ok (.lst (((List.range span).map fun k => (b + f * k) % 9).map nmD)) μ2 := by
      rw [exit_in (by rw [D.inB]; exact inL_map _ _ _ fun _ _ => rfl), s.take rfl]
    simp only [F__law_labels, B__law_labels, fn_ap, rho0, List.map, List.replicate, List.length, Nat.reduceSub, Nat.reduceAdd, List.cons_append, List.nil_append, AP, AV, AB, LS, wipeR, e1, e2, e3, if_true, hr, e4 .non, Bool.false_eq_true, if_false, hx]
  · obtain ⟨k, _, rfl⟩ := List.mem_map.mp hx
    exact Nat.mod_lt _ (by decide)
  · have q := hops b hb f hf
    have e : (List.range span).map (fun k => (b + f * k) % 9) = ((List.range 9).map fun k => (b + f * k) % 9).take span := by
      rw [← List.map_take, List.take_range, Nat.min_eq_left hs]
    rw [e]
    exact q.sublist (List.take_sublist _ _)
structure CGood (ls : List Nat) (at_ rs st : Nat) (calls : Bool) (c : Cl) : Prop where
  ok : c.Ok
  rest : c.rest = rs
  step : c.step = st
  call : c.w = 3 ↔ calls = true
  goal : calls = true → c.goal ∈ ls ∧ (st = 1 → ls[at_ + 1]? = some c.goal)
theorem clause_ok {n at_ rest step : Nat} {ls : List Nat} {calls : Bool} {μ : Mu} (h : Cup n μ) (hls : ∀ x ∈ ls, x < 9) (hl0 : 0 < ls.length) (hl : ls.length ≤ 9) (hr : rest < step) (hst : step < 4) (ha : calls = true → step = 1 → at_ + 1 < ls.length) :
    ∃ (c : Cl) (μ' : Mu), F__law_clause [.loc n, .lst (ls.map nmD), .int at_, .int rest, .int step, .bl calls] μ = .ok c.dat μ' ∧ CGood ls at_ rest step calls c ∧ Sip n μ μ' := by
  obtain ⟨w, μ1, e1, hw, s1⟩ := sip_ok (top := 5) h (by decide) (by decide)
  obtain ⟨q, μ2, e2, hq, s2⟩ := sip_ok (top := 3) (s1.cup h) (by decide) (by decide)
  obtain ⟨sd, hsd, e3⟩ := side_ix hq
  have s12 := s1.trans s2
  change F__law_sip [.loc n, .int 5] μ = _ at e1
  change F__law_sip [.loc n, .int 3] μ1 = _ at e2
  have lg : ∀ m, lenD [.lst (ls.map nmD)] m = .ok (.int (ls.length : Nat)) m := fun m => by
    show Out.ok (D.int ((ls.map nmD).length : Nat)) m = _
    rw [List.length_map]
  cases calls with
  | true =>
    have fin : ∀ (g : Nat) (μ3 : Mu), Sip n μ μ3 → g ∈ ls → (step = 1 → ls[at_ + 1]? = some g) → (∃ (c : Cl), exitD μ.length (.tup [.str "call", .int rest, .int step, .str "", .int 0, nmD g]) μ3 = .ok c.dat μ3 ∧ CGood ls at_ rest step true c) := fun g μ3 s3 hg h1 => by
      refine ⟨⟨3, rest, step, 0, 1, g⟩, ?_, ⟨⟨show 3 < 4 by decide, hr, hst, show 0 < 2 by decide, show 0 < 1 by decide, show 1 < 5 by decide, hls g hg⟩, rfl, rfl, by simp, fun _ => ⟨hg, h1⟩⟩⟩
      rw [exit_in rfl, s3.take rfl]
      rfl
    by_cases h1 : 1 < step
    · obtain ⟨k, μ3, e4, hk, s3⟩ := sip_ok (top := ls.length) (s2.cup (s1.cup h)) hl0 (by omega)
      obtain ⟨g, hg⟩ : ∃ g, ls[k]? = some g := ⟨ls[k], List.getElem?_eq_getElem hk⟩
      obtain ⟨c, f1, f2⟩ := fin g μ3 (s12.trans s3) (List.mem_of_getElem? hg) (by omega)
      refine ⟨c, μ3, ?_, f2, s12.trans s3⟩
      simp only [F__law_clause, B__law_clause, fn_ap, rho0, List.map, List.replicate, List.length, Nat.reduceSub, Nat.reduceAdd, List.cons_append, List.nil_append, AP, PAR, AV, AB, LS, e1, e2, e3, if_true, OI, decide_eq_true (show (1 : Int) < (step : Int) by omega), lg, e4, label_ix hg, Bool.false_eq_true, if_false]
      exact f1
    · have hs1 : step = 1 := by omega
      have hlt := ha rfl hs1
      obtain ⟨g, hg⟩ : ∃ g, ls[at_ + 1]? = some g := ⟨ls[at_ + 1], List.getElem?_eq_getElem hlt⟩
      obtain ⟨c, f1, f2⟩ := fin g μ2 s12 (List.mem_of_getElem? hg) (fun _ => hg)
      refine ⟨c, μ2, ?_, f2, s12⟩
      have e5 := label_ix hg μ2
      rw [show ((at_ + 1 : Nat) : Int) = (at_ : Int) + 1 by omega] at e5
      simp only [F__law_clause, B__law_clause, fn_ap, rho0, List.map, List.replicate, List.length, Nat.reduceSub, Nat.reduceAdd, List.cons_append, List.nil_append, AP, PAR, AV, AB, LS, e1, e2, e3, if_true, OI, decide_eq_false (show ¬ (1 : Int) < (step : Int) by omega), e5, Bool.false_eq_true, if_false]
      exact f1
  | false =>
    obtain ⟨k, μ3, e4, hk, s3⟩ := sip_ok (top := 6) (s2.cup (s1.cup h)) (by decide) (by decide)
    obtain ⟨wd, hwd, e5⟩ := word_ix hw
    obtain ⟨f, hf, e6⟩ := far_ix hk
    change F__law_sip [.loc n, .int 6] μ2 = _ at e4
    refine ⟨⟨wd, rest, step, sd, f, 0⟩, μ3, ?_, ⟨⟨by show wd < 4; omega, hr, hst, hsd, hf.1, hf.2, show 0 < 9 by decide⟩, rfl, rfl, by simp; omega, by simp⟩, s12.trans s3⟩
    have hx : exitD μ.length (.tup [.str (wordS wd), .int rest, .int step, .str (sideS sd), .int f, .str ""]) μ3 = .ok (.tup [.str (wordS wd), .int rest, .int step, .str (sideS sd), .int f, .str ""]) μ3 := by
      rw [exit_in rfl, (s12.trans s3).take rfl]
    simp only [F__law_clause, B__law_clause, fn_ap, rho0, List.map, List.replicate, List.length, Nat.reduceSub, Nat.reduceAdd, List.cons_append, List.nil_append, AP, PAR, AV, AB, LS, e1, e2, e3, if_true, OI, e4, e5, e6, Bool.false_eq_true, if_false, hx, Cl.dat, show wd ≠ 3 by omega]
theorem rng1_ok {k : Nat} (h : k < 2 ^ 62) (m : Mu) : rngD1 [.int (k : Int)] m = .ok (rngL 0 k) m := by
  unfold rngD1
  simp only
  rw [if_pos (by omega), Int.toNat_natCast]
theorem min_ok (a b : Nat) (m : Mu) : minF [.int a, .int b] m = .ok (.int ((min a b : Nat) : Int)) m := by
  show Out.ok (D.int (if (b : Int) < a then (b : Int) else a)) m = _
  congr 2
  split <;> omega
structure RGood (ls : List Nat) (at_ : Nat) (r : List Cl) : Prop where
  ok : ROk r
  calls : Calls ls (ls.take (at_ + 1)) r
theorem mod_ne {a k j s : Nat} (hk : k < s) (hj : j < k) : (a + k) % s ≠ (a + j) % s := fun e => by
  have h1 := Nat.div_add_mod (a + k) s
  have h2 := Nat.div_add_mod (a + j) s
  rw [e] at h1
  have h3 : s * ((a + k) / s) = s * ((a + j) / s) + (k - j) := by omega
  have h4 : s ∣ (k - j) := by
    refine (Nat.dvd_add_right (Nat.dvd_mul_right s ((a + j) / s))).mp ?_
    rw [← h3]
    exact Nat.dvd_mul_right _ _
  have := Nat.le_of_dvd (by omega) h4
  omega
theorem round_ok {n at_ : Nat} {ls : List Nat} {μ : Mu} (h : Cup n μ) (hls : ∀ x ∈ ls, x < 9) (hnd : ls.Nodup) (hl : ls.length ≤ 9) (hat : at_ < ls.length) :
    ∃ (r : List Cl) (μ' : Mu), F__law_round [.loc n, .lst (ls.map nmD), .int at_] μ = .ok (.lst (r.map Cl.dat)) μ' ∧ RGood ls at_ r ∧ Sip n μ μ' := by
  obtain ⟨q0, μ1, e1, h1, s1⟩ := sip_ok (top := 4) h (by decide) (by decide)
  obtain ⟨q1, μ2, e2, h2, s2⟩ := sip_ok (top := 6) (s1.cup h) (by decide) (by decide)
  obtain ⟨st, hst, e3⟩ := step_ix h2
  obtain ⟨rs, μ3, e4, h4, s3⟩ := sip_ok (top := st) (s2.cup (s1.cup h)) hst.1 (by omega)
  obtain ⟨q3, μ4, e5, h5, s4⟩ := sip_ok (top := 3) (s3.cup (s2.cup (s1.cup h))) (by decide) (by decide)
  have s14 := ((s1.trans s2).trans s3).trans s4
  change F__law_sip [.loc n, .int 4] μ = _ at e1
  change F__law_sip [.loc n, .int 6] μ1 = _ at e2
  change F__law_sip [.loc n, .int 3] μ3 = _ at e5
  let calls : Bool := ((q0 : Int) == 0)
  let st' : Nat := if calls = true ∧ st = 1 ∧ ls.length ≤ at_ + 1 then 2 else st
  have hst' : 0 < st' ∧ st' < 4 := by
    show 0 < (if _ then 2 else st) ∧ (if _ then 2 else st) < 4
    split <;> omega
  have hca : calls = true → st' = 1 → at_ + 1 < ls.length := fun hc h1 => by
    by_cases hh : calls = true ∧ st = 1 ∧ ls.length ≤ at_ + 1
    · have : st' = 2 := if_pos hh
      omega
    · have e : st' = st := if_neg hh
      rw [e] at h1
      exact Nat.lt_of_not_le fun z => hh ⟨hc, h1, z⟩
  let N : Nat := min (1 + q3) st'
  have hN : N ≤ 3 := Nat.le_trans (Nat.min_le_right _ _) (by omega)
  have hN0 : 0 < N := by
    show 0 < min (1 + q3) st'
    omega
  have hNs : N ≤ st' := Nat.min_le_right _ _
  obtain ⟨r, μ5, e6, l6, q6, s5⟩ := lc_rng (i := 7) (te := xCall F__law_clause (xaCons (xVar 0) (xaCons (xVar 1) (xaCons (xVar 2) (xaCons (xOp modD (xCall intF (xaCons (xOp addD (xVar 5) (xVar 7)) xaNil)) (xVar 4)) (xaCons (xVar 4) (xaCons (xVar 3) xaNil)))))))
    (r0 := [some (.loc n), some (.lst (ls.map nmD)), some (.int at_), some (.bl calls), some (.int st'), some (.int rs), some (.int N), none]) Cl.dat (fun c m => c.dat_in m) (fun k c => CGood ls at_ ((rs + k) % st') st' calls c) (N := N) (Nat.le_trans hN (by decide)) (fun k hk ν hν => by
      obtain ⟨c, ν', e, g, s⟩ := clause_ok (at_ := at_) (rest := (rs + k) % st') (step := st') (calls := calls) hν hls (by omega) hl (Nat.mod_lt _ hst'.1) hst'.2 hca
      refine ⟨c, ν', ?_, g, s⟩
      have hz : ((rs : Int) + (k : Int)) % (st' : Int) = (((rs + k) % st' : Nat) : Int) := by
        rw [Int.natCast_emod]
        rfl
      simp only [AP, AV, AB, LS, OI, int_ok, md_ok (show (0 : Int) < (st' : Int) by omega), hz]
      exact e) (s4.cup (s3.cup (s2.cup (s1.cup h))))
  have hR : RGood ls at_ r := by
    refine ⟨⟨by omega, by omega, fun c hc => ?_, ?_, ?_⟩, fun c hc hw => ?_⟩
    · obtain ⟨k, hk⟩ := List.getElem?_of_mem hc
      exact (q6 k c hk).ok
    · cases hcc : calls with
      | true =>
        refine .inl fun c hc => ?_
        obtain ⟨k, hk⟩ := List.getElem?_of_mem hc
        exact (q6 k c hk).call.mpr hcc
      | false =>
        refine .inr fun c hc hw => ?_
        obtain ⟨k, hk⟩ := List.getElem?_of_mem hc
        have := (q6 k c hk).call.mp hw
        rw [hcc] at this
        cases this
    · rw [List.pairwise_iff_getElem]
      intro i j hi hj hij
      have g1 := q6 i _ (List.getElem?_eq_getElem hi)
      have g2 := q6 j _ (List.getElem?_eq_getElem hj)
      refine ⟨by rw [g1.step, g2.step], ?_⟩
      rw [g1.rest, g2.rest]
      exact mod_ne (by omega) hij
    · obtain ⟨k, hk⟩ := List.getElem?_of_mem hc
      have g := q6 k c hk
      have gg := g.goal (g.call.mp hw)
      refine ⟨gg.1, fun h1 hm => ?_⟩
      rw [g.step] at h1
      have ga := gg.2 h1
      obtain ⟨j, hj⟩ := List.getElem?_of_mem hm
      rw [List.getElem?_take] at hj
      split at hj
      · rename_i hji
        obtain ⟨l1, a1⟩ := List.getElem?_eq_some_iff.mp hj
        obtain ⟨l2, a2⟩ := List.getElem?_eq_some_iff.mp ga
        exact List.pairwise_iff_getElem.mp hnd j (at_ + 1) l1 l2 hji (a1.trans a2.symm)
      · cases hj
  refine ⟨r, μ5, ?_, hR, s14.trans s5⟩
  have hx : exitD μ.length (.lst (r.map Cl.dat)) μ5 = .ok (.lst (r.map Cl.dat)) μ5 := by
    rw [exit_in (by rw [D.inB]; exact inL_map _ _ _ fun c _ => c.dat_in _), (s14.trans s5).take rfl]
  have lg : ∀ m, lenD [.lst (ls.map nmD)] m = .ok (.int (ls.length : Nat)) m := fun m => by
    show Out.ok (D.int ((ls.map nmD).length : Nat)) m = _
    rw [List.length_map]
  have hm : ∀ m, minF [.int (1 + (q3 : Int)), .int st'] m = .ok (.int (N : Int)) m := fun m => by
    have := min_ok (1 + q3) st' m
    rw [show ((1 + q3 : Nat) : Int) = 1 + (q3 : Int) by omega] at this
    exact this
  have hi : (sIf (xAndT (xTest (xVar 3)) (xAndT (xTest (xOp eqD (xVar 4) (xC (.int 1)))) (xTest (xOp geD (xOp addD (xVar 2) (xC (.int 1))) (xCall lenD (xaCons (xVar 1) xaNil)))))) (sAsg (xC (.int 2)) (gNm 4)) sNil) [some (.loc n), some (.lst (ls.map nmD)), some (.int at_), some (.bl calls), some (.int st), some (.int rs), some (.int (1 + (q3 : Int))), none] μ4 = .next [some (.loc n), some (.lst (ls.map nmD)), some (.int at_), some (.bl calls), some (.int st'), some (.int rs), some (.int (1 + (q3 : Int))), none] μ4 := by
    simp only [AP, AV, AB, LS, EQ, OI, lg]
    by_cases c1 : calls = true
    · by_cases c2 : st = 1
      · have c2' : ((st : Int) == 1) = true := by simp; omega
        by_cases c3 : ls.length ≤ at_ + 1
        · have : st' = 2 := if_pos ⟨c1, c2, c3⟩
          rw [this]
          simp only [c1, c2', if_true, decide_eq_true (show ((ls.length : Nat) : Int) ≤ (at_ : Int) + 1 by omega), AB]
          rfl
        · have : st' = st := if_neg fun z => c3 z.2.2
          rw [this]
          simp only [c1, c2', if_true, decide_eq_false (show ¬ ((ls.length : Nat) : Int) ≤ (at_ : Int) + 1 by omega), AB, Bool.false_eq_true, if_false]
      · have c2' : ((st : Int) == 1) = false := by simp; omega
        have : st' = st := if_neg fun z => c2 z.2.1
        rw [this]
        simp only [c1, c2', if_true, AB, Bool.false_eq_true, if_false]
    · have : st' = st := if_neg fun z => c1 z.1
      rw [this]
      simp only [c1, AB, Bool.false_eq_true, if_false]
  have e1' : eqD (.int (q0 : Int)) (.int 0) μ1 = .ok (.bl calls) μ1 := rfl
  unfold F__law_round B__law_round
  rw [fn_ap]
  have seq : ∀ {f g : XS} {r r' : Rho} {m m' : Mu}, f r m = .next r' m' → sSeq f g r m = g r' m' := fun {f g r r' m m'} e => by
    show (match f r m with
      | .next r' m' => g r' m'
      | o => o) = _
    rw [e]
  have f1 : sAsg (xTup (xaCons (xOp eqD (xCall F__law_sip (xaCons (xVar 0) (xaCons (xC (.int 4)) xaNil))) (xC (.int 0))) (xaCons (xOp ixD (xLst (xaCons (xC (.int 1)) (xaCons (xC (.int 1)) (xaCons (xC (.int 2)) (xaCons (xC (.int 2)) (xaCons (xC (.int 2)) (xaCons (xC (.int 3)) xaNil))))))) (xCall F__law_sip (xaCons (xVar 0) (xaCons (xC (.int 6)) xaNil)))) xaNil))) (gTp 2 (gsCons (gNm 3) (gsCons (gNm 4) gsNil))) (rho0 8 [.loc n, .lst (ls.map nmD), .int at_]) μ = .next [some (.loc n), some (.lst (ls.map nmD)), some (.int at_), some (.bl calls), some (.int st), none, none, none] μ2 := by
    simp only [rho0, List.map, List.replicate, List.length, Nat.reduceSub, Nat.reduceAdd, List.cons_append, List.nil_append, AP, AV, AB, LS, e1, e1', e2, e3, if_true]
  have f2 : sAsg (xTup (xaCons (xCall F__law_sip (xaCons (xVar 0) (xaCons (xVar 4) xaNil))) (xaCons (xOp addD (xC (.int 1)) (xCall F__law_sip (xaCons (xVar 0) (xaCons (xC (.int 3)) xaNil)))) xaNil))) (gTp 2 (gsCons (gNm 5) (gsCons (gNm 6) gsNil))) [some (.loc n), some (.lst (ls.map nmD)), some (.int at_), some (.bl calls), some (.int st), none, none, none] μ2 = .next [some (.loc n), some (.lst (ls.map nmD)), some (.int at_), some (.bl calls), some (.int st), some (.int rs), some (.int (1 + (q3 : Int))), none] μ4 := by
    simp only [AP, AV, AB, LS, e4, e5, OI, List.length, Nat.reduceAdd, if_true]
  rw [seq f1, seq f2, seq hi]
  simp only [AP, AV, AB, LS, hm, wipeR, rng1_ok (show N < 2 ^ 62 by omega), e6, Bool.false_eq_true, if_false, hx]
theorem goalw_ix {r : Nat} (h : r < 4) : (∀ m, ixD (.lst [.str "all", .str "all", .str "before", .str "last"]) (.int (r : Int)) m = .ok (.str "all") m) ∨ (∀ m, ixD (.lst [.str "all", .str "all", .str "before", .str "last"]) (.int (r : Int)) m = .ok (.str "before") m) ∨ (∀ m, ixD (.lst [.str "all", .str "all", .str "before", .str "last"]) (.int (r : Int)) m = .ok (.str "last") m) := by
  have : r = 0 ∨ r = 1 ∨ r = 2 ∨ r = 3 := by omega
  rcases this with rfl | rfl | rfl | rfl
  · exact .inl fun m => ix_lst rfl
  · exact .inl fun m => ix_lst rfl
  · exact .inr (.inl fun m => ix_lst rfl)
  · exact .inr (.inr fun m => ix_lst rfl)
theorem goal_ok {n : Nat} {μ : Mu} (h : Cup n μ) : ∃ (g : Gl) (μ' : Mu), F__law_goal [.loc n] μ = .ok g.dat μ' ∧ g.Ok ∧ Sip n μ μ' := by
  obtain ⟨q, μ1, e1, h1, s1⟩ := sip_ok (top := 4) h (by decide) (by decide)
  change F__law_sip [.loc n, .int 4] μ = _ at e1
  have k1 : ∀ m, eqD (.str "all") (.str "last") m = .ok (.bl false) m := fun m => rfl
  have k2 : ∀ m, eqD (.str "before") (.str "last") m = .ok (.bl false) m := fun m => rfl
  have k3 : ∀ m, eqD (.str "last") (.str "last") m = .ok (.bl true) m := fun m => rfl
  rcases goalw_ix h1 with e2 | e2 | e2
  · refine ⟨.all, μ1, ?_, trivial, s1⟩
    simp only [F__law_goal, B__law_goal, fn_ap, rho0, List.map, List.replicate, List.length, Nat.reduceSub, Nat.reduceAdd, List.cons_append, List.nil_append, AP, AV, AB, LS, e1, e2, k1, Bool.false_eq_true, if_false]
    rw [exit_in rfl, s1.take rfl]
    rfl
  · refine ⟨.before, μ1, ?_, trivial, s1⟩
    simp only [F__law_goal, B__law_goal, fn_ap, rho0, List.map, List.replicate, List.length, Nat.reduceSub, Nat.reduceAdd, List.cons_append, List.nil_append, AP, AV, AB, LS, e1, e2, k2, Bool.false_eq_true, if_false]
    rw [exit_in rfl, s1.take rfl]
    rfl
  · obtain ⟨q2, μ2, e3, h3, s2⟩ := sip_ok (top := 4) (s1.cup h) (by decide) (by decide)
    change F__law_sip [.loc n, .int 4] μ1 = _ at e3
    refine ⟨.last (1 + q2), μ2, ?_, ⟨by omega, by omega⟩, s1.trans s2⟩
    simp only [F__law_goal, B__law_goal, fn_ap, rho0, List.map, List.replicate, List.length, Nat.reduceSub, Nat.reduceAdd, List.cons_append, List.nil_append, AP, AV, AB, LS, e1, e2, e3, k3, OI, if_true, Bool.false_eq_true, if_false]
    rw [exit_in rfl, (s1.trans s2).take rfl]
    show Out.ok (D.tup [_, D.int (1 + (q2 : Int))]) _ = Out.ok (D.tup [_, D.int ((1 + q2 : Nat) : Int)]) _
    rw [show ((1 + q2 : Nat) : Int) = 1 + (q2 : Int) by omega]
structure PGood (ls : List Nat) (at_ : Nat) (p : Pl) : Prop where
  ok : p.Ok
  nm : ls[at_]? = some p.nm
  calls : ∀ r ∈ p.rounds, Calls ls (ls.take (at_ + 1)) r
theorem plan_ok {n at_ most : Nat} {ls : List Nat} {μ : Mu} (h : Cup n μ) (hls : ∀ x ∈ ls, x < 9) (hnd : ls.Nodup) (hl : ls.length ≤ 9) (hat : at_ < ls.length) (hm0 : 0 < most) (hm : most ≤ 5) :
    ∃ (p : Pl) (μ' : Mu), F__law_plan [.loc n, .lst (ls.map nmD), .int at_, .int most] μ = .ok p.dat μ' ∧ PGood ls at_ p ∧ Sip n μ μ' := by
  obtain ⟨g, μ1, e1, h1, s1⟩ := goal_ok h
  obtain ⟨b, μ2, e2, h2, s2⟩ := sip_ok (top := 4) (s1.cup h) (by decide) (by decide)
  obtain ⟨k, μ3, e3, h3, s3⟩ := sip_ok (top := most) (s2.cup (s1.cup h)) hm0 (by omega)
  change F__law_sip [.loc n, .int 4] μ1 = _ at e2
  have s13 := (s1.trans s2).trans s3
  obtain ⟨x, hx⟩ : ∃ x, ls[at_]? = some x := ⟨ls[at_], List.getElem?_eq_getElem hat⟩
  obtain ⟨rs, μ4, e4, l4, q4, s4⟩ := lc_rng (i := 7) (te := xCall F__law_round (xaCons (xVar 0) (xaCons (xVar 1) (xaCons (xVar 2) xaNil))))
    (r0 := [some (.loc n), some (.lst (ls.map nmD)), some (.int at_), some (.int most), some g.dat, some (.int (1 + (b : Int))), some (.int (1 + (k : Int))), none]) (fun r : List Cl => .lst (r.map Cl.dat)) (fun c m => by rw [D.inB]; exact inL_map _ _ _ fun c _ => c.dat_in _) (fun _ r => RGood ls at_ r) (N := 1 + k) (Nat.le_trans (show 1 + k ≤ 6 by omega) (by decide)) (fun j _ ν hν => by
      obtain ⟨r, ν', e, g, s⟩ := round_ok hν hls hnd hl hat
      refine ⟨r, ν', ?_, g, s⟩
      simp only [AP, AV, AB, LS]
      exact e) (s3.cup (s2.cup (s1.cup h)))
  have mem : ∀ r ∈ rs, RGood ls at_ r := fun r hr => by
    obtain ⟨j, hj⟩ := List.getElem?_of_mem hr
    exact q4 j r hj
  refine ⟨⟨x, g, 1 + b, rs⟩, μ4, ?_, ⟨⟨hls x (List.mem_of_getElem? hx), h1, show 1 ≤ 1 + b by omega, show 1 + b ≤ 4 by omega, show 0 < rs.length by omega, show rs.length ≤ 5 by omega, fun r hr => (mem r hr).ok⟩, hx, fun r hr => (mem r hr).calls⟩, s13.trans s4⟩
  have hx2 : exitD μ.length (⟨x, g, 1 + b, rs⟩ : Pl).dat μ4 = .ok (⟨x, g, 1 + b, rs⟩ : Pl).dat μ4 := by
    rw [exit_in (Pl.dat_in _ _), (s13.trans s4).take rfl]
  have hr := rng1_ok (show 1 + k < 2 ^ 62 by omega) μ3
  rw [show ((1 + k : Nat) : Int) = 1 + (k : Int) by omega] at hr
  have hd : (⟨x, g, 1 + b, rs⟩ : Pl).dat = .lst [nmD x, g.dat, .int (1 + (b : Int)), .lst (rs.map fun r => .lst (r.map Cl.dat))] := by
    show D.lst [_, _, D.int ((1 + b : Nat) : Int), _] = _
    rw [show ((1 + b : Nat) : Int) = 1 + (b : Int) by omega]
    rfl
  rw [hd] at hx2 ⊢
  simp only [F__law_plan, B__law_plan, fn_ap, rho0, List.map, List.replicate, List.length, Nat.reduceSub, Nat.reduceAdd, List.cons_append, List.nil_append, AP, PAR, AV, AB, LS, e1, e2, e3, OI, label_ix hx, wipeR, hr, e4, Bool.false_eq_true, if_false, hx2]
def jn (rest step far : Nat) : Cl := ⟨0, rest, step, 0, far, 0⟩
def cl (rest step goal : Nat) : Cl := ⟨3, rest, step, 0, 1, goal⟩
theorem jn_ok {rest step far : Nat} (h1 : rest < step) (h2 : step < 4) (h3 : 0 < far) (h4 : far < 5) : (jn rest step far).Ok := ⟨show 0 < 4 by decide, h1, h2, show 0 < 2 by decide, h3, h4, show 0 < 9 by decide⟩
theorem cl_ok {rest step g : Nat} (h1 : rest < step) (h2 : step < 4) (h3 : g < 9) : (cl rest step g).Ok := ⟨show 3 < 4 by decide, h1, h2, show 0 < 2 by decide, show 0 < 1 by decide, show 1 < 5 by decide, h3⟩
theorem one_ok {c : Cl} (h : c.Ok) : ROk [c] := ⟨show 0 < 1 by decide, show 1 ≤ 3 by decide, fun x hx => by rw [List.mem_singleton.mp hx]; exact h, by
  by_cases e : c.w = 3
  · exact .inl fun x hx => by rw [List.mem_singleton.mp hx]; exact e
  · exact .inr fun x hx => by rw [List.mem_singleton.mp hx]; exact e, List.pairwise_singleton _ _⟩
theorem no_calls {ls above : List Nat} {r : List Cl} (h : ∀ c ∈ r, c.w ≠ 3) : Calls ls above r := fun c hc hw => absurd hw (h c hc)
theorem good_ok {n at_ : Nat} {ls : List Nat} {μ : Mu} (h : Cup n μ) (hls : ∀ x ∈ ls, x < 9) (hat : at_ < ls.length) :
    ∃ (p : Pl) (μ' : Mu), F__law_good [.loc n, .lst (ls.map nmD), .int at_] μ = .ok p.dat μ' ∧ PGood ls at_ p ∧ Sip n μ μ' := by
  obtain ⟨b, μ1, e1, h1, s1⟩ := sip_ok (top := 3) h (by decide) (by decide)
  obtain ⟨k, μ2, e2, h2, s2⟩ := sip_ok (top := 4) (s1.cup h) (by decide) (by decide)
  change F__law_sip [.loc n, .int 3] μ = _ at e1
  change F__law_sip [.loc n, .int 4] μ1 = _ at e2
  have s := s1.trans s2
  obtain ⟨x, hx⟩ : ∃ x, ls[at_]? = some x := ⟨ls[at_], List.getElem?_eq_getElem hat⟩
  have hxm := List.mem_of_getElem? hx
  have hx9 := hls x hxm
  have fin : ∀ (g : Gl) (rs : List (List Cl)), g.Ok → 0 < rs.length → rs.length ≤ 5 → (∀ r ∈ rs, ROk r ∧ Calls ls (ls.take (at_ + 1)) r) → PGood ls at_ ⟨x, g, 1 + b, rs⟩ := fun g rs hg l0 l1 hr =>
    ⟨⟨hx9, hg, show 1 ≤ 1 + b by omega, show 1 + b ≤ 4 by omega, l0, l1, fun r h => (hr r h).1⟩, hx, fun r h => (hr r h).2⟩
  have ex : ∀ (g : Gl) (rs : List (List Cl)), exitD μ.length (.lst [nmD x, g.dat, .int (1 + (b : Int)), .lst (rs.map fun r => .lst (r.map Cl.dat))]) μ2 = .ok (⟨x, g, 1 + b, rs⟩ : Pl).dat μ2 := fun g rs => by
    have hd : (⟨x, g, 1 + b, rs⟩ : Pl).dat = .lst [nmD x, g.dat, .int (1 + (b : Int)), .lst (rs.map fun r => .lst (r.map Cl.dat))] := by
      show D.lst [_, _, D.int ((1 + b : Nat) : Int), _] = _
      rw [show ((1 + b : Nat) : Int) = 1 + (b : Int) by omega]
      rfl
    rw [← hd, exit_in (Pl.dat_in _ _), s.take rfl]
  have jo : ∀ (r : List Cl), (∀ c ∈ r, c.w ≠ 3) → ROk r → ROk r ∧ Calls ls (ls.take (at_ + 1)) r := fun r h1 h2 => ⟨h2, no_calls h1⟩
  have j1 : ∀ {a b c : Nat}, a < b → b < 4 → 0 < c → c < 5 → ROk [jn a b c] ∧ Calls ls (ls.take (at_ + 1)) [jn a b c] := fun p q r t => jo _ (fun c hc => by rw [List.mem_singleton.mp hc]; exact show (0 : Nat) ≠ 3 by decide) (one_ok (jn_ok p q r t))
  have c1 : ∀ {a b : Nat}, a < b → b < 4 → 1 < b → ROk [cl a b x] ∧ Calls ls (ls.take (at_ + 1)) [cl a b x] := fun {a b} p q r => ⟨one_ok (cl_ok p q hx9), fun c hc _ => by
    rw [List.mem_singleton.mp hc]
    exact ⟨hxm, fun z => by have : b = 1 := z; omega⟩⟩
  have cat : ∀ (xs ys : List D) (m : Mu), xs.length + ys.length ≤ 100 → addD (.lst xs) (.lst ys) m = .ok (.lst (xs ++ ys)) m := fun xs ys m hl => by
    show (if xs.length + ys.length ≤ sizeLine then Out.ok (D.lst (xs ++ ys)) m else .stuck) = _
    rw [if_pos (by unfold sizeLine; omega)]
  have : k = 0 ∨ k = 1 ∨ k = 2 ∨ k = 3 := by omega
  rcases this with rfl | rfl | rfl | rfl
  · refine ⟨⟨x, .last 2, 1 + b, [[jn 0 1 1]]⟩, μ2, ?_, fin _ _ ⟨by decide, by decide⟩ (by decide) (by decide) (fun r hr => ?_), s⟩
    · rw [← ex]
      simp only [F__law_good, B__law_good, fn_ap, rho0, List.map, List.replicate, List.length, Nat.reduceSub, Nat.reduceAdd, List.cons_append, List.nil_append, AP, PAR, AV, AB, LS, e1, e2, OI, label_ix hx, EQ]
      rfl
    · rw [List.mem_singleton.mp hr]
      exact j1 (by decide) (by decide) (by decide) (by decide)
  · refine ⟨⟨x, .last 4, 1 + b, [[jn 0 1 1], [jn 0 1 2]]⟩, μ2, ?_, fin _ _ ⟨by decide, by decide⟩ (by decide) (by decide) (fun r hr => ?_), s⟩
    · rw [← ex]
      simp only [F__law_good, B__law_good, fn_ap, rho0, List.map, List.replicate, List.length, Nat.reduceSub, Nat.reduceAdd, List.cons_append, List.nil_append, AP, PAR, AV, AB, LS, e1, e2, OI, label_ix hx, EQ]
      rfl
    · simp only [List.mem_cons, List.not_mem_nil, or_false] at hr
      rcases hr with rfl | rfl
      · exact j1 (by decide) (by decide) (by decide) (by decide)
      · exact j1 (by decide) (by decide) (by decide) (by decide)
  · refine ⟨⟨x, .all, 1 + b, [[jn 1 2 1], [cl 1 2 x], [jn 0 2 1]]⟩, μ2, ?_, fin _ _ trivial (show 0 < 3 by decide) (show 3 ≤ 5 by decide) (fun r hr => ?_), s⟩
    · rw [← ex]
      simp only [F__law_good, B__law_good, fn_ap, rho0, List.map, List.replicate, List.length, Nat.reduceSub, Nat.reduceAdd, List.cons_append, List.nil_append, AP, PAR, AV, AB, LS, e1, e2, OI, label_ix hx, EQ]
      rfl
    · simp only [List.mem_cons, List.not_mem_nil, or_false] at hr
      rcases hr with rfl | rfl | rfl
      · exact j1 (by decide) (by decide) (by decide) (by decide)
      · exact c1 (by decide) (by decide) (by decide)
      · exact j1 (by decide) (by decide) (by decide) (by decide)
  · refine ⟨⟨x, .all, 1 + b, [[jn 1 3 1], [jn 2 3 1], [cl 2 3 x], [jn 0 3 1, jn 1 3 2]]⟩, μ2, ?_, fin _ _ trivial (show 0 < 4 by decide) (show 4 ≤ 5 by decide) (fun r hr => ?_), s⟩
    · rw [← ex]
      simp only [F__law_good, B__law_good, fn_ap, rho0, List.map, List.replicate, List.length, Nat.reduceSub, Nat.reduceAdd, List.cons_append, List.nil_append, AP, PAR, AV, AB, LS, e1, e2, OI, label_ix hx, EQ]
      rfl
    · simp only [List.mem_cons, List.not_mem_nil, or_false] at hr
      rcases hr with rfl | rfl | rfl | rfl
      · exact j1 (by decide) (by decide) (by decide) (by decide)
      · exact j1 (by decide) (by decide) (by decide) (by decide)
      · exact c1 (by decide) (by decide) (by decide)
      · refine jo _ (fun c hc => ?_) ⟨by decide, by decide, fun c hc => ?_, .inr fun c hc => ?_, ?_⟩
        · simp only [List.mem_cons, List.not_mem_nil, or_false] at hc
          rcases hc with rfl | rfl <;> exact show (0 : Nat) ≠ 3 by decide
        · simp only [List.mem_cons, List.not_mem_nil, or_false] at hc
          rcases hc with rfl | rfl
          · exact jn_ok (by decide) (by decide) (by decide) (by decide)
          · exact jn_ok (by decide) (by decide) (by decide) (by decide)
        · simp only [List.mem_cons, List.not_mem_nil, or_false] at hc
          rcases hc with rfl | rfl <;> exact show (0 : Nat) ≠ 3 by decide
        · refine List.pairwise_cons.mpr ⟨fun c hc => ?_, List.pairwise_singleton _ _⟩
          rw [List.mem_singleton.mp hc]
          exact ⟨rfl, show (1 : Nat) ≠ 0 by decide⟩
theorem sketch_ok {n span most : Nat} {μ : Mu} (h : Cup n μ) (hs0 : 0 < span) (hs : span ≤ 4) (hm0 : 0 < most) (hm : most ≤ 5) :
    ∃ (sk : List Pl) (μ' : Mu), F__law_sketch [.loc n, .int span, .int most] μ = .ok (skD sk) μ' ∧ SOk sk ∧ sk.length = span ∧ Sip n μ μ' := by
  obtain ⟨ls, μ1, e1, hlen, hls, hnd, s1⟩ := labels_ok (span := span) h (by omega)
  have hl1 : μ1.length = μ.length := s1.len
  let I : Nat → Rho → Mu → Prop := fun k r m => (∃ a, r = [some (.loc n), some (.int span), some (.int most), some (.lst (ls.map nmD)), some (.loc μ.length), a]) ∧ ∃ (ν : Mu) (ps : List Pl), m = ν ++ [.lst (ps.map Pl.dat)] ∧ Sip n μ ν ∧ ps.length = k ∧ ∀ i p, ps[i]? = some p → PGood ls i p
  have lp : ∃ r' m', loopF (gNm 5) (sExpr (xBM "list" appF (xVar 4) (xaCons (xIf (xTest (xOp eqD (xCall F__law_sip (xaCons (xVar 0) (xaCons (xC (.int 2)) xaNil))) (xC (.int 0)))) (xCall F__law_good (xaCons (xVar 0) (xaCons (xVar 3) (xaCons (xVar 5) xaNil)))) (xCall F__law_plan (xaCons (xVar 0) (xaCons (xVar 3) (xaCons (xVar 5) (xaCons (xVar 2) xaNil)))))) xaNil))) (rngL 0 span) [some (.loc n), some (.int span), some (.int most), some (.lst (ls.map nmD)), some (.loc μ.length), none] (μ1 ++ [.lst []]) = .next r' m' ∧ I (0 + (rngL 0 span).length) r' m' := by
    refine loop_inv I ⟨⟨none, rfl⟩, μ1, [], rfl, s1, rfl, fun i p hp => by simp at hp⟩ fun i x r m hx hi => ?_
    obtain ⟨⟨a, rfl⟩, ν, ps, rfl, sν, hpl, hps⟩ := hi
    have hil : i < span := by
      have := (List.getElem?_eq_some_iff.mp hx).1
      simpa [rngL] using this
    rw [rng_get hil] at hx
    cases hx
    rw [Nat.zero_add] at hpl
    have hcν : Cup n ν := sν.cup h
    have hat : i < ls.length := by omega
    obtain ⟨q, m1, e2, hq, s2⟩ := sip_ok (top := 2) (hcν.app [.lst (ps.map Pl.dat)]) (by decide) (by decide)
    change F__law_sip [.loc n, .int 2] (ν ++ [.lst (ps.map Pl.dat)]) = _ at e2
    have hlν : ν.length = μ.length := sν.len
    have c2 := s2.cup (hcν.app [.lst (ps.map Pl.dat)])
    have nxt : ∃ p m2, (xIf (xTest (xOp eqD (xCall F__law_sip (xaCons (xVar 0) (xaCons (xC (.int 2)) xaNil))) (xC (.int 0)))) (xCall F__law_good (xaCons (xVar 0) (xaCons (xVar 3) (xaCons (xVar 5) xaNil)))) (xCall F__law_plan (xaCons (xVar 0) (xaCons (xVar 3) (xaCons (xVar 5) (xaCons (xVar 2) xaNil)))))) [some (.loc n), some (.int span), some (.int most), some (.lst (ls.map nmD)), some (.loc μ.length), some (.int (i : Nat))] (ν ++ [.lst (ps.map Pl.dat)]) = .ok (Pl.dat p) m2 ∧ PGood ls i p ∧ Sip n (ν ++ [.lst (ps.map Pl.dat)]) m2 := by
      by_cases hq0 : q = 0
      · obtain ⟨p, m2, e3, g, s3⟩ := good_ok (at_ := i) c2 hls hat
        refine ⟨p, m2, ?_, g, s2.trans s3⟩
        have hb : ((q : Int) == 0) = true := by simp; omega
        simp only [AP, AV, AB, LS, e2, EQ, hb, if_true, e3]
      · obtain ⟨p, m2, e3, g, s3⟩ := plan_ok (at_ := i) (most := most) c2 hls hnd (by omega) hat hm0 hm
        refine ⟨p, m2, ?_, g, s2.trans s3⟩
        have hb : ((q : Int) == 0) = false := by simp; omega
        simp only [AP, AV, AB, LS, e2, EQ, hb, Bool.false_eq_true, if_false, e3]
    obtain ⟨p, m2, e3, g, s3⟩ := nxt
    obtain ⟨ν2, s4, rfl⟩ := s3.app hcν.lt
    have hl2 : ν2.length = μ.length := s4.len.trans hlν
    have hpu : appF [.loc μ.length, p.dat] (ν2 ++ [.lst (ps.map Pl.dat)]) = .ok .non (ν2 ++ [.lst ((ps ++ [p]).map Pl.dat)]) := by
      show (pushD μ.length p.dat _).bind _ = _
      unfold pushD
      rw [List.getElem?_append_right (by omega), ← hl2, Nat.sub_self]
      simp only [List.getElem?_cons_zero]
      rw [if_pos ⟨p.dat_in _, by rw [List.length_map]; unfold sizeLine; omega⟩, List.set_append_right _ _ (Nat.le_refl _), Nat.sub_self]
      simp [Out.bind]
    refine ⟨[some (.loc n), some (.int span), some (.int most), some (.lst (ls.map nmD)), some (.loc μ.length), some (.int (i : Nat))], ν ++ [.lst (ps.map Pl.dat)], [some (.loc n), some (.int span), some (.int most), some (.lst (ls.map nmD)), some (.loc μ.length), some (.int (i : Nat))], ν2 ++ [.lst ((ps ++ [p]).map Pl.dat)], by simp only [AP, LS, Int.zero_add], ?_, ⟨_, rfl⟩, ν2, ps ++ [p], rfl, sν.trans s4, by rw [List.length_append, List.length_singleton]; omega, fun j u hu => ?_⟩
    · have ht : tyD "list" (ν ++ [.lst (ps.map Pl.dat)]) (.loc μ.length) = true := by
        show ("list" == "list" && (lstOf (ν ++ [.lst (ps.map Pl.dat)]) (.loc μ.length)).isSome) = true
        unfold lstOf
        rw [← hlν]
        simp
      show Out.stm _ ((xVar 4 _ _).bind _) _ = _
      simp only [AV, LS, AB, ht, if_true]
      show Out.stm _ ((Out.bind (Out.bind (xIf _ _ _ _ _) _) _)) _ = _
      rw [e3]
      simp only [AB, AP, hpu]
    · by_cases hj : j < ps.length
      · rw [List.getElem?_append_left hj] at hu
        exact hps j u hu
      · rw [List.getElem?_append_right (by omega)] at hu
        have : j = ps.length := by
          by_cases e : j - ps.length = 0
          · omega
          · obtain ⟨z, ez⟩ := Nat.exists_eq_succ_of_ne_zero e
            rw [ez] at hu
            cases hu
        subst this
        rw [Nat.sub_self] at hu
        cases hu
        rw [hpl]
        exact g
  obtain ⟨r', m', e2, ⟨a, rfl⟩, ν, sk, rfl, sν, hkl, hps⟩ := lp
  have hkl : sk.length = span := by
    rw [hkl]
    simp [rngL]
  have hnames : sk.map Pl.nm = ls := by
    refine List.ext_getElem? fun i => ?_
    rw [List.getElem?_map]
    cases hi : sk[i]? with
    | some p => exact (hps i p hi).nm.symm
    | none =>
      rw [List.getElem?_eq_none_iff] at hi
      exact (List.getElem?_eq_none (by omega)).symm
  have hok : SOk sk := ⟨by omega, by omega, fun p hp => by
      obtain ⟨i, hi⟩ := List.getElem?_of_mem hp
      exact (hps i p hi).ok, by rw [hnames]; exact hnd, fun i p hp r hr => by
      rw [hnames]
      exact (hps i p hp).calls r hr⟩
  refine ⟨sk, ν, ?_, hok, hkl, sν⟩
  have hlν : ν.length = μ.length := sν.len
  have hx : exitD μ.length (.loc μ.length) (ν ++ [.lst (sk.map Pl.dat)]) = .ok (skD sk) ν := by
    unfold exitD
    rw [if_neg (by simp [D.inB])]
    simp only [← hlν]
    rw [List.getElem?_append_right (Nat.le_refl _), Nat.sub_self]
    simp only [List.getElem?_cons_zero]
    rw [if_pos (inL_map _ _ _ fun p _ => p.dat_in _)]
    simp
    rfl
  rw [← hl1] at e2
  simp only [F__law_sketch, B__law_sketch, fn_ap, rho0, List.map, List.replicate, List.length, Nat.reduceSub, Nat.reduceAdd, List.cons_append, List.nil_append, AP, PAR, AV, AB, LS, e1, D.inL, if_true, rng1_ok (show span < 2 ^ 62 by omega), e2, Bool.false_eq_true, if_false]
  rw [hl1]
  exact hx
end J

namespace J
open PySem PySem.Spec PyProof.Rows L2 DS
/-! ### texts of data -/
structure Shw (p : PyData) (k w : Nat) : Prop where
  sh : p.showable = true
  dp : p.depth ≤ k
  nd : p.hasDict = false
  lv : p.leavesShort 30 = true
  wt : p.weight ≤ w
structure ShwL (p : List PyData) (k w : Nat) : Prop where
  sh : PyData.showableAll p = true
  dp : PyData.depthAll p ≤ k
  nd : PyData.hasDictAll p = false
  lv : PyData.leavesShortAll 30 p = true
  wt : PyData.weightAll p ≤ w
theorem ShwL.nil {k w : Nat} : ShwL [] k w := ⟨rfl, Nat.zero_le _, rfl, rfl, Nat.zero_le _⟩
theorem ShwL.cons {p : PyData} {ps : List PyData} {k w v : Nat} (h : Shw p k w) (g : ShwL ps k v) : ShwL (p :: ps) k (w + 1 + v) :=
  ⟨by rw [PyData.showableAll, h.sh, g.sh]; rfl, by rw [PyData.depthAll]; exact Nat.max_le.mpr ⟨h.dp, g.dp⟩, by rw [PyData.hasDictAll, h.nd, g.nd]; rfl, by rw [PyData.leavesShortAll, h.lv, g.lv]; rfl, by rw [PyData.weightAll]; have := h.wt; have := g.wt; omega⟩
theorem ShwL.all {ps : List PyData} {k w : Nat} (h : ∀ p ∈ ps, Shw p k w) : ShwL ps k ((w + 1) * ps.length) := by
  induction ps with
  | nil => exact .nil
  | cons p ps ih =>
    have := ShwL.cons (h p (List.mem_cons_self ..)) (ih fun q hq => h q (List.mem_cons_of_mem _ hq))
    rw [List.length_cons, Nat.mul_succ, Nat.add_comm]
    exact this
theorem Shw.tup {ps : List PyData} {k w : Nat} (h : ShwL ps k w) : Shw (.tuple ps) (k + 1) w :=
  ⟨by rw [PyData.showable]; exact h.sh, by rw [PyData.depth]; exact Nat.succ_le_succ h.dp, by rw [PyData.hasDict]; exact h.nd, by rw [PyData.leavesShort]; exact h.lv, by rw [PyData.weight]; exact h.wt⟩
theorem Shw.lst {ps : List PyData} {k w : Nat} (h : ShwL ps k w) : Shw (.list ps) (k + 1) w :=
  ⟨by rw [PyData.showable]; exact h.sh, by rw [PyData.depth]; exact Nat.succ_le_succ h.dp, by rw [PyData.hasDict]; exact h.nd, by rw [PyData.leavesShort]; exact h.lv, by rw [PyData.weight]; exact h.wt⟩
theorem repr_of {d : D} {p : PyData} {k w : Nat} {m : Mu} (e : toP (dere m d) = some p) (h : Shw p k w) (hk : k ≤ 60) (hw : w ≤ 400000) : reprF [d] m = .ok (.str p.shown) m := by
  have h1 := PyData.shown_le 30 (by decide) p h.lv
  have h2 := h.wt
  have h3 := h.dp
  unfold reprF
  simp only [e]
  rw [if_pos ⟨h.sh, by omega, h.nd, by unfold sizeLine; omega⟩]
def nmP (g : Nat) : PyData := .str (nmS g)
theorem nm_chk : ∀ g < 9, ((nmS g).cps.toList.all fun c => decide (c < 16 ^ 8)) = true ∧ (nmS g).cps.size ≤ 8 := by decide +kernel
theorem nm_shw {g : Nat} (h : g < 9) : Shw (nmP g) 0 8 := ⟨rfl, Nat.le_refl _, rfl, (nm_chk g h).1, (nm_chk g h).2⟩
theorem toPs_nm : ∀ us : List Nat, toPs (us.map nmD) = some (us.map nmP)
  | [] => rfl
  | u :: us => by
    rw [List.map_cons, toPs, toPs_nm us]
    rfl

/-! ### loops that look for something -/
theorem loop_find {α : Type} {g : XG} {body : XS} {μ : Mu} (e : α → D) (I : Rho → Prop) (f : α → Option D) : ∀ {xs : List α} {r : Rho}, I r →
    (∀ x ∈ xs, ∀ r, I r → ∃ r1, g (e x) r μ = .ok r1 μ ∧ (∀ d, f x = some d → body r1 μ = .ret d μ) ∧ (f x = none → ∃ r2, body r1 μ = .next r2 μ ∧ I r2)) →
    (∀ d, xs.findSome? f = some d → loopF g body (xs.map e) r μ = .ret d μ) ∧ (xs.findSome? f = none → ∃ r', loopF g body (xs.map e) r μ = .next r' μ ∧ I r')
  | [], r, h, _ => ⟨(fun d h => nomatch h), fun _ => ⟨r, rfl, h⟩⟩
  | x :: xs, r, h, hs => by
    obtain ⟨r1, h1, h2, h3⟩ := hs x (List.mem_cons_self ..) r h
    rw [List.map_cons, loopF, h1]
    simp only [AB]
    cases hf : f x with
    | some d =>
      rw [List.findSome?_cons_of_isSome (by rw [hf]; rfl), hf]
      refine ⟨fun d' e => ?_, (fun e => nomatch e)⟩
      cases e
      rw [h2 d hf]
    | none =>
      obtain ⟨r2, h4, h5⟩ := h3 hf
      rw [List.findSome?_cons_of_isNone (by rw [hf]; rfl), h4]
      exact loop_find e I f h5 fun y hy => hs y (List.mem_cons_of_mem _ hy)
/-! ### comprehensions with any target -/
theorem lc_gen {α : Type} {g : XG} {tt : XT} {te : XE'} {r0 : Rho} {μ : Mu} (e : α → D) (b : α → Bool) (f : α → D) (ρ : α → Rho) {xs : List α}
    (h0 : ∀ x ∈ xs, ∀ m, g (e x) r0 m = .ok (ρ x) m)
    (h1 : ∀ x ∈ xs, ∀ acc, tt (ρ x) (μ ++ [.lst acc]) = .ok (b x) (μ ++ [.lst acc]))
    (h2 : ∀ x ∈ xs, b x = true → ∀ acc, te (ρ x) (μ ++ [.lst acc]) = .ok (f x) (μ ++ [.lst acc]))
    (h3 : ∀ x ∈ xs, b x = true → (f x).inB μ.length = true) (hl : xs.length ≤ sizeLine) :
    lcD g tt te r0 (xs.map e) μ = .ok (.lst ((xs.filter b).map f)) μ := by
  have go : ∀ (ys : List α) (acc : List D), (∀ y ∈ ys, y ∈ xs) → acc.length + ys.length ≤ sizeLine → lcF g tt te μ.length r0 (ys.map e) (μ ++ [.lst acc]) = .ok () (μ ++ [.lst (acc ++ (ys.filter b).map f)]) := fun ys => by
    induction ys with
    | nil => intro acc _ _; simp [lcF]
    | cons y ys ih =>
      intro acc hm hl
      rw [List.length_cons] at hl
      have hy := hm y (List.mem_cons_self ..)
      rw [List.map_cons, lcF]
      simp only [h0 y hy, Out.ne, Out.bind, h1 y hy acc]
      cases hb : b y
      · simp only [Bool.false_eq_true, if_false, List.filter_cons, hb]
        exact ih acc (fun z hz => hm z (List.mem_cons_of_mem _ hz)) (by omega)
      · have e : pushD μ.length (f y) (μ ++ [.lst acc]) = .ok () (μ ++ [.lst (acc ++ [f y])]) := by
          unfold pushD
          rw [List.getElem?_append_right (Nat.le_refl _), Nat.sub_self]
          simp only [List.getElem?_cons_zero]
          rw [if_pos ⟨h3 y hy hb, by omega⟩, List.set_append_right _ _ (Nat.le_refl _), Nat.sub_self]
          rfl
        simp only [if_true, List.filter_cons, hb, h2 y hy hb acc, e]
        rw [ih (acc ++ [f y]) (fun z hz => hm z (List.mem_cons_of_mem _ hz)) (by rw [List.length_append]; simp; omega)]
        simp
  unfold lcD
  rw [go xs [] (fun _ h => h) (by simpa using hl)]
  simp [Out.bind, lcEnd]
/-- two clauses: each of the first gives a list, all of it is kept -/
theorem lc_flat {α β : Type} {i j : Nat} {fi : XA} {r0 : Rho} {μ : Mu} (e : α → D) (k : α → List β) (d : β → D) {xs : List α} (hij : i < r0.length) (hj : j < r0.length) (hne : i ≠ j)
    (h1 : ∀ x ∈ xs, ∀ acc, fi (r0.set i (some (e x))) (μ ++ [.lst acc]) = .ok ((k x).map d) (μ ++ [.lst acc]))
    (h3 : ∀ y, (d y).inB μ.length = true) (hl : (xs.flatMap k).length ≤ sizeLine) :
    lc2D (gNm i) xYes fi [j] (gNm j) xYes (xVar j) r0 (xs.map e) μ = .ok (.lst ((xs.flatMap k).map d)) μ := by
  have inner : ∀ (r : Rho) (ys : List β) (acc : List D), j < r.length → acc.length + ys.length ≤ sizeLine → lcF (gNm j) xYes (xVar j) μ.length r (ys.map d) (μ ++ [.lst acc]) = .ok () (μ ++ [.lst (acc ++ ys.map d)]) := fun r ys => by
    induction ys with
    | nil => intro acc _ _; simp [lcF]
    | cons y ys ih =>
      intro acc hr hl
      rw [List.length_cons] at hl
      have e : pushD μ.length (d y) (μ ++ [.lst acc]) = .ok () (μ ++ [.lst (acc ++ [d y])]) := by
        unfold pushD
        rw [List.getElem?_append_right (Nat.le_refl _), Nat.sub_self]
        simp only [List.getElem?_cons_zero]
        rw [if_pos ⟨h3 y, by omega⟩, List.set_append_right _ _ (Nat.le_refl _), Nat.sub_self]
        rfl
      rw [List.map_cons, lcF]
      simp only [gNm, Out.ne, Out.bind, xYes, if_true, AV, List.getElem?_set_self hr, e]
      rw [ih (acc ++ [d y]) hr (by rw [List.length_append]; simp; omega)]
      simp
  have go : ∀ (ys : List α) (acc : List D), (∀ y ∈ ys, y ∈ xs) → acc.length + (ys.flatMap k).length ≤ sizeLine → lcG (gNm i) xYes fi [j] (gNm j) xYes (xVar j) μ.length r0 (ys.map e) (μ ++ [.lst acc]) = .ok () (μ ++ [.lst (acc ++ (ys.flatMap k).map d)]) := fun ys => by
    induction ys with
    | nil => intro acc _ _; simp [lcG]
    | cons y ys ih =>
      intro acc hm hl
      rw [List.flatMap_cons, List.length_append] at hl
      have hy := hm y (List.mem_cons_self ..)
      rw [List.map_cons, lcG]
      simp only [show gNm i (e y) r0 (μ ++ [.lst acc]) = .ok (r0.set i (some (e y))) (μ ++ [.lst acc]) from rfl, Out.ne, Out.bind, show xYes (r0.set i (some (e y))) (μ ++ [.lst acc]) = .ok true (μ ++ [.lst acc]) from rfl, if_true, h1 y hy acc]
      have hin := inner (wipeR (r0.set i (some (e y))) [j]) (k y) acc (by simp [wipeR]; exact hj) (by omega)
      rw [hin]
      simp only
      rw [ih (acc ++ (k y).map d) (fun z hz => hm z (List.mem_cons_of_mem _ hz)) (by rw [List.length_append, List.length_map]; omega)]
      simp
  unfold lc2D
  rw [go xs [] (fun _ h => h) (by simpa using hl)]
  simp [Out.bind, lcEnd]
/-! ### lists of numbers beside [] -/
theorem toPs_int : ∀ ns : List Int, toPs (ns.map D.int) = some (ns.map PyData.int)
  | [] => rfl
  | n :: ns => by
    rw [List.map_cons, toPs, toPs_int ns]
    rfl
theorem canLay_int : ∀ ns : List Int, PyData.canLayAll0 (ns.map PyData.int) = true
  | [] => rfl
  | n :: ns => by
    rw [List.map_cons, PyData.canLayAll0, canLay_int ns]
    rfl
theorem depth_int : ∀ ns : List Int, PyData.depthAll (ns.map PyData.int) = 0
  | [] => rfl
  | n :: ns => by
    rw [List.map_cons, PyData.depthAll, depth_int ns]
    rfl
theorem eq_nil (ns : List Int) (m : Mu) : eqB m (.lst (ns.map .int)) (.lst []) = some ns.isEmpty := by
  unfold eqB
  have e : toP (dere m (.lst (ns.map .int))) = some (.list (ns.map PyData.int)) := by
    show toP (.lst (ns.map .int)) = _
    rw [toP, toPs_int]
    rfl
  have e2 : toP (dere m (.lst [])) = some (.list []) := rfl
  rw [e, e2]
  have hs : SeqAt.shaped (.list (ns.map PyData.int)) = true := by
    unfold SeqAt.shaped
    rw [PyData.canLay0, canLay_int, PyData.depth, depth_int]
    rfl
  simp only [hs, show SeqAt.shaped (.list []) = true from rfl, Bool.and_true, if_true]
  cases ns <;> rfl
theorem ne_nil (ns : List Int) (m : Mu) : neD (.lst (ns.map .int)) (.lst []) m = .ok (.bl (!ns.isEmpty)) m := by
  show (match eqB m (.lst (ns.map .int)) (.lst []) with
    | some b => Out.ok (D.bl (!b)) m
    | none => .stuck) = _
  rw [eq_nil]
theorem eq_nil' (ns : List Int) (m : Mu) : eqD (.lst (ns.map .int)) (.lst []) m = .ok (.bl ns.isEmpty) m := by
  show (match eqB m (.lst (ns.map .int)) (.lst []) with
    | some b => Out.ok (D.bl b) m
    | none => .stuck) = _
  rw [eq_nil]
theorem ints_map : ∀ ns : List Int, intsL (ns.map D.int) = some ns
  | [] => rfl
  | n :: ns => by
    rw [List.map_cons]
    unfold intsL
    rw [ints_map ns]
    rfl
theorem sort_ok (ns : List Int) (m : Mu) : sortF [.lst (ns.map .int)] m = .ok (.lst ((sortI ns).map .int)) m := by
  unfold sortF
  simp only [lstOf, ints_map]
/-! ### books are asked -/
theorem bplan_ok {sk : List Pl} (h : SOk sk) {p : Pl} (hp : p ∈ sk) (μ : Mu) : F_Book_plan [bookD sk, nmD p.nm] μ = .ok p.parts μ := by
  have hn : ∀ z ∈ sk, ∀ m, eqD (.str (nmS z.nm)) (nmD p.nm) m = .ok (.bl (decide (z.nm = p.nm))) m := fun z hz m => by
    show Out.ok (D.bl (nmS z.nm == nmS p.nm)) m = _
    rw [nmS_eq _ (h.ok z hz).nm _ (h.ok p hp).nm]
  have key : ∃ z, sk.findSome? (fun z => if z.nm = p.nm then some z.parts else none) = some z ∧ z = p.parts := by
    cases hf : sk.findSome? (fun z => if z.nm = p.nm then some z.parts else none) with
    | none =>
      rw [List.findSome?_eq_none_iff] at hf
      have := hf p hp
      simp at this
    | some z =>
      obtain ⟨q, hq, e⟩ := List.exists_of_findSome?_eq_some hf
      split at e
      · rename_i hnm
        cases e
        refine ⟨_, rfl, ?_⟩
        have q1 := h.apart
        rw [List.Nodup, List.pairwise_map] at q1
        have : q = p := by
          obtain ⟨i, hi⟩ := List.getElem?_of_mem hq
          obtain ⟨j, hj⟩ := List.getElem?_of_mem hp
          obtain ⟨hil, ei⟩ := List.getElem?_eq_some_iff.mp hi
          obtain ⟨hjl, ej⟩ := List.getElem?_eq_some_iff.mp hj
          have w := List.pairwise_iff_getElem.mp q1
          rcases Nat.lt_trichotomy i j with hij | hij | hij
          · exact absurd (by rw [ei, ej]; exact hnm) (w i j hil hjl hij)
          · subst hij; rw [← ei, ← ej]
          · exact absurd (by rw [ei, ej]; exact hnm.symm) (w j i hjl hil hij)
        rw [this]
      · cases e
  obtain ⟨z, hz, rfl⟩ := key
  have lp := (loop_find (g := gNm 2) (μ := μ) (body := (sIf (xAndT (xTest (xCall (isiF cs) (xaCons (xVar 1) (xaCons (xC (.ty "str")) xaNil)))) (xTest (xOp eqD (xOp ixD (xVar 2) (xC (.int 0))) (xVar 1)))) (sRet (xVar 2)) sNil)) Pl.parts (fun r => ∃ a, r = [some (bookD sk), some (nmD p.nm), a]) (fun z => if z.nm = p.nm then some z.parts else none) (xs := sk) (r := [some (bookD sk), some (nmD p.nm), none]) ⟨_, rfl⟩ fun z hz r hr => by
    obtain ⟨a, rfl⟩ := hr
    refine ⟨[some (bookD sk), some (nmD p.nm), some z.parts], by simp only [AP, LS], fun d hd => ?_, fun hd => ⟨[some (bookD sk), some (nmD p.nm), some z.parts], ?_, ⟨_, rfl⟩⟩⟩
    all_goals
      have hix : ∀ m, ixD z.parts (.int 0) m = .ok (.str (nmS z.nm)) m := fun m => IX.2.2.2.2.1
      have hti : ∀ m, isiF cs [nmD p.nm, .ty "str"] m = .ok (.bl true) m := fun m => rfl
    · split at hd
      · rename_i hz2
        cases hd
        simp only [AP, AV, AB, LS, hti, if_true, hix, hn z hz, decide_eq_true hz2]
      · cases hd
    · split at hd
      · cases hd
      · rename_i hz2
        simp only [AP, AV, AB, LS, hti, if_true, hix, hn z hz, decide_eq_false hz2, Bool.false_eq_true, if_false]).1 _ hz
  have hx : exitD μ.length p.parts μ = .ok p.parts μ := by rw [exit_in (p.parts_in _), List.take_length]
  have hf : ∀ m, fldD "Book" "held" (bookD sk) m = .ok (.tup (sk.map Pl.parts)) m := fun _ => rfl
  simp only [F_Book_plan, B_Book_plan, fn_ap, rho0, List.map, List.replicate, List.length, Nat.reduceSub, Nat.reduceAdd, List.cons_append, List.nil_append, AP, AV, AB, LS, hf, lp, Bool.false_eq_true, if_false, hx]
theorem check_plan_ok {sk : List Pl} (h : SOk sk) {p : Pl} (hp : p ∈ sk) (μ : Mu) : F_check_plan [bookD sk, nmD p.nm] μ = .ok .non μ := by
  have hm : ∀ m, xMeth "Book" "plan" F_Book_plan (xVar 0) (xaCons (xVar 1) xaNil) [some (bookD sk), some (nmD p.nm)] m = F_Book_plan [bookD sk, nmD p.nm] m := fun _ => rfl
  simp only [F_check_plan, B_check_plan, fn_ap, rho0, List.map, List.replicate, List.length, Nat.reduceSub, Nat.reduceAdd, List.cons_append, List.nil_append, AP, AB, hm, bplan_ok h hp, List.take_length]
theorem check_book_ok (sk : List Pl) (μ : Mu) : F_check_book [bookD sk] μ = .ok .non μ := by
  have hi : ∀ m, isiF cs [bookD sk, .glo "Book"] m = .ok (.bl true) m := fun _ => rfl
  simp only [F_check_book, B_check_book, fn_ap, rho0, List.map, List.replicate, List.length, Nat.reduceSub, Nat.reduceAdd, List.cons_append, List.nil_append, AP, AV, AB, LS, hi, Bool.not_true, Bool.false_eq_true, if_false, List.take_length]
theorem look_map {sk : List Pl} (h : SOk sk) {p : Pl} (hp : p ∈ sk) : (sk.map fun p => (nmS p.nm, p.prog)).lookup (nmS p.nm) = some p.prog := by
  have key : ∀ l : List Pl, (∀ z ∈ l, z ∈ sk) → p ∈ l → (l.map fun p => (nmS p.nm, p.prog)).lookup (nmS p.nm) = some p.prog := fun l => by
    induction l with
    | nil => intro _ hm; cases hm
    | cons z l ih =>
      intro hs hm
      rw [List.map_cons, List.lookup_cons, nmS_eq _ (h.ok p hp).nm _ (h.ok z (hs z (List.mem_cons_self ..))).nm]
      by_cases e : p.nm = z.nm
      · rw [decide_eq_true e]
        have q1 := h.apart
        rw [List.Nodup, List.pairwise_map] at q1
        have hzs := hs z (List.mem_cons_self ..)
        have : z = p := by
          obtain ⟨i, hi⟩ := List.getElem?_of_mem hzs
          obtain ⟨j, hj⟩ := List.getElem?_of_mem hp
          obtain ⟨hil, ei⟩ := List.getElem?_eq_some_iff.mp hi
          obtain ⟨hjl, ej⟩ := List.getElem?_eq_some_iff.mp hj
          have w := List.pairwise_iff_getElem.mp q1
          rcases Nat.lt_trichotomy i j with hij | hij | hij
          · exact absurd (by rw [ei, ej]; exact e.symm) (w i j hil hjl hij)
          · subst hij; rw [← ei, ← ej]
          · exact absurd (by rw [ei, ej]; exact e) (w j i hjl hil hij)
        rw [this]
      · rw [decide_eq_false e]
        rcases List.mem_cons.mp hm with rfl | hm
        · exact absurd rfl e
        · exact ih (fun y hy => hs y (List.mem_cons_of_mem _ hy)) hm
  exact key sk (fun _ h => h) hp
theorem program_ok {sk : List Pl} (h : SOk sk) {p : Pl} (hp : p ∈ sk) (μ : Mu) : F_Book_program [bookD sk, nmD p.nm] μ = .ok p.prog μ := by
  have hf : ∀ m, fldD "Book" "parsed" (bookD sk) m = .ok (.dct (sk.map fun p => (nmS p.nm, p.prog))) m := fun _ => rfl
  have hg : ∀ m, dgetD (.dct (sk.map fun p => (nmS p.nm, p.prog))) (nmD p.nm) m = .ok p.prog m := fun m => by
    show (match getF (nmS p.nm) (sk.map fun p => (nmS p.nm, p.prog)) with
      | some x => Out.ok x m
      | none => .stuck) = _
    unfold getF
    rw [look_map h hp]
  have hx : exitD μ.length p.prog μ = .ok p.prog μ := by rw [exit_in (p.prog_in _), List.take_length]
  simp only [F_Book_program, B_Book_program, fn_ap, rho0, List.map, List.replicate, List.length, Nat.reduceSub, Nat.reduceAdd, List.cons_append, List.nil_append, AP, AV, AB, LS, hf, hg, Bool.false_eq_true, if_false, hx]
end J

namespace J
open PySem PySem.Spec PyProof.Rows L2 DS
/-! ### places of a class -/
def nD (k : Nat) : D := .int (k : Int)
def plc (c : Cl) (n : Nat) : List Nat := (List.range ((n - c.rest + c.step - 1) / c.step)).map fun k => c.rest + k * c.step
theorem size_nat {a n s : Nat} (hs : 0 < s) : Builtin.Range.rangeSize (a : Int) (n : Int) (s : Int) = (((n - a + s - 1) / s : Nat) : Int) := by
  unfold Builtin.Range.rangeSize
  rw [if_pos (by omega)]
  split
  · rename_i h
    have e1 : (n : Int) - a - 1 = ((n - a - 1 : Nat) : Int) := by omega
    rw [e1, ← Int.natCast_ediv]
    have e2 : n - a + s - 1 = n - a - 1 + s := by omega
    rw [e2, Nat.add_div_right _ hs]
    rfl
  · rename_i h
    have e2 : n - a = 0 := by omega
    rw [e2, Nat.zero_add, Nat.div_eq_of_lt (by omega)]
    rfl
theorem rng3_gen {a n s : Nat} (hs : 0 < s) (hs4 : s < 4) (ha : a < 4) (hn : n < 2 ^ 40) (m : Mu) : rngD3 [.int a, .int n, .int s] m = .ok (((List.range ((n - a + s - 1) / s)).map fun k => a + k * s).map nD) m := by
  have hz : (n - a + s - 1) / s ≤ n + s := Nat.le_trans (Nat.div_le_self _ _) (by omega)
  have hb : rgB a n s = true := by
    unfold rgB Builtin.Range.small Builtin.Range.rangeFitsLong
    rw [size_nat hs]
    generalize (n - a + s - 1) / s = z at *
    rw [if_pos (show (s : Int) > 0 by omega)]
    simp only [Bool.and_eq_true, Bool.or_eq_true, decide_eq_true_eq, beq_iff_eq]
    refine ⟨⟨by omega, by omega⟩, ⟨⟨⟨⟨⟨by omega, by omega⟩, by omega, by omega⟩, by omega, by omega⟩, by omega, by omega⟩, .inr ⟨by omega, by omega⟩⟩, by omega⟩
  unfold rngD3
  simp only [hb, if_true]
  rw [size_nat hs, Int.toNat_natCast]
  unfold rngC
  rw [List.map_map]
  congr 1
theorem Cl.Ok.step0 {c : Cl} (h : c.Ok) : 0 < c.step := Nat.lt_of_le_of_lt (Nat.zero_le _) h.rest
theorem rng3_ok {c : Cl} (h : c.Ok) {n : Nat} (hn : n < 2 ^ 40) (m : Mu) : rngD3 [.int c.rest, .int n, .int c.step] m = .ok ((plc c n).map nD) m := by
  have h1 := h.rest
  have h2 := h.step
  exact rng3_gen h.step0 h2 (by omega) hn m
theorem mem_plc {c : Cl} (h : 0 < c.step) (hr : c.rest < c.step) {n p : Nat} : p ∈ plc c n ↔ p < n ∧ p % c.step = c.rest := by
  unfold plc
  rw [List.mem_map]
  constructor
  · rintro ⟨k, hk, rfl⟩
    rw [List.mem_range, ← Nat.succ_le_iff, Nat.le_div_iff_mul_le h, Nat.succ_mul] at hk
    refine ⟨by omega, by rw [Nat.add_mul_mod_self_right, Nat.mod_eq_of_lt hr]⟩
  · rintro ⟨h1, h2⟩
    have hd := Nat.div_add_mod p c.step
    refine ⟨p / c.step, ?_, by rw [Nat.mul_comm]; omega⟩
    rw [List.mem_range, ← Nat.succ_le_iff, Nat.le_div_iff_mul_le h, Nat.succ_mul, Nat.mul_comm]
    omega
theorem plc_len (c : Cl) (n : Nat) : (plc c n).length ≤ n + 4 := by
  unfold plc
  rw [List.length_map, List.length_range]
  by_cases hs : c.step = 0
  · rw [hs, Nat.div_zero]
    omega
  · by_cases h : n - c.rest = 0
    · rw [h, Nat.zero_add, Nat.div_eq_of_lt (by omega)]
      omega
    · have : (n - c.rest + c.step - 1) / c.step ≤ n - c.rest := by
        rw [Nat.div_le_iff_le_mul_add_pred (by omega)]
        have := Nat.le_mul_of_pos_left (n - c.rest) (show 0 < c.step by omega)
        omega
      omega
theorem inL_nD (n : Nat) (xs : List Nat) : D.inL n (xs.map nD) = true := inL_map _ _ _ fun _ _ => rfl
theorem places_ok {c : Cl} (h : c.Ok) {n : Nat} (hn : n < 2 ^ 20) (μ : Mu) : F_places_of [c.obj, .int n] μ = .ok (.lst ((plc c n).map nD)) μ := by
  have hl : ((plc c n).map nD).length ≤ 16777216 := by
    rw [List.length_map]
    have := plc_len c n
    omega
  have hz : ∀ m, frzL ((plc c n).map nD) m = .ok (.lst ((plc c n).map nD)) m := fun m => by
    unfold frzL
    rw [if_pos hl]
  have hx : exitD μ.length (.lst ((plc c n).map nD)) μ = .ok (.lst ((plc c n).map nD)) μ := by rw [exit_in (by rw [D.inB]; exact inL_nD _ _), List.take_length]
  simp only [F_places_of, B_places_of, fn_ap, rho0, List.map, List.replicate, List.length, Nat.reduceSub, Nat.reduceAdd, List.cons_append, List.nil_append, AP, AV, AB, LS, xLstR, xiRng3, Cl.fld_rest, Cl.fld_step, rng3_ok h (show n < 2 ^ 40 by omega), hz, Bool.false_eq_true, if_false, hx]
/-! ### the place that is read besides -/
def rd (c : Cl) (p n : Nat) : Option Nat := if c.side = 0 then (if c.far ≤ p ∧ p - c.far < n then some (p - c.far) else none) else if p + c.far < n then some (p + c.far) else none
def optD : Option Nat → D
  | some k => nD k
  | none => .non
theorem optD_in (o : Option Nat) (n : Nat) : (optD o).inB n = true := by cases o <;> rfl
theorem side_left : ∀ s < 2, (sideS s == "left") = decide (s = 0) := by decide +kernel
theorem Cl.fld_side {c : Cl} (h : c.w < 2) (m : Mu) : fldD "Clause" "side" c.obj m = .ok (.str (sideS c.side)) m := by
  show Out.ok (if c.w < 2 then D.str (sideS c.side) else .non) m = _
  rw [if_pos h]
theorem Cl.fld_far {c : Cl} (h : c.w < 2) (m : Mu) : fldD "Clause" "far" c.obj m = .ok (.int c.far) m := by
  show Out.ok (if c.w < 2 then D.int c.far else .non) m = _
  rw [if_pos h]
theorem opt_exit {n : Nat} (o : Option Nat) (m : Mu) : exitD n (optD o) m = .ok (optD o) (m.take n) := exit_in (optD_in o n)
theorem read_at_ok {c : Cl} (h : c.Ok) (hw : c.w < 2) (p n : Nat) (μ : Mu) : F_read_at [c.obj, .int p, .int n] μ = .ok (optD (rd c p n)) μ := by
  have hs := h.side
  simp only [F_read_at, B_read_at, fn_ap, rho0, List.map, List.replicate, List.length, Nat.reduceSub, Nat.reduceAdd, List.cons_append, List.nil_append, AP, AV, AB, LS, Cl.fld_side hw, Cl.fld_far hw, EQ, side_left c.side hs, OI]
  by_cases h0 : c.side = 0
  · simp only [h0, decide_true, if_true, AB, AP, AV, LS, OI]
    by_cases h1 : c.far ≤ p
    · by_cases h2 : p - c.far < n
      · have e : rd c p n = some (p - c.far) := by unfold rd; rw [if_pos h0, if_pos ⟨h1, h2⟩]
        rw [e, decide_eq_true (show (0 : Int) ≤ (p : Int) - c.far by omega)]
        simp only [if_true, AV, AB, LS, OI, decide_eq_true (show (p : Int) - c.far < (n : Int) by omega), Bool.false_eq_true, if_false]
        have e2 : D.int ((p : Int) - c.far) = optD (some (p - c.far)) := by
          show _ = D.int ((p - c.far : Nat) : Int)
          congr 1
          omega
        rw [e2, opt_exit, List.take_length]
      · have e : rd c p n = none := by unfold rd; rw [if_pos h0, if_neg fun z => h2 z.2]
        rw [e, decide_eq_true (show (0 : Int) ≤ (p : Int) - c.far by omega)]
        simp only [if_true, AV, AB, LS, OI, decide_eq_false (show ¬ (p : Int) - c.far < (n : Int) by omega), Bool.false_eq_true, if_false]
        exact (opt_exit none μ).trans (by rw [List.take_length])
    · have e : rd c p n = none := by unfold rd; rw [if_pos h0, if_neg fun z => h1 z.1]
      rw [e, decide_eq_false (show ¬ (0 : Int) ≤ (p : Int) - c.far by omega)]
      simp only [AB, Bool.false_eq_true, if_false]
      exact (opt_exit none μ).trans (by rw [List.take_length])
  · simp only [h0, decide_false, Bool.false_eq_true, if_false, AB, AP, AV, LS, OI]
    rw [decide_eq_true (show (0 : Int) ≤ (p : Int) + c.far by omega)]
    by_cases h2 : p + c.far < n
    · have e : rd c p n = some (p + c.far) := by unfold rd; rw [if_neg h0, if_pos h2]
      rw [e]
      simp only [if_true, AV, AB, LS, OI, decide_eq_true (show (p : Int) + c.far < (n : Int) by omega), Bool.false_eq_true, if_false]
      exact (opt_exit (some (p + c.far)) μ).trans (by rw [List.take_length])
    · have e : rd c p n = none := by unfold rd; rw [if_neg h0, if_neg h2]
      rw [e]
      simp only [if_true, AV, AB, LS, OI, decide_eq_false (show ¬ (p : Int) + c.far < (n : Int) by omega), Bool.false_eq_true, if_false]
      exact (opt_exit none μ).trans (by rw [List.take_length])
end J

namespace J
open PySem PySem.Spec PyProof.Rows L2 DS
/-! ### the cup, and the law's walk over the turns (laws whose `law` is all([_law_right(_law_cup(..)) ..])) -/
theorem catX_ok {xs ys : List D} {m : Mu} (h : xs.length + ys.length ≤ 1000) : addD (.lst xs) (.lst ys) m = .ok (.lst (xs ++ ys)) m := by
  show (if xs.length + ys.length ≤ sizeLine then Out.ok (D.lst (xs ++ ys)) m else .stuck) = _
  rw [if_pos (by unfold sizeLine; omega)]
theorem cut_to' (xs : List D) (k : Nat) : DS.cutD xs none (some (k : Int)) = xs.take k := by
  unfold DS.cutD
  rw [HT.sIx_nat, HT.sIx_none, List.drop_zero, Nat.sub_zero]
  by_cases h : k ≤ xs.length
  · rw [Nat.min_eq_left h]
  · rw [Nat.min_eq_right (by omega), List.take_length, List.take_of_length_le (by omega)]
theorem seq_next {f g : XS} {r r' : Rho} {m m' : Mu} (e : f r m = .next r' m') : sSeq f g r m = g r' m' := by
  show (match f r m with
    | .next r' m' => g r' m'
    | o => o) = _
  rw [e]
theorem mul_ok' {i j : Int} {m : Mu} (h : -(2 ^ 64) < j ∧ j < 2 ^ 64) : mulD (.int i) (.int j) m = .ok (.int (i * j)) m := by
  unfold mulD mulOk
  simp only [decide_eq_true h, Bool.or_true, if_true]
theorem cup_ok (ns : List Int) (hl : ns.length ≤ 63) (turn : Nat) (μ : Mu) : ∃ a b c, F__law_cup [.fix (ns.map .int), .int turn] μ = .ok (.loc μ.length) (μ ++ [cupC a b c]) := by
  have lf : ∀ m, lenD [.fix (ns.map .int)] m = .ok (.int (ns.length : Nat)) m := fun m => by
    show Out.ok (D.int ((ns.map D.int).length : Nat)) m = _
    rw [List.length_map]
  obtain ⟨cell, hc⟩ : ∃ cell : Int, ∀ m, xIf (xTest (xOp ltD (xVar 1) (xCall lenD (xaCons (xVar 0) xaNil)))) (xOp ixD (xVar 0) (xVar 1)) (xOp addD (xVar 1) (xC (.int 2))) [some (.fix (ns.map .int)), some (.int turn), none, none, none] m = .ok (.int cell) m := by
    by_cases h : turn < ns.length
    · refine ⟨ns[turn], fun m => ?_⟩
      have hi : ∀ m, ixD (.fix (ns.map .int)) (.int (turn : Int)) m = .ok (.int ns[turn]) m := fun m => by
        unfold ixD
        simp only [lstOf, ix_at turn (ns.map .int) (.int ns[turn]) (by rw [List.getElem?_map, List.getElem?_eq_getElem h]; rfl)]
      simp only [AP, AV, AB, LS, lf, OI, decide_eq_true (show (turn : Int) < (ns.length : Nat) by omega), if_true, hi]
    · refine ⟨turn + 2, fun m => ?_⟩
      simp only [AP, AV, AB, LS, lf, OI, decide_eq_false (show ¬ (turn : Int) < (ns.length : Nat) by omega), Bool.false_eq_true, if_false]
  have hs : ∀ m, slD (.fix (ns.map .int)) none (some 4) m = .ok (.lst ((ns.take 4).map .int)) m := fun m => by
    show Out.ok (D.lst (DS.cutD (ns.map .int) none (some ((4 : Nat) : Int)))) m = _
    rw [cut_to', List.map_take]
  have ha : ∀ m, addD (.lst ((ns.take 4).map .int)) (.lst [.int cell]) m = .ok (.lst ((ns.take 4 ++ [cell]).map .int)) m := fun m => by
    rw [catX_ok (by rw [List.length_map, List.length_take]; simp; omega), List.map_append]
    rfl
  have lp : ∀ mix : Int, ∃ r', loopF (gNm 4) (sAsg (xOp modD (xCall intF (xaCons (xOp addD (xOp mulD (xVar 3) (xC (.int 26021))) (xVar 4)) xaNil)) (xC (.int 2147483477))) (gNm 3)) ((ns.take 4 ++ [cell]).map .int) [some (.fix (ns.map .int)), some (.int turn), some (.int cell), some (.int mix), none] μ = .next r' μ ∧ ∃ (mix : Int) (b : Option D), r' = [some (.fix (ns.map .int)), some (.int turn), some (.int cell), some (.int mix), b] := fun mix => by
    refine loop_keep (fun r' => ∃ (mix : Int) (b : Option D), r' = [some (.fix (ns.map .int)), some (.int turn), some (.int cell), some (.int mix), b]) ⟨mix, none, rfl⟩ fun x hx ρ hρ => ?_
    obtain ⟨mix, b, rfl⟩ := hρ
    obtain ⟨i, _, rfl⟩ := List.mem_map.mp hx
    refine ⟨[some (.fix (ns.map .int)), some (.int turn), some (.int cell), some (.int mix), some (.int i)], [some (.fix (ns.map .int)), some (.int turn), some (.int cell), some (.int ((mix * 26021 + i) % 2147483477)), some (.int i)], by simp only [AP, LS], ?_, ⟨_, _, rfl⟩⟩
    simp only [AP, AV, AB, LS, mul_ok' (show -(2 ^ 64) < (26021 : Int) ∧ (26021 : Int) < 2 ^ 64 by decide), OI, int_ok, md_ok (show (0 : Int) < 2147483477 by decide)]
  obtain ⟨r', l1, mix, b, rfl⟩ := lp (50021 + 8017 * turn)
  have hp : ∀ m, powD (.int 10) (.int 18) m = .ok (.int (10 ^ 18)) m := fun m => rfl
  have hx : ∃ top : Int, xIf (xOrT (xTest (xOp ltD (xVar 2) (xC (.int 0)))) (xTest (xOp geD (xVar 2) (xOp powD (xC (.int 10)) (xC (.int 18)))))) (xCall absF (xaCons (xVar 2) xaNil)) (xC (.int 0)) [some (.fix (ns.map .int)), some (.int turn), some (.int cell), some (.int mix), b] μ = .ok (.int top) μ := by
    simp only [AP, AV, AB, LS, OI, hp]
    by_cases h1 : cell < 0
    · simp only [decide_eq_true h1, if_true, AB]
      exact ⟨_, rfl⟩
    · simp only [decide_eq_false h1, Bool.false_eq_true, if_false]
      by_cases h2 : 10 ^ 18 ≤ cell
      · simp only [decide_eq_true h2, if_true, AB]
        exact ⟨_, rfl⟩
      · simp only [decide_eq_false h2, Bool.false_eq_true, if_false, AB]
        exact ⟨_, rfl⟩
  obtain ⟨top, hx⟩ := hx
  refine ⟨top, mix, 0, ?_⟩
  unfold F__law_cup B__law_cup
  rw [fn_ap]
  have f1 : sAsg (xIf (xTest (xOp ltD (xVar 1) (xCall lenD (xaCons (xVar 0) xaNil)))) (xOp ixD (xVar 0) (xVar 1)) (xOp addD (xVar 1) (xC (.int 2)))) (gNm 2) (rho0 5 [.fix (ns.map .int), .int turn]) μ = .next [some (.fix (ns.map .int)), some (.int turn), some (.int cell), none, none] μ := by
    show Out.stm _ (xIf _ _ _ [some (.fix (ns.map .int)), some (.int turn), none, none, none] μ) _ = _
    rw [hc]
    rfl
  rw [seq_next f1]
  have f2 : sAsg (xOp addD (xC (.int 50021)) (xOp mulD (xC (.int 8017)) (xVar 1))) (gNm 3) [some (.fix (ns.map .int)), some (.int turn), some (.int cell), none, none] μ = .next [some (.fix (ns.map .int)), some (.int turn), some (.int cell), some (.int (50021 + 8017 * turn)), none] μ := by
    simp only [AP, AV, AB, LS, mul_ok (show -(2 ^ 64) < (8017 : Int) ∧ (8017 : Int) < 2 ^ 64 by decide), OI]
  rw [seq_next f2]
  have f3 : sFor (xiSeq (xOp addD (xSl (xVar 0) xoN (xoS (xC (.int 4)))) (xLst (xaCons (xVar 2) xaNil)))) (gNm 4) (sAsg (xOp modD (xCall intF (xaCons (xOp addD (xOp mulD (xVar 3) (xC (.int 26021))) (xVar 4)) xaNil)) (xC (.int 2147483477))) (gNm 3)) [some (.fix (ns.map .int)), some (.int turn), some (.int cell), some (.int (50021 + 8017 * turn)), none] μ = .next [some (.fix (ns.map .int)), some (.int turn), some (.int cell), some (.int mix), b] μ := by
    rw [← l1]
    simp only [AP, AV, AB, LS, hs, ha]
  rw [seq_next f3]
  have f4 : ∀ {e : XE'} {d : D} {r : Rho} {m m' : Mu}, e r m = .ok d m' → sRet e r m = .ret d m' := fun {e d r m m'} h => by
    show Out.stm _ (e r m) _ = _
    rw [h]
    rfl
  have f5 : xNew (xaCons (xIf (xOrT (xTest (xOp ltD (xVar 2) (xC (.int 0)))) (xTest (xOp geD (xVar 2) (xOp powD (xC (.int 10)) (xC (.int 18)))))) (xCall absF (xaCons (xVar 2) xaNil)) (xC (.int 0))) (xaCons (xVar 3) (xaCons (xC (.int 0)) xaNil))) [some (.fix (ns.map .int)), some (.int turn), some (.int cell), some (.int mix), b] μ = .ok (.loc μ.length) (μ ++ [cupC top mix 0]) := by
    show Out.bind (Out.bind (xIf _ _ _ _ _) _) _ = _
    rw [hx]
    simp only [AP, AV, AB, LS]
    rfl
  rw [f4 f5]
  rfl
theorem lc_all {i : Nat} {te : XE'} {r0 : Rho} {xs : List D} (hl : xs.length ≤ 1000) (h : ∀ x ∈ xs, ∀ c ν, ∃ ν', te (r0.set i (some x)) (c :: ν) = .ok (.bl true) (c :: ν')) : lcD (gNm i) xYes te r0 xs [] = .ok (.lst (xs.map fun _ => .bl true)) [] := by
  have go : ∀ (ys : List D) (acc : List D) (ν : Mu), (∀ y ∈ ys, y ∈ xs) → acc.length + ys.length ≤ 1000 → ∃ ν', lcF (gNm i) xYes te 0 r0 ys (.lst acc :: ν) = .ok () (.lst (acc ++ ys.map fun _ => .bl true) :: ν') := fun ys => by
    induction ys with
    | nil => intro acc ν _ _; exact ⟨ν, by simp [lcF]⟩
    | cons y ys ih =>
      intro acc ν hm hl
      rw [List.length_cons] at hl
      obtain ⟨ν1, e1⟩ := h y (hm y (List.mem_cons_self ..)) (.lst acc) ν
      have e : pushD 0 (.bl true) (.lst acc :: ν1) = .ok () (.lst (acc ++ [.bl true]) :: ν1) := by
        unfold pushD
        simp only [List.getElem?_cons_zero]
        rw [if_pos ⟨rfl, by unfold sizeLine; omega⟩]
        rfl
      obtain ⟨ν2, e2⟩ := ih (acc ++ [.bl true]) ν1 (fun z hz => hm z (List.mem_cons_of_mem _ hz)) (by rw [List.length_append]; simp; omega)
      refine ⟨ν2, ?_⟩
      rw [lcF]
      simp only [gNm, Out.ne, Out.bind, xYes, if_true, e1, e]
      rw [e2]
      simp
  obtain ⟨ν', e⟩ := go xs [] [] (fun _ h => h) (by simpa using hl)
  unfold lcD
  show (lcF (gNm i) xYes te 0 r0 xs [.lst []]).bind _ = _
  rw [e]
  rfl
theorem turns_ok {te : XE'} (ns : List Int) (hl : ns.length ≤ 63) (N : Nat) (hN : N ≤ 100) (right : Fn) (hte : ∀ r m, te r m = xCall right (xaCons (xCall F__law_cup (xaCons (xVar 0) (xaCons (xVar 1) xaNil))) xaNil) r m)
    (h : ∀ (n : Nat) (μ : Mu), Cup n μ → ∃ μ', right [.loc n] μ = .ok (.bl true) μ' ∧ Sip n μ μ') :
    lcD (gNm 1) xYes te [some (.fix (ns.map .int)), none] (rngL 0 N) [] = .ok (.lst ((rngL 0 N).map fun _ => .bl true)) [] := by
  refine lc_all (by simp [rngL]; omega) fun x hx c ν => ?_
  obtain ⟨k, hk, rfl⟩ : ∃ k : Nat, k < N ∧ x = .int k := by
    unfold rngL at hx
    obtain ⟨k, hk, rfl⟩ := List.mem_map.mp hx
    exact ⟨k, List.mem_range.mp hk, by rw [Int.zero_add]⟩
  obtain ⟨c1, c2, c3, e1⟩ := cup_ok ns hl k (c :: ν)
  have hc : Cup (c :: ν).length ((c :: ν) ++ [cupC c1 c2 c3]) := ⟨c1, c2, c3, by simp⟩
  obtain ⟨m2, e2, s2⟩ := h _ _ hc
  obtain ⟨a, b, d, rfl⟩ := s2
  refine ⟨ν ++ [cupC a b d], ?_⟩
  rw [hte]
  simp only [AP, AV, AB, LS, e1, e2]
  congr 1
  rw [List.set_append_right _ _ (Nat.le_refl _), Nat.sub_self]
  rfl
theorem allT_ok (xs : List D) (m : Mu) : allF [.lst (xs.map fun _ => .bl true)] m = .ok (.bl true) m := by
  rw [all_map (fun _ => true)]
  congr 2
  rw [List.all_eq_true]
  intro _ _
  rfl
theorem len_fix (ns : List Int) (m : Mu) : lenD [.fix (ns.map .int)] m = .ok (.int (ns.length : Nat)) m := by
  show Out.ok (D.int ((ns.map D.int).length : Nat)) m = _
  rw [List.length_map]
theorem max_ok (a b : Nat) (m : Mu) : maxF [.int a, .int b] m = .ok (.int ((max a b : Nat) : Int)) m := by
  show Out.ok (D.int (if (b : Int) > a then (b : Int) else a)) m = _
  congr 2
  split <;> omega
end J

namespace J
open PySem PySem.Spec PyProof.Rows L2 DS
/-! ### the end of a def -/
theorem fn_ret {n : Nat} {g : XS} {ds : List D} {m : Mu} {d : D} {m' : Mu} (h : g (rho0 n ds) m = .ret d m') : fnOf n false g ds m = exitD m.length d m' := by
  rw [fn_ap, h]
  rfl
theorem seq_ret {f g : XS} {r : Rho} {m : Mu} {d : D} {m' : Mu} (e : f r m = .ret d m') : sSeq f g r m = .ret d m' := by
  show (match f r m with
    | .next r' m' => g r' m'
    | o => o) = _
  rw [e]
/-! ### loops that fold -/
theorem loop_step {g : XG} {body : XS} {x : D} {xs : List D} {r r1 r2 : Rho} {m m1 m2 : Mu} (h1 : g x r m = .ok r1 m1) (h2 : body r1 m1 = .next r2 m2) : loopF g body (x :: xs) r m = loopF g body xs r2 m2 := by
  rw [loopF, h1]
  simp only [AB, h2]
theorem loop_fold {α β : Type} {g : XG} {body : XS} (e : α → D) (M : β → Mu) (I : β → Rho → Prop) (f : β → α → β) : ∀ {xs : List α} {b : β} {r : Rho}, I b r →
    (∀ x ∈ xs, ∀ b r, I b r → ∃ r1 m1 r2, g (e x) r (M b) = .ok r1 m1 ∧ body r1 m1 = .next r2 (M (f b x)) ∧ I (f b x) r2) →
    ∃ r', loopF g body (xs.map e) r (M b) = .next r' (M (xs.foldl f b)) ∧ I (xs.foldl f b) r'
  | [], b, r, h, _ => ⟨r, rfl, h⟩
  | x :: xs, b, r, h, hs => by
    obtain ⟨r1, m1, r2, h1, h2, h3⟩ := hs x (List.mem_cons_self ..) b r h
    obtain ⟨r', h4, h5⟩ := loop_fold e M I f (xs := xs) (b := f b x) (r := r2) h3 fun y hy => hs y (List.mem_cons_of_mem _ hy)
    refine ⟨r', ?_, h5⟩
    rw [List.map_cons, loopF, h1]
    simp only [AB, h2]
    exact h4
/-! ### words: None, or a tuple of pieces -/
abbrev Wo := Option (List Nat)
def woD : Wo → D
  | some ns => .tup (ns.map nD)
  | none => .non
theorem woD_in (w : Wo) (n : Nat) : (woD w).inB n = true := by
  cases w with
  | none => rfl
  | some ns =>
    show (D.tup (ns.map nD)).inB n = true
    rw [D.inB]
    exact inL_nD _ _
def woP : Wo → PyData
  | some ns => .tuple (ns.map fun k : Nat => PyData.int (k : Int))
  | none => .none
theorem toPs_nD : ∀ ns : List Nat, toPs (ns.map nD) = some (ns.map fun k : Nat => PyData.int (k : Int))
  | [] => rfl
  | n :: ns => by
    rw [List.map_cons, toPs, toPs_nD ns]
    rfl
theorem toP_wo (w : Wo) : toP (woD w) = some (woP w) := by
  cases w with
  | none => rfl
  | some ns =>
    show toP (.tup (ns.map nD)) = _
    rw [toP, toPs_nD]
    rfl
theorem toPs_wo : ∀ ws : List Wo, toPs (ws.map woD) = some (ws.map woP)
  | [] => rfl
  | w :: ws => by
    rw [List.map_cons, toPs, toP_wo, toPs_wo ws]
    rfl
theorem nums_lay : ∀ ns : List Nat, PyData.canLayAll0 (ns.map fun k : Nat => PyData.int (k : Int)) = true
  | [] => rfl
  | n :: ns => by rw [List.map_cons, PyData.canLayAll0, nums_lay ns]; rfl
theorem nums_dep : ∀ ns : List Nat, PyData.depthAll (ns.map fun k : Nat => PyData.int (k : Int)) = 0
  | [] => rfl
  | n :: ns => by rw [List.map_cons, PyData.depthAll, nums_dep ns]; rfl
theorem wo_lay (w : Wo) : (woP w).canLay0 = true := by
  cases w with
  | none => rfl
  | some ns =>
    show (PyData.tuple _).canLay0 = true
    rw [PyData.canLay0, nums_lay]
theorem wo_dep (w : Wo) : (woP w).depth ≤ 1 := by
  cases w with
  | none => exact Nat.zero_le _
  | some ns =>
    show (PyData.tuple _).depth ≤ 1
    rw [PyData.depth, nums_dep]
    exact Nat.le_refl _
theorem wos_lay : ∀ ws : List Wo, PyData.canLayAll0 (ws.map woP) = true
  | [] => rfl
  | w :: ws => by rw [List.map_cons, PyData.canLayAll0, wo_lay, wos_lay ws]; rfl
theorem wos_dep : ∀ ws : List Wo, PyData.depthAll (ws.map woP) ≤ 1
  | [] => Nat.zero_le _
  | w :: ws => by
    rw [List.map_cons, PyData.depthAll]
    have := wo_dep w
    have := wos_dep ws
    omega
theorem wo_shaped (w : Wo) : SeqAt.shaped (woP w) = true := by
  unfold SeqAt.shaped
  rw [wo_lay, decide_eq_true (Nat.le_trans (wo_dep w) (by decide))]
  rfl
theorem wos_shaped (ws : List Wo) : SeqAt.shaped (.list (ws.map woP)) = true := by
  unfold SeqAt.shaped
  rw [PyData.canLay0, wos_lay, PyData.depth, decide_eq_true (by have := wos_dep ws; omega)]
  rfl
theorem nums_inj : ∀ a b : List Nat, (a.map fun k : Nat => (k : Int)) = (b.map fun k : Nat => (k : Int)) ↔ a = b := fun a b =>
  ⟨fun h => (List.map_inj_right (fun x y e => by omega)).mp h, fun h => by rw [h]⟩
theorem eqv_wo (a b : Wo) : PyData.eqv (woP a) (woP b) = decide (a = b) := by
  cases a with
  | none => cases b <;> rfl
  | some a =>
    cases b with
    | none => rfl
    | some b =>
      have e : PyData.eqv (.tuple (a.map fun k : Nat => PyData.int (k : Int))) (.tuple (b.map fun k : Nat => PyData.int (k : Int))) = PyData.eqvAll (a.map fun k : Nat => PyData.int (k : Int)) (b.map fun k : Nat => PyData.int (k : Int)) := by rw [PyData.eqv]
      have q := PySem.W.ked_eqvAll (a.map fun k : Nat => (k : Int)) (b.map fun k : Nat => (k : Int))
      rw [List.map_map, List.map_map] at q
      show PyData.eqv (.tuple _) (.tuple _) = _
      rw [e]
      refine Eq.trans q ?_
      rw [Bool.eq_iff_iff, decide_eq_true_eq, decide_eq_true_eq, nums_inj]
      simp
theorem eqB_wo (a b : Wo) (m : Mu) : eqB m (woD a) (woD b) = some (decide (a = b)) := by
  have hd : ∀ w : Wo, dere m (woD w) = woD w := fun w => by cases w <;> rfl
  unfold eqB
  rw [hd, hd, toP_wo, toP_wo]
  simp only [wo_shaped, Bool.and_true, if_true, eqv_wo]
theorem eq_wo (a b : Wo) (m : Mu) : eqD (woD a) (woD b) m = .ok (.bl (decide (a = b))) m := by
  have e := eqB_wo a b m
  cases a <;> cases b <;> (unfold eqD; simp only [woD] at e ⊢; rw [e])
theorem ne_wo (a b : Wo) (m : Mu) : neD (woD a) (woD b) m = .ok (.bl (!decide (a = b))) m := by
  have e := eqB_wo a b m
  cases a <;> cases b <;> (unfold neD; simp only [woD] at e ⊢; rw [e])
theorem ne_same (ws : List Wo) (m : Mu) : neD (.lst (ws.map woD)) (.lst (ws.map woD)) m = .ok (.bl false) m := by
  have e : eqB m (.lst (ws.map woD)) (.lst (ws.map woD)) = some true := by
    unfold eqB
    have h : toP (dere m (.lst (ws.map woD))) = some (.list (ws.map woP)) := by
      show toP (.lst (ws.map woD)) = _
      rw [toP, toPs_wo]
      rfl
    rw [h]
    simp only [wos_shaped, Bool.and_true, if_true]
    rw [SeqAt.eqv_refl _ (by rw [PyData.canLay0, wos_lay])]
  show (match eqB m _ _ with
    | some b => Out.ok (D.bl (!b)) m
    | none => .stuck) = _
  rw [e]
  rfl
/-! ### the join of two words -/
def joint : Wo → Wo → Wo
  | some a, some b => if a = [] ∨ b = [] ∨ a.getLast?.map (· + 1) = b.head? then some (a ++ b) else none
  | _, _ => none
theorem at_last (a : List Nat) (x : Nat) (m : Mu) : ixD (.tup ((a ++ [x]).map nD)) (.int (-1)) m = .ok (nD x) m := by
  unfold ixD
  have : L2.atI ((a ++ [x]).map nD) (-1) = some (nD x) := by
    unfold L2.atI L2.ixN
    rw [if_neg (by decide), if_pos (by simp; omega)]
    have : (-1 + ((((a ++ [x]).map nD).length : Nat) : Int)).toNat = a.length := by rw [List.length_map, List.length_append, List.length_singleton]; omega
    simp only [this, Option.bind_some]
    rw [List.map_append, List.getElem?_append_right (by simp)]
    simp
  simp only [this]
theorem joint_ok (a b : Wo) (ha : ∀ l, a = some l → l.length ≤ 1000) (hb : ∀ l, b = some l → l.length ≤ 1000) (μ : Mu) : F__law_joint [woD a, woD b] μ = .ok (woD (joint a b)) μ := by
  have hx : ∀ w : Wo, exitD μ.length (woD w) μ = .ok (woD w) μ := fun w => by rw [exit_in (woD_in _ _), List.take_length]
  have en : ∀ m, isD D.non .non m = .ok (.bl true) m := fun _ => rfl
  have es : ∀ (l : List Nat) m, isD (woD (some l)) .non m = .ok (.bl false) m := fun _ _ => rfl
  have e0 : ∀ (l : List Nat) m, eqD (woD (some l)) (.tup []) m = .ok (.bl (decide (l = []))) m := fun l m => by
    have := eq_wo (some l) (some []) m
    rw [show (decide (some l = some [])) = decide (l = []) by rw [Bool.eq_iff_iff]; simp] at this
    exact this
  cases a with
  | none =>
    simp only [F__law_joint, B__law_joint, fn_ap, rho0, List.map, List.replicate, List.length, Nat.reduceSub, Nat.reduceAdd, List.cons_append, List.nil_append, AP, AV, AB, LS, woD, en, if_true, Bool.false_eq_true, if_false]
    exact hx none
  | some a =>
    cases b with
    | none =>
      simp only [F__law_joint, B__law_joint, fn_ap, rho0, List.map, List.replicate, List.length, Nat.reduceSub, Nat.reduceAdd, List.cons_append, List.nil_append, AP, AV, AB, LS, es]
      simp only [show ∀ m, isD (woD none) .non m = .ok (.bl true) m from fun _ => rfl, AB, if_true, Bool.false_eq_true, if_false]
      exact hx none
    | some b =>
      have hla := ha a rfl
      have hlb := hb b rfl
      have hadd : ∀ m, addD (woD (some a)) (woD (some b)) m = .ok (woD (some (a ++ b))) m := fun m => by
        show (if (a.map nD).length + (b.map nD).length ≤ sizeLine then Out.ok (D.tup (a.map nD ++ b.map nD)) m else .stuck) = _
        rw [if_pos (by rw [List.length_map, List.length_map]; unfold sizeLine; omega), ← List.map_append]
        rfl
      have hneg : ∀ (r : Rho) (m : Mu), xNeg (xC (.int 1)) r m = .ok (.int (-1)) m := fun _ _ => rfl
      by_cases h1 : a = []
      · have ej : joint (some a) (some b) = some (a ++ b) := if_pos (.inl h1)
        simp only [F__law_joint, B__law_joint, fn_ap, rho0, List.map, List.replicate, List.length, Nat.reduceSub, Nat.reduceAdd, List.cons_append, List.nil_append, AP, AV, AB, LS, es, Bool.false_eq_true, if_false, e0, decide_eq_true h1, if_true, hadd, ej, hx]
      · by_cases h2 : b = []
        · have ej : joint (some a) (some b) = some (a ++ b) := if_pos (.inr (.inl h2))
          simp only [F__law_joint, B__law_joint, fn_ap, rho0, List.map, List.replicate, List.length, Nat.reduceSub, Nat.reduceAdd, List.cons_append, List.nil_append, AP, AV, AB, LS, es, Bool.false_eq_true, if_false, e0, decide_eq_false h1, decide_eq_true h2, if_true, hadd, ej, hx]
        · obtain ⟨a', x, rfl⟩ : ∃ a' x, a = a' ++ [x] := ⟨a.dropLast, a.getLast h1, (List.dropLast_concat_getLast h1).symm⟩
          cases b with
          | nil => exact absurd rfl h2
          | cons y b =>
            have i1 : ∀ m, ixD (woD (some (a' ++ [x]))) (.int (-1)) m = .ok (nD x) m := fun m => at_last a' x m
            have i2 : ∀ m, ixD (woD (some (y :: b))) (.int 0) m = .ok (nD y) m := fun m => IX.2.2.2.2.1
            have i3 : ∀ m, addD (nD x) (.int 1) m = .ok (nD (x + 1)) m := fun m => rfl
            have i4 : ∀ m, eqD (nD (x + 1)) (nD y) m = .ok (.bl (decide (x + 1 = y))) m := fun m => by
              show Out.ok (D.bl (((x + 1 : Nat) : Int) == (y : Int))) m = _
              congr 2
              rw [Bool.eq_iff_iff, beq_iff_eq, decide_eq_true_eq]
              omega
            have ej : joint (some (a' ++ [x])) (some (y :: b)) = if x + 1 = y then some (a' ++ [x] ++ (y :: b)) else none := by
              show (if _ then _ else _) = _
              simp
            rw [ej]
            by_cases h3 : x + 1 = y
            · simp only [F__law_joint, B__law_joint, fn_ap, rho0, List.map, List.replicate, List.length, Nat.reduceSub, Nat.reduceAdd, List.cons_append, List.nil_append, AP, AV, AB, LS, es, Bool.false_eq_true, if_false, e0, decide_eq_false h1, decide_eq_false h2, hneg, i1, i2, i3, i4, decide_eq_true h3, if_pos h3, if_true, hadd, hx]
            · simp only [F__law_joint, B__law_joint, fn_ap, rho0, List.map, List.replicate, List.length, Nat.reduceSub, Nat.reduceAdd, List.cons_append, List.nil_append, AP, AV, AB, LS, es, Bool.false_eq_true, if_false, e0, decide_eq_false h1, decide_eq_false h2, hneg, i1, i2, i3, i4, decide_eq_false h3, if_neg h3]
              exact hx none
/-! ### runs of neighbours -/
def RunW (n : Nat) (w : Wo) : Prop := ∀ l, w = some l → ∃ s k, l = List.range' s k ∧ s + k ≤ n
theorem RunW.len {n : Nat} {w : Wo} (h : RunW n w) : ∀ l, w = some l → l.length ≤ n := fun l e => by
  obtain ⟨s, k, rfl, hk⟩ := h l e
  rw [List.length_range']
  omega
theorem RunW.none {n : Nat} : RunW n none := fun l e => by cases e
theorem RunW.nil {n : Nat} : RunW n (some []) := fun l e => by cases e; exact ⟨0, 0, rfl, Nat.zero_le _⟩
theorem RunW.one {n k : Nat} (h : k < n) : RunW n (some [k]) := fun l e => by cases e; exact ⟨k, 1, rfl, h⟩
theorem RunW.joint {n : Nat} {a b : Wo} (ha : RunW n a) (hb : RunW n b) : RunW n (joint a b) := by
  cases a with
  | none => exact .none
  | some a =>
    cases b with
    | none => exact .none
    | some b =>
      show RunW n (if _ then _ else _)
      split
      · rename_i hc
        obtain ⟨s, k, rfl, hk⟩ := ha a rfl
        obtain ⟨t, j, rfl, hj⟩ := hb b rfl
        intro l e
        cases e
        cases k with
        | zero => exact ⟨t, j, by simp, hj⟩
        | succ k =>
          cases j with
          | zero => exact ⟨s, k + 1, by simp, hk⟩
          | succ j =>
            rcases hc with hc | hc | hc
            · simp [List.range'_succ] at hc
            · simp [List.range'_succ] at hc
            · have e1 : (List.range' s (k + 1)).getLast? = some (s + k) := by rw [List.range'_concat]; simp
              have e2 : (List.range' t (j + 1)).head? = some t := by rw [List.range'_succ]; rfl
              rw [e1, e2] at hc
              have hc : s + k + 1 = t := by simpa using hc
              refine ⟨s, k + 1 + (j + 1), ?_, by omega⟩
              subst hc
              rw [show s + k + 1 = s + 1 * (k + 1) by omega, List.range'_append]
      · exact .none
theorem joint_nil (w : Wo) : joint (some []) w = w := by
  cases w with
  | none => rfl
  | some b => simp [joint]
theorem joint_nil' (w : Wo) : joint w (some []) = w := by
  cases w with
  | none => rfl
  | some b => simp [joint]
end J

namespace J
open PySem PySem.Spec PyProof.Rows L2 DS
/-! ### a round over words -/
theorem word_clearX : ∀ w < 4, (wordS w == "clear") = decide (w = 2) := by decide +kernel
theorem word_joinX : ∀ w < 4, (wordS w == "join") = decide (w = 0) := by decide +kernel
def gw (ws : List Wo) (p : Nat) : Wo := ws.getD p none
def there (c : Cl) (ws : List Wo) (p : Nat) : Wo := match rd c p ws.length with
  | some q => gw ws q
  | none => some []
def eff (c : Cl) (ws : List Wo) (p : Nat) : Wo := if c.w = 0 then (if c.side = 0 then joint (there c ws p) (gw ws p) else joint (gw ws p) (there c ws p)) else if c.w = 2 then some [] else there c ws p
def putAll (l : List Wo) (ps : List Nat) (vs : List Wo) : List Wo := (ps.zip vs).foldl (fun l q => l.set q.1 q.2) l
def putF (l : List Wo) (ps : List Nat) (f : Nat → Wo) : List Wo := ps.foldl (fun l p => l.set p (f p)) l
theorem putAll_map (l : List Wo) (ps : List Nat) (f : Nat → Wo) : putAll l ps (ps.map f) = putF l ps f := by
  unfold putAll putF
  induction ps generalizing l with
  | nil => rfl
  | cons p ps ih => rw [List.map_cons, List.zip_cons_cons, List.foldl_cons, List.foldl_cons, ih]
theorem putF_len (l : List Wo) (ps : List Nat) (f : Nat → Wo) : (putF l ps f).length = l.length := by
  unfold putF
  induction ps generalizing l with
  | nil => rfl
  | cons p ps ih => rw [List.foldl_cons, ih, List.length_set]
theorem putAll_len (l : List Wo) (ps : List Nat) (vs : List Wo) : (putAll l ps vs).length = l.length := by
  unfold putAll
  generalize ps.zip vs = z
  induction z generalizing l with
  | nil => rfl
  | cons p ps ih => rw [List.foldl_cons, ih, List.length_set]
theorem gw_run {n : Nat} {ws : List Wo} (h : ∀ w ∈ ws, RunW n w) (p : Nat) : RunW n (gw ws p) := by
  unfold gw
  rw [List.getD_eq_getElem?_getD]
  cases e : ws[p]? with
  | none => exact .none
  | some w => exact h w (List.mem_of_getElem? e)
theorem there_run {n : Nat} {ws : List Wo} (h : ∀ w ∈ ws, RunW n w) (c : Cl) (p : Nat) : RunW n (there c ws p) := by
  unfold there
  split
  · exact gw_run h _
  · exact .nil
theorem eff_run {n : Nat} {ws : List Wo} (h : ∀ w ∈ ws, RunW n w) (c : Cl) (p : Nat) : RunW n (eff c ws p) := by
  unfold eff
  split
  · split
    · exact (there_run h c p).joint (gw_run h p)
    · exact (gw_run h p).joint (there_run h c p)
  · split
    · exact .nil
    · exact there_run h c p
/-! ### the place beside one -/
def mateI (c : Cl) (p : Nat) : Int := if c.side = 0 then (p : Int) - c.far else (p : Int) + c.far
theorem mate_some {c : Cl} {p n q : Nat} (h : rd c p n = some q) : 0 ≤ mateI c p ∧ mateI c p < n ∧ mateI c p = q := by
  unfold rd at h
  unfold mateI
  split at h
  · rename_i h0
    rw [if_pos h0]
    split at h
    · cases h; omega
    · cases h
  · rename_i h0
    rw [if_neg h0]
    split at h
    · cases h; omega
    · cases h
theorem mate_none {c : Cl} {p n : Nat} (h : rd c p n = none) : ¬ (0 ≤ mateI c p ∧ mateI c p < n) := by
  unfold rd at h
  unfold mateI
  split at h
  · rename_i h0
    rw [if_pos h0]
    split at h
    · cases h
    · omega
  · rename_i h0
    rw [if_neg h0]
    split at h
    · cases h
    · omega
theorem ix_wo {ws : List Wo} {p : Nat} (h : p < ws.length) (m : Mu) : ixD (.lst (ws.map woD)) (nD p) m = .ok (woD (gw ws p)) m := by
  refine ix_lst ?_
  unfold gw
  rw [List.getElem?_map, List.getD_eq_getElem?_getD, List.getElem?_eq_getElem h]
  rfl
theorem get_lastX {μ : Mu} {c : Cell} : (μ ++ [c])[μ.length]? = some c := by
  rw [List.getElem?_append_right (Nat.le_refl _), Nat.sub_self]
  rfl
theorem set_last {μ : Mu} {acc : List D} {i : Nat} {d : D} (h : d.inB μ.length = true) (hi : i < acc.length) : setD (.loc μ.length) (nD i) d (μ ++ [.lst acc]) = .ok () (μ ++ [.lst (acc.set i d)]) := by
  unfold setD nD
  simp only [get_lastX]
  have : ixN acc.length (i : Int) = some i := by
    unfold ixN
    rw [if_pos (by omega), if_pos (by omega)]
    rfl
  rw [this]
  simp only [h, if_true]
  rw [List.set_append_right _ _ (Nat.le_refl _), Nat.sub_self]
  rfl
theorem ix_last {μ : Mu} {ws : List Wo} {p : Nat} (h : p < ws.length) : ixD (.loc μ.length) (nD p) (μ ++ [.lst (ws.map woD)]) = .ok (woD (gw ws p)) (μ ++ [.lst (ws.map woD)]) := by
  refine ix_loc get_lastX ?_
  unfold gw
  rw [List.getElem?_map, List.getD_eq_getElem?_getD, List.getElem?_eq_getElem h]
  rfl
theorem there_ok {c : Cl} {ws : List Wo} {p n : Nat} (hn : ws.length = n) {fw : XE'} {i j : Nat} {ρ : Rho} {m : Mu} (h1 : ρ[i]? = some (some (.int (mateI c p)))) (h2 : ρ[j]? = some (some (.int n))) (hf : ∀ q < n, mateI c p = q → xOp ixD fw (xVar i) ρ m = .ok (woD (gw ws q)) m) :
    xIf (xTest (xChain leD ltD (xC (.int 0)) (xVar i) (xVar j))) (xOp ixD fw (xVar i)) (xTup xaNil) ρ m = .ok (woD (there c ws p)) m := by
  unfold there
  rw [hn]
  have ap : xIf (xTest (xChain leD ltD (xC (.int 0)) (xVar i) (xVar j))) (xOp ixD fw (xVar i)) (xTup xaNil) ρ m = if decide (0 ≤ mateI c p) = true then (if decide (mateI c p < n) = true then xOp ixD fw (xVar i) ρ m else .ok (.tup []) m) else .ok (.tup []) m := by
    rw [AP.2.2.2.2.2.2.2.2.1]
    simp only [AP.2.1, AP.2.2.2.2.2.2.2.2.2.1, AP.2.2.2.2.2.2.2.2.2.2.2.2.2.2.2.1, AP.2.2.2.2.2.2.2.2.2.2.2.2.1, AP.2.2.2.2.2.2.2.2.2.2.1, AV, h1, h2, AB, OI]
    by_cases a : 0 ≤ mateI c p
    · simp only [decide_eq_true a, if_true, AB]
    · simp only [decide_eq_false a, Bool.false_eq_true, if_false, AB]
  rw [ap]
  cases e : rd c p n with
  | none =>
    have q := mate_none e
    by_cases a : 0 ≤ mateI c p
    · rw [if_pos (decide_eq_true a), if_neg (by rw [decide_eq_true_eq]; exact fun z => q ⟨a, z⟩)]
      rfl
    · rw [if_neg (by rw [decide_eq_true_eq]; exact a)]
      rfl
  | some k =>
    have q := mate_some e
    have hk : k < n := by omega
    rw [if_pos (decide_eq_true q.1), if_pos (decide_eq_true q.2.1), hf k hk q.2.2]
end J

namespace J
open PySem PySem.Spec PyProof.Rows L2 DS
/-! ### all of some words joined; what a goal says -/
def allJ (ws : List Wo) : Wo := ws.foldl joint (some [])
theorem foldJ_run {n : Nat} : ∀ {ws : List Wo} {a : Wo}, RunW n a → (∀ w ∈ ws, RunW n w) → RunW n (ws.foldl joint a)
  | [], a, h, _ => h
  | w :: ws, a, h, hs => foldJ_run (ws := ws) (a := joint a w) (h.joint (hs w (List.mem_cons_self ..))) fun x hx => hs x (List.mem_cons_of_mem _ hx)
theorem allJ_run {n : Nat} {ws : List Wo} (h : ∀ w ∈ ws, RunW n w) : RunW n (allJ ws) := foldJ_run .nil h
theorem wo_exit (w : Wo) (μ : Mu) : exitD μ.length (woD w) μ = .ok (woD w) μ := by rw [exit_in (woD_in _ _), List.take_length]
theorem all_joint_ok {n : Nat} (hn : n ≤ 1000) {ws : List Wo} (h : ∀ w ∈ ws, RunW n w) (μ : Mu) : F__law_all_joint [.lst (ws.map woD)] μ = .ok (woD (allJ ws)) μ := by
  obtain ⟨r', l1, x, hr, rfl⟩ := loop_fold (g := gNm 2) (body := (sAsg (xCall F__law_joint (xaCons (xVar 1) (xaCons (xVar 2) xaNil))) (gNm 1))) woD (fun _ : Wo => μ) (fun a r => ∃ x, RunW n a ∧ r = [some (.lst (ws.map woD)), some (woD a), x]) joint (xs := ws) (b := some []) (r := [some (.lst (ws.map woD)), some (woD (some [])), none]) ⟨none, .nil, rfl⟩ fun w hw a r hr => by
    obtain ⟨x, ha, rfl⟩ := hr
    have hw := h w hw
    refine ⟨[some (.lst (ws.map woD)), some (woD a), some (woD w)], μ, [some (.lst (ws.map woD)), some (woD (joint a w)), some (woD w)], by simp only [AP, LS], ?_, _, ha.joint hw, rfl⟩
    simp only [AP, AV, AB, LS, joint_ok a w (fun l e => Nat.le_trans (ha.len l e) hn) (fun l e => Nat.le_trans (hw.len l e) hn)]
  have l1' : loopF (gNm 2) (sAsg (xCall F__law_joint (xaCons (xVar 1) (xaCons (xVar 2) xaNil))) (gNm 1)) (ws.map woD) [some (.lst (ws.map woD)), some (.tup []), none] μ = .next [some (.lst (ws.map woD)), some (woD (allJ ws)), x] μ := l1
  simp only [F__law_all_joint, B__law_all_joint, fn_ap, rho0, List.map, List.replicate, List.length, Nat.reduceSub, Nat.reduceAdd, List.cons_append, List.nil_append, AP, AV, AB, LS, l1', Bool.false_eq_true, if_false, wo_exit]
def partOf (g : Gl) (k : Nat) (ws : List Wo) : List Wo := match g with
  | .all => ws.take (k + 1)
  | .before => ws.take k
  | .last m => (ws.drop (k + 1 - m)).take (k + 1 - (k + 1 - m))
def says (g : Gl) (ws : List Wo) : List Wo := (List.range ws.length).map fun k => allJ (partOf g k ws)
theorem partOf_sub {g : Gl} {k : Nat} {ws : List Wo} {w : Wo} (h : w ∈ partOf g k ws) : w ∈ ws := by
  cases g with
  | all => exact List.mem_of_mem_take h
  | before => exact List.mem_of_mem_take h
  | last m => exact List.mem_of_mem_drop (List.mem_of_mem_take h)
theorem says_len (g : Gl) (ws : List Wo) : (says g ws).length = ws.length := by
  unfold says
  rw [List.length_map, List.length_range]
theorem says_run {n : Nat} {g : Gl} {ws : List Wo} (h : ∀ w ∈ ws, RunW n w) : ∀ w ∈ says g ws, RunW n w := fun w hw => by
  obtain ⟨k, _, rfl⟩ := List.mem_map.mp hw
  exact allJ_run fun x hx => h x (partOf_sub hx)
theorem cut_two (xs : List D) (i k : Nat) (hi : i ≤ xs.length) (hk : k ≤ xs.length) : DS.cutD xs (some (i : Int)) (some (k : Int)) = (xs.drop i).take (k - i) := by
  unfold DS.cutD
  rw [HT.sIx_nat, HT.sIx_nat, Nat.min_eq_left hi, Nat.min_eq_left hk]
theorem get_last' {μ : Mu} {c : Cell} : (μ ++ [c])[μ.length]? = some c := get_lastX
theorem app_lastX {μ : Mu} {acc : List D} {d : D} (h : d.inB μ.length = true) (hl : acc.length < sizeLine) : appF [.loc μ.length, d] (μ ++ [.lst acc]) = .ok .non (μ ++ [.lst (acc ++ [d])]) := by
  show (pushD μ.length d _).bind _ = _
  unfold pushD
  rw [get_lastX]
  simp only
  rw [if_pos ⟨h, hl⟩, List.set_append_right _ _ (Nat.le_refl _), Nat.sub_self]
  rfl
theorem ty_lastX {μ : Mu} {acc : List D} : tyD "list" (μ ++ [.lst acc]) (.loc μ.length) = true := by
  show ("list" == "list" && (lstOf _ (.loc μ.length)).isSome) = true
  unfold lstOf
  simp only [get_lastX]
  rfl
theorem exit_lastX {μ : Mu} {acc : List D} (h : D.inL μ.length acc = true) : exitD μ.length (.loc μ.length) (μ ++ [.lst acc]) = .ok (.lst acc) μ := by
  unfold exitD
  rw [if_neg (by rw [D.inB]; simp)]
  simp only [get_lastX, h, if_true]
  rw [List.take_left]
theorem wos_in (ws : List Wo) (n : Nat) : D.inL n (ws.map woD) = true := inL_map _ _ _ fun w _ => woD_in w _
theorem len_wo (ws : List Wo) (m : Mu) : lenD [.lst (ws.map woD)] m = .ok (.int (ws.length : Nat)) m := by
  show Out.ok (D.int ((ws.map woD).length : Nat)) m = _
  rw [List.length_map]
abbrev saysBody : XS := (sIf (xTest (xOp eqD (xOp ixD (xVar 0) (xC (.int 0))) (xC (.str "all")))) (sExpr (xBM "list" appF (xVar 2) (xaCons (xCall F__law_all_joint (xaCons (xSl (xVar 1) xoN (xoS (xOp addD (xVar 3) (xC (.int 1))))) xaNil)) xaNil))) (sIf (xTest (xOp eqD (xOp ixD (xVar 0) (xC (.int 0))) (xC (.str "before")))) (sExpr (xBM "list" appF (xVar 2) (xaCons (xCall F__law_all_joint (xaCons (xSl (xVar 1) xoN (xoS (xVar 3))) xaNil)) xaNil))) (sExpr (xBM "list" appF (xVar 2) (xaCons (xCall F__law_all_joint (xaCons (xSl (xVar 1) (xoS (xCall maxF (xaCons (xC (.int 0)) (xaCons (xOp subD (xOp addD (xVar 3) (xC (.int 1))) (xOp ixD (xVar 0) (xC (.int 1)))) xaNil)))) (xoS (xOp addD (xVar 3) (xC (.int 1))))) xaNil)) xaNil)))))
theorem rngL_nD (n : Nat) : rngL 0 n = (List.range n).map nD := by
  unfold rngL
  refine List.map_congr_left fun k _ => ?_
  rw [Int.zero_add]
  rfl
theorem says_body {n : Nat} (hn : n ≤ 1000) (g : Gl) {ws : List Wo} (hl : ws.length ≤ 1000) (h : ∀ w ∈ ws, RunW n w) (μ : Mu) {k : Nat} (hk : k < ws.length) (acc : List Wo) (ha : acc.length ≤ 1000) :
    saysBody [some g.dat, some (.lst (ws.map woD)), some (.loc μ.length), some (nD k)] (μ ++ [.lst (acc.map woD)]) = .next [some g.dat, some (.lst (ws.map woD)), some (.loc μ.length), some (nD k)] (μ ++ [.lst ((acc ++ [allJ (partOf g k ws)]).map woD)]) := by
  have aj : ∀ (g : Gl) m, F__law_all_joint [.lst ((partOf g k ws).map woD)] m = .ok (woD (allJ (partOf g k ws))) m := fun g m => all_joint_ok hn (fun w hw => h w (partOf_sub hw)) m
  have ap : ∀ w : Wo, appF [.loc μ.length, woD w] (μ ++ [.lst (acc.map woD)]) = .ok .non (μ ++ [.lst ((acc ++ [w]).map woD)]) := fun w => by
    rw [app_lastX (woD_in _ _) (by rw [List.length_map]; unfold sizeLine; omega), List.map_append]
    rfl
  have hi1 : (nD k) = .int ((k : Nat) : Int) := rfl
  have hz : (ws.map woD).length = ws.length := List.length_map ..
  cases g with
  | all =>
    have h0 : ∀ m, ixD (Gl.dat .all) (.int 0) m = .ok (.str "all") m := fun m => IX.2.2.2.2.1
    have s1 : ∀ m, slD (.lst (ws.map woD)) none (some ((k : Int) + 1)) m = .ok (.lst ((partOf .all k ws).map woD)) m := fun m => by
      show Out.ok (D.lst (DS.cutD (ws.map woD) none (some ((k : Int) + 1)))) m = _
      rw [show ((k : Int) + 1) = ((k + 1 : Nat) : Int) by omega, cut_to', ← List.map_take]
      rfl
    have t0 : ∀ m, eqD (.str "all") (.str "all") m = .ok (.bl true) m := fun m => rfl
    simp only [saysBody, AP, AV, AB, LS, h0, t0, if_true, hi1, OI, ty_lastX, s1, aj, ap]
  | before =>
    have h0 : ∀ m, ixD (Gl.dat .before) (.int 0) m = .ok (.str "before") m := fun m => IX.2.2.2.2.1
    have s1 : ∀ m, slD (.lst (ws.map woD)) none (some (k : Int)) m = .ok (.lst ((partOf .before k ws).map woD)) m := fun m => by
      show Out.ok (D.lst (DS.cutD (ws.map woD) none (some (k : Int)))) m = _
      rw [cut_to', ← List.map_take]
      rfl
    have t0 : ∀ m, eqD (.str "before") (.str "all") m = .ok (.bl false) m := fun m => rfl
    have t1 : ∀ m, eqD (.str "before") (.str "before") m = .ok (.bl true) m := fun m => rfl
    simp only [saysBody, AP, AV, AB, LS, h0, t0, t1, Bool.false_eq_true, if_false, if_true, hi1, ty_lastX, s1, aj, ap]
  | last q =>
    have h0 : ∀ m, ixD (Gl.dat (.last q)) (.int 0) m = .ok (.str "last") m := fun m => IX.2.2.2.2.1
    have h1 : ∀ m, ixD (Gl.dat (.last q)) (.int 1) m = .ok (.int (q : Nat)) m := fun m => IX.2.2.2.2.2.1
    have mx : ∀ m, maxF [.int 0, .int ((k : Int) + 1 - q)] m = .ok (.int ((k + 1 - q : Nat) : Int)) m := fun m => by
      show Out.ok (D.int (if ((k : Int) + 1 - q) > 0 then ((k : Int) + 1 - q) else 0)) m = _
      congr 2
      split <;> omega
    have s1 : ∀ m, slD (.lst (ws.map woD)) (some ((k + 1 - q : Nat) : Int)) (some ((k : Int) + 1)) m = .ok (.lst ((partOf (.last q) k ws).map woD)) m := fun m => by
      show Out.ok (D.lst (DS.cutD (ws.map woD) (some ((k + 1 - q : Nat) : Int)) (some ((k : Int) + 1)))) m = _
      rw [show ((k : Int) + 1) = ((k + 1 : Nat) : Int) by omega, cut_two _ _ _ (by omega) (by omega), ← List.map_drop, ← List.map_take]
      rfl
    have t0 : ∀ m, eqD (.str "last") (.str "all") m = .ok (.bl false) m := fun m => rfl
    have t1 : ∀ m, eqD (.str "last") (.str "before") m = .ok (.bl false) m := fun m => rfl
    simp only [saysBody, AP, AV, AB, LS, h0, h1, t0, t1, Bool.false_eq_true, if_false, if_true, hi1, OI, mx, ty_lastX, s1, aj, ap]
theorem says_loop {n : Nat} (hn : n ≤ 1000) (g : Gl) {ws : List Wo} (hl : ws.length ≤ 1000) (h : ∀ w ∈ ws, RunW n w) (μ : Mu) : ∀ (ks : List Nat) (a : List Wo) (x : Option D), (∀ k ∈ ks, k < ws.length) → a.length + ks.length ≤ 1000 → ∃ x', loopF (gNm 3) saysBody (ks.map nD) [some g.dat, some (.lst (ws.map woD)), some (.loc μ.length), x] (μ ++ [.lst (a.map woD)]) = .next [some g.dat, some (.lst (ws.map woD)), some (.loc μ.length), x'] (μ ++ [.lst ((a ++ ks.map fun k => allJ (partOf g k ws)).map woD)])
  | [], a, x, _, _ => ⟨x, by rw [List.map_nil, List.map_nil, List.append_nil, loopF]⟩
  | k :: ks, a, x, hk, hl2 => by
    rw [List.length_cons] at hl2
    obtain ⟨x', e⟩ := says_loop hn g hl h μ ks (a ++ [allJ (partOf g k ws)]) (some (nD k)) (fun j hj => hk j (List.mem_cons_of_mem _ hj)) (by rw [List.length_append, List.length_singleton]; omega)
    refine ⟨x', ?_⟩
    have hb := says_body hn g hl h μ (hk k (List.mem_cons_self ..)) a (by omega)
    rw [List.map_cons, List.map_cons, loop_step (r1 := [some g.dat, some (.lst (ws.map woD)), some (.loc μ.length), some (nD k)]) rfl hb, e, List.append_assoc, List.singleton_append]
theorem says_ok {n : Nat} (hn : n ≤ 1000) (g : Gl) {ws : List Wo} (hl : ws.length ≤ 1000) (h : ∀ w ∈ ws, RunW n w) (μ : Mu) : F__law_says [g.dat, .lst (ws.map woD)] μ = .ok (.lst ((says g ws).map woD)) μ := by
  obtain ⟨x', e⟩ := says_loop hn g hl h μ (List.range ws.length) [] none (fun k hk => List.mem_range.mp hk) (by rw [List.length_range, List.length_nil, Nat.zero_add]; exact hl)
  rw [← rngL_nD, List.nil_append] at e
  have e' : loopF (gNm 3) saysBody (rngL 0 ws.length) [some g.dat, some (.lst (ws.map woD)), some (.loc μ.length), none] (μ ++ [.lst []]) = .next [some g.dat, some (.lst (ws.map woD)), some (.loc μ.length), x'] (μ ++ [.lst ((says g ws).map woD)]) := e
  have hx := exit_lastX (μ := μ) (wos_in (says g ws) μ.length)
  have f1 : sAsg (xNew xaNil) (gNm 2) [some g.dat, some (.lst (ws.map woD)), none, none] μ = .next [some g.dat, some (.lst (ws.map woD)), some (.loc μ.length), none] (μ ++ [.lst []]) := by
    simp only [AP, AB, LS, D.inL, if_true]
  have f2 : sFor (xiRng1 (xaCons (xCall lenD (xaCons (xVar 1) xaNil)) xaNil)) (gNm 3) saysBody [some g.dat, some (.lst (ws.map woD)), some (.loc μ.length), none] (μ ++ [.lst []]) = .next [some g.dat, some (.lst (ws.map woD)), some (.loc μ.length), x'] (μ ++ [.lst ((says g ws).map woD)]) := by
    rw [← e', AP.2.2.2.2.2.2.2.2.2.2.2.2.2.2.2.2.2.2.2.2.2.2.2.2.2.2.2.2.2.2.2.2.2.2.1]
    rw [show xiRng1 (xaCons (xCall lenD (xaCons (xVar 1) xaNil)) xaNil) [some g.dat, some (.lst (ws.map woD)), some (.loc μ.length), none] (μ ++ [.lst []]) = .ok (rngL 0 ws.length) (μ ++ [.lst []]) from by
      simp only [AP, AV, AB, LS, len_wo, rng1_ok (show ws.length < 2 ^ 62 by omega)]]
    rfl
  refine (fn_ret (g := B__law_says) ?_).trans hx
  show sSeq _ (sSeq _ (sRet (xVar 2))) [some g.dat, some (.lst (ws.map woD)), none, none] μ = _
  rw [seq_next f1, seq_next f2]
  rfl
end J

namespace J
open PySem PySem.Spec PyProof.Rows L2 DS
/-! ### a round of the law -/
def goalOf (sk : List Pl) (x : Nat) : Gl := ((sk.find? fun p => decide (p.nm = x)).map Pl.goal).getD .all
def told (sk : List Pl) (c : Cl) (ws : List Wo) : List Wo := if c.w = 3 then says (goalOf sk c.goal) ((plc c ws.length).map (gw ws)) else (plc c ws.length).map (eff c ws)
def done1 (sk : List Pl) (ws : List Wo) (l : List Wo) (c : Cl) : List Wo := putAll l (plc c ws.length) (told sk c ws)
def doneL (sk : List Pl) (r : List Cl) (ws : List Wo) : List Wo := r.foldl (done1 sk ws) ws
def sdS (c : Cl) : Str := if c.w = 3 then "" else sideS c.side
def frI (c : Cl) : Int := if c.w = 3 then 0 else c.far
def lbS (c : Cl) : Str := if c.w = 3 then nmS c.goal else ""
theorem Cl.dat6 (c : Cl) : c.dat = .tup [.str (wordS c.w), .int c.rest, .int c.step, .str (sdS c), .int (frI c), .str (lbS c)] := by
  unfold Cl.dat sdS frI lbS
  by_cases h : c.w = 3
  · simp only [h, if_true]
    rfl
  · simp only [h, if_false]
theorem plc_lt {c : Cl} (h : 0 < c.step) (hr : c.rest < c.step) {n p : Nat} (hp : p ∈ plc c n) : p < n := ((mem_plc h hr).mp hp).1
abbrev dnIn : XS := (sSeq (sAsg (xIf (xTest (xOp eqD (xVar 8) (xC (.str "left")))) (xOp subD (xVar 15) (xVar 9)) (xOp addD (xVar 15) (xVar 9))) (gNm 16))
  (sSeq (sAsg (xIf (xTest (xChain leD ltD (xC (.int 0)) (xVar 16) (xVar 4))) (xOp ixD (xVar 2) (xVar 16)) (xTup xaNil)) (gNm 17))
  (sIf (xTest (xOp eqD (xVar 5) (xC (.str "join")))) (sAsg (xIf (xTest (xOp eqD (xVar 8) (xC (.str "left")))) (xCall F__law_joint (xaCons (xVar 17) (xaCons (xOp ixD (xVar 2) (xVar 15)) xaNil))) (xCall F__law_joint (xaCons (xOp ixD (xVar 2) (xVar 15)) (xaCons (xVar 17) xaNil)))) (gSb (xVar 3) (xVar 15))) (sAsg (xIf (xTest (xOp eqD (xVar 5) (xC (.str "clear")))) (xTup xaNil) (xVar 17)) (gSb (xVar 3) (xVar 15))))))
abbrev dnCall : XS := (sSeq (sAsg (xOp ixD (xLc (xiSeq (xVar 0)) [18] (gNm 18) (xTest (xOp eqD (xOp ixD (xVar 18) (xC (.int 0))) (xVar 10))) (xOp ixD (xVar 18) (xC (.int 1)))) (xC (.int 0))) (gNm 12))
  (sSeq (sAsg (xCall F__law_says (xaCons (xVar 12) (xaCons (xLc (xiSeq (xVar 11)) [15] (gNm 15) xYes (xOp ixD (xVar 2) (xVar 15))) xaNil))) (gNm 13))
  (sFor (xiRng1 (xaCons (xCall lenD (xaCons (xVar 11) xaNil)) xaNil)) (gNm 14)
  (sAsg (xOp ixD (xVar 13) (xVar 14)) (gSb (xVar 3) (xOp ixD (xVar 11) (xVar 14)))))))
abbrev dnBody : XS := (sSeq (sAsg (xLstR (xiRng3 (xaCons (xVar 6) (xaCons (xVar 4) (xaCons (xVar 7) xaNil))))) (gNm 11))
  (sSeq (sIf (xTest (xOp eqD (xVar 5) (xC (.str "call")))) dnCall sNil)
  (sFor (xiSeq (xIf (xTest (xOp eqD (xVar 5) (xC (.str "call")))) (xLst xaNil) (xVar 11))) (gNm 15) dnIn)))
/-- the slots of the walk over a round -/
abbrev rhoN (skd : D) (r : List Cl) (ws : List Wo) (μ : Mu) (c : Cl) (x11 x12 x13 x14 x15 x16 x17 : Option D) : Rho :=
  [some skd, some (.lst (r.map Cl.dat)), some (.lst (ws.map woD)), some (.loc μ.length), some (.int (ws.length : Nat)), some (.str (wordS c.w)), some (.int c.rest), some (.int c.step), some (.str (sdS c)), some (.int (frI c)), some (.str (lbS c)), x11, x12, x13, x14, x15, x16, x17, none]
theorem put_ok {μ : Mu} {l : List Wo} {p : Nat} (hp : p < l.length) (w : Wo) : setD (.loc μ.length) (nD p) (woD w) (μ ++ [.lst (l.map woD)]) = .ok () (μ ++ [.lst ((l.set p w).map woD)]) := by
  rw [set_last (woD_in _ _) (by rw [List.length_map]; exact hp), List.map_set]
theorem dnIn_ok {n : Nat} (hn : n ≤ 1000) {skd : D} {r : List Cl} {ws : List Wo} (hrun : ∀ w ∈ ws, RunW n w) {c : Cl} (hc : c.Ok) (h3 : c.w ≠ 3) (μ : Mu) {l : List Wo} {p : Nat} (hp : p < ws.length) (hl : l.length = ws.length) (x11 x12 x13 x14 x16 x17 : Option D) :
    dnIn (rhoN skd r ws μ c x11 x12 x13 x14 (some (nD p)) x16 x17) (μ ++ [.lst (l.map woD)]) = .next (rhoN skd r ws μ c x11 x12 x13 x14 (some (nD p)) (some (.int (mateI c p))) (some (woD (there c ws p)))) (μ ++ [.lst ((l.set p (eff c ws p)).map woD)]) := by
  have h4 := hc.w
  have esd : sdS c = sideS c.side := if_neg h3
  have efr : frI c = (c.far : Int) := if_neg h3
  have e1 : ∀ (x : Option D) m, xIf (xTest (xOp eqD (xVar 8) (xC (.str "left")))) (xOp subD (xVar 15) (xVar 9)) (xOp addD (xVar 15) (xVar 9)) (rhoN skd r ws μ c x11 x12 x13 x14 (some (nD p)) x x17) m = .ok (.int (mateI c p)) m := fun x m => by
    simp only [AP, AV, AB, LS, EQ, esd, efr, side_left _ hc.side, nD, OI]
    unfold mateI
    by_cases h0 : c.side = 0
    · simp only [decide_eq_true h0, if_true, if_pos h0]
    · simp only [decide_eq_false h0, Bool.false_eq_true, if_false, if_neg h0]
  have f1 : sAsg (xIf (xTest (xOp eqD (xVar 8) (xC (.str "left")))) (xOp subD (xVar 15) (xVar 9)) (xOp addD (xVar 15) (xVar 9))) (gNm 16) (rhoN skd r ws μ c x11 x12 x13 x14 (some (nD p)) x16 x17) (μ ++ [.lst (l.map woD)]) = .next (rhoN skd r ws μ c x11 x12 x13 x14 (some (nD p)) (some (.int (mateI c p))) x17) (μ ++ [.lst (l.map woD)]) := by
    show Out.stm _ (xIf _ _ _ _ _) _ = _
    rw [e1]
    rfl
  have e2 : xIf (xTest (xChain leD ltD (xC (.int 0)) (xVar 16) (xVar 4))) (xOp ixD (xVar 2) (xVar 16)) (xTup xaNil) (rhoN skd r ws μ c x11 x12 x13 x14 (some (nD p)) (some (.int (mateI c p))) x17) (μ ++ [.lst (l.map woD)]) = .ok (woD (there c ws p)) (μ ++ [.lst (l.map woD)]) :=
    there_ok (n := ws.length) rfl rfl rfl fun q hq hm => by
      have hix : ∀ m, ixD (.lst (ws.map woD)) (.int (mateI c p)) m = .ok (woD (gw ws q)) m := fun m => by rw [hm]; exact ix_wo hq m
      simp only [AP, AV, AB, LS, hix]
  have f2 : sAsg (xIf (xTest (xChain leD ltD (xC (.int 0)) (xVar 16) (xVar 4))) (xOp ixD (xVar 2) (xVar 16)) (xTup xaNil)) (gNm 17) (rhoN skd r ws μ c x11 x12 x13 x14 (some (nD p)) (some (.int (mateI c p))) x17) (μ ++ [.lst (l.map woD)]) = .next (rhoN skd r ws μ c x11 x12 x13 x14 (some (nD p)) (some (.int (mateI c p))) (some (woD (there c ws p)))) (μ ++ [.lst (l.map woD)]) := by
    show Out.stm _ (xIf _ _ _ _ _) _ = _
    rw [e2]
    rfl
  unfold dnIn
  rw [seq_next f1, seq_next f2]
  have ht := there_run hrun c p
  have hg := gw_run hrun p
  have j1 : ∀ m, F__law_joint [woD (there c ws p), woD (gw ws p)] m = .ok (woD (joint (there c ws p) (gw ws p))) m := fun m => joint_ok _ _ (fun x e => Nat.le_trans (ht.len x e) hn) (fun x e => Nat.le_trans (hg.len x e) hn) m
  have j2 : ∀ m, F__law_joint [woD (gw ws p), woD (there c ws p)] m = .ok (woD (joint (gw ws p) (there c ws p))) m := fun m => joint_ok _ _ (fun x e => Nat.le_trans (hg.len x e) hn) (fun x e => Nat.le_trans (ht.len x e) hn) m
  have sp := fun w => put_ok (μ := μ) (l := l) (p := p) (by omega) w
  have s0 : setD (.loc μ.length) (nD p) (.tup []) (μ ++ [.lst (l.map woD)]) = .ok () (μ ++ [.lst ((l.set p (some [])).map woD)]) := sp (some [])
  unfold eff
  by_cases w0 : c.w = 0
  · by_cases h0 : c.side = 0
    · simp only [AP, AV, AB, LS, EQ, word_joinX _ h4, decide_eq_true w0, if_true, if_pos w0, esd, side_left _ hc.side, decide_eq_true h0, if_pos h0, ix_wo hp, j1, sp]
    · simp only [AP, AV, AB, LS, EQ, word_joinX _ h4, decide_eq_true w0, if_true, if_pos w0, esd, side_left _ hc.side, decide_eq_false h0, if_neg h0, Bool.false_eq_true, if_false, ix_wo hp, j2, sp]
  · by_cases w2 : c.w = 2
    · simp only [AP, AV, AB, LS, EQ, word_joinX _ h4, word_clearX _ h4, decide_eq_false w0, if_neg w0, decide_eq_true w2, if_pos w2, Bool.false_eq_true, if_false, if_true, s0]
    · simp only [AP, AV, AB, LS, EQ, word_joinX _ h4, word_clearX _ h4, decide_eq_false w0, if_neg w0, decide_eq_false w2, if_neg w2, Bool.false_eq_true, if_false, sp]
theorem loop_in {n : Nat} (hn : n ≤ 1000) {skd : D} {r : List Cl} {ws : List Wo} (hrun : ∀ w ∈ ws, RunW n w) {c : Cl} (hc : c.Ok) (h3 : c.w ≠ 3) (μ : Mu) (x11 x12 x13 x14 : Option D) : ∀ (ps : List Nat) (l : List Wo) (x15 x16 x17 : Option D), (∀ p ∈ ps, p < ws.length) → l.length = ws.length →
    ∃ y15 y16 y17, loopF (gNm 15) dnIn (ps.map nD) (rhoN skd r ws μ c x11 x12 x13 x14 x15 x16 x17) (μ ++ [.lst (l.map woD)]) = .next (rhoN skd r ws μ c x11 x12 x13 x14 y15 y16 y17) (μ ++ [.lst ((putF l ps (eff c ws)).map woD)])
  | [], l, x15, x16, x17, _, _ => ⟨x15, x16, x17, rfl⟩
  | p :: ps, l, x15, x16, x17, hp, hl => by
    obtain ⟨y15, y16, y17, e⟩ := loop_in hn (skd := skd) (r := r) hrun hc h3 μ x11 x12 x13 x14 ps (l.set p (eff c ws p)) (some (nD p)) (some (.int (mateI c p))) (some (woD (there c ws p))) (fun q hq => hp q (List.mem_cons_of_mem _ hq)) (by rw [List.length_set]; exact hl)
    refine ⟨y15, y16, y17, ?_⟩
    rw [List.map_cons, loop_step (r1 := rhoN skd r ws μ c x11 x12 x13 x14 (some (nD p)) x16 x17) rfl (dnIn_ok hn hrun hc h3 μ (hp p (List.mem_cons_self ..)) hl x11 x12 x13 x14 x16 x17), e]
    rfl
theorem plc_ok {c : Cl} (hc : c.Ok) {n : Nat} (hn : n ≤ 1000) {i j k : Nat} {ρ : Rho} {m : Mu} (h1 : ρ[i]? = some (some (.int c.rest))) (h2 : ρ[j]? = some (some (.int (n : Nat)))) (h3 : ρ[k]? = some (some (.int c.step))) : xLstR (xiRng3 (xaCons (xVar i) (xaCons (xVar j) (xaCons (xVar k) xaNil)))) ρ m = .ok (.lst ((plc c n).map nD)) m := by
  have hl : ((plc c n).map nD).length ≤ 16777216 := by
    rw [List.length_map]
    have := plc_len c n
    omega
  have hz : ∀ m, frzL ((plc c n).map nD) m = .ok (.lst ((plc c n).map nD)) m := fun m => by
    unfold frzL
    rw [if_pos hl]
  have x1 : ∀ (f : XA) (r : Rho) (m : Mu), xLstR f r m = (f r m).bind frzL := fun _ _ _ => rfl
  have x2 : ∀ (f : XA) (r : Rho) (m : Mu), xiRng3 f r m = (f r m).bind rngD3 := fun _ _ _ => rfl
  simp only [x1, x2, AP, AV, h1, h2, h3, AB, rng3_ok hc (show n < 2 ^ 40 by omega), hz]
/-! ### .. of calls -/
theorem put_zip (ps : List Nat) (vs : List Wo) (h : vs.length = ps.length) (l : List Wo) : (List.range ps.length).foldl (fun l k => l.set (ps.getD k 0) (vs.getD k none)) l = putAll l ps vs := by
  unfold putAll
  induction ps generalizing vs l with
  | nil => rfl
  | cons p ps ih =>
    cases vs with
    | nil => cases h
    | cons v vs =>
      rw [List.length_cons, List.range_succ_eq_map, List.foldl_cons, List.foldl_map, List.zip_cons_cons, List.foldl_cons]
      exact ih vs (by simpa using h) (l.set p v)
theorem find_goal {sk : List Pl} (hnm : ∀ p ∈ sk, p.nm < 9) (hlen : sk.length ≤ 100) {x : Nat} (hx : ∃ p ∈ sk, p.nm = x) (h9 : x < 9) {ρ : Rho} (h18 : 18 < ρ.length) (h10 : ρ[10]? = some (some (.str (nmS x)))) (μ : Mu) :
    ∃ gs, lcD (gNm 18) (xTest (xOp eqD (xOp ixD (xVar 18) (xC (.int 0))) (xVar 10))) (xOp ixD (xVar 18) (xC (.int 1))) ρ (sk.map Pl.dat) μ = .ok (.lst ((goalOf sk x).dat :: gs)) μ := by
  have e := lc_fil (μ := μ) (i := 18) (tt := (xTest (xOp eqD (xOp ixD (xVar 18) (xC (.int 0))) (xVar 10)))) (te := (xOp ixD (xVar 18) (xC (.int 1)))) (r0 := ρ) Pl.dat (fun p => decide (p.nm = x)) (fun p => p.goal.dat) (xs := sk) (fun p hp acc => by
      have i0 : ∀ m, ixD p.dat (.int 0) m = .ok (nmD p.nm) m := fun m => IX.1
      have h10' : (ρ.set 18 (some p.dat))[10]? = some (some (.str (nmS x))) := by rw [List.getElem?_set_ne (by decide)]; exact h10
      have eq : ∀ m, eqD (nmD p.nm) (.str (nmS x)) m = .ok (.bl (decide (p.nm = x))) m := fun m => by
        show Out.ok (D.bl (nmS p.nm == nmS x)) m = _
        rw [nmS_eq _ (hnm p hp) _ h9]
      simp only [AP, AV, AB, List.getElem?_set_self h18, h10', i0, eq]) (fun p hp _ acc => by
      have i1 : ∀ m, ixD p.dat (.int 1) m = .ok p.goal.dat m := fun m => IX.2.1
      simp only [AP, AV, AB, List.getElem?_set_self h18, i1]) (fun p _ _ => p.goal.dat_in _) (by
      unfold sizeLine
      omega)
  obtain ⟨p, hp, rfl⟩ := hx
  unfold goalOf
  cases hf : sk.find? fun q => decide (q.nm = p.nm) with
  | none =>
    rw [List.find?_eq_none] at hf
    exact absurd (decide_eq_true rfl) (hf p hp)
  | some q =>
    have hfl : ∃ t, sk.filter (fun z => decide (z.nm = p.nm)) = q :: t := by
      have := List.head?_filter (p := fun z : Pl => decide (z.nm = p.nm)) (l := sk)
      rw [hf] at this
      cases hh : sk.filter (fun z => decide (z.nm = p.nm)) with
      | nil => rw [hh] at this; cases this
      | cons a t => rw [hh] at this; cases this; exact ⟨t, rfl⟩
    obtain ⟨t, ht⟩ := hfl
    rw [ht, List.map_cons] at e
    exact ⟨_, e⟩
theorem loop_put (skd : D) (r : List Cl) (ws : List Wo) (c : Cl) (μ : Mu) (ps : List Nat) (vs : List Wo) (hv : vs.length = ps.length) (hps : ∀ p ∈ ps, p < ws.length) (x12 x15 x16 x17 : Option D) : ∀ (ks : List Nat) (l : List Wo) (x14 : Option D), (∀ k ∈ ks, k < ps.length) → l.length = ws.length →
    ∃ y14, loopF (gNm 14) (sAsg (xOp ixD (xVar 13) (xVar 14)) (gSb (xVar 3) (xOp ixD (xVar 11) (xVar 14)))) (ks.map nD) (rhoN skd r ws μ c (some (.lst (ps.map nD))) x12 (some (.lst (vs.map woD))) x14 x15 x16 x17) (μ ++ [.lst (l.map woD)]) = .next (rhoN skd r ws μ c (some (.lst (ps.map nD))) x12 (some (.lst (vs.map woD))) y14 x15 x16 x17) (μ ++ [.lst ((ks.foldl (fun l k => l.set (ps.getD k 0) (vs.getD k none)) l).map woD)])
  | [], l, x14, _, _ => ⟨x14, rfl⟩
  | k :: ks, l, x14, hk, hl => by
    obtain ⟨y14, e⟩ := loop_put skd r ws c μ ps vs hv hps x12 x15 x16 x17 ks (l.set (ps.getD k 0) (vs.getD k none)) (some (nD k)) (fun q hq => hk q (List.mem_cons_of_mem _ hq)) (by rw [List.length_set]; exact hl)
    refine ⟨y14, ?_⟩
    have hk0 := hk k (List.mem_cons_self ..)
    have i1 : ∀ m, ixD (.lst (vs.map woD)) (nD k) m = .ok (woD (vs.getD k none)) m := fun m => ix_wo (ws := vs) (by omega) m
    have i2 : ∀ m, ixD (.lst (ps.map nD)) (nD k) m = .ok (nD (ps.getD k 0)) m := fun m => by
      refine ix_lst ?_
      rw [List.getElem?_map, List.getD_eq_getElem?_getD, List.getElem?_eq_getElem hk0]
      rfl
    have hpl : ps.getD k 0 < l.length := by
      rw [List.getD_eq_getElem?_getD, List.getElem?_eq_getElem hk0, hl]
      exact hps _ (List.getElem_mem hk0)
    have hb : sAsg (xOp ixD (xVar 13) (xVar 14)) (gSb (xVar 3) (xOp ixD (xVar 11) (xVar 14))) (rhoN skd r ws μ c (some (.lst (ps.map nD))) x12 (some (.lst (vs.map woD))) (some (nD k)) x15 x16 x17) (μ ++ [.lst (l.map woD)]) = .next (rhoN skd r ws μ c (some (.lst (ps.map nD))) x12 (some (.lst (vs.map woD))) (some (nD k)) x15 x16 x17) (μ ++ [.lst ((l.set (ps.getD k 0) (vs.getD k none)).map woD)]) := by
      simp only [AP, AV, AB, LS, i1, i2, put_ok hpl]
    rw [List.map_cons, loop_step (r1 := rhoN skd r ws μ c (some (.lst (ps.map nD))) x12 (some (.lst (vs.map woD))) (some (nD k)) x15 x16 x17) rfl hb, e]
    rfl
structure Skt (sk : List Pl) : Prop where
  nm : ∀ p ∈ sk, p.nm < 9
  len : sk.length ≤ 100
def Named (sk : List Pl) (r : List Cl) : Prop := ∀ c ∈ r, c.w = 3 → ∃ p ∈ sk, p.nm = c.goal
theorem dnCall_ok {n : Nat} (hn : n ≤ 1000) {sk : List Pl} (hs : Skt sk) {r : List Cl} {ws : List Wo} (hrun : ∀ w ∈ ws, RunW n w) (hwl : ws.length ≤ 900) {c : Cl} (hc : c.Ok) (h3 : c.w = 3) (hnm : ∃ p ∈ sk, p.nm = c.goal) (μ : Mu) {l : List Wo} (hl : l.length = ws.length) (x12 x13 x14 x15 x16 x17 : Option D) :
    ∃ y12 y13 y14, dnCall (rhoN (skD sk) r ws μ c (some (.lst ((plc c ws.length).map nD))) x12 x13 x14 x15 x16 x17) (μ ++ [.lst (l.map woD)]) = .next (rhoN (skD sk) r ws μ c (some (.lst ((plc c ws.length).map nD))) y12 y13 y14 x15 x16 x17) (μ ++ [.lst ((done1 sk ws l c).map woD)]) := by
  have elb : lbS c = nmS c.goal := if_pos h3
  have hpl : ∀ p ∈ plc c ws.length, p < ws.length := fun p hp => plc_lt hc.step0 hc.rest hp
  have hln := plc_len c ws.length
  obtain ⟨gs, e1⟩ := find_goal hs.nm hs.len hnm hc.goal (ρ := rhoN (skD sk) r ws μ c (some (.lst ((plc c ws.length).map nD))) x12 x13 x14 x15 x16 x17) (show 18 < 19 by decide) (by rw [← elb]; rfl) (μ ++ [.lst (l.map woD)])
  have f1 : sAsg (xOp ixD (xLc (xiSeq (xVar 0)) [18] (gNm 18) (xTest (xOp eqD (xOp ixD (xVar 18) (xC (.int 0))) (xVar 10))) (xOp ixD (xVar 18) (xC (.int 1)))) (xC (.int 0))) (gNm 12) (rhoN (skD sk) r ws μ c (some (.lst ((plc c ws.length).map nD))) x12 x13 x14 x15 x16 x17) (μ ++ [.lst (l.map woD)]) = .next (rhoN (skD sk) r ws μ c (some (.lst ((plc c ws.length).map nD))) (some (goalOf sk c.goal).dat) x13 x14 x15 x16 x17) (μ ++ [.lst (l.map woD)]) := by
    have hsq : ∀ m, seqD (skD sk) m = .ok (sk.map Pl.dat) m := fun _ => rfl
    have hi : ∀ m, ixD (.lst ((goalOf sk c.goal).dat :: gs)) (.int 0) m = .ok (goalOf sk c.goal).dat m := fun m => IX.1
    simp only [AP, AV, AB, LS, hsq, wipeR, e1, hi]
  have e2 : ∀ (ρ : Rho) (m : Mu), 15 < ρ.length → ρ[2]? = some (some (.lst (ws.map woD))) → lcD (gNm 15) xYes (xOp ixD (xVar 2) (xVar 15)) ρ ((plc c ws.length).map nD) m = .ok (.lst (((plc c ws.length).map (gw ws)).map woD)) m := fun ρ m h15 h2 => by
    rw [List.map_map]
    refine lc_map _ _ (fun p hp acc => ?_) (fun p _ => woD_in _ _) (by unfold sizeLine; omega)
    have h2' : (ρ.set 15 (some (nD p)))[2]? = some (some (.lst (ws.map woD))) := by rw [List.getElem?_set_ne (by decide)]; exact h2
    simp only [AP, AV, AB, List.getElem?_set_self h15, h2', ix_wo (hpl p hp)]
    rfl
  have hpr : ∀ w ∈ (plc c ws.length).map (gw ws), RunW n w := fun w hw => by
    obtain ⟨p, _, rfl⟩ := List.mem_map.mp hw
    exact gw_run hrun p
  have e3 : ∀ m, F__law_says [(goalOf sk c.goal).dat, .lst (((plc c ws.length).map (gw ws)).map woD)] m = .ok (.lst ((told sk c ws).map woD)) m := fun m => by
    unfold told
    rw [if_pos h3]
    exact says_ok hn _ (by rw [List.length_map]; omega) hpr m
  have htl : (told sk c ws).length = (plc c ws.length).length := by
    unfold told
    rw [if_pos h3, says_len, List.length_map]
  have f2 : sAsg (xCall F__law_says (xaCons (xVar 12) (xaCons (xLc (xiSeq (xVar 11)) [15] (gNm 15) xYes (xOp ixD (xVar 2) (xVar 15))) xaNil))) (gNm 13) (rhoN (skD sk) r ws μ c (some (.lst ((plc c ws.length).map nD))) (some (goalOf sk c.goal).dat) x13 x14 x15 x16 x17) (μ ++ [.lst (l.map woD)]) = .next (rhoN (skD sk) r ws μ c (some (.lst ((plc c ws.length).map nD))) (some (goalOf sk c.goal).dat) (some (.lst ((told sk c ws).map woD))) x14 x15 x16 x17) (μ ++ [.lst (l.map woD)]) := by
    have e2' := e2 (wipeR (rhoN (skD sk) r ws μ c (some (.lst ((plc c ws.length).map nD))) (some (goalOf sk c.goal).dat) x13 x14 x15 x16 x17) [15]) (μ ++ [.lst (l.map woD)]) (show 15 < 19 by decide) rfl
    have e4 : xLc (xiSeq (xVar 11)) [15] (gNm 15) xYes (xOp ixD (xVar 2) (xVar 15)) (rhoN (skD sk) r ws μ c (some (.lst ((plc c ws.length).map nD))) (some (goalOf sk c.goal).dat) x13 x14 x15 x16 x17) (μ ++ [.lst (l.map woD)]) = .ok (.lst (((plc c ws.length).map (gw ws)).map woD)) (μ ++ [.lst (l.map woD)]) := e2'
    show Out.stm _ (Out.bind (Out.bind (xVar 12 _ _) _) _) _ = _
    rw [AV]
    simp only [LS, AB]
    show Out.stm _ (Out.bind (Out.bind (Out.bind (xLc (xiSeq (xVar 11)) [15] (gNm 15) xYes (xOp ixD (xVar 2) (xVar 15)) _ _) _) _) _) _ = _
    rw [e4]
    simp only [AB, AP, LS, e3]
  obtain ⟨y14, e5⟩ := loop_put (skD sk) r ws c μ (plc c ws.length) (told sk c ws) htl hpl (some (goalOf sk c.goal).dat) x15 x16 x17 (List.range (plc c ws.length).length) l x14 (fun k hk => List.mem_range.mp hk) hl
  rw [put_zip _ _ htl, ← rngL_nD] at e5
  refine ⟨some (goalOf sk c.goal).dat, some (.lst ((told sk c ws).map woD)), y14, ?_⟩
  unfold dnCall
  rw [seq_next f1, seq_next f2]
  have hlen : ∀ m, lenD [.lst ((plc c ws.length).map nD)] m = .ok (.int ((plc c ws.length).length : Nat)) m := fun m => by
    show Out.ok (D.int (((plc c ws.length).map nD).length : Nat)) m = _
    rw [List.length_map]
  have f3 : xiRng1 (xaCons (xCall lenD (xaCons (xVar 11) xaNil)) xaNil) (rhoN (skD sk) r ws μ c (some (.lst ((plc c ws.length).map nD))) (some (goalOf sk c.goal).dat) (some (.lst ((told sk c ws).map woD))) x14 x15 x16 x17) (μ ++ [.lst (l.map woD)]) = .ok (rngL 0 (plc c ws.length).length) (μ ++ [.lst (l.map woD)]) := by
    simp only [AP, AV, AB, LS, hlen, rng1_ok (show (plc c ws.length).length < 2 ^ 62 by omega)]
  show Out.stm _ (xiRng1 _ _ _) _ = _
  rw [f3]
  exact e5
end J

namespace J
open PySem PySem.Spec PyProof.Rows L2 DS
theorem dnBody_ok {n : Nat} (hn : n ≤ 1000) {sk : List Pl} (hs : Skt sk) {r : List Cl} {ws : List Wo} (hrun : ∀ w ∈ ws, RunW n w) (hwl : ws.length ≤ 900) {c : Cl} (hc : c.Ok) (hnm : c.w = 3 → ∃ p ∈ sk, p.nm = c.goal) (μ : Mu) {l : List Wo} (hl : l.length = ws.length) (x11 x12 x13 x14 x15 x16 x17 : Option D) :
    ∃ y11 y12 y13 y14 y15 y16 y17, dnBody (rhoN (skD sk) r ws μ c x11 x12 x13 x14 x15 x16 x17) (μ ++ [.lst (l.map woD)]) = .next (rhoN (skD sk) r ws μ c y11 y12 y13 y14 y15 y16 y17) (μ ++ [.lst ((done1 sk ws l c).map woD)]) := by
  have f1 : sAsg (xLstR (xiRng3 (xaCons (xVar 6) (xaCons (xVar 4) (xaCons (xVar 7) xaNil))))) (gNm 11) (rhoN (skD sk) r ws μ c x11 x12 x13 x14 x15 x16 x17) (μ ++ [.lst (l.map woD)]) = .next (rhoN (skD sk) r ws μ c (some (.lst ((plc c ws.length).map nD))) x12 x13 x14 x15 x16 x17) (μ ++ [.lst (l.map woD)]) := by
    show Out.stm _ (xLstR _ _ _) _ = _
    rw [plc_ok hc (show ws.length ≤ 1000 by omega) rfl rfl rfl]
    rfl
  have hpl : ∀ p ∈ plc c ws.length, p < ws.length := fun p hp => plc_lt hc.step0 hc.rest hp
  have tst : ∀ (b : Bool), decide (c.w = 3) = b → ∀ (y11 y12 y13 y14 : Option D) m, xTest (xOp eqD (xVar 5) (xC (.str "call"))) (rhoN (skD sk) r ws μ c y11 y12 y13 y14 x15 x16 x17) m = .ok b m := fun b hb y11 y12 y13 y14 m => by
    simp only [AP, AV, AB, LS, EQ, word_call _ hc.w, hb]
  by_cases h3 : c.w = 3
  · obtain ⟨y12, y13, y14, e⟩ := dnCall_ok hn hs (r := r) hrun hwl hc h3 (hnm h3) μ hl x12 x13 x14 x15 x16 x17
    refine ⟨some (.lst ((plc c ws.length).map nD)), y12, y13, y14, x15, x16, x17, ?_⟩
    have f2 : sIf (xTest (xOp eqD (xVar 5) (xC (.str "call")))) dnCall sNil (rhoN (skD sk) r ws μ c (some (.lst ((plc c ws.length).map nD))) x12 x13 x14 x15 x16 x17) (μ ++ [.lst (l.map woD)]) = .next (rhoN (skD sk) r ws μ c (some (.lst ((plc c ws.length).map nD))) y12 y13 y14 x15 x16 x17) (μ ++ [.lst ((done1 sk ws l c).map woD)]) := by
      show Out.stm _ (xTest _ _ _) _ = _
      rw [tst true (decide_eq_true h3)]
      exact e
    unfold dnBody
    rw [seq_next f1, seq_next f2]
    show Out.stm _ (Out.bind (Out.bind (xTest _ _ _) _) _) _ = _
    rw [tst true (decide_eq_true h3)]
    rfl
  · obtain ⟨y15, y16, y17, e⟩ := loop_in hn (skd := skD sk) (r := r) hrun hc h3 μ (some (.lst ((plc c ws.length).map nD))) x12 x13 x14 (plc c ws.length) l x15 x16 x17 hpl hl
    refine ⟨some (.lst ((plc c ws.length).map nD)), x12, x13, x14, y15, y16, y17, ?_⟩
    have f2 : sIf (xTest (xOp eqD (xVar 5) (xC (.str "call")))) dnCall sNil (rhoN (skD sk) r ws μ c (some (.lst ((plc c ws.length).map nD))) x12 x13 x14 x15 x16 x17) (μ ++ [.lst (l.map woD)]) = .next (rhoN (skD sk) r ws μ c (some (.lst ((plc c ws.length).map nD))) x12 x13 x14 x15 x16 x17) (μ ++ [.lst (l.map woD)]) := by
      show Out.stm _ (xTest _ _ _) _ = _
      rw [tst false (decide_eq_false h3)]
      rfl
    unfold dnBody
    rw [seq_next f1, seq_next f2]
    show Out.stm _ (Out.bind (Out.bind (xTest _ _ _) _) _) _ = _
    rw [tst false (decide_eq_false h3)]
    have ed : done1 sk ws l c = putF l (plc c ws.length) (eff c ws) := by
      unfold done1 told
      rw [if_neg h3, putAll_map]
    rw [ed]
    exact e
theorem done1_len (sk : List Pl) (ws l : List Wo) (c : Cl) : (done1 sk ws l c).length = l.length := putAll_len _ _ _
theorem foldD_len (sk : List Pl) (ws : List Wo) : ∀ (r : List Cl) (l : List Wo), (r.foldl (done1 sk ws) l).length = l.length
  | [], l => rfl
  | c :: r, l => by rw [List.foldl_cons, foldD_len sk ws r, done1_len]
theorem doneL_len (sk : List Pl) (r : List Cl) (ws : List Wo) : (doneL sk r ws).length = ws.length := foldD_len sk ws r ws
abbrev gt6 : XG := gTp 6 (gsCons (gNm 5) (gsCons (gNm 6) (gsCons (gNm 7) (gsCons (gNm 8) (gsCons (gNm 9) (gsCons (gNm 10) gsNil))))))
theorem loop_done {n : Nat} (hn : n ≤ 1000) {sk : List Pl} (hs : Skt sk) {r : List Cl} {ws : List Wo} (hrun : ∀ w ∈ ws, RunW n w) (hwl : ws.length ≤ 900) (μ : Mu) : ∀ (cs : List Cl) (l : List Wo) (x5 x6 x7 x8 x9 x10 x11 x12 x13 x14 x15 x16 x17 : Option D), (∀ c ∈ cs, c.Ok) → Named sk cs → l.length = ws.length →
    ∃ y5 y6 y7 y8 y9 y10 y11 y12 y13 y14 y15 y16 y17, loopF gt6 dnBody (cs.map Cl.dat) [some (skD sk), some (.lst (r.map Cl.dat)), some (.lst (ws.map woD)), some (.loc μ.length), some (.int (ws.length : Nat)), x5, x6, x7, x8, x9, x10, x11, x12, x13, x14, x15, x16, x17, none] (μ ++ [.lst (l.map woD)]) = .next [some (skD sk), some (.lst (r.map Cl.dat)), some (.lst (ws.map woD)), some (.loc μ.length), some (.int (ws.length : Nat)), y5, y6, y7, y8, y9, y10, y11, y12, y13, y14, y15, y16, y17, none] (μ ++ [.lst ((cs.foldl (done1 sk ws) l).map woD)])
  | [], l, x5, x6, x7, x8, x9, x10, x11, x12, x13, x14, x15, x16, x17, _, _, _ => ⟨x5, x6, x7, x8, x9, x10, x11, x12, x13, x14, x15, x16, x17, rfl⟩
  | c :: cs, l, x5, x6, x7, x8, x9, x10, x11, x12, x13, x14, x15, x16, x17, hok, hnm, hl => by
    obtain ⟨z11, z12, z13, z14, z15, z16, z17, e1⟩ := dnBody_ok hn hs (r := r) hrun hwl (hok c (List.mem_cons_self ..)) (hnm c (List.mem_cons_self ..)) μ hl x11 x12 x13 x14 x15 x16 x17
    obtain ⟨y5, y6, y7, y8, y9, y10, y11, y12, y13, y14, y15, y16, y17, e2⟩ := loop_done hn hs (r := r) hrun hwl μ cs (done1 sk ws l c) (some (.str (wordS c.w))) (some (.int c.rest)) (some (.int c.step)) (some (.str (sdS c))) (some (.int (frI c))) (some (.str (lbS c))) z11 z12 z13 z14 z15 z16 z17 (fun q hq => hok q (List.mem_cons_of_mem _ hq)) (fun q hq => hnm q (List.mem_cons_of_mem _ hq)) (by rw [done1_len]; exact hl)
    refine ⟨y5, y6, y7, y8, y9, y10, y11, y12, y13, y14, y15, y16, y17, ?_⟩
    rw [List.map_cons, loop_step (r1 := rhoN (skD sk) r ws μ c x11 x12 x13 x14 x15 x16 x17) (by rw [Cl.dat6]; rfl) e1, e2]
    rfl
theorem law_done_ok {n : Nat} (hn : n ≤ 1000) {sk : List Pl} (hs : Skt sk) {r : List Cl} (hr : ∀ c ∈ r, c.Ok) (hnm : Named sk r) {ws : List Wo} (hrun : ∀ w ∈ ws, RunW n w) (hwl : ws.length ≤ 900) (μ : Mu) : F__law_done [skD sk, .lst (r.map Cl.dat), .lst (ws.map woD)] μ = .ok (.lst ((doneL sk r ws).map woD)) μ := by
  obtain ⟨y5, y6, y7, y8, y9, y10, y11, y12, y13, y14, y15, y16, y17, e⟩ := loop_done hn hs (r := r) hrun hwl μ r ws none none none none none none none none none none none none none hr hnm rfl
  have hx := exit_lastX (μ := μ) (wos_in (doneL sk r ws) μ.length)
  refine (fn_ret (g := B__law_done) ?_).trans hx
  have f1 : sPar 3 4 (xaCons (xCall newF (xaCons (xVar 2) xaNil)) (xaCons (xCall lenD (xaCons (xVar 2) xaNil)) xaNil)) [some (skD sk), some (.lst (r.map Cl.dat)), some (.lst (ws.map woD)), none, none, none, none, none, none, none, none, none, none, none, none, none, none, none, none] μ = .next [some (skD sk), some (.lst (r.map Cl.dat)), some (.lst (ws.map woD)), some (.loc μ.length), some (.int (ws.length : Nat)), none, none, none, none, none, none, none, none, none, none, none, none, none, none] (μ ++ [.lst (ws.map woD)]) := by
    have nf : newF [.lst (ws.map woD)] μ = .ok (.loc μ.length) (μ ++ [.lst (ws.map woD)]) := by
      show (if D.inL μ.length (ws.map woD) then Out.ok (D.loc μ.length) (μ ++ [.lst (ws.map woD)]) else .stuck) = _
      rw [if_pos (wos_in _ _)]
    simp only [PAR, AP, AV, AB, LS, nf, len_wo]
  show sSeq _ (sSeq (sFor (xiSeq (xVar 1)) gt6 dnBody) (sRet (xVar 3))) [some (skD sk), some (.lst (r.map Cl.dat)), some (.lst (ws.map woD)), none, none, none, none, none, none, none, none, none, none, none, none, none, none, none, none] μ = _
  rw [seq_next f1]
  have f2 : sFor (xiSeq (xVar 1)) gt6 dnBody [some (skD sk), some (.lst (r.map Cl.dat)), some (.lst (ws.map woD)), some (.loc μ.length), some (.int (ws.length : Nat)), none, none, none, none, none, none, none, none, none, none, none, none, none, none] (μ ++ [.lst (ws.map woD)]) = .next [some (skD sk), some (.lst (r.map Cl.dat)), some (.lst (ws.map woD)), some (.loc μ.length), some (.int (ws.length : Nat)), y5, y6, y7, y8, y9, y10, y11, y12, y13, y14, y15, y16, y17, none] (μ ++ [.lst ((doneL sk r ws).map woD)]) := e
  rw [seq_next f2]
  rfl
end J

namespace J
open PySem PySem.Spec PyProof.Rows L2 DS
/-! ### runs of the program -/
def rn : List Nat → Nat × Nat
  | [] => (0, 0)
  | a :: l => (a, (a :: l).getLast (List.cons_ne_nil _ _) + 1)
def prD (x : Nat × Nat) : D := .tup [nD x.1, nD x.2]
def rnD : Wo → D
  | some l => prD (rn l)
  | none => .non
theorem rnD_in (w : Wo) (n : Nat) : (rnD w).inB n = true := by cases w <;> rfl
theorem rn_range (s k : Nat) : rn (List.range' s (k + 1)) = (s, s + k + 1) := by
  rw [List.range'_succ]
  show (s, _ + 1) = _
  congr 2
  have e : s :: List.range' (s + 1) k = List.range' s k ++ [s + k] := by rw [← List.range'_succ, List.range'_concat]; simp
  simp only [e]
  simp
theorem rn_inj {n : Nat} {a b : List Nat} (ha : RunW n (some a)) (hb : RunW n (some b)) (e : rn a = rn b) : a = b := by
  obtain ⟨s, k, rfl, hk⟩ := ha a rfl
  obtain ⟨t, j, rfl, hj⟩ := hb b rfl
  cases k with
  | zero =>
    cases j with
    | zero => rfl
    | succ j =>
      rw [rn_range] at e
      have := congrArg Prod.snd e
      simp [rn] at this
  | succ k =>
    cases j with
    | zero =>
      rw [rn_range] at e
      have := congrArg Prod.snd e
      simp [rn] at this
    | succ j =>
      rw [rn_range, rn_range] at e
      have h1 := congrArg Prod.fst e
      have h2 := congrArg Prod.snd e
      simp only at h1 h2
      have : k = j := by omega
      subst this
      subst h1
      rfl
theorem rn_nil {n : Nat} {a : List Nat} (ha : RunW n (some a)) : rn a = (0, 0) ↔ a = [] := ⟨fun e => rn_inj ha (RunW.nil) e, fun e => by rw [e]; rfl⟩
/-! == of pairs -/
def rnP : Wo → PyData
  | some l => .tuple [.int ((rn l).1 : Nat), .int ((rn l).2 : Nat)]
  | none => .none
theorem toP_rn (w : Wo) : toP (rnD w) = some (rnP w) := by cases w <;> rfl
theorem rn_shaped (w : Wo) : SeqAt.shaped (rnP w) = true := by cases w <;> rfl
theorem eqv_pair (a b c d : Int) : PyData.eqv (.tuple [.int a, .int b]) (.tuple [.int c, .int d]) = (decide (a = c) && decide (b = d)) := by
  have q := PySem.W.ked_eqvAll [a, b] [c, d]
  have e : PyData.eqv (.tuple [.int a, .int b]) (.tuple [.int c, .int d]) = PyData.eqvAll [.int a, .int b] [.int c, .int d] := by rw [PyData.eqv]
  rw [e]
  refine q.trans ?_
  rw [Bool.eq_iff_iff]
  simp
theorem eqv_rn {n : Nat} {a b : Wo} (ha : RunW n a) (hb : RunW n b) : PyData.eqv (rnP a) (rnP b) = decide (a = b) := by
  cases a with
  | none => cases b <;> rfl
  | some a =>
    cases b with
    | none => rfl
    | some b =>
      show PyData.eqv (.tuple [_, _]) (.tuple [_, _]) = _
      rw [eqv_pair, Bool.eq_iff_iff, Bool.and_eq_true, decide_eq_true_eq, decide_eq_true_eq, decide_eq_true_eq]
      constructor
      · rintro ⟨h1, h2⟩
        rw [rn_inj ha hb (Prod.ext (by omega) (by omega))]
      · intro e
        cases e
        exact ⟨rfl, rfl⟩
theorem eqB_rn {n : Nat} {a b : Wo} (ha : RunW n a) (hb : RunW n b) (m : Mu) : eqB m (rnD a) (rnD b) = some (decide (a = b)) := by
  have hd : ∀ w : Wo, dere m (rnD w) = rnD w := fun w => by cases w <;> rfl
  unfold eqB
  rw [hd, hd, toP_rn, toP_rn]
  simp only [rn_shaped, Bool.and_true, if_true, eqv_rn ha hb]
theorem eq_rn {n : Nat} {a b : Wo} (ha : RunW n a) (hb : RunW n b) (m : Mu) : eqD (rnD a) (rnD b) m = .ok (.bl (decide (a = b))) m := by
  have e := eqB_rn ha hb m
  cases a <;> cases b <;> (unfold eqD; simp only [rnD, prD] at e ⊢; rw [e])
theorem ne_rn {n : Nat} {a b : Wo} (ha : RunW n a) (hb : RunW n b) (m : Mu) : neD (rnD a) (rnD b) m = .ok (.bl (!decide (a = b))) m := by
  have e := eqB_rn ha hb m
  cases a <;> cases b <;> (unfold neD; simp only [rnD, prD] at e ⊢; rw [e])
theorem rn_exit (w : Wo) (μ : Mu) : exitD μ.length (rnD w) μ = .ok (rnD w) μ := by rw [exit_in (rnD_in _ _), List.take_length]
theorem joined_ok {n : Nat} {a b : Wo} (ha : RunW n a) (hb : RunW n b) (μ : Mu) : F_joined [rnD a, rnD b] μ = .ok (rnD (joint a b)) μ := by
  have en : ∀ m, isD D.non .non m = .ok (.bl true) m := fun _ => rfl
  have es : ∀ (l : List Nat) m, isD (rnD (some l)) .non m = .ok (.bl false) m := fun _ _ => rfl
  cases a with
  | none =>
    refine (fn_ret (g := B_joined) ?_).trans (rn_exit none μ)
    refine seq_ret ?_
    simp only [rnD, rho0, List.map, List.replicate, List.length, Nat.reduceSub, Nat.reduceAdd, List.cons_append, List.nil_append, AP, AV, AB, LS, en, if_true]
  | some a =>
    cases b with
    | none =>
      refine (fn_ret (g := B_joined) ?_).trans (rn_exit none μ)
      refine seq_ret ?_
      have e2 : ∀ m, isD (rnD none) .non m = .ok (.bl true) m := fun _ => rfl
      simp only [rho0, List.map, List.replicate, List.length, Nat.reduceSub, Nat.reduceAdd, List.cons_append, List.nil_append, AP, AV, AB, LS, es, e2, if_true, Bool.false_eq_true, if_false]
      rfl
    | some b =>
      have e0 : ∀ {l : List Nat} m, RunW n (some l) → eqD (rnD (some l)) (.tup [.int 0, .int 0]) m = .ok (.bl (decide (l = []))) m := fun {l} m hl => by
        have := eq_rn hl (RunW.nil) m
        rw [show (decide (some l = some [])) = decide (l = []) by rw [Bool.eq_iff_iff]; simp] at this
        exact this
      have f1 : sIf (xOrT (xTest (xOp isD (xVar 0) (xC .non))) (xTest (xOp isD (xVar 1) (xC .non)))) (sRet (xC .non)) sNil [some (rnD (some a)), some (rnD (some b))] μ = .next [some (rnD (some a)), some (rnD (some b))] μ := by
        simp only [AP, AV, AB, LS, es, Bool.false_eq_true, if_false]
      by_cases h1 : a = []
      · refine (fn_ret (g := B_joined) ?_).trans (rn_exit _ μ)
        show sSeq _ _ [some (rnD (some a)), some (rnD (some b))] μ = _
        rw [seq_next f1, h1, joint_nil]
        refine seq_ret ?_
        simp only [AP, AV, AB, LS, e0 _ (h1 ▸ ha), decide_true, if_true]
      · by_cases h2 : b = []
        · refine (fn_ret (g := B_joined) ?_).trans (rn_exit _ μ)
          show sSeq _ _ [some (rnD (some a)), some (rnD (some b))] μ = _
          rw [seq_next f1, h2, joint_nil']
          refine seq_ret ?_
          simp only [AP, AV, AB, LS, e0 _ ha, e0 _ (h2 ▸ hb), decide_eq_false h1, decide_true, if_true, Bool.false_eq_true, if_false]
        · have f2 : sIf (xOrT (xTest (xOp eqD (xVar 0) (xC (.tup [.int 0, .int 0])))) (xTest (xOp eqD (xVar 1) (xC (.tup [.int 0, .int 0]))))) (sRet (xIf (xTest (xOp eqD (xVar 0) (xC (.tup [.int 0, .int 0])))) (xVar 1) (xVar 0))) sNil [some (rnD (some a)), some (rnD (some b))] μ = .next [some (rnD (some a)), some (rnD (some b))] μ := by
            simp only [AP, AV, AB, LS, e0 _ ha, e0 _ hb, decide_eq_false h1, decide_eq_false h2, Bool.false_eq_true, if_false]
          refine (fn_ret (g := B_joined) ?_).trans (rn_exit _ μ)
          show sSeq _ _ [some (rnD (some a)), some (rnD (some b))] μ = _
          rw [seq_next f1, seq_next f2]
          obtain ⟨s, k, rfl, hk⟩ := ha _ rfl
          obtain ⟨t, j, rfl, hj⟩ := hb _ rfl
          cases k with
          | zero => exact absurd rfl h1
          | succ k =>
            cases j with
            | zero => exact absurd rfl h2
            | succ j =>
              have ea : rnD (some (List.range' s (k + 1))) = .tup [nD s, nD (s + k + 1)] := by show prD (rn _) = _; rw [rn_range]; rfl
              have eb : rnD (some (List.range' t (j + 1))) = .tup [nD t, nD (t + j + 1)] := by show prD (rn _) = _; rw [rn_range]; rfl
              have ej : joint (some (List.range' s (k + 1))) (some (List.range' t (j + 1))) = if s + k + 1 = t then some (List.range' s (k + 1 + (j + 1))) else none := by
                have e1 : (List.range' s (k + 1)).getLast? = some (s + k) := by rw [List.range'_concat]; simp
                have e2 : (List.range' t (j + 1)).head? = some t := by rw [List.range'_succ]; rfl
                show (if _ ∨ _ ∨ _ then _ else _) = _
                rw [e1, e2]
                by_cases h : s + k + 1 = t
                · rw [if_pos (.inr (.inr (by simp [h]))), if_pos h]
                  subst h
                  rw [show s + k + 1 = s + 1 * (k + 1) by omega, List.range'_append]
                · rw [if_neg h, if_neg]
                  rintro (z | z | z)
                  · exact h1 z
                  · exact h2 z
                  · exact h (by simpa using z)
              rw [ea, eb, ej]
              have i1 : ∀ m, ixD (.tup [nD s, nD (s + k + 1)]) (.int 1) m = .ok (nD (s + k + 1)) m := fun m => IX.2.2.2.2.2.1
              have i0 : ∀ m, ixD (.tup [nD s, nD (s + k + 1)]) (.int 0) m = .ok (nD s) m := fun m => IX.2.2.2.2.1
              have i3 : ∀ m, ixD (.tup [nD t, nD (t + j + 1)]) (.int 1) m = .ok (nD (t + j + 1)) m := fun m => IX.2.2.2.2.2.1
              have i2 : ∀ m, ixD (.tup [nD t, nD (t + j + 1)]) (.int 0) m = .ok (nD t) m := fun m => IX.2.2.2.2.1
              have i4 : ∀ m, eqD (nD (s + k + 1)) (nD t) m = .ok (.bl (decide (s + k + 1 = t))) m := fun m => by
                show Out.ok (D.bl (((s + k + 1 : Nat) : Int) == (t : Int))) m = _
                congr 2
                rw [Bool.eq_iff_iff, beq_iff_eq, decide_eq_true_eq]
                omega
              by_cases h : s + k + 1 = t
              · simp only [AP, AV, AB, LS, i0, i1, i2, i3, i4, decide_eq_true h, if_true, if_pos h]
                show _ = SO.ret (prD (rn _)) μ
                rw [show k + 1 + (j + 1) = (k + 1 + j) + 1 by omega, rn_range]
                have e : prD (s, s + (k + 1 + j) + 1) = .tup [nD s, nD (t + j + 1)] := by
                  show D.tup [nD s, nD _] = _
                  rw [show s + (k + 1 + j) + 1 = t + j + 1 by omega]
                rw [e]
              · simp only [AP, AV, AB, LS, i0, i1, i2, i3, i4, decide_eq_false h, Bool.false_eq_true, if_false, if_neg h]
                rfl
end J

namespace J
open PySem PySem.Spec PyProof.Rows L2 DS
theorem rns_in (ws : List Wo) (n : Nat) : D.inL n (ws.map rnD) = true := inL_map _ _ _ fun w _ => rnD_in w _
theorem ix_rn {ws : List Wo} {p : Nat} (h : p < ws.length) (m : Mu) : ixD (.lst (ws.map rnD)) (nD p) m = .ok (rnD (gw ws p)) m := by
  refine ix_lst ?_
  unfold gw
  rw [List.getElem?_map, List.getD_eq_getElem?_getD, List.getElem?_eq_getElem h]
  rfl
theorem len_rn (ws : List Wo) (m : Mu) : lenD [.lst (ws.map rnD)] m = .ok (.int (ws.length : Nat)) m := by
  show Out.ok (D.int ((ws.map rnD).length : Nat)) m = _
  rw [List.length_map]
theorem rnlst_exit (ws : List Wo) (μ : Mu) : exitD μ.length (.lst (ws.map rnD)) μ = .ok (.lst (ws.map rnD)) μ := by
  rw [exit_in (by rw [D.inB]; exact rns_in _ _), List.take_length]
/-! ### the join of some runs -/
theorem joined_all_ok {n : Nat} {ws : List Wo} (h : ∀ w ∈ ws, RunW n w) (μ : Mu) : F_joined_all [.lst (ws.map rnD)] μ = .ok (rnD (allJ ws)) μ := by
  obtain ⟨r', l1, x, hr, rfl⟩ := loop_fold (g := gNm 2) (body := (sAsg (xCall F_joined (xaCons (xVar 1) (xaCons (xVar 2) xaNil))) (gNm 1))) rnD (fun _ : Wo => μ) (fun a r => ∃ x, RunW n a ∧ r = [some (.lst (ws.map rnD)), some (rnD a), x]) joint (xs := ws) (b := some []) (r := [some (.lst (ws.map rnD)), some (rnD (some [])), none]) ⟨none, .nil, rfl⟩ fun w hw a r hr => by
    obtain ⟨x, ha, rfl⟩ := hr
    have hw := h w hw
    refine ⟨[some (.lst (ws.map rnD)), some (rnD a), some (rnD w)], μ, [some (.lst (ws.map rnD)), some (rnD (joint a w)), some (rnD w)], by simp only [AP, LS], ?_, _, ha.joint hw, rfl⟩
    simp only [AP, AV, AB, LS, joined_ok ha hw]
  refine (fn_ret (g := B_joined_all) ?_).trans (rn_exit (allJ ws) μ)
  show sSeq _ (sSeq (sFor (xiSeq (xVar 0)) (gNm 2) _) (sRet (xVar 1))) [some (.lst (ws.map rnD)), none, none] μ = _
  have f1 : sAsg (xC (.tup [.int 0, .int 0])) (gNm 1) [some (.lst (ws.map rnD)), none, none] μ = .next [some (.lst (ws.map rnD)), some (rnD (some [])), none] μ := rfl
  rw [seq_next f1]
  have f2 : sFor (xiSeq (xVar 0)) (gNm 2) (sAsg (xCall F_joined (xaCons (xVar 1) (xaCons (xVar 2) xaNil))) (gNm 1)) [some (.lst (ws.map rnD)), some (rnD (some [])), none] μ = .next [some (.lst (ws.map rnD)), some (rnD (allJ ws)), x] μ := l1
  rw [seq_next f2]
  rfl
/-! ### all beginnings -/
def begs (ws : List Wo) (k : Nat) : List Wo := (List.range (k + 1)).map fun i => allJ (ws.take i)
theorem begs_succ (ws : List Wo) (k : Nat) : begs ws (k + 1) = begs ws k ++ [allJ (ws.take (k + 1))] := by
  unfold begs
  rw [List.range_succ, List.map_append]
  rfl
theorem allJ_snoc {ws : List Wo} {k : Nat} {w : Wo} (h : ws[k]? = some w) : allJ (ws.take (k + 1)) = joint (allJ (ws.take k)) w := by
  unfold allJ
  rw [List.take_add_one, h]
  simp
theorem begs_last (ws : List Wo) (k : Nat) : ∃ l, begs ws k = l ++ [allJ (ws.take k)] := by
  cases k with
  | zero => exact ⟨[], rfl⟩
  | succ k => exact ⟨begs ws k, begs_succ ws k⟩
theorem ix_end {μ : Mu} {l : List Wo} {w : Wo} : ixD (.loc μ.length) (.int (-1)) (μ ++ [.lst ((l ++ [w]).map rnD)]) = .ok (rnD w) (μ ++ [.lst ((l ++ [w]).map rnD)]) := by
  unfold ixD
  have e : L2.atI ((l ++ [w]).map rnD) (-1) = some (rnD w) := by
    unfold L2.atI L2.ixN
    rw [if_neg (by decide), if_pos (by simp; omega)]
    have : (-1 + ((((l ++ [w]).map rnD).length : Nat) : Int)).toNat = l.length := by rw [List.length_map, List.length_append, List.length_singleton]; omega
    simp only [this, Option.bind_some]
    rw [List.map_append, List.getElem?_append_right (by simp)]
    simp
  simp only [lstOf, get_lastX, e]
theorem beginnings_ok {n : Nat} {ws : List Wo} (hl : ws.length ≤ 1000) (h : ∀ w ∈ ws, RunW n w) (μ : Mu) : F_beginnings [.lst (ws.map rnD)] μ = .ok (.lst ((begs ws ws.length).map rnD)) μ := by
  obtain ⟨r', m', l1, ⟨x, rfl⟩, rfl⟩ := loop_inv (k := 0) (m := μ ++ [.lst ((begs ws 0).map rnD)]) (xs := ws.map rnD) (g := gNm 2) (body := (sExpr (xBM "list" appF (xVar 1) (xaCons (xCall F_joined (xaCons (xOp ixD (xVar 1) (xNeg (xC (.int 1)))) (xaCons (xVar 2) xaNil))) xaNil)))) (r := [some (.lst (ws.map rnD)), some (.loc μ.length), none]) (fun k r m => (∃ x, r = [some (.lst (ws.map rnD)), some (.loc μ.length), x]) ∧ m = μ ++ [.lst ((begs ws k).map rnD)]) ⟨⟨_, rfl⟩, rfl⟩ fun i x r m hx hi => by
    obtain ⟨⟨y, rfl⟩, rfl⟩ := hi
    rw [List.getElem?_map] at hx
    cases hw : ws[i]? with
    | none => rw [hw] at hx; cases hx
    | some w =>
      rw [hw] at hx
      cases hx
      rw [Nat.zero_add]
      have hil := (List.getElem?_eq_some_iff.mp hw).1
      obtain ⟨l, el⟩ := begs_last ws i
      have hxn : ∀ (r : Rho) (m : Mu), xNeg (xC (.int 1)) r m = .ok (.int (-1)) m := fun _ _ => rfl
      have ie : ixD (.loc μ.length) (.int (-1)) (μ ++ [.lst ((begs ws i).map rnD)]) = .ok (rnD (allJ (ws.take i))) (μ ++ [.lst ((begs ws i).map rnD)]) := by rw [el]; exact ix_end
      have jo : ∀ m, F_joined [rnD (allJ (ws.take i)), rnD w] m = .ok (rnD (allJ (ws.take (i + 1)))) m := fun m => by
        rw [allJ_snoc hw]
        exact joined_ok (allJ_run fun z hz => h z (List.mem_of_mem_take hz)) (h w (List.mem_of_getElem? hw)) m
      have ap : appF [.loc μ.length, rnD (allJ (ws.take (i + 1)))] (μ ++ [.lst ((begs ws i).map rnD)]) = .ok .non (μ ++ [.lst ((begs ws (i + 1)).map rnD)]) := by
        rw [app_lastX (rnD_in _ _) (by rw [List.length_map]; unfold begs; rw [List.length_map, List.length_range]; unfold sizeLine; omega), begs_succ, List.map_append]
        rfl
      refine ⟨[some (.lst (ws.map rnD)), some (.loc μ.length), some (rnD w)], μ ++ [.lst ((begs ws i).map rnD)], [some (.lst (ws.map rnD)), some (.loc μ.length), some (rnD w)], μ ++ [.lst ((begs ws (i + 1)).map rnD)], by simp only [AP, LS], ?_, ⟨_, rfl⟩, rfl⟩
      simp only [AP, AV, AB, LS, ty_lastX, if_true, hxn, ie, jo, ap]
  rw [Nat.zero_add, List.length_map] at l1
  have hx := exit_lastX (μ := μ) (rns_in (begs ws ws.length) μ.length)
  refine (fn_ret (g := B_beginnings) ?_).trans hx
  have f1 : sAsg (xNew (xaCons (xC (.tup [.int 0, .int 0])) xaNil)) (gNm 1) [some (.lst (ws.map rnD)), none, none] μ = .next [some (.lst (ws.map rnD)), some (.loc μ.length), none] (μ ++ [.lst ((begs ws 0).map rnD)]) := by
    simp only [AP, AB, LS, D.inL, D.inB, Bool.and_true, if_true]
    rfl
  show sSeq _ (sSeq (sFor (xiSeq (xVar 0)) (gNm 2) _) (sRet (xVar 1))) [some (.lst (ws.map rnD)), none, none] μ = _
  rw [seq_next f1]
  have f2 : ∀ b, sFor (xiSeq (xVar 0)) (gNm 2) b [some (.lst (ws.map rnD)), some (.loc μ.length), none] (μ ++ [.lst ((begs ws 0).map rnD)]) = loopF (gNm 2) b (ws.map rnD) [some (.lst (ws.map rnD)), some (.loc μ.length), none] (μ ++ [.lst ((begs ws 0).map rnD)]) := fun _ => rfl
  rw [seq_next ((f2 _).trans l1)]
  rfl
/-! ### what a goal says -/
theorem begs_drop (ws : List Wo) : (begs ws ws.length).drop 1 = says .all ws := by
  unfold begs says
  rw [← List.map_drop, List.range_succ_eq_map, List.drop_one, List.tail_cons, List.map_map]
  rfl
theorem begs_init (ws : List Wo) : (begs ws ws.length).take ws.length = says .before ws := by
  unfold begs says
  rw [← List.map_take, List.range_succ, List.take_left' (by rw [List.length_range])]
  rfl
theorem cut_fromX (xs : List D) (k : Nat) : DS.cutD xs (some (k : Int)) none = xs.drop k := by
  unfold DS.cutD
  rw [HT.sIx_nat, HT.sIx_none]
  by_cases h : k ≤ xs.length
  · rw [Nat.min_eq_left h, List.take_of_length_le (by rw [List.length_drop]; omega)]
  · rw [Nat.min_eq_right (by omega), Nat.sub_self, List.take_zero, List.drop_of_length_le (by omega)]
theorem cut_init (xs : List D) (k : Nat) (h : xs.length = k + 1) : DS.cutD xs none (some (-1)) = xs.take k := by
  unfold DS.cutD
  have e : HT.sIx xs.length xs.length (some (-1)) = k := by
    rw [h]
    show HT.sIx (k + 1) (k + 1) (some (-1)) = k
    unfold HT.sIx
    simp
    omega
  rw [HT.sIx_none, e, List.drop_zero, Nat.sub_zero]
theorem goal_runs_ok {n : Nat} (g : Gl) {ws : List Wo} (hl : ws.length ≤ 1000) (h : ∀ w ∈ ws, RunW n w) (μ : Mu) : F_goal_runs [g.read, .lst (ws.map rnD)] μ = .ok (.lst ((says g ws).map rnD)) μ := by
  have hx := rnlst_exit (says g ws) μ
  refine (fn_ret (g := B_goal_runs) ?_).trans hx
  have hbl : ((begs ws ws.length).map rnD).length = ws.length + 1 := by unfold begs; rw [List.length_map, List.length_map, List.length_range]
  have hxn : ∀ (r : Rho) (m : Mu), xNeg (xC (.int 1)) r m = .ok (.int (-1)) m := fun _ _ => rfl
  cases g with
  | all =>
    have f1 : sAsg (xVar 0) (gTp 2 (gsCons (gNm 2) (gsCons (gNm 3) gsNil))) [some (Gl.read .all), some (.lst (ws.map rnD)), none, none, none] μ = .next [some (Gl.read .all), some (.lst (ws.map rnD)), some (.str "all"), some .non, none] μ := rfl
    show sSeq _ _ [some (Gl.read .all), some (.lst (ws.map rnD)), none, none, none] μ = _
    rw [seq_next f1]
    refine seq_ret ?_
    have t0 : ∀ m, eqD (.str "all") (.str "all") m = .ok (.bl true) m := fun m => rfl
    have s1 : ∀ m, slD (.lst ((begs ws ws.length).map rnD)) (some 1) none m = .ok (.lst ((says .all ws).map rnD)) m := fun m => by
      show Out.ok (D.lst (DS.cutD ((begs ws ws.length).map rnD) (some ((1 : Nat) : Int)) none)) m = _
      rw [cut_fromX, ← List.map_drop, begs_drop]
    simp only [AP, AV, AB, LS, t0, if_true, beginnings_ok hl h, s1]
  | before =>
    have f1 : sAsg (xVar 0) (gTp 2 (gsCons (gNm 2) (gsCons (gNm 3) gsNil))) [some (Gl.read .before), some (.lst (ws.map rnD)), none, none, none] μ = .next [some (Gl.read .before), some (.lst (ws.map rnD)), some (.str "before"), some .non, none] μ := rfl
    show sSeq _ _ [some (Gl.read .before), some (.lst (ws.map rnD)), none, none, none] μ = _
    rw [seq_next f1]
    have t0 : ∀ m, eqD (.str "before") (.str "all") m = .ok (.bl false) m := fun m => rfl
    have t1 : ∀ m, eqD (.str "before") (.str "before") m = .ok (.bl true) m := fun m => rfl
    have f2 : ∀ q, sIf (xTest (xOp eqD (xVar 2) (xC (.str "all")))) q sNil [some (Gl.read .before), some (.lst (ws.map rnD)), some (.str "before"), some .non, none] μ = .next [some (Gl.read .before), some (.lst (ws.map rnD)), some (.str "before"), some .non, none] μ := fun q => by
      simp only [AP, AV, AB, LS, t0, Bool.false_eq_true, if_false]
    rw [seq_next (f2 _)]
    refine seq_ret ?_
    have s1 : ∀ m, slD (.lst ((begs ws ws.length).map rnD)) none (some (-1)) m = .ok (.lst ((says .before ws).map rnD)) m := fun m => by
      show Out.ok (D.lst (DS.cutD ((begs ws ws.length).map rnD) none (some (-1)))) m = _
      rw [cut_init _ _ hbl, ← List.map_take, begs_init]
    simp only [AP, AV, AB, LS, t1, if_true, beginnings_ok hl h, hxn, s1]
  | last q =>
    have f1 : sAsg (xVar 0) (gTp 2 (gsCons (gNm 2) (gsCons (gNm 3) gsNil))) [some (Gl.read (.last q)), some (.lst (ws.map rnD)), none, none, none] μ = .next [some (Gl.read (.last q)), some (.lst (ws.map rnD)), some (.str "last"), some (.int (q : Nat)), none] μ := rfl
    show sSeq _ _ [some (Gl.read (.last q)), some (.lst (ws.map rnD)), none, none, none] μ = _
    rw [seq_next f1]
    have t0 : ∀ m, eqD (.str "last") (.str "all") m = .ok (.bl false) m := fun m => rfl
    have t1 : ∀ m, eqD (.str "last") (.str "before") m = .ok (.bl false) m := fun m => rfl
    have f2 : ∀ z, sIf (xTest (xOp eqD (xVar 2) (xC (.str "all")))) z sNil [some (Gl.read (.last q)), some (.lst (ws.map rnD)), some (.str "last"), some (.int (q : Nat)), none] μ = .next [some (Gl.read (.last q)), some (.lst (ws.map rnD)), some (.str "last"), some (.int (q : Nat)), none] μ := fun z => by
      simp only [AP, AV, AB, LS, t0, Bool.false_eq_true, if_false]
    have f3 : ∀ z, sIf (xTest (xOp eqD (xVar 2) (xC (.str "before")))) z sNil [some (Gl.read (.last q)), some (.lst (ws.map rnD)), some (.str "last"), some (.int (q : Nat)), none] μ = .next [some (Gl.read (.last q)), some (.lst (ws.map rnD)), some (.str "last"), some (.int (q : Nat)), none] μ := fun z => by
      simp only [AP, AV, AB, LS, t1, Bool.false_eq_true, if_false]
    rw [seq_next (f2 _), seq_next (f3 _)]
    have lc : lcD (gNm 4) xYes (xCall F_joined_all (xaCons (xSl (xVar 1) (xoS (xCall maxF (xaCons (xC (.int 0)) (xaCons (xOp addD (xOp subD (xVar 4) (xVar 3)) (xC (.int 1))) xaNil)))) (xoS (xOp addD (xVar 4) (xC (.int 1))))) xaNil)) [some (Gl.read (.last q)), some (.lst (ws.map rnD)), some (.str "last"), some (.int (q : Nat)), none] (rngL 0 ws.length) μ = .ok (.lst ((says (.last q) ws).map rnD)) μ := by
      rw [rngL_nD]
      unfold says
      rw [List.map_map]
      refine lc_map _ _ (fun k hk acc => ?_) (fun k _ => rnD_in _ _) (by rw [List.length_range]; unfold sizeLine; omega)
      have hkl := List.mem_range.mp hk
      have mx : ∀ m, maxF [.int 0, .int ((k : Int) - q + 1)] m = .ok (.int ((k + 1 - q : Nat) : Int)) m := fun m => by
        show Out.ok (D.int (if ((k : Int) - q + 1) > 0 then ((k : Int) - q + 1) else 0)) m = _
        congr 2
        split <;> omega
      have s1 : ∀ m, slD (.lst (ws.map rnD)) (some ((k + 1 - q : Nat) : Int)) (some ((k : Int) + 1)) m = .ok (.lst ((partOf (.last q) k ws).map rnD)) m := fun m => by
        show Out.ok (D.lst (DS.cutD (ws.map rnD) (some ((k + 1 - q : Nat) : Int)) (some ((k : Int) + 1)))) m = _
        rw [show ((k : Int) + 1) = ((k + 1 : Nat) : Int) by omega, cut_two _ _ _ (by rw [List.length_map]; omega) (by rw [List.length_map]; omega), ← List.map_drop, ← List.map_take]
        rfl
      have ja : ∀ m, F_joined_all [.lst ((partOf (.last q) k ws).map rnD)] m = .ok (rnD (allJ (partOf (.last q) k ws))) m := fun m => joined_all_ok (fun w hw => h w (partOf_sub hw)) m
      have hk' : nD k = .int (k : Nat) := rfl
      simp only [AP, AV, AB, LS, hk', OI.2.2.2.2.1, OI.2.2.2.2.2.1, mx, s1, ja]
      rfl
    have i1 : xiRng1 (xaCons (xCall lenD (xaCons (xVar 1) xaNil)) xaNil) [some (Gl.read (.last q)), some (.lst (ws.map rnD)), some (.str "last"), some (.int (q : Nat)), none] μ = .ok (rngL 0 ws.length) μ := by
      simp only [AP, AV, AB, LS, len_rn, rng1_ok (show ws.length < 2 ^ 62 by omega)]
    show Out.stm _ (Out.bind (xiRng1 _ _ _) _) _ = _
    rw [i1]
    show Out.stm _ (lcD _ _ _ _ _ _) _ = _
    have lc' := lc
    rw [show wipeR [some (Gl.read (.last q)), some (.lst (ws.map rnD)), some (.str "last"), some (.int (q : Nat)), none] [4] = [some (Gl.read (.last q)), some (.lst (ws.map rnD)), some (.str "last"), some (.int (q : Nat)), none] from rfl, lc]
    rfl
end J

namespace J
open PySem PySem.Spec PyProof.Rows L2 DS
theorem word_takeX : ∀ w < 4, (wordS w == "take") = decide (w = 1) := by decide +kernel
/-! ### what a place holds behind a clause -/
theorem word_behind_ok {n : Nat} {ws : List Wo} (hrun : ∀ w ∈ ws, RunW n w) {c : Cl} (hc : c.Ok) (h3 : c.w ≠ 3) {p : Nat} (hp : p < ws.length) (μ : Mu) : F_word_behind [c.obj, nD p, .lst (ws.map rnD)] μ = .ok (rnD (eff c ws p)) μ := by
  have h4 := hc.w
  refine (fn_ret (g := B_word_behind) ?_).trans (rn_exit _ μ)
  show sSeq _ _ [some c.obj, some (nD p), some (.lst (ws.map rnD)), none, none, none] μ = _
  by_cases w2 : c.w = 2
  · have e : eff c ws p = some [] := by unfold eff; rw [if_neg (by omega), if_pos w2]
    rw [e]
    refine seq_ret ?_
    simp only [AP, AV, AB, LS, Cl.fld_word, EQ, word_clearX _ h4, decide_eq_true w2, if_true]
    rfl
  · have hw2 : c.w < 2 := by omega
    have f1 : ∀ z, sIf (xTest (xOp eqD (xFld "Clause" "word" (xVar 0)) (xC (.str "clear")))) z sNil [some c.obj, some (nD p), some (.lst (ws.map rnD)), none, none, none] μ = .next [some c.obj, some (nD p), some (.lst (ws.map rnD)), none, none, none] μ := fun z => by
      simp only [AP, AV, AB, LS, Cl.fld_word, EQ, word_clearX _ h4, decide_eq_false w2, Bool.false_eq_true, if_false]
    rw [seq_next (f1 _)]
    have ra : ∀ m, F_read_at [c.obj, nD p, .int (ws.length : Nat)] m = .ok (optD (rd c p ws.length)) m := fun m => read_at_ok hc hw2 p ws.length m
    have f2 : sAsg (xCall F_read_at (xaCons (xVar 0) (xaCons (xVar 1) (xaCons (xCall lenD (xaCons (xVar 2) xaNil)) xaNil)))) (gNm 3) [some c.obj, some (nD p), some (.lst (ws.map rnD)), none, none, none] μ = .next [some c.obj, some (nD p), some (.lst (ws.map rnD)), some (optD (rd c p ws.length)), none, none] μ := by
      simp only [AP, AV, AB, LS, len_rn, ra]
    rw [seq_next f2]
    cases hr : rd c p ws.length with
    | none =>
      refine seq_ret ?_
      have i0 : ∀ m, isD (optD none) .non m = .ok (.bl true) m := fun _ => rfl
      have et : there c ws p = some [] := by unfold there; rw [hr]
      by_cases w1 : c.w = 1
      · have e : eff c ws p = some [] := by unfold eff; rw [if_neg (by omega), if_neg w2, et]
        rw [e]
        simp only [AP, AV, AB, LS, i0, if_true, Cl.fld_word, EQ, word_takeX _ h4, decide_eq_true w1]
        rfl
      · have w0 : c.w = 0 := by omega
        have e : eff c ws p = gw ws p := by
          unfold eff
          rw [if_pos w0, et, joint_nil, joint_nil']
          split <;> rfl
        rw [e]
        simp only [AP, AV, AB, LS, i0, if_true, Cl.fld_word, EQ, word_takeX _ h4, decide_eq_false w1, Bool.false_eq_true, if_false, ix_rn hp]
    | some q =>
      have hq : q < ws.length := by have := mate_some hr; omega
      have i0 : ∀ m, isD (optD (some q)) .non m = .ok (.bl false) m := fun _ => rfl
      have et : there c ws p = gw ws q := by unfold there; rw [hr]
      have f3 : ∀ z, sIf (xTest (xOp isD (xVar 3) (xC .non))) z sNil [some c.obj, some (nD p), some (.lst (ws.map rnD)), some (optD (some q)), none, none] μ = .next [some c.obj, some (nD p), some (.lst (ws.map rnD)), some (optD (some q)), none, none] μ := fun z => by
        simp only [AP, AV, AB, LS, i0, Bool.false_eq_true, if_false]
      rw [seq_next (f3 _)]
      have hqd : optD (some q) = nD q := rfl
      by_cases w1 : c.w = 1
      · have e : eff c ws p = gw ws q := by unfold eff; rw [if_neg (by omega), if_neg w2, et]
        rw [e]
        refine seq_ret ?_
        simp only [AP, AV, AB, LS, hqd, Cl.fld_word, EQ, word_takeX _ h4, decide_eq_true w1, if_true, ix_rn hq]
      · have w0 : c.w = 0 := by omega
        have f4 : ∀ z, sIf (xTest (xOp eqD (xFld "Clause" "word" (xVar 0)) (xC (.str "take")))) z sNil [some c.obj, some (nD p), some (.lst (ws.map rnD)), some (optD (some q)), none, none] μ = .next [some c.obj, some (nD p), some (.lst (ws.map rnD)), some (optD (some q)), none, none] μ := fun z => by
          simp only [AP, AV, AB, LS, Cl.fld_word, EQ, word_takeX _ h4, decide_eq_false w1, Bool.false_eq_true, if_false]
        rw [seq_next (f4 _)]
        by_cases h0 : c.side = 0
        · have e : eff c ws p = joint (gw ws q) (gw ws p) := by unfold eff; rw [if_pos w0, if_pos h0, et]
          rw [e]
          simp only [AP, AV, AB, LS, hqd, Cl.fld_side hw2, EQ, side_left _ hc.side, decide_eq_true h0, if_true, List.length, Nat.reduceAdd, ix_rn hq, ix_rn hp, joined_ok (gw_run hrun q) (gw_run hrun p)]
        · have e : eff c ws p = joint (gw ws p) (gw ws q) := by unfold eff; rw [if_pos w0, if_neg h0, et]
          rw [e]
          simp only [AP, AV, AB, LS, hqd, Cl.fld_side hw2, EQ, side_left _ hc.side, decide_eq_false h0, Bool.false_eq_true, if_false, if_true, List.length, Nat.reduceAdd, ix_rn hq, ix_rn hp, joined_ok (gw_run hrun p) (gw_run hrun q)]
/-! ### goals of a book -/
theorem goalOf_nm {sk : List Pl} (h : SOk sk) {p : Pl} (hp : p ∈ sk) : goalOf sk p.nm = p.goal := by
  unfold goalOf
  cases hf : sk.find? fun q => decide (q.nm = p.nm) with
  | none =>
    rw [List.find?_eq_none] at hf
    exact absurd (decide_eq_true rfl) (hf p hp)
  | some q =>
    have hq := List.mem_of_find?_eq_some hf
    have he : q.nm = p.nm := by simpa using List.find?_some hf
    have q1 := h.apart
    rw [List.Nodup, List.pairwise_map] at q1
    have : q = p := by
      obtain ⟨i, hi⟩ := List.getElem?_of_mem hq
      obtain ⟨j, hj⟩ := List.getElem?_of_mem hp
      obtain ⟨hil, ei⟩ := List.getElem?_eq_some_iff.mp hi
      obtain ⟨hjl, ej⟩ := List.getElem?_eq_some_iff.mp hj
      have w := List.pairwise_iff_getElem.mp q1
      rcases Nat.lt_trichotomy i j with hij | hij | hij
      · exact absurd (by rw [ei, ej]; exact he) (w i j hil hjl hij)
      · subst hij; rw [← ei, ← ej]
      · exact absurd (by rw [ei, ej]; exact he.symm) (w j i hjl hil hij)
    rw [this]
    rfl
theorem goal_of_ok {sk : List Pl} (h : SOk sk) {p : Pl} (hp : p ∈ sk) (μ : Mu) : F_Book_goal_of [bookD sk, nmD p.nm] μ = .ok p.goal.read μ := by
  have hx : exitD μ.length p.goal.read μ = .ok p.goal.read μ := by rw [exit_in (by cases p.goal <;> rfl), List.take_length]
  refine (fn_ret (g := B_Book_goal_of) ?_).trans hx
  show sRet _ [some (bookD sk), some (nmD p.nm)] μ = _
  have hm : ∀ m, xMeth "Book" "plan" F_Book_plan (xVar 0) (xaCons (xVar 1) xaNil) [some (bookD sk), some (nmD p.nm)] m = F_Book_plan [bookD sk, nmD p.nm] m := fun _ => rfl
  have i1 : ∀ m, ixD p.parts (.int 1) m = .ok (.str p.goal.text) m := fun m => IX.2.2.2.2.2.1
  simp only [AP, AB, hm, bplan_ok h hp, i1, (h.ok p hp).goal.read]
/-! ### a round of the program -/
abbrev rhoR (sk : List Pl) (r : List Cl) (ws : List Wo) (μ : Mu) (x4 x5 x6 x7 x8 : Option D) : Rho := [some (bookD sk), some (.lst (r.map Cl.obj)), some (.lst (ws.map rnD)), some (.loc μ.length), x4, x5, x6, x7, x8]
theorem putR_ok {μ : Mu} {l : List Wo} {p : Nat} (hp : p < l.length) (w : Wo) : setD (.loc μ.length) (nD p) (rnD w) (μ ++ [.lst (l.map rnD)]) = .ok () (μ ++ [.lst ((l.set p w).map rnD)]) := by
  rw [set_last (rnD_in _ _) (by rw [List.length_map]; exact hp), List.map_set]
theorem zipL_map (ps : List Nat) (vs : List Wo) : zipL (ps.map nD) (vs.map rnD) = (ps.zip vs).map fun q => .tup [nD q.1, rnD q.2] := by
  induction ps generalizing vs with
  | nil => cases vs <;> rfl
  | cons p ps ih =>
    cases vs with
    | nil => rfl
    | cons v vs => rw [List.map_cons, List.map_cons, zipL, ih, List.zip_cons_cons, List.map_cons]
theorem loop_zip (sk : List Pl) (r : List Cl) (ws : List Wo) (μ : Mu) (x4 x5 x6 : Option D) : ∀ (qs : List (Nat × Wo)) (l : List Wo) (x7 x8 : Option D), (∀ q ∈ qs, q.1 < ws.length) → l.length = ws.length →
    ∃ y7 y8, loopF (gTp 2 (gsCons (gNm 7) (gsCons (gNm 8) gsNil))) (sAsg (xVar 8) (gSb (xVar 3) (xVar 7))) (qs.map fun q => .tup [nD q.1, rnD q.2]) (rhoR sk r ws μ x4 x5 x6 x7 x8) (μ ++ [.lst (l.map rnD)]) = .next (rhoR sk r ws μ x4 x5 x6 y7 y8) (μ ++ [.lst ((qs.foldl (fun l q => l.set q.1 q.2) l).map rnD)])
  | [], l, x7, x8, _, _ => ⟨x7, x8, rfl⟩
  | q :: qs, l, x7, x8, hq, hl => by
    obtain ⟨y7, y8, e⟩ := loop_zip sk r ws μ x4 x5 x6 qs (l.set q.1 q.2) (some (nD q.1)) (some (rnD q.2)) (fun z hz => hq z (List.mem_cons_of_mem _ hz)) (by rw [List.length_set]; exact hl)
    refine ⟨y7, y8, ?_⟩
    have hb : sAsg (xVar 8) (gSb (xVar 3) (xVar 7)) (rhoR sk r ws μ x4 x5 x6 (some (nD q.1)) (some (rnD q.2))) (μ ++ [.lst (l.map rnD)]) = .next (rhoR sk r ws μ x4 x5 x6 (some (nD q.1)) (some (rnD q.2))) (μ ++ [.lst ((l.set q.1 q.2).map rnD)]) := by
      simp only [AP, AV, AB, LS, putR_ok (show q.1 < l.length by rw [hl]; exact hq q (List.mem_cons_self ..))]
    rw [List.map_cons, loop_step (r1 := rhoR sk r ws μ x4 x5 x6 (some (nD q.1)) (some (rnD q.2))) rfl hb, e]
    rfl
theorem told_len (sk : List Pl) (c : Cl) (ws : List Wo) : (told sk c ws).length = (plc c ws.length).length := by
  unfold told
  split
  · rw [says_len, List.length_map]
  · rw [List.length_map]
abbrev rdBody : XS := (sSeq (sAsg (xCall F_places_of (xaCons (xVar 4) (xaCons (xCall lenD (xaCons (xVar 2) xaNil)) xaNil))) (gNm 5))
  (sSeq (sIf (xTest (xOp eqD (xFld "Clause" "word" (xVar 4)) (xC (.str "call")))) (sAsg (xCall F_goal_runs (xaCons (xMeth "Book" "goal_of" F_Book_goal_of (xVar 0) (xaCons (xFld "Clause" "goal" (xVar 4)) xaNil)) (xaCons (xLc (xiSeq (xVar 5)) [7] (gNm 7) xYes (xOp ixD (xVar 2) (xVar 7))) xaNil))) (gNm 6)) (sAsg (xLc (xiSeq (xVar 5)) [7] (gNm 7) xYes (xCall F_word_behind (xaCons (xVar 4) (xaCons (xVar 7) (xaCons (xVar 2) xaNil))))) (gNm 6)))
  (sFor (xiZip (xaCons (xVar 5) (xaCons (xVar 6) xaNil))) (gTp 2 (gsCons (gNm 7) (gsCons (gNm 8) gsNil)))
  (sAsg (xVar 8) (gSb (xVar 3) (xVar 7))))))
theorem rdBody_ok {n : Nat} {sk : List Pl} (hs : SOk sk) {r : List Cl} {ws : List Wo} (hrun : ∀ w ∈ ws, RunW n w) (hwl : ws.length ≤ 900) {c : Cl} (hc : c.Ok) (hnm : c.w = 3 → ∃ p ∈ sk, p.nm = c.goal) (μ : Mu) {l : List Wo} (hl : l.length = ws.length) (x5 x6 x7 x8 : Option D) :
    ∃ y5 y6 y7 y8, rdBody (rhoR sk r ws μ (some c.obj) x5 x6 x7 x8) (μ ++ [.lst (l.map rnD)]) = .next (rhoR sk r ws μ (some c.obj) y5 y6 y7 y8) (μ ++ [.lst ((done1 sk ws l c).map rnD)]) := by
  have h4 := hc.w
  have hln := plc_len c ws.length
  have hpl : ∀ p ∈ plc c ws.length, p < ws.length := fun p hp => plc_lt hc.step0 hc.rest hp
  have f1 : sAsg (xCall F_places_of (xaCons (xVar 4) (xaCons (xCall lenD (xaCons (xVar 2) xaNil)) xaNil))) (gNm 5) (rhoR sk r ws μ (some c.obj) x5 x6 x7 x8) (μ ++ [.lst (l.map rnD)]) = .next (rhoR sk r ws μ (some c.obj) (some (.lst ((plc c ws.length).map nD))) x6 x7 x8) (μ ++ [.lst (l.map rnD)]) := by
    simp only [AP, AV, AB, LS, len_rn, places_ok hc (show ws.length < 2 ^ 20 by omega)]
  have f2 : sIf (xTest (xOp eqD (xFld "Clause" "word" (xVar 4)) (xC (.str "call")))) (sAsg (xCall F_goal_runs (xaCons (xMeth "Book" "goal_of" F_Book_goal_of (xVar 0) (xaCons (xFld "Clause" "goal" (xVar 4)) xaNil)) (xaCons (xLc (xiSeq (xVar 5)) [7] (gNm 7) xYes (xOp ixD (xVar 2) (xVar 7))) xaNil))) (gNm 6)) (sAsg (xLc (xiSeq (xVar 5)) [7] (gNm 7) xYes (xCall F_word_behind (xaCons (xVar 4) (xaCons (xVar 7) (xaCons (xVar 2) xaNil))))) (gNm 6)) (rhoR sk r ws μ (some c.obj) (some (.lst ((plc c ws.length).map nD))) x6 x7 x8) (μ ++ [.lst (l.map rnD)]) = .next (rhoR sk r ws μ (some c.obj) (some (.lst ((plc c ws.length).map nD))) (some (.lst ((told sk c ws).map rnD))) x7 x8) (μ ++ [.lst (l.map rnD)]) := by
    have tst : ∀ (b : Bool), decide (c.w = 3) = b → xTest (xOp eqD (xFld "Clause" "word" (xVar 4)) (xC (.str "call"))) (rhoR sk r ws μ (some c.obj) (some (.lst ((plc c ws.length).map nD))) x6 x7 x8) (μ ++ [.lst (l.map rnD)]) = .ok b (μ ++ [.lst (l.map rnD)]) := fun b hb => by
      simp only [AP, AV, AB, LS, Cl.fld_word, EQ, word_call _ h4, hb]
    by_cases h3 : c.w = 3
    · obtain ⟨p, hp, hpn⟩ := hnm h3
      have et : told sk c ws = says p.goal ((plc c ws.length).map (gw ws)) := by unfold told; rw [if_pos h3, ← hpn, goalOf_nm hs hp]
      have hpr : ∀ w ∈ (plc c ws.length).map (gw ws), RunW n w := fun w hw => by
        obtain ⟨p, _, rfl⟩ := List.mem_map.mp hw
        exact gw_run hrun p
      have lc : lcD (gNm 7) xYes (xOp ixD (xVar 2) (xVar 7)) (wipeR (rhoR sk r ws μ (some c.obj) (some (.lst ((plc c ws.length).map nD))) x6 x7 x8) [7]) ((plc c ws.length).map nD) (μ ++ [.lst (l.map rnD)]) = .ok (.lst (((plc c ws.length).map (gw ws)).map rnD)) (μ ++ [.lst (l.map rnD)]) := by
        rw [List.map_map]
        refine lc_map _ _ (fun p hp acc => ?_) (fun p _ => rnD_in _ _) (by unfold sizeLine; omega)
        simp only [wipeR, AP, AV, AB, LS, ix_rn (hpl p hp)]
        rfl
      have e1 : xMeth "Book" "goal_of" F_Book_goal_of (xVar 0) (xaCons (xFld "Clause" "goal" (xVar 4)) xaNil) (rhoR sk r ws μ (some c.obj) (some (.lst ((plc c ws.length).map nD))) x6 x7 x8) (μ ++ [.lst (l.map rnD)]) = .ok p.goal.read (μ ++ [.lst (l.map rnD)]) := by
        have hm : xMeth "Book" "goal_of" F_Book_goal_of (xVar 0) (xaCons (xFld "Clause" "goal" (xVar 4)) xaNil) (rhoR sk r ws μ (some c.obj) (some (.lst ((plc c ws.length).map nD))) x6 x7 x8) (μ ++ [.lst (l.map rnD)]) = F_Book_goal_of [bookD sk, if c.w = 3 then .str (nmS c.goal) else .non] (μ ++ [.lst (l.map rnD)]) := rfl
        rw [hm, if_pos h3, ← hpn]
        exact goal_of_ok hs hp _
      have e2 : xLc (xiSeq (xVar 5)) [7] (gNm 7) xYes (xOp ixD (xVar 2) (xVar 7)) (rhoR sk r ws μ (some c.obj) (some (.lst ((plc c ws.length).map nD))) x6 x7 x8) (μ ++ [.lst (l.map rnD)]) = .ok (.lst (((plc c ws.length).map (gw ws)).map rnD)) (μ ++ [.lst (l.map rnD)]) := lc
      have e3 : ∀ m, F_goal_runs [p.goal.read, .lst (((plc c ws.length).map (gw ws)).map rnD)] m = .ok (.lst ((told sk c ws).map rnD)) m := fun m => by
        rw [et]
        exact goal_runs_ok p.goal (by rw [List.length_map]; omega) hpr m
      show Out.stm _ (xTest _ _ _) _ = _
      rw [tst true (decide_eq_true h3)]
      have xc : ∀ (a : XE') (b : XA) (r : Rho) (m : Mu), xaCons a b r m = (a r m).bind fun x m1 => (b r m1).bind fun xs m2 => .ok (x :: xs) m2 := fun _ _ _ _ => rfl
      have xk : ∀ (G : Fn) (a : XA) (r : Rho) (m : Mu), xCall G a r m = (a r m).bind G := fun _ _ _ _ => rfl
      have xa : ∀ (f : XE') (g : XG) (r : Rho) (m : Mu), sAsg f g r m = (f r m).stm r fun d m1 => (g d r m1).stm r fun r' m2 => .next r' m2 := fun _ _ _ _ => rfl
      simp only [AB, if_true, xa, xk, xc, e1, e2, e3, AP.2.2.2.2.2.2.2.2.2.2.1]
      rfl
    · have et : told sk c ws = (plc c ws.length).map (eff c ws) := by unfold told; rw [if_neg h3]
      have lc : lcD (gNm 7) xYes (xCall F_word_behind (xaCons (xVar 4) (xaCons (xVar 7) (xaCons (xVar 2) xaNil)))) (wipeR (rhoR sk r ws μ (some c.obj) (some (.lst ((plc c ws.length).map nD))) x6 x7 x8) [7]) ((plc c ws.length).map nD) (μ ++ [.lst (l.map rnD)]) = .ok (.lst ((told sk c ws).map rnD)) (μ ++ [.lst (l.map rnD)]) := by
        rw [et, List.map_map]
        refine lc_map _ _ (fun p hp acc => ?_) (fun p _ => rnD_in _ _) (by unfold sizeLine; omega)
        simp only [wipeR, AP, AV, AB, LS, word_behind_ok hrun hc h3 (hpl p hp)]
        rfl
      have e2 : xLc (xiSeq (xVar 5)) [7] (gNm 7) xYes (xCall F_word_behind (xaCons (xVar 4) (xaCons (xVar 7) (xaCons (xVar 2) xaNil)))) (rhoR sk r ws μ (some c.obj) (some (.lst ((plc c ws.length).map nD))) x6 x7 x8) (μ ++ [.lst (l.map rnD)]) = .ok (.lst ((told sk c ws).map rnD)) (μ ++ [.lst (l.map rnD)]) := lc
      show Out.stm _ (xTest _ _ _) _ = _
      rw [tst false (decide_eq_false h3)]
      show Out.stm _ (xLc _ _ _ _ _ _ _) _ = _
      rw [e2]
      rfl
  have htl := told_len sk c ws
  obtain ⟨y7, y8, e⟩ := loop_zip sk r ws μ (some c.obj) (some (.lst ((plc c ws.length).map nD))) (some (.lst ((told sk c ws).map rnD))) ((plc c ws.length).zip (told sk c ws)) l x7 x8 (fun q hq => hpl q.1 (List.of_mem_zip hq).1) hl
  refine ⟨some (.lst ((plc c ws.length).map nD)), some (.lst ((told sk c ws).map rnD)), y7, y8, ?_⟩
  unfold rdBody
  rw [seq_next f1, seq_next f2]
  have iz : xiZip (xaCons (xVar 5) (xaCons (xVar 6) xaNil)) (rhoR sk r ws μ (some c.obj) (some (.lst ((plc c ws.length).map nD))) (some (.lst ((told sk c ws).map rnD))) x7 x8) (μ ++ [.lst (l.map rnD)]) = .ok (((plc c ws.length).zip (told sk c ws)).map fun q => .tup [nD q.1, rnD q.2]) (μ ++ [.lst (l.map rnD)]) := by
    rw [← zipL_map]
    rfl
  show Out.stm _ (xiZip _ _ _) _ = _
  rw [iz]
  exact e
theorem loop_rd {n : Nat} {sk : List Pl} (hs : SOk sk) {r : List Cl} {ws : List Wo} (hrun : ∀ w ∈ ws, RunW n w) (hwl : ws.length ≤ 900) (μ : Mu) : ∀ (cs : List Cl) (l : List Wo) (x4 x5 x6 x7 x8 : Option D), (∀ c ∈ cs, c.Ok) → Named sk cs → l.length = ws.length →
    ∃ y4 y5 y6 y7 y8, loopF (gNm 4) rdBody (cs.map Cl.obj) (rhoR sk r ws μ x4 x5 x6 x7 x8) (μ ++ [.lst (l.map rnD)]) = .next (rhoR sk r ws μ y4 y5 y6 y7 y8) (μ ++ [.lst ((cs.foldl (done1 sk ws) l).map rnD)])
  | [], l, x4, x5, x6, x7, x8, _, _, _ => ⟨x4, x5, x6, x7, x8, rfl⟩
  | c :: cs, l, x4, x5, x6, x7, x8, hok, hnm, hl => by
    obtain ⟨z5, z6, z7, z8, e1⟩ := rdBody_ok hs (r := r) hrun hwl (hok c (List.mem_cons_self ..)) (hnm c (List.mem_cons_self ..)) μ hl x5 x6 x7 x8
    obtain ⟨y4, y5, y6, y7, y8, e2⟩ := loop_rd hs (r := r) hrun hwl μ cs (done1 sk ws l c) (some c.obj) z5 z6 z7 z8 (fun q hq => hok q (List.mem_cons_of_mem _ hq)) (fun q hq => hnm q (List.mem_cons_of_mem _ hq)) (by rw [done1_len]; exact hl)
    refine ⟨y4, y5, y6, y7, y8, ?_⟩
    rw [List.map_cons, loop_step (r1 := rhoR sk r ws μ (some c.obj) x5 x6 x7 x8) rfl e1, e2]
    rfl
theorem round_done_ok {n : Nat} {sk : List Pl} (hs : SOk sk) {r : List Cl} (hr : ∀ c ∈ r, c.Ok) (hnm : Named sk r) {ws : List Wo} (hrun : ∀ w ∈ ws, RunW n w) (hwl : ws.length ≤ 900) (μ : Mu) : F_round_done [bookD sk, .lst (r.map Cl.obj), .lst (ws.map rnD)] μ = .ok (.lst ((doneL sk r ws).map rnD)) μ := by
  obtain ⟨y4, y5, y6, y7, y8, e⟩ := loop_rd hs (r := r) hrun hwl μ r ws none none none none none hr hnm rfl
  have hx := exit_lastX (μ := μ) (rns_in (doneL sk r ws) μ.length)
  refine (fn_ret (g := B_round_done) ?_).trans hx
  have f1 : sAsg (xCall newF (xaCons (xVar 2) xaNil)) (gNm 3) [some (bookD sk), some (.lst (r.map Cl.obj)), some (.lst (ws.map rnD)), none, none, none, none, none, none] μ = .next (rhoR sk r ws μ none none none none none) (μ ++ [.lst (ws.map rnD)]) := by
    have nf : newF [.lst (ws.map rnD)] μ = .ok (.loc μ.length) (μ ++ [.lst (ws.map rnD)]) := by
      show (if D.inL μ.length (ws.map rnD) then Out.ok (D.loc μ.length) (μ ++ [.lst (ws.map rnD)]) else .stuck) = _
      rw [if_pos (rns_in _ _)]
    simp only [AP, AV, AB, LS, nf]
  show sSeq _ (sSeq (sFor (xiSeq (xVar 1)) (gNm 4) rdBody) (sRet (xVar 3))) [some (bookD sk), some (.lst (r.map Cl.obj)), some (.lst (ws.map rnD)), none, none, none, none, none, none] μ = _
  rw [seq_next f1]
  have f2 : sFor (xiSeq (xVar 1)) (gNm 4) rdBody (rhoR sk r ws μ none none none none none) (μ ++ [.lst (ws.map rnD)]) = .next (rhoR sk r ws μ y4 y5 y6 y7 y8) (μ ++ [.lst ((doneL sk r ws).map rnD)]) := e
  rw [seq_next f2]
  rfl
end J

namespace J
open PySem PySem.Spec PyProof.Rows L2 DS
/-! ### levels -/
def ws0 (n : Nat) : List Wo := (List.range n).map fun k => some [k]
theorem ws0_len (n : Nat) : (ws0 n).length = n := by unfold ws0; rw [List.length_map, List.length_range]
theorem ws0_run (n : Nat) : ∀ w ∈ ws0 n, RunW n w := fun w hw => by
  obtain ⟨k, hk, rfl⟩ := List.mem_map.mp hw
  exact .one (List.mem_range.mp hk)
theorem putAll_run {n : Nat} {l vs : List Wo} (hl : ∀ w ∈ l, RunW n w) (hv : ∀ w ∈ vs, RunW n w) (ps : List Nat) : ∀ w ∈ putAll l ps vs, RunW n w := by
  unfold putAll
  have key : ∀ (qs : List (Nat × Wo)) (l : List Wo), (∀ q ∈ qs, RunW n q.2) → (∀ w ∈ l, RunW n w) → ∀ w ∈ qs.foldl (fun l q => l.set q.1 q.2) l, RunW n w := fun qs => by
    induction qs with
    | nil => intro l _ h; exact h
    | cons q qs ih =>
      intro l hq h
      refine ih (l.set q.1 q.2) (fun z hz => hq z (List.mem_cons_of_mem _ hz)) fun w hw => ?_
      rcases List.mem_or_eq_of_mem_set hw with hw | rfl
      · exact h w hw
      · exact hq q (List.mem_cons_self ..)
  exact key _ l (fun q hq => hv q.2 (List.of_mem_zip hq).2) hl
theorem told_run {n : Nat} {sk : List Pl} {c : Cl} {ws : List Wo} (h : ∀ w ∈ ws, RunW n w) : ∀ w ∈ told sk c ws, RunW n w := by
  unfold told
  split
  · exact says_run fun w hw => by
      obtain ⟨p, _, rfl⟩ := List.mem_map.mp hw
      exact gw_run h p
  · intro w hw
    obtain ⟨p, _, rfl⟩ := List.mem_map.mp hw
    exact eff_run h c p
theorem doneL_run {n : Nat} {sk : List Pl} {ws : List Wo} (h : ∀ w ∈ ws, RunW n w) (r : List Cl) : ∀ w ∈ doneL sk r ws, RunW n w := by
  unfold doneL
  have key : ∀ (r : List Cl) (l : List Wo), (∀ w ∈ l, RunW n w) → ∀ w ∈ r.foldl (done1 sk ws) l, RunW n w := fun r => by
    induction r with
    | nil => intro l h; exact h
    | cons c r ih => intro l hl; exact ih _ (putAll_run hl (told_run h) _)
  exact key r ws h
def lev (sk : List Pl) (rs : List (List Cl)) (n i : Nat) : List Wo := (rs.take i).foldl (fun ws r => doneL sk r ws) (ws0 n)
theorem lev_succ (sk : List Pl) {rs : List (List Cl)} (n : Nat) {i : Nat} {r : List Cl} (h : rs[i]? = some r) : lev sk rs n (i + 1) = doneL sk r (lev sk rs n i) := by
  unfold lev
  rw [List.take_add_one, h]
  simp
theorem lev_len (sk : List Pl) (rs : List (List Cl)) (n i : Nat) : (lev sk rs n i).length = n := by
  unfold lev
  have key : ∀ (rs : List (List Cl)) (ws : List Wo), (rs.foldl (fun ws r => doneL sk r ws) ws).length = ws.length := fun rs => by
    induction rs with
    | nil => intro ws; rfl
    | cons r rs ih => intro ws; rw [List.foldl_cons, ih, doneL_len]
  rw [key, ws0_len]
theorem lev_run (sk : List Pl) (rs : List (List Cl)) (n i : Nat) : ∀ w ∈ lev sk rs n i, RunW n w := by
  unfold lev
  have key : ∀ (rs : List (List Cl)) (ws : List Wo), (∀ w ∈ ws, RunW n w) → ∀ w ∈ rs.foldl (fun ws r => doneL sk r ws) ws, RunW n w := fun rs => by
    induction rs with
    | nil => intro ws h; exact h
    | cons r rs ih => intro ws h; exact ih _ (doneL_run h r)
  exact key _ _ (ws0_run n)
def levs (sk : List Pl) (rs : List (List Cl)) (n k : Nat) : List (List Wo) := (List.range (k + 1)).map fun i => lev sk rs n i
theorem levs_succ (sk : List Pl) (rs : List (List Cl)) (n k : Nat) : levs sk rs n (k + 1) = levs sk rs n k ++ [lev sk rs n (k + 1)] := by
  unfold levs
  rw [List.range_succ, List.map_append]
  rfl
theorem levs_last (sk : List Pl) (rs : List (List Cl)) (n k : Nat) : ∃ l, levs sk rs n k = l ++ [lev sk rs n k] := by
  cases k with
  | zero => exact ⟨[], rfl⟩
  | succ k => exact ⟨levs sk rs n k, levs_succ sk rs n k⟩
def lsD (e : Wo → D) (ws : List Wo) : D := .lst (ws.map e)
theorem lsD_in {e : Wo → D} (he : ∀ w n, (e w).inB n = true) (ws : List Wo) (n : Nat) : (lsD e ws).inB n = true := by
  unfold lsD
  rw [D.inB]
  exact inL_map _ _ _ fun w _ => he w _
theorem lss_in {e : Wo → D} (he : ∀ w n, (e w).inB n = true) (ls : List (List Wo)) (n : Nat) : D.inL n (ls.map (lsD e)) = true := inL_map _ _ _ fun w _ => lsD_in he w _
theorem ix_endX {α : Type} {f : α → D} {μ : Mu} {l : List α} {w : α} : ixD (.loc μ.length) (.int (-1)) (μ ++ [.lst ((l ++ [w]).map f)]) = .ok (f w) (μ ++ [.lst ((l ++ [w]).map f)]) := by
  unfold ixD
  have e : L2.atI ((l ++ [w]).map f) (-1) = some (f w) := by
    unfold L2.atI L2.ixN
    rw [if_neg (by decide), if_pos (by simp; omega)]
    have : (-1 + ((((l ++ [w]).map f).length : Nat) : Int)).toNat = l.length := by rw [List.length_map, List.length_append, List.length_singleton]; omega
    simp only [this, Option.bind_some]
    rw [List.map_append, List.getElem?_append_right (by simp)]
    simp
  simp only [lstOf, get_lastX, e]
theorem ix_endL {α : Type} {f : α → D} {m : Mu} {l : List α} {w : α} : ixD (.lst ((l ++ [w]).map f)) (.int (-1)) m = .ok (f w) m := by
  unfold ixD
  have e : L2.atI ((l ++ [w]).map f) (-1) = some (f w) := by
    unfold L2.atI L2.ixN
    rw [if_neg (by decide), if_pos (by simp; omega)]
    have : (-1 + ((((l ++ [w]).map f).length : Nat) : Int)).toNat = l.length := by rw [List.length_map, List.length_append, List.length_singleton]; omega
    simp only [this, Option.bind_some]
    rw [List.map_append, List.getElem?_append_right (by simp)]
    simp
  simp only [lstOf, e]
theorem named_of {sk : List Pl} (h : SOk sk) {p : Pl} (hp : p ∈ sk) {r : List Cl} (hr : r ∈ p.rounds) : Named sk r := fun c hc hw => by
  obtain ⟨i, hi⟩ := List.getElem?_of_mem hp
  have q := (h.calls i p hi r hr c hc hw).1
  obtain ⟨z, hz, e⟩ := List.mem_map.mp q
  exact ⟨z, hz, e⟩
theorem skt_of {sk : List Pl} (h : SOk sk) : Skt sk := ⟨fun p hp => (h.ok p hp).nm, Nat.le_trans h.len (by decide)⟩
/-- a loop that puts one more level behind the others -/
theorem loop_lev {sk : List Pl} {n : Nat} {e : Wo → D} (he : ∀ w k, (e w).inB k = true) {f : XE'} {g : List Cl → D} {rho : Option D → Rho} (μ : Mu) (rs : List (List Cl)) (hl : rs.length ≤ 100)
    (hg : ∀ (d : D) (o : Option D) m, gNm 4 d (rho o) m = .ok (rho (some d)) m) (h3 : ∀ d, (rho d)[3]? = some (some (.loc μ.length)))
    (hf : ∀ (i : Nat) (r : List Cl), rs[i]? = some r → f (rho (some (g r))) (μ ++ [.lst ((levs sk rs n i).map (lsD e))]) = .ok (lsD e (lev sk rs n (i + 1))) (μ ++ [.lst ((levs sk rs n i).map (lsD e))])) (d0 : Option D) :
    ∃ d', loopF (gNm 4) (sExpr (xBM "list" appF (xVar 3) (xaCons f xaNil))) (rs.map g) (rho d0) (μ ++ [.lst ((levs sk rs n 0).map (lsD e))]) = .next (rho d') (μ ++ [.lst ((levs sk rs n rs.length).map (lsD e))]) := by
  obtain ⟨r', m', l1, ⟨d', rfl⟩, rfl⟩ := loop_inv (k := 0) (m := μ ++ [.lst ((levs sk rs n 0).map (lsD e))]) (xs := rs.map g) (g := gNm 4) (body := sExpr (xBM "list" appF (xVar 3) (xaCons f xaNil))) (r := rho d0) (fun k r m => (∃ d, r = rho d) ∧ m = μ ++ [.lst ((levs sk rs n k).map (lsD e))]) ⟨⟨_, rfl⟩, rfl⟩ fun i x r m hx hi => by
    obtain ⟨⟨d, rfl⟩, rfl⟩ := hi
    rw [List.getElem?_map] at hx
    cases hr : rs[i]? with
    | none => rw [hr] at hx; cases hx
    | some r =>
      rw [hr] at hx
      cases hx
      rw [Nat.zero_add]
      have hil := (List.getElem?_eq_some_iff.mp hr).1
      have ap : appF [.loc μ.length, lsD e (lev sk rs n (i + 1))] (μ ++ [.lst ((levs sk rs n i).map (lsD e))]) = .ok .non (μ ++ [.lst ((levs sk rs n (i + 1)).map (lsD e))]) := by
        rw [app_lastX (lsD_in he _ _) (by rw [List.length_map]; unfold levs; rw [List.length_map, List.length_range]; unfold sizeLine; omega), levs_succ, List.map_append]
        rfl
      refine ⟨rho (some (g r)), μ ++ [.lst ((levs sk rs n i).map (lsD e))], rho (some (g r)), μ ++ [.lst ((levs sk rs n (i + 1)).map (lsD e))], hg _ _ _, ?_, ⟨_, rfl⟩, rfl⟩
      have xb : ∀ (r : Rho) (m : Mu), sExpr (xBM "list" appF (xVar 3) (xaCons f xaNil)) r m = ((xVar 3 r m).bind fun d m1 => if tyD "list" m1 d then ((f r m1).bind fun x m1 => .ok [x] m1).bind fun ds m2 => appF (d :: ds) m2 else .stuck).stm r fun _ m1 => .next r m1 := fun _ _ => rfl
      rw [xb, AV, h3]
      simp only [AB, ty_lastX, if_true, hf i r hr, ap]
  rw [Nat.zero_add, List.length_map] at l1
  exact ⟨d', l1⟩
theorem levels_of_ok {sk : List Pl} (h : SOk sk) {p : Pl} (hp : p ∈ sk) {n : Nat} (hn : n ≤ 500) (μ : Mu) : F_levels_of [bookD sk, nmD p.nm, .int (n : Nat)] μ = .ok (.lst ((levs sk p.rounds n p.rounds.length).map (lsD rnD))) μ := by
  have ok := h.ok p hp
  have hxn : ∀ (r : Rho) (m : Mu), xNeg (xC (.int 1)) r m = .ok (.int (-1)) m := fun _ _ => rfl
  obtain ⟨d', e⟩ := loop_lev (sk := sk) (n := n) (e := rnD) rnD_in (f := xCall F_round_done (xaCons (xVar 0) (xaCons (xVar 4) (xaCons (xOp ixD (xVar 3) (xNeg (xC (.int 1)))) xaNil)))) (g := fun r => .lst (r.map Cl.obj)) (rho := fun o => [some (bookD sk), some (nmD p.nm), some (.int (n : Nat)), some (.loc μ.length), o, none]) μ p.rounds (Nat.le_trans ok.len (by decide)) (fun _ _ _ => rfl) (fun _ => rfl) (fun i r hr => by
    have hrm := List.mem_of_getElem? hr
    obtain ⟨l, el⟩ := levs_last sk p.rounds n i
    have ie : ixD (.loc μ.length) (.int (-1)) (μ ++ [.lst ((levs sk p.rounds n i).map (lsD rnD))]) = .ok (lsD rnD (lev sk p.rounds n i)) (μ ++ [.lst ((levs sk p.rounds n i).map (lsD rnD))]) := by rw [el]; exact ix_endX
    have rdn : ∀ m, F_round_done [bookD sk, .lst (r.map Cl.obj), lsD rnD (lev sk p.rounds n i)] m = .ok (lsD rnD (lev sk p.rounds n (i + 1))) m := fun m => by
      rw [lev_succ sk n hr]
      exact round_done_ok h (ok.ok r hrm).ok (named_of h hp hrm) (lev_run sk p.rounds n i) (by rw [lev_len]; omega) m
    simp only [AP, AV, AB, LS, hxn, ie, rdn]) none
  have hx := exit_lastX (μ := μ) (lss_in rnD_in (levs sk p.rounds n p.rounds.length) μ.length)
  refine (fn_ret (g := B_levels_of) ?_).trans hx
  have lc : lcD (gNm 5) xYes (xTup (xaCons (xVar 5) (xaCons (xOp addD (xVar 5) (xC (.int 1))) xaNil))) [some (bookD sk), some (nmD p.nm), some (.int (n : Nat)), none, none, none] (rngL 0 n) μ = .ok (lsD rnD (lev sk p.rounds n 0)) μ := by
    rw [rngL_nD]
    show _ = Out.ok (D.lst ((ws0 n).map rnD)) μ
    unfold ws0
    rw [List.map_map]
    refine lc_map _ _ (fun k hk acc => ?_) (fun k _ => rnD_in _ _) (by rw [List.length_range]; unfold sizeLine; omega)
    have i3 : ∀ m, addD (nD k) (.int 1) m = .ok (nD (k + 1)) m := fun m => rfl
    simp only [AP, AV, AB, LS, i3]
    rfl
  have e0 : xLc (xiRng1 (xaCons (xVar 2) xaNil)) [5] (gNm 5) xYes (xTup (xaCons (xVar 5) (xaCons (xOp addD (xVar 5) (xC (.int 1))) xaNil))) [some (bookD sk), some (nmD p.nm), some (.int (n : Nat)), none, none, none] μ = .ok (lsD rnD (lev sk p.rounds n 0)) μ := by
    have i1 : xiRng1 (xaCons (xVar 2) xaNil) [some (bookD sk), some (nmD p.nm), some (.int (n : Nat)), none, none, none] μ = .ok (rngL 0 n) μ := by
      simp only [AP, AV, AB, LS, rng1_ok (show n < 2 ^ 62 by omega)]
    show Out.bind (xiRng1 _ _ _) _ = _
    rw [i1]
    exact lc
  have f1 : sAsg (xNew (xaCons (xLc (xiRng1 (xaCons (xVar 2) xaNil)) [5] (gNm 5) xYes (xTup (xaCons (xVar 5) (xaCons (xOp addD (xVar 5) (xC (.int 1))) xaNil)))) xaNil)) (gNm 3) [some (bookD sk), some (nmD p.nm), some (.int (n : Nat)), none, none, none] μ = .next [some (bookD sk), some (nmD p.nm), some (.int (n : Nat)), some (.loc μ.length), none, none] (μ ++ [.lst ((levs sk p.rounds n 0).map (lsD rnD))]) := by
    show Out.stm _ (Out.bind (Out.bind (xLc _ _ _ _ _ _ _) _) _) _ = _
    rw [e0]
    have hi : D.inL μ.length [lsD rnD (lev sk p.rounds n 0)] = true := lss_in rnD_in [lev sk p.rounds n 0] _
    simp only [AB, AP, hi, if_true, LS]
    rfl
  show sSeq _ (sSeq (sFor (xiSeq (xMeth "Book" "program" F_Book_program (xVar 0) (xaCons (xVar 1) xaNil))) (gNm 4) _) (sRet (xVar 3))) [some (bookD sk), some (nmD p.nm), some (.int (n : Nat)), none, none, none] μ = _
  rw [seq_next f1]
  have hm : ∀ m, xMeth "Book" "program" F_Book_program (xVar 0) (xaCons (xVar 1) xaNil) [some (bookD sk), some (nmD p.nm), some (.int (n : Nat)), some (.loc μ.length), none, none] m = F_Book_program [bookD sk, nmD p.nm] m := fun _ => rfl
  have it : ∀ m, xiSeq (xMeth "Book" "program" F_Book_program (xVar 0) (xaCons (xVar 1) xaNil)) [some (bookD sk), some (nmD p.nm), some (.int (n : Nat)), some (.loc μ.length), none, none] m = .ok (p.rounds.map fun r => .lst (r.map Cl.obj)) m := fun m => by
    simp only [AP, hm, program_ok h hp, AB]
    rfl
  have f2 : ∀ b, sFor (xiSeq (xMeth "Book" "program" F_Book_program (xVar 0) (xaCons (xVar 1) xaNil))) (gNm 4) b [some (bookD sk), some (nmD p.nm), some (.int (n : Nat)), some (.loc μ.length), none, none] (μ ++ [.lst ((levs sk p.rounds n 0).map (lsD rnD))]) = loopF (gNm 4) b (p.rounds.map fun r => .lst (r.map Cl.obj)) [some (bookD sk), some (nmD p.nm), some (.int (n : Nat)), some (.loc μ.length), none, none] (μ ++ [.lst ((levs sk p.rounds n 0).map (lsD rnD))]) := fun b => by
    show Out.stm _ (xiSeq _ _ _) _ = _
    rw [it]
    rfl
  rw [seq_next ((f2 _).trans e)]
  rfl
theorem law_level_ok {sk : List Pl} (h : SOk sk) {p : Pl} (hp : p ∈ sk) {n : Nat} (hn : n ≤ 500) (μ : Mu) : F__law_level [skD sk, p.dat, .int (n : Nat)] μ = .ok (.lst ((levs sk p.rounds n p.rounds.length).map (lsD woD))) μ := by
  have ok := h.ok p hp
  have hxn : ∀ (r : Rho) (m : Mu), xNeg (xC (.int 1)) r m = .ok (.int (-1)) m := fun _ _ => rfl
  obtain ⟨d', e⟩ := loop_lev (sk := sk) (n := n) (e := woD) woD_in (f := xCall F__law_done (xaCons (xVar 0) (xaCons (xVar 4) (xaCons (xOp ixD (xVar 3) (xNeg (xC (.int 1)))) xaNil)))) (g := fun r => .lst (r.map Cl.dat)) (rho := fun o => [some (skD sk), some p.dat, some (.int (n : Nat)), some (.loc μ.length), o, none]) μ p.rounds (Nat.le_trans ok.len (by decide)) (fun _ _ _ => rfl) (fun _ => rfl) (fun i r hr => by
    have hrm := List.mem_of_getElem? hr
    obtain ⟨l, el⟩ := levs_last sk p.rounds n i
    have ie : ixD (.loc μ.length) (.int (-1)) (μ ++ [.lst ((levs sk p.rounds n i).map (lsD woD))]) = .ok (lsD woD (lev sk p.rounds n i)) (μ ++ [.lst ((levs sk p.rounds n i).map (lsD woD))]) := by rw [el]; exact ix_endX
    have rdn : ∀ m, F__law_done [skD sk, .lst (r.map Cl.dat), lsD woD (lev sk p.rounds n i)] m = .ok (lsD woD (lev sk p.rounds n (i + 1))) m := fun m => by
      rw [lev_succ sk n hr]
      exact law_done_ok (n := n) (by omega) (skt_of h) (ok.ok r hrm).ok (named_of h hp hrm) (lev_run sk p.rounds n i) (by rw [lev_len]; omega) m
    simp only [AP, AV, AB, LS, hxn, ie, rdn]) none
  have hx := exit_lastX (μ := μ) (lss_in woD_in (levs sk p.rounds n p.rounds.length) μ.length)
  refine (fn_ret (g := B__law_level) ?_).trans hx
  have lc : lcD (gNm 5) xYes (xTup (xaCons (xVar 5) xaNil)) [some (skD sk), some p.dat, some (.int (n : Nat)), none, none, none] (rngL 0 n) μ = .ok (lsD woD (lev sk p.rounds n 0)) μ := by
    rw [rngL_nD]
    show _ = Out.ok (D.lst ((ws0 n).map woD)) μ
    unfold ws0
    rw [List.map_map]
    refine lc_map _ _ (fun k hk acc => ?_) (fun k _ => woD_in _ _) (by rw [List.length_range]; unfold sizeLine; omega)
    simp only [AP, AV, AB, LS]
    rfl
  have e0 : xLc (xiRng1 (xaCons (xVar 2) xaNil)) [5] (gNm 5) xYes (xTup (xaCons (xVar 5) xaNil)) [some (skD sk), some p.dat, some (.int (n : Nat)), none, none, none] μ = .ok (lsD woD (lev sk p.rounds n 0)) μ := by
    have i1 : xiRng1 (xaCons (xVar 2) xaNil) [some (skD sk), some p.dat, some (.int (n : Nat)), none, none, none] μ = .ok (rngL 0 n) μ := by
      simp only [AP, AV, AB, LS, rng1_ok (show n < 2 ^ 62 by omega)]
    show Out.bind (xiRng1 _ _ _) _ = _
    rw [i1]
    exact lc
  have f1 : sAsg (xNew (xaCons (xLc (xiRng1 (xaCons (xVar 2) xaNil)) [5] (gNm 5) xYes (xTup (xaCons (xVar 5) xaNil))) xaNil)) (gNm 3) [some (skD sk), some p.dat, some (.int (n : Nat)), none, none, none] μ = .next [some (skD sk), some p.dat, some (.int (n : Nat)), some (.loc μ.length), none, none] (μ ++ [.lst ((levs sk p.rounds n 0).map (lsD woD))]) := by
    show Out.stm _ (Out.bind (Out.bind (xLc _ _ _ _ _ _ _) _) _) _ = _
    rw [e0]
    have hi : D.inL μ.length [lsD woD (lev sk p.rounds n 0)] = true := lss_in woD_in [lev sk p.rounds n 0] _
    simp only [AB, AP, hi, if_true, LS]
    rfl
  show sSeq _ (sSeq (sFor (xiSeq (xOp ixD (xVar 1) (xC (.int 3)))) (gNm 4) _) (sRet (xVar 3))) [some (skD sk), some p.dat, some (.int (n : Nat)), none, none, none] μ = _
  rw [seq_next f1]
  have f2 : ∀ b, sFor (xiSeq (xOp ixD (xVar 1) (xC (.int 3)))) (gNm 4) b [some (skD sk), some p.dat, some (.int (n : Nat)), some (.loc μ.length), none, none] (μ ++ [.lst ((levs sk p.rounds n 0).map (lsD woD))]) = loopF (gNm 4) b (p.rounds.map fun r => .lst (r.map Cl.dat)) [some (skD sk), some p.dat, some (.int (n : Nat)), some (.loc μ.length), none, none] (μ ++ [.lst ((levs sk p.rounds n 0).map (lsD woD))]) := fun b => rfl
  rw [seq_next ((f2 _).trans e)]
  rfl
end J

namespace J
open PySem PySem.Spec PyProof.Rows L2 DS
/-! ### what is due -/
def dueW : Gl → Nat → Wo
  | .all, k => some (List.range' 0 (k + 1))
  | .before, k => some (List.range' 0 k)
  | .last q, k => some (List.range' (k + 1 - q) (k + 1 - (k + 1 - q)))
theorem dueW_run {g : Gl} {n k : Nat} (h : k < n) : RunW n (dueW g k) := by
  cases g with
  | all => exact fun l e => by cases e; exact ⟨_, _, rfl, by omega⟩
  | before => exact fun l e => by cases e; exact ⟨_, _, rfl, by omega⟩
  | last q => exact fun l e => by cases e; exact ⟨_, _, rfl, by omega⟩
theorem rnD_range (s k : Nat) : rnD (some (List.range' s (k + 1))) = .tup [nD s, nD (s + k + 1)] := by
  show prD (rn _) = _
  rw [rn_range]
  rfl
theorem due_run_ok {g : Gl} (hg : g.Ok) (k : Nat) (μ : Mu) : F_due_run [g.read, nD k] μ = .ok (rnD (dueW g k)) μ := by
  refine (fn_ret (g := B_due_run) ?_).trans (rn_exit _ μ)
  have i3 : ∀ m, addD (nD k) (.int 1) m = .ok (nD (k + 1)) m := fun m => rfl
  cases g with
  | all =>
    have f1 : sAsg (xVar 0) (gTp 2 (gsCons (gNm 2) (gsCons (gNm 3) gsNil))) [some (Gl.read .all), some (nD k), none, none] μ = .next [some (Gl.read .all), some (nD k), some (.str "all"), some .non] μ := rfl
    show sSeq _ _ [some (Gl.read .all), some (nD k), none, none] μ = _
    rw [seq_next f1]
    refine seq_ret ?_
    have t0 : ∀ m, eqD (.str "all") (.str "all") m = .ok (.bl true) m := fun m => rfl
    simp only [AP, AV, AB, LS, t0, if_true, i3, dueW]
    rw [rnD_range, Nat.zero_add]
    rfl
  | before =>
    have f1 : sAsg (xVar 0) (gTp 2 (gsCons (gNm 2) (gsCons (gNm 3) gsNil))) [some (Gl.read .before), some (nD k), none, none] μ = .next [some (Gl.read .before), some (nD k), some (.str "before"), some .non] μ := rfl
    show sSeq _ _ [some (Gl.read .before), some (nD k), none, none] μ = _
    rw [seq_next f1]
    have t0 : ∀ m, eqD (.str "before") (.str "all") m = .ok (.bl false) m := fun m => rfl
    have t1 : ∀ m, eqD (.str "before") (.str "before") m = .ok (.bl true) m := fun m => rfl
    have f2 : ∀ q, sIf (xTest (xOp eqD (xVar 2) (xC (.str "all")))) q sNil [some (Gl.read .before), some (nD k), some (.str "before"), some .non] μ = .next [some (Gl.read .before), some (nD k), some (.str "before"), some .non] μ := fun q => by
      simp only [AP, AV, AB, LS, t0, Bool.false_eq_true, if_false]
    rw [seq_next (f2 _)]
    simp only [AP, AV, AB, LS, t1, if_true, dueW]
    cases k with
    | zero => rfl
    | succ k => rw [rnD_range, Nat.zero_add]; rfl
  | last q =>
    have f1 : sAsg (xVar 0) (gTp 2 (gsCons (gNm 2) (gsCons (gNm 3) gsNil))) [some (Gl.read (.last q)), some (nD k), none, none] μ = .next [some (Gl.read (.last q)), some (nD k), some (.str "last"), some (.int (q : Nat))] μ := rfl
    show sSeq _ _ [some (Gl.read (.last q)), some (nD k), none, none] μ = _
    rw [seq_next f1]
    have t0 : ∀ m, eqD (.str "last") (.str "all") m = .ok (.bl false) m := fun m => rfl
    have t1 : ∀ m, eqD (.str "last") (.str "before") m = .ok (.bl false) m := fun m => rfl
    have f2 : ∀ z, sIf (xTest (xOp eqD (xVar 2) (xC (.str "all")))) z sNil [some (Gl.read (.last q)), some (nD k), some (.str "last"), some (.int (q : Nat))] μ = .next [some (Gl.read (.last q)), some (nD k), some (.str "last"), some (.int (q : Nat))] μ := fun z => by
      simp only [AP, AV, AB, LS, t0, Bool.false_eq_true, if_false]
    rw [seq_next (f2 _)]
    have h1 := hg.1
    have mx : ∀ m, maxF [.int 0, .int ((k : Int) - q + 1)] m = .ok (nD (k + 1 - q)) m := fun m => by
      show Out.ok (D.int (if ((k : Int) - q + 1) > 0 then ((k : Int) - q + 1) else 0)) m = Out.ok (D.int ((k + 1 - q : Nat) : Int)) m
      congr 2
      split <;> omega
    have sb : ∀ m, subD (nD k) (.int (q : Nat)) m = .ok (.int ((k : Int) - q)) m := fun m => rfl
    simp only [AP, AV, AB, LS, t1, Bool.false_eq_true, if_false, sb, OI.2.2.2.2.1, mx, i3, dueW]
    obtain ⟨j, hj⟩ : ∃ j, k + 1 - (k + 1 - q) = j + 1 := ⟨k + 1 - (k + 1 - q) - 1, by omega⟩
    rw [hj, rnD_range, show k + 1 - q + j + 1 = k + 1 by omega]
theorem law_due_ok {g : Gl} (k : Nat) (hk : k ≤ 1000) (μ : Mu) : F__law_due [g.dat, nD k] μ = .ok (woD (dueW g k)) μ := by
  refine (fn_ret (g := B__law_due) ?_).trans (wo_exit _ μ)
  have i3 : ∀ m, addD (nD k) (.int 1) m = .ok (nD (k + 1)) m := fun m => rfl
  have x1 : ∀ (f : XA) (r : Rho) (m : Mu), xTupR f r m = (f r m).bind frzT := fun _ _ _ => rfl
  have fz : ∀ (s j : Nat) m, j ≤ 2000 → frzT ((List.range j).map fun i => nD (s + i)) m = .ok (woD (some (List.range' s j))) m := fun s j m hj => by
    unfold frzT
    rw [if_pos (by rw [List.length_map, List.length_range]; omega)]
    show _ = Out.ok (D.tup ((List.range' s j).map nD)) m
    rw [List.range'_eq_map_range, List.map_map]
    rfl
  have rg1 : ∀ (j : Nat) m, j ≤ 2000 → rngD1 [nD j] m = .ok ((List.range j).map fun i => nD (0 + i)) m := fun j m hj => by
    rw [show rngD1 [nD j] m = _ from rng1_ok (show j < 2 ^ 62 by omega) m, rngL_nD]
    congr 2
    funext i
    rw [Nat.zero_add]
  cases g with
  | all =>
    have h0 : ∀ m, ixD (Gl.dat .all) (.int 0) m = .ok (.str "all") m := fun m => IX.2.2.2.2.1
    have t0 : ∀ m, eqD (.str "all") (.str "last") m = .ok (.bl false) m := fun m => rfl
    have t1 : ∀ m, eqD (.str "all") (.str "all") m = .ok (.bl true) m := fun m => rfl
    show sSeq _ _ [some (Gl.dat .all), some (nD k)] μ = _
    have f1 : ∀ z, sIf (xTest (xOp eqD (xOp ixD (xVar 0) (xC (.int 0))) (xC (.str "last")))) z sNil [some (Gl.dat .all), some (nD k)] μ = .next [some (Gl.dat .all), some (nD k)] μ := fun z => by
      simp only [AP, AV, AB, LS, h0, t0, Bool.false_eq_true, if_false]
    rw [seq_next (f1 _)]
    simp only [x1, AP, AV, AB, LS, h0, t1, if_true, i3, rg1 _ _ (show k + 1 ≤ 2000 by omega), fz _ _ _ (show k + 1 ≤ 2000 by omega), dueW]
  | before =>
    have h0 : ∀ m, ixD (Gl.dat .before) (.int 0) m = .ok (.str "before") m := fun m => IX.2.2.2.2.1
    have t0 : ∀ m, eqD (.str "before") (.str "last") m = .ok (.bl false) m := fun m => rfl
    have t1 : ∀ m, eqD (.str "before") (.str "all") m = .ok (.bl false) m := fun m => rfl
    show sSeq _ _ [some (Gl.dat .before), some (nD k)] μ = _
    have f1 : ∀ z, sIf (xTest (xOp eqD (xOp ixD (xVar 0) (xC (.int 0))) (xC (.str "last")))) z sNil [some (Gl.dat .before), some (nD k)] μ = .next [some (Gl.dat .before), some (nD k)] μ := fun z => by
      simp only [AP, AV, AB, LS, h0, t0, Bool.false_eq_true, if_false]
    rw [seq_next (f1 _)]
    simp only [x1, AP, AV, AB, LS, h0, t1, Bool.false_eq_true, if_false, rg1 _ _ (show k ≤ 2000 by omega), fz _ _ _ (show k ≤ 2000 by omega), dueW]
  | last q =>
    have h0 : ∀ m, ixD (Gl.dat (.last q)) (.int 0) m = .ok (.str "last") m := fun m => IX.2.2.2.2.1
    have h1 : ∀ m, ixD (Gl.dat (.last q)) (.int 1) m = .ok (.int (q : Nat)) m := fun m => IX.2.2.2.2.2.1
    have t0 : ∀ m, eqD (.str "last") (.str "last") m = .ok (.bl true) m := fun m => rfl
    have mx : ∀ m, maxF [.int 0, .int ((k + 1 : Nat) - (q : Int))] m = .ok (nD (k + 1 - q)) m := fun m => by
      show Out.ok (D.int (if (((k + 1 : Nat) : Int) - q) > 0 then (((k + 1 : Nat) : Int) - q) else 0)) m = Out.ok (D.int ((k + 1 - q : Nat) : Int)) m
      congr 2
      split <;> omega
    have sb : ∀ m, subD (nD (k + 1)) (.int (q : Nat)) m = .ok (.int ((k + 1 : Nat) - (q : Int))) m := fun m => rfl
    have rg2 : ∀ m, rngD2 [nD (k + 1 - q), nD (k + 1)] m = .ok ((List.range (k + 1 - (k + 1 - q))).map fun i => nD (k + 1 - q + i)) m := fun m => by
      unfold rngD2 nD
      simp only
      rw [if_pos (by omega)]
      congr 1
      unfold rngL
      rw [show (((k + 1 : Nat) : Int) - ((k + 1 - q : Nat) : Int)).toNat = k + 1 - (k + 1 - q) by omega]
      rfl
    show sSeq _ _ [some (Gl.dat (.last q)), some (nD k)] μ = _
    refine seq_ret ?_
    simp only [x1, AP, AV, AB, LS, h0, h1, t0, if_true, i3, sb, mx, rg2, fz _ _ _ (show k + 1 - (k + 1 - q) ≤ 2000 by omega), dueW]
/-! ### wrong places -/
def wrongs (sk : List Pl) (p : Pl) (n : Nat) : List Nat := (List.range n).filter fun k => !decide (gw (lev sk p.rounds n p.rounds.length) k = dueW p.goal k)
theorem ints_nD (ns : List Nat) : ns.map nD = (ns.map fun k : Nat => (k : Int)).map D.int := by rw [List.map_map]; rfl
theorem nDlst_exit (ns : List Nat) (μ : Mu) : exitD μ.length (.lst (ns.map nD)) μ = .ok (.lst (ns.map nD)) μ := by
  rw [exit_in (by rw [D.inB]; exact inL_nD _ _), List.take_length]
theorem law_faults_ok {sk : List Pl} (h : SOk sk) {p : Pl} (hp : p ∈ sk) {n : Nat} (hn : n ≤ 500) (μ : Mu) : F__law_faults [skD sk, p.dat, .int (n : Nat)] μ = .ok (.lst ((wrongs sk p n).map nD)) μ := by
  have hxn : ∀ (r : Rho) (m : Mu), xNeg (xC (.int 1)) r m = .ok (.int (-1)) m := fun _ _ => rfl
  obtain ⟨l, el⟩ := levs_last sk p.rounds n p.rounds.length
  have ie : ∀ m, ixD (.lst ((levs sk p.rounds n p.rounds.length).map (lsD woD))) (.int (-1)) m = .ok (lsD woD (lev sk p.rounds n p.rounds.length)) m := fun m => by rw [el]; exact ix_endL
  have f1 : sAsg (xOp ixD (xCall F__law_level (xaCons (xVar 0) (xaCons (xVar 1) (xaCons (xVar 2) xaNil)))) (xNeg (xC (.int 1)))) (gNm 3) [some (skD sk), some p.dat, some (.int (n : Nat)), none, none] μ = .next [some (skD sk), some p.dat, some (.int (n : Nat)), some (lsD woD (lev sk p.rounds n p.rounds.length)), none] μ := by
    simp only [AP, AV, AB, LS, law_level_ok h hp hn, hxn, ie]
  have lc : lcD (gNm 4) (xTest (xOp neD (xOp ixD (xVar 3) (xVar 4)) (xCall F__law_due (xaCons (xOp ixD (xVar 1) (xC (.int 1))) (xaCons (xVar 4) xaNil))))) (xVar 4) [some (skD sk), some p.dat, some (.int (n : Nat)), some (lsD woD (lev sk p.rounds n p.rounds.length)), none] (rngL 0 n) μ = .ok (.lst ((wrongs sk p n).map nD)) μ := by
    rw [rngL_nD]
    refine lc_fil nD _ nD (fun k hk acc => ?_) (fun k hk _ acc => by simp only [AV, LS]) (fun _ _ _ => rfl) (by rw [List.length_range]; unfold sizeLine; omega)
    have hkl := List.mem_range.mp hk
    have i1 : ∀ m, ixD p.dat (.int 1) m = .ok p.goal.dat m := fun m => IX.2.1
    have i2 : ∀ m, ixD (lsD woD (lev sk p.rounds n p.rounds.length)) (nD k) m = .ok (woD (gw (lev sk p.rounds n p.rounds.length) k)) m := fun m => ix_wo (by rw [lev_len]; exact hkl) m
    simp only [AP, AV, AB, LS, i1, i2, law_due_ok k (show k ≤ 1000 by omega), ne_wo]
  refine (fn_ret (g := B__law_faults) ?_).trans (nDlst_exit _ μ)
  show sSeq _ _ [some (skD sk), some p.dat, some (.int (n : Nat)), none, none] μ = _
  rw [seq_next f1]
  have i1 : xiRng1 (xaCons (xVar 2) xaNil) [some (skD sk), some p.dat, some (.int (n : Nat)), some (lsD woD (lev sk p.rounds n p.rounds.length)), none] μ = .ok (rngL 0 n) μ := by
    simp only [AP, AV, AB, LS, rng1_ok (show n < 2 ^ 62 by omega)]
  show Out.stm _ (Out.bind (xiRng1 _ _ _) _) _ = _
  rw [i1]
  show Out.stm _ (lcD _ _ _ [some (skD sk), some p.dat, some (.int (n : Nat)), some (lsD woD (lev sk p.rounds n p.rounds.length)), none] _ _) _ = _
  rw [lc]
  rfl
theorem wrong_places_ok {sk : List Pl} (h : SOk sk) {p : Pl} (hp : p ∈ sk) {n : Nat} (hn : n ≤ 500) (μ : Mu) : F_wrong_places [bookD sk, nmD p.nm, .int (n : Nat)] μ = .ok (.lst ((wrongs sk p n).map nD)) μ := by
  have hxn : ∀ (r : Rho) (m : Mu), xNeg (xC (.int 1)) r m = .ok (.int (-1)) m := fun _ _ => rfl
  obtain ⟨l, el⟩ := levs_last sk p.rounds n p.rounds.length
  have ie : ∀ m, ixD (.lst ((levs sk p.rounds n p.rounds.length).map (lsD rnD))) (.int (-1)) m = .ok (lsD rnD (lev sk p.rounds n p.rounds.length)) m := fun m => by rw [el]; exact ix_endL
  have hm : ∀ m, xMeth "Book" "goal_of" F_Book_goal_of (xVar 0) (xaCons (xVar 1) xaNil) [some (bookD sk), some (nmD p.nm), some (.int (n : Nat)), none, none, none] m = F_Book_goal_of [bookD sk, nmD p.nm] m := fun _ => rfl
  have f1 : sAsg (xTup (xaCons (xMeth "Book" "goal_of" F_Book_goal_of (xVar 0) (xaCons (xVar 1) xaNil)) (xaCons (xOp ixD (xCall F_levels_of (xaCons (xVar 0) (xaCons (xVar 1) (xaCons (xVar 2) xaNil)))) (xNeg (xC (.int 1)))) xaNil))) (gTp 2 (gsCons (gNm 3) (gsCons (gNm 4) gsNil))) [some (bookD sk), some (nmD p.nm), some (.int (n : Nat)), none, none, none] μ = .next [some (bookD sk), some (nmD p.nm), some (.int (n : Nat)), some p.goal.read, some (lsD rnD (lev sk p.rounds n p.rounds.length)), none] μ := by
    simp only [AP, hm, goal_of_ok h hp, AV, AB, LS, levels_of_ok h hp hn, hxn, ie, List.length, Nat.reduceAdd, if_true]
  have lc : lcD (gNm 5) (xTest (xOp neD (xOp ixD (xVar 4) (xVar 5)) (xCall F_due_run (xaCons (xVar 3) (xaCons (xVar 5) xaNil))))) (xVar 5) [some (bookD sk), some (nmD p.nm), some (.int (n : Nat)), some p.goal.read, some (lsD rnD (lev sk p.rounds n p.rounds.length)), none] (rngL 0 n) μ = .ok (.lst ((wrongs sk p n).map nD)) μ := by
    rw [rngL_nD]
    refine lc_fil nD _ nD (fun k hk acc => ?_) (fun k hk _ acc => by simp only [AV, LS]) (fun _ _ _ => rfl) (by rw [List.length_range]; unfold sizeLine; omega)
    have hkl := List.mem_range.mp hk
    have i2 : ∀ m, ixD (lsD rnD (lev sk p.rounds n p.rounds.length)) (nD k) m = .ok (rnD (gw (lev sk p.rounds n p.rounds.length) k)) m := fun m => ix_rn (by rw [lev_len]; exact hkl) m
    simp only [AP, AV, AB, LS, i2, due_run_ok (h.ok p hp).goal, ne_rn (gw_run (lev_run sk p.rounds n p.rounds.length) k) (dueW_run hkl)]
  refine (fn_ret (g := B_wrong_places) ?_).trans (nDlst_exit _ μ)
  show sSeq _ _ [some (bookD sk), some (nmD p.nm), some (.int (n : Nat)), none, none, none] μ = _
  rw [seq_next f1]
  have i1 : xiRng1 (xaCons (xVar 2) xaNil) [some (bookD sk), some (nmD p.nm), some (.int (n : Nat)), some p.goal.read, some (lsD rnD (lev sk p.rounds n p.rounds.length)), none] μ = .ok (rngL 0 n) μ := by
    simp only [AP, AV, AB, LS, rng1_ok (show n < 2 ^ 62 by omega)]
  show Out.stm _ (Out.bind (xiRng1 _ _ _) _) _ = _
  rw [i1]
  show Out.stm _ (lcD _ _ _ [some (bookD sk), some (nmD p.nm), some (.int (n : Nat)), some p.goal.read, some (lsD rnD (lev sk p.rounds n p.rounds.length)), none] _ _) _ = _
  rw [lc]
  rfl
end J

namespace J
open PySem PySem.Spec PyProof.Rows L2 DS
/-! ### the functions of the program -/
theorem check_size_ok {n most : Nat} (h1 : 1 ≤ n) (h2 : n ≤ most) (μ : Mu) : F_check_size [.int (n : Nat), .int (most : Nat)] μ = .ok .non μ := by
  have e : ∀ m, F_is_between [.int (n : Nat), .int 1, .int (most : Nat)] m = .ok (.bl true) m := fun m => by
    rw [is_between_ok, decide_eq_true (show (1 : Int) ≤ (n : Nat) by omega), decide_eq_true (show ((n : Nat) : Int) ≤ (most : Nat) by omega)]
    rfl
  simp only [F_check_size, B_check_size, fn_ap, rho0, List.map, List.replicate, List.length, Nat.reduceSub, Nat.reduceAdd, List.cons_append, List.nil_append, AP, AV, AB, LS, e, Bool.not_true, Bool.false_eq_true, if_false, List.take_length]
def tpD (e : Wo → D) (ws : List Wo) : D := .tup (ws.map e)
theorem tpD_in {e : Wo → D} (he : ∀ w n, (e w).inB n = true) (ws : List Wo) (n : Nat) : (tpD e ws).inB n = true := by
  unfold tpD
  rw [D.inB]
  exact inL_map _ _ _ fun w _ => he w _
def lvD (sk : List Pl) (p : Pl) (n : Nat) : D := .tup ((levs sk p.rounds n p.rounds.length).map (tpD rnD))
theorem lvD_in (sk : List Pl) (p : Pl) (n k : Nat) : (lvD sk p n).inB k = true := by
  unfold lvD
  rw [D.inB]
  exact inL_map _ _ _ fun w _ => tpD_in rnD_in w _
theorem levs_len (sk : List Pl) (rs : List (List Cl)) (n k : Nat) : (levs sk rs n k).length = k + 1 := by unfold levs; rw [List.length_map, List.length_range]
theorem level_ok {sk : List Pl} (h : SOk sk) {p : Pl} (hp : p ∈ sk) {n : Nat} (h1 : 1 ≤ n) (hn : n ≤ 100) (μ : Mu) : F_level [bookD sk, nmD p.nm, .int (n : Nat)] μ = .ok (lvD sk p n) μ := by
  have hx : exitD μ.length (lvD sk p n) μ = .ok (lvD sk p n) μ := by rw [exit_in (lvD_in _ _ _ _), List.take_length]
  have hl5 := (h.ok p hp).len
  have cs : ∀ m, F_check_size [.int (n : Nat), .int 100] m = .ok .non m := fun m => check_size_ok (most := 100) h1 hn m
  have lc : ∀ (ρ : Rho), 3 < ρ.length → lcD (gNm 3) xYes (xCall tupF (xaCons (xVar 3) xaNil)) ρ ((levs sk p.rounds n p.rounds.length).map (lsD rnD)) μ = .ok (.lst ((levs sk p.rounds n p.rounds.length).map (tpD rnD))) μ := fun ρ h3 => by
    refine lc_map _ _ (fun ws _ acc => ?_) (fun ws _ => tpD_in rnD_in _ _) (by rw [levs_len]; unfold sizeLine; omega)
    have tf : ∀ m, tupF [lsD rnD ws] m = .ok (tpD rnD ws) m := fun _ => rfl
    simp only [AP, AV, AB, List.getElem?_set_self h3, tf]
  have tf : ∀ m, tupF [.lst ((levs sk p.rounds n p.rounds.length).map (tpD rnD))] m = .ok (lvD sk p n) m := fun _ => rfl
  have lc' := lc [some (bookD sk), some (nmD p.nm), some (.int (n : Nat)), none] (by simp)
  simp only [F_level, B_level, fn_ap, rho0, List.map, List.replicate, List.length, Nat.reduceSub, Nat.reduceAdd, List.cons_append, List.nil_append, AP, AV, AB, LS, check_book_ok, check_plan_ok h hp, cs, levels_of_ok h hp (show n ≤ 500 by omega), wipeR, lc', tf, Bool.false_eq_true, if_false, hx]
def hld (sk : List Pl) (p : Pl) (n : Nat) : Bool := decide (n ≤ p.base) || (wrongs sk p n).isEmpty
theorem holds_at_ok {sk : List Pl} (h : SOk sk) {p : Pl} (hp : p ∈ sk) {n : Nat} (hn : n ≤ 500) (μ : Mu) : F_holds_at [bookD sk, nmD p.nm, .int (n : Nat)] μ = .ok (.bl (hld sk p n)) μ := by
  have hm : ∀ m, xMeth "Book" "plan" F_Book_plan (xVar 0) (xaCons (xVar 1) xaNil) [some (bookD sk), some (nmD p.nm), some (.int (n : Nat))] m = F_Book_plan [bookD sk, nmD p.nm] m := fun _ => rfl
  have i2 : ∀ m, ixD p.parts (.int 2) m = .ok (.int (p.base : Nat)) m := fun m => IX.2.2.2.2.2.2.1
  have en : ∀ m, eqD (.lst ((wrongs sk p n).map nD)) (.lst []) m = .ok (.bl (wrongs sk p n).isEmpty) m := fun m => by
    rw [ints_nD, eq_nil', List.isEmpty_map]
  refine (fn_ret (g := B_holds_at) ?_).trans (by rw [exit_bl, List.take_length])
  show sRet _ [some (bookD sk), some (nmD p.nm), some (.int (n : Nat))] μ = SO.ret (.bl (hld sk p n)) μ
  simp only [AP, hm, AV, AB, LS, bplan_ok h hp, i2, OI]
  unfold hld
  by_cases hb : n ≤ p.base
  · simp only [decide_eq_true hb, decide_eq_true (show ((n : Nat) : Int) ≤ (p.base : Nat) by omega), if_true, Bool.true_or, AB]
  · simp only [decide_eq_false hb, decide_eq_false (show ¬ ((n : Nat) : Int) ≤ (p.base : Nat) by omega), Bool.false_eq_true, if_false, Bool.false_or, AB, wrong_places_ok h hp hn, en]
theorem holds_ok {sk : List Pl} (h : SOk sk) {p : Pl} (hp : p ∈ sk) {n : Nat} (h1 : 1 ≤ n) (hn : n ≤ 100) (μ : Mu) : F_holds [bookD sk, nmD p.nm, .int (n : Nat)] μ = .ok (.bl (hld sk p n)) μ := by
  have cs : ∀ m, F_check_size [.int (n : Nat), .int 100] m = .ok .non m := fun m => check_size_ok (most := 100) h1 hn m
  simp only [F_holds, B_holds, fn_ap, rho0, List.map, List.replicate, List.length, Nat.reduceSub, Nat.reduceAdd, List.cons_append, List.nil_append, AP, AV, AB, LS, check_book_ok, check_plan_ok h hp, cs, holds_at_ok h hp (show n ≤ 500 by omega), Bool.false_eq_true, if_false, exit_bl, List.take_length]
theorem law_run_ok {n : Nat} {w : Wo} (hw : RunW n w) (μ : Mu) : F__law_run [woD w] μ = .ok (rnD w) μ := by
  refine (fn_ret (g := B__law_run) ?_).trans (rn_exit _ μ)
  show sSeq _ _ [some (woD w)] μ = _
  cases w with
  | none => exact seq_ret rfl
  | some l =>
    have f1 : ∀ z, sIf (xTest (xOp isD (xVar 0) (xC .non))) z sNil [some (woD (some l))] μ = .next [some (woD (some l))] μ := fun z => by
      have es : ∀ m, isD (woD (some l)) .non m = .ok (.bl false) m := fun _ => rfl
      simp only [AP, AV, AB, LS, es, Bool.false_eq_true, if_false]
    rw [seq_next (f1 _)]
    have e0 : ∀ m, eqD (woD (some l)) (.tup []) m = .ok (.bl (decide (l = []))) m := fun m => by
      have := eq_wo (some l) (some []) m
      rw [show (decide (some l = some [])) = decide (l = []) by rw [Bool.eq_iff_iff]; simp] at this
      exact this
    obtain ⟨s, k, rfl, hk⟩ := hw l rfl
    have hneg : ∀ (r : Rho) (m : Mu), xNeg (xC (.int 1)) r m = .ok (.int (-1)) m := fun _ _ => rfl
    cases k with
    | zero =>
      simp only [AP, AV, AB, LS, e0, decide_true, if_true, List.range'_zero]
      rfl
    | succ k =>
      have hne : List.range' s (k + 1) ≠ [] := by rw [List.range'_succ]; exact List.cons_ne_nil _ _
      have i0 : ∀ m, ixD (woD (some (List.range' s (k + 1)))) (.int 0) m = .ok (nD s) m := fun m => by
        rw [List.range'_succ]
        exact IX.2.2.2.2.1
      have i1 : ∀ m, ixD (woD (some (List.range' s (k + 1)))) (.int (-1)) m = .ok (nD (s + k)) m := fun m => by
        rw [List.range'_concat, Nat.one_mul]
        exact at_last _ _ m
      have i3 : ∀ m, addD (nD (s + k)) (.int 1) m = .ok (nD (s + k + 1)) m := fun m => rfl
      simp only [AP, AV, AB, LS, e0, decide_eq_false hne, Bool.false_eq_true, if_false, hneg, i0, i1, i3, rnD_range]
/-! ### texts of levels -/
theorem num_shwX : ∀ k < 200, (PyData.int (k : Nat)).showable = true ∧ (PyData.int (k : Nat)).leavesShort 30 = true ∧ (PyData.int (k : Nat)).weight ≤ 40 := by decide +kernel
theorem nat_shw {k : Nat} (h : k < 200) : Shw (.int (k : Nat)) 0 40 := by
  have q := num_shwX k h
  exact ⟨q.1, Nat.le_refl _, rfl, q.2.1, q.2.2⟩
theorem rn_shw {n : Nat} (hn : n ≤ 100) {w : Wo} (hw : RunW n w) : Shw (rnP w) 1 82 := by
  cases w with
  | none => exact ⟨rfl, Nat.zero_le _, rfl, rfl, by decide⟩
  | some l =>
    obtain ⟨s, k, rfl, hk⟩ := hw l rfl
    have hb : (rn (List.range' s k)).1 < 200 ∧ (rn (List.range' s k)).2 < 200 := by
      cases k with
      | zero => exact ⟨show 0 < 200 by decide, show 0 < 200 by decide⟩
      | succ k => rw [rn_range]; exact ⟨by show s < 200; omega, by show s + k + 1 < 200; omega⟩
    exact Shw.tup (w := 82) (.cons (w := 40) (v := 41) (nat_shw hb.1) (.cons (w := 40) (v := 0) (nat_shw hb.2) .nil))
theorem toPs_rn : ∀ ws : List Wo, toPs (ws.map rnD) = some (ws.map rnP)
  | [] => rfl
  | w :: ws => by rw [List.map_cons, toPs, toP_rn, toPs_rn ws]; rfl
def tpP (ws : List Wo) : PyData := .tuple (ws.map rnP)
theorem toP_tp (ws : List Wo) : toP (tpD rnD ws) = some (tpP ws) := by
  show toP (.tup (ws.map rnD)) = _
  rw [toP, toPs_rn]
  rfl
theorem toPs_tp : ∀ ls : List (List Wo), toPs (ls.map (tpD rnD)) = some (ls.map tpP)
  | [] => rfl
  | w :: ws => by rw [List.map_cons, toPs, toP_tp, toPs_tp ws]; rfl
theorem toP_lv (sk : List Pl) (p : Pl) (n : Nat) : toP (lvD sk p n) = some (.tuple ((levs sk p.rounds n p.rounds.length).map tpP)) := by
  show toP (.tup _) = _
  rw [toP, toPs_tp]
  rfl
theorem lv_shw {sk : List Pl} {p : Pl} (hl : p.rounds.length ≤ 5) {n : Nat} (hn : n ≤ 100) : Shw (.tuple ((levs sk p.rounds n p.rounds.length).map tpP)) 3 50000 := by
  have h1 : ∀ q ∈ (levs sk p.rounds n p.rounds.length).map tpP, Shw q 2 8300 := fun q hq => by
    obtain ⟨ws, hws, rfl⟩ := List.mem_map.mp hq
    obtain ⟨i, _, rfl⟩ := List.mem_map.mp hws
    have := ShwL.all (ps := (lev sk p.rounds n i).map rnP) (k := 1) (w := 82) fun q hq => by
      obtain ⟨w, hw, rfl⟩ := List.mem_map.mp hq
      exact rn_shw hn (lev_run sk p.rounds n i w hw)
    rw [List.length_map, lev_len] at this
    have q := Shw.tup this
    exact ⟨q.sh, q.dp, q.nd, q.lv, Nat.le_trans q.wt (by omega)⟩
  have := ShwL.all h1
  rw [List.length_map, levs_len] at this
  have q := Shw.tup this
  exact ⟨q.sh, q.dp, q.nd, q.lv, Nat.le_trans q.wt (by omega)⟩
theorem repr_lv {sk : List Pl} {p : Pl} (hl : p.rounds.length ≤ 5) {n : Nat} (hn : n ≤ 100) : ∃ s, ∀ m, reprF [lvD sk p n] m = .ok (.str s) m :=
  ⟨_, fun m => repr_of (show toP (dere m (lvD sk p n)) = _ from toP_lv sk p n) (lv_shw hl hn) (by decide) (by decide)⟩
theorem repr_bb (b : Bool) : ∃ s, ∀ m, reprF [.lst [.bl b, .bl b]] m = .ok (.str s) m := by
  cases b
  · exact ⟨_, fun m => repr_of (p := .list [.bool false, .bool false]) (k := 1) (w := 1000) rfl ⟨rfl, by decide, rfl, by decide +kernel, by decide +kernel⟩ (by decide) (by decide)⟩
  · exact ⟨_, fun m => repr_of (p := .list [.bool true, .bool true]) (k := 1) (w := 1000) rfl ⟨rfl, by decide, rfl, by decide +kernel, by decide +kernel⟩ (by decide) (by decide)⟩
theorem rn_lay (w : Wo) : (rnP w).canLay0 = true := by cases w <;> rfl
theorem rns_lay : ∀ ws : List Wo, PyData.canLayAll0 (ws.map rnP) = true
  | [] => rfl
  | w :: ws => by rw [List.map_cons, PyData.canLayAll0, rn_lay, rns_lay ws]; rfl
theorem tps_lay : ∀ ls : List (List Wo), PyData.canLayAll0 (ls.map tpP) = true
  | [] => rfl
  | w :: ws => by
    rw [List.map_cons, PyData.canLayAll0, tps_lay ws]
    show ((PyData.tuple (w.map rnP)).canLay0 && true) = true
    rw [PyData.canLay0, rns_lay]
    rfl
theorem ne_lv {sk : List Pl} {p : Pl} (hl : p.rounds.length ≤ 5) {n : Nat} (hn : n ≤ 100) (m : Mu) : neD (lvD sk p n) (lvD sk p n) m = .ok (.bl false) m := by
  have hs : SeqAt.shaped (.tuple ((levs sk p.rounds n p.rounds.length).map tpP)) = true := by
    unfold SeqAt.shaped
    rw [PyData.canLay0, tps_lay, decide_eq_true (Nat.le_trans (lv_shw hl hn).dp (by decide))]
    rfl
  have e : eqB m (lvD sk p n) (lvD sk p n) = some true := by
    unfold eqB
    rw [show toP (dere m (lvD sk p n)) = _ from toP_lv sk p n]
    simp only [hs, Bool.and_true, if_true]
    rw [SeqAt.eqv_refl _ (by rw [PyData.canLay0, tps_lay])]
  show (match eqB m (lvD sk p n) (lvD sk p n) with
    | some b => Out.ok (D.bl (!b)) m
    | none => .stuck) = _
  rw [e]
  rfl
end J

namespace J
open PySem PySem.Spec PyProof.Rows L2 DS
/-! ### the text of a book -/
def plHead (p : Pl) : Str := Str.empty ++ ("plan " : Str) ++ nmS p.nm ++ (" " : Str) ++ p.goal.text ++ (" base " : Str) ++ ((toString (p.base : Int) : String) : Str)
def plText (p : Pl) : Str := Txt.join "\n" (plHead p :: p.rounds.map rText)
def bkText (sk : List Pl) : Str := Txt.join "\n" (sk.map plText)
theorem dig_len : ∀ b : Nat, b < 5 → (((toString ((b : Nat) : Int) : String) : Str)).length ≤ 8 := by decide +kernel
theorem goal_len {g : Gl} (h : g.Ok) : g.text.length ≤ 20 := by
  cases g with
  | all => decide +kernel
  | before => decide +kernel
  | last n =>
    have q : ∀ n < 5, (Gl.text (.last n)).length ≤ 20 := by decide +kernel
    exact q n (by have := h.2; omega)
structure HdLen (p : Pl) : Prop where
  a : (Str.empty ++ ("plan " : Str)).length ≤ 5
  b : (nmS p.nm).length ≤ 8
  c : p.goal.text.length ≤ 20
  d : (" " : Str).length = 1
  e : (" base " : Str).length = 6
  f : (((toString (p.base : Int) : String) : Str)).length ≤ 8
theorem hd_len {p : Pl} (h : p.Ok) : HdLen p := ⟨by decide +kernel, (nm_chk p.nm h.nm).2, goal_len h.goal, by decide +kernel, by decide +kernel, dig_len p.base (by have := h.base; omega)⟩
theorem plHead_len {p : Pl} (h : p.Ok) : (plHead p).length ≤ 60 := by
  have q := hd_len h
  have q1 := q.a
  have q2 := q.b
  have q3 := q.c
  have q4 := q.d
  have q5 := q.e
  have q6 := q.f
  unfold plHead
  rw [Str.length_append, Str.length_append, Str.length_append, Str.length_append, Str.length_append]
  omega
theorem sizeL : 1000 ≤ sizeLine := by decide
theorem head_ok {p : Pl} (h : p.Ok) {ρ : Rho} {m : Mu} (h1 : ρ[1]? = some (some (.str (nmS p.nm)))) (h2 : ρ[2]? = some (some (.str p.goal.text))) (h3 : ρ[3]? = some (some (.int (p.base : Nat)))) :
    xJoin (xjCons (xC (.str "plan ")) (xjCons (xFmt (xVar 1)) (xjCons (xC (.str " ")) (xjCons (xFmt (xVar 2)) (xjCons (xC (.str " base ")) (xjCons (xFmt (xVar 3)) xjNil)))))) ρ m = .ok (.str (plHead p)) m := by
  have q := hd_len h
  have q1 := q.a
  have q2 := q.b
  have q3 := q.c
  have q4 := q.d
  have q5 := q.e
  have q6 := q.f
  have hb := h.base
  have sz := sizeL
  have x0 : ∀ (g : XJ) (r : Rho) (m : Mu), xJoin g r m = (g Str.empty r m).bind fun z m1 => .ok (.str z) m1 := fun _ _ _ => rfl
  have x1 : ∀ (f : XE') (g : XJ) (acc : Str) (r : Rho) (m : Mu), xjCons f g acc r m = (f r m).bind fun d m1 => (match d with
    | .str y => if (acc ++ y).length ≤ sizeLine then g (acc ++ y) r m1 else .stuck
    | _ => .stuck) := fun _ _ _ _ _ => rfl
  have x2 : ∀ (f : XE') (r : Rho) (m : Mu), xFmt f r m = (f r m).bind fmtD := fun _ _ _ => rfl
  have x3 : ∀ (acc : Str) (r : Rho) (m : Mu), xjNil acc r m = .ok acc m := fun _ _ _ => rfl
  have f1 : ∀ m, fmtD (.str (nmS p.nm)) m = .ok (.str (nmS p.nm)) m := fun m => if_pos (by omega)
  have f2 : ∀ m, fmtD (.str p.goal.text) m = .ok (.str p.goal.text) m := fun m => if_pos (by omega)
  have f3 : ∀ m, fmtD (.int (p.base : Nat)) m = .ok (.str ((toString (p.base : Int) : String) : Str)) m := fun m => if_pos (by
    show ((p.base : Int)).natAbs.log2 < 1920
    have : ∀ b : Nat, b < 5 → (((b : Nat) : Int)).natAbs.log2 < 1920 := by decide +kernel
    exact this p.base (by omega))
  have l1 : (Str.empty ++ ("plan " : Str)).length ≤ sizeLine := by omega
  have l2 : (Str.empty ++ ("plan " : Str) ++ nmS p.nm).length ≤ sizeLine := by rw [Str.length_append]; omega
  have l3 : (Str.empty ++ ("plan " : Str) ++ nmS p.nm ++ (" " : Str)).length ≤ sizeLine := by rw [Str.length_append, Str.length_append]; omega
  have l4 : (Str.empty ++ ("plan " : Str) ++ nmS p.nm ++ (" " : Str) ++ p.goal.text).length ≤ sizeLine := by rw [Str.length_append, Str.length_append, Str.length_append]; omega
  have l5 : (Str.empty ++ ("plan " : Str) ++ nmS p.nm ++ (" " : Str) ++ p.goal.text ++ (" base " : Str)).length ≤ sizeLine := by rw [Str.length_append, Str.length_append, Str.length_append, Str.length_append]; omega
  have l6 : (Str.empty ++ ("plan " : Str) ++ nmS p.nm ++ (" " : Str) ++ p.goal.text ++ (" base " : Str) ++ ((toString (p.base : Int) : String) : Str)).length ≤ sizeLine := by rw [Str.length_append, Str.length_append, Str.length_append, Str.length_append, Str.length_append]; omega
  simp only [x0, x1, x2, x3, AP, AV, h1, h2, h3, AB, f1, f2, f3, l1, l2, l3, l4, l5, l6, if_true]
  rfl
theorem strs_map2 (l : List Str) : strsL (l.map .str) = some l := strs_map l
theorem text_of_ok {p : Pl} (h : p.Ok) (μ : Mu) : F_text_of [p.parts] μ = .ok (.str (plText p)) μ := by
  refine (fn_ret (g := B_text_of) ?_).trans (show exitD μ.length (.str (plText p)) μ = .ok (.str (plText p)) μ by rw [exit_in rfl, List.take_length])
  have f1 : sAsg (xVar 0) (gTp 4 (gsCons (gNm 1) (gsCons (gNm 2) (gsCons (gNm 3) (gsCons (gNm 4) gsNil))))) [some p.parts, none, none, none, none] μ = .next [some p.parts, some (.str (nmS p.nm)), some (.str p.goal.text), some (.int (p.base : Nat)), some (.tup (p.rounds.map fun r => .str (rText r)))] μ := rfl
  show sSeq _ _ [some p.parts, none, none, none, none] μ = _
  rw [seq_next f1]
  have hj := head_ok h (ρ := [some p.parts, some (.str (nmS p.nm)), some (.str p.goal.text), some (.int (p.base : Nat)), some (.tup (p.rounds.map fun r => .str (rText r)))]) (m := μ) rfl rfl rfl
  have hl5 := h.len
  have hst : xaStar (xVar 4) xaNil [some p.parts, some (.str (nmS p.nm)), some (.str p.goal.text), some (.int (p.base : Nat)), some (.tup (p.rounds.map fun r => .str (rText r)))] μ = .ok (p.rounds.map fun r => .str (rText r)) μ := by
    show (Out.ok ((p.rounds.map fun r => D.str (rText r)) ++ []) μ) = _
    rw [List.append_nil]
  have hls : xLstS (xaCons (xJoin (xjCons (xC (.str "plan ")) (xjCons (xFmt (xVar 1)) (xjCons (xC (.str " ")) (xjCons (xFmt (xVar 2)) (xjCons (xC (.str " base ")) (xjCons (xFmt (xVar 3)) xjNil))))))) (xaStar (xVar 4) xaNil)) [some p.parts, some (.str (nmS p.nm)), some (.str p.goal.text), some (.int (p.base : Nat)), some (.tup (p.rounds.map fun r => .str (rText r)))] μ = .ok (.lst ((plHead p :: p.rounds.map rText).map .str)) μ := by
    show Out.bind (Out.bind (xJoin _ _ _) _) _ = _
    rw [hj]
    simp only [AB, hst]
    rw [if_pos (by rw [List.length_cons, List.length_map]; unfold sizeLine; omega), List.map_cons, List.map_map]
    rfl
  have hsum : ((plHead p :: p.rounds.map rText).map (·.length)).sum ≤ 60 + 200 * p.rounds.length := by
    rw [List.map_cons, List.sum_cons]
    have h1 := plHead_len h
    have h2 : ∀ rs : List (List Cl), (∀ r ∈ rs, ROk r) → ((rs.map rText).map (·.length)).sum ≤ 200 * rs.length := fun rs => by
      induction rs with
      | nil => intro _; simp
      | cons r rs ih =>
        intro hr
        have := rText_len (hr r (List.mem_cons_self ..))
        have := ih fun z hz => hr z (List.mem_cons_of_mem _ hz)
        simp only [List.map_cons, List.sum_cons, List.length_cons]
        omega
    have := h2 p.rounds h.ok
    omega
  have hn : ("\n" : Str).length = 1 := by decide +kernel
  have jf : ∀ m, joinF [.str "\n", .lst ((plHead p :: p.rounds.map rText).map .str)] m = .ok (.str (plText p)) m := fun m => by
    unfold joinF
    simp only [seqOf, lstOf, strs_map]
    rw [if_pos (by rw [hn, List.length_cons, List.length_map]; omega)]
    rfl
  have ty : ∀ m, tyD "str" m (.str "\n") = true := fun _ => rfl
  show Out.stm _ (Out.bind (xC _ _ _) _) _ = _
  simp only [AP, AB, ty, if_true]
  show Out.stm _ (Out.bind (Out.bind (xLstS _ _ _) _) _) _ = _
  rw [hls]
  simp only [AB, jf]
theorem plText_len {p : Pl} (h : p.Ok) : (plText p).length ≤ 1500 := by
  have hsum : ((plHead p :: p.rounds.map rText).map (·.length)).sum ≤ 60 + 200 * p.rounds.length := by
    rw [List.map_cons, List.sum_cons]
    have h1 := plHead_len h
    have h2 : ∀ rs : List (List Cl), (∀ r ∈ rs, ROk r) → ((rs.map rText).map (·.length)).sum ≤ 200 * rs.length := fun rs => by
      induction rs with
      | nil => intro _; simp
      | cons r rs ih =>
        intro hr
        have := rText_len (hr r (List.mem_cons_self ..))
        have := ih fun z hz => hr z (List.mem_cons_of_mem _ hz)
        simp only [List.map_cons, List.sum_cons, List.length_cons]
        omega
    have := h2 p.rounds h.ok
    omega
  have h1 := join_len "\n" (plHead p :: p.rounds.map rText)
  have hn : ("\n" : Str).length = 1 := by decide +kernel
  rw [hn, List.length_cons, List.length_map] at h1
  have := h.len
  show (Txt.join "\n" (plHead p :: p.rounds.map rText)).length ≤ 1500
  omega
theorem str_book_ok {sk : List Pl} (h : SOk sk) (μ : Mu) : strO "Book" F_Book_D_strD_ [bookD sk] μ = .ok (.str (bkText sk)) μ := by
  have hl4 := h.len
  have lc : lcD (gNm 1) xYes (xCall F_text_of (xaCons (xVar 1) xaNil)) [some (bookD sk), none] (sk.map Pl.parts) μ = .ok (.lst ((sk.map plText).map .str)) μ := by
    rw [List.map_map]
    refine lc_map _ _ (fun p hp acc => ?_) (fun _ _ => rfl) (by unfold sizeLine; omega)
    simp only [AP, AV, AB, LS, text_of_ok (h.ok p hp)]
    rfl
  have hsum : ∀ ps : List Pl, (∀ p ∈ ps, p.Ok) → ((ps.map plText).map (·.length)).sum ≤ 1500 * ps.length := fun ps => by
    induction ps with
    | nil => intro _; simp
    | cons r rs ih =>
      intro hr
      have := plText_len (hr r (List.mem_cons_self ..))
      have := ih fun z hz => hr z (List.mem_cons_of_mem _ hz)
      simp only [List.map_cons, List.sum_cons, List.length_cons]
      omega
  have hs := hsum sk h.ok
  have hn : ("\n" : Str).length = 1 := by decide +kernel
  have jf : ∀ m, joinF [.str "\n", .lst ((sk.map plText).map .str)] m = .ok (.str (bkText sk)) m := fun m => by
    unfold joinF
    simp only [seqOf, lstOf, strs_map]
    rw [if_pos (by rw [hn, List.length_map]; omega)]
    rfl
  have ty : ∀ m, tyD "str" m (.str "\n") = true := fun _ => rfl
  have hf : ∀ m, fldD "Book" "held" (bookD sk) m = .ok (.tup (sk.map Pl.parts)) m := fun _ => rfl
  have e : F_Book_D_strD_ [bookD sk] μ = .ok (.str (bkText sk)) μ := by
    simp only [F_Book_D_strD_, B_Book_D_strD_, fn_ap, rho0, List.map, List.replicate, List.length, Nat.reduceSub, Nat.reduceAdd, List.cons_append, List.nil_append, AP, AV, AB, LS, ty, if_true, hf, wipeR, lc, jf, Bool.false_eq_true, if_false]
    rw [exit_in rfl, List.take_length]
  have hi : insOf μ (bookD sk) = some ((("Book" : Str), [(("held" : Str), heldD sk), (("parsed" : Str), D.dct (sk.map fun p => (nmS p.nm, p.prog)))]) : Str × List (Str × D)) := rfl
  unfold strO
  simp only [hi, if_true]
  rw [e]
end J

namespace J
open PySem PySem.Spec PyProof.Rows L2 DS
/-! ### one length -/
theorem law_due_lv {sk : List Pl} (h : SOk sk) {p : Pl} (hp : p ∈ sk) {n : Nat} (hn : n ≤ 100) (x : Option D) (μ : Mu) :
    sAsg (xCall tupF (xaCons (xLc (xiSeq (xCall F__law_level (xaCons (xVar 0) (xaCons (xVar 2) (xaCons (xVar 3) xaNil))))) [6] (gNm 6) xYes (xCall tupF (xaCons (xLc (xiSeq (xVar 6)) [7] (gNm 7) xYes (xCall F__law_run (xaCons (xVar 7) xaNil))) xaNil))) xaNil)) (gNm 4) [some (skD sk), some (bookD sk), some p.dat, some (.int (n : Nat)), none, none, none, none] μ = .next [some (skD sk), some (bookD sk), some p.dat, some (.int (n : Nat)), some (lvD sk p n), none, none, none] μ := by
  have hl5 := (h.ok p hp).len
  have inner : ∀ (ws : List Wo), (∀ w ∈ ws, RunW n w) → ws.length ≤ 1000 → ∀ (ρ : Rho) (m : Mu), 7 < ρ.length → lcD (gNm 7) xYes (xCall F__law_run (xaCons (xVar 7) xaNil)) ρ (ws.map woD) m = .ok (.lst (ws.map rnD)) m := fun ws hw hl ρ m h7 => by
    refine lc_map _ _ (fun w hm acc => ?_) (fun w _ => rnD_in _ _) (by unfold sizeLine; omega)
    simp only [AP, AV, AB, List.getElem?_set_self h7, law_run_ok (hw w hm)]
  have lc : lcD (gNm 6) xYes (xCall tupF (xaCons (xLc (xiSeq (xVar 6)) [7] (gNm 7) xYes (xCall F__law_run (xaCons (xVar 7) xaNil))) xaNil)) [some (skD sk), some (bookD sk), some p.dat, some (.int (n : Nat)), none, none, none, none] ((levs sk p.rounds n p.rounds.length).map (lsD woD)) μ = .ok (.lst ((levs sk p.rounds n p.rounds.length).map (tpD rnD))) μ := by
    refine lc_map _ _ (fun ws hws acc => ?_) (fun ws _ => tpD_in rnD_in _ _) (by rw [levs_len]; unfold sizeLine; omega)
    obtain ⟨i, _, rfl⟩ := List.mem_map.mp hws
    have sq : ∀ m, seqD (lsD woD (lev sk p.rounds n i)) m = .ok ((lev sk p.rounds n i).map woD) m := fun _ => rfl
    have tf : ∀ m, tupF [.lst ((lev sk p.rounds n i).map rnD)] m = .ok (tpD rnD (lev sk p.rounds n i)) m := fun _ => rfl
    have inn := fun ρ m h7 => inner (lev sk p.rounds n i) (lev_run sk p.rounds n i) (by rw [lev_len]; omega) ρ m h7
    have inn' := inn [some (skD sk), some (bookD sk), some p.dat, some (.int (n : Nat)), none, none, some (lsD woD (lev sk p.rounds n i)), none] (μ ++ [.lst acc]) (show 7 < 8 by decide)
    simp only [AP, AV, AB, LS, sq, wipeR, inn', tf]
  have tf : ∀ m, tupF [.lst ((levs sk p.rounds n p.rounds.length).map (tpD rnD))] m = .ok (lvD sk p n) m := fun _ => rfl
  simp only [AP, AV, AB, LS, law_level_ok h hp (show n ≤ 500 by omega), wipeR, lc, tf]
theorem size_right_ok {sk : List Pl} (h : SOk sk) {p : Pl} (hp : p ∈ sk) {n : Nat} (h1 : 1 ≤ n) (hn : n ≤ 100) (μ : Mu) : F__law_size_right [skD sk, bookD sk, p.dat, .int (n : Nat)] μ = .ok (.bl true) μ := by
  have hl5 := (h.ok p hp).len
  obtain ⟨s, hs⟩ := repr_lv (sk := sk) hl5 hn
  obtain ⟨s2, hs2⟩ := repr_bb (hld sk p n)
  have hi0 : ∀ m, ixD p.dat (.int 0) m = .ok (nmD p.nm) m := fun m => IX.1
  have hi2 : ∀ m, ixD p.dat (.int 2) m = .ok (.int (p.base : Nat)) m := fun m => IX.2.2.1
  refine (fn_ret (g := B__law_size_right) ?_).trans (show exitD μ.length (.bl true) μ = .ok (.bl true) μ by rw [exit_bl, List.take_length])
  show sSeq _ (sSeq _ (sSeq _ (sRet _))) [some (skD sk), some (bookD sk), some p.dat, some (.int (n : Nat)), none, none, none, none] μ = _
  rw [seq_next (law_due_lv h hp hn none μ)]
  have f2 : ∀ z, sIf (xTest (xOp neD (xCall reprF (xaCons (xCall F_level (xaCons (xVar 1) (xaCons (xOp ixD (xVar 2) (xC (.int 0))) (xaCons (xVar 3) xaNil)))) xaNil)) (xCall reprF (xaCons (xVar 4) xaNil)))) z sNil [some (skD sk), some (bookD sk), some p.dat, some (.int (n : Nat)), some (lvD sk p n), none, none, none] μ = .next [some (skD sk), some (bookD sk), some p.dat, some (.int (n : Nat)), some (lvD sk p n), none, none, none] μ := fun z => by
    simp only [AP, AV, AB, LS, hi0, level_ok h hp h1 hn, hs, EQ, beq_self_eq_true, Bool.not_true, Bool.false_eq_true, if_false]
  rw [seq_next (f2 _)]
  have en : ∀ m, eqD (.lst ((wrongs sk p n).map nD)) (.lst []) m = .ok (.bl (wrongs sk p n).isEmpty) m := fun m => by
    rw [ints_nD, eq_nil', List.isEmpty_map]
  have f3 : sAsg (xOr (xOp leD (xVar 3) (xOp ixD (xVar 2) (xC (.int 2)))) (xOp eqD (xCall F__law_faults (xaCons (xVar 0) (xaCons (xVar 2) (xaCons (xVar 3) xaNil)))) (xLst xaNil))) (gNm 5) [some (skD sk), some (bookD sk), some p.dat, some (.int (n : Nat)), some (lvD sk p n), none, none, none] μ = .next [some (skD sk), some (bookD sk), some p.dat, some (.int (n : Nat)), some (lvD sk p n), some (.bl (hld sk p n)), none, none] μ := by
    simp only [AP, AV, AB, LS, hi2, OI]
    unfold hld
    by_cases hb : n ≤ p.base
    · simp only [decide_eq_true hb, decide_eq_true (show ((n : Nat) : Int) ≤ (p.base : Nat) by omega), if_true, Bool.true_or, AB, LS]
    · simp only [decide_eq_false hb, decide_eq_false (show ¬ ((n : Nat) : Int) ≤ (p.base : Nat) by omega), Bool.false_eq_true, if_false, Bool.false_or, AB, law_faults_ok h hp (show n ≤ 500 by omega), en, LS]
  rw [seq_next f3]
  have hK : ∀ (r : Rho) (m : Mu), xCallK F_holds sh_210 (xaCons (xVar 3) (xaCons (xOp ixD (xVar 2) (xC (.int 0))) (xaCons (xVar 1) xaNil))) r m = (xaCons (xVar 3) (xaCons (xOp ixD (xVar 2) (xC (.int 0))) (xaCons (xVar 1) xaNil)) r m).bind fun zs m2 => F_holds (sh_210 zs) m2 := fun _ _ => rfl
  have hsh : ∀ a b c : D, sh_210 [a, b, c] = [c, b, a] := fun _ _ _ => rfl
  simp only [hK, AP, AV, AB, LS, hi0, holds_ok h hp h1 hn, hsh, hs2, EQ, beq_self_eq_true]
/-! ### the law -/
theorem right_ok {n : Nat} {μ : Mu} (h : Cup n μ) : ∃ μ', F__law_right [.loc n] μ = .ok (.bl true) μ' ∧ Sip n μ μ' := by
  obtain ⟨q, μ1, e1, hq, s1⟩ := sip_ok (top := 4) h (by decide) (by decide)
  change F__law_sip [.loc n, .int 4] μ = _ at e1
  obtain ⟨sk, μ2, e2, hok, hlen, s2⟩ := sketch_ok (span := 1 + q) (most := 5) (s1.cup h) (by omega) (by omega) (by decide) (by decide)
  rw [show ((1 + q : Nat) : Int) = 1 + (q : Int) by omega] at e2
  change F__law_sketch [.loc n, .int (1 + (q : Int)), .int 5] μ1 = _ at e2
  have s := s1.trans s2
  obtain ⟨f, μ3, e3, hf, s3⟩ := sip_ok (top := 18) (s.cup h) (by decide) (by decide)
  change F__law_sip [.loc n, .int 18] μ2 = _ at e3
  have hl4 := hok.len
  refine ⟨μ3, ?_, s.trans s3⟩
  refine (fn_ret (g := B__law_right) ?_).trans (show exitD μ.length (.bl true) μ3 = .ok (.bl true) μ3 by rw [exit_bl, (s.trans s3).take rfl])
  show sSeq _ (sSeq _ (sSeq _ (sSeq _ (sRet _)))) [some (.loc n), none, none, none, none, none, none] μ = _
  have f1 : sAsg (xCall F__law_sketch (xaCons (xVar 0) (xaCons (xOp addD (xC (.int 1)) (xCall F__law_sip (xaCons (xVar 0) (xaCons (xC (.int 4)) xaNil)))) (xaCons (xC (.int 5)) xaNil)))) (gNm 1) [some (.loc n), none, none, none, none, none, none] μ = .next [some (.loc n), some (skD sk), none, none, none, none, none] μ2 := by
    simp only [AP, AV, AB, LS, e1, OI, e2]
  have f2 : sPar 2 3 (xaCons (xCall F__law_vol (xaCons (xVar 1) xaNil)) (xaCons (xOp addD (xC (.int 13)) (xCall F__law_sip (xaCons (xVar 0) (xaCons (xC (.int 18)) xaNil)))) xaNil)) [some (.loc n), some (skD sk), none, none, none, none, none] μ2 = .next [some (.loc n), some (skD sk), some (bookD sk), some (.int (13 + (f : Int))), none, none, none] μ3 := by
    simp only [PAR, AP, AV, AB, LS, vol_ok hok, e3, OI]
  have f3 : sAsg (xCall (strO "Book" F_Book_D_strD_) (xaCons (xVar 2) xaNil)) (gNm 4) [some (.loc n), some (skD sk), some (bookD sk), some (.int (13 + (f : Int))), none, none, none] μ3 = .next [some (.loc n), some (skD sk), some (bookD sk), some (.int (13 + (f : Int))), some (.str (bkText sk)), none, none] μ3 := by
    simp only [AP, AV, AB, LS, str_book_ok hok]
  rw [seq_next f1, seq_next f2, seq_next f3]
  have cat : ∀ m, xOp addD (xLstR (xiRng2 (xaCons (xC (.int 1)) (xaCons (xC (.int 13)) xaNil)))) (xLst (xaCons (xVar 3) xaNil)) [some (.loc n), some (skD sk), some (bookD sk), some (.int (13 + (f : Int))), some (.str (bkText sk)), none, none] m = .ok (.lst (((List.range 12).map fun k => nD (1 + k)) ++ [nD (13 + f)])) m := fun m => by
    have fz : ∀ m, frzL ((List.range 12).map fun k => nD (1 + k)) m = .ok (.lst ((List.range 12).map fun k => nD (1 + k))) m := fun m => by
      unfold frzL
      rw [if_pos (by rw [List.length_map, List.length_range]; omega)]
    have r2 : ∀ m, rngD2 [.int 1, .int 13] m = .ok ((List.range 12).map fun k => nD (1 + k)) m := fun m => by
      unfold rngD2
      simp only
      rw [if_pos (by omega)]
      rfl
    have x1 : ∀ (f : XA) (r : Rho) (m : Mu), xLstR f r m = (f r m).bind frzL := fun _ _ _ => rfl
    have ef : D.int (13 + (f : Int)) = nD (13 + f) := by
      show _ = D.int ((13 + f : Nat) : Int)
      congr 1
    simp only [AP, x1, AB, AV, LS, r2, fz, ef]
    rw [catX_ok (by rw [List.length_map, List.length_range]; simp)]
  have lv2 : ∀ p ∈ sk, ∀ m, F_level [bookD sk, nmD p.nm, .int 2] m = .ok (lvD sk p 2) m := fun p hp m => level_ok hok hp (n := 2) (by decide) (by decide) m
  obtain ⟨r', l1, a, b, rfl⟩ := loop_keep (g := gNm 5) (μ := μ3) (body := (sSeq (sFor (xiSeq (xOp addD (xLstR (xiRng2 (xaCons (xC (.int 1)) (xaCons (xC (.int 13)) xaNil)))) (xLst (xaCons (xVar 3) xaNil)))) (gNm 6)
  (sIf (xNotT (xTest (xCall F__law_size_right (xaCons (xVar 1) (xaCons (xVar 2) (xaCons (xVar 5) (xaCons (xVar 6) xaNil))))))) (sRet (xC (.bl false))) sNil))
  (sIf (xTest (xOp neD (xCallK F_level sh_120 (xaCons (xC (.int 2)) (xaCons (xVar 2) (xaCons (xOp ixD (xVar 5) (xC (.int 0))) xaNil)))) (xCall F_level (xaCons (xVar 2) (xaCons (xOp ixD (xVar 5) (xC (.int 0))) (xaCons (xC (.int 2)) xaNil)))))) (sRet (xC (.bl false))) sNil))) (xs := sk.map Pl.dat) (r := [some (.loc n), some (skD sk), some (bookD sk), some (.int (13 + (f : Int))), some (.str (bkText sk)), none, none]) (fun r' => ∃ a b, r' = [some (.loc n), some (skD sk), some (bookD sk), some (.int (13 + (f : Int))), some (.str (bkText sk)), a, b]) ⟨none, none, rfl⟩ fun x hx ρ hρ => by
    obtain ⟨a, b, rfl⟩ := hρ
    obtain ⟨p, hp, rfl⟩ := List.mem_map.mp hx
    have hl5 := (hok.ok p hp).len
    obtain ⟨r2, l2, y, rfl⟩ := loop_keep (g := gNm 6) (μ := μ3) (body := (sIf (xNotT (xTest (xCall F__law_size_right (xaCons (xVar 1) (xaCons (xVar 2) (xaCons (xVar 5) (xaCons (xVar 6) xaNil))))))) (sRet (xC (.bl false))) sNil)) (xs := ((List.range 12).map fun k => nD (1 + k)) ++ [nD (13 + f)]) (r := [some (.loc n), some (skD sk), some (bookD sk), some (.int (13 + (f : Int))), some (.str (bkText sk)), some p.dat, b]) (fun r' => ∃ y, r' = [some (.loc n), some (skD sk), some (bookD sk), some (.int (13 + (f : Int))), some (.str (bkText sk)), some p.dat, y]) ⟨b, rfl⟩ fun x hx ρ hρ => by
      obtain ⟨y, rfl⟩ := hρ
      obtain ⟨k, hk1, hk2, rfl⟩ : ∃ k : Nat, 1 ≤ k ∧ k ≤ 100 ∧ x = nD k := by
        rcases List.mem_append.mp hx with hx | hx
        · obtain ⟨k, hk, rfl⟩ := List.mem_map.mp hx
          have := List.mem_range.mp hk
          exact ⟨1 + k, by omega, by omega, rfl⟩
        · rw [List.mem_singleton] at hx
          exact ⟨13 + f, by omega, by omega, hx⟩
      refine ⟨[some (.loc n), some (skD sk), some (bookD sk), some (.int (13 + (f : Int))), some (.str (bkText sk)), some p.dat, some (nD k)], [some (.loc n), some (skD sk), some (bookD sk), some (.int (13 + (f : Int))), some (.str (bkText sk)), some p.dat, some (nD k)], by simp only [AP, LS], ?_, ⟨_, rfl⟩⟩
      have sr : ∀ m, F__law_size_right [skD sk, bookD sk, p.dat, nD k] m = .ok (.bl true) m := fun m => size_right_ok hok hp hk1 hk2 m
      simp only [AP, AV, AB, LS, sr, Bool.not_true, Bool.false_eq_true, if_false]
    refine ⟨[some (.loc n), some (skD sk), some (bookD sk), some (.int (13 + (f : Int))), some (.str (bkText sk)), some p.dat, b], [some (.loc n), some (skD sk), some (bookD sk), some (.int (13 + (f : Int))), some (.str (bkText sk)), some p.dat, y], by simp only [AP, LS], ?_, ⟨_, _, rfl⟩⟩
    have it : xiSeq (xOp addD (xLstR (xiRng2 (xaCons (xC (.int 1)) (xaCons (xC (.int 13)) xaNil)))) (xLst (xaCons (xVar 3) xaNil))) [some (.loc n), some (skD sk), some (bookD sk), some (.int (13 + (f : Int))), some (.str (bkText sk)), some p.dat, b] μ3 = .ok (((List.range 12).map fun k => nD (1 + k)) ++ [nD (13 + f)]) μ3 := by
      show Out.bind (xOp _ _ _ _ _) _ = _
      have := cat μ3
      rw [show xOp addD (xLstR (xiRng2 (xaCons (xC (.int 1)) (xaCons (xC (.int 13)) xaNil)))) (xLst (xaCons (xVar 3) xaNil)) [some (.loc n), some (skD sk), some (bookD sk), some (.int (13 + (f : Int))), some (.str (bkText sk)), some p.dat, b] μ3 = xOp addD (xLstR (xiRng2 (xaCons (xC (.int 1)) (xaCons (xC (.int 13)) xaNil)))) (xLst (xaCons (xVar 3) xaNil)) [some (.loc n), some (skD sk), some (bookD sk), some (.int (13 + (f : Int))), some (.str (bkText sk)), none, none] μ3 from rfl, this]
      rfl
    have g1 : ∀ z, sFor (xiSeq (xOp addD (xLstR (xiRng2 (xaCons (xC (.int 1)) (xaCons (xC (.int 13)) xaNil)))) (xLst (xaCons (xVar 3) xaNil)))) (gNm 6) z [some (.loc n), some (skD sk), some (bookD sk), some (.int (13 + (f : Int))), some (.str (bkText sk)), some p.dat, b] μ3 = loopF (gNm 6) z (((List.range 12).map fun k => nD (1 + k)) ++ [nD (13 + f)]) [some (.loc n), some (skD sk), some (bookD sk), some (.int (13 + (f : Int))), some (.str (bkText sk)), some p.dat, b] μ3 := fun z => by
      show Out.stm _ (xiSeq _ _ _) _ = _
      rw [it]
      rfl
    rw [seq_next ((g1 _).trans l2)]
    have hi0 : ∀ m, ixD p.dat (.int 0) m = .ok (nmD p.nm) m := fun m => IX.1
    have hK : ∀ (r : Rho) (m : Mu), xCallK F_level sh_120 (xaCons (xC (.int 2)) (xaCons (xVar 2) (xaCons (xOp ixD (xVar 5) (xC (.int 0))) xaNil))) r m = (xaCons (xC (.int 2)) (xaCons (xVar 2) (xaCons (xOp ixD (xVar 5) (xC (.int 0))) xaNil)) r m).bind fun zs m2 => F_level (sh_120 zs) m2 := fun _ _ => rfl
    have hsh : ∀ a b c : D, sh_120 [a, b, c] = [b, c, a] := fun _ _ _ => rfl
    simp only [hK, AP, AV, AB, LS, hi0, hsh, lv2 p hp, ne_lv hl5 (show 2 ≤ 100 by decide), Bool.false_eq_true, if_false]
  have g2 : ∀ z, sFor (xiSeq (xVar 1)) (gNm 5) z [some (.loc n), some (skD sk), some (bookD sk), some (.int (13 + (f : Int))), some (.str (bkText sk)), none, none] μ3 = loopF (gNm 5) z (sk.map Pl.dat) [some (.loc n), some (skD sk), some (bookD sk), some (.int (13 + (f : Int))), some (.str (bkText sk)), none, none] μ3 := fun z => rfl
  rw [seq_next ((g2 _).trans l1)]
  simp only [AP, AV, AB, LS, str_book_ok hok, EQ, beq_self_eq_true]
theorem law_true (ns : List Int) (hl : ns.length ≤ 63) : ∃ m', F_law [.fix (ns.map .int)] [] = .ok (.bl true) m' := by
  have hmn : ∀ m, minF [.int (ns.length : Nat), .int 4] m = .ok (.int ((min ns.length 4 : Nat) : Int)) m := fun m => min_ok ns.length 4 m
  have hmx : ∀ m, maxF [.int 2, .int ((min ns.length 4 : Nat) : Int)] m = .ok (.int ((max 2 (min ns.length 4) : Nat) : Int)) m := fun m => max_ok 2 (min ns.length 4) m
  have lp := turns_ok (te := xCall F__law_right (xaCons (xCall F__law_cup (xaCons (xVar 0) (xaCons (xVar 1) xaNil))) xaNil)) ns hl (max 2 (min ns.length 4)) (by omega) F__law_right (fun _ _ => rfl) (fun n μ h => right_ok h)
  refine ⟨[], ?_⟩
  simp only [F_law, B_law, fn_ap, rho0, List.map, List.replicate, List.length, Nat.reduceSub, Nat.reduceAdd, List.cons_append, List.nil_append, AP, AV, AB, LS, wipeR, len_fix, hmn, hmx, rng1_ok (show max 2 (min ns.length 4) < 2 ^ 62 by omega), lp, allT_ok, Bool.false_eq_true, if_false, exit_bl, List.take_nil]
end J

namespace J
open PySem PySem.Spec PyProof.Rows L2 DS
def topS (i : Nat) : Stmt := PySem.Challenge.pw_joinrounds_k30_whole_levels.main.body.getD i (.Pass ⟨0, 0, 0, 0⟩)
def clsS (st : Stmt) (j : Nat) : Stmt := match st with
  | .ClassDef _ _ _ body _ _ _ _ _ _ _ => body.getD j (.Pass ⟨0, 0, 0, 0⟩)
  | _ => .Pass ⟨0, 0, 0, 0⟩
abbrev s_text_of : Stmt := topS 40
abbrev N_text_of : List Str := ["plan", "name", "goal", "base", "rounds"]
abbrev P_text_of : List Str := ["plan"]
def d_text_of : He.DefD := ⟨("text_of", none), "text_of", "text_of", defArgs s_text_of, defBody s_text_of, defScope s_text_of, [], []⟩
abbrev s_Book_D_strD_ : Stmt := clsS (topS 41) 9
abbrev N_Book_D_strD_ : List Str := ["self", "plan"]
abbrev P_Book_D_strD_ : List Str := ["self"]
def d_Book_D_strD_ : He.DefD := ⟨("Book", some "__str__"), "__str__", "Book.__str__", defArgs s_Book_D_strD_, defBody s_Book_D_strD_, defScope s_Book_D_strD_, [], []⟩
abbrev s_joined : Stmt := topS 46
abbrev N_joined : List Str := ["one", "other"]
abbrev P_joined : List Str := ["one", "other"]
def d_joined : He.DefD := ⟨("joined", none), "joined", "joined", defArgs s_joined, defBody s_joined, defScope s_joined, [], []⟩
abbrev s_read_at : Stmt := topS 53
abbrev N_read_at : List Str := ["clause", "place", "size", "other"]
abbrev P_read_at : List Str := ["clause", "place", "size"]
def d_read_at : He.DefD := ⟨("read_at", none), "read_at", "read_at", defArgs s_read_at, defBody s_read_at, defScope s_read_at, [], []⟩
abbrev s_word_behind : Stmt := topS 54
abbrev N_word_behind : List Str := ["clause", "place", "words", "other", "first", "second"]
abbrev P_word_behind : List Str := ["clause", "place", "words"]
def d_word_behind : He.DefD := ⟨("word_behind", none), "word_behind", "word_behind", defArgs s_word_behind, defBody s_word_behind, defScope s_word_behind, [], []⟩
abbrev s_joined_all : Stmt := topS 47
abbrev N_joined_all : List Str := ["runs", "found", "run"]
abbrev P_joined_all : List Str := ["runs"]
def d_joined_all : He.DefD := ⟨("joined_all", none), "joined_all", "joined_all", defArgs s_joined_all, defBody s_joined_all, defScope s_joined_all, [], []⟩
abbrev s_beginnings : Stmt := topS 48
abbrev N_beginnings : List Str := ["runs", "found", "run"]
abbrev P_beginnings : List Str := ["runs"]
def d_beginnings : He.DefD := ⟨("beginnings", none), "beginnings", "beginnings", defArgs s_beginnings, defBody s_beginnings, defScope s_beginnings, [], []⟩
abbrev s_goal_runs : Stmt := topS 49
abbrev N_goal_runs : List Str := ["goal", "runs", "word", "many", "place"]
abbrev P_goal_runs : List Str := ["goal", "runs"]
def d_goal_runs : He.DefD := ⟨("goal_runs", none), "goal_runs", "goal_runs", defArgs s_goal_runs, defBody s_goal_runs, defScope s_goal_runs, [], []⟩
abbrev s_is_integer : Stmt := topS 12
abbrev N_is_integer : List Str := ["value"]
abbrev P_is_integer : List Str := ["value"]
def d_is_integer : He.DefD := ⟨("is_integer", none), "is_integer", "is_integer", defArgs s_is_integer, defBody s_is_integer, defScope s_is_integer, [], []⟩
abbrev s_is_between : Stmt := topS 13
abbrev N_is_between : List Str := ["value", "least", "most"]
abbrev P_is_between : List Str := ["value", "least", "most"]
def d_is_between : He.DefD := ⟨("is_between", none), "is_between", "is_between", defArgs s_is_between, defBody s_is_between, defScope s_is_between, [], []⟩
abbrev s_digit_of : Stmt := topS 27
abbrev N_digit_of : List Str := ["word"]
abbrev P_digit_of : List Str := ["word"]
def d_digit_of : He.DefD := ⟨("digit_of", none), "digit_of", "digit_of", defArgs s_digit_of, defBody s_digit_of, defScope s_digit_of, [], []⟩
abbrev s_read_goal : Stmt := topS 35
abbrev N_read_goal : List Str := ["text", "many"]
abbrev P_read_goal : List Str := ["text"]
def d_read_goal : He.DefD := ⟨("read_goal", none), "read_goal", "read_goal", defArgs s_read_goal, defBody s_read_goal, defScope s_read_goal, [], []⟩
abbrev s_Book_plan : Stmt := clsS (topS 41) 4
abbrev N_Book_plan : List Str := ["self", "name", "row"]
abbrev P_Book_plan : List Str := ["self", "name"]
def d_Book_plan : He.DefD := ⟨("Book", some "plan"), "plan", "Book.plan", defArgs s_Book_plan, defBody s_Book_plan, defScope s_Book_plan, [], []⟩
abbrev s_Book_goal_of : Stmt := clsS (topS 41) 6
abbrev N_Book_goal_of : List Str := ["self", "name"]
abbrev P_Book_goal_of : List Str := ["self", "name"]
def d_Book_goal_of : He.DefD := ⟨("Book", some "goal_of"), "goal_of", "Book.goal_of", defArgs s_Book_goal_of, defBody s_Book_goal_of, defScope s_Book_goal_of, [], []⟩
abbrev s_places_of : Stmt := topS 52
abbrev N_places_of : List Str := ["clause", "size"]
abbrev P_places_of : List Str := ["clause", "size"]
def d_places_of : He.DefD := ⟨("places_of", none), "places_of", "places_of", defArgs s_places_of, defBody s_places_of, defScope s_places_of, [], []⟩
abbrev s_round_done : Stmt := topS 55
abbrev N_round_done : List Str := ["book", "clauses", "words", "fresh", "clause", "places", "told", "place", "word"]
abbrev P_round_done : List Str := ["book", "clauses", "words"]
def d_round_done : He.DefD := ⟨("round_done", none), "round_done", "round_done", defArgs s_round_done, defBody s_round_done, defScope s_round_done, [], []⟩
abbrev s_Book_program : Stmt := clsS (topS 41) 5
abbrev N_Book_program : List Str := ["self", "name"]
abbrev P_Book_program : List Str := ["self", "name"]
def d_Book_program : He.DefD := ⟨("Book", some "program"), "program", "Book.program", defArgs s_Book_program, defBody s_Book_program, defScope s_Book_program, [], []⟩
abbrev s_levels_of : Stmt := topS 56
abbrev N_levels_of : List Str := ["book", "name", "size", "found", "clauses", "place"]
abbrev P_levels_of : List Str := ["book", "name", "size"]
def d_levels_of : He.DefD := ⟨("levels_of", none), "levels_of", "levels_of", defArgs s_levels_of, defBody s_levels_of, defScope s_levels_of, [], []⟩
abbrev s_check_size : Stmt := topS 15
abbrev N_check_size : List Str := ["size", "most"]
abbrev P_check_size : List Str := ["size", "most"]
def d_check_size : He.DefD := ⟨("check_size", none), "check_size", "check_size", defArgs s_check_size, defBody s_check_size, defScope s_check_size, [], []⟩
abbrev s_check_plan : Stmt := topS 43
abbrev N_check_plan : List Str := ["book", "name"]
abbrev P_check_plan : List Str := ["book", "name"]
def d_check_plan : He.DefD := ⟨("check_plan", none), "check_plan", "check_plan", defArgs s_check_plan, defBody s_check_plan, defScope s_check_plan, [], []⟩
abbrev s_check_book : Stmt := topS 42
abbrev N_check_book : List Str := ["book"]
abbrev P_check_book : List Str := ["book"]
def d_check_book : He.DefD := ⟨("check_book", none), "check_book", "check_book", defArgs s_check_book, defBody s_check_book, defScope s_check_book, [], []⟩
abbrev s_level : Stmt := topS 59
abbrev N_level : List Str := ["book", "name", "size", "words"]
abbrev P_level : List Str := ["book", "name", "size"]
def d_level : He.DefD := ⟨("level", none), "level", "level", defArgs s_level, defBody s_level, defScope s_level, [], []⟩
abbrev s_due_run : Stmt := topS 50
abbrev N_due_run : List Str := ["goal", "place", "word", "many"]
abbrev P_due_run : List Str := ["goal", "place"]
def d_due_run : He.DefD := ⟨("due_run", none), "due_run", "due_run", defArgs s_due_run, defBody s_due_run, defScope s_due_run, [], []⟩
abbrev s_wrong_places : Stmt := topS 57
abbrev N_wrong_places : List Str := ["book", "name", "size", "goal", "words", "place"]
abbrev P_wrong_places : List Str := ["book", "name", "size"]
def d_wrong_places : He.DefD := ⟨("wrong_places", none), "wrong_places", "wrong_places", defArgs s_wrong_places, defBody s_wrong_places, defScope s_wrong_places, [], []⟩
abbrev s_holds_at : Stmt := topS 58
abbrev N_holds_at : List Str := ["book", "name", "size"]
abbrev P_holds_at : List Str := ["book", "name", "size"]
def d_holds_at : He.DefD := ⟨("holds_at", none), "holds_at", "holds_at", defArgs s_holds_at, defBody s_holds_at, defScope s_holds_at, [], []⟩
abbrev s_holds : Stmt := topS 60
abbrev N_holds : List Str := ["book", "name", "size"]
abbrev P_holds : List Str := ["book", "name", "size"]
def d_holds : He.DefD := ⟨("holds", none), "holds", "holds", defArgs s_holds, defBody s_holds, defScope s_holds, [], []⟩
abbrev s__law_due : Stmt := topS 80
abbrev N__law_due : List Str := ["_law_goal_here", "_law_k"]
abbrev P__law_due : List Str := ["_law_goal_here", "_law_k"]
def d__law_due : He.DefD := ⟨("_law_due", none), "_law_due", "_law_due", defArgs s__law_due, defBody s__law_due, defScope s__law_due, [], []⟩
abbrev s__law_joint : Stmt := topS 75
abbrev N__law_joint : List Str := ["_law_first", "_law_second"]
abbrev P__law_joint : List Str := ["_law_first", "_law_second"]
def d__law_joint : He.DefD := ⟨("_law_joint", none), "_law_joint", "_law_joint", defArgs s__law_joint, defBody s__law_joint, defScope s__law_joint, [], []⟩
abbrev s__law_all_joint : Stmt := topS 76
abbrev N__law_all_joint : List Str := ["_law_words", "_law_found", "_law_word"]
abbrev P__law_all_joint : List Str := ["_law_words"]
def d__law_all_joint : He.DefD := ⟨("_law_all_joint", none), "_law_all_joint", "_law_all_joint", defArgs s__law_all_joint, defBody s__law_all_joint, defScope s__law_all_joint, [], []⟩
abbrev s__law_says : Stmt := topS 77
abbrev N__law_says : List Str := ["_law_goal_here", "_law_words", "_law_found", "_law_k"]
abbrev P__law_says : List Str := ["_law_goal_here", "_law_words"]
def d__law_says : He.DefD := ⟨("_law_says", none), "_law_says", "_law_says", defArgs s__law_says, defBody s__law_says, defScope s__law_says, [], []⟩
abbrev s__law_done : Stmt := topS 78
abbrev N__law_done : List Str := ["_law_sketch_here", "_law_each", "_law_words", "_law_later", "_law_many", "_law_word", "_law_rest", "_law_step", "_law_side", "_law_far", "_law_label", "_law_spots", "_law_goal_here", "_law_told", "_law_k", "_law_spot", "_law_mate", "_law_there", "_law_plan_here"]
abbrev P__law_done : List Str := ["_law_sketch_here", "_law_each", "_law_words"]
def d__law_done : He.DefD := ⟨("_law_done", none), "_law_done", "_law_done", defArgs s__law_done, defBody s__law_done, defScope s__law_done, [], []⟩
abbrev s__law_level : Stmt := topS 79
abbrev N__law_level : List Str := ["_law_sketch_here", "_law_plan_here", "_law_many", "_law_found", "_law_each", "_law_k"]
abbrev P__law_level : List Str := ["_law_sketch_here", "_law_plan_here", "_law_many"]
def d__law_level : He.DefD := ⟨("_law_level", none), "_law_level", "_law_level", defArgs s__law_level, defBody s__law_level, defScope s__law_level, [], []⟩
abbrev s__law_faults : Stmt := topS 81
abbrev N__law_faults : List Str := ["_law_sketch_here", "_law_plan_here", "_law_many", "_law_words", "_law_k"]
abbrev P__law_faults : List Str := ["_law_sketch_here", "_law_plan_here", "_law_many"]
def d__law_faults : He.DefD := ⟨("_law_faults", none), "_law_faults", "_law_faults", defArgs s__law_faults, defBody s__law_faults, defScope s__law_faults, [], []⟩
abbrev s__law_run : Stmt := topS 82
abbrev N__law_run : List Str := ["_law_word"]
abbrev P__law_run : List Str := ["_law_word"]
def d__law_run : He.DefD := ⟨("_law_run", none), "_law_run", "_law_run", defArgs s__law_run, defBody s__law_run, defScope s__law_run, [], []⟩
abbrev s__law_size_right : Stmt := topS 83
abbrev N__law_size_right : List Str := ["_law_sketch_here", "_law_vol_here", "_law_plan_here", "_law_many", "_law_due_here", "_law_right_here", "_law_words", "_law_word"]
abbrev P__law_size_right : List Str := ["_law_sketch_here", "_law_vol_here", "_law_plan_here", "_law_many"]
def d__law_size_right : He.DefD := ⟨("_law_size_right", none), "_law_size_right", "_law_size_right", defArgs s__law_size_right, defBody s__law_size_right, defScope s__law_size_right, [], []⟩
abbrev s__law_sip : Stmt := topS 63
abbrev N__law_sip : List Str := ["_law_cup_here", "_law_top", "_law_digit"]
abbrev P__law_sip : List Str := ["_law_cup_here", "_law_top"]
def d__law_sip : He.DefD := ⟨("_law_sip", none), "_law_sip", "_law_sip", defArgs s__law_sip, defBody s__law_sip, defScope s__law_sip, [], []⟩
abbrev s_meet : Stmt := topS 31
abbrev N_meet : List Str := ["one", "other"]
abbrev P_meet : List Str := ["one", "other"]
def d_meet : He.DefD := ⟨("meet", none), "meet", "meet", defArgs s_meet, defBody s_meet, defScope s_meet, [], []⟩
abbrev s_Clause_D_initD_ : Stmt := clsS (topS 26) 0
abbrev N_Clause_D_initD_ : List Str := ["self", "word", "rest", "step", "side", "far", "goal"]
abbrev P_Clause_D_initD_ : List Str := ["self", "word", "rest", "step", "side", "far", "goal"]
def d_Clause_D_initD_ : He.DefD := ⟨("Clause", some "__init__"), "__init__", "Clause.__init__", defArgs s_Clause_D_initD_, defBody s_Clause_D_initD_, defScope s_Clause_D_initD_, [.non, .non, .non], []⟩
abbrev s_class_of : Stmt := topS 28
abbrev N_class_of : List Str := ["words", "rest", "step"]
abbrev P_class_of : List Str := ["words"]
def d_class_of : He.DefD := ⟨("class_of", none), "class_of", "class_of", defArgs s_class_of, defBody s_class_of, defScope s_class_of, [], []⟩
abbrev s_is_name : Stmt := topS 14
abbrev N_is_name : List Str := ["value", "sign"]
abbrev P_is_name : List Str := ["value"]
def d_is_name : He.DefD := ⟨("is_name", none), "is_name", "is_name", defArgs s_is_name, defBody s_is_name, defScope s_is_name, [], []⟩
abbrev s_read_call : Stmt := topS 29
abbrev N_read_call : List Str := ["words", "found", "rest", "step"]
abbrev P_read_call : List Str := ["words"]
def d_read_call : He.DefD := ⟨("read_call", none), "read_call", "read_call", defArgs s_read_call, defBody s_read_call, defScope s_read_call, [], []⟩
abbrev s_read_clause : Stmt := topS 30
abbrev N_read_clause : List Str := ["text", "words", "found", "rest", "step", "far"]
abbrev P_read_clause : List Str := ["text"]
def d_read_clause : He.DefD := ⟨("read_clause", none), "read_clause", "read_clause", defArgs s_read_clause, defBody s_read_clause, defScope s_read_clause, [], []⟩
abbrev s_read_clauses : Stmt := topS 32
abbrev N_read_clauses : List Str := ["text", "found", "calls", "at", "clause", "part", "other"]
abbrev P_read_clauses : List Str := ["text"]
def d_read_clauses : He.DefD := ⟨("read_clauses", none), "read_clauses", "read_clauses", defArgs s_read_clauses, defBody s_read_clauses, defScope s_read_clauses, [], []⟩
abbrev s_read_round : Stmt := topS 33
abbrev N_read_round : List Str := ["text", "names", "above", "found", "clause"]
abbrev P_read_round : List Str := ["text", "names", "above"]
def d_read_round : He.DefD := ⟨("read_round", none), "read_round", "read_round", defArgs s_read_round, defBody s_read_round, defScope s_read_round, [], []⟩
abbrev s_is_plan : Stmt := topS 36
abbrev N_is_plan : List Str := ["value", "name", "goal", "base", "rounds", "text"]
abbrev P_is_plan : List Str := ["value"]
def d_is_plan : He.DefD := ⟨("is_plan", none), "is_plan", "is_plan", defArgs s_is_plan, defBody s_is_plan, defScope s_is_plan, [], []⟩
abbrev s_first_invalid : Stmt := topS 37
abbrev N_first_invalid : List Str := ["plans", "names", "index", "plan", "text"]
abbrev P_first_invalid : List Str := ["plans"]
def d_first_invalid : He.DefD := ⟨("first_invalid", none), "first_invalid", "first_invalid", defArgs s_first_invalid, defBody s_first_invalid, defScope s_first_invalid, [], []⟩
abbrev s_Book_D_initD_ : Stmt := clsS (topS 41) 0
abbrev N_Book_D_initD_ : List Str := ["self", "plans", "index", "plan", "text"]
abbrev P_Book_D_initD_ : List Str := ["self", "plans"]
def d_Book_D_initD_ : He.DefD := ⟨("Book", some "__init__"), "__init__", "Book.__init__", defArgs s_Book_D_initD_, defBody s_Book_D_initD_, defScope s_Book_D_initD_, [], []⟩
abbrev s__law_goal_text : Stmt := topS 72
abbrev N__law_goal_text : List Str := ["_law_goal_here"]
abbrev P__law_goal_text : List Str := ["_law_goal_here"]
def d__law_goal_text : He.DefD := ⟨("_law_goal_text", none), "_law_goal_text", "_law_goal_text", defArgs s__law_goal_text, defBody s__law_goal_text, defScope s__law_goal_text, [], []⟩
abbrev s__law_clause_text : Stmt := topS 71
abbrev N__law_clause_text : List Str := ["_law_clause_here", "_law_word", "_law_rest", "_law_step", "_law_side", "_law_far", "_law_label", "_law_spot"]
abbrev P__law_clause_text : List Str := ["_law_clause_here"]
def d__law_clause_text : He.DefD := ⟨("_law_clause_text", none), "_law_clause_text", "_law_clause_text", defArgs s__law_clause_text, defBody s__law_clause_text, defScope s__law_clause_text, [], []⟩
abbrev s__law_parts : Stmt := topS 73
abbrev N__law_parts : List Str := ["_law_plan_here", "_law_lines", "_law_each", "_law_clause_here"]
abbrev P__law_parts : List Str := ["_law_plan_here"]
def d__law_parts : He.DefD := ⟨("_law_parts", none), "_law_parts", "_law_parts", defArgs s__law_parts, defBody s__law_parts, defScope s__law_parts, [], []⟩
abbrev s__law_vol : Stmt := topS 74
abbrev N__law_vol : List Str := ["_law_sketch_here", "_law_plan_here"]
abbrev P__law_vol : List Str := ["_law_sketch_here"]
def d__law_vol : He.DefD := ⟨("_law_vol", none), "_law_vol", "_law_vol", defArgs s__law_vol, defBody s__law_vol, defScope s__law_vol, [], []⟩
abbrev s__law_clause : Stmt := topS 65
abbrev N__law_clause : List Str := ["_law_cup_here", "_law_labels_here", "_law_at", "_law_rest", "_law_step", "_law_calls", "_law_word", "_law_side"]
abbrev P__law_clause : List Str := ["_law_cup_here", "_law_labels_here", "_law_at", "_law_rest", "_law_step", "_law_calls"]
def d__law_clause : He.DefD := ⟨("_law_clause", none), "_law_clause", "_law_clause", defArgs s__law_clause, defBody s__law_clause, defScope s__law_clause, [], []⟩
abbrev s__law_round : Stmt := topS 66
abbrev N__law_round : List Str := ["_law_cup_here", "_law_labels_here", "_law_at", "_law_calls", "_law_step", "_law_rest", "_law_many", "_law_k"]
abbrev P__law_round : List Str := ["_law_cup_here", "_law_labels_here", "_law_at"]
def d__law_round : He.DefD := ⟨("_law_round", none), "_law_round", "_law_round", defArgs s__law_round, defBody s__law_round, defScope s__law_round, [], []⟩
abbrev s__law_goal : Stmt := topS 67
abbrev N__law_goal : List Str := ["_law_cup_here", "_law_word"]
abbrev P__law_goal : List Str := ["_law_cup_here"]
def d__law_goal : He.DefD := ⟨("_law_goal", none), "_law_goal", "_law_goal", defArgs s__law_goal, defBody s__law_goal, defScope s__law_goal, [], []⟩
abbrev s__law_plan : Stmt := topS 68
abbrev N__law_plan : List Str := ["_law_cup_here", "_law_labels_here", "_law_at", "_law_most", "_law_goal_here", "_law_base", "_law_many", "_law_k"]
abbrev P__law_plan : List Str := ["_law_cup_here", "_law_labels_here", "_law_at", "_law_most"]
def d__law_plan : He.DefD := ⟨("_law_plan", none), "_law_plan", "_law_plan", defArgs s__law_plan, defBody s__law_plan, defScope s__law_plan, [], []⟩
abbrev s__law_good : Stmt := topS 69
abbrev N__law_good : List Str := ["_law_cup_here", "_law_labels_here", "_law_at", "_law_label", "_law_base", "_law_pick", "_law_some"]
abbrev P__law_good : List Str := ["_law_cup_here", "_law_labels_here", "_law_at"]
def d__law_good : He.DefD := ⟨("_law_good", none), "_law_good", "_law_good", defArgs s__law_good, defBody s__law_good, defScope s__law_good, [], []⟩
abbrev s__law_labels : Stmt := topS 64
abbrev N__law_labels : List Str := ["_law_cup_here", "_law_span", "_law_begin", "_law_far", "_law_menu", "_law_k"]
abbrev P__law_labels : List Str := ["_law_cup_here", "_law_span"]
def d__law_labels : He.DefD := ⟨("_law_labels", none), "_law_labels", "_law_labels", defArgs s__law_labels, defBody s__law_labels, defScope s__law_labels, [], []⟩
abbrev s__law_sketch : Stmt := topS 70
abbrev N__law_sketch : List Str := ["_law_cup_here", "_law_span", "_law_most", "_law_labels_here", "_law_plans", "_law_at"]
abbrev P__law_sketch : List Str := ["_law_cup_here", "_law_span", "_law_most"]
def d__law_sketch : He.DefD := ⟨("_law_sketch", none), "_law_sketch", "_law_sketch", defArgs s__law_sketch, defBody s__law_sketch, defScope s__law_sketch, [], []⟩
abbrev s__law_right : Stmt := topS 84
abbrev N__law_right : List Str := ["_law_cup_here", "_law_sketch_here", "_law_vol_here", "_law_far", "_law_before", "_law_plan_here", "_law_many"]
abbrev P__law_right : List Str := ["_law_cup_here"]
def d__law_right : He.DefD := ⟨("_law_right", none), "_law_right", "_law_right", defArgs s__law_right, defBody s__law_right, defScope s__law_right, [], []⟩
abbrev s__law_cup : Stmt := topS 62
abbrev N__law_cup : List Str := ["_law_cells", "_law_turn", "_law_cell", "_law_mixed", "_law_each"]
abbrev P__law_cup : List Str := ["_law_cells", "_law_turn"]
def d__law_cup : He.DefD := ⟨("_law_cup", none), "_law_cup", "_law_cup", defArgs s__law_cup, defBody s__law_cup, defScope s__law_cup, [], []⟩
abbrev s_law : Stmt := topS 85
abbrev N_law : List Str := ["_law_cells", "_law_turn"]
abbrev P_law : List Str := ["_law_cells"]
def d_law : He.DefD := ⟨("law", none), "law", "law", defArgs s_law, defBody s_law, defScope s_law, [], []⟩
def fa0 : List He.Fa := [.cls "Book", .noat "Book" "held", .glo "text_of", .cls "Clause", .noat "Clause" "side", .noat "Clause" "far", .noat "Clause" "word", .free "len"]
def fa1 : List He.Fa := [.glo "read_at", .glo "joined", .glo "beginnings", .free "range", .free "max", .glo "joined_all", .free "int", .free "isinstance"]
def fa2 : List He.Fa := [.free "bool", .glo "is_integer", .str "DIGITS" "0123456789", .free "str", .glo "digit_of", .int "MOST_LAST" 4, .glo "is_between", .meth "Book" "plan"]
def fa3 : List He.Fa := [.glo "read_goal", .noat "Clause" "rest", .noat "Clause" "step", .free "list", .glo "places_of", .meth "Book" "goal_of", .noat "Clause" "goal", .glo "goal_runs"]
def fa4 : List He.Fa := [.glo "word_behind", .free "zip", .noat "Book" "parsed", .meth "Book" "program", .glo "round_done", .glo "Book", .glo "check_book", .glo "check_plan"]
def fa5 : List He.Fa := [.int "MOST_LEVEL" 100, .glo "check_size", .glo "levels_of", .free "tuple", .glo "due_run", .glo "wrong_places", .glo "holds_at", .glo "_law_joint"]
def fa6 : List He.Fa := [.glo "_law_all_joint", .glo "_law_says", .glo "_law_done", .glo "_law_level", .glo "_law_due", .glo "_law_run", .glo "level", .free "repr"]
def fa7 : List He.Fa := [.glo "_law_faults", .glo "holds", .free "divmod", .int "MOST_CLASSES" 3, .str "LETTERS" "abcdefghijklmnopqrstuvwxyz", .free "all", .glo "class_of", .glo "is_name"]
def fa8 : List He.Fa := [.mkr "Clause", .glo "Clause", .glo "read_call", .int "MOST_FAR" 4, .str "GAP" "; ", .glo "read_clause", .int "MOST_CLAUSES" 3, .free "any"]
def fa9 : List He.Fa := [.free "enumerate", .glo "meet", .glo "read_clauses", .int "MOST_BASE" 4, .int "MOST_ROUNDS" 5, .int "MOST_PLANS" 4, .glo "is_plan", .glo "read_round"]
def fa10 : List He.Fa := [.glo "first_invalid", .glo "_law_clause_text", .glo "_law_goal_text", .mkr "Book", .glo "_law_parts", .glo "_law_sip", .free "min", .glo "_law_clause"]
def fa11 : List He.Fa := [.glo "_law_goal", .glo "_law_round", .glo "_law_labels", .glo "_law_good", .glo "_law_plan", .glo "_law_sketch", .glo "_law_vol", .meth "Book" "__str__"]
def fa12 : List He.Fa := [.glo "_law_size_right", .free "abs", .glo "_law_cup", .glo "_law_right", .glo "law"]
def fa : List He.Fa := fa0 ++ (fa1 ++ (fa2 ++ (fa3 ++ (fa4 ++ (fa5 ++ (fa6 ++ (fa7 ++ (fa8 ++ (fa9 ++ (fa10 ++ (fa11 ++ (fa12))))))))))))
def fn0 : List He.DefD := [d_text_of, d_Book_D_strD_, d_joined, d_read_at, d_word_behind, d_joined_all, d_beginnings, d_goal_runs]
def fn1 : List He.DefD := [d_is_integer, d_is_between, d_digit_of, d_read_goal, d_Book_plan, d_Book_goal_of, d_places_of, d_round_done]
def fn2 : List He.DefD := [d_Book_program, d_levels_of, d_check_size, d_check_plan, d_check_book, d_level, d_due_run, d_wrong_places]
def fn3 : List He.DefD := [d_holds_at, d_holds, d__law_due, d__law_joint, d__law_all_joint, d__law_says, d__law_done, d__law_level]
def fn4 : List He.DefD := [d__law_faults, d__law_run, d__law_size_right, d__law_sip, d_meet, d_Clause_D_initD_, d_class_of, d_is_name]
def fn5 : List He.DefD := [d_read_call, d_read_clause, d_read_clauses, d_read_round, d_is_plan, d_first_invalid, d_Book_D_initD_, d__law_goal_text]
def fn6 : List He.DefD := [d__law_clause_text, d__law_parts, d__law_vol, d__law_clause, d__law_round, d__law_goal, d__law_plan, d__law_good]
def fn7 : List He.DefD := [d__law_labels, d__law_sketch, d__law_right, d__law_cup, d_law]
def fn : List He.DefD := fn0 ++ (fn1 ++ (fn2 ++ (fn3 ++ (fn4 ++ (fn5 ++ (fn6 ++ (fn7)))))))
def pr : List PrD := []
def xf : List (PySem.W.Frag → Bool) := [tupB "NOUGHT" [.int 0, .int 0]]
theorem bt_len : bootBuiltins ("len" : Str) = some (.builtin "len") := by decide +kernel
theorem bt_max : bootBuiltins ("max" : Str) = some (.builtin "max") := by decide +kernel
theorem bt_int : bootBuiltins ("int" : Str) = some (.type "int") := by decide +kernel
theorem bt_isinstance : bootBuiltins ("isinstance" : Str) = some (.builtin "isinstance") := by decide +kernel
theorem bt_bool : bootBuiltins ("bool" : Str) = some (.type "bool") := by decide +kernel
theorem bt_str : bootBuiltins ("str" : Str) = some (.type "str") := by decide +kernel
theorem bt_list : bootBuiltins ("list" : Str) = some (.type "list") := by decide +kernel
theorem bt_tuple : bootBuiltins ("tuple" : Str) = some (.type "tuple") := by decide +kernel
theorem bt_repr : bootBuiltins ("repr" : Str) = some (.builtin "repr") := by decide +kernel
theorem bt_divmod : bootBuiltins ("divmod" : Str) = some (.builtin "divmod") := by decide +kernel
theorem bt_all : bootBuiltins ("all" : Str) = some (.builtin "all") := by decide +kernel
theorem bt_any : bootBuiltins ("any" : Str) = some (.builtin "any") := by decide +kernel
theorem bt_min : bootBuiltins ("min" : Str) = some (.builtin "min") := by decide +kernel
theorem bt_abs : bootBuiltins ("abs" : Str) = some (.builtin "abs") := by decide +kernel
theorem sh_120_len {n : Nat} (hn : n = 3) (zs : List D) (h : zs.length = n) : (sh_120 zs).length = 3 := by
  subst hn
  match zs, h with
  | [x0, x1, x2], _ => rfl
theorem sh_120_vals {zs : List V} {ws : List Value} (r : Vals zs ws) : Vals (sh_120 zs) (sh_120 ws) := by
  cases r with
  | nil => exact .nil
  | cons r0 r =>
    cases r with
    | nil => exact .cons r0 (.nil)
    | cons r1 r =>
      cases r with
      | nil => exact .cons r0 (.cons r1 (.nil))
      | cons r2 r =>
        cases r with
        | nil => exact .cons r1 (.cons r2 (.cons r0 (.nil)))
        | cons r3 r =>
          exact .cons r0 (.cons r1 (.cons r2 (.cons r3 (r))))
theorem sh_120_rp {K : PySem.W.Frag} {n : Nat} (hn : n = 3) (F : Hp) (al : List Addr) (zs : List D) (ws : List V) (h : zs.length = n) (r : RpL K F al zs ws) : RpL K F al (sh_120 zs) (sh_120 ws) := by
  subst hn
  match zs, h with
  | [x0, x1, x2], _ =>
    cases r with | cons r0 r =>
    cases r with | cons r1 r =>
    cases r with | cons r2 r =>
    cases r
    exact .cons r1 (.cons r2 (.cons r0 (.nil)))
theorem sh_210_len {n : Nat} (hn : n = 3) (zs : List D) (h : zs.length = n) : (sh_210 zs).length = 3 := by
  subst hn
  match zs, h with
  | [x0, x1, x2], _ => rfl
theorem sh_210_vals {zs : List V} {ws : List Value} (r : Vals zs ws) : Vals (sh_210 zs) (sh_210 ws) := by
  cases r with
  | nil => exact .nil
  | cons r0 r =>
    cases r with
    | nil => exact .cons r0 (.nil)
    | cons r1 r =>
      cases r with
      | nil => exact .cons r0 (.cons r1 (.nil))
      | cons r2 r =>
        cases r with
        | nil => exact .cons r2 (.cons r1 (.cons r0 (.nil)))
        | cons r3 r =>
          exact .cons r0 (.cons r1 (.cons r2 (.cons r3 (r))))
theorem sh_210_rp {K : PySem.W.Frag} {n : Nat} (hn : n = 3) (F : Hp) (al : List Addr) (zs : List D) (ws : List V) (h : zs.length = n) (r : RpL K F al zs ws) : RpL K F al (sh_210 zs) (sh_210 ws) := by
  subst hn
  match zs, h with
  | [x0, x1, x2], _ =>
    cases r with | cons r0 r =>
    cases r with | cons r1 r =>
    cases r with | cons r2 r =>
    cases r
    exact .cons r2 (.cons r1 (.cons r0 (.nil)))
theorem sc_text_of : FnScope N_text_of P_text_of (defScope s_text_of) := ⟨rfl, rfl, rfl, by decide +kernel, rfl, by decide +kernel, by decide +kernel⟩
theorem k_text_of {b : Base} (T : Tx fa fn pr cs xf b) : ∃ fd, FunD b.K "text_of" "text_of" (defArgs s_text_of) (defBody s_text_of) (defScope s_text_of) [] [] (He.ga b.K "text_of") fd ∧ Binds b.K fd P_text_of [] := by
  obtain ⟨fd, F⟩ := T.s.c.def_ 0 (d := d_text_of) rfl
  exact ⟨fd, F, F.bindsN fun _ _ _ _ _ _ us hl => match us, hl with | [_], _ => rfl⟩
set_option maxHeartbeats 4000000 in
theorem e_text_of {b : Base} (T : Tx fa fn pr cs xf b) (E : XK) : DSs (b.at N_text_of (defScope s_text_of) 0 false) (wOf E) (defBody s_text_of) B_text_of := by
  have sc := sc_text_of
  exact (dss_cons (ds_asg [1, 2, 3, 4] (de_var 0) (dg_tup 4 (dgs_cons (Plain.of E) (dg_name 1 sc.nd) (dgs_cons (Plain.of E) (dg_name 2 sc.nd) (dgs_cons (Plain.of E) (dg_name 3 sc.nd) (dgs_cons (Plain.of E) (dg_name 4 sc.nd) dgs_nil))))))
  (dss_one (ds_ret (de_bm PySem.F.plainAttrs_str PySem.F.slot_str_join PySem.F.type_str_join m_join de_str (da_cons (de_lst' (da_cons' (de_joined (dj_cons de_str (dj_cons (de_fmt (de_var 1)) (dj_cons de_str (dj_cons (de_fmt (de_var 2)) (dj_cons de_str (dj_cons (de_fmt (de_var 3)) dj_nil))))))) (da_star (de_var 4) (da_any da_nil)))) da_nil)))))
theorem ok_text_of {b : Base} (T : Tx fa fn pr cs xf b) : ∃ fd, b.Ok 1 (He.ga b.K "text_of") fd P_text_of F_text_of ∧ PySem.W.keepIn b.K (.ref (He.ga b.K "text_of")) = true ∧ Binds b.K fd P_text_of [] ∧ FunD b.K "text_of" "text_of" (defArgs s_text_of) (defBody s_text_of) (defScope s_text_of) [] [] (He.ga b.K "text_of") fd := by
  obtain ⟨fd, F, B⟩ := k_text_of T
  exact ⟨fd, fn_ok false F sc_text_of (fun E => e_text_of T E), F.kp, B, F⟩
theorem sc_Book_D_strD_ : FnScope N_Book_D_strD_ P_Book_D_strD_ (defScope s_Book_D_strD_) := ⟨rfl, rfl, rfl, by decide +kernel, rfl, by decide +kernel, by decide +kernel⟩
theorem k_Book_D_strD_ {b : Base} (T : Tx fa fn pr cs xf b) : ∃ fd, FunD b.K "__str__" "Book.__str__" (defArgs s_Book_D_strD_) (defBody s_Book_D_strD_) (defScope s_Book_D_strD_) [] [] (He.ma b.K (He.ga b.K "Book") "__str__") fd ∧ Binds b.K fd P_Book_D_strD_ [] := by
  obtain ⟨fd, F⟩ := T.s.c.def_ 1 (d := d_Book_D_strD_) rfl
  exact ⟨fd, F, F.bindsN fun _ _ _ _ _ _ us hl => match us, hl with | [_], _ => rfl⟩
set_option maxHeartbeats 4000000 in
theorem e_Book_D_strD_ {b : Base} (T : Tx fa fn pr cs xf b) (E : XK) : DSs (b.at N_Book_D_strD_ (defScope s_Book_D_strD_) 1 false) (wOf E) (defBody s_Book_D_strD_) B_Book_D_strD_ := by
  obtain ⟨fdh0, h0⟩ := ok_text_of T
  have sc := sc_Book_D_strD_
  exact (dss_one (ds_ret (de_bm PySem.F.plainAttrs_str PySem.F.slot_str_join PySem.F.type_str_join m_join de_str (da_cons (de_lc [("plan", 1)] sc.nd (show blkC N_Book_D_strD_ (defScope s_Book_D_strD_) _ _ = true by decide +kernel) (di_seq (de_fld (T.cls 0) (T.noat 1) (de_var 0))) (dg_name 1 sc.nd) dts_nil (de_call h0.1 (T.glo 2) h0.2.1 h0.2.2.1 (da_cons (de_var 1) da_nil))) da_nil))))
theorem ok_Book_D_strD_ {b : Base} (T : Tx fa fn pr cs xf b) : ∃ fd, b.Ok 2 (He.ma b.K (He.ga b.K "Book") "__str__") fd P_Book_D_strD_ F_Book_D_strD_ ∧ PySem.W.keepIn b.K (.ref (He.ma b.K (He.ga b.K "Book") "__str__")) = true ∧ Binds b.K fd P_Book_D_strD_ [] ∧ FunD b.K "__str__" "Book.__str__" (defArgs s_Book_D_strD_) (defBody s_Book_D_strD_) (defScope s_Book_D_strD_) [] [] (He.ma b.K (He.ga b.K "Book") "__str__") fd := by
  obtain ⟨fd, F, B⟩ := k_Book_D_strD_ T
  exact ⟨fd, fn_ok false F sc_Book_D_strD_ (fun E => e_Book_D_strD_ T E), F.kp, B, F⟩
theorem sc_joined : FnScope N_joined P_joined (defScope s_joined) := ⟨rfl, rfl, rfl, by decide +kernel, rfl, by decide +kernel, by decide +kernel⟩
theorem k_joined {b : Base} (T : Tx fa fn pr cs xf b) : ∃ fd, FunD b.K "joined" "joined" (defArgs s_joined) (defBody s_joined) (defScope s_joined) [] [] (He.ga b.K "joined") fd ∧ Binds b.K fd P_joined [] := by
  obtain ⟨fd, F⟩ := T.s.c.def_ 2 (d := d_joined) rfl
  exact ⟨fd, F, F.bindsN fun _ _ _ _ _ _ us hl => match us, hl with | [_, _], _ => rfl⟩
set_option maxHeartbeats 4000000 in
theorem e_joined {b : Base} (T : Tx fa fn pr cs xf b) (E : XK) : DSs (b.at N_joined (defScope s_joined) 0 false) (wOf E) (defBody s_joined) B_joined := by
  have sc := sc_joined
  exact (dss_cons (ds_if (dt_w (dw_or (dt_cmp op_isD (de_var 0) de_non) (dw_or1 (dt_cmp op_isD (de_var 1) de_non)))) (dss_one (ds_ret de_non)) dss_nil)
  (dss_cons (ds_if (dt_w (dw_or (dt_cmp op_eqD' (de_var 0) (de_gtup (T.x 0) (T.ns (tupB_glo (T.x 0))))) (dw_or1 (dt_cmp op_eqD' (de_var 1) (de_gtup (T.x 0) (T.ns (tupB_glo (T.x 0)))))))) (dss_one (ds_ret (de_if (dt_cmp op_eqD' (de_var 0) (de_gtup (T.x 0) (T.ns (tupB_glo (T.x 0))))) (de_var 1) (de_var 0)))) dss_nil)
  (dss_one (ds_ret (de_if (dt_cmp op_eqD' (de_ix (de_var 0) de_int) (de_ix (de_var 1) de_int)) (de_tup (da_cons (de_ix (de_var 0) de_int) (da_cons (de_ix (de_var 1) de_int) da_nil))) de_non)))))
theorem ok_joined {b : Base} (T : Tx fa fn pr cs xf b) : ∃ fd, b.Ok 1 (He.ga b.K "joined") fd P_joined F_joined ∧ PySem.W.keepIn b.K (.ref (He.ga b.K "joined")) = true ∧ Binds b.K fd P_joined [] ∧ FunD b.K "joined" "joined" (defArgs s_joined) (defBody s_joined) (defScope s_joined) [] [] (He.ga b.K "joined") fd := by
  obtain ⟨fd, F, B⟩ := k_joined T
  exact ⟨fd, fn_ok false F sc_joined (fun E => e_joined T E), F.kp, B, F⟩
theorem sc_read_at : FnScope N_read_at P_read_at (defScope s_read_at) := ⟨rfl, rfl, rfl, by decide +kernel, rfl, by decide +kernel, by decide +kernel⟩
theorem k_read_at {b : Base} (T : Tx fa fn pr cs xf b) : ∃ fd, FunD b.K "read_at" "read_at" (defArgs s_read_at) (defBody s_read_at) (defScope s_read_at) [] [] (He.ga b.K "read_at") fd ∧ Binds b.K fd P_read_at [] := by
  obtain ⟨fd, F⟩ := T.s.c.def_ 3 (d := d_read_at) rfl
  exact ⟨fd, F, F.bindsN fun _ _ _ _ _ _ us hl => match us, hl with | [_, _, _], _ => rfl⟩
set_option maxHeartbeats 4000000 in
theorem e_read_at {b : Base} (T : Tx fa fn pr cs xf b) (E : XK) : DSs (b.at N_read_at (defScope s_read_at) 0 false) (wOf E) (defBody s_read_at) B_read_at := by
  have sc := sc_read_at
  exact (dss_cons (ds_asg [3] (de_if (dt_cmp op_eqD' (de_fld (T.cls 3) (T.noat 4) (de_var 0)) de_str) (de_op op_subD (de_var 1) (de_fld (T.cls 3) (T.noat 5) (de_var 0))) (de_op op_addD (de_var 1) (de_fld (T.cls 3) (T.noat 5) (de_var 0)))) (dg_name 3 sc.nd))
  (dss_one (ds_ret (de_if (dt_chain op_leD op_ltD de_int (de_var 3) (de_var 2)) (de_var 3) de_non))))
theorem ok_read_at {b : Base} (T : Tx fa fn pr cs xf b) : ∃ fd, b.Ok 1 (He.ga b.K "read_at") fd P_read_at F_read_at ∧ PySem.W.keepIn b.K (.ref (He.ga b.K "read_at")) = true ∧ Binds b.K fd P_read_at [] ∧ FunD b.K "read_at" "read_at" (defArgs s_read_at) (defBody s_read_at) (defScope s_read_at) [] [] (He.ga b.K "read_at") fd := by
  obtain ⟨fd, F, B⟩ := k_read_at T
  exact ⟨fd, fn_ok false F sc_read_at (fun E => e_read_at T E), F.kp, B, F⟩
theorem sc_word_behind : FnScope N_word_behind P_word_behind (defScope s_word_behind) := ⟨rfl, rfl, rfl, by decide +kernel, rfl, by decide +kernel, by decide +kernel⟩
theorem k_word_behind {b : Base} (T : Tx fa fn pr cs xf b) : ∃ fd, FunD b.K "word_behind" "word_behind" (defArgs s_word_behind) (defBody s_word_behind) (defScope s_word_behind) [] [] (He.ga b.K "word_behind") fd ∧ Binds b.K fd P_word_behind [] := by
  obtain ⟨fd, F⟩ := T.s.c.def_ 4 (d := d_word_behind) rfl
  exact ⟨fd, F, F.bindsN fun _ _ _ _ _ _ us hl => match us, hl with | [_, _, _], _ => rfl⟩
set_option maxHeartbeats 4000000 in
theorem e_word_behind {b : Base} (T : Tx fa fn pr cs xf b) (E : XK) : DSs (b.at N_word_behind (defScope s_word_behind) 1 false) (wOf E) (defBody s_word_behind) B_word_behind := by
  obtain ⟨fdh0, h0⟩ := ok_read_at T
  obtain ⟨fdh1, h1⟩ := ok_joined T
  have sc := sc_word_behind
  exact (dss_cons (ds_if (dt_cmp op_eqD' (de_fld (T.cls 3) (T.noat 6) (de_var 0)) de_str) (dss_one (ds_ret (de_tup (da_cons de_int (da_cons de_int da_nil))))) dss_nil)
  (dss_cons (ds_asg [3] (de_call h0.1 (T.glo 8) h0.2.1 h0.2.2.1 (da_cons (de_var 0) (da_cons (de_var 1) (da_cons (de_callB b_len (T.free 7) bt_len (da_cons (de_var 2) da_nil)) da_nil)))) (dg_name 3 sc.nd))
  (dss_cons (ds_if (dt_cmp op_isD (de_var 3) de_non) (dss_one (ds_ret (de_if (dt_cmp op_eqD' (de_fld (T.cls 3) (T.noat 6) (de_var 0)) de_str) (de_tup (da_cons de_int (da_cons de_int da_nil))) (de_ix (de_var 2) (de_var 1))))) dss_nil)
  (dss_cons (ds_if (dt_cmp op_eqD' (de_fld (T.cls 3) (T.noat 6) (de_var 0)) de_str) (dss_one (ds_ret (de_ix (de_var 2) (de_var 3)))) dss_nil)
  (dss_cons (ds_asg [4, 5] (de_if (dt_cmp op_eqD' (de_fld (T.cls 3) (T.noat 4) (de_var 0)) de_str) (de_tup (da_cons (de_var 3) (da_cons (de_var 1) da_nil))) (de_tup (da_cons (de_var 1) (da_cons (de_var 3) da_nil)))) (dg_tup 2 (dgs_cons (Plain.of E) (dg_name 4 sc.nd) (dgs_cons (Plain.of E) (dg_name 5 sc.nd) dgs_nil))))
  (dss_one (ds_ret (de_call h1.1 (T.glo 9) h1.2.1 h1.2.2.1 (da_cons (de_ix (de_var 2) (de_var 4)) (da_cons (de_ix (de_var 2) (de_var 5)) da_nil))))))))))
theorem ok_word_behind {b : Base} (T : Tx fa fn pr cs xf b) : ∃ fd, b.Ok 2 (He.ga b.K "word_behind") fd P_word_behind F_word_behind ∧ PySem.W.keepIn b.K (.ref (He.ga b.K "word_behind")) = true ∧ Binds b.K fd P_word_behind [] ∧ FunD b.K "word_behind" "word_behind" (defArgs s_word_behind) (defBody s_word_behind) (defScope s_word_behind) [] [] (He.ga b.K "word_behind") fd := by
  obtain ⟨fd, F, B⟩ := k_word_behind T
  exact ⟨fd, fn_ok false F sc_word_behind (fun E => e_word_behind T E), F.kp, B, F⟩
theorem sc_joined_all : FnScope N_joined_all P_joined_all (defScope s_joined_all) := ⟨rfl, rfl, rfl, by decide +kernel, rfl, by decide +kernel, by decide +kernel⟩
theorem k_joined_all {b : Base} (T : Tx fa fn pr cs xf b) : ∃ fd, FunD b.K "joined_all" "joined_all" (defArgs s_joined_all) (defBody s_joined_all) (defScope s_joined_all) [] [] (He.ga b.K "joined_all") fd ∧ Binds b.K fd P_joined_all [] := by
  obtain ⟨fd, F⟩ := T.s.c.def_ 5 (d := d_joined_all) rfl
  exact ⟨fd, F, F.bindsN fun _ _ _ _ _ _ us hl => match us, hl with | [_], _ => rfl⟩
set_option maxHeartbeats 4000000 in
theorem e_joined_all {b : Base} (T : Tx fa fn pr cs xf b) (E : XK) : DSs (b.at N_joined_all (defScope s_joined_all) 1 false) (wOf E) (defBody s_joined_all) B_joined_all := by
  obtain ⟨fdh0, h0⟩ := ok_joined T
  have sc := sc_joined_all
  exact (dss_cons (ds_asg [1] (de_gtup (T.x 0) (T.ns (tupB_glo (T.x 0)))) (dg_name 1 sc.nd))
  (dss_cons (ds_for [2] (di_seq (de_var 0)) (dg_name 2 sc.nd)
  (dss_one (ds_asg [1] (de_call h0.1 (T.glo 9) h0.2.1 h0.2.2.1 (da_cons (de_var 1) (da_cons (de_var 2) da_nil))) (dg_name 1 sc.nd))))
  (dss_one (ds_ret (de_var 1)))))
theorem ok_joined_all {b : Base} (T : Tx fa fn pr cs xf b) : ∃ fd, b.Ok 2 (He.ga b.K "joined_all") fd P_joined_all F_joined_all ∧ PySem.W.keepIn b.K (.ref (He.ga b.K "joined_all")) = true ∧ Binds b.K fd P_joined_all [] ∧ FunD b.K "joined_all" "joined_all" (defArgs s_joined_all) (defBody s_joined_all) (defScope s_joined_all) [] [] (He.ga b.K "joined_all") fd := by
  obtain ⟨fd, F, B⟩ := k_joined_all T
  exact ⟨fd, fn_ok false F sc_joined_all (fun E => e_joined_all T E), F.kp, B, F⟩
theorem sc_beginnings : FnScope N_beginnings P_beginnings (defScope s_beginnings) := ⟨rfl, rfl, rfl, by decide +kernel, rfl, by decide +kernel, by decide +kernel⟩
theorem k_beginnings {b : Base} (T : Tx fa fn pr cs xf b) : ∃ fd, FunD b.K "beginnings" "beginnings" (defArgs s_beginnings) (defBody s_beginnings) (defScope s_beginnings) [] [] (He.ga b.K "beginnings") fd ∧ Binds b.K fd P_beginnings [] := by
  obtain ⟨fd, F⟩ := T.s.c.def_ 6 (d := d_beginnings) rfl
  exact ⟨fd, F, F.bindsN fun _ _ _ _ _ _ us hl => match us, hl with | [_], _ => rfl⟩
set_option maxHeartbeats 4000000 in
theorem e_beginnings {b : Base} (T : Tx fa fn pr cs xf b) (E : XK) : DSs (b.at N_beginnings (defScope s_beginnings) 1 false) (wOf E) (defBody s_beginnings) B_beginnings := by
  obtain ⟨fdh0, h0⟩ := ok_joined T
  have sc := sc_beginnings
  exact (dss_cons (ds_asg [1] (de_new (da_cons (de_gtup (T.x 0) (T.ns (tupB_glo (T.x 0)))) da_nil)) (dg_name 1 sc.nd))
  (dss_cons (ds_for [2] (di_seq (de_var 0)) (dg_name 2 sc.nd)
  (dss_one (ds_expr (de_bm PySem.F.plainAttrs_list PySem.F.slot_list_append PySem.F.type_list_append m_append (de_var 1) (da_cons (de_call h0.1 (T.glo 9) h0.2.1 h0.2.2.1 (da_cons (de_ix (de_var 1) (de_neg de_int)) (da_cons (de_var 2) da_nil))) da_nil)))))
  (dss_one (ds_ret (de_var 1)))))
theorem ok_beginnings {b : Base} (T : Tx fa fn pr cs xf b) : ∃ fd, b.Ok 2 (He.ga b.K "beginnings") fd P_beginnings F_beginnings ∧ PySem.W.keepIn b.K (.ref (He.ga b.K "beginnings")) = true ∧ Binds b.K fd P_beginnings [] ∧ FunD b.K "beginnings" "beginnings" (defArgs s_beginnings) (defBody s_beginnings) (defScope s_beginnings) [] [] (He.ga b.K "beginnings") fd := by
  obtain ⟨fd, F, B⟩ := k_beginnings T
  exact ⟨fd, fn_ok false F sc_beginnings (fun E => e_beginnings T E), F.kp, B, F⟩
theorem sc_goal_runs : FnScope N_goal_runs P_goal_runs (defScope s_goal_runs) := ⟨rfl, rfl, rfl, by decide +kernel, rfl, by decide +kernel, by decide +kernel⟩
theorem k_goal_runs {b : Base} (T : Tx fa fn pr cs xf b) : ∃ fd, FunD b.K "goal_runs" "goal_runs" (defArgs s_goal_runs) (defBody s_goal_runs) (defScope s_goal_runs) [] [] (He.ga b.K "goal_runs") fd ∧ Binds b.K fd P_goal_runs [] := by
  obtain ⟨fd, F⟩ := T.s.c.def_ 7 (d := d_goal_runs) rfl
  exact ⟨fd, F, F.bindsN fun _ _ _ _ _ _ us hl => match us, hl with | [_, _], _ => rfl⟩
set_option maxHeartbeats 4000000 in
theorem e_goal_runs {b : Base} (T : Tx fa fn pr cs xf b) (E : XK) : DSs (b.at N_goal_runs (defScope s_goal_runs) 2 false) (wOf E) (defBody s_goal_runs) B_goal_runs := by
  obtain ⟨fdh0, h0⟩ := ok_beginnings T
  obtain ⟨fdh1, h1⟩ := ok_joined_all T
  have sc := sc_goal_runs
  exact (dss_cons (ds_asg [2, 3] (de_var 0) (dg_tup 2 (dgs_cons (Plain.of E) (dg_name 2 sc.nd) (dgs_cons (Plain.of E) (dg_name 3 sc.nd) dgs_nil))))
  (dss_cons (ds_if (dt_cmp op_eqD' (de_var 2) de_str) (dss_one (ds_ret (de_sl (de_call h0.1 (T.glo 10) h0.2.1 h0.2.2.1 (da_cons (de_var 1) da_nil)) (do_some de_int) do_none))) dss_nil)
  (dss_cons (ds_if (dt_cmp op_eqD' (de_var 2) de_str) (dss_one (ds_ret (de_sl (de_call h0.1 (T.glo 10) h0.2.1 h0.2.2.1 (da_cons (de_var 1) da_nil)) do_none (do_some (de_neg de_int))))) dss_nil)
  (dss_one (ds_ret (de_lc [("place", 4)] sc.nd (show blkC N_goal_runs (defScope s_goal_runs) _ _ = true by decide +kernel) (di_range1 (T.free 11) (da_cons (de_callB b_len (T.free 7) bt_len (da_cons (de_var 1) da_nil)) da_nil)) (dg_name 4 sc.nd) dts_nil (de_call h1.1 (T.glo 13) h1.2.1 h1.2.2.1 (da_cons (de_sl (de_var 1) (do_some (de_callB b_max (T.free 12) bt_max (da_cons de_int (da_cons (de_op op_addD (de_op op_subD (de_var 4) (de_var 3)) de_int) da_nil)))) (do_some (de_op op_addD (de_var 4) de_int))) da_nil))))))))
theorem ok_goal_runs {b : Base} (T : Tx fa fn pr cs xf b) : ∃ fd, b.Ok 3 (He.ga b.K "goal_runs") fd P_goal_runs F_goal_runs ∧ PySem.W.keepIn b.K (.ref (He.ga b.K "goal_runs")) = true ∧ Binds b.K fd P_goal_runs [] ∧ FunD b.K "goal_runs" "goal_runs" (defArgs s_goal_runs) (defBody s_goal_runs) (defScope s_goal_runs) [] [] (He.ga b.K "goal_runs") fd := by
  obtain ⟨fd, F, B⟩ := k_goal_runs T
  exact ⟨fd, fn_ok false F sc_goal_runs (fun E => e_goal_runs T E), F.kp, B, F⟩
theorem sc_is_integer : FnScope N_is_integer P_is_integer (defScope s_is_integer) := ⟨rfl, rfl, rfl, by decide +kernel, rfl, by decide +kernel, by decide +kernel⟩
theorem k_is_integer {b : Base} (T : Tx fa fn pr cs xf b) : ∃ fd, FunD b.K "is_integer" "is_integer" (defArgs s_is_integer) (defBody s_is_integer) (defScope s_is_integer) [] [] (He.ga b.K "is_integer") fd ∧ Binds b.K fd P_is_integer [] := by
  obtain ⟨fd, F⟩ := T.s.c.def_ 8 (d := d_is_integer) rfl
  exact ⟨fd, F, F.bindsN fun _ _ _ _ _ _ us hl => match us, hl with | [_], _ => rfl⟩
set_option maxHeartbeats 4000000 in
theorem e_is_integer {b : Base} (T : Tx fa fn pr cs xf b) (E : XK) : DSs (b.at N_is_integer (defScope s_is_integer) 0 false) (wOf E) (defBody s_is_integer) B_is_integer := by
  have sc := sc_is_integer
  exact (dss_one (ds_ret (de_and (de_callB (b_isi T.s.isi) (T.free 15) bt_isinstance (da_cons (de_var 0) (da_cons (de_ty (T.free 14) bt_int) da_nil))) (de_one (de_not (de_callB (b_isi T.s.isi) (T.free 15) bt_isinstance (da_cons (de_var 0) (da_cons (de_ty (T.free 16) bt_bool) da_nil))))))))
theorem ok_is_integer {b : Base} (T : Tx fa fn pr cs xf b) : ∃ fd, b.Ok 1 (He.ga b.K "is_integer") fd P_is_integer F_is_integer ∧ PySem.W.keepIn b.K (.ref (He.ga b.K "is_integer")) = true ∧ Binds b.K fd P_is_integer [] ∧ FunD b.K "is_integer" "is_integer" (defArgs s_is_integer) (defBody s_is_integer) (defScope s_is_integer) [] [] (He.ga b.K "is_integer") fd := by
  obtain ⟨fd, F, B⟩ := k_is_integer T
  exact ⟨fd, fn_ok false F sc_is_integer (fun E => e_is_integer T E), F.kp, B, F⟩
theorem sc_is_between : FnScope N_is_between P_is_between (defScope s_is_between) := ⟨rfl, rfl, rfl, by decide +kernel, rfl, by decide +kernel, by decide +kernel⟩
theorem k_is_between {b : Base} (T : Tx fa fn pr cs xf b) : ∃ fd, FunD b.K "is_between" "is_between" (defArgs s_is_between) (defBody s_is_between) (defScope s_is_between) [] [] (He.ga b.K "is_between") fd ∧ Binds b.K fd P_is_between [] := by
  obtain ⟨fd, F⟩ := T.s.c.def_ 9 (d := d_is_between) rfl
  exact ⟨fd, F, F.bindsN fun _ _ _ _ _ _ us hl => match us, hl with | [_, _, _], _ => rfl⟩
set_option maxHeartbeats 4000000 in
theorem e_is_between {b : Base} (T : Tx fa fn pr cs xf b) (E : XK) : DSs (b.at N_is_between (defScope s_is_between) 1 false) (wOf E) (defBody s_is_between) B_is_between := by
  obtain ⟨fdh0, h0⟩ := ok_is_integer T
  have sc := sc_is_between
  exact (dss_one (ds_ret (de_and (de_call h0.1 (T.glo 17) h0.2.1 h0.2.2.1 (da_cons (de_var 0) da_nil)) (de_one (de_chain op_leD op_leD (de_var 1) (de_var 0) (de_var 2))))))
theorem ok_is_between {b : Base} (T : Tx fa fn pr cs xf b) : ∃ fd, b.Ok 2 (He.ga b.K "is_between") fd P_is_between F_is_between ∧ PySem.W.keepIn b.K (.ref (He.ga b.K "is_between")) = true ∧ Binds b.K fd P_is_between [] ∧ FunD b.K "is_between" "is_between" (defArgs s_is_between) (defBody s_is_between) (defScope s_is_between) [] [] (He.ga b.K "is_between") fd := by
  obtain ⟨fd, F, B⟩ := k_is_between T
  exact ⟨fd, fn_ok false F sc_is_between (fun E => e_is_between T E), F.kp, B, F⟩
theorem sc_digit_of : FnScope N_digit_of P_digit_of (defScope s_digit_of) := ⟨rfl, rfl, rfl, by decide +kernel, rfl, by decide +kernel, by decide +kernel⟩
theorem k_digit_of {b : Base} (T : Tx fa fn pr cs xf b) : ∃ fd, FunD b.K "digit_of" "digit_of" (defArgs s_digit_of) (defBody s_digit_of) (defScope s_digit_of) [] [] (He.ga b.K "digit_of") fd ∧ Binds b.K fd P_digit_of [] := by
  obtain ⟨fd, F⟩ := T.s.c.def_ 10 (d := d_digit_of) rfl
  exact ⟨fd, F, F.bindsN fun _ _ _ _ _ _ us hl => match us, hl with | [_], _ => rfl⟩
set_option maxHeartbeats 4000000 in
theorem e_digit_of {b : Base} (T : Tx fa fn pr cs xf b) (E : XK) : DSs (b.at N_digit_of (defScope s_digit_of) 0 false) (wOf E) (defBody s_digit_of) B_digit_of := by
  have sc := sc_digit_of
  exact (dss_one (ds_ret (de_if (dt_w (dw_and (dt_cmp op_eqD' (de_callB b_len (T.free 7) bt_len (da_cons (de_var 0) da_nil)) de_int) (dw_and1 (dt_cmp op_inD (de_var 0) (de_gstr (T.str 18)))))) (de_callT b_int (T.free 14) bt_int (da_cons (de_var 0) da_nil)) de_non)))
theorem ok_digit_of {b : Base} (T : Tx fa fn pr cs xf b) : ∃ fd, b.Ok 1 (He.ga b.K "digit_of") fd P_digit_of F_digit_of ∧ PySem.W.keepIn b.K (.ref (He.ga b.K "digit_of")) = true ∧ Binds b.K fd P_digit_of [] ∧ FunD b.K "digit_of" "digit_of" (defArgs s_digit_of) (defBody s_digit_of) (defScope s_digit_of) [] [] (He.ga b.K "digit_of") fd := by
  obtain ⟨fd, F, B⟩ := k_digit_of T
  exact ⟨fd, fn_ok false F sc_digit_of (fun E => e_digit_of T E), F.kp, B, F⟩
theorem sc_read_goal : FnScope N_read_goal P_read_goal (defScope s_read_goal) := ⟨rfl, rfl, rfl, by decide +kernel, rfl, by decide +kernel, by decide +kernel⟩
theorem k_read_goal {b : Base} (T : Tx fa fn pr cs xf b) : ∃ fd, FunD b.K "read_goal" "read_goal" (defArgs s_read_goal) (defBody s_read_goal) (defScope s_read_goal) [] [] (He.ga b.K "read_goal") fd ∧ Binds b.K fd P_read_goal [] := by
  obtain ⟨fd, F⟩ := T.s.c.def_ 11 (d := d_read_goal) rfl
  exact ⟨fd, F, F.bindsN fun _ _ _ _ _ _ us hl => match us, hl with | [_], _ => rfl⟩
set_option maxHeartbeats 4000000 in
theorem e_read_goal {b : Base} (T : Tx fa fn pr cs xf b) (E : XK) : DSs (b.at N_read_goal (defScope s_read_goal) 2 false) (wOf E) (defBody s_read_goal) B_read_goal := by
  obtain ⟨fdh0, h0⟩ := ok_digit_of T
  obtain ⟨fdh1, h1⟩ := ok_is_between T
  have sc := sc_read_goal
  exact (dss_cons (ds_if (dt_not (dt_val (de_callB (b_isi T.s.isi) (T.free 15) bt_isinstance (da_cons (de_var 0) (da_cons (de_ty (T.free 19) bt_str) da_nil))))) (dss_one (ds_ret de_non)) dss_nil)
  (dss_cons (ds_if (dt_cmp op_inD (de_var 0) (de_tup (da_cons de_str (da_cons de_str da_nil)))) (dss_one (ds_ret (de_tup (da_cons (de_var 0) (da_cons de_non da_nil))))) dss_nil)
  (dss_cons (ds_asg [1] (de_if (dt_cmp op_eqD' (de_sl (de_var 0) do_none (do_some de_int)) de_str) (de_call h0.1 (T.glo 20) h0.2.1 h0.2.2.1 (da_cons (de_sl (de_var 0) (do_some de_int) do_none) da_nil)) de_non) (dg_name 1 sc.nd))
  (dss_one (ds_ret (de_if (dt_val (de_call h1.1 (T.glo 22) h1.2.1 h1.2.2.1 (da_cons (de_var 1) (da_cons de_int (da_cons (de_gint (T.int 21)) da_nil))))) (de_tup (da_cons de_str (da_cons (de_var 1) da_nil))) de_non))))))
theorem ok_read_goal {b : Base} (T : Tx fa fn pr cs xf b) : ∃ fd, b.Ok 3 (He.ga b.K "read_goal") fd P_read_goal F_read_goal ∧ PySem.W.keepIn b.K (.ref (He.ga b.K "read_goal")) = true ∧ Binds b.K fd P_read_goal [] ∧ FunD b.K "read_goal" "read_goal" (defArgs s_read_goal) (defBody s_read_goal) (defScope s_read_goal) [] [] (He.ga b.K "read_goal") fd := by
  obtain ⟨fd, F, B⟩ := k_read_goal T
  exact ⟨fd, fn_ok false F sc_read_goal (fun E => e_read_goal T E), F.kp, B, F⟩
theorem sc_Book_plan : FnScope N_Book_plan P_Book_plan (defScope s_Book_plan) := ⟨rfl, rfl, rfl, by decide +kernel, rfl, by decide +kernel, by decide +kernel⟩
theorem k_Book_plan {b : Base} (T : Tx fa fn pr cs xf b) : ∃ fd, FunD b.K "plan" "Book.plan" (defArgs s_Book_plan) (defBody s_Book_plan) (defScope s_Book_plan) [] [] (He.ma b.K (He.ga b.K "Book") "plan") fd ∧ Binds b.K fd P_Book_plan [] := by
  obtain ⟨fd, F⟩ := T.s.c.def_ 12 (d := d_Book_plan) rfl
  exact ⟨fd, F, F.bindsN fun _ _ _ _ _ _ us hl => match us, hl with | [_, _], _ => rfl⟩
set_option maxHeartbeats 4000000 in
theorem e_Book_plan {b : Base} (T : Tx fa fn pr cs xf b) (E : XK) : DSs (b.at N_Book_plan (defScope s_Book_plan) 0 false) (wOf E) (defBody s_Book_plan) B_Book_plan := by
  have sc := sc_Book_plan
  exact (dss_cons (ds_for [2] (di_seq (de_fld (T.cls 0) (T.noat 1) (de_var 0))) (dg_name 2 sc.nd)
  (dss_one (ds_if (dt_w (dw_and (dt_val (de_callB (b_isi T.s.isi) (T.free 15) bt_isinstance (da_cons (de_var 1) (da_cons (de_ty (T.free 19) bt_str) da_nil)))) (dw_and1 (dt_cmp op_eqD' (de_ix (de_var 2) de_int) (de_var 1))))) (dss_one (ds_ret (de_var 2))) dss_nil)))
  (dss_one ds_never))
theorem ok_Book_plan {b : Base} (T : Tx fa fn pr cs xf b) : ∃ fd, b.Ok 1 (He.ma b.K (He.ga b.K "Book") "plan") fd P_Book_plan F_Book_plan ∧ PySem.W.keepIn b.K (.ref (He.ma b.K (He.ga b.K "Book") "plan")) = true ∧ Binds b.K fd P_Book_plan [] ∧ FunD b.K "plan" "Book.plan" (defArgs s_Book_plan) (defBody s_Book_plan) (defScope s_Book_plan) [] [] (He.ma b.K (He.ga b.K "Book") "plan") fd := by
  obtain ⟨fd, F, B⟩ := k_Book_plan T
  exact ⟨fd, fn_ok false F sc_Book_plan (fun E => e_Book_plan T E), F.kp, B, F⟩
theorem sc_Book_goal_of : FnScope N_Book_goal_of P_Book_goal_of (defScope s_Book_goal_of) := ⟨rfl, rfl, rfl, by decide +kernel, rfl, by decide +kernel, by decide +kernel⟩
theorem k_Book_goal_of {b : Base} (T : Tx fa fn pr cs xf b) : ∃ fd, FunD b.K "goal_of" "Book.goal_of" (defArgs s_Book_goal_of) (defBody s_Book_goal_of) (defScope s_Book_goal_of) [] [] (He.ma b.K (He.ga b.K "Book") "goal_of") fd ∧ Binds b.K fd P_Book_goal_of [] := by
  obtain ⟨fd, F⟩ := T.s.c.def_ 13 (d := d_Book_goal_of) rfl
  exact ⟨fd, F, F.bindsN fun _ _ _ _ _ _ us hl => match us, hl with | [_, _], _ => rfl⟩
set_option maxHeartbeats 4000000 in
theorem e_Book_goal_of {b : Base} (T : Tx fa fn pr cs xf b) (E : XK) : DSs (b.at N_Book_goal_of (defScope s_Book_goal_of) 3 false) (wOf E) (defBody s_Book_goal_of) B_Book_goal_of := by
  obtain ⟨fdh0, h0⟩ := ok_read_goal T
  obtain ⟨fdh1, h1⟩ := ok_Book_plan T
  have sc := sc_Book_goal_of
  exact (dss_one (ds_ret (de_call h0.1 (T.glo 24) h0.2.1 h0.2.2.1 (da_cons (de_ix (de_meth (Plain.of E) h1.1 (T.cls 0) (T.meth 23) h1.2.2.1 (de_var 0) (da_cons (de_var 1) da_nil)) de_int) da_nil))))
theorem ok_Book_goal_of {b : Base} (T : Tx fa fn pr cs xf b) : ∃ fd, b.Ok 4 (He.ma b.K (He.ga b.K "Book") "goal_of") fd P_Book_goal_of F_Book_goal_of ∧ PySem.W.keepIn b.K (.ref (He.ma b.K (He.ga b.K "Book") "goal_of")) = true ∧ Binds b.K fd P_Book_goal_of [] ∧ FunD b.K "goal_of" "Book.goal_of" (defArgs s_Book_goal_of) (defBody s_Book_goal_of) (defScope s_Book_goal_of) [] [] (He.ma b.K (He.ga b.K "Book") "goal_of") fd := by
  obtain ⟨fd, F, B⟩ := k_Book_goal_of T
  exact ⟨fd, fn_ok false F sc_Book_goal_of (fun E => e_Book_goal_of T E), F.kp, B, F⟩
theorem sc_places_of : FnScope N_places_of P_places_of (defScope s_places_of) := ⟨rfl, rfl, rfl, by decide +kernel, rfl, by decide +kernel, by decide +kernel⟩
theorem k_places_of {b : Base} (T : Tx fa fn pr cs xf b) : ∃ fd, FunD b.K "places_of" "places_of" (defArgs s_places_of) (defBody s_places_of) (defScope s_places_of) [] [] (He.ga b.K "places_of") fd ∧ Binds b.K fd P_places_of [] := by
  obtain ⟨fd, F⟩ := T.s.c.def_ 14 (d := d_places_of) rfl
  exact ⟨fd, F, F.bindsN fun _ _ _ _ _ _ us hl => match us, hl with | [_, _], _ => rfl⟩
set_option maxHeartbeats 4000000 in
theorem e_places_of {b : Base} (T : Tx fa fn pr cs xf b) (E : XK) : DSs (b.at N_places_of (defScope s_places_of) 0 false) (wOf E) (defBody s_places_of) B_places_of := by
  have sc := sc_places_of
  exact (dss_one (ds_ret (de_listR3 lk_frz (T.free 27) (T.free 11) (da_cons (de_fld (T.cls 3) (T.noat 25) (de_var 0)) (da_cons (de_var 1) (da_cons (de_fld (T.cls 3) (T.noat 26) (de_var 0)) da_nil))))))
theorem ok_places_of {b : Base} (T : Tx fa fn pr cs xf b) : ∃ fd, b.Ok 1 (He.ga b.K "places_of") fd P_places_of F_places_of ∧ PySem.W.keepIn b.K (.ref (He.ga b.K "places_of")) = true ∧ Binds b.K fd P_places_of [] ∧ FunD b.K "places_of" "places_of" (defArgs s_places_of) (defBody s_places_of) (defScope s_places_of) [] [] (He.ga b.K "places_of") fd := by
  obtain ⟨fd, F, B⟩ := k_places_of T
  exact ⟨fd, fn_ok false F sc_places_of (fun E => e_places_of T E), F.kp, B, F⟩
theorem sc_round_done : FnScope N_round_done P_round_done (defScope s_round_done) := ⟨rfl, rfl, rfl, by decide +kernel, rfl, by decide +kernel, by decide +kernel⟩
theorem k_round_done {b : Base} (T : Tx fa fn pr cs xf b) : ∃ fd, FunD b.K "round_done" "round_done" (defArgs s_round_done) (defBody s_round_done) (defScope s_round_done) [] [] (He.ga b.K "round_done") fd ∧ Binds b.K fd P_round_done [] := by
  obtain ⟨fd, F⟩ := T.s.c.def_ 15 (d := d_round_done) rfl
  exact ⟨fd, F, F.bindsN fun _ _ _ _ _ _ us hl => match us, hl with | [_, _, _], _ => rfl⟩
set_option maxHeartbeats 4000000 in
theorem e_round_done {b : Base} (T : Tx fa fn pr cs xf b) (E : XK) : DSs (b.at N_round_done (defScope s_round_done) 4 false) (wOf E) (defBody s_round_done) B_round_done := by
  obtain ⟨fdh0, h0⟩ := ok_places_of T
  obtain ⟨fdh1, h1⟩ := ok_goal_runs T
  obtain ⟨fdh2, h2⟩ := ok_Book_goal_of T
  obtain ⟨fdh3, h3⟩ := ok_word_behind T
  have sc := sc_round_done
  exact (dss_cons (ds_asg [3] (de_callT b_listN (T.free 27) bt_list (da_cons (de_var 2) da_nil)) (dg_name 3 sc.nd))
  (dss_cons (ds_for [4] (di_seq (de_var 1)) (dg_name 4 sc.nd)
  (dss_cons (ds_asg [5] (de_call h0.1 (T.glo 28) h0.2.1 h0.2.2.1 (da_cons (de_var 4) (da_cons (de_callB b_len (T.free 7) bt_len (da_cons (de_var 2) da_nil)) da_nil))) (dg_name 5 sc.nd))
  (dss_cons (ds_if (dt_cmp op_eqD' (de_fld (T.cls 3) (T.noat 6) (de_var 4)) de_str) (dss_one (ds_asg [6] (de_call h1.1 (T.glo 31) h1.2.1 h1.2.2.1 (da_cons (de_meth (Plain.of E) h2.1 (T.cls 0) (T.meth 29) h2.2.2.1 (de_var 0) (da_cons (de_fld (T.cls 3) (T.noat 30) (de_var 4)) da_nil)) (da_cons (de_lc [("place", 7)] sc.nd (show blkC N_round_done (defScope s_round_done) _ _ = true by decide +kernel) (di_seq (de_var 5)) (dg_name 7 sc.nd) dts_nil (de_ix (de_var 2) (de_var 7))) da_nil))) (dg_name 6 sc.nd))) (dss_one (ds_lc 6 [("place", 7)] sc.nd (show blkC N_round_done (defScope s_round_done) _ _ = true by decide +kernel) (di_seq (de_var 5)) (dg_name 7 sc.nd) dts_nil (de_call h3.1 (T.glo 32) h3.2.1 h3.2.2.1 (da_cons (de_var 4) (da_cons (de_var 7) (da_cons (de_var 2) da_nil)))))))
  (dss_one (ds_for [7, 8] (di_zip (T.free 33) (da_cons (de_var 5) (da_cons (de_var 6) da_nil))) (dg_tup 2 (dgs_cons (Plain.of E) (dg_name 7 sc.nd) (dgs_cons (Plain.of E) (dg_name 8 sc.nd) dgs_nil)))
  (dss_one (ds_asg [] (de_var 8) (dg_sub (de_var 3) (de_var 7)))))))))
  (dss_one (ds_ret (de_var 3)))))
theorem ok_round_done {b : Base} (T : Tx fa fn pr cs xf b) : ∃ fd, b.Ok 5 (He.ga b.K "round_done") fd P_round_done F_round_done ∧ PySem.W.keepIn b.K (.ref (He.ga b.K "round_done")) = true ∧ Binds b.K fd P_round_done [] ∧ FunD b.K "round_done" "round_done" (defArgs s_round_done) (defBody s_round_done) (defScope s_round_done) [] [] (He.ga b.K "round_done") fd := by
  obtain ⟨fd, F, B⟩ := k_round_done T
  exact ⟨fd, fn_ok false F sc_round_done (fun E => e_round_done T E), F.kp, B, F⟩
theorem sc_Book_program : FnScope N_Book_program P_Book_program (defScope s_Book_program) := ⟨rfl, rfl, rfl, by decide +kernel, rfl, by decide +kernel, by decide +kernel⟩
theorem k_Book_program {b : Base} (T : Tx fa fn pr cs xf b) : ∃ fd, FunD b.K "program" "Book.program" (defArgs s_Book_program) (defBody s_Book_program) (defScope s_Book_program) [] [] (He.ma b.K (He.ga b.K "Book") "program") fd ∧ Binds b.K fd P_Book_program [] := by
  obtain ⟨fd, F⟩ := T.s.c.def_ 16 (d := d_Book_program) rfl
  exact ⟨fd, F, F.bindsN fun _ _ _ _ _ _ us hl => match us, hl with | [_, _], _ => rfl⟩
set_option maxHeartbeats 4000000 in
theorem e_Book_program {b : Base} (T : Tx fa fn pr cs xf b) (E : XK) : DSs (b.at N_Book_program (defScope s_Book_program) 0 false) (wOf E) (defBody s_Book_program) B_Book_program := by
  have sc := sc_Book_program
  exact (dss_one (ds_ret (de_dget (de_fld (T.cls 0) (T.noat 34) (de_var 0)) (de_var 1))))
theorem ok_Book_program {b : Base} (T : Tx fa fn pr cs xf b) : ∃ fd, b.Ok 1 (He.ma b.K (He.ga b.K "Book") "program") fd P_Book_program F_Book_program ∧ PySem.W.keepIn b.K (.ref (He.ma b.K (He.ga b.K "Book") "program")) = true ∧ Binds b.K fd P_Book_program [] ∧ FunD b.K "program" "Book.program" (defArgs s_Book_program) (defBody s_Book_program) (defScope s_Book_program) [] [] (He.ma b.K (He.ga b.K "Book") "program") fd := by
  obtain ⟨fd, F, B⟩ := k_Book_program T
  exact ⟨fd, fn_ok false F sc_Book_program (fun E => e_Book_program T E), F.kp, B, F⟩
theorem sc_levels_of : FnScope N_levels_of P_levels_of (defScope s_levels_of) := ⟨rfl, rfl, rfl, by decide +kernel, rfl, by decide +kernel, by decide +kernel⟩
theorem k_levels_of {b : Base} (T : Tx fa fn pr cs xf b) : ∃ fd, FunD b.K "levels_of" "levels_of" (defArgs s_levels_of) (defBody s_levels_of) (defScope s_levels_of) [] [] (He.ga b.K "levels_of") fd ∧ Binds b.K fd P_levels_of [] := by
  obtain ⟨fd, F⟩ := T.s.c.def_ 17 (d := d_levels_of) rfl
  exact ⟨fd, F, F.bindsN fun _ _ _ _ _ _ us hl => match us, hl with | [_, _, _], _ => rfl⟩
set_option maxHeartbeats 4000000 in
theorem e_levels_of {b : Base} (T : Tx fa fn pr cs xf b) (E : XK) : DSs (b.at N_levels_of (defScope s_levels_of) 5 false) (wOf E) (defBody s_levels_of) B_levels_of := by
  obtain ⟨fdh0, h0⟩ := ok_Book_program T
  obtain ⟨fdh1, h1⟩ := ok_round_done T
  have sc := sc_levels_of
  exact (dss_cons (ds_asg [3] (de_new (da_cons (de_lc [("place", 5)] sc.nd (show blkC N_levels_of (defScope s_levels_of) _ _ = true by decide +kernel) (di_range1 (T.free 11) (da_cons (de_var 2) da_nil)) (dg_name 5 sc.nd) dts_nil (de_tup (da_cons (de_var 5) (da_cons (de_op op_addD (de_var 5) de_int) da_nil)))) da_nil)) (dg_name 3 sc.nd))
  (dss_cons (ds_for [4] (di_seq (de_meth (Plain.of E) h0.1 (T.cls 0) (T.meth 35) h0.2.2.1 (de_var 0) (da_cons (de_var 1) da_nil))) (dg_name 4 sc.nd)
  (dss_one (ds_expr (de_bm PySem.F.plainAttrs_list PySem.F.slot_list_append PySem.F.type_list_append m_append (de_var 3) (da_cons (de_call h1.1 (T.glo 36) h1.2.1 h1.2.2.1 (da_cons (de_var 0) (da_cons (de_var 4) (da_cons (de_ix (de_var 3) (de_neg de_int)) da_nil)))) da_nil)))))
  (dss_one (ds_ret (de_var 3)))))
theorem ok_levels_of {b : Base} (T : Tx fa fn pr cs xf b) : ∃ fd, b.Ok 6 (He.ga b.K "levels_of") fd P_levels_of F_levels_of ∧ PySem.W.keepIn b.K (.ref (He.ga b.K "levels_of")) = true ∧ Binds b.K fd P_levels_of [] ∧ FunD b.K "levels_of" "levels_of" (defArgs s_levels_of) (defBody s_levels_of) (defScope s_levels_of) [] [] (He.ga b.K "levels_of") fd := by
  obtain ⟨fd, F, B⟩ := k_levels_of T
  exact ⟨fd, fn_ok false F sc_levels_of (fun E => e_levels_of T E), F.kp, B, F⟩
theorem sc_check_size : FnScope N_check_size P_check_size (defScope s_check_size) := ⟨rfl, rfl, rfl, by decide +kernel, rfl, by decide +kernel, by decide +kernel⟩
theorem k_check_size {b : Base} (T : Tx fa fn pr cs xf b) : ∃ fd, FunD b.K "check_size" "check_size" (defArgs s_check_size) (defBody s_check_size) (defScope s_check_size) [] [] (He.ga b.K "check_size") fd ∧ Binds b.K fd P_check_size [] := by
  obtain ⟨fd, F⟩ := T.s.c.def_ 18 (d := d_check_size) rfl
  exact ⟨fd, F, F.bindsN fun _ _ _ _ _ _ us hl => match us, hl with | [_, _], _ => rfl⟩
set_option maxHeartbeats 4000000 in
theorem e_check_size {b : Base} (T : Tx fa fn pr cs xf b) (E : XK) : DSs (b.at N_check_size (defScope s_check_size) 2 false) (wOf E) (defBody s_check_size) B_check_size := by
  obtain ⟨fdh0, h0⟩ := ok_is_between T
  have sc := sc_check_size
  exact (dss_one (ds_if (dt_not (dt_val (de_call h0.1 (T.glo 22) h0.2.1 h0.2.2.1 (da_cons (de_var 0) (da_cons de_int (da_cons (de_var 1) da_nil)))))) (dss_one ds_never) dss_nil))
theorem ok_check_size {b : Base} (T : Tx fa fn pr cs xf b) : ∃ fd, b.Ok 3 (He.ga b.K "check_size") fd P_check_size F_check_size ∧ PySem.W.keepIn b.K (.ref (He.ga b.K "check_size")) = true ∧ Binds b.K fd P_check_size [] ∧ FunD b.K "check_size" "check_size" (defArgs s_check_size) (defBody s_check_size) (defScope s_check_size) [] [] (He.ga b.K "check_size") fd := by
  obtain ⟨fd, F, B⟩ := k_check_size T
  exact ⟨fd, fn_ok false F sc_check_size (fun E => e_check_size T E), F.kp, B, F⟩
theorem sc_check_plan : FnScope N_check_plan P_check_plan (defScope s_check_plan) := ⟨rfl, rfl, rfl, by decide +kernel, rfl, by decide +kernel, by decide +kernel⟩
theorem k_check_plan {b : Base} (T : Tx fa fn pr cs xf b) : ∃ fd, FunD b.K "check_plan" "check_plan" (defArgs s_check_plan) (defBody s_check_plan) (defScope s_check_plan) [] [] (He.ga b.K "check_plan") fd ∧ Binds b.K fd P_check_plan [] := by
  obtain ⟨fd, F⟩ := T.s.c.def_ 19 (d := d_check_plan) rfl
  exact ⟨fd, F, F.bindsN fun _ _ _ _ _ _ us hl => match us, hl with | [_, _], _ => rfl⟩
set_option maxHeartbeats 4000000 in
theorem e_check_plan {b : Base} (T : Tx fa fn pr cs xf b) (E : XK) : DSs (b.at N_check_plan (defScope s_check_plan) 1 false) (wOf E) (defBody s_check_plan) B_check_plan := by
  obtain ⟨fdh0, h0⟩ := ok_Book_plan T
  have sc := sc_check_plan
  exact (dss_one (ds_expr (de_meth (Plain.of E) h0.1 (T.cls 0) (T.meth 23) h0.2.2.1 (de_var 0) (da_cons (de_var 1) da_nil))))
theorem ok_check_plan {b : Base} (T : Tx fa fn pr cs xf b) : ∃ fd, b.Ok 2 (He.ga b.K "check_plan") fd P_check_plan F_check_plan ∧ PySem.W.keepIn b.K (.ref (He.ga b.K "check_plan")) = true ∧ Binds b.K fd P_check_plan [] ∧ FunD b.K "check_plan" "check_plan" (defArgs s_check_plan) (defBody s_check_plan) (defScope s_check_plan) [] [] (He.ga b.K "check_plan") fd := by
  obtain ⟨fd, F, B⟩ := k_check_plan T
  exact ⟨fd, fn_ok false F sc_check_plan (fun E => e_check_plan T E), F.kp, B, F⟩
theorem sc_check_book : FnScope N_check_book P_check_book (defScope s_check_book) := ⟨rfl, rfl, rfl, by decide +kernel, rfl, by decide +kernel, by decide +kernel⟩
theorem k_check_book {b : Base} (T : Tx fa fn pr cs xf b) : ∃ fd, FunD b.K "check_book" "check_book" (defArgs s_check_book) (defBody s_check_book) (defScope s_check_book) [] [] (He.ga b.K "check_book") fd ∧ Binds b.K fd P_check_book [] := by
  obtain ⟨fd, F⟩ := T.s.c.def_ 20 (d := d_check_book) rfl
  exact ⟨fd, F, F.bindsN fun _ _ _ _ _ _ us hl => match us, hl with | [_], _ => rfl⟩
set_option maxHeartbeats 4000000 in
theorem e_check_book {b : Base} (T : Tx fa fn pr cs xf b) (E : XK) : DSs (b.at N_check_book (defScope s_check_book) 0 false) (wOf E) (defBody s_check_book) B_check_book := by
  have sc := sc_check_book
  exact (dss_one (ds_if (dt_not (dt_val (de_callB (b_isi T.s.isi) (T.free 15) bt_isinstance (da_cons (de_var 0) (da_cons (de_glo (T.glo 37)) da_nil))))) (dss_one ds_never) dss_nil))
theorem ok_check_book {b : Base} (T : Tx fa fn pr cs xf b) : ∃ fd, b.Ok 1 (He.ga b.K "check_book") fd P_check_book F_check_book ∧ PySem.W.keepIn b.K (.ref (He.ga b.K "check_book")) = true ∧ Binds b.K fd P_check_book [] ∧ FunD b.K "check_book" "check_book" (defArgs s_check_book) (defBody s_check_book) (defScope s_check_book) [] [] (He.ga b.K "check_book") fd := by
  obtain ⟨fd, F, B⟩ := k_check_book T
  exact ⟨fd, fn_ok false F sc_check_book (fun E => e_check_book T E), F.kp, B, F⟩
theorem sc_level : FnScope N_level P_level (defScope s_level) := ⟨rfl, rfl, rfl, by decide +kernel, rfl, by decide +kernel, by decide +kernel⟩
theorem k_level {b : Base} (T : Tx fa fn pr cs xf b) : ∃ fd, FunD b.K "level" "level" (defArgs s_level) (defBody s_level) (defScope s_level) [] [] (He.ga b.K "level") fd ∧ Binds b.K fd P_level [] := by
  obtain ⟨fd, F⟩ := T.s.c.def_ 21 (d := d_level) rfl
  exact ⟨fd, F, F.bindsN fun _ _ _ _ _ _ us hl => match us, hl with | [_, _, _], _ => rfl⟩
set_option maxHeartbeats 4000000 in
theorem e_level {b : Base} (T : Tx fa fn pr cs xf b) (E : XK) : DSs (b.at N_level (defScope s_level) 6 false) (wOf E) (defBody s_level) B_level := by
  obtain ⟨fdh0, h0⟩ := ok_check_book T
  obtain ⟨fdh1, h1⟩ := ok_check_plan T
  obtain ⟨fdh2, h2⟩ := ok_check_size T
  obtain ⟨fdh3, h3⟩ := ok_levels_of T
  have sc := sc_level
  exact (dss_cons (ds_expr (de_call h0.1 (T.glo 38) h0.2.1 h0.2.2.1 (da_cons (de_var 0) da_nil)))
  (dss_cons (ds_expr (de_call h1.1 (T.glo 39) h1.2.1 h1.2.2.1 (da_cons (de_var 0) (da_cons (de_var 1) da_nil))))
  (dss_cons (ds_expr (de_call h2.1 (T.glo 41) h2.2.1 h2.2.2.1 (da_cons (de_var 2) (da_cons (de_gint (T.int 40)) da_nil))))
  (dss_one (ds_ret (de_callT b_tuple (T.free 43) bt_tuple (da_cons (de_lc [("words", 3)] sc.nd (show blkC N_level (defScope s_level) _ _ = true by decide +kernel) (di_seq (de_call h3.1 (T.glo 42) h3.2.1 h3.2.2.1 (da_cons (de_var 0) (da_cons (de_var 1) (da_cons (de_var 2) da_nil))))) (dg_name 3 sc.nd) dts_nil (de_callT b_tuple (T.free 43) bt_tuple (da_cons (de_var 3) da_nil))) da_nil)))))))
theorem ok_level {b : Base} (T : Tx fa fn pr cs xf b) : ∃ fd, b.Ok 7 (He.ga b.K "level") fd P_level F_level ∧ PySem.W.keepIn b.K (.ref (He.ga b.K "level")) = true ∧ Binds b.K fd P_level [] ∧ FunD b.K "level" "level" (defArgs s_level) (defBody s_level) (defScope s_level) [] [] (He.ga b.K "level") fd := by
  obtain ⟨fd, F, B⟩ := k_level T
  exact ⟨fd, fn_ok false F sc_level (fun E => e_level T E), F.kp, B, F⟩
theorem kb_level_sh_120 {b : Base} (T : Tx fa fn pr cs xf b) (fd : FuncData) (F : FunD b.K "level" "level" (defArgs s_level) (defBody s_level) (defScope s_level) [] [] (He.ga b.K "level") fd) : KBn b.K fd P_level 0 ["size", "book", "name"] (fun _ ws => sh_120 ws) (fun _ zs => sh_120 zs) := kbn_of sh_120 F (fun _ _ _ _ _ _ ws h => by match ws, h with | [w0, w1, w2], _ => rfl) sh_120_vals
theorem sc_due_run : FnScope N_due_run P_due_run (defScope s_due_run) := ⟨rfl, rfl, rfl, by decide +kernel, rfl, by decide +kernel, by decide +kernel⟩
theorem k_due_run {b : Base} (T : Tx fa fn pr cs xf b) : ∃ fd, FunD b.K "due_run" "due_run" (defArgs s_due_run) (defBody s_due_run) (defScope s_due_run) [] [] (He.ga b.K "due_run") fd ∧ Binds b.K fd P_due_run [] := by
  obtain ⟨fd, F⟩ := T.s.c.def_ 22 (d := d_due_run) rfl
  exact ⟨fd, F, F.bindsN fun _ _ _ _ _ _ us hl => match us, hl with | [_, _], _ => rfl⟩
set_option maxHeartbeats 4000000 in
theorem e_due_run {b : Base} (T : Tx fa fn pr cs xf b) (E : XK) : DSs (b.at N_due_run (defScope s_due_run) 0 false) (wOf E) (defBody s_due_run) B_due_run := by
  have sc := sc_due_run
  exact (dss_cons (ds_asg [2, 3] (de_var 0) (dg_tup 2 (dgs_cons (Plain.of E) (dg_name 2 sc.nd) (dgs_cons (Plain.of E) (dg_name 3 sc.nd) dgs_nil))))
  (dss_cons (ds_if (dt_cmp op_eqD' (de_var 2) de_str) (dss_one (ds_ret (de_tup (da_cons de_int (da_cons (de_op op_addD (de_var 1) de_int) da_nil))))) dss_nil)
  (dss_one (ds_ret (de_if (dt_cmp op_eqD' (de_var 2) de_str) (de_tup (da_cons de_int (da_cons (de_var 1) da_nil))) (de_tup (da_cons (de_callB b_max (T.free 12) bt_max (da_cons de_int (da_cons (de_op op_addD (de_op op_subD (de_var 1) (de_var 3)) de_int) da_nil))) (da_cons (de_op op_addD (de_var 1) de_int) da_nil))))))))
theorem ok_due_run {b : Base} (T : Tx fa fn pr cs xf b) : ∃ fd, b.Ok 1 (He.ga b.K "due_run") fd P_due_run F_due_run ∧ PySem.W.keepIn b.K (.ref (He.ga b.K "due_run")) = true ∧ Binds b.K fd P_due_run [] ∧ FunD b.K "due_run" "due_run" (defArgs s_due_run) (defBody s_due_run) (defScope s_due_run) [] [] (He.ga b.K "due_run") fd := by
  obtain ⟨fd, F, B⟩ := k_due_run T
  exact ⟨fd, fn_ok false F sc_due_run (fun E => e_due_run T E), F.kp, B, F⟩
theorem sc_wrong_places : FnScope N_wrong_places P_wrong_places (defScope s_wrong_places) := ⟨rfl, rfl, rfl, by decide +kernel, rfl, by decide +kernel, by decide +kernel⟩
theorem k_wrong_places {b : Base} (T : Tx fa fn pr cs xf b) : ∃ fd, FunD b.K "wrong_places" "wrong_places" (defArgs s_wrong_places) (defBody s_wrong_places) (defScope s_wrong_places) [] [] (He.ga b.K "wrong_places") fd ∧ Binds b.K fd P_wrong_places [] := by
  obtain ⟨fd, F⟩ := T.s.c.def_ 23 (d := d_wrong_places) rfl
  exact ⟨fd, F, F.bindsN fun _ _ _ _ _ _ us hl => match us, hl with | [_, _, _], _ => rfl⟩
set_option maxHeartbeats 4000000 in
theorem e_wrong_places {b : Base} (T : Tx fa fn pr cs xf b) (E : XK) : DSs (b.at N_wrong_places (defScope s_wrong_places) 6 false) (wOf E) (defBody s_wrong_places) B_wrong_places := by
  obtain ⟨fdh0, h0⟩ := ok_Book_goal_of T
  obtain ⟨fdh1, h1⟩ := ok_levels_of T
  obtain ⟨fdh2, h2⟩ := ok_due_run T
  have sc := sc_wrong_places
  exact (dss_cons (ds_asg [3, 4] (de_tup (da_cons (de_meth (Plain.of E) h0.1 (T.cls 0) (T.meth 29) h0.2.2.1 (de_var 0) (da_cons (de_var 1) da_nil)) (da_cons (de_ix (de_call h1.1 (T.glo 42) h1.2.1 h1.2.2.1 (da_cons (de_var 0) (da_cons (de_var 1) (da_cons (de_var 2) da_nil)))) (de_neg de_int)) da_nil))) (dg_tup 2 (dgs_cons (Plain.of E) (dg_name 3 sc.nd) (dgs_cons (Plain.of E) (dg_name 4 sc.nd) dgs_nil))) (hw := by (intro env h; cases env; cases h; rfl)))
  (dss_one (ds_ret (de_lc [("place", 5)] sc.nd (show blkC N_wrong_places (defScope s_wrong_places) _ _ = true by decide +kernel) (di_range1 (T.free 11) (da_cons (de_var 2) da_nil)) (dg_name 5 sc.nd) (dts_one (dt_cmp op_neD' (de_ix (de_var 4) (de_var 5)) (de_call h2.1 (T.glo 44) h2.2.1 h2.2.2.1 (da_cons (de_var 3) (da_cons (de_var 5) da_nil))))) (de_var 5)))))
theorem ok_wrong_places {b : Base} (T : Tx fa fn pr cs xf b) : ∃ fd, b.Ok 7 (He.ga b.K "wrong_places") fd P_wrong_places F_wrong_places ∧ PySem.W.keepIn b.K (.ref (He.ga b.K "wrong_places")) = true ∧ Binds b.K fd P_wrong_places [] ∧ FunD b.K "wrong_places" "wrong_places" (defArgs s_wrong_places) (defBody s_wrong_places) (defScope s_wrong_places) [] [] (He.ga b.K "wrong_places") fd := by
  obtain ⟨fd, F, B⟩ := k_wrong_places T
  exact ⟨fd, fn_ok false F sc_wrong_places (fun E => e_wrong_places T E), F.kp, B, F⟩
theorem sc_holds_at : FnScope N_holds_at P_holds_at (defScope s_holds_at) := ⟨rfl, rfl, rfl, by decide +kernel, rfl, by decide +kernel, by decide +kernel⟩
theorem k_holds_at {b : Base} (T : Tx fa fn pr cs xf b) : ∃ fd, FunD b.K "holds_at" "holds_at" (defArgs s_holds_at) (defBody s_holds_at) (defScope s_holds_at) [] [] (He.ga b.K "holds_at") fd ∧ Binds b.K fd P_holds_at [] := by
  obtain ⟨fd, F⟩ := T.s.c.def_ 24 (d := d_holds_at) rfl
  exact ⟨fd, F, F.bindsN fun _ _ _ _ _ _ us hl => match us, hl with | [_, _, _], _ => rfl⟩
set_option maxHeartbeats 4000000 in
theorem e_holds_at {b : Base} (T : Tx fa fn pr cs xf b) (E : XK) : DSs (b.at N_holds_at (defScope s_holds_at) 7 false) (wOf E) (defBody s_holds_at) B_holds_at := by
  obtain ⟨fdh0, h0⟩ := ok_Book_plan T
  obtain ⟨fdh1, h1⟩ := ok_wrong_places T
  have sc := sc_holds_at
  exact (dss_one (ds_ret (de_or (de_cmp op_leD (de_var 2) (de_ix (de_meth (Plain.of E) h0.1 (T.cls 0) (T.meth 23) h0.2.2.1 (de_var 0) (da_cons (de_var 1) da_nil)) de_int)) (de_one (de_cmp op_eqD' (de_call h1.1 (T.glo 45) h1.2.1 h1.2.2.1 (da_cons (de_var 0) (da_cons (de_var 1) (da_cons (de_var 2) da_nil)))) (de_lst da_nil))))))
theorem ok_holds_at {b : Base} (T : Tx fa fn pr cs xf b) : ∃ fd, b.Ok 8 (He.ga b.K "holds_at") fd P_holds_at F_holds_at ∧ PySem.W.keepIn b.K (.ref (He.ga b.K "holds_at")) = true ∧ Binds b.K fd P_holds_at [] ∧ FunD b.K "holds_at" "holds_at" (defArgs s_holds_at) (defBody s_holds_at) (defScope s_holds_at) [] [] (He.ga b.K "holds_at") fd := by
  obtain ⟨fd, F, B⟩ := k_holds_at T
  exact ⟨fd, fn_ok false F sc_holds_at (fun E => e_holds_at T E), F.kp, B, F⟩
theorem sc_holds : FnScope N_holds P_holds (defScope s_holds) := ⟨rfl, rfl, rfl, by decide +kernel, rfl, by decide +kernel, by decide +kernel⟩
theorem k_holds {b : Base} (T : Tx fa fn pr cs xf b) : ∃ fd, FunD b.K "holds" "holds" (defArgs s_holds) (defBody s_holds) (defScope s_holds) [] [] (He.ga b.K "holds") fd ∧ Binds b.K fd P_holds [] := by
  obtain ⟨fd, F⟩ := T.s.c.def_ 25 (d := d_holds) rfl
  exact ⟨fd, F, F.bindsN fun _ _ _ _ _ _ us hl => match us, hl with | [_, _, _], _ => rfl⟩
set_option maxHeartbeats 4000000 in
theorem e_holds {b : Base} (T : Tx fa fn pr cs xf b) (E : XK) : DSs (b.at N_holds (defScope s_holds) 8 false) (wOf E) (defBody s_holds) B_holds := by
  obtain ⟨fdh0, h0⟩ := ok_check_book T
  obtain ⟨fdh1, h1⟩ := ok_check_plan T
  obtain ⟨fdh2, h2⟩ := ok_check_size T
  obtain ⟨fdh3, h3⟩ := ok_holds_at T
  have sc := sc_holds
  exact (dss_cons (ds_expr (de_call h0.1 (T.glo 38) h0.2.1 h0.2.2.1 (da_cons (de_var 0) da_nil)))
  (dss_cons (ds_expr (de_call h1.1 (T.glo 39) h1.2.1 h1.2.2.1 (da_cons (de_var 0) (da_cons (de_var 1) da_nil))))
  (dss_cons (ds_expr (de_call h2.1 (T.glo 41) h2.2.1 h2.2.2.1 (da_cons (de_var 2) (da_cons (de_gint (T.int 40)) da_nil))))
  (dss_one (ds_ret (de_call h3.1 (T.glo 46) h3.2.1 h3.2.2.1 (da_cons (de_var 0) (da_cons (de_var 1) (da_cons (de_var 2) da_nil)))))))))
theorem ok_holds {b : Base} (T : Tx fa fn pr cs xf b) : ∃ fd, b.Ok 9 (He.ga b.K "holds") fd P_holds F_holds ∧ PySem.W.keepIn b.K (.ref (He.ga b.K "holds")) = true ∧ Binds b.K fd P_holds [] ∧ FunD b.K "holds" "holds" (defArgs s_holds) (defBody s_holds) (defScope s_holds) [] [] (He.ga b.K "holds") fd := by
  obtain ⟨fd, F, B⟩ := k_holds T
  exact ⟨fd, fn_ok false F sc_holds (fun E => e_holds T E), F.kp, B, F⟩
theorem kb_holds_sh_210 {b : Base} (T : Tx fa fn pr cs xf b) (fd : FuncData) (F : FunD b.K "holds" "holds" (defArgs s_holds) (defBody s_holds) (defScope s_holds) [] [] (He.ga b.K "holds") fd) : KBn b.K fd P_holds 0 ["size", "name", "book"] (fun _ ws => sh_210 ws) (fun _ zs => sh_210 zs) := kbn_of sh_210 F (fun _ _ _ _ _ _ ws h => by match ws, h with | [w0, w1, w2], _ => rfl) sh_210_vals
theorem sc__law_due : FnScope N__law_due P__law_due (defScope s__law_due) := ⟨rfl, rfl, rfl, by decide +kernel, rfl, by decide +kernel, by decide +kernel⟩
theorem k__law_due {b : Base} (T : Tx fa fn pr cs xf b) : ∃ fd, FunD b.K "_law_due" "_law_due" (defArgs s__law_due) (defBody s__law_due) (defScope s__law_due) [] [] (He.ga b.K "_law_due") fd ∧ Binds b.K fd P__law_due [] := by
  obtain ⟨fd, F⟩ := T.s.c.def_ 26 (d := d__law_due) rfl
  exact ⟨fd, F, F.bindsN fun _ _ _ _ _ _ us hl => match us, hl with | [_, _], _ => rfl⟩
set_option maxHeartbeats 4000000 in
theorem e__law_due {b : Base} (T : Tx fa fn pr cs xf b) (E : XK) : DSs (b.at N__law_due (defScope s__law_due) 0 true) (wOf E) (defBody s__law_due) B__law_due := by
  have sc := sc__law_due
  exact (dss_cons (ds_if (dt_cmp op_eqD' (de_ix (de_var 0) de_int) de_str) (dss_one (ds_ret (de_tupR2 (T.free 43) (T.free 11) (de_callB b_max (T.free 12) bt_max (da_cons de_int (da_cons (de_op op_subD (de_op op_addD (de_var 1) de_int) (de_ix (de_var 0) de_int)) da_nil))) (de_op op_addD (de_var 1) de_int)))) dss_nil)
  (dss_one (ds_ret (de_tupR1 (T.free 43) (T.free 11) (de_if (dt_cmp op_eqD' (de_ix (de_var 0) de_int) de_str) (de_op op_addD (de_var 1) de_int) (de_var 1))))))
theorem ok__law_due {b : Base} (T : Tx fa fn pr cs xf b) : ∃ fd, FnG b 1 (He.ga b.K "_law_due") fd P__law_due F__law_due ∧ PySem.W.keepIn b.K (.ref (He.ga b.K "_law_due")) = true ∧ Binds b.K fd P__law_due [] ∧ True := by
  obtain ⟨fd, F, B⟩ := k__law_due T
  exact ⟨fd, fnG_ok false F sc__law_due (fun E => e__law_due T E), F.kp, B, trivial⟩
theorem sc__law_joint : FnScope N__law_joint P__law_joint (defScope s__law_joint) := ⟨rfl, rfl, rfl, by decide +kernel, rfl, by decide +kernel, by decide +kernel⟩
theorem k__law_joint {b : Base} (T : Tx fa fn pr cs xf b) : ∃ fd, FunD b.K "_law_joint" "_law_joint" (defArgs s__law_joint) (defBody s__law_joint) (defScope s__law_joint) [] [] (He.ga b.K "_law_joint") fd ∧ Binds b.K fd P__law_joint [] := by
  obtain ⟨fd, F⟩ := T.s.c.def_ 27 (d := d__law_joint) rfl
  exact ⟨fd, F, F.bindsN fun _ _ _ _ _ _ us hl => match us, hl with | [_, _], _ => rfl⟩
set_option maxHeartbeats 4000000 in
theorem e__law_joint {b : Base} (T : Tx fa fn pr cs xf b) (E : XK) : DSs (b.at N__law_joint (defScope s__law_joint) 0 true) (wOf E) (defBody s__law_joint) B__law_joint := by
  have sc := sc__law_joint
  exact (dss_cons (ds_if (dt_w (dw_or (dt_cmp op_isD (de_var 0) de_non) (dw_or1 (dt_cmp op_isD (de_var 1) de_non)))) (dss_one (ds_ret de_non)) dss_nil)
  (dss_cons (ds_if (dt_w (dw_or (dt_cmp op_eqD' (de_var 0) (de_tup da_nil)) (dw_or (dt_cmp op_eqD' (de_var 1) (de_tup da_nil)) (dw_or1 (dt_cmp op_eqD' (de_op op_addD (de_ix (de_var 0) (de_neg de_int)) de_int) (de_ix (de_var 1) de_int)))))) (dss_one (ds_ret (de_op op_addD (de_var 0) (de_var 1)))) dss_nil)
  (dss_one (ds_ret de_non))))
theorem ok__law_joint {b : Base} (T : Tx fa fn pr cs xf b) : ∃ fd, FnG b 1 (He.ga b.K "_law_joint") fd P__law_joint F__law_joint ∧ PySem.W.keepIn b.K (.ref (He.ga b.K "_law_joint")) = true ∧ Binds b.K fd P__law_joint [] ∧ True := by
  obtain ⟨fd, F, B⟩ := k__law_joint T
  exact ⟨fd, fnG_ok false F sc__law_joint (fun E => e__law_joint T E), F.kp, B, trivial⟩
theorem sc__law_all_joint : FnScope N__law_all_joint P__law_all_joint (defScope s__law_all_joint) := ⟨rfl, rfl, rfl, by decide +kernel, rfl, by decide +kernel, by decide +kernel⟩
theorem k__law_all_joint {b : Base} (T : Tx fa fn pr cs xf b) : ∃ fd, FunD b.K "_law_all_joint" "_law_all_joint" (defArgs s__law_all_joint) (defBody s__law_all_joint) (defScope s__law_all_joint) [] [] (He.ga b.K "_law_all_joint") fd ∧ Binds b.K fd P__law_all_joint [] := by
  obtain ⟨fd, F⟩ := T.s.c.def_ 28 (d := d__law_all_joint) rfl
  exact ⟨fd, F, F.bindsN fun _ _ _ _ _ _ us hl => match us, hl with | [_], _ => rfl⟩
set_option maxHeartbeats 4000000 in
theorem e__law_all_joint {b : Base} (T : Tx fa fn pr cs xf b) (E : XK) : DSs (b.at N__law_all_joint (defScope s__law_all_joint) 1 true) (wOf E) (defBody s__law_all_joint) B__law_all_joint := by
  obtain ⟨fdh0, h0⟩ := ok__law_joint T
  have sc := sc__law_all_joint
  exact (dss_cons (ds_asg [1] (de_tup da_nil) (dg_name 1 sc.nd))
  (dss_cons (ds_for [2] (di_seq (de_var 0)) (dg_name 2 sc.nd)
  (dss_one (ds_asg [1] (de_callG h0.1 (T.glo 47) h0.2.1 h0.2.2.1 (da_cons (de_var 1) (da_cons (de_var 2) da_nil))) (dg_name 1 sc.nd))))
  (dss_one (ds_ret (de_var 1)))))
theorem ok__law_all_joint {b : Base} (T : Tx fa fn pr cs xf b) : ∃ fd, FnG b 2 (He.ga b.K "_law_all_joint") fd P__law_all_joint F__law_all_joint ∧ PySem.W.keepIn b.K (.ref (He.ga b.K "_law_all_joint")) = true ∧ Binds b.K fd P__law_all_joint [] ∧ True := by
  obtain ⟨fd, F, B⟩ := k__law_all_joint T
  exact ⟨fd, fnG_ok false F sc__law_all_joint (fun E => e__law_all_joint T E), F.kp, B, trivial⟩
theorem sc__law_says : FnScope N__law_says P__law_says (defScope s__law_says) := ⟨rfl, rfl, rfl, by decide +kernel, rfl, by decide +kernel, by decide +kernel⟩
theorem k__law_says {b : Base} (T : Tx fa fn pr cs xf b) : ∃ fd, FunD b.K "_law_says" "_law_says" (defArgs s__law_says) (defBody s__law_says) (defScope s__law_says) [] [] (He.ga b.K "_law_says") fd ∧ Binds b.K fd P__law_says [] := by
  obtain ⟨fd, F⟩ := T.s.c.def_ 29 (d := d__law_says) rfl
  exact ⟨fd, F, F.bindsN fun _ _ _ _ _ _ us hl => match us, hl with | [_, _], _ => rfl⟩
set_option maxHeartbeats 4000000 in
theorem e__law_says {b : Base} (T : Tx fa fn pr cs xf b) (E : XK) : DSs (b.at N__law_says (defScope s__law_says) 2 true) (wOf E) (defBody s__law_says) B__law_says := by
  obtain ⟨fdh0, h0⟩ := ok__law_all_joint T
  have sc := sc__law_says
  exact (dss_cons (ds_asg [2] (de_new da_nil) (dg_name 2 sc.nd))
  (dss_cons (ds_for [3] (di_range1 (T.free 11) (da_cons (de_callB b_len (T.free 7) bt_len (da_cons (de_var 1) da_nil)) da_nil)) (dg_name 3 sc.nd)
  (dss_one (ds_if (dt_cmp op_eqD' (de_ix (de_var 0) de_int) de_str) (dss_one (ds_expr (de_bm PySem.F.plainAttrs_list PySem.F.slot_list_append PySem.F.type_list_append m_append (de_var 2) (da_cons (de_callG h0.1 (T.glo 48) h0.2.1 h0.2.2.1 (da_cons (de_sl (de_var 1) do_none (do_some (de_op op_addD (de_var 3) de_int))) da_nil)) da_nil)))) (dss_one (ds_if (dt_cmp op_eqD' (de_ix (de_var 0) de_int) de_str) (dss_one (ds_expr (de_bm PySem.F.plainAttrs_list PySem.F.slot_list_append PySem.F.type_list_append m_append (de_var 2) (da_cons (de_callG h0.1 (T.glo 48) h0.2.1 h0.2.2.1 (da_cons (de_sl (de_var 1) do_none (do_some (de_var 3))) da_nil)) da_nil)))) (dss_one (ds_expr (de_bm PySem.F.plainAttrs_list PySem.F.slot_list_append PySem.F.type_list_append m_append (de_var 2) (da_cons (de_callG h0.1 (T.glo 48) h0.2.1 h0.2.2.1 (da_cons (de_sl (de_var 1) (do_some (de_callB b_max (T.free 12) bt_max (da_cons de_int (da_cons (de_op op_subD (de_op op_addD (de_var 3) de_int) (de_ix (de_var 0) de_int)) da_nil)))) (do_some (de_op op_addD (de_var 3) de_int))) da_nil)) da_nil)))))))))
  (dss_one (ds_ret (de_var 2)))))
theorem ok__law_says {b : Base} (T : Tx fa fn pr cs xf b) : ∃ fd, FnG b 3 (He.ga b.K "_law_says") fd P__law_says F__law_says ∧ PySem.W.keepIn b.K (.ref (He.ga b.K "_law_says")) = true ∧ Binds b.K fd P__law_says [] ∧ True := by
  obtain ⟨fd, F, B⟩ := k__law_says T
  exact ⟨fd, fnG_ok false F sc__law_says (fun E => e__law_says T E), F.kp, B, trivial⟩
theorem sc__law_done : FnScope N__law_done P__law_done (defScope s__law_done) := ⟨rfl, rfl, rfl, by decide +kernel, rfl, by decide +kernel, by decide +kernel⟩
theorem k__law_done {b : Base} (T : Tx fa fn pr cs xf b) : ∃ fd, FunD b.K "_law_done" "_law_done" (defArgs s__law_done) (defBody s__law_done) (defScope s__law_done) [] [] (He.ga b.K "_law_done") fd ∧ Binds b.K fd P__law_done [] := by
  obtain ⟨fd, F⟩ := T.s.c.def_ 30 (d := d__law_done) rfl
  exact ⟨fd, F, F.bindsN fun _ _ _ _ _ _ us hl => match us, hl with | [_, _, _], _ => rfl⟩
set_option maxHeartbeats 4000000 in
theorem e__law_done {b : Base} (T : Tx fa fn pr cs xf b) (E : XK) : DSs (b.at N__law_done (defScope s__law_done) 3 true) (wOf E) (defBody s__law_done) B__law_done := by
  obtain ⟨fdh0, h0⟩ := ok__law_says T
  obtain ⟨fdh1, h1⟩ := ok__law_joint T
  have sc := sc__law_done
  exact (dss_cons (ds_par 3 4 sc.nd (da_cons (de_callT b_listN (T.free 27) bt_list (da_cons (de_var 2) da_nil)) (da_cons (de_callB b_len (T.free 7) bt_len (da_cons (de_var 2) da_nil)) da_nil)))
  (dss_cons (ds_for [5, 6, 7, 8, 9, 10] (di_seq (de_var 1)) (dg_tup 6 (dgs_cons (Plain.of E) (dg_name 5 sc.nd) (dgs_cons (Plain.of E) (dg_name 6 sc.nd) (dgs_cons (Plain.of E) (dg_name 7 sc.nd) (dgs_cons (Plain.of E) (dg_name 8 sc.nd) (dgs_cons (Plain.of E) (dg_name 9 sc.nd) (dgs_cons (Plain.of E) (dg_name 10 sc.nd) dgs_nil)))))))
  (dss_cons (ds_asg [11] (de_listR3 lk_frz (T.free 27) (T.free 11) (da_cons (de_var 6) (da_cons (de_var 4) (da_cons (de_var 7) da_nil)))) (dg_name 11 sc.nd))
  (dss_cons (ds_if (dt_cmp op_eqD' (de_var 5) de_str) (dss_cons (ds_asg [12] (de_ix (de_lc [("_law_plan_here", 18)] sc.nd (show blkC N__law_done (defScope s__law_done) _ _ = true by decide +kernel) (di_seq (de_var 0)) (dg_name 18 sc.nd) (dts_one (dt_cmp op_eqD' (de_ix (de_var 18) de_int) (de_var 10))) (de_ix (de_var 18) de_int)) de_int) (dg_name 12 sc.nd))
  (dss_cons (ds_asg [13] (de_callG h0.1 (T.glo 49) h0.2.1 h0.2.2.1 (da_cons (de_var 12) (da_cons (de_lc [("_law_spot", 15)] sc.nd (show blkC N__law_done (defScope s__law_done) _ _ = true by decide +kernel) (di_seq (de_var 11)) (dg_name 15 sc.nd) dts_nil (de_ix (de_var 2) (de_var 15))) da_nil))) (dg_name 13 sc.nd))
  (dss_one (ds_for [14] (di_range1 (T.free 11) (da_cons (de_callB b_len (T.free 7) bt_len (da_cons (de_var 11) da_nil)) da_nil)) (dg_name 14 sc.nd)
  (dss_one (ds_asg [] (de_ix (de_var 13) (de_var 14)) (dg_sub (de_var 3) (de_ix (de_var 11) (de_var 14))))))))) dss_nil)
  (dss_one (ds_for [15] (di_seq (de_if (dt_cmp op_eqD' (de_var 5) de_str) (de_lst da_nil) (de_var 11))) (dg_name 15 sc.nd)
  (dss_cons (ds_asg [16] (de_if (dt_cmp op_eqD' (de_var 8) de_str) (de_op op_subD (de_var 15) (de_var 9)) (de_op op_addD (de_var 15) (de_var 9))) (dg_name 16 sc.nd))
  (dss_cons (ds_asg [17] (de_if (dt_chain op_leD op_ltD de_int (de_var 16) (de_var 4)) (de_ix (de_var 2) (de_var 16)) (de_tup da_nil)) (dg_name 17 sc.nd))
  (dss_one (ds_if (dt_cmp op_eqD' (de_var 5) de_str) (dss_one (ds_asg [] (de_if (dt_cmp op_eqD' (de_var 8) de_str) (de_callG h1.1 (T.glo 47) h1.2.1 h1.2.2.1 (da_cons (de_var 17) (da_cons (de_ix (de_var 2) (de_var 15)) da_nil))) (de_callG h1.1 (T.glo 47) h1.2.1 h1.2.2.1 (da_cons (de_ix (de_var 2) (de_var 15)) (da_cons (de_var 17) da_nil)))) (dg_sub (de_var 3) (de_var 15)))) (dss_one (ds_asg [] (de_if (dt_cmp op_eqD' (de_var 5) de_str) (de_tup da_nil) (de_var 17)) (dg_sub (de_var 3) (de_var 15)))))))))))))
  (dss_one (ds_ret (de_var 3)))))
theorem ok__law_done {b : Base} (T : Tx fa fn pr cs xf b) : ∃ fd, FnG b 4 (He.ga b.K "_law_done") fd P__law_done F__law_done ∧ PySem.W.keepIn b.K (.ref (He.ga b.K "_law_done")) = true ∧ Binds b.K fd P__law_done [] ∧ True := by
  obtain ⟨fd, F, B⟩ := k__law_done T
  exact ⟨fd, fnG_ok false F sc__law_done (fun E => e__law_done T E), F.kp, B, trivial⟩
theorem sc__law_level : FnScope N__law_level P__law_level (defScope s__law_level) := ⟨rfl, rfl, rfl, by decide +kernel, rfl, by decide +kernel, by decide +kernel⟩
theorem k__law_level {b : Base} (T : Tx fa fn pr cs xf b) : ∃ fd, FunD b.K "_law_level" "_law_level" (defArgs s__law_level) (defBody s__law_level) (defScope s__law_level) [] [] (He.ga b.K "_law_level") fd ∧ Binds b.K fd P__law_level [] := by
  obtain ⟨fd, F⟩ := T.s.c.def_ 31 (d := d__law_level) rfl
  exact ⟨fd, F, F.bindsN fun _ _ _ _ _ _ us hl => match us, hl with | [_, _, _], _ => rfl⟩
set_option maxHeartbeats 4000000 in
theorem e__law_level {b : Base} (T : Tx fa fn pr cs xf b) (E : XK) : DSs (b.at N__law_level (defScope s__law_level) 4 true) (wOf E) (defBody s__law_level) B__law_level := by
  obtain ⟨fdh0, h0⟩ := ok__law_done T
  have sc := sc__law_level
  exact (dss_cons (ds_asg [3] (de_new (da_cons (de_lc [("_law_k", 5)] sc.nd (show blkC N__law_level (defScope s__law_level) _ _ = true by decide +kernel) (di_range1 (T.free 11) (da_cons (de_var 2) da_nil)) (dg_name 5 sc.nd) dts_nil (de_tup (da_cons (de_var 5) da_nil))) da_nil)) (dg_name 3 sc.nd))
  (dss_cons (ds_for [4] (di_seq (de_ix (de_var 1) de_int)) (dg_name 4 sc.nd)
  (dss_one (ds_expr (de_bm PySem.F.plainAttrs_list PySem.F.slot_list_append PySem.F.type_list_append m_append (de_var 3) (da_cons (de_callG h0.1 (T.glo 50) h0.2.1 h0.2.2.1 (da_cons (de_var 0) (da_cons (de_var 4) (da_cons (de_ix (de_var 3) (de_neg de_int)) da_nil)))) da_nil)))))
  (dss_one (ds_ret (de_var 3)))))
theorem ok__law_level {b : Base} (T : Tx fa fn pr cs xf b) : ∃ fd, FnG b 5 (He.ga b.K "_law_level") fd P__law_level F__law_level ∧ PySem.W.keepIn b.K (.ref (He.ga b.K "_law_level")) = true ∧ Binds b.K fd P__law_level [] ∧ True := by
  obtain ⟨fd, F, B⟩ := k__law_level T
  exact ⟨fd, fnG_ok false F sc__law_level (fun E => e__law_level T E), F.kp, B, trivial⟩
theorem sc__law_faults : FnScope N__law_faults P__law_faults (defScope s__law_faults) := ⟨rfl, rfl, rfl, by decide +kernel, rfl, by decide +kernel, by decide +kernel⟩
theorem k__law_faults {b : Base} (T : Tx fa fn pr cs xf b) : ∃ fd, FunD b.K "_law_faults" "_law_faults" (defArgs s__law_faults) (defBody s__law_faults) (defScope s__law_faults) [] [] (He.ga b.K "_law_faults") fd ∧ Binds b.K fd P__law_faults [] := by
  obtain ⟨fd, F⟩ := T.s.c.def_ 32 (d := d__law_faults) rfl
  exact ⟨fd, F, F.bindsN fun _ _ _ _ _ _ us hl => match us, hl with | [_, _, _], _ => rfl⟩
set_option maxHeartbeats 4000000 in
theorem e__law_faults {b : Base} (T : Tx fa fn pr cs xf b) (E : XK) : DSs (b.at N__law_faults (defScope s__law_faults) 5 true) (wOf E) (defBody s__law_faults) B__law_faults := by
  obtain ⟨fdh0, h0⟩ := ok__law_level T
  obtain ⟨fdh1, h1⟩ := ok__law_due T
  have sc := sc__law_faults
  exact (dss_cons (ds_asg [3] (de_ix (de_callG h0.1 (T.glo 51) h0.2.1 h0.2.2.1 (da_cons (de_var 0) (da_cons (de_var 1) (da_cons (de_var 2) da_nil)))) (de_neg de_int)) (dg_name 3 sc.nd))
  (dss_one (ds_ret (de_lc [("_law_k", 4)] sc.nd (show blkC N__law_faults (defScope s__law_faults) _ _ = true by decide +kernel) (di_range1 (T.free 11) (da_cons (de_var 2) da_nil)) (dg_name 4 sc.nd) (dts_one (dt_cmp op_neD' (de_ix (de_var 3) (de_var 4)) (de_callG h1.1 (T.glo 52) h1.2.1 h1.2.2.1 (da_cons (de_ix (de_var 1) de_int) (da_cons (de_var 4) da_nil))))) (de_var 4)))))
theorem ok__law_faults {b : Base} (T : Tx fa fn pr cs xf b) : ∃ fd, FnG b 6 (He.ga b.K "_law_faults") fd P__law_faults F__law_faults ∧ PySem.W.keepIn b.K (.ref (He.ga b.K "_law_faults")) = true ∧ Binds b.K fd P__law_faults [] ∧ True := by
  obtain ⟨fd, F, B⟩ := k__law_faults T
  exact ⟨fd, fnG_ok false F sc__law_faults (fun E => e__law_faults T E), F.kp, B, trivial⟩
theorem sc__law_run : FnScope N__law_run P__law_run (defScope s__law_run) := ⟨rfl, rfl, rfl, by decide +kernel, rfl, by decide +kernel, by decide +kernel⟩
theorem k__law_run {b : Base} (T : Tx fa fn pr cs xf b) : ∃ fd, FunD b.K "_law_run" "_law_run" (defArgs s__law_run) (defBody s__law_run) (defScope s__law_run) [] [] (He.ga b.K "_law_run") fd ∧ Binds b.K fd P__law_run [] := by
  obtain ⟨fd, F⟩ := T.s.c.def_ 33 (d := d__law_run) rfl
  exact ⟨fd, F, F.bindsN fun _ _ _ _ _ _ us hl => match us, hl with | [_], _ => rfl⟩
set_option maxHeartbeats 4000000 in
theorem e__law_run {b : Base} (T : Tx fa fn pr cs xf b) (E : XK) : DSs (b.at N__law_run (defScope s__law_run) 0 true) (wOf E) (defBody s__law_run) B__law_run := by
  have sc := sc__law_run
  exact (dss_cons (ds_if (dt_cmp op_isD (de_var 0) de_non) (dss_one (ds_ret de_non)) dss_nil)
  (dss_one (ds_ret (de_if (dt_cmp op_eqD' (de_var 0) (de_tup da_nil)) (de_tup (da_cons de_int (da_cons de_int da_nil))) (de_tup (da_cons (de_ix (de_var 0) de_int) (da_cons (de_op op_addD (de_ix (de_var 0) (de_neg de_int)) de_int) da_nil)))))))
theorem ok__law_run {b : Base} (T : Tx fa fn pr cs xf b) : ∃ fd, FnG b 1 (He.ga b.K "_law_run") fd P__law_run F__law_run ∧ PySem.W.keepIn b.K (.ref (He.ga b.K "_law_run")) = true ∧ Binds b.K fd P__law_run [] ∧ True := by
  obtain ⟨fd, F, B⟩ := k__law_run T
  exact ⟨fd, fnG_ok false F sc__law_run (fun E => e__law_run T E), F.kp, B, trivial⟩
theorem sc__law_size_right : FnScope N__law_size_right P__law_size_right (defScope s__law_size_right) := ⟨rfl, rfl, rfl, by decide +kernel, rfl, by decide +kernel, by decide +kernel⟩
theorem k__law_size_right {b : Base} (T : Tx fa fn pr cs xf b) : ∃ fd, FunD b.K "_law_size_right" "_law_size_right" (defArgs s__law_size_right) (defBody s__law_size_right) (defScope s__law_size_right) [] [] (He.ga b.K "_law_size_right") fd ∧ Binds b.K fd P__law_size_right [] := by
  obtain ⟨fd, F⟩ := T.s.c.def_ 34 (d := d__law_size_right) rfl
  exact ⟨fd, F, F.bindsN fun _ _ _ _ _ _ us hl => match us, hl with | [_, _, _, _], _ => rfl⟩
set_option maxHeartbeats 4000000 in
theorem e__law_size_right {b : Base} (T : Tx fa fn pr cs xf b) (E : XK) : DSs (b.at N__law_size_right (defScope s__law_size_right) 9 true) (wOf E) (defBody s__law_size_right) B__law_size_right := by
  obtain ⟨fdh0, h0⟩ := ok__law_level T
  obtain ⟨fdh1, h1⟩ := ok__law_run T
  obtain ⟨fdh2, h2⟩ := ok_level T
  obtain ⟨fdh3, h3⟩ := ok__law_faults T
  obtain ⟨fdh4, h4⟩ := ok_holds T
  have sc := sc__law_size_right
  exact (dss_cons (ds_asg [4] (de_callT b_tuple (T.free 43) bt_tuple (da_cons (de_lc [("_law_words", 6)] sc.nd (show blkC N__law_size_right (defScope s__law_size_right) _ _ = true by decide +kernel) (di_seq (de_callG h0.1 (T.glo 51) h0.2.1 h0.2.2.1 (da_cons (de_var 0) (da_cons (de_var 2) (da_cons (de_var 3) da_nil))))) (dg_name 6 sc.nd) dts_nil (de_callT b_tuple (T.free 43) bt_tuple (da_cons (de_lc [("_law_word", 7)] sc.nd (show blkC N__law_size_right (relS _ (defScope s__law_size_right)) _ _ = true by decide +kernel) (di_seq (de_var 6)) (dg_name 7 sc.nd) dts_nil (de_callG h1.1 (T.glo 53) h1.2.1 h1.2.2.1 (da_cons (de_var 7) da_nil))) da_nil))) da_nil)) (dg_name 4 sc.nd))
  (dss_cons (ds_if (dt_cmp op_neD' (de_callB (b_repr rfl) (T.free 55) bt_repr (da_cons (de_call h2.1 (T.glo 54) h2.2.1 h2.2.2.1 (da_cons (de_var 1) (da_cons (de_ix (de_var 2) de_int) (da_cons (de_var 3) da_nil)))) da_nil)) (de_callB (b_repr rfl) (T.free 55) bt_repr (da_cons (de_var 4) da_nil))) (dss_one (ds_ret de_bl)) dss_nil)
  (dss_cons (ds_asg [5] (de_or (de_cmp op_leD (de_var 3) (de_ix (de_var 2) de_int)) (de_one (de_cmp op_eqD' (de_callG h3.1 (T.glo 56) h3.2.1 h3.2.2.1 (da_cons (de_var 0) (da_cons (de_var 2) (da_cons (de_var 3) da_nil)))) (de_lst da_nil)))) (dg_name 5 sc.nd))
  (dss_one (ds_ret (de_cmp op_eqD' (de_callB (b_repr rfl) (T.free 55) bt_repr (da_cons (de_lst (da_cons (de_call h4.1 (T.glo 57) h4.2.1 h4.2.2.1 (da_cons (de_var 1) (da_cons (de_ix (de_var 2) de_int) (da_cons (de_var 3) da_nil)))) (da_cons (de_callK sh_210 h4.1 (T.glo 57) h4.2.1 (kb_holds_sh_210 T _ h4.2.2.2) (Plain.of E) (sh_210_rp rfl) (sh_210_len rfl) (dk_cons (de_var 3) (dk_cons (de_ix (de_var 2) de_int) (dk_cons (de_var 1) dk_nil)))) da_nil))) da_nil)) (de_callB (b_repr rfl) (T.free 55) bt_repr (da_cons (de_lst (da_cons (de_var 5) (da_cons (de_var 5) da_nil))) da_nil))))))))
theorem ok__law_size_right {b : Base} (T : Tx fa fn pr cs xf b) : ∃ fd, FnG b 10 (He.ga b.K "_law_size_right") fd P__law_size_right F__law_size_right ∧ PySem.W.keepIn b.K (.ref (He.ga b.K "_law_size_right")) = true ∧ Binds b.K fd P__law_size_right [] ∧ True := by
  obtain ⟨fd, F, B⟩ := k__law_size_right T
  exact ⟨fd, fnG_ok false F sc__law_size_right (fun E => e__law_size_right T E), F.kp, B, trivial⟩
theorem sc__law_sip : FnScope N__law_sip P__law_sip (defScope s__law_sip) := ⟨rfl, rfl, rfl, by decide +kernel, rfl, by decide +kernel, by decide +kernel⟩
theorem k__law_sip {b : Base} (T : Tx fa fn pr cs xf b) : ∃ fd, FunD b.K "_law_sip" "_law_sip" (defArgs s__law_sip) (defBody s__law_sip) (defScope s__law_sip) [] [] (He.ga b.K "_law_sip") fd ∧ Binds b.K fd P__law_sip [] := by
  obtain ⟨fd, F⟩ := T.s.c.def_ 35 (d := d__law_sip) rfl
  exact ⟨fd, F, F.bindsN fun _ _ _ _ _ _ us hl => match us, hl with | [_, _], _ => rfl⟩
set_option maxHeartbeats 4000000 in
theorem e__law_sip {b : Base} (T : Tx fa fn pr cs xf b) (E : XK) : DSs (b.at N__law_sip (defScope s__law_sip) 0 true) (wOf E) (defBody s__law_sip) B__law_sip := by
  have sc := sc__law_sip
  exact (dss_cons (ds_asg [] (de_op op_addD (de_ix (de_var 0) de_int) de_int) (dg_sub (de_var 0) de_int))
  (dss_cons (ds_if (dt_cmp op_gtD (de_ix (de_var 0) de_int) de_int) (dss_cons (ds_asg [2] (de_callB b_divmod (T.free 58) bt_divmod (da_cons (de_ix (de_var 0) de_int) (da_cons (de_var 1) da_nil))) (dg_tup 2 (dgs_cons (Plain.of E) (dg_sub (de_var 0) de_int) (dgs_cons (Plain.of E) (dg_name 2 sc.nd) dgs_nil))))
  (dss_one (ds_ret (de_var 2)))) dss_nil)
  (dss_cons (ds_asg [] (de_op op_modD (de_callT b_int (T.free 14) bt_int (da_cons (de_op op_addD (de_op op_mulD (de_ix (de_var 0) de_int) de_int) (de_op op_mulD de_int (de_ix (de_var 0) de_int))) da_nil)) de_int) (dg_sub (de_var 0) de_int))
  (dss_one (ds_ret (de_op op_modD (de_callT b_int (T.free 14) bt_int (da_cons (de_op op_divD (de_ix (de_var 0) de_int) de_int) da_nil)) (de_var 1)))))))
theorem ok__law_sip {b : Base} (T : Tx fa fn pr cs xf b) : ∃ fd, FnG b 1 (He.ga b.K "_law_sip") fd P__law_sip F__law_sip ∧ PySem.W.keepIn b.K (.ref (He.ga b.K "_law_sip")) = true ∧ Binds b.K fd P__law_sip [] ∧ True := by
  obtain ⟨fd, F, B⟩ := k__law_sip T
  exact ⟨fd, fnG_ok false F sc__law_sip (fun E => e__law_sip T E), F.kp, B, trivial⟩
theorem sc_meet : FnScope N_meet P_meet (defScope s_meet) := ⟨rfl, rfl, rfl, by decide +kernel, rfl, by decide +kernel, by decide +kernel⟩
theorem k_meet {b : Base} (T : Tx fa fn pr cs xf b) : ∃ fd, FunD b.K "meet" "meet" (defArgs s_meet) (defBody s_meet) (defScope s_meet) [] [] (He.ga b.K "meet") fd ∧ Binds b.K fd P_meet [] := by
  obtain ⟨fd, F⟩ := T.s.c.def_ 36 (d := d_meet) rfl
  exact ⟨fd, F, F.bindsN fun _ _ _ _ _ _ us hl => match us, hl with | [_, _], _ => rfl⟩
set_option maxHeartbeats 4000000 in
theorem e_meet {b : Base} (T : Tx fa fn pr cs xf b) (E : XK) : DSs (b.at N_meet (defScope s_meet) 0 false) (wOf E) (defBody s_meet) B_meet := by
  have sc := sc_meet
  exact (dss_one (ds_ret (de_or (de_cmp op_neD' (de_fld (T.cls 3) (T.noat 26) (de_var 0)) (de_fld (T.cls 3) (T.noat 26) (de_var 1))) (de_one (de_cmp op_eqD' (de_fld (T.cls 3) (T.noat 25) (de_var 0)) (de_fld (T.cls 3) (T.noat 25) (de_var 1)))))))
theorem ok_meet {b : Base} (T : Tx fa fn pr cs xf b) : ∃ fd, b.Ok 1 (He.ga b.K "meet") fd P_meet F_meet ∧ PySem.W.keepIn b.K (.ref (He.ga b.K "meet")) = true ∧ Binds b.K fd P_meet [] ∧ FunD b.K "meet" "meet" (defArgs s_meet) (defBody s_meet) (defScope s_meet) [] [] (He.ga b.K "meet") fd := by
  obtain ⟨fd, F, B⟩ := k_meet T
  exact ⟨fd, fn_ok false F sc_meet (fun E => e_meet T E), F.kp, B, F⟩
theorem sc_Clause_D_initD_ : FnScope N_Clause_D_initD_ P_Clause_D_initD_ (defScope s_Clause_D_initD_) := ⟨rfl, rfl, rfl, by decide +kernel, rfl, by decide +kernel, by decide +kernel⟩
theorem k_Clause_D_initD_ {b : Base} (T : Tx fa fn pr cs xf b) : ∃ fd, FunD b.K "__init__" "Clause.__init__" (defArgs s_Clause_D_initD_) (defBody s_Clause_D_initD_) (defScope s_Clause_D_initD_) [.non, .non, .non] [] (He.ma b.K (He.ga b.K "Clause") "__init__") fd := by
  obtain ⟨fd, F⟩ := T.s.c.def_ 37 (d := d_Clause_D_initD_) rfl
  exact ⟨fd, F⟩
set_option maxHeartbeats 4000000 in
theorem e_Clause_D_initD_ {b : Base} (T : Tx fa fn pr cs xf b) (E : XK) : DSs (b.at N_Clause_D_initD_ (defScope s_Clause_D_initD_) 0 false) (wOf E) (defBody s_Clause_D_initD_) B_Clause_D_initD_ := by
  have sc := sc_Clause_D_initD_
  exact (dss_cons (ds_fld (T.cls 3) (T.noat 6) (de_var 0) (de_var 1))
  (dss_cons (ds_fld (T.cls 3) (T.noat 25) (de_var 0) (de_var 2))
  (dss_cons (ds_fld (T.cls 3) (T.noat 26) (de_var 0) (de_var 3))
  (dss_cons (ds_fld (T.cls 3) (T.noat 4) (de_var 0) (de_var 4))
  (dss_cons (ds_fld (T.cls 3) (T.noat 5) (de_var 0) (de_var 5))
  (dss_one (ds_fld (T.cls 3) (T.noat 30) (de_var 0) (de_var 6))))))))
theorem ok_Clause_D_initD_ {b : Base} (T : Tx fa fn pr cs xf b) : ∃ fd, b.Ok 1 (He.ma b.K (He.ga b.K "Clause") "__init__") fd P_Clause_D_initD_ F_Clause_D_initD_ ∧ PySem.W.keepIn b.K (.ref (He.ma b.K (He.ga b.K "Clause") "__init__")) = true ∧ True ∧ FunD b.K "__init__" "Clause.__init__" (defArgs s_Clause_D_initD_) (defBody s_Clause_D_initD_) (defScope s_Clause_D_initD_) [.non, .non, .non] [] (He.ma b.K (He.ga b.K "Clause") "__init__") fd := by
  obtain ⟨fd, F⟩ := k_Clause_D_initD_ T
  exact ⟨fd, fn_ok false F sc_Clause_D_initD_ (fun E => e_Clause_D_initD_ T E), F.kp, trivial, F⟩
theorem kbn_Clause_D_initD__3 {b : Base} (T : Tx fa fn pr cs xf b) (fd : FuncData) (F : FunD b.K "__init__" "Clause.__init__" (defArgs s_Clause_D_initD_) (defBody s_Clause_D_initD_) (defScope s_Clause_D_initD_) [.non, .non, .non] [] (He.ma b.K (He.ga b.K "Clause") "__init__") fd) : ∃ its : List Value, KBn b.K fd P_Clause_D_initD_ 4 ["goal"] (fun us ws => us ++ (its.take 2 ++ ws)) (fun vs zs => vs ++ (([.non, .non, .non] : List V).take 2 ++ zs)) := F.kbindsD 4 ["goal"] (fun us its ws => us ++ (its.take 2 ++ ws)) (by simp) (fun r1 r2 r3 => r1.append ((r2.take 2).append r3)) (fun T kV doc pm an cdv ct us its ws h1 h2 h3 => by
    match us, its, ws, h1, h2, h3 with
    | [_, _, _, _], [_, _, _], [_], _, _, _ => exact ⟨_, rfl, rfl⟩)
theorem bd_Clause_D_initD__3 {b : Base} (T : Tx fa fn pr cs xf b) (fd : FuncData) (F : FunD b.K "__init__" "Clause.__init__" (defArgs s_Clause_D_initD_) (defBody s_Clause_D_initD_) (defScope s_Clause_D_initD_) [.non, .non, .non] [] (He.ma b.K (He.ga b.K "Clause") "__init__") fd) : ∃ ds, Vals (([.non, .non, .non] : List V).drop 0) ds ∧ Binds b.K fd P_Clause_D_initD_ ds := F.binds1 4 0 (by simp) rfl (fun T kV doc pm an cdv ct us its h1 h2 => by
    match us, its, h1, h2 with
    | [_, _, _, _], [_, _, _], _, _ => exact ⟨_, rfl, rfl⟩)
theorem bd_Clause_D_initD__4 {b : Base} (T : Tx fa fn pr cs xf b) (fd : FuncData) (F : FunD b.K "__init__" "Clause.__init__" (defArgs s_Clause_D_initD_) (defBody s_Clause_D_initD_) (defScope s_Clause_D_initD_) [.non, .non, .non] [] (He.ma b.K (He.ga b.K "Clause") "__init__") fd) : ∃ ds, Vals (([.non, .non, .non] : List V).drop 1) ds ∧ Binds b.K fd P_Clause_D_initD_ ds := F.binds1 5 1 (by simp) rfl (fun T kV doc pm an cdv ct us its h1 h2 => by
    match us, its, h1, h2 with
    | [_, _, _, _, _], [_, _, _], _, _ => exact ⟨_, rfl, rfl⟩)
theorem bd_Clause_D_initD__5 {b : Base} (T : Tx fa fn pr cs xf b) (fd : FuncData) (F : FunD b.K "__init__" "Clause.__init__" (defArgs s_Clause_D_initD_) (defBody s_Clause_D_initD_) (defScope s_Clause_D_initD_) [.non, .non, .non] [] (He.ma b.K (He.ga b.K "Clause") "__init__") fd) : ∃ ds, Vals (([.non, .non, .non] : List V).drop 2) ds ∧ Binds b.K fd P_Clause_D_initD_ ds := F.binds1 6 2 (by simp) rfl (fun T kV doc pm an cdv ct us its h1 h2 => by
    match us, its, h1, h2 with
    | [_, _, _, _, _, _], [_, _, _], _, _ => exact ⟨_, rfl, rfl⟩)
theorem bd_Clause_D_initD__6 {b : Base} (T : Tx fa fn pr cs xf b) (fd : FuncData) (F : FunD b.K "__init__" "Clause.__init__" (defArgs s_Clause_D_initD_) (defBody s_Clause_D_initD_) (defScope s_Clause_D_initD_) [.non, .non, .non] [] (He.ma b.K (He.ga b.K "Clause") "__init__") fd) : ∃ ds, Vals (([.non, .non, .non] : List V).drop 3) ds ∧ Binds b.K fd P_Clause_D_initD_ ds := F.binds1 7 3 (by simp) rfl (fun T kV doc pm an cdv ct us its h1 h2 => by
    match us, its, h1, h2 with
    | [_, _, _, _, _, _, _], [_, _, _], _, _ => exact ⟨_, rfl, rfl⟩)
theorem sc_class_of : FnScope N_class_of P_class_of (defScope s_class_of) := ⟨rfl, rfl, rfl, by decide +kernel, rfl, by decide +kernel, by decide +kernel⟩
theorem k_class_of {b : Base} (T : Tx fa fn pr cs xf b) : ∃ fd, FunD b.K "class_of" "class_of" (defArgs s_class_of) (defBody s_class_of) (defScope s_class_of) [] [] (He.ga b.K "class_of") fd ∧ Binds b.K fd P_class_of [] := by
  obtain ⟨fd, F⟩ := T.s.c.def_ 38 (d := d_class_of) rfl
  exact ⟨fd, F, F.bindsN fun _ _ _ _ _ _ us hl => match us, hl with | [_], _ => rfl⟩
set_option maxHeartbeats 4000000 in
theorem e_class_of {b : Base} (T : Tx fa fn pr cs xf b) (E : XK) : DSs (b.at N_class_of (defScope s_class_of) 2 false) (wOf E) (defBody s_class_of) B_class_of := by
  obtain ⟨fdh0, h0⟩ := ok_digit_of T
  obtain ⟨fdh1, h1⟩ := ok_is_between T
  have sc := sc_class_of
  exact (dss_cons (ds_if (dt_w (dw_or (dt_cmp op_neD' (de_callB b_len (T.free 7) bt_len (da_cons (de_var 0) da_nil)) de_int) (dw_or1 (dt_cmp op_neD' (de_ix (de_var 0) de_int) de_str)))) (dss_one (ds_ret de_non)) dss_nil)
  (dss_cons (ds_par 1 2 sc.nd (da_cons (de_call h0.1 (T.glo 20) h0.2.1 h0.2.2.1 (da_cons (de_ix (de_var 0) de_int) da_nil)) (da_cons (de_call h0.1 (T.glo 20) h0.2.1 h0.2.2.1 (da_cons (de_ix (de_var 0) de_int) da_nil)) da_nil)))
  (dss_cons (ds_if (dt_w (dw_or (dt_not (dt_val (de_call h1.1 (T.glo 22) h1.2.1 h1.2.2.1 (da_cons (de_var 2) (da_cons de_int (da_cons (de_gint (T.int 59)) da_nil)))))) (dw_or1 (dt_not (dt_val (de_call h1.1 (T.glo 22) h1.2.1 h1.2.2.1 (da_cons (de_var 1) (da_cons de_int (da_cons (de_op op_subD (de_var 2) de_int) da_nil))))))))) (dss_one (ds_ret de_non)) dss_nil)
  (dss_one (ds_ret (de_tup (da_cons (de_var 1) (da_cons (de_var 2) da_nil))))))))
theorem ok_class_of {b : Base} (T : Tx fa fn pr cs xf b) : ∃ fd, b.Ok 3 (He.ga b.K "class_of") fd P_class_of F_class_of ∧ PySem.W.keepIn b.K (.ref (He.ga b.K "class_of")) = true ∧ Binds b.K fd P_class_of [] ∧ FunD b.K "class_of" "class_of" (defArgs s_class_of) (defBody s_class_of) (defScope s_class_of) [] [] (He.ga b.K "class_of") fd := by
  obtain ⟨fd, F, B⟩ := k_class_of T
  exact ⟨fd, fn_ok false F sc_class_of (fun E => e_class_of T E), F.kp, B, F⟩
theorem sc_is_name : FnScope N_is_name P_is_name (defScope s_is_name) := ⟨rfl, rfl, rfl, by decide +kernel, rfl, by decide +kernel, by decide +kernel⟩
theorem k_is_name {b : Base} (T : Tx fa fn pr cs xf b) : ∃ fd, FunD b.K "is_name" "is_name" (defArgs s_is_name) (defBody s_is_name) (defScope s_is_name) [] [] (He.ga b.K "is_name") fd ∧ Binds b.K fd P_is_name [] := by
  obtain ⟨fd, F⟩ := T.s.c.def_ 39 (d := d_is_name) rfl
  exact ⟨fd, F, F.bindsN fun _ _ _ _ _ _ us hl => match us, hl with | [_], _ => rfl⟩
set_option maxHeartbeats 4000000 in
theorem e_is_name {b : Base} (T : Tx fa fn pr cs xf b) (E : XK) : DSs (b.at N_is_name (defScope s_is_name) 0 false) (wOf E) (defBody s_is_name) B_is_name := by
  have sc := sc_is_name
  exact (dss_cons (ds_if (dt_w (dw_or (dt_not (dt_val (de_callB (b_isi T.s.isi) (T.free 15) bt_isinstance (da_cons (de_var 0) (da_cons (de_ty (T.free 19) bt_str) da_nil))))) (dw_or (dt_not (dt_chain op_ltD op_ltD de_int (de_callB b_len (T.free 7) bt_len (da_cons (de_var 0) da_nil)) de_int)) (dw_or1 (dt_cmp op_ninD (de_ix (de_var 0) de_int) (de_gstr (T.str 60))))))) (dss_one (ds_ret de_bl)) dss_nil)
  (dss_one (ds_ret (de_callB b_all (T.free 61) bt_all (da_cons (de_lc [("sign", 1)] sc.nd (show blkC N_is_name (defScope s_is_name) _ _ = true by decide +kernel) (di_seq (de_var 0)) (dg_name 1 sc.nd) dts_nil (de_or (de_cmp op_inD (de_var 1) (de_gstr (T.str 60))) (de_one (de_cmp op_inD (de_var 1) (de_gstr (T.str 18)))))) da_nil)))))
theorem ok_is_name {b : Base} (T : Tx fa fn pr cs xf b) : ∃ fd, b.Ok 1 (He.ga b.K "is_name") fd P_is_name F_is_name ∧ PySem.W.keepIn b.K (.ref (He.ga b.K "is_name")) = true ∧ Binds b.K fd P_is_name [] ∧ FunD b.K "is_name" "is_name" (defArgs s_is_name) (defBody s_is_name) (defScope s_is_name) [] [] (He.ga b.K "is_name") fd := by
  obtain ⟨fd, F, B⟩ := k_is_name T
  exact ⟨fd, fn_ok false F sc_is_name (fun E => e_is_name T E), F.kp, B, F⟩
theorem sc_read_call : FnScope N_read_call P_read_call (defScope s_read_call) := ⟨rfl, rfl, rfl, by decide +kernel, rfl, by decide +kernel, by decide +kernel⟩
theorem k_read_call {b : Base} (T : Tx fa fn pr cs xf b) : ∃ fd, FunD b.K "read_call" "read_call" (defArgs s_read_call) (defBody s_read_call) (defScope s_read_call) [] [] (He.ga b.K "read_call") fd ∧ Binds b.K fd P_read_call [] := by
  obtain ⟨fd, F⟩ := T.s.c.def_ 40 (d := d_read_call) rfl
  exact ⟨fd, F, F.bindsN fun _ _ _ _ _ _ us hl => match us, hl with | [_], _ => rfl⟩
set_option maxHeartbeats 4000000 in
theorem e_read_call {b : Base} (T : Tx fa fn pr cs xf b) (E : XK) : DSs (b.at N_read_call (defScope s_read_call) 3 false) (wOf E) (defBody s_read_call) B_read_call := by
  obtain ⟨fdh0, h0⟩ := ok_class_of T
  obtain ⟨fdh1, h1⟩ := ok_is_name T
  obtain ⟨fdh2, h2⟩ := ok_Clause_D_initD_ T
  have sc := sc_read_call
  exact (dss_cons (ds_asg [1] (de_call h0.1 (T.glo 62) h0.2.1 h0.2.2.1 (da_cons (de_sl (de_var 0) (do_some de_int) do_none) da_nil)) (dg_name 1 sc.nd))
  (dss_cons (ds_if (dt_w (dw_or (dt_cmp op_isD (de_var 1) de_non) (dw_or (dt_cmp op_neD' (de_ix (de_var 0) de_int) de_str) (dw_or1 (dt_not (dt_val (de_call h1.1 (T.glo 63) h1.2.1 h1.2.2.1 (da_cons (de_ix (de_var 0) de_int) da_nil)))))))) (dss_one (ds_ret de_non)) dss_nil)
  (dss_cons (ds_asg [2, 3] (de_var 1) (dg_tup 2 (dgs_cons (Plain.of E) (dg_name 2 sc.nd) (dgs_cons (Plain.of E) (dg_name 3 sc.nd) dgs_nil))))
  (dss_one (ds_ret (de_makeK [.non, .non] (Plain.of E) h2.1 (T.mkr 64) (T.glo 65) (kbn_Clause_D_initD__3 T _ h2.2.2.2).choose_spec (fun _ _ _ => rfl) (fun _ _ => non_rp 2) (da_cons de_str (da_cons (de_var 2) (da_cons (de_var 3) da_nil))) (dk_cons (de_ix (de_var 0) de_int) dk_nil)))))))
theorem ok_read_call {b : Base} (T : Tx fa fn pr cs xf b) : ∃ fd, b.Ok 4 (He.ga b.K "read_call") fd P_read_call F_read_call ∧ PySem.W.keepIn b.K (.ref (He.ga b.K "read_call")) = true ∧ Binds b.K fd P_read_call [] ∧ FunD b.K "read_call" "read_call" (defArgs s_read_call) (defBody s_read_call) (defScope s_read_call) [] [] (He.ga b.K "read_call") fd := by
  obtain ⟨fd, F, B⟩ := k_read_call T
  exact ⟨fd, fn_ok false F sc_read_call (fun E => e_read_call T E), F.kp, B, F⟩
theorem sc_read_clause : FnScope N_read_clause P_read_clause (defScope s_read_clause) := ⟨rfl, rfl, rfl, by decide +kernel, rfl, by decide +kernel, by decide +kernel⟩
theorem k_read_clause {b : Base} (T : Tx fa fn pr cs xf b) : ∃ fd, FunD b.K "read_clause" "read_clause" (defArgs s_read_clause) (defBody s_read_clause) (defScope s_read_clause) [] [] (He.ga b.K "read_clause") fd ∧ Binds b.K fd P_read_clause [] := by
  obtain ⟨fd, F⟩ := T.s.c.def_ 41 (d := d_read_clause) rfl
  exact ⟨fd, F, F.bindsN fun _ _ _ _ _ _ us hl => match us, hl with | [_], _ => rfl⟩
set_option maxHeartbeats 4000000 in
theorem e_read_clause {b : Base} (T : Tx fa fn pr cs xf b) (E : XK) : DSs (b.at N_read_clause (defScope s_read_clause) 4 false) (wOf E) (defBody s_read_clause) B_read_clause := by
  obtain ⟨fdh0, h0⟩ := ok_read_call T
  obtain ⟨fdh1, h1⟩ := ok_class_of T
  obtain ⟨fdh2, h2⟩ := ok_Clause_D_initD_ T
  obtain ⟨fdh3, h3⟩ := ok_digit_of T
  obtain ⟨fdh4, h4⟩ := ok_is_between T
  have sc := sc_read_clause
  exact (dss_cons (ds_asg [1] (de_bm PySem.F.plainAttrs_str PySem.F.slot_str_split PySem.F.type_str_split m_split (de_var 0) (da_cons de_str da_nil)) (dg_name 1 sc.nd))
  (dss_cons (ds_if (dt_cmp op_eqD' (de_ix (de_var 1) de_int) de_str) (dss_one (ds_ret (de_call h0.1 (T.glo 66) h0.2.1 h0.2.2.1 (da_cons (de_var 1) da_nil)))) dss_nil)
  (dss_cons (ds_asg [2] (de_call h1.1 (T.glo 62) h1.2.1 h1.2.2.1 (da_cons (de_sl (de_var 1) (do_some de_int) (do_some de_int)) da_nil)) (dg_name 2 sc.nd))
  (dss_cons (ds_if (dt_cmp op_isD (de_var 2) de_non) (dss_one (ds_ret de_non)) dss_nil)
  (dss_cons (ds_asg [3, 4] (de_var 2) (dg_tup 2 (dgs_cons (Plain.of E) (dg_name 3 sc.nd) (dgs_cons (Plain.of E) (dg_name 4 sc.nd) dgs_nil))))
  (dss_cons (ds_if (dt_cmp op_eqD' (de_ix (de_var 1) de_int) de_str) (dss_one (ds_ret (de_if (dt_cmp op_eqD' (de_callB b_len (T.free 7) bt_len (da_cons (de_var 1) da_nil)) de_int) (de_makeD [.non, .non, .non] (Plain.of E) h2.1 (T.mkr 64) (T.glo 65) (bd_Clause_D_initD__3 T _ h2.2.2.2) (fun _ _ => non_rp 3) (da_cons de_str (da_cons (de_var 3) (da_cons (de_var 4) da_nil)))) de_non))) dss_nil)
  (dss_cons (ds_if (dt_w (dw_or (dt_cmp op_ninD (de_ix (de_var 1) de_int) (de_tup (da_cons de_str (da_cons de_str da_nil)))) (dw_or (dt_cmp op_neD' (de_callB b_len (T.free 7) bt_len (da_cons (de_var 1) da_nil)) de_int) (dw_or1 (dt_cmp op_ninD (de_ix (de_var 1) de_int) (de_tup (da_cons de_str (da_cons de_str da_nil)))))))) (dss_one (ds_ret de_non)) dss_nil)
  (dss_cons (ds_asg [5] (de_call h3.1 (T.glo 20) h3.2.1 h3.2.2.1 (da_cons (de_ix (de_var 1) de_int) da_nil)) (dg_name 5 sc.nd))
  (dss_one (ds_ret (de_if (dt_val (de_call h4.1 (T.glo 22) h4.2.1 h4.2.2.1 (da_cons (de_var 5) (da_cons de_int (da_cons (de_gint (T.int 67)) da_nil))))) (de_makeD [.non] (Plain.of E) h2.1 (T.mkr 64) (T.glo 65) (bd_Clause_D_initD__5 T _ h2.2.2.2) (fun _ _ => non_rp 1) (da_cons (de_ix (de_var 1) de_int) (da_cons (de_var 3) (da_cons (de_var 4) (da_cons (de_ix (de_var 1) de_int) (da_cons (de_var 5) da_nil)))))) de_non)))))))))))
theorem ok_read_clause {b : Base} (T : Tx fa fn pr cs xf b) : ∃ fd, b.Ok 5 (He.ga b.K "read_clause") fd P_read_clause F_read_clause ∧ PySem.W.keepIn b.K (.ref (He.ga b.K "read_clause")) = true ∧ Binds b.K fd P_read_clause [] ∧ FunD b.K "read_clause" "read_clause" (defArgs s_read_clause) (defBody s_read_clause) (defScope s_read_clause) [] [] (He.ga b.K "read_clause") fd := by
  obtain ⟨fd, F, B⟩ := k_read_clause T
  exact ⟨fd, fn_ok false F sc_read_clause (fun E => e_read_clause T E), F.kp, B, F⟩
theorem sc_read_clauses : FnScope N_read_clauses P_read_clauses (defScope s_read_clauses) := ⟨rfl, rfl, rfl, by decide +kernel, rfl, by decide +kernel, by decide +kernel⟩
theorem k_read_clauses {b : Base} (T : Tx fa fn pr cs xf b) : ∃ fd, FunD b.K "read_clauses" "read_clauses" (defArgs s_read_clauses) (defBody s_read_clauses) (defScope s_read_clauses) [] [] (He.ga b.K "read_clauses") fd ∧ Binds b.K fd P_read_clauses [] := by
  obtain ⟨fd, F⟩ := T.s.c.def_ 42 (d := d_read_clauses) rfl
  exact ⟨fd, F, F.bindsN fun _ _ _ _ _ _ us hl => match us, hl with | [_], _ => rfl⟩
set_option maxHeartbeats 4000000 in
theorem e_read_clauses {b : Base} (T : Tx fa fn pr cs xf b) (E : XK) : DSs (b.at N_read_clauses (defScope s_read_clauses) 5 false) (wOf E) (defBody s_read_clauses) B_read_clauses := by
  obtain ⟨fdh0, h0⟩ := ok_read_clause T
  obtain ⟨fdh1, h1⟩ := ok_meet T
  have sc := sc_read_clauses
  exact (dss_cons (ds_if (dt_not (dt_val (de_callB (b_isi T.s.isi) (T.free 15) bt_isinstance (da_cons (de_var 0) (da_cons (de_ty (T.free 19) bt_str) da_nil))))) (dss_one (ds_ret de_non)) dss_nil)
  (dss_cons (ds_lc 1 [("part", 5)] sc.nd (show blkC N_read_clauses (defScope s_read_clauses) _ _ = true by decide +kernel) (di_seq (de_bm PySem.F.plainAttrs_str PySem.F.slot_str_split PySem.F.type_str_split m_split (de_var 0) (da_cons (de_gstr (T.str 68)) da_nil))) (dg_name 5 sc.nd) dts_nil (de_call h0.1 (T.glo 69) h0.2.1 h0.2.2.1 (da_cons (de_var 5) da_nil)))
  (dss_cons (ds_if (dt_w (dw_or (dt_cmp op_gtD (de_callB b_len (T.free 7) bt_len (da_cons (de_var 1) da_nil)) (de_gint (T.int 70))) (dw_or1 (dt_val (de_callB b_any (T.free 71) bt_any (da_cons (de_lc [("clause", 4)] sc.nd (show blkC N_read_clauses (defScope s_read_clauses) _ _ = true by decide +kernel) (di_seq (de_var 1)) (dg_name 4 sc.nd) dts_nil (de_cmp op_isD (de_var 4) de_non)) da_nil)))))) (dss_one (ds_ret de_non)) dss_nil)
  (dss_cons (ds_lc 2 [("clause", 4)] sc.nd (show blkC N_read_clauses (defScope s_read_clauses) _ _ = true by decide +kernel) (di_seq (de_var 1)) (dg_name 4 sc.nd) (dts_one (dt_cmp op_eqD' (de_fld (T.cls 3) (T.noat 6) (de_var 4)) de_str)) (de_var 4))
  (dss_cons (ds_if (dt_chain op_ltD op_ltD de_int (de_callB b_len (T.free 7) bt_len (da_cons (de_var 2) da_nil)) (de_callB b_len (T.free 7) bt_len (da_cons (de_var 1) da_nil))) (dss_one (ds_ret de_non)) dss_nil)
  (dss_cons (ds_for [3, 4] (di_enum' (T.free 72) (da_cons (de_var 1) da_nil)) (dg_tup 2 (dgs_cons (Plain.of E) (dg_name 3 sc.nd) (dgs_cons (Plain.of E) (dg_name 4 sc.nd) dgs_nil)))
  (dss_one (ds_if (dt_val (de_callB b_any (T.free 71) bt_any (da_cons (de_lc [("other", 6)] sc.nd (show blkC N_read_clauses (defScope s_read_clauses) _ _ = true by decide +kernel) (di_seq (de_sl (de_var 1) do_none (do_some (de_var 3)))) (dg_name 6 sc.nd) dts_nil (de_call h1.1 (T.glo 73) h1.2.1 h1.2.2.1 (da_cons (de_var 4) (da_cons (de_var 6) da_nil)))) da_nil))) (dss_one (ds_ret de_non)) dss_nil)))
  (dss_one (ds_ret (de_var 1)))))))))
theorem ok_read_clauses {b : Base} (T : Tx fa fn pr cs xf b) : ∃ fd, b.Ok 6 (He.ga b.K "read_clauses") fd P_read_clauses F_read_clauses ∧ PySem.W.keepIn b.K (.ref (He.ga b.K "read_clauses")) = true ∧ Binds b.K fd P_read_clauses [] ∧ FunD b.K "read_clauses" "read_clauses" (defArgs s_read_clauses) (defBody s_read_clauses) (defScope s_read_clauses) [] [] (He.ga b.K "read_clauses") fd := by
  obtain ⟨fd, F, B⟩ := k_read_clauses T
  exact ⟨fd, fn_ok false F sc_read_clauses (fun E => e_read_clauses T E), F.kp, B, F⟩
theorem sc_read_round : FnScope N_read_round P_read_round (defScope s_read_round) := ⟨rfl, rfl, rfl, by decide +kernel, rfl, by decide +kernel, by decide +kernel⟩
theorem k_read_round {b : Base} (T : Tx fa fn pr cs xf b) : ∃ fd, FunD b.K "read_round" "read_round" (defArgs s_read_round) (defBody s_read_round) (defScope s_read_round) [] [] (He.ga b.K "read_round") fd ∧ Binds b.K fd P_read_round [] := by
  obtain ⟨fd, F⟩ := T.s.c.def_ 43 (d := d_read_round) rfl
  exact ⟨fd, F, F.bindsN fun _ _ _ _ _ _ us hl => match us, hl with | [_, _, _], _ => rfl⟩
set_option maxHeartbeats 4000000 in
theorem e_read_round {b : Base} (T : Tx fa fn pr cs xf b) (E : XK) : DSs (b.at N_read_round (defScope s_read_round) 6 false) (wOf E) (defBody s_read_round) B_read_round := by
  obtain ⟨fdh0, h0⟩ := ok_read_clauses T
  have sc := sc_read_round
  exact (dss_cons (ds_asg [3] (de_call h0.1 (T.glo 74) h0.2.1 h0.2.2.1 (da_cons (de_var 0) da_nil)) (dg_name 3 sc.nd))
  (dss_cons (ds_if (dt_cmp op_isD (de_var 3) de_non) (dss_one (ds_ret de_non)) dss_nil)
  (dss_cons (ds_for [4] (di_seq (de_var 3)) (dg_name 4 sc.nd)
  (dss_one (ds_if (dt_w (dw_and (dt_cmp op_eqD' (de_fld (T.cls 3) (T.noat 6) (de_var 4)) de_str) (dw_and1 (dt_w (dw_or (dt_cmp op_ninD (de_fld (T.cls 3) (T.noat 30) (de_var 4)) (de_var 1)) (dw_or1 (dt_w (dw_and (dt_cmp op_eqD' (de_fld (T.cls 3) (T.noat 26) (de_var 4)) de_int) (dw_and1 (dt_cmp op_inD (de_fld (T.cls 3) (T.noat 30) (de_var 4)) (de_var 2))))))))))) (dss_one (ds_ret de_non)) dss_nil)))
  (dss_one (ds_ret (de_var 3))))))
theorem ok_read_round {b : Base} (T : Tx fa fn pr cs xf b) : ∃ fd, b.Ok 7 (He.ga b.K "read_round") fd P_read_round F_read_round ∧ PySem.W.keepIn b.K (.ref (He.ga b.K "read_round")) = true ∧ Binds b.K fd P_read_round [] ∧ FunD b.K "read_round" "read_round" (defArgs s_read_round) (defBody s_read_round) (defScope s_read_round) [] [] (He.ga b.K "read_round") fd := by
  obtain ⟨fd, F, B⟩ := k_read_round T
  exact ⟨fd, fn_ok false F sc_read_round (fun E => e_read_round T E), F.kp, B, F⟩
theorem sc_is_plan : FnScope N_is_plan P_is_plan (defScope s_is_plan) := ⟨rfl, rfl, rfl, by decide +kernel, rfl, by decide +kernel, by decide +kernel⟩
theorem k_is_plan {b : Base} (T : Tx fa fn pr cs xf b) : ∃ fd, FunD b.K "is_plan" "is_plan" (defArgs s_is_plan) (defBody s_is_plan) (defScope s_is_plan) [] [] (He.ga b.K "is_plan") fd ∧ Binds b.K fd P_is_plan [] := by
  obtain ⟨fd, F⟩ := T.s.c.def_ 44 (d := d_is_plan) rfl
  exact ⟨fd, F, F.bindsN fun _ _ _ _ _ _ us hl => match us, hl with | [_], _ => rfl⟩
set_option maxHeartbeats 4000000 in
theorem e_is_plan {b : Base} (T : Tx fa fn pr cs xf b) (E : XK) : DSs (b.at N_is_plan (defScope s_is_plan) 6 false) (wOf E) (defBody s_is_plan) B_is_plan := by
  obtain ⟨fdh0, h0⟩ := ok_is_name T
  obtain ⟨fdh1, h1⟩ := ok_read_goal T
  obtain ⟨fdh2, h2⟩ := ok_is_between T
  obtain ⟨fdh3, h3⟩ := ok_read_clauses T
  have sc := sc_is_plan
  exact (dss_cons (ds_if (dt_w (dw_or (dt_not (dt_val (de_callB (b_isi T.s.isi) (T.free 15) bt_isinstance (da_cons (de_var 0) (da_cons (de_ty (T.free 43) bt_tuple) da_nil))))) (dw_or1 (dt_cmp op_neD' (de_callB b_len (T.free 7) bt_len (da_cons (de_var 0) da_nil)) de_int)))) (dss_one (ds_ret de_bl)) dss_nil)
  (dss_cons (ds_asg [1, 2, 3, 4] (de_var 0) (dg_tup 4 (dgs_cons (Plain.of E) (dg_name 1 sc.nd) (dgs_cons (Plain.of E) (dg_name 2 sc.nd) (dgs_cons (Plain.of E) (dg_name 3 sc.nd) (dgs_cons (Plain.of E) (dg_name 4 sc.nd) dgs_nil))))))
  (dss_cons (ds_if (dt_w (dw_or (dt_not (dt_val (de_call h0.1 (T.glo 63) h0.2.1 h0.2.2.1 (da_cons (de_var 1) da_nil)))) (dw_or (dt_cmp op_isD (de_call h1.1 (T.glo 24) h1.2.1 h1.2.2.1 (da_cons (de_var 2) da_nil)) de_non) (dw_or1 (dt_not (dt_val (de_call h2.1 (T.glo 22) h2.2.1 h2.2.2.1 (da_cons (de_var 3) (da_cons de_int (da_cons (de_gint (T.int 75)) da_nil)))))))))) (dss_one (ds_ret de_bl)) dss_nil)
  (dss_cons (ds_if (dt_w (dw_or (dt_not (dt_val (de_callB (b_isi T.s.isi) (T.free 15) bt_isinstance (da_cons (de_var 4) (da_cons (de_ty (T.free 43) bt_tuple) da_nil))))) (dw_or1 (dt_not (dt_chain op_ltD op_leD de_int (de_callB b_len (T.free 7) bt_len (da_cons (de_var 4) da_nil)) (de_gint (T.int 76))))))) (dss_one (ds_ret de_bl)) dss_nil)
  (dss_one (ds_ret (de_callB b_all (T.free 61) bt_all (da_cons (de_lc [("text", 5)] sc.nd (show blkC N_is_plan (defScope s_is_plan) _ _ = true by decide +kernel) (di_seq (de_var 4)) (dg_name 5 sc.nd) dts_nil (de_cmp op_isntD (de_call h3.1 (T.glo 74) h3.2.1 h3.2.2.1 (da_cons (de_var 5) da_nil)) de_non)) da_nil))))))))
theorem ok_is_plan {b : Base} (T : Tx fa fn pr cs xf b) : ∃ fd, b.Ok 7 (He.ga b.K "is_plan") fd P_is_plan F_is_plan ∧ PySem.W.keepIn b.K (.ref (He.ga b.K "is_plan")) = true ∧ Binds b.K fd P_is_plan [] ∧ FunD b.K "is_plan" "is_plan" (defArgs s_is_plan) (defBody s_is_plan) (defScope s_is_plan) [] [] (He.ga b.K "is_plan") fd := by
  obtain ⟨fd, F, B⟩ := k_is_plan T
  exact ⟨fd, fn_ok false F sc_is_plan (fun E => e_is_plan T E), F.kp, B, F⟩
theorem sc_first_invalid : FnScope N_first_invalid P_first_invalid (defScope s_first_invalid) := ⟨rfl, rfl, rfl, by decide +kernel, rfl, by decide +kernel, by decide +kernel⟩
theorem k_first_invalid {b : Base} (T : Tx fa fn pr cs xf b) : ∃ fd, FunD b.K "first_invalid" "first_invalid" (defArgs s_first_invalid) (defBody s_first_invalid) (defScope s_first_invalid) [] [] (He.ga b.K "first_invalid") fd ∧ Binds b.K fd P_first_invalid [] := by
  obtain ⟨fd, F⟩ := T.s.c.def_ 45 (d := d_first_invalid) rfl
  exact ⟨fd, F, F.bindsN fun _ _ _ _ _ _ us hl => match us, hl with | [_], _ => rfl⟩
set_option maxHeartbeats 4000000 in
theorem e_first_invalid {b : Base} (T : Tx fa fn pr cs xf b) (E : XK) : DSs (b.at N_first_invalid (defScope s_first_invalid) 7 false) (wOf E) (defBody s_first_invalid) B_first_invalid := by
  obtain ⟨fdh0, h0⟩ := ok_is_plan T
  obtain ⟨fdh1, h1⟩ := ok_read_round T
  have sc := sc_first_invalid
  exact (dss_cons (ds_asg [1] (de_new da_nil) (dg_name 1 sc.nd))
  (dss_cons (ds_for [2, 3] (di_enum' (T.free 72) (da_cons (de_var 0) da_nil)) (dg_tup 2 (dgs_cons (Plain.of E) (dg_name 2 sc.nd) (dgs_cons (Plain.of E) (dg_name 3 sc.nd) dgs_nil)))
  (dss_cons (ds_if (dt_w (dw_or (dt_cmp op_eqD' (de_var 2) (de_gint (T.int 77))) (dw_or (dt_not (dt_val (de_call h0.1 (T.glo 78) h0.2.1 h0.2.2.1 (da_cons (de_var 3) da_nil)))) (dw_or1 (dt_cmp op_inD (de_ix (de_var 3) de_int) (de_var 1)))))) (dss_one (ds_ret (de_var 2))) dss_nil)
  (dss_one (ds_expr (de_bm PySem.F.plainAttrs_list PySem.F.slot_list_append PySem.F.type_list_append m_append (de_var 1) (da_cons (de_ix (de_var 3) de_int) da_nil))))))
  (dss_cons (ds_for [2, 3] (di_enum' (T.free 72) (da_cons (de_var 0) da_nil)) (dg_tup 2 (dgs_cons (Plain.of E) (dg_name 2 sc.nd) (dgs_cons (Plain.of E) (dg_name 3 sc.nd) dgs_nil)))
  (dss_one (ds_if (dt_val (de_callB b_any (T.free 71) bt_any (da_cons (de_lc [("text", 4)] sc.nd (show blkC N_first_invalid (defScope s_first_invalid) _ _ = true by decide +kernel) (di_seq (de_ix (de_var 3) de_int)) (dg_name 4 sc.nd) dts_nil (de_cmp op_isD (de_call h1.1 (T.glo 79) h1.2.1 h1.2.2.1 (da_cons (de_var 4) (da_cons (de_var 1) (da_cons (de_sl (de_var 1) do_none (do_some (de_op op_addD (de_var 2) de_int))) da_nil)))) de_non)) da_nil))) (dss_one (ds_ret (de_var 2))) dss_nil)))
  (dss_one (ds_ret de_non)))))
theorem ok_first_invalid {b : Base} (T : Tx fa fn pr cs xf b) : ∃ fd, b.Ok 8 (He.ga b.K "first_invalid") fd P_first_invalid F_first_invalid ∧ PySem.W.keepIn b.K (.ref (He.ga b.K "first_invalid")) = true ∧ Binds b.K fd P_first_invalid [] ∧ FunD b.K "first_invalid" "first_invalid" (defArgs s_first_invalid) (defBody s_first_invalid) (defScope s_first_invalid) [] [] (He.ga b.K "first_invalid") fd := by
  obtain ⟨fd, F, B⟩ := k_first_invalid T
  exact ⟨fd, fn_ok false F sc_first_invalid (fun E => e_first_invalid T E), F.kp, B, F⟩
theorem sc_Book_D_initD_ : FnScope N_Book_D_initD_ P_Book_D_initD_ (defScope s_Book_D_initD_) := ⟨rfl, rfl, rfl, by decide +kernel, rfl, by decide +kernel, by decide +kernel⟩
theorem k_Book_D_initD_ {b : Base} (T : Tx fa fn pr cs xf b) : ∃ fd, FunD b.K "__init__" "Book.__init__" (defArgs s_Book_D_initD_) (defBody s_Book_D_initD_) (defScope s_Book_D_initD_) [] [] (He.ma b.K (He.ga b.K "Book") "__init__") fd ∧ Binds b.K fd P_Book_D_initD_ [] := by
  obtain ⟨fd, F⟩ := T.s.c.def_ 46 (d := d_Book_D_initD_) rfl
  exact ⟨fd, F, F.bindsN fun _ _ _ _ _ _ us hl => match us, hl with | [_, _], _ => rfl⟩
set_option maxHeartbeats 4000000 in
theorem e_Book_D_initD_ {b : Base} (T : Tx fa fn pr cs xf b) (E : XK) : DSs (b.at N_Book_D_initD_ (defScope s_Book_D_initD_) 8 false) (wOf E) (defBody s_Book_D_initD_) B_Book_D_initD_ := by
  obtain ⟨fdh0, h0⟩ := ok_first_invalid T
  obtain ⟨fdh1, h1⟩ := ok_read_clauses T
  have sc := sc_Book_D_initD_
  exact (dss_cons (ds_if (dt_w (dw_or (dt_not (dt_val (de_callB (b_isi T.s.isi) (T.free 15) bt_isinstance (da_cons (de_var 1) (da_cons (de_ty (T.free 43) bt_tuple) da_nil))))) (dw_or1 (dt_cmp op_eqD' (de_callB b_len (T.free 7) bt_len (da_cons (de_var 1) da_nil)) de_int)))) (dss_one ds_never) dss_nil)
  (dss_cons (ds_asg [2] (de_call h0.1 (T.glo 80) h0.2.1 h0.2.2.1 (da_cons (de_var 1) da_nil)) (dg_name 2 sc.nd))
  (dss_cons (ds_if (dt_cmp op_isntD (de_var 2) de_non) (dss_one ds_never) dss_nil)
  (dss_cons (ds_fld (T.cls 0) (T.noat 1) (de_var 0) (de_var 1))
  (dss_one (ds_fld (T.cls 0) (T.noat 34) (de_var 0) (de_dc [("plan", 3)] sc.nd (show blkC N_Book_D_initD_ (defScope s_Book_D_initD_) _ _ = true by decide +kernel) (di_seq (de_var 1)) (dg_name 3 sc.nd) (de_ix (de_var 3) de_int) (de_lc [("text", 4)] sc.nd (show blkC N_Book_D_initD_ (relS _ (defScope s_Book_D_initD_)) _ _ = true by decide +kernel) (di_seq (de_ix (de_var 3) de_int)) (dg_name 4 sc.nd) dts_nil (de_call h1.1 (T.glo 74) h1.2.1 h1.2.2.1 (da_cons (de_var 4) da_nil))))))))))
theorem ok_Book_D_initD_ {b : Base} (T : Tx fa fn pr cs xf b) : ∃ fd, b.Ok 9 (He.ma b.K (He.ga b.K "Book") "__init__") fd P_Book_D_initD_ F_Book_D_initD_ ∧ PySem.W.keepIn b.K (.ref (He.ma b.K (He.ga b.K "Book") "__init__")) = true ∧ Binds b.K fd P_Book_D_initD_ [] ∧ FunD b.K "__init__" "Book.__init__" (defArgs s_Book_D_initD_) (defBody s_Book_D_initD_) (defScope s_Book_D_initD_) [] [] (He.ma b.K (He.ga b.K "Book") "__init__") fd := by
  obtain ⟨fd, F, B⟩ := k_Book_D_initD_ T
  exact ⟨fd, fn_ok false F sc_Book_D_initD_ (fun E => e_Book_D_initD_ T E), F.kp, B, F⟩
theorem sc__law_goal_text : FnScope N__law_goal_text P__law_goal_text (defScope s__law_goal_text) := ⟨rfl, rfl, rfl, by decide +kernel, rfl, by decide +kernel, by decide +kernel⟩
theorem k__law_goal_text {b : Base} (T : Tx fa fn pr cs xf b) : ∃ fd, FunD b.K "_law_goal_text" "_law_goal_text" (defArgs s__law_goal_text) (defBody s__law_goal_text) (defScope s__law_goal_text) [] [] (He.ga b.K "_law_goal_text") fd ∧ Binds b.K fd P__law_goal_text [] := by
  obtain ⟨fd, F⟩ := T.s.c.def_ 47 (d := d__law_goal_text) rfl
  exact ⟨fd, F, F.bindsN fun _ _ _ _ _ _ us hl => match us, hl with | [_], _ => rfl⟩
set_option maxHeartbeats 4000000 in
theorem e__law_goal_text {b : Base} (T : Tx fa fn pr cs xf b) (E : XK) : DSs (b.at N__law_goal_text (defScope s__law_goal_text) 0 true) (wOf E) (defBody s__law_goal_text) B__law_goal_text := by
  have sc := sc__law_goal_text
  exact (dss_one (ds_ret (de_op op_addD (de_ix (de_var 0) de_int) (de_if (dt_cmp op_eqD' (de_ix (de_var 0) de_int) de_str) (de_op op_addD de_str (de_callT b_str (T.free 19) bt_str (da_cons (de_ix (de_var 0) de_int) da_nil))) de_str))))
theorem ok__law_goal_text {b : Base} (T : Tx fa fn pr cs xf b) : ∃ fd, FnG b 1 (He.ga b.K "_law_goal_text") fd P__law_goal_text F__law_goal_text ∧ PySem.W.keepIn b.K (.ref (He.ga b.K "_law_goal_text")) = true ∧ Binds b.K fd P__law_goal_text [] ∧ True := by
  obtain ⟨fd, F, B⟩ := k__law_goal_text T
  exact ⟨fd, fnG_ok false F sc__law_goal_text (fun E => e__law_goal_text T E), F.kp, B, trivial⟩
theorem sc__law_clause_text : FnScope N__law_clause_text P__law_clause_text (defScope s__law_clause_text) := ⟨rfl, rfl, rfl, by decide +kernel, rfl, by decide +kernel, by decide +kernel⟩
theorem k__law_clause_text {b : Base} (T : Tx fa fn pr cs xf b) : ∃ fd, FunD b.K "_law_clause_text" "_law_clause_text" (defArgs s__law_clause_text) (defBody s__law_clause_text) (defScope s__law_clause_text) [] [] (He.ga b.K "_law_clause_text") fd ∧ Binds b.K fd P__law_clause_text [] := by
  obtain ⟨fd, F⟩ := T.s.c.def_ 48 (d := d__law_clause_text) rfl
  exact ⟨fd, F, F.bindsN fun _ _ _ _ _ _ us hl => match us, hl with | [_], _ => rfl⟩
set_option maxHeartbeats 4000000 in
theorem e__law_clause_text {b : Base} (T : Tx fa fn pr cs xf b) (E : XK) : DSs (b.at N__law_clause_text (defScope s__law_clause_text) 0 true) (wOf E) (defBody s__law_clause_text) B__law_clause_text := by
  have sc := sc__law_clause_text
  exact (dss_cons (ds_asg [1, 2, 3, 4, 5, 6] (de_var 0) (dg_tup 6 (dgs_cons (Plain.of E) (dg_name 1 sc.nd) (dgs_cons (Plain.of E) (dg_name 2 sc.nd) (dgs_cons (Plain.of E) (dg_name 3 sc.nd) (dgs_cons (Plain.of E) (dg_name 4 sc.nd) (dgs_cons (Plain.of E) (dg_name 5 sc.nd) (dgs_cons (Plain.of E) (dg_name 6 sc.nd) dgs_nil))))))))
  (dss_cons (ds_asg [7] (de_op op_addD (de_op op_addD (de_callT b_str (T.free 19) bt_str (da_cons (de_var 2) da_nil)) de_str) (de_callT b_str (T.free 19) bt_str (da_cons (de_var 3) da_nil))) (dg_name 7 sc.nd))
  (dss_cons (ds_if (dt_cmp op_eqD' (de_var 1) de_str) (dss_one (ds_ret (de_op op_addD (de_op op_addD (de_op op_addD de_str (de_var 6)) de_str) (de_var 7)))) dss_nil)
  (dss_one (ds_ret (de_op op_addD (de_op op_addD (de_op op_addD (de_var 1) de_str) (de_var 7)) (de_if (dt_cmp op_eqD' (de_var 1) de_str) de_str (de_op op_addD (de_op op_addD (de_op op_addD de_str (de_var 4)) de_str) (de_callT b_str (T.free 19) bt_str (da_cons (de_var 5) da_nil))))))))))
theorem ok__law_clause_text {b : Base} (T : Tx fa fn pr cs xf b) : ∃ fd, FnG b 1 (He.ga b.K "_law_clause_text") fd P__law_clause_text F__law_clause_text ∧ PySem.W.keepIn b.K (.ref (He.ga b.K "_law_clause_text")) = true ∧ Binds b.K fd P__law_clause_text [] ∧ True := by
  obtain ⟨fd, F, B⟩ := k__law_clause_text T
  exact ⟨fd, fnG_ok false F sc__law_clause_text (fun E => e__law_clause_text T E), F.kp, B, trivial⟩
theorem sc__law_parts : FnScope N__law_parts P__law_parts (defScope s__law_parts) := ⟨rfl, rfl, rfl, by decide +kernel, rfl, by decide +kernel, by decide +kernel⟩
theorem k__law_parts {b : Base} (T : Tx fa fn pr cs xf b) : ∃ fd, FunD b.K "_law_parts" "_law_parts" (defArgs s__law_parts) (defBody s__law_parts) (defScope s__law_parts) [] [] (He.ga b.K "_law_parts") fd ∧ Binds b.K fd P__law_parts [] := by
  obtain ⟨fd, F⟩ := T.s.c.def_ 49 (d := d__law_parts) rfl
  exact ⟨fd, F, F.bindsN fun _ _ _ _ _ _ us hl => match us, hl with | [_], _ => rfl⟩
set_option maxHeartbeats 4000000 in
theorem e__law_parts {b : Base} (T : Tx fa fn pr cs xf b) (E : XK) : DSs (b.at N__law_parts (defScope s__law_parts) 1 true) (wOf E) (defBody s__law_parts) B__law_parts := by
  obtain ⟨fdh0, h0⟩ := ok__law_clause_text T
  obtain ⟨fdh1, h1⟩ := ok__law_goal_text T
  have sc := sc__law_parts
  exact (dss_cons (ds_asg [1] (de_callT b_tuple (T.free 43) bt_tuple (da_cons (de_lc [("_law_each", 2)] sc.nd (show blkC N__law_parts (defScope s__law_parts) _ _ = true by decide +kernel) (di_seq (de_ix (de_var 0) de_int)) (dg_name 2 sc.nd) dts_nil (de_bm PySem.F.plainAttrs_str PySem.F.slot_str_join PySem.F.type_str_join m_join de_str (da_cons (de_lc [("_law_clause_here", 3)] sc.nd (show blkC N__law_parts (relS _ (defScope s__law_parts)) _ _ = true by decide +kernel) (di_seq (de_var 2)) (dg_name 3 sc.nd) dts_nil (de_callG h0.1 (T.glo 81) h0.2.1 h0.2.2.1 (da_cons (de_var 3) da_nil))) da_nil))) da_nil)) (dg_name 1 sc.nd))
  (dss_one (ds_ret (de_tup (da_cons (de_ix (de_var 0) de_int) (da_cons (de_callG h1.1 (T.glo 82) h1.2.1 h1.2.2.1 (da_cons (de_ix (de_var 0) de_int) da_nil)) (da_cons (de_ix (de_var 0) de_int) (da_cons (de_var 1) da_nil))))))))
theorem ok__law_parts {b : Base} (T : Tx fa fn pr cs xf b) : ∃ fd, FnG b 2 (He.ga b.K "_law_parts") fd P__law_parts F__law_parts ∧ PySem.W.keepIn b.K (.ref (He.ga b.K "_law_parts")) = true ∧ Binds b.K fd P__law_parts [] ∧ True := by
  obtain ⟨fd, F, B⟩ := k__law_parts T
  exact ⟨fd, fnG_ok false F sc__law_parts (fun E => e__law_parts T E), F.kp, B, trivial⟩
theorem sc__law_vol : FnScope N__law_vol P__law_vol (defScope s__law_vol) := ⟨rfl, rfl, rfl, by decide +kernel, rfl, by decide +kernel, by decide +kernel⟩
theorem k__law_vol {b : Base} (T : Tx fa fn pr cs xf b) : ∃ fd, FunD b.K "_law_vol" "_law_vol" (defArgs s__law_vol) (defBody s__law_vol) (defScope s__law_vol) [] [] (He.ga b.K "_law_vol") fd ∧ Binds b.K fd P__law_vol [] := by
  obtain ⟨fd, F⟩ := T.s.c.def_ 50 (d := d__law_vol) rfl
  exact ⟨fd, F, F.bindsN fun _ _ _ _ _ _ us hl => match us, hl with | [_], _ => rfl⟩
set_option maxHeartbeats 4000000 in
theorem e__law_vol {b : Base} (T : Tx fa fn pr cs xf b) (E : XK) : DSs (b.at N__law_vol (defScope s__law_vol) 10 true) (wOf E) (defBody s__law_vol) B__law_vol := by
  obtain ⟨fdh0, h0⟩ := ok_Book_D_initD_ T
  obtain ⟨fdh1, h1⟩ := ok__law_parts T
  have sc := sc__law_vol
  exact (dss_one (ds_ret (de_make (Plain.of E) h0.1 (T.mkr 83) (T.glo 37) h0.2.2.1 (da_cons (de_callT b_tuple (T.free 43) bt_tuple (da_cons (de_lc [("_law_plan_here", 1)] sc.nd (show blkC N__law_vol (defScope s__law_vol) _ _ = true by decide +kernel) (di_seq (de_var 0)) (dg_name 1 sc.nd) dts_nil (de_callG h1.1 (T.glo 84) h1.2.1 h1.2.2.1 (da_cons (de_var 1) da_nil))) da_nil)) da_nil))))
theorem ok__law_vol {b : Base} (T : Tx fa fn pr cs xf b) : ∃ fd, FnG b 11 (He.ga b.K "_law_vol") fd P__law_vol F__law_vol ∧ PySem.W.keepIn b.K (.ref (He.ga b.K "_law_vol")) = true ∧ Binds b.K fd P__law_vol [] ∧ True := by
  obtain ⟨fd, F, B⟩ := k__law_vol T
  exact ⟨fd, fnG_ok false F sc__law_vol (fun E => e__law_vol T E), F.kp, B, trivial⟩
theorem sc__law_clause : FnScope N__law_clause P__law_clause (defScope s__law_clause) := ⟨rfl, rfl, rfl, by decide +kernel, rfl, by decide +kernel, by decide +kernel⟩
theorem k__law_clause {b : Base} (T : Tx fa fn pr cs xf b) : ∃ fd, FunD b.K "_law_clause" "_law_clause" (defArgs s__law_clause) (defBody s__law_clause) (defScope s__law_clause) [] [] (He.ga b.K "_law_clause") fd ∧ Binds b.K fd P__law_clause [] := by
  obtain ⟨fd, F⟩ := T.s.c.def_ 51 (d := d__law_clause) rfl
  exact ⟨fd, F, F.bindsN fun _ _ _ _ _ _ us hl => match us, hl with | [_, _, _, _, _, _], _ => rfl⟩
set_option maxHeartbeats 4000000 in
theorem e__law_clause {b : Base} (T : Tx fa fn pr cs xf b) (E : XK) : DSs (b.at N__law_clause (defScope s__law_clause) 1 true) (wOf E) (defBody s__law_clause) B__law_clause := by
  obtain ⟨fdh0, h0⟩ := ok__law_sip T
  have sc := sc__law_clause
  exact (dss_cons (ds_par 6 7 sc.nd (da_cons (de_callG h0.1 (T.glo 85) h0.2.1 h0.2.2.1 (da_cons (de_var 0) (da_cons de_int da_nil))) (da_cons (de_ix (de_lst (da_cons de_str (da_cons de_str (da_cons de_str da_nil)))) (de_callG h0.1 (T.glo 85) h0.2.1 h0.2.2.1 (da_cons (de_var 0) (da_cons de_int da_nil)))) da_nil)))
  (dss_cons (ds_if (dt_val (de_var 5)) (dss_one (ds_ret (de_tup (da_cons de_str (da_cons (de_var 3) (da_cons (de_var 4) (da_cons de_str (da_cons de_int (da_cons (de_ix (de_var 1) (de_if (dt_cmp op_gtD (de_var 4) de_int) (de_callG h0.1 (T.glo 85) h0.2.1 h0.2.2.1 (da_cons (de_var 0) (da_cons (de_callB b_len (T.free 7) bt_len (da_cons (de_var 1) da_nil)) da_nil))) (de_op op_addD (de_var 2) de_int))) da_nil))))))))) dss_nil)
  (dss_cons (ds_asg [6] (de_ix (de_lst (da_cons de_str (da_cons de_str (da_cons de_str (da_cons de_str (da_cons de_str da_nil)))))) (de_var 6)) (dg_name 6 sc.nd))
  (dss_one (ds_ret (de_tup (da_cons (de_var 6) (da_cons (de_var 3) (da_cons (de_var 4) (da_cons (de_var 7) (da_cons (de_ix (de_lst (da_cons de_int (da_cons de_int (da_cons de_int (da_cons de_int (da_cons de_int (da_cons de_int da_nil))))))) (de_callG h0.1 (T.glo 85) h0.2.1 h0.2.2.1 (da_cons (de_var 0) (da_cons de_int da_nil)))) (da_cons de_str da_nil))))))))))))
theorem ok__law_clause {b : Base} (T : Tx fa fn pr cs xf b) : ∃ fd, FnG b 2 (He.ga b.K "_law_clause") fd P__law_clause F__law_clause ∧ PySem.W.keepIn b.K (.ref (He.ga b.K "_law_clause")) = true ∧ Binds b.K fd P__law_clause [] ∧ True := by
  obtain ⟨fd, F, B⟩ := k__law_clause T
  exact ⟨fd, fnG_ok false F sc__law_clause (fun E => e__law_clause T E), F.kp, B, trivial⟩
theorem sc__law_round : FnScope N__law_round P__law_round (defScope s__law_round) := ⟨rfl, rfl, rfl, by decide +kernel, rfl, by decide +kernel, by decide +kernel⟩
theorem k__law_round {b : Base} (T : Tx fa fn pr cs xf b) : ∃ fd, FunD b.K "_law_round" "_law_round" (defArgs s__law_round) (defBody s__law_round) (defScope s__law_round) [] [] (He.ga b.K "_law_round") fd ∧ Binds b.K fd P__law_round [] := by
  obtain ⟨fd, F⟩ := T.s.c.def_ 52 (d := d__law_round) rfl
  exact ⟨fd, F, F.bindsN fun _ _ _ _ _ _ us hl => match us, hl with | [_, _, _], _ => rfl⟩
set_option maxHeartbeats 4000000 in
theorem e__law_round {b : Base} (T : Tx fa fn pr cs xf b) (E : XK) : DSs (b.at N__law_round (defScope s__law_round) 2 true) (wOf E) (defBody s__law_round) B__law_round := by
  obtain ⟨fdh0, h0⟩ := ok__law_sip T
  obtain ⟨fdh1, h1⟩ := ok__law_clause T
  have sc := sc__law_round
  exact (dss_cons (ds_asg [3, 4] (de_tup (da_cons (de_cmp op_eqD' (de_callG h0.1 (T.glo 85) h0.2.1 h0.2.2.1 (da_cons (de_var 0) (da_cons de_int da_nil))) de_int) (da_cons (de_ix (de_lst (da_cons de_int (da_cons de_int (da_cons de_int (da_cons de_int (da_cons de_int (da_cons de_int da_nil))))))) (de_callG h0.1 (T.glo 85) h0.2.1 h0.2.2.1 (da_cons (de_var 0) (da_cons de_int da_nil)))) da_nil))) (dg_tup 2 (dgs_cons (Plain.of E) (dg_name 3 sc.nd) (dgs_cons (Plain.of E) (dg_name 4 sc.nd) dgs_nil))) (hw := by (intro env h; cases env; cases h; rfl)))
  (dss_cons (ds_asg [5, 6] (de_tup (da_cons (de_callG h0.1 (T.glo 85) h0.2.1 h0.2.2.1 (da_cons (de_var 0) (da_cons (de_var 4) da_nil))) (da_cons (de_op op_addD de_int (de_callG h0.1 (T.glo 85) h0.2.1 h0.2.2.1 (da_cons (de_var 0) (da_cons de_int da_nil)))) da_nil))) (dg_tup 2 (dgs_cons (Plain.of E) (dg_name 5 sc.nd) (dgs_cons (Plain.of E) (dg_name 6 sc.nd) dgs_nil))) (hw := by (intro env h; cases env; cases h; rfl)))
  (dss_cons (ds_if (dt_w (dw_and (dt_val (de_var 3)) (dw_and (dt_cmp op_eqD' (de_var 4) de_int) (dw_and1 (dt_cmp op_geD (de_op op_addD (de_var 2) de_int) (de_callB b_len (T.free 7) bt_len (da_cons (de_var 1) da_nil))))))) (dss_one (ds_asg [4] de_int (dg_name 4 sc.nd))) dss_nil)
  (dss_cons (ds_asg [6] (de_callB b_min (T.free 86) bt_min (da_cons (de_var 6) (da_cons (de_var 4) da_nil))) (dg_name 6 sc.nd))
  (dss_one (ds_ret (de_lc [("_law_k", 7)] sc.nd (show blkC N__law_round (defScope s__law_round) _ _ = true by decide +kernel) (di_range1 (T.free 11) (da_cons (de_var 6) da_nil)) (dg_name 7 sc.nd) dts_nil (de_callG h1.1 (T.glo 87) h1.2.1 h1.2.2.1 (da_cons (de_var 0) (da_cons (de_var 1) (da_cons (de_var 2) (da_cons (de_op op_modD (de_callT b_int (T.free 14) bt_int (da_cons (de_op op_addD (de_var 5) (de_var 7)) da_nil)) (de_var 4)) (da_cons (de_var 4) (da_cons (de_var 3) da_nil))))))))))))))
theorem ok__law_round {b : Base} (T : Tx fa fn pr cs xf b) : ∃ fd, FnG b 3 (He.ga b.K "_law_round") fd P__law_round F__law_round ∧ PySem.W.keepIn b.K (.ref (He.ga b.K "_law_round")) = true ∧ Binds b.K fd P__law_round [] ∧ True := by
  obtain ⟨fd, F, B⟩ := k__law_round T
  exact ⟨fd, fnG_ok false F sc__law_round (fun E => e__law_round T E), F.kp, B, trivial⟩
theorem sc__law_goal : FnScope N__law_goal P__law_goal (defScope s__law_goal) := ⟨rfl, rfl, rfl, by decide +kernel, rfl, by decide +kernel, by decide +kernel⟩
theorem k__law_goal {b : Base} (T : Tx fa fn pr cs xf b) : ∃ fd, FunD b.K "_law_goal" "_law_goal" (defArgs s__law_goal) (defBody s__law_goal) (defScope s__law_goal) [] [] (He.ga b.K "_law_goal") fd ∧ Binds b.K fd P__law_goal [] := by
  obtain ⟨fd, F⟩ := T.s.c.def_ 53 (d := d__law_goal) rfl
  exact ⟨fd, F, F.bindsN fun _ _ _ _ _ _ us hl => match us, hl with | [_], _ => rfl⟩
set_option maxHeartbeats 4000000 in
theorem e__law_goal {b : Base} (T : Tx fa fn pr cs xf b) (E : XK) : DSs (b.at N__law_goal (defScope s__law_goal) 1 true) (wOf E) (defBody s__law_goal) B__law_goal := by
  obtain ⟨fdh0, h0⟩ := ok__law_sip T
  have sc := sc__law_goal
  exact (dss_cons (ds_asg [1] (de_ix (de_lst (da_cons de_str (da_cons de_str (da_cons de_str (da_cons de_str da_nil))))) (de_callG h0.1 (T.glo 85) h0.2.1 h0.2.2.1 (da_cons (de_var 0) (da_cons de_int da_nil)))) (dg_name 1 sc.nd))
  (dss_one (ds_ret (de_tup (da_cons (de_var 1) (da_cons (de_if (dt_cmp op_eqD' (de_var 1) de_str) (de_op op_addD de_int (de_callG h0.1 (T.glo 85) h0.2.1 h0.2.2.1 (da_cons (de_var 0) (da_cons de_int da_nil)))) de_int) da_nil))))))
theorem ok__law_goal {b : Base} (T : Tx fa fn pr cs xf b) : ∃ fd, FnG b 2 (He.ga b.K "_law_goal") fd P__law_goal F__law_goal ∧ PySem.W.keepIn b.K (.ref (He.ga b.K "_law_goal")) = true ∧ Binds b.K fd P__law_goal [] ∧ True := by
  obtain ⟨fd, F, B⟩ := k__law_goal T
  exact ⟨fd, fnG_ok false F sc__law_goal (fun E => e__law_goal T E), F.kp, B, trivial⟩
theorem sc__law_plan : FnScope N__law_plan P__law_plan (defScope s__law_plan) := ⟨rfl, rfl, rfl, by decide +kernel, rfl, by decide +kernel, by decide +kernel⟩
theorem k__law_plan {b : Base} (T : Tx fa fn pr cs xf b) : ∃ fd, FunD b.K "_law_plan" "_law_plan" (defArgs s__law_plan) (defBody s__law_plan) (defScope s__law_plan) [] [] (He.ga b.K "_law_plan") fd ∧ Binds b.K fd P__law_plan [] := by
  obtain ⟨fd, F⟩ := T.s.c.def_ 54 (d := d__law_plan) rfl
  exact ⟨fd, F, F.bindsN fun _ _ _ _ _ _ us hl => match us, hl with | [_, _, _, _], _ => rfl⟩
set_option maxHeartbeats 4000000 in
theorem e__law_plan {b : Base} (T : Tx fa fn pr cs xf b) (E : XK) : DSs (b.at N__law_plan (defScope s__law_plan) 3 true) (wOf E) (defBody s__law_plan) B__law_plan := by
  obtain ⟨fdh0, h0⟩ := ok__law_goal T
  obtain ⟨fdh1, h1⟩ := ok__law_sip T
  obtain ⟨fdh2, h2⟩ := ok__law_round T
  have sc := sc__law_plan
  exact (dss_cons (ds_par3 4 5 6 sc.nd (da_cons (de_callG h0.1 (T.glo 88) h0.2.1 h0.2.2.1 (da_cons (de_var 0) da_nil)) (da_cons (de_op op_addD de_int (de_callG h1.1 (T.glo 85) h1.2.1 h1.2.2.1 (da_cons (de_var 0) (da_cons de_int da_nil)))) (da_cons (de_op op_addD de_int (de_callG h1.1 (T.glo 85) h1.2.1 h1.2.2.1 (da_cons (de_var 0) (da_cons (de_var 3) da_nil)))) da_nil))))
  (dss_one (ds_ret (de_lst (da_cons (de_ix (de_var 1) (de_var 2)) (da_cons (de_var 4) (da_cons (de_var 5) (da_cons (de_lc [("_law_k", 7)] sc.nd (show blkC N__law_plan (defScope s__law_plan) _ _ = true by decide +kernel) (di_range1 (T.free 11) (da_cons (de_var 6) da_nil)) (dg_name 7 sc.nd) dts_nil (de_callG h2.1 (T.glo 89) h2.2.1 h2.2.2.1 (da_cons (de_var 0) (da_cons (de_var 1) (da_cons (de_var 2) da_nil))))) da_nil))))))))
theorem ok__law_plan {b : Base} (T : Tx fa fn pr cs xf b) : ∃ fd, FnG b 4 (He.ga b.K "_law_plan") fd P__law_plan F__law_plan ∧ PySem.W.keepIn b.K (.ref (He.ga b.K "_law_plan")) = true ∧ Binds b.K fd P__law_plan [] ∧ True := by
  obtain ⟨fd, F, B⟩ := k__law_plan T
  exact ⟨fd, fnG_ok false F sc__law_plan (fun E => e__law_plan T E), F.kp, B, trivial⟩
theorem sc__law_good : FnScope N__law_good P__law_good (defScope s__law_good) := ⟨rfl, rfl, rfl, by decide +kernel, rfl, by decide +kernel, by decide +kernel⟩
theorem k__law_good {b : Base} (T : Tx fa fn pr cs xf b) : ∃ fd, FunD b.K "_law_good" "_law_good" (defArgs s__law_good) (defBody s__law_good) (defScope s__law_good) [] [] (He.ga b.K "_law_good") fd ∧ Binds b.K fd P__law_good [] := by
  obtain ⟨fd, F⟩ := T.s.c.def_ 55 (d := d__law_good) rfl
  exact ⟨fd, F, F.bindsN fun _ _ _ _ _ _ us hl => match us, hl with | [_, _, _], _ => rfl⟩
set_option maxHeartbeats 4000000 in
theorem e__law_good {b : Base} (T : Tx fa fn pr cs xf b) (E : XK) : DSs (b.at N__law_good (defScope s__law_good) 1 true) (wOf E) (defBody s__law_good) B__law_good := by
  obtain ⟨fdh0, h0⟩ := ok__law_sip T
  have sc := sc__law_good
  exact (dss_cons (ds_par3 3 4 5 sc.nd (da_cons (de_ix (de_var 1) (de_var 2)) (da_cons (de_op op_addD de_int (de_callG h0.1 (T.glo 85) h0.2.1 h0.2.2.1 (da_cons (de_var 0) (da_cons de_int da_nil)))) (da_cons (de_callG h0.1 (T.glo 85) h0.2.1 h0.2.2.1 (da_cons (de_var 0) (da_cons de_int da_nil))) da_nil))))
  (dss_cons (ds_if (dt_cmp op_eqD' (de_var 5) de_int) (dss_one (ds_ret (de_lst (da_cons (de_var 3) (da_cons (de_tup (da_cons de_str (da_cons de_int da_nil))) (da_cons (de_var 4) (da_cons (de_lst (da_cons (de_lst (da_cons (de_tup (da_cons de_str (da_cons de_int (da_cons de_int (da_cons de_str (da_cons de_int (da_cons de_str da_nil))))))) da_nil)) da_nil)) da_nil))))))) dss_nil)
  (dss_cons (ds_if (dt_cmp op_eqD' (de_var 5) de_int) (dss_one (ds_ret (de_lst (da_cons (de_var 3) (da_cons (de_tup (da_cons de_str (da_cons de_int da_nil))) (da_cons (de_var 4) (da_cons (de_lst (da_cons (de_lst (da_cons (de_tup (da_cons de_str (da_cons de_int (da_cons de_int (da_cons de_str (da_cons de_int (da_cons de_str da_nil))))))) da_nil)) (da_cons (de_lst (da_cons (de_tup (da_cons de_str (da_cons de_int (da_cons de_int (da_cons de_str (da_cons de_int (da_cons de_str da_nil))))))) da_nil)) da_nil))) da_nil))))))) dss_nil)
  (dss_cons (ds_if (dt_cmp op_eqD' (de_var 5) de_int) (dss_cons (ds_asg [6] (de_lst (da_cons (de_lst (da_cons (de_tup (da_cons de_str (da_cons de_int (da_cons de_int (da_cons de_str (da_cons de_int (da_cons de_str da_nil))))))) da_nil)) (da_cons (de_lst (da_cons (de_tup (da_cons de_str (da_cons de_int (da_cons de_int (da_cons de_str (da_cons de_int (da_cons (de_var 3) da_nil))))))) da_nil)) da_nil))) (dg_name 6 sc.nd))
  (dss_one (ds_ret (de_lst (da_cons (de_var 3) (da_cons (de_tup (da_cons de_str (da_cons de_int da_nil))) (da_cons (de_var 4) (da_cons (de_op op_addD (de_var 6) (de_lst (da_cons (de_lst (da_cons (de_tup (da_cons de_str (da_cons de_int (da_cons de_int (da_cons de_str (da_cons de_int (da_cons de_str da_nil))))))) da_nil)) da_nil))) da_nil)))))))) dss_nil)
  (dss_cons (ds_asg [6] (de_lst (da_cons (de_lst (da_cons (de_tup (da_cons de_str (da_cons de_int (da_cons de_int (da_cons de_str (da_cons de_int (da_cons de_str da_nil))))))) da_nil)) (da_cons (de_lst (da_cons (de_tup (da_cons de_str (da_cons de_int (da_cons de_int (da_cons de_str (da_cons de_int (da_cons de_str da_nil))))))) da_nil)) (da_cons (de_lst (da_cons (de_tup (da_cons de_str (da_cons de_int (da_cons de_int (da_cons de_str (da_cons de_int (da_cons (de_var 3) da_nil))))))) da_nil)) da_nil)))) (dg_name 6 sc.nd))
  (dss_one (ds_ret (de_lst (da_cons (de_var 3) (da_cons (de_tup (da_cons de_str (da_cons de_int da_nil))) (da_cons (de_var 4) (da_cons (de_op op_addD (de_var 6) (de_lst (da_cons (de_lst (da_cons (de_tup (da_cons de_str (da_cons de_int (da_cons de_int (da_cons de_str (da_cons de_int (da_cons de_str da_nil))))))) (da_cons (de_tup (da_cons de_str (da_cons de_int (da_cons de_int (da_cons de_str (da_cons de_int (da_cons de_str da_nil))))))) da_nil))) da_nil))) da_nil))))))))))))
theorem ok__law_good {b : Base} (T : Tx fa fn pr cs xf b) : ∃ fd, FnG b 2 (He.ga b.K "_law_good") fd P__law_good F__law_good ∧ PySem.W.keepIn b.K (.ref (He.ga b.K "_law_good")) = true ∧ Binds b.K fd P__law_good [] ∧ True := by
  obtain ⟨fd, F, B⟩ := k__law_good T
  exact ⟨fd, fnG_ok false F sc__law_good (fun E => e__law_good T E), F.kp, B, trivial⟩
theorem sc__law_labels : FnScope N__law_labels P__law_labels (defScope s__law_labels) := ⟨rfl, rfl, rfl, by decide +kernel, rfl, by decide +kernel, by decide +kernel⟩
theorem k__law_labels {b : Base} (T : Tx fa fn pr cs xf b) : ∃ fd, FunD b.K "_law_labels" "_law_labels" (defArgs s__law_labels) (defBody s__law_labels) (defScope s__law_labels) [] [] (He.ga b.K "_law_labels") fd ∧ Binds b.K fd P__law_labels [] := by
  obtain ⟨fd, F⟩ := T.s.c.def_ 56 (d := d__law_labels) rfl
  exact ⟨fd, F, F.bindsN fun _ _ _ _ _ _ us hl => match us, hl with | [_, _], _ => rfl⟩
set_option maxHeartbeats 4000000 in
theorem e__law_labels {b : Base} (T : Tx fa fn pr cs xf b) (E : XK) : DSs (b.at N__law_labels (defScope s__law_labels) 1 true) (wOf E) (defBody s__law_labels) B__law_labels := by
  obtain ⟨fdh0, h0⟩ := ok__law_sip T
  have sc := sc__law_labels
  exact (dss_cons (ds_asg [2, 3] (de_tup (da_cons (de_callG h0.1 (T.glo 85) h0.2.1 h0.2.2.1 (da_cons (de_var 0) (da_cons de_int da_nil))) (da_cons (de_ix (de_lst (da_cons de_int (da_cons de_int (da_cons de_int (da_cons de_int da_nil))))) (de_callG h0.1 (T.glo 85) h0.2.1 h0.2.2.1 (da_cons (de_var 0) (da_cons de_int da_nil)))) da_nil))) (dg_tup 2 (dgs_cons (Plain.of E) (dg_name 2 sc.nd) (dgs_cons (Plain.of E) (dg_name 3 sc.nd) dgs_nil))) (hw := by (intro env h; cases env; cases h; rfl)))
  (dss_cons (ds_asg [4] (de_lst (da_cons de_str (da_cons de_str (da_cons de_str (da_cons de_str (da_cons de_str (da_cons de_str (da_cons de_str (da_cons de_str (da_cons de_str da_nil)))))))))) (dg_name 4 sc.nd))
  (dss_one (ds_ret (de_lc [("_law_k", 5)] sc.nd (show blkC N__law_labels (defScope s__law_labels) _ _ = true by decide +kernel) (di_range1 (T.free 11) (da_cons (de_var 1) da_nil)) (dg_name 5 sc.nd) dts_nil (de_ix (de_var 4) (de_op op_modD (de_callT b_int (T.free 14) bt_int (da_cons (de_op op_addD (de_var 2) (de_op op_mulD (de_var 3) (de_var 5))) da_nil)) de_int)))))))
theorem ok__law_labels {b : Base} (T : Tx fa fn pr cs xf b) : ∃ fd, FnG b 2 (He.ga b.K "_law_labels") fd P__law_labels F__law_labels ∧ PySem.W.keepIn b.K (.ref (He.ga b.K "_law_labels")) = true ∧ Binds b.K fd P__law_labels [] ∧ True := by
  obtain ⟨fd, F, B⟩ := k__law_labels T
  exact ⟨fd, fnG_ok false F sc__law_labels (fun E => e__law_labels T E), F.kp, B, trivial⟩
theorem sc__law_sketch : FnScope N__law_sketch P__law_sketch (defScope s__law_sketch) := ⟨rfl, rfl, rfl, by decide +kernel, rfl, by decide +kernel, by decide +kernel⟩
theorem k__law_sketch {b : Base} (T : Tx fa fn pr cs xf b) : ∃ fd, FunD b.K "_law_sketch" "_law_sketch" (defArgs s__law_sketch) (defBody s__law_sketch) (defScope s__law_sketch) [] [] (He.ga b.K "_law_sketch") fd ∧ Binds b.K fd P__law_sketch [] := by
  obtain ⟨fd, F⟩ := T.s.c.def_ 57 (d := d__law_sketch) rfl
  exact ⟨fd, F, F.bindsN fun _ _ _ _ _ _ us hl => match us, hl with | [_, _, _], _ => rfl⟩
set_option maxHeartbeats 4000000 in
theorem e__law_sketch {b : Base} (T : Tx fa fn pr cs xf b) (E : XK) : DSs (b.at N__law_sketch (defScope s__law_sketch) 4 true) (wOf E) (defBody s__law_sketch) B__law_sketch := by
  obtain ⟨fdh0, h0⟩ := ok__law_labels T
  obtain ⟨fdh1, h1⟩ := ok__law_sip T
  obtain ⟨fdh2, h2⟩ := ok__law_good T
  obtain ⟨fdh3, h3⟩ := ok__law_plan T
  have sc := sc__law_sketch
  exact (dss_cons (ds_par 3 4 sc.nd (da_cons (de_callG h0.1 (T.glo 90) h0.2.1 h0.2.2.1 (da_cons (de_var 0) (da_cons (de_var 1) da_nil))) (da_cons (de_new da_nil) da_nil)))
  (dss_cons (ds_for [5] (di_range1 (T.free 11) (da_cons (de_var 1) da_nil)) (dg_name 5 sc.nd)
  (dss_one (ds_expr (de_bm PySem.F.plainAttrs_list PySem.F.slot_list_append PySem.F.type_list_append m_append (de_var 4) (da_cons (de_if (dt_cmp op_eqD' (de_callG h1.1 (T.glo 85) h1.2.1 h1.2.2.1 (da_cons (de_var 0) (da_cons de_int da_nil))) de_int) (de_callG h2.1 (T.glo 91) h2.2.1 h2.2.2.1 (da_cons (de_var 0) (da_cons (de_var 3) (da_cons (de_var 5) da_nil)))) (de_callG h3.1 (T.glo 92) h3.2.1 h3.2.2.1 (da_cons (de_var 0) (da_cons (de_var 3) (da_cons (de_var 5) (da_cons (de_var 2) da_nil)))))) da_nil)))))
  (dss_one (ds_ret (de_var 4)))))
theorem ok__law_sketch {b : Base} (T : Tx fa fn pr cs xf b) : ∃ fd, FnG b 5 (He.ga b.K "_law_sketch") fd P__law_sketch F__law_sketch ∧ PySem.W.keepIn b.K (.ref (He.ga b.K "_law_sketch")) = true ∧ Binds b.K fd P__law_sketch [] ∧ True := by
  obtain ⟨fd, F, B⟩ := k__law_sketch T
  exact ⟨fd, fnG_ok false F sc__law_sketch (fun E => e__law_sketch T E), F.kp, B, trivial⟩
theorem sc__law_right : FnScope N__law_right P__law_right (defScope s__law_right) := ⟨rfl, rfl, rfl, by decide +kernel, rfl, by decide +kernel, by decide +kernel⟩
theorem k__law_right {b : Base} (T : Tx fa fn pr cs xf b) : ∃ fd, FunD b.K "_law_right" "_law_right" (defArgs s__law_right) (defBody s__law_right) (defScope s__law_right) [] [] (He.ga b.K "_law_right") fd ∧ Binds b.K fd P__law_right [] := by
  obtain ⟨fd, F⟩ := T.s.c.def_ 58 (d := d__law_right) rfl
  exact ⟨fd, F, F.bindsN fun _ _ _ _ _ _ us hl => match us, hl with | [_], _ => rfl⟩
set_option maxHeartbeats 4000000 in
theorem e__law_right {b : Base} (T : Tx fa fn pr cs xf b) (E : XK) : DSs (b.at N__law_right (defScope s__law_right) 11 true) (wOf E) (defBody s__law_right) B__law_right := by
  obtain ⟨fdh0, h0⟩ := ok__law_sketch T
  obtain ⟨fdh1, h1⟩ := ok__law_sip T
  obtain ⟨fdh2, h2⟩ := ok__law_vol T
  obtain ⟨fdh3, h3⟩ := ok_Book_D_strD_ T
  obtain ⟨fdh4, h4⟩ := ok__law_size_right T
  obtain ⟨fdh5, h5⟩ := ok_level T
  have sc := sc__law_right
  exact (dss_cons (ds_asg [1] (de_callG h0.1 (T.glo 93) h0.2.1 h0.2.2.1 (da_cons (de_var 0) (da_cons (de_op op_addD de_int (de_callG h1.1 (T.glo 85) h1.2.1 h1.2.2.1 (da_cons (de_var 0) (da_cons de_int da_nil)))) (da_cons de_int da_nil)))) (dg_name 1 sc.nd))
  (dss_cons (ds_par 2 3 sc.nd (da_cons (de_callG h2.1 (T.glo 94) h2.2.1 h2.2.2.1 (da_cons (de_var 1) da_nil)) (da_cons (de_op op_addD de_int (de_callG h1.1 (T.glo 85) h1.2.1 h1.2.2.1 (da_cons (de_var 0) (da_cons de_int da_nil)))) da_nil)))
  (dss_cons (ds_asg [4] (de_callT (b_strO h3.1 (T.meth 95) h3.2.2.1) (T.free 19) bt_str (da_cons (de_var 2) da_nil)) (dg_name 4 sc.nd))
  (dss_cons (ds_for [5] (di_seq (de_var 1)) (dg_name 5 sc.nd)
  (dss_cons (ds_for [6] (di_seq (de_op op_addD (de_listR2 lk_frz (T.free 27) (T.free 11) de_int de_int) (de_lst (da_cons (de_var 3) da_nil)))) (dg_name 6 sc.nd)
  (dss_one (ds_if (dt_not (dt_val (de_callG h4.1 (T.glo 96) h4.2.1 h4.2.2.1 (da_cons (de_var 1) (da_cons (de_var 2) (da_cons (de_var 5) (da_cons (de_var 6) da_nil))))))) (dss_one (ds_ret de_bl)) dss_nil)))
  (dss_one (ds_if (dt_cmp op_neD' (de_callK sh_120 h5.1 (T.glo 54) h5.2.1 (kb_level_sh_120 T _ h5.2.2.2) (Plain.of E) (sh_120_rp rfl) (sh_120_len rfl) (dk_cons de_int (dk_cons (de_var 2) (dk_cons (de_ix (de_var 5) de_int) dk_nil)))) (de_call h5.1 (T.glo 54) h5.2.1 h5.2.2.1 (da_cons (de_var 2) (da_cons (de_ix (de_var 5) de_int) (da_cons de_int da_nil))))) (dss_one (ds_ret de_bl)) dss_nil))))
  (dss_one (ds_ret (de_cmp op_eqD' (de_callT (b_strO h3.1 (T.meth 95) h3.2.2.1) (T.free 19) bt_str (da_cons (de_var 2) da_nil)) (de_var 4))))))))
theorem ok__law_right {b : Base} (T : Tx fa fn pr cs xf b) : ∃ fd, FnG b 12 (He.ga b.K "_law_right") fd P__law_right F__law_right ∧ PySem.W.keepIn b.K (.ref (He.ga b.K "_law_right")) = true ∧ Binds b.K fd P__law_right [] ∧ True := by
  obtain ⟨fd, F, B⟩ := k__law_right T
  exact ⟨fd, fnG_ok false F sc__law_right (fun E => e__law_right T E), F.kp, B, trivial⟩
theorem sc__law_cup : FnScope N__law_cup P__law_cup (defScope s__law_cup) := ⟨rfl, rfl, rfl, by decide +kernel, rfl, by decide +kernel, by decide +kernel⟩
theorem k__law_cup {b : Base} (T : Tx fa fn pr cs xf b) : ∃ fd, FunD b.K "_law_cup" "_law_cup" (defArgs s__law_cup) (defBody s__law_cup) (defScope s__law_cup) [] [] (He.ga b.K "_law_cup") fd ∧ Binds b.K fd P__law_cup [] := by
  obtain ⟨fd, F⟩ := T.s.c.def_ 59 (d := d__law_cup) rfl
  exact ⟨fd, F, F.bindsN fun _ _ _ _ _ _ us hl => match us, hl with | [_, _], _ => rfl⟩
set_option maxHeartbeats 4000000 in
theorem e__law_cup {b : Base} (T : Tx fa fn pr cs xf b) (E : XK) : DSs (b.at N__law_cup (defScope s__law_cup) 0 true) (wOf E) (defBody s__law_cup) B__law_cup := by
  have sc := sc__law_cup
  exact (dss_cons (ds_asg [2] (de_if (dt_cmp op_ltD (de_var 1) (de_callB b_len (T.free 7) bt_len (da_cons (de_var 0) da_nil))) (de_ix (de_var 0) (de_var 1)) (de_op op_addD (de_var 1) de_int)) (dg_name 2 sc.nd))
  (dss_cons (ds_asg [3] (de_op op_addD de_int (de_op op_mulD de_int (de_var 1))) (dg_name 3 sc.nd))
  (dss_cons (ds_for [4] (di_seq (de_op op_addD (de_sl (de_var 0) do_none (do_some de_int)) (de_lst (da_cons (de_var 2) da_nil)))) (dg_name 4 sc.nd)
  (dss_one (ds_asg [3] (de_op op_modD (de_callT b_int (T.free 14) bt_int (da_cons (de_op op_addD (de_op op_mulD (de_var 3) de_int) (de_var 4)) da_nil)) de_int) (dg_name 3 sc.nd))))
  (dss_one (ds_ret (de_new (da_cons (de_if (dt_w (dw_or (dt_cmp op_ltD (de_var 2) de_int) (dw_or1 (dt_cmp op_geD (de_var 2) (de_op op_powD de_int de_int))))) (de_callB b_abs (T.free 97) bt_abs (da_cons (de_var 2) da_nil)) de_int) (da_cons (de_var 3) (da_cons de_int da_nil)))))))))
theorem ok__law_cup {b : Base} (T : Tx fa fn pr cs xf b) : ∃ fd, FnG b 1 (He.ga b.K "_law_cup") fd P__law_cup F__law_cup ∧ PySem.W.keepIn b.K (.ref (He.ga b.K "_law_cup")) = true ∧ Binds b.K fd P__law_cup [] ∧ True := by
  obtain ⟨fd, F, B⟩ := k__law_cup T
  exact ⟨fd, fnG_ok true F sc__law_cup (fun E => e__law_cup T E), F.kp, B, trivial⟩
theorem sc_law : FnScope N_law P_law (defScope s_law) := ⟨rfl, rfl, rfl, by decide +kernel, rfl, by decide +kernel, by decide +kernel⟩
theorem k_law {b : Base} (T : Tx fa fn pr cs xf b) : ∃ fd, FunD b.K "law" "law" (defArgs s_law) (defBody s_law) (defScope s_law) [] [] (He.ga b.K "law") fd ∧ Binds b.K fd P_law [] := by
  obtain ⟨fd, F⟩ := T.s.c.def_ 60 (d := d_law) rfl
  exact ⟨fd, F, F.bindsN fun _ _ _ _ _ _ us hl => match us, hl with | [_], _ => rfl⟩
set_option maxHeartbeats 4000000 in
theorem e_law {b : Base} (T : Tx fa fn pr cs xf b) (E : XK) : DSs (b.at N_law (defScope s_law) 12 true) (wOf E) (defBody s_law) B_law := by
  obtain ⟨fdh0, h0⟩ := ok__law_right T
  obtain ⟨fdh1, h1⟩ := ok__law_cup T
  have sc := sc_law
  exact (dss_one (ds_ret (de_callB b_all (T.free 61) bt_all (da_cons (de_lc [("_law_turn", 1)] sc.nd (show blkC N_law (defScope s_law) _ _ = true by decide +kernel) (di_range1 (T.free 11) (da_cons (de_callB b_max (T.free 12) bt_max (da_cons de_int (da_cons (de_callB b_min (T.free 86) bt_min (da_cons (de_callB b_len (T.free 7) bt_len (da_cons (de_var 0) da_nil)) (da_cons de_int da_nil))) da_nil))) da_nil)) (dg_name 1 sc.nd) dts_nil (de_callG h0.1 (T.glo 99) h0.2.1 h0.2.2.1 (da_cons (de_callG h1.1 (T.glo 98) h1.2.1 h1.2.2.1 (da_cons (de_var 0) (da_cons (de_var 1) da_nil))) da_nil))) da_nil))))
theorem ok_law {b : Base} (T : Tx fa fn pr cs xf b) (fd : FuncData) (F : FunD b.K "law" "law" (defArgs s_law) (defBody s_law) (defScope s_law) [] [] (He.ga b.K "law") fd) : (∀ (s : Shared) (u : Value), BindsTo s fd ⟨[u], []⟩ [("_law_cells", u)]) ∧ FnG b 13 (He.ga b.K "law") fd P_law F_law := by
  have B := FunD.bindsA (ps := P_law) F fun _ _ _ _ _ _ us hl => match us, hl with | [_], _ => rfl
  exact ⟨fun s u => B s [u] rfl, fnG_ok false F sc_law (fun E => e_law T E)⟩
def nmL0 : List PySem.Str := ["_wall", "NotRight", "InvalidText", "InvalidCount", "NotABook", "InvalidPlans", "NotThere", "UnknownPlan", "LETTERS", "DIGITS"]
def nmL1 : List PySem.Str := ["is_integer", "is_between", "is_name", "check_size", "MOST_PLANS", "MOST_ROUNDS", "MOST_CLAUSES", "MOST_CLASSES", "MOST_FAR", "MOST_LAST"]
def nmL2 : List PySem.Str := ["MOST_BASE", "MOST_LEVEL", "GAP", "Clause", "digit_of", "class_of", "read_call", "read_clause", "meet", "read_clauses"]
def nmL3 : List PySem.Str := ["read_round", "read_goal", "is_plan", "first_invalid", "read_head", "read_plans", "text_of", "Book", "check_book", "check_plan"]
def nmL4 : List PySem.Str := ["NOUGHT", "joined", "joined_all", "beginnings", "goal_runs", "due_run", "places_of", "read_at", "word_behind", "round_done"]
def nmL5 : List PySem.Str := ["levels_of", "wrong_places", "holds_at", "level", "holds", "_law_cup", "_law_sip", "_law_labels", "_law_clause", "_law_round"]
def nmL6 : List PySem.Str := ["_law_goal", "_law_plan", "_law_good", "_law_sketch", "_law_clause_text", "_law_goal_text", "_law_parts", "_law_vol", "_law_joint", "_law_all_joint"]
def nmL7 : List PySem.Str := ["_law_says", "_law_done", "_law_level", "_law_due", "_law_faults", "_law_run", "_law_size_right", "_law_right"]
def nmL : List PySem.Str := nmL0 ++ (nmL1 ++ (nmL2 ++ (nmL3 ++ (nmL4 ++ (nmL5 ++ (nmL6 ++ (nmL7)))))))
abbrev R : PySem.W.OpenRow := PySem.W.OpenLaw.row PySem.Challenge.rw_joinrounds_k30_whole_levels
abbrev hk : PySem.W.Hook := hookM 1500 fa fn pr cs xf
def ob (s : PySem.W.SharedT) : AlM := obsMG 1500 fa fn pr cs xf (HandSHeadRun.getT s)
theorem ob_eq (s : PySem.W.SharedT) : ob s = hk.obs s.abs := obsMG_eq (HandSHeadRun.getT_eq s)
set_option maxHeartbeats 0 in
theorem run (w : World) : HandSHeadRun.RunEq R (PySem.W.view R.prog [85]) hk ob 20000 nmL w := by
  intro os
  kernel_rfl
end J
open PySem PySem.W PySem.Calls PyProof.Rows in
set_option maxHeartbeats 0 in
theorem PySem.Challenge.cw_joinrounds_k30_whole_levels_holds : PySem.Challenge.rw_joinrounds_k30_whole_levels.Holds := by
  w_on; o_law
  refine HandSHeadRun.head_any (r := OpenLaw.row PySem.Challenge.rw_joinrounds_k30_whole_levels) (q := view (OpenLaw.row PySem.Challenge.rw_joinrounds_k30_whole_levels).prog [85]) (H := J.hk) (ob := J.ob) (M := 20000) (loose := J.nmL) (d := HandSHeadRun.topDef (OpenLaw.row PySem.Challenge.rw_joinrounds_k30_whole_levels).prog 85) (kwd := []) J.ob_eq
    (by kernel_rfl) (fun s => by kernel_rfl) J.run (by kernel_rfl) (by kernel_rfl) (by kernel_rfl) (by rfl) (by first | assumption | decide +kernel) (by decide +kernel) ⟨rfl, rfl, rfl, rfl, rfl, by decide +kernel⟩ ?hw ?hc
  case hw => w_witness2
  case hc =>
    exact DS.walkG (l := PySem.Challenge.rw_joinrounds_k30_whole_levels) (n := 63) (k := 13) (G := J.F_law) rfl (by decide) (by kernel_rfl) (by kernel_rfl) ⟨rfl, by decide, by decide⟩ (fun K c => c.c.def_ 60 (d := J.d_law) rfl) (fun b _ T fd F => J.ok_law T fd F) (fun K c => ⟨100, rfl⟩) J.law_true
