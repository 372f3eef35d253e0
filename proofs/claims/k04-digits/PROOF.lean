import PyProof.Rows.All
import Wide.All
import OpenK.AllK
import Wide.FinOn
import KE.KStateDown
import HandS.ForMost
import HandS.ForExc
import HandS.HotCalls
import HandS.Lambda
import KE.KNestM
import HandS.CallSlots
import HandS.HeadHook2
import PyProof.ReprRoads
import HandS.TupAny
import HandS.IsInst
import HandS.Property
import HandS.RaiseMore
import HandS.Style
import HandS.NoneIn
import HandS.FStr
import HandS.Star
import HandS.DictComp
import HandS.MakeKw
import HandS.HeadEnd
import KE.KExcSuper
import KE.KExcInit
import HandS.Head0
import HandS.Head1
import HandS.Head2
import KE.GoesEnum
import HandS.Iter
import HandS.Conv
import HandS.SortInts
import KE.KCallOwn
import HandS.ExcInit
import HandS.ExcOwn
import HandS.TryMany
import HandS.ExcField
import HandS.ExcIs
import KE.KExcIs
import OpenK.KOps
import HandS.Records
import HandS.SetFor
import HandS.Strs
import HandS.Text
import HandS.Codes
import PySem.Challenge.RW_joinrounds_k04_clauses_by_digits
set_option Elab.async false
set_option linter.all false
set_option maxRecDepth 100000
/-! # DS: a data semantics over the hand layer. D: plain trees; Mu: the few objects that change; a def is a plain function. -/
namespace DS
open PySem PySem.Spec PyProof.Rows L2

/-- the exception that a suite handles: its place, its dict, its class -/
structure Hx where
  x : Addr
  dd : Option Addr
  c : Str
deriving DecidableEq
inductive D where
  | non | bl (b : Bool) | int (i : Int) | str (x : Str)
  | tup (xs : List D) | lst (xs : List D) | fix (xs : List D)
  | obj (c : Str) (fs : List (Str × D))
  | dct (kvs : List (Str × D))
  | loc (n : Nat) | glo (x : Str) | ty (n : String)
  | exn (k : Hx) (fs : List (Str × D))

inductive Cell where
  | lst (xs : List D) | ins (c : Str) (fs : List (Str × D)) | dct (fs : List (Str × D)) | dead | tab (q : Str)
abbrev Mu := List Cell
abbrev Rho := List (Option D)

inductive Out (α : Type) where
  | ok (a : α) (m : Mu) | exc (c : Str) (fs : List (Str × D)) (m : Mu) | stuck
def Out.bind {α β : Type} : Out α → (α → Mu → Out β) → Out β
  | .ok a m, k => k a m
  | .exc c fs m, _ => .exc c fs m
  | .stuck, _ => .stuck

/-! ### locations below a bound -/
mutual
def D.inB (n : Nat) : D → Bool
  | .loc m => decide (m < n)
  | .tup xs => D.inL n xs
  | .lst xs => D.inL n xs
  | .fix xs => D.inL n xs
  | .obj _ fs => D.inF n fs
  | .dct fs => D.inF n fs
  | .exn _ fs => D.inF n fs
  | _ => true
def D.inL (n : Nat) : List D → Bool
  | [] => true
  | x :: r => D.inB n x && D.inL n r
def D.inF (n : Nat) : List (Str × D) → Bool
  | [] => true
  | (_, x) :: r => D.inB n x && D.inF n r
end
def Cell.inB (n : Nat) : Cell → Bool
  | .lst xs => D.inL n xs
  | .ins _ fs => D.inF n fs
  | .dct fs => D.inF n fs
  | .dead => true
  | .tab _ => true

/-! ### which value stands for which tree -/
mutual
inductive Rp (K : PySem.W.Frag) (F : Hp) (al : List Addr) : D → V → Prop
  | non : Rp K F al .non .non
  | bl (b : Bool) : Rp K F al (.bl b) (.bl b)
  | int (i : Int) : Rp K F al (.int i) (.int i)
  | str (x : Str) : Rp K F al (.str x) (.str x)
  | tup {a : Addr} {vs : List V} {ds : List D} : SqT K F a vs → RpL K F al ds vs → Rp K F al (.tup ds) (.ref a)
  | lst {a : Addr} {vs : List V} {ds : List D} : F a = some (.lst vs) → RpL K F al ds vs → Rp K F al (.lst ds) (.ref a)
  | fix {a : Addr} {vs : List V} {ds : List D} : SqL K F a vs → RpL K F al ds vs → Rp K F al (.fix ds) (.ref a)
  | obj {a dx : Addr} {c : Str} {fs : List (Str × V)} {gs : List (Str × D)} : F a = some (.ins (He.ga K c) dx fs) → RpF K F al gs fs → Rp K F al (.obj c gs) (.ref a)
  | dct {a : Addr} {fs : List (Str × V)} {gs : List (Str × D)} : F a = some (.dK (fs.map fun p => (Sum.inr p.1, p.2))) → RpF K F al gs fs → Rp K F al (.dct gs) (.ref a)
  | loc {n : Nat} {a : Addr} : al[n]? = some a → Rp K F al (.loc n) (.ref a)
  | glo (x : Str) : Rp K F al (.glo x) (.ref (He.ga K x))
  | ty (n : String) : Rp K F al (.ty n) (.ty n)
  | exn {k : Hx} {fs : List (Str × V)} {gs : List (Str × D)} : (fs = [] ∧ k.dd = none ∨ ∃ y, k.dd = some y ∧ F y = some (.xd fs)) → RpF K F al gs fs → Rp K F al (.exn k gs) (.ref k.x)
inductive RpL (K : PySem.W.Frag) (F : Hp) (al : List Addr) : List D → List V → Prop
  | nil : RpL K F al [] []
  | cons {d : D} {v : V} {ds : List D} {vs : List V} : Rp K F al d v → RpL K F al ds vs → RpL K F al (d :: ds) (v :: vs)
inductive RpF (K : PySem.W.Frag) (F : Hp) (al : List Addr) : List (Str × D) → List (Str × V) → Prop
  | nil : RpF K F al [] []
  | cons {x : Str} {d : D} {v : V} {ds : List (Str × D)} {vs : List (Str × V)} : Rp K F al d v → RpF K F al ds vs → RpF K F al ((x, d) :: ds) ((x, v) :: vs)
end

/-- more is known -/
structure Le (F : Hp) (al : List Addr) (F' : Hp) (al' : List Addr) : Prop where
  f : ∀ (a : Addr) (o : HO), F a = some o → F' a = some o
  a : ∀ (n : Nat) (a : Addr), al[n]? = some a → al'[n]? = some a
theorem Le.refl {F : Hp} {al : List Addr} : Le F al F al := ⟨fun _ _ h => h, fun _ _ h => h⟩
theorem Le.trans {F F1 F2 : Hp} {al al1 al2 : List Addr} (a : Le F al F1 al1) (b : Le F1 al1 F2 al2) : Le F al F2 al2 :=
  ⟨fun x o h => b.f x o (a.f x o h), fun n x h => b.a n x (a.a n x h)⟩
theorem rd_up {F F' : Hp} (h : ∀ a o, F a = some o → F' a = some o) {a : Addr} {u : HO} (r : Rd F a u) : Rd F' a u := by
  rcases r with r | ⟨o, r⟩
  · exact .inl (h _ _ r)
  · exact .inr ⟨o, h _ _ r⟩
theorem sqt_up {K : PySem.W.Frag} {F F' : Hp} (h : ∀ a o, F a = some o → F' a = some o) {a : Addr} {xs : List V} (r : SqT K F a xs) : SqT K F' a xs := by
  rcases r with r | r
  · exact .inl (rd_up h r)
  · exact .inr r
theorem sql_up {K : PySem.W.Frag} {F F' : Hp} (h : ∀ a o, F a = some o → F' a = some o) {a : Addr} {xs : List V} (r : SqL K F a xs) : SqL K F' a xs := by
  rcases r with r | r
  · exact .inl (rd_up h r)
  · exact .inr r
section
variable {K : PySem.W.Frag} {F F' : Hp} {al al' : List Addr}
mutual
theorem Rp.up (e : Le F al F' al') : ∀ {d : D} {v : V}, Rp K F al d v → Rp K F' al' d v
  | _, _, .non => .non
  | _, _, .bl b => .bl b
  | _, _, .int i => .int i
  | _, _, .str x => .str x
  | _, _, .tup s r => .tup (sqt_up e.f s) (RpL.up e r)
  | _, _, .lst s r => .lst (e.f _ _ s) (RpL.up e r)
  | _, _, .fix s r => .fix (sql_up e.f s) (RpL.up e r)
  | _, _, .obj s r => .obj (e.f _ _ s) (RpF.up e r)
  | _, _, .dct s r => .dct (e.f _ _ s) (RpF.up e r)
  | _, _, .loc s => .loc (e.a _ _ s)
  | _, _, .glo x => .glo x
  | _, _, .ty n => .ty n
  | _, _, .exn s r => .exn (s.imp id fun ⟨y, a, b⟩ => ⟨y, a, e.f _ _ b⟩) (RpF.up e r)
theorem RpL.up (e : Le F al F' al') : ∀ {d : List D} {v : List V}, RpL K F al d v → RpL K F' al' d v
  | _, _, .nil => .nil
  | _, _, .cons r q => .cons (Rp.up e r) (RpL.up e q)
theorem RpF.up (e : Le F al F' al') : ∀ {d : List (Str × D)} {v : List (Str × V)}, RpF K F al d v → RpF K F' al' d v
  | _, _, .nil => .nil
  | _, _, .cons r q => .cons (Rp.up e r) (RpF.up e q)
end
mutual
theorem Rp.cut {n : Nat} : ∀ {d : D} {v : V}, Rp K F al d v → d.inB n = true → Rp K F (al.take n) d v
  | _, _, .non, _ => .non
  | _, _, .bl b, _ => .bl b
  | _, _, .int i, _ => .int i
  | _, _, .str x, _ => .str x
  | _, _, .tup s r, h => .tup s (RpL.cut r (by rw [D.inB] at h; exact h))
  | _, _, .lst s r, h => .lst s (RpL.cut r (by rw [D.inB] at h; exact h))
  | _, _, .fix s r, h => .fix s (RpL.cut r (by rw [D.inB] at h; exact h))
  | _, _, .obj s r, h => .obj s (RpF.cut r (by rw [D.inB] at h; exact h))
  | _, _, .dct s r, h => .dct s (RpF.cut r (by rw [D.inB] at h; exact h))
  | _, _, .loc s, h => .loc (by
      rw [D.inB] at h
      rw [List.getElem?_take_of_lt (of_decide_eq_true h)]
      exact s)
  | _, _, .glo x, _ => .glo x
  | _, _, .ty n, _ => .ty n
  | _, _, .exn s r, h => .exn s (RpF.cut r (by rw [D.inB] at h; exact h))
theorem RpL.cut {n : Nat} : ∀ {d : List D} {v : List V}, RpL K F al d v → D.inL n d = true → RpL K F (al.take n) d v
  | _, _, .nil, _ => .nil
  | _, _, .cons r q, h => by
    rw [D.inL, Bool.and_eq_true] at h
    exact .cons (Rp.cut r h.1) (RpL.cut q h.2)
theorem RpF.cut {n : Nat} : ∀ {d : List (Str × D)} {v : List (Str × V)}, RpF K F al d v → D.inF n d = true → RpF K F (al.take n) d v
  | _, _, .nil, _ => .nil
  | _, _, .cons r q, h => by
    rw [D.inF, Bool.and_eq_true] at h
    exact .cons (Rp.cut r h.1) (RpF.cut q h.2)
end
theorem RpL.len : ∀ {d : List D} {v : List V}, RpL K F al d v → d.length = v.length
  | _, _, .nil => rfl
  | _, _, .cons _ q => by rw [List.length_cons, List.length_cons, RpL.len q]
theorem RpL.get : ∀ {ds : List D} {vs : List V} {i : Nat} {d : D}, RpL K F al ds vs → ds[i]? = some d → ∃ v, vs[i]? = some v ∧ Rp K F al d v
  | _, _, 0, _, .cons r _, e => by
    cases e
    exact ⟨_, rfl, r⟩
  | _, _, i + 1, d, .cons _ q, e => by
    obtain ⟨v, h1, h2⟩ := RpL.get (i := i) (d := d) q (by simpa using e)
    exact ⟨v, by simpa using h1, h2⟩
theorem RpL.append : ∀ {ds es : List D} {vs ws : List V}, RpL K F al ds vs → RpL K F al es ws → RpL K F al (ds ++ es) (vs ++ ws)
  | _, _, _, _, .nil, s => s
  | _, _, _, _, .cons r t, s => .cons r (RpL.append t s)
theorem RpL.set {d : D} {v : V} (r : Rp K F al d v) : ∀ {ds : List D} {vs : List V} (i : Nat), RpL K F al ds vs → RpL K F al (ds.set i d) (vs.set i v)
  | _, _, _, .nil => .nil
  | _, _, 0, .cons _ t => .cons r t
  | _, _, i + 1, .cons q t => .cons q (RpL.set r i t)
theorem RpL.take : ∀ {ds : List D} {vs : List V} (n : Nat), RpL K F al ds vs → RpL K F al (ds.take n) (vs.take n)
  | _, _, 0, _ => .nil
  | _, _, _ + 1, .nil => .nil
  | _, _, n + 1, .cons r t => .cons r (RpL.take n t)
theorem RpL.drop : ∀ {ds : List D} {vs : List V} (n : Nat), RpL K F al ds vs → RpL K F al (ds.drop n) (vs.drop n)
  | _, _, 0, r => r
  | _, _, _ + 1, .nil => .nil
  | _, _, n + 1, .cons _ t => RpL.drop n t
theorem RpL.snoc {ds : List D} {vs : List V} {d : D} {v : V} (a : RpL K F al ds vs) (b : Rp K F al d v) : RpL K F al (ds ++ [d]) (vs ++ [v]) := a.append (.cons b .nil)
theorem RpF.look {x : Str} : ∀ {ds : List (Str × D)} {vs : List (Str × V)}, RpF K F al ds vs →
    (ds.lookup x = none → vs.lookup x = none) ∧ ∀ d, ds.lookup x = some d → ∃ v, vs.lookup x = some v ∧ Rp K F al d v
  | _, _, .nil => ⟨fun _ => rfl, (fun _ h => nomatch h)⟩
  | _, _, .cons (x := y) r q => by
    have ih := RpF.look (x := x) q
    simp only [List.lookup_cons]
    cases h : (x == y) with
    | true => exact ⟨(fun z => nomatch z), fun d e => ⟨_, rfl, by cases e; exact r⟩⟩
    | false => exact ih
theorem RpF.len : ∀ {d : List (Str × D)} {v : List (Str × V)}, RpF K F al d v → d.length = v.length
  | _, _, .nil => rfl
  | _, _, .cons _ q => by rw [List.length_cons, List.length_cons, RpF.len q]
end
end DS

namespace DS
open PySem PySem.Spec PyProof.Rows L2

/-- the code object of the def x, and its table -/
def tabP (K : PySem.W.Frag) (x : Str) : Addr := match PySem.W.tabIn K x with
  | some (_, P) => P
  | none => 0
def tabC (K : PySem.W.Frag) (x : Str) : Addr := match PySem.W.tabIn K x with
  | some (c, _) => c
  | none => 0
def lamQ (x : Str) : Str := x ++ ".<locals>." ++ "<lambda>"
/-! ### the store -/
def CellOk (K : PySem.W.Frag) (F : Hp) (al : List Addr) (H : Hp) (a : Addr) : Cell → Prop
  | .lst ds => F a = none ∧ ∃ vs, H a = some (.lst vs) ∧ RpL K F al ds vs
  | .ins c gs => F a = none ∧ ∃ dx fs, H a = some (.ins (He.ga K c) dx fs) ∧ RpF K F al gs fs
  | .dct gs => F a = none ∧ ∃ fs, H a = some (.dK (fs.map fun p => (Sum.inr p.1, p.2))) ∧ RpF K F al gs fs
  | .dead => ∃ o, F a = some o
  | .tab x => (F a = none ∧ a = tabP K x) ∧ ∃ ps : Array Value, H a = some (.tbl ps) ∧ TriplesOk ps.toList ∧ ∀ (pos : Pos) (cv : Value), codeAmong pos ps.toList = some cv → ∃ c, cv = .ref c ∧ F c = some (LamX.CodeO c (lamQ x))
structure Wd (K : PySem.W.Frag) (F : Hp) (al : List Addr) (m : Mu) (H : Hp) : Prop where
  sub : ∀ (a : Addr) (o : HO), F a = some o → H a = some o
  len : al.length = m.length
  nd : al.Nodup
  cell : ∀ (n : Nat) (a : Addr) (c : Cell), al[n]? = some a → m[n]? = some c → CellOk K F al H a c
  gen : ∀ (n : Nat) (c : Cell), m[n]? = some c → c.inB n = true
  tr : ∀ a ∈ al, H a ≠ none
  nt : ∀ (a : Addr) (ps : Array Value), F a ≠ some (.tbl ps)

/-- what is wanted behind a piece of code, by its outcome -/
def Post {δ ν : Type} (K : PySem.W.Frag) (R : Hp → List Addr → δ → ν → Prop) (W : XK) (F : Hp) (al : List Addr) (Q : ν → Hp → Prop) : Out δ → Prop
  | .ok d m => ∀ v H' F' al', Le F al F' al' → Wd K F' al' m H' → R F' al' d v → Q v H'
  | .exc c fs m => ∀ dd H' F' al' gs, Le F al F' al' → Wd K F' al' m H' → RpF K F' al' fs gs → (gs = [] ∧ dd = none ∨ ∃ x, dd = some x ∧ F' x = some (.xd gs)) → W (.ref (He.ga K c)) dd H'
  | .stuck => False
/-- one step more -/
theorem Post.step {δ ν δ' ν' : Type} {K : PySem.W.Frag} {R : Hp → List Addr → δ → ν → Prop} {R' : Hp → List Addr → δ' → ν' → Prop} {W : XK} {F : Hp} {al : List Addr} {Q : ν → Hp → Prop} {Q' : ν' → Hp → Prop} {o : Out δ} {k : δ → Mu → Out δ'}
    (h : Post K R' W F al Q' (o.bind k))
    (hk : ∀ d m v H1 F1 al1, Le F al F1 al1 → Wd K F1 al1 m H1 → R F1 al1 d v → Post K R' W F1 al1 Q' (k d m) → Q v H1) : Post K R W F al Q o := by
  have up : ∀ {F1 al1} {o : Out δ'}, Le F al F1 al1 → Post K R' W F al Q' o → Post K R' W F1 al1 Q' o := fun {F1 al1 o} e p => by
    cases o with
    | ok d m => exact fun v H' F' al' e' => p v H' F' al' (e.trans e')
    | exc c fs m => exact fun dd H' F' al' gs e' => p dd H' F' al' gs (e.trans e')
    | stuck => exact p
  cases o with
  | ok d m => exact fun v H' F' al' e w r => hk d m v H' F' al' e w r (up e h)
  | exc c fs m => exact h
  | stuck => exact h
theorem Post.up {δ ν : Type} {K : PySem.W.Frag} {R : Hp → List Addr → δ → ν → Prop} {W : XK} {F F1 : Hp} {al al1 : List Addr} {Q : ν → Hp → Prop} {o : Out δ} (e : Le F al F1 al1) (p : Post K R W F al Q o) : Post K R W F1 al1 Q o := by
  cases o with
  | ok d m => exact fun v H' F' al' e' => p v H' F' al' (e.trans e')
  | exc c fs m => exact fun dd H' F' al' gs e' => p dd H' F' al' gs (e.trans e')
  | stuck => exact p
theorem Post.imp {δ ν : Type} {K : PySem.W.Frag} {R : Hp → List Addr → δ → ν → Prop} {W W' : XK} {F : Hp} {al : List Addr} {Q Q' : ν → Hp → Prop} {o : Out δ} (p : Post K R W F al Q o) (hQ : ∀ v H, Q v H → Q' v H) (hW : ∀ c d H, W c d H → W' c d H) : Post K R W' F al Q' o := by
  cases o with
  | ok d m => exact fun v H' F' al' a b c => hQ _ _ (p v H' F' al' a b c)
  | exc c fs m => exact fun dd H' F' al' gs a b c d => hW _ _ _ (p dd H' F' al' gs a b c d)
  | stuck => exact p

/-- names' values -/
structure EnvOk (K : PySem.W.Frag) (F : Hp) (al : List Addr) (r : Rho) (σ : L2.St) : Prop where
  len : r.length = σ.length
  get : ∀ (i : Nat) (d : D), r[i]? = some (some d) → ∃ v, σ[i]? = some (some v) ∧ Rp K F al d v
theorem EnvOk.up {K : PySem.W.Frag} {F F' : Hp} {al al' : List Addr} {r : Rho} {σ : L2.St} (e : Le F al F' al') (h : EnvOk K F al r σ) : EnvOk K F' al' r σ :=
  ⟨h.len, fun i d q => let ⟨v, a, b⟩ := h.get i d q; ⟨v, a, b.up e⟩⟩
theorem EnvOk.set {K : PySem.W.Frag} {F : Hp} {al : List Addr} {r : Rho} {σ : L2.St} {d : D} {v : V} (h : EnvOk K F al r σ) (i : Nat) (q : Rp K F al d v) : EnvOk K F al (r.set i (some d)) (σ.set i (some v)) := by
  refine ⟨by rw [List.length_set, List.length_set]; exact h.len, fun j e hj => ?_⟩
  by_cases hij : j = i
  · subst hij
    have hl : j < r.length := by
      have := (List.getElem?_eq_some_iff.mp hj).1
      rw [List.length_set] at this
      exact this
    rw [List.getElem?_set_self hl] at hj
    cases hj
    exact ⟨v, List.getElem?_set_self (by rw [← h.len]; exact hl), q⟩
  · rw [List.getElem?_set_ne (Ne.symm hij)] at hj
    obtain ⟨w, a, b⟩ := h.get j e hj
    exact ⟨w, by rw [List.getElem?_set_ne (Ne.symm hij)]; exact a, b⟩

/-! ### contexts by their static part -/
structure SC where
  P : Program
  w : World
  K : PySem.W.Frag
  mg : Str → Option Value
  base : Heap
  N : List Str
  sc : Scope
  k : Nat
  fnB : Str → Bool
  gd : Bool
  calm : Bool := true
  hx : Option (Hx × Obj) := none
  df : Bool := true
  me : Option Str := none
structure Dyn where
  A : Around
  s_0 : Shared
  H_0 : Hp
  env : Env
  outer : List Env
  stack : List Env
  ex : List Addr
  fn : Str → Bool
  pn : List (Addr × Obj)
  xe : Value → Shared → Prop
def SC.cx (c : SC) (y : Dyn) : Cx where
  prog := c.P
  w := c.w
  K := c.K
  mg := c.mg
  base := c.base
  A := y.A
  N := c.N
  s_0 := y.s_0
  H_0 := y.H_0
  env := y.env
  outer := y.outer
  stack := y.stack
  ex := y.ex
  fn := y.fn
  calm := c.calm
  pn := y.pn
  xe := y.xe
structure OkD (c : SC) (W : WX) (y : Dyn) : Prop where
  scope : y.env.scope = c.sc
  room : L2H.RoomH c.k y.A
  hd : c.calm = true → y.A.handled = none
  takes : Takes (c.cx y) W
  fn : ∀ x, c.fnB x = true → y.fn x = true
  gd : c.gd = true → y.A.guards = some []
  own : PassesOwn (model c.P c.w) y.A y.env y.xe
  pin : ∀ k ob, c.hx = some (k, ob) → (k.x, ob) ∈ y.pn ∧ ob.cls = .ref (He.ga c.K k.c) ∧ ob.dict = k.dd ∧ ∃ vs, ob.data = .fields vs
  df : c.df = true → y.stack = y.env :: y.outer ∧ y.env.frame = some y.env.locals ∧ y.ex = []
  me : ∀ x, c.me = some x → y.env.code = .ref (tabC c.K x) ∧ y.env.qual = x ++ ".<locals>."
theorem OkD.rm {c : SC} {W : WX} {y : Dyn} (hy : OkD c W y) (hc : c.calm = true) {k : Nat} (hk : k ≤ c.k) : Room k y.A :=
  ⟨hy.hd hc, by have := hy.room.dp; omega, by have := hy.room.un; omega⟩
theorem OkD.un64 {c : SC} {W : WX} {y : Dyn} (hy : OkD c W y) : y.A.units + 64 < cLine := by have := hy.room.un; omega
abbrev atS (W : WX) (σ : L2.St) : XK := fun c d H => W c d σ H

abbrev XE' := Rho → Mu → Out D
abbrev XT := Rho → Mu → Out Bool
abbrev XA := Rho → Mu → Out (List D)
abbrev RD (K : PySem.W.Frag) : Hp → List Addr → D → V → Prop := fun F al d v => Rp K F al d v
abbrev RL (K : PySem.W.Frag) : Hp → List Addr → List D → List V → Prop := fun F al d v => RpL K F al d v
abbrev RB : Hp → List Addr → Bool → Bool → Prop := fun _ _ a b => a = b

/-- an expression, a test, an argument list -/
def DE (c : SC) (W : WX) (e : Expr) (f : XE') : Prop := ∃ t : TE, (∀ y, OkD c W y → PE (c.cx y) e t) ∧
  ∀ r m σ H F al Q, EnvOk c.K F al r σ → Wd c.K F al m H → Post c.K (RD c.K) (atS W σ) F al Q (f r m) → t σ H Q
def DT (c : SC) (W : WX) (e : Expr) (f : XT) : Prop := ∃ t : TT, (∀ y, OkD c W y → PT (c.cx y) e t) ∧
  ∀ r m σ H F al Q, EnvOk c.K F al r σ → Wd c.K F al m H → Post c.K RB (atS W σ) F al Q (f r m) → t σ H Q
def DW (c : SC) (W : WX) (e : Expr) (f : XT) : Prop := ∃ t : TT, (∀ y, OkD c W y → PW (c.cx y) e t) ∧
  ∀ r m σ H F al Q, EnvOk c.K F al r σ → Wd c.K F al m H → Post c.K RB (atS W σ) F al Q (f r m) → t σ H Q
def DA (c : SC) (W : WX) (es : List Expr) (f : XA) : Prop := (∃ t : TA, (∀ y, OkD c W y → PA (c.cx y) es t) ∧
  ∀ r m σ H F al Q, EnvOk c.K F al r σ → Wd c.K F al m H → Post c.K (RL c.K) (atS W σ) F al Q (f r m) → t σ H Q) ∧ ∀ r m ds m', f r m = .ok ds m' → ds.length = es.length

/-! ### statements -/
inductive SO where
  | next (r : Rho) (m : Mu) | ret (d : D) (m : Mu) | brk (r : Rho) (m : Mu) | cont (r : Rho) (m : Mu) | exc (c : Str) (fs : List (Str × D)) (r : Rho) (m : Mu) | stuck
abbrev XS := Rho → Mu → SO
def PostS (K : PySem.W.Frag) (W : WX) (F : Hp) (al : List Addr) (E : Ends) : SO → Prop
  | .next r m => ∀ σ' H' F' al', Le F al F' al' → Wd K F' al' m H' → EnvOk K F' al' r σ' → E.nx σ' H'
  | .brk r m => ∀ σ' H' F' al', Le F al F' al' → Wd K F' al' m H' → EnvOk K F' al' r σ' → E.bk σ' H'
  | .cont r m => ∀ σ' H' F' al', Le F al F' al' → Wd K F' al' m H' → EnvOk K F' al' r σ' → E.ct σ' H'
  | .ret d m => ∀ v H' F' al', Le F al F' al' → Wd K F' al' m H' → Rp K F' al' d v → E.rt v H'
  | .exc c fs r m => ∀ dd σ' H' F' al' gs, Le F al F' al' → Wd K F' al' m H' → EnvOk K F' al' r σ' → RpF K F' al' fs gs → (gs = [] ∧ dd = none ∨ ∃ x, dd = some x ∧ F' x = some (.xd gs)) → W (.ref (He.ga K c)) dd σ' H'
  | .stuck => False
theorem PostS.up {K : PySem.W.Frag} {W : WX} {F F1 : Hp} {al al1 : List Addr} {E : Ends} {o : SO} (e : Le F al F1 al1) (p : PostS K W F al E o) : PostS K W F1 al1 E o := by
  cases o with
  | next r m => exact fun σ' H' F' al' e' => p σ' H' F' al' (e.trans e')
  | brk r m => exact fun σ' H' F' al' e' => p σ' H' F' al' (e.trans e')
  | cont r m => exact fun σ' H' F' al' e' => p σ' H' F' al' (e.trans e')
  | ret d m => exact fun v H' F' al' e' => p v H' F' al' (e.trans e')
  | exc c fs r m => exact fun dd σ' H' F' al' gs e' => p dd σ' H' F' al' gs (e.trans e')
  | stuck => exact p
def DSt (c : SC) (W : WX) (st : Stmt) (f : XS) : Prop := ∃ t : TS, (∀ y, OkD c W y → PS (c.cx y) st t) ∧
  ∀ r m σ H F al E, EnvOk c.K F al r σ → Wd c.K F al m H → PostS c.K W F al E (f r m) → t E σ H
def DSs (c : SC) (W : WX) (st : List Stmt) (f : XS) : Prop := ∃ t : TS, (∀ y, OkD c W y → PSs (c.cx y) st t) ∧
  ∀ r m σ H F al E, EnvOk c.K F al r σ → Wd c.K F al m H → PostS c.K W F al E (f r m) → t E σ H
/-- an expression's outcome, then a statement -/
def Out.stm {α : Type} (r : Rho) : Out α → (α → Mu → SO) → SO
  | .ok a m, k => k a m
  | .exc c fs m, _ => .exc c fs r m
  | .stuck, _ => .stuck
theorem PostS.step {δ ν : Type} {K : PySem.W.Frag} {R : Hp → List Addr → δ → ν → Prop} {W : WX} {F : Hp} {al : List Addr} {E : Ends} {Q : ν → Hp → Prop} {o : Out δ} {k : δ → Mu → SO} {r : Rho} {σ : L2.St}
    (he : EnvOk K F al r σ) (h : PostS K W F al E (o.stm r k))
    (hk : ∀ d m v H1 F1 al1, Le F al F1 al1 → Wd K F1 al1 m H1 → R F1 al1 d v → PostS K W F1 al1 E (k d m) → Q v H1) : Post K R (atS W σ) F al Q o := by
  cases o with
  | ok d m => exact fun v H' F' al' e w q => hk d m v H' F' al' e w q (h.up e)
  | exc c fs m => exact fun dd H' F' al' gs e w q z => h dd σ H' F' al' gs e w (he.up e) q z
  | stuck => exact h
end DS

namespace DS
open PySem PySem.Spec PyProof.Rows L2

/-! ### the store's laws -/
section
variable {K : PySem.W.Frag} {F : Hp} {al : List Addr} {m : Mu} {H : Hp}
theorem ext_new {p : Addr} {o : HO} (h : F p = none) : Le F al (upd F p o) al :=
  ⟨fun a u e => by rw [upd_ne (ne_of_none e h)]; exact e, fun _ _ e => e⟩
theorem nt_upd {F : Hp} {p : Addr} {o : HO} (h : ∀ a ps, F a ≠ some (.tbl ps)) (ho : ∀ ps, o ≠ .tbl ps) (a : Addr) (ps : Array Value) : upd F p o a ≠ some (.tbl ps) := by
  by_cases e : a = p
  · rw [e, upd_same]
    exact fun z => ho ps (Option.some.inj z)
  · rw [upd_ne e]
    exact h a ps
theorem Wd.fnone (w : Wd K F al m H) {p : Addr} (h : H p = none) : F p = none := by
  cases q : F p with
  | none => rfl
  | some o => rw [w.sub p o q] at h; cases h
theorem CellOk.upTo {F' H' : Hp} {al' : List Addr} {a : Addr} {c : Cell} (e : Le F al F' al') (hF : F a = none → F' a = none) (hH : H a ≠ none → H' a = H a) (h : CellOk K F al H a c) : CellOk K F' al' H' a c := by
  cases c with
  | lst ds =>
    obtain ⟨z, vs, h1, h2⟩ := h
    exact ⟨hF z, vs, by rw [hH (by rw [h1]; simp)]; exact h1, h2.up e⟩
  | ins c gs =>
    obtain ⟨z, dx, fs, h1, h2⟩ := h
    exact ⟨hF z, dx, fs, by rw [hH (by rw [h1]; simp)]; exact h1, h2.up e⟩
  | dct gs =>
    obtain ⟨z, fs, h1, h2⟩ := h
    exact ⟨hF z, fs, by rw [hH (by rw [h1]; simp)]; exact h1, h2.up e⟩
  | dead => exact let ⟨o, z⟩ := h; ⟨o, e.f _ _ z⟩
  | tab q =>
    obtain ⟨z, ps, h1, h2, h3⟩ := h
    exact ⟨⟨hF z.1, z.2⟩, ps, by rw [hH (by rw [h1]; simp)]; exact h1, h2, fun pos cv hc => let ⟨c, e1, e2⟩ := h3 pos cv hc; ⟨c, e1, e.f _ _ e2⟩⟩
/-- a new object that stays as it is -/
theorem Wd.new {p : Addr} {o : HO} (w : Wd K F al m H) (h : H p = none) (ho : ∀ ps, o ≠ .tbl ps := by intro ps h; cases h) : Wd K (upd F p o) al m (upd H p o) := by
  have hf := w.fnone h
  have ne : ∀ a, H a ≠ none → a ≠ p := fun a ha e => ha (by rw [e]; exact h)
  refine ⟨fun a u e => ?_, w.len, w.nd, fun n a c h1 h2 => ?_, w.gen, fun a ha => ?_, nt_upd w.nt ho⟩
  · by_cases ha : a = p
    · subst ha; rw [upd_same] at e; rw [upd_same]; exact e
    · rw [upd_ne ha] at e; rw [upd_ne ha]; exact w.sub a u e
  · have hne := ne a (w.tr a (List.mem_of_getElem? h1))
    exact (w.cell n a c h1 h2).upTo (ext_new hf) (fun z => by rw [upd_ne hne]; exact z) fun _ => upd_ne hne
  · rw [upd_ne (ne a (w.tr a ha))]; exact w.tr a ha
/-- something new that nobody looks at -/
theorem Wd.junk {p : Addr} {o : HO} (w : Wd K F al m H) (h : H p = none) : Wd K F al m (upd H p o) := by
  have ne : ∀ a, H a ≠ none → a ≠ p := fun a ha e => ha (by rw [e]; exact h)
  refine ⟨fun a u e => ?_, w.len, w.nd, fun n a c h1 h2 => ?_, w.gen, fun a ha => ?_, w.nt⟩
  · have := w.sub a u e
    rw [upd_ne (ne a (by rw [this]; simp))]; exact this
  · have hne := ne a (w.tr a (List.mem_of_getElem? h1))
    exact (w.cell n a c h1 h2).upTo Le.refl (fun z => z) fun _ => upd_ne hne
  · rw [upd_ne (ne a (w.tr a ha))]; exact w.tr a ha
theorem Le.snoc {p : Addr} : Le F al F (al ++ [p]) :=
  ⟨fun _ _ e => e, fun n a e => by
    rw [List.getElem?_append_left (List.getElem?_eq_some_iff.mp e).1]; exact e⟩
/-- a new object that will change -/
theorem Wd.newCell {p : Addr} {o : HO} {c : Cell} (w : Wd K F al m H) (h : H p = none) (hc : CellOk K F (al ++ [p]) (upd H p o) p c) (hg : c.inB m.length = true) : Wd K F (al ++ [p]) (m ++ [c]) (upd H p o) := by
  have ne : ∀ a, H a ≠ none → a ≠ p := fun a ha e => ha (by rw [e]; exact h)
  have hp : p ∉ al := fun z => w.tr p z h
  refine ⟨fun a u e => ?_, by simp [w.len], ?_, fun n a c' h1 h2 => ?_, fun n c' h2 => ?_, fun a ha => ?_, w.nt⟩
  · have := w.sub a u e
    rw [upd_ne (ne a (by rw [this]; simp))]; exact this
  · exact List.nodup_append.mpr ⟨w.nd, by simp, fun a ha b hb => by
      rw [List.mem_singleton] at hb; subst hb; rintro rfl; exact hp ha⟩
  · by_cases hn : n < al.length
    · rw [List.getElem?_append_left hn] at h1
      rw [List.getElem?_append_left (by rw [← w.len]; exact hn)] at h2
      have hne := ne a (w.tr a (List.mem_of_getElem? h1))
      exact (w.cell n a c' h1 h2).upTo Le.snoc (fun z => z) fun _ => upd_ne hne
    · have hl := (List.getElem?_eq_some_iff.mp h1).1
      rw [List.length_append, List.length_singleton] at hl
      have e : n = al.length := by omega
      subst e
      rw [List.getElem?_append_right (Nat.le_refl _), Nat.sub_self] at h1
      rw [w.len, List.getElem?_append_right (Nat.le_refl _), Nat.sub_self] at h2
      cases h1; cases h2
      exact hc
  · by_cases hn : n < m.length
    · rw [List.getElem?_append_left hn] at h2
      exact w.gen n c' h2
    · have hl := (List.getElem?_eq_some_iff.mp h2).1
      rw [List.length_append, List.length_singleton] at hl
      have e : n = m.length := by omega
      subst e
      rw [List.getElem?_append_right (Nat.le_refl _), Nat.sub_self] at h2
      cases h2
      exact hg
  · by_cases e : a = p
    · subst e; rw [upd_same]; simp
    · rw [upd_ne e]
      rcases List.mem_append.mp ha with z | z
      · exact w.tr a z
      · exact absurd (List.mem_singleton.mp z) e
/-- an object changes -/
theorem Wd.write {n : Nat} {a : Addr} {o : HO} {c : Cell} (w : Wd K F al m H) (h1 : al[n]? = some a) (hf : F a = none) (hc : CellOk K F al (upd H a o) a c) (hg : c.inB n = true) : Wd K F al (m.set n c) (upd H a o) := by
  have inj : ∀ {k b}, al[k]? = some b → k ≠ n → b ≠ a := fun {k b} hb hk e => by
    subst e
    obtain ⟨l1, e1⟩ := List.getElem?_eq_some_iff.mp h1
    obtain ⟨l2, e2⟩ := List.getElem?_eq_some_iff.mp hb
    exact hk ((List.getElem_inj w.nd).mp (e2.trans e1.symm))
  refine ⟨fun b u e => ?_, by rw [List.length_set]; exact w.len, w.nd, fun k b c' h3 h4 => ?_, fun k c' h4 => ?_, fun b hb => ?_, w.nt⟩
  · have hb : b ≠ a := fun z => by rw [z, hf] at e; cases e
    rw [upd_ne hb]; exact w.sub b u e
  · by_cases hk : k = n
    · subst hk
      rw [h1] at h3; cases h3
      rw [List.getElem?_set_self (by rw [← w.len]; exact (List.getElem?_eq_some_iff.mp h1).1)] at h4
      cases h4
      exact hc
    · rw [List.getElem?_set_ne (Ne.symm hk)] at h4
      exact (w.cell k b c' h3 h4).upTo Le.refl (fun z => z) fun _ => upd_ne (inj h3 hk)
  · by_cases hk : k = n
    · subst hk
      rw [List.getElem?_set_self (by rw [← w.len]; exact (List.getElem?_eq_some_iff.mp h1).1)] at h4
      cases h4
      exact hg
    · rw [List.getElem?_set_ne (Ne.symm hk)] at h4
      exact w.gen k c' h4
  · by_cases e : b = a
    · subst e; rw [upd_same]; simp
    · rw [upd_ne e]; exact w.tr b hb
end

/-! ### lists, tuples, as they lie -/
def lstOf (m : Mu) : D → Option (List D)
  | .lst xs => some xs
  | .fix xs => some xs
  | .loc n => match m[n]? with
    | some (.lst xs) => some xs
    | _ => none
  | _ => none
/-- .. as an object that stands by itself -/
def ownOf (m : Mu) : D → Option (List D)
  | .lst xs => some xs
  | .loc n => match m[n]? with
    | some (.lst xs) => some xs
    | _ => none
  | _ => none
section
variable {K : PySem.W.Frag} {F : Hp} {al : List Addr} {m : Mu} {H : Hp} {d : D} {v : V} {xs : List D}
theorem ownOf_ok (w : Wd K F al m H) (r : Rp K F al d v) (h : ownOf m d = some xs) : ∃ a vs, v = .ref a ∧ H a = some (.lst vs) ∧ RpL K F al xs vs := by
  cases r with
  | lst s q => cases h; exact ⟨_, _, rfl, w.sub _ _ s, q⟩
  | @loc n a s =>
    unfold ownOf at h
    cases e : m[n]? with
    | none => simp [e] at h
    | some c =>
      cases c with
      | lst ys =>
        simp [e] at h
        subst h
        obtain ⟨_, vs, h1, h2⟩ := w.cell n a _ s e
        exact ⟨a, vs, rfl, h1, h2⟩
      | ins c gs => simp [e] at h
      | dct gs => simp [e] at h
      | dead => simp [e] at h
      | tab q => simp [e] at h
  | _ => simp [ownOf] at h
theorem lstOf_ok (w : Wd K F al m H) (r : Rp K F al d v) (h : lstOf m d = some xs) : ∃ a vs, v = .ref a ∧ SqL K H a vs ∧ RpL K F al xs vs := by
  cases r with
  | lst s q => cases h; exact ⟨_, _, rfl, .of (w.sub _ _ s), q⟩
  | fix s q => cases h; exact ⟨_, _, rfl, sql_up w.sub s, q⟩
  | @loc n a s =>
    unfold lstOf at h
    cases e : m[n]? with
    | none => simp [e] at h
    | some c =>
      cases c with
      | lst ys =>
        simp [e] at h
        subst h
        obtain ⟨_, vs, h1, h2⟩ := w.cell n a _ s e
        exact ⟨a, vs, rfl, .of h1, h2⟩
      | ins c gs => simp [e] at h
      | dct gs => simp [e] at h
      | dead => simp [e] at h
      | tab q => simp [e] at h
  | _ => simp [lstOf] at h
end

/-! ### names and constants -/
section
variable {c : SC} {W : WX} {pos : Pos}
def xVar (i : Nat) : XE' := fun r m => match r[i]? with
  | some (some d) => .ok d m
  | _ => .stuck
def xC (d : D) : XE' := fun _ m => .ok d m
theorem OkD.vis {y : Dyn} {x : Str} (hy : OkD c W y) (h : Vis c.sc x) : Vis (c.cx y).env.scope x := by
  have e : (c.cx y).env.scope = c.sc := hy.scope
  rw [e]; exact h
theorem OkD.loc {y : Dyn} {x : Str} (hy : OkD c W y) (h : L2.Loc c.sc x) : L2.Loc (c.cx y).env.scope x := by
  have e : (c.cx y).env.scope = c.sc := hy.scope
  rw [e]; exact h
theorem OkD.gl {y : Dyn} {x : Str} (hy : OkD c W y) (h : c.sc.names.lookup x = some .globalImplicit) : Gl (c.cx y) x := by
  have e : (c.cx y).env.scope = c.sc := hy.scope
  show (c.cx y).env.scope.names.lookup x = _
  rw [e]; exact h
theorem de_var (i : Nat) {x : Str} (hN : c.N[i]? = some x := by rfl) (hv : Vis c.sc x := by first | exact .inl rfl | exact .inr (.inl rfl) | exact .inr (.inr rfl)) (hd : (x == ("__debug__" : Str)) = false := by decide) (hcd : (x == ("__classdict__" : Str)) = false := by decide) : DE c W (.Name x pos) (xVar i) := by
  refine ⟨tVar i, fun y hy => pe_var hN (hy.vis hv) hd hcd, fun r m σ H F al Q he hw p => ?_⟩
  unfold xVar at p
  cases q : r[i]? with
  | none => simp only [q] at p; exact p.elim
  | some o =>
    cases o with
    | none => simp only [q] at p; exact p.elim
    | some d =>
      simp only [q] at p
      obtain ⟨v, h1, h2⟩ := he.get i d q
      exact ⟨v, h1, p v H F al Le.refl hw h2⟩
theorem de_int {i : Int} {j : Nat} : DE c W (.Constant (.int i) j pos) (xC (.int i)) :=
  ⟨_, fun _ _ => pe_int, fun _ _ _ H F al Q _ hw p => p _ H F al Le.refl hw (.int i)⟩
theorem de_bl {b : Bool} {j : Nat} : DE c W (.Constant (.bool b) j pos) (xC (.bl b)) :=
  ⟨_, fun _ _ => pe_bl, fun _ _ _ H F al Q _ hw p => p _ H F al Le.refl hw (.bl b)⟩
theorem de_non {j : Nat} : DE c W (.Constant .none j pos) (xC .non) :=
  ⟨_, fun _ _ => pe_non, fun _ _ _ H F al Q _ hw p => p _ H F al Le.refl hw .non⟩
theorem de_str {x : Str} {j : Nat} : DE c W (.Constant (.str x) j pos) (xC (.str x)) :=
  ⟨_, fun _ _ => pe_str, fun _ _ _ H F al Q _ hw p => p _ H F al Le.refl hw (.str x)⟩
theorem de_gint {x : Str} {i : Int} (hm : ∃ t, c.mg x = some (.int i t)) (hg : c.sc.names.lookup x = some .globalImplicit := by rfl) (hd : (x == ("__debug__" : Str)) = false := by decide) : DE c W (.Name x pos) (xC (.int i)) := by
  obtain ⟨t, hm⟩ := hm
  exact ⟨_, fun y hy => pe_glob (hy.gl hg) hm (show RelV (.int i) _ from ⟨t, rfl⟩) hd, fun _ _ _ H F al Q _ hw p => p _ H F al Le.refl hw (.int i)⟩
theorem de_gstr {x z : Str} (hm : ∃ t, c.mg x = some (.str z t)) (hg : c.sc.names.lookup x = some .globalImplicit := by rfl) (hd : (x == ("__debug__" : Str)) = false := by decide) : DE c W (.Name x pos) (xC (.str z)) := by
  obtain ⟨t, hm⟩ := hm
  exact ⟨_, fun y hy => pe_glob (hy.gl hg) hm (show RelV (.str z) _ from ⟨t, rfl⟩) hd, fun _ _ _ H F al Q _ hw p => p _ H F al Le.refl hw (.str z)⟩

/-! ### operators -/
def OpD (c : SC) (f : Value → Value → Sem Value) (g : D → D → Mu → Out D) : Prop := ∃ r : R2, (∀ W y, OkD c W y → OpR (c.cx y) f r) ∧
  ∀ (W : XK) d e m x y H F al Q, Wd c.K F al m H → Rp c.K F al d x → Rp c.K F al e y → Post c.K (RD c.K) W F al Q (g d e m) → r x y H Q
def xOp (g : D → D → Mu → Out D) (a b : XE') : XE' := fun r m => (a r m).bind fun x m1 => (b r m1).bind fun y m2 => g x y m2
variable {a b e : Expr} {fa fb fe : XE'} {g : D → D → Mu → Out D}
theorem de_op {op : Operator} (ho : OpD c (binaryOp op) g) (ha : DE c W a fa) (hb : DE c W b fb) : DE c W (.BinOp a op b pos) (xOp g fa fb) := by
  obtain ⟨r, h1, h2⟩ := ho
  obtain ⟨ta, a1, a2⟩ := ha
  obtain ⟨tb, b1, b2⟩ := hb
  refine ⟨tOp r ta tb, fun y hy => pe_op (h1 W y hy) (a1 y hy) (b1 y hy), fun ρ m σ H F al Q he hw p => ?_⟩
  exact a2 ρ m σ H F al _ he hw (Post.step p fun x m1 v H1 F1 al1 e1 w1 q1 p1 => b2 ρ m1 σ H1 F1 al1 _ (he.up e1) w1
    (Post.step p1 fun z m2 u H2 F2 al2 e2 w2 q2 p2 => h2 _ x z m2 v u H2 F2 al2 Q w2 (q1.up e2) q2 p2))
theorem de_cmp {op : CmpOp} (ho : OpD c (compareOp op) g) (ha : DE c W a fa) (hb : DE c W b fb) (hm : behindInMarks op b = false := by rfl) : DE c W (.Compare a [op] [b] pos) (xOp g fa fb) := by
  obtain ⟨r, h1, h2⟩ := ho
  obtain ⟨ta, a1, a2⟩ := ha
  obtain ⟨tb, b1, b2⟩ := hb
  refine ⟨tOp r ta tb, fun y hy => pe_cmpR (h1 W y hy) (a1 y hy) (b1 y hy) hm, fun ρ m σ H F al Q he hw p => ?_⟩
  exact a2 ρ m σ H F al _ he hw (Post.step p fun x m1 v H1 F1 al1 e1 w1 q1 p1 => b2 ρ m1 σ H1 F1 al1 _ (he.up e1) w1
    (Post.step p1 fun z m2 u H2 F2 al2 e2 w2 q2 p2 => h2 _ x z m2 v u H2 F2 al2 Q w2 (q1.up e2) q2 p2))
def asB : D → Mu → Out Bool
  | .bl b, m => .ok b m
  | _, _ => .stuck
def xTest (f : XE') : XT := fun r m => (f r m).bind asB
theorem Post.asB {K : PySem.W.Frag} {W : XK} {F : Hp} {al : List Addr} {Q : Bool → Hp → Prop} {d : D} {v : V} {m : Mu} {H : Hp} (w : Wd K F al m H) (r : Rp K F al d v) (p : Post K RB W F al Q (DS.asB d m)) : ∃ k, v = .bl k ∧ Q k H := by
  cases r with
  | bl b => exact ⟨b, rfl, p b H F al Le.refl w rfl⟩
  | _ => exact p.elim
theorem dt_cmp {op : CmpOp} (ho : OpD c (compareOp op) g) (ha : DE c W a fa) (hb : DE c W b fb) (hm : behindInMarks op b = false := by rfl) : DT c W (.Compare a [op] [b] pos) (xTest (xOp g fa fb)) := by
  obtain ⟨r, h1, h2⟩ := ho
  obtain ⟨ta, a1, a2⟩ := ha
  obtain ⟨tb, b1, b2⟩ := hb
  refine ⟨tTest (tOp r ta tb), fun y hy => pt_cmpR (h1 W y hy) (a1 y hy) (b1 y hy) hm, fun ρ m σ H F al Q he hw p => ?_⟩
  have p' : Post c.K RB (atS W σ) F al Q ((fa ρ m).bind fun x m1 => (fb ρ m1).bind fun y m2 => (g x y m2).bind asB) := by
    have e : xTest (xOp g fa fb) ρ m = ((fa ρ m).bind fun x m1 => (fb ρ m1).bind fun y m2 => (g x y m2).bind asB) := by
      unfold xTest xOp
      cases fa ρ m with
      | ok x m1 =>
        show Out.bind (Out.bind (fb ρ m1) _) _ = Out.bind (fb ρ m1) _
        cases fb ρ m1 <;> rfl
      | exc _ _ _ => rfl
      | stuck => rfl
    rw [← e]; exact p
  exact a2 ρ m σ H F al _ he hw (Post.step p' fun x m1 v H1 F1 al1 e1 w1 q1 p1 => b2 ρ m1 σ H1 F1 al1 _ (he.up e1) w1
    (Post.step p1 fun z m2 u H2 F2 al2 e2 w2 q2 p2 => h2 _ x z m2 v u H2 F2 al2 _ w2 (q1.up e2) q2 (Post.step p2 fun d m3 v3 H3 F3 al3 e3 w3 q3 p3 => Post.asB w3 q3 p3)))
/-- an expression whose value is a bool, as a test -/
theorem dt_val (h : DE c W e fe) (he : ∀ env whole, isTrue e env whole = (do let v ← whole; standAt e.pos; holding [v] (truthy v)) := by intro _ _; rfl) : DT c W e (xTest fe) := by
  obtain ⟨t, h1, h2⟩ := h
  refine ⟨tB t, fun y hy => pt_val (h1 y hy) (he _), fun ρ m σ H F al Q ho hw p => ?_⟩
  exact h2 ρ m σ H F al _ ho hw (Post.step p fun d m3 v3 H3 F3 al3 e3 w3 q3 p3 => Post.asB w3 q3 p3)
/-! ### and, or, not -/
variable {ta tb : XT} {rest : List Expr}
def xAndT (a b : XT) : XT := fun r m => (a r m).bind fun k m1 => if k then b r m1 else .ok false m1
def xOrT (a b : XT) : XT := fun r m => (a r m).bind fun k m1 => if k then .ok true m1 else b r m1
def xNotT (a : XT) : XT := fun r m => (a r m).bind fun k m1 => .ok (!k) m1
theorem dw_and1 (ha : DT c W a ta) : DW c W (.BoolOp .And [a] pos) ta := by
  obtain ⟨t, h1, h2⟩ := ha
  exact ⟨t, fun y hy => pw_and1 (h1 y hy), h2⟩
theorem dw_or1 (ha : DT c W a ta) : DW c W (.BoolOp .Or [a] pos) ta := by
  obtain ⟨t, h1, h2⟩ := ha
  exact ⟨t, fun y hy => pw_or1 (h1 y hy), h2⟩
theorem dw_and (ha : DT c W a ta) (hb : DW c W (.BoolOp .And (b :: rest) pos) tb) : DW c W (.BoolOp .And (a :: b :: rest) pos) (xAndT ta tb) := by
  obtain ⟨t, a1, a2⟩ := ha
  obtain ⟨u, b1, b2⟩ := hb
  refine ⟨tAnd t u, fun y hy => pw_and (a1 y hy) (b1 y hy), fun ρ m σ H F al Q he hw p => ?_⟩
  refine a2 ρ m σ H F al _ he hw (Post.step p fun k m1 k' H1 F1 al1 e1 w1 q1 p1 => ?_)
  cases q1
  cases k with
  | true => exact b2 ρ m1 σ H1 F1 al1 _ (he.up e1) w1 p1
  | false => exact p1 false H1 F1 al1 Le.refl w1 rfl
theorem dw_or (ha : DT c W a ta) (hb : DW c W (.BoolOp .Or (b :: rest) pos) tb) : DW c W (.BoolOp .Or (a :: b :: rest) pos) (xOrT ta tb) := by
  obtain ⟨t, a1, a2⟩ := ha
  obtain ⟨u, b1, b2⟩ := hb
  refine ⟨tOr t u, fun y hy => pw_or (a1 y hy) (b1 y hy), fun ρ m σ H F al Q he hw p => ?_⟩
  refine a2 ρ m σ H F al _ he hw (Post.step p fun k m1 k' H1 F1 al1 e1 w1 q1 p1 => ?_)
  cases q1
  cases k with
  | true => exact p1 true H1 F1 al1 Le.refl w1 rfl
  | false => exact b2 ρ m1 σ H1 F1 al1 _ (he.up e1) w1 p1
theorem dt_w (h : DW c W e ta) : DT c W e ta := by
  obtain ⟨t, a1, a2⟩ := h
  exact ⟨t, fun y hy => (a1 y hy).pt, a2⟩
theorem dt_not (ha : DT c W a ta) : DT c W (.UnaryOp .Not a pos) (xNotT ta) := by
  obtain ⟨t, a1, a2⟩ := ha
  refine ⟨tNot t, fun y hy => pt_not (a1 y hy), fun ρ m σ H F al Q he hw p => ?_⟩
  refine a2 ρ m σ H F al _ he hw (Post.step p fun k m1 k' H1 F1 al1 e1 w1 q1 p1 => ?_)
  cases q1
  exact p1 _ H1 F1 al1 Le.refl w1 rfl
/-! as values -/
def xAnd (a b : XE') : XE' := fun r m => ((a r m).bind asB).bind fun k m1 => if k then b r m1 else .ok (.bl false) m1
def xOr (a b : XE') : XE' := fun r m => ((a r m).bind asB).bind fun k m1 => if k then .ok (.bl true) m1 else b r m1
def xNot (a : XE') : XE' := fun r m => ((a r m).bind asB).bind fun k m1 => .ok (.bl (!k)) m1
theorem Post.assoc {δ δ' δ2 : Type} {ν2 : Type} {K : PySem.W.Frag} {R : Hp → List Addr → δ2 → ν2 → Prop} {W : XK} {F : Hp} {al : List Addr} {Q : ν2 → Hp → Prop} {o : Out δ} {k : δ → Mu → Out δ'} {l : δ' → Mu → Out δ2} (p : Post K R W F al Q ((o.bind k).bind l)) : Post K R W F al Q (o.bind fun d m => (k d m).bind l) := by
  cases o <;> exact p
theorem Post.asB2 {δ ν : Type} {K : PySem.W.Frag} {R : Hp → List Addr → δ → ν → Prop} {W : XK} {F : Hp} {al : List Addr} {Q : ν → Hp → Prop} {d : D} {v : V} {m : Mu} {l : Bool → Mu → Out δ} (r : Rp K F al d v) (p : Post K R W F al Q ((DS.asB d m).bind l)) : ∃ k, v = .bl k ∧ Post K R W F al Q (l k m) := by
  cases r with
  | bl b => exact ⟨b, rfl, p⟩
  | _ => exact p.elim
theorem de_one {op : BoolOp} (ha : DE c W a fa) : DE c W (.BoolOp op [a] pos) fa := by
  obtain ⟨t, a1, a2⟩ := ha
  exact ⟨t, fun y hy => pe_one (a1 y hy), a2⟩
theorem de_and (ha : DE c W a fa) (hb : DE c W (.BoolOp .And (b :: rest) pos) fb) : DE c W (.BoolOp .And (a :: b :: rest) pos) (xAnd fa fb) := by
  obtain ⟨t, a1, a2⟩ := ha
  obtain ⟨u, b1, b2⟩ := hb
  refine ⟨_, fun y hy => pe_and (a1 y hy) (b1 y hy), fun ρ m σ H F al Q he hw p => ?_⟩
  refine a2 ρ m σ H F al _ he hw (Post.step p.assoc fun d m1 v H1 F1 al1 e1 w1 q1 p1 => ?_)
  obtain ⟨k, rfl, p2⟩ := Post.asB2 q1 p1
  refine ⟨k, rfl, ?_⟩
  cases k with
  | true => exact b2 ρ m1 σ H1 F1 al1 _ (he.up e1) w1 p2
  | false => exact p2 _ H1 F1 al1 Le.refl w1 (.bl false)
theorem de_or (ha : DE c W a fa) (hb : DE c W (.BoolOp .Or (b :: rest) pos) fb) : DE c W (.BoolOp .Or (a :: b :: rest) pos) (xOr fa fb) := by
  obtain ⟨t, a1, a2⟩ := ha
  obtain ⟨u, b1, b2⟩ := hb
  refine ⟨_, fun y hy => pe_or (a1 y hy) (b1 y hy), fun ρ m σ H F al Q he hw p => ?_⟩
  refine a2 ρ m σ H F al _ he hw (Post.step p.assoc fun d m1 v H1 F1 al1 e1 w1 q1 p1 => ?_)
  obtain ⟨k, rfl, p2⟩ := Post.asB2 q1 p1
  refine ⟨k, rfl, ?_⟩
  cases k with
  | true => exact p2 _ H1 F1 al1 Le.refl w1 (.bl true)
  | false => exact b2 ρ m1 σ H1 F1 al1 _ (he.up e1) w1 p2
theorem de_not (ha : DE c W a fa) : DE c W (.UnaryOp .Not a pos) (xNot fa) := by
  obtain ⟨t, a1, a2⟩ := ha
  refine ⟨_, fun y hy => pe_not (a1 y hy), fun ρ m σ H F al Q he hw p => ?_⟩
  refine a2 ρ m σ H F al _ he hw (Post.step p.assoc fun d m1 v H1 F1 al1 e1 w1 q1 p1 => ?_)
  obtain ⟨k, rfl, p2⟩ := Post.asB2 q1 p1
  exact ⟨k, rfl, p2 _ H1 F1 al1 Le.refl w1 (.bl _)⟩
def xIf (t : XT) (a b : XE') : XE' := fun r m => (t r m).bind fun k m1 => if k then a r m1 else b r m1
theorem de_if (ht : DT c W e ta) (ha : DE c W a fa) (hb : DE c W b fb) : DE c W (.IfExp e a b pos) (xIf ta fa fb) := by
  obtain ⟨t, t1, t2⟩ := ht
  obtain ⟨u, a1, a2⟩ := ha
  obtain ⟨v, b1, b2⟩ := hb
  refine ⟨_, fun y hy => pe_ifExp (t1 y hy) (a1 y hy) (b1 y hy), fun ρ m σ H F al Q he hw p => ?_⟩
  refine t2 ρ m σ H F al _ he hw (Post.step p fun k m1 k' H1 F1 al1 e1 w1 q1 p1 => ?_)
  cases q1
  cases k with
  | true => exact a2 ρ m1 σ H1 F1 al1 _ (he.up e1) w1 p1
  | false => exact b2 ρ m1 σ H1 F1 al1 _ (he.up e1) w1 p1
/-! a < b < c -/
def xChain (g g' : D → D → Mu → Out D) (a b k : XE') : XE' := fun r m => (a r m).bind fun x m1 => (b r m1).bind fun y m2 => ((g x y m2).bind asB).bind fun q m3 => if q then (k r m3).bind fun z m4 => g' y z m4 else .ok (.bl false) m3
theorem de_chain {op op' : CmpOp} {g' : D → D → Mu → Out D} {d : Expr} {fd : XE'} (ho : OpD c (compareOp op) g) (ho' : OpD c (compareOp op') g') (ha : DE c W a fa) (hb : DE c W b fb) (hd : DE c W d fd) (hm : lastMarks [op, op'] [b, d] = false := by with_unfolding_all rfl) : DE c W (.Compare a [op, op'] [b, d] pos) (xChain g g' fa fb fd) := by
  obtain ⟨r, r1, r2⟩ := ho
  obtain ⟨r', r1', r2'⟩ := ho'
  obtain ⟨t, a1, a2⟩ := ha
  obtain ⟨u, b1, b2⟩ := hb
  obtain ⟨v, d1, d2⟩ := hd
  refine ⟨tChain r r' t u v, fun y hy => pe_chain (r1 W y hy) (r1' W y hy) (a1 y hy) (b1 y hy) (d1 y hy) hm, fun ρ m σ H F al Q he hw p => ?_⟩
  refine a2 ρ m σ H F al _ he hw (Post.step p fun x m1 vx H1 F1 al1 e1 w1 q1 p1 => ?_)
  refine b2 ρ m1 σ H1 F1 al1 _ (he.up e1) w1 (Post.step p1 fun y m2 vy H2 F2 al2 e2 w2 q2 p2 => ?_)
  refine r2 _ x y m2 vx vy H2 F2 al2 _ w2 (q1.up e2) q2 (Post.step p2.assoc fun z m3 vz H3 F3 al3 e3 w3 q3 p3 => ?_)
  obtain ⟨k, rfl, p4⟩ := Post.asB2 q3 p3
  refine ⟨k, rfl, ?_⟩
  cases k with
  | true =>
    show v σ H3 _
    exact d2 ρ m3 σ H3 F3 al3 _ (((he.up e1).up e2).up e3) w3 (Post.step p4 fun z m4 vz H4 F4 al4 e4 w4 q4 p5 => r2' _ y z m4 vy vz H4 F4 al4 Q w4 ((q2.up e3).up e4) q4 p5)
  | false => exact p4 _ H3 F3 al3 Le.refl w3 (.bl false)
theorem dt_chain {op op' : CmpOp} {g' : D → D → Mu → Out D} {d : Expr} {fd : XE'} (ho : OpD c (compareOp op) g) (ho' : OpD c (compareOp op') g') (ha : DE c W a fa) (hb : DE c W b fb) (hd : DE c W d fd) (hm : lastMarks [op, op'] [b, d] = false := by with_unfolding_all rfl) : DT c W (.Compare a [op, op'] [b, d] pos) (xTest (xChain g g' fa fb fd)) := by
  obtain ⟨r, r1, r2⟩ := ho
  obtain ⟨r', r1', r2'⟩ := ho'
  obtain ⟨t, a1, a2⟩ := ha
  obtain ⟨u, b1, b2⟩ := hb
  obtain ⟨v, d1, d2⟩ := hd
  refine ⟨_, fun y hy => pt_chain (r1 W y hy) (r1' W y hy) (a1 y hy) (b1 y hy) (d1 y hy) hm, fun ρ m σ H F al Q he hw p => ?_⟩
  refine a2 ρ m σ H F al _ he hw (Post.step p.assoc fun x m1 vx H1 F1 al1 e1 w1 q1 p1 => ?_)
  refine b2 ρ m1 σ H1 F1 al1 _ (he.up e1) w1 (Post.step p1.assoc fun y m2 vy H2 F2 al2 e2 w2 q2 p2 => ?_)
  refine r2 _ x y m2 vx vy H2 F2 al2 _ w2 (q1.up e2) q2 (Post.step p2.assoc.assoc fun z m3 vz H3 F3 al3 e3 w3 q3 p3 => ?_)
  obtain ⟨k, rfl, p4⟩ := Post.asB2 q3 p3
  refine ⟨k, rfl, ?_⟩
  cases k with
  | true =>
    show v σ H3 _
    exact d2 ρ m3 σ H3 F3 al3 _ (((he.up e1).up e2).up e3) w3 (Post.step p4.assoc fun z m4 vz H4 F4 al4 e4 w4 q4 p5 => r2' _ y z m4 vy vz H4 F4 al4 _ w4 ((q2.up e3).up e4) q4
      (Post.step p5 fun z m5 vz H5 F5 al5 e5 w5 q5 p6 => Post.asB w5 q5 p6))
  | false => exact ⟨false, rfl, p4 _ H3 F3 al3 Le.refl w3 rfl⟩
/-! ### argument lists, displays -/
variable {es : List Expr} {fr : XA}
def xaNil : XA := fun _ m => .ok [] m
def xaCons (a : XE') (r : XA) : XA := fun ρ m => (a ρ m).bind fun x m1 => (r ρ m1).bind fun xs m2 => .ok (x :: xs) m2
theorem da_nil : DA c W [] xaNil := ⟨⟨tNil, fun _ _ => pa_nil, fun _ _ _ H F al Q _ hw p => p [] H F al Le.refl hw .nil⟩, fun r m ds m' h => by cases h; rfl⟩
theorem da_cons (ha : DE c W e fe) (hr : DA c W es fr) (hs : ∀ env, starEach (e :: es) env = (false, eval e env) :: starEach es env := by intro _; rfl) : DA c W (e :: es) (xaCons fe fr) := by
  obtain ⟨t, a1, a2⟩ := ha
  obtain ⟨⟨u, b1, b2⟩, hl⟩ := hr
  refine ⟨⟨tCons t u, fun y hy => pa_cons (a1 y hy) (b1 y hy) (hs _), fun ρ m σ H F al Q he hw p => ?_⟩, fun r m ds m' h => ?_⟩
  · refine a2 ρ m σ H F al _ he hw (Post.step p fun x m1 v H1 F1 al1 e1 w1 q1 p1 => ?_)
    refine b2 ρ m1 σ H1 F1 al1 _ (he.up e1) w1 (Post.step p1 fun xs m2 vs H2 F2 al2 e2 w2 q2 p2 => ?_)
    exact p2 _ H2 F2 al2 Le.refl w2 (.cons (q1.up e2) q2)
  · unfold xaCons at h
    cases h1 : fe r m with
    | ok x m1 =>
      rw [h1] at h
      have h' : Out.bind (fr r m1) (fun xs m2 => .ok (x :: xs) m2) = .ok ds m' := h
      cases h2 : fr r m1 with
      | ok xs m2 =>
        rw [h2] at h'
        cases h'
        rw [List.length_cons, hl _ _ _ _ h2, List.length_cons]
      | exc _ _ _ => rw [h2] at h'; cases h'
      | stuck => rw [h2] at h'; cases h'
    | exc _ _ _ => rw [h1] at h; cases h
    | stuck => rw [h1] at h; cases h
def xTup (a : XA) : XE' := fun r m => (a r m).bind fun ds m1 => .ok (.tup ds) m1
def xLst (a : XA) : XE' := fun r m => (a r m).bind fun ds m1 => .ok (.lst ds) m1
/-- a list that will change -/
def xNew (a : XA) : XE' := fun r m => (a r m).bind fun ds m1 => if D.inL m1.length ds then .ok (.loc m1.length) (m1 ++ [.lst ds]) else .stuck
/-- the length of what an argument list gives is known -/
theorem Post.lenA {K : PySem.W.Frag} {ν : Type} {R : Hp → List Addr → D → ν → Prop} {W : XK} {F : Hp} {al : List Addr} {Q : ν → Hp → Prop} {n : Nat} {o : Out (List D)} {k : List D → Mu → Out D} (p : Post K R W F al Q (o.bind k)) (hl : ∀ ds m', o = .ok ds m' → ds.length = n) :
    Post K R W F al Q (o.bind fun ds m => if ds.length = n then k ds m else .stuck) := by
  cases o with
  | ok ds m =>
    show Post K R W F al Q (if ds.length = n then k ds m else .stuck)
    rw [if_pos (hl ds m rfl)]; exact p
  | exc _ _ _ => exact p
  | stuck => exact p
theorem small_line {n : Nat} (h : n ≤ 100000) : n ≤ sizeLine := Nat.le_trans h (by rw [sizeLine_eq]; decide)
theorem de_tup {k : Nat} (h : DA c W es fr) (hz : es.length ≤ 100000 := by decide) : DE c W (.Tuple es k pos) (xTup fr) := by
  obtain ⟨⟨t, a1, a2⟩, hl⟩ := h
  refine ⟨tTup t, fun y hy => pe_tup (a1 y hy), fun ρ m σ H F al Q he hw p => ?_⟩
  refine a2 ρ m σ H F al _ he hw (Post.step (p.lenA fun ds m' e => hl ρ m ds m' e) fun xs m1 vs H1 F1 al1 e1 w1 q1 p1 => ?_)
  by_cases hn : xs.length = es.length
  · rw [if_pos hn] at p1
    refine ⟨by rw [← q1.len, hn]; exact small_line hz, fun q hq => p1 _ _ (upd F1 q (.tup vs)) al1 (ext_new (w1.fnone hq)) (w1.new hq) (.tup (.of upd_same) (q1.up (ext_new (w1.fnone hq))))⟩
  · rw [if_neg hn] at p1; exact p1.elim
theorem de_lst (h : DA c W es fr) (hz : es.length ≤ 100000 := by decide) : DE c W (.List es pos) (xLst fr) := by
  obtain ⟨⟨t, a1, a2⟩, hl⟩ := h
  refine ⟨tLst t, fun y hy => pe_lst (a1 y hy), fun ρ m σ H F al Q he hw p => ?_⟩
  refine a2 ρ m σ H F al _ he hw (Post.step (p.lenA fun ds m' e => hl ρ m ds m' e) fun xs m1 vs H1 F1 al1 e1 w1 q1 p1 => ?_)
  by_cases hn : xs.length = es.length
  · rw [if_pos hn] at p1
    refine ⟨by rw [← q1.len, hn]; exact small_line hz, fun q hq => p1 _ _ (upd F1 q (.lst vs)) al1 (ext_new (w1.fnone hq)) (w1.new hq) (.lst upd_same (q1.up (ext_new (w1.fnone hq))))⟩
  · rw [if_neg hn] at p1; exact p1.elim
theorem de_new (h : DA c W es fr) (hz : es.length ≤ 100000 := by decide) : DE c W (.List es pos) (xNew fr) := by
  obtain ⟨⟨t, a1, a2⟩, hl⟩ := h
  refine ⟨tLst t, fun y hy => pe_lst (a1 y hy), fun ρ m σ H F al Q he hw p => ?_⟩
  refine a2 ρ m σ H F al _ he hw (Post.step (p.lenA fun ds m' e => hl ρ m ds m' e) fun xs m1 vs H1 F1 al1 e1 w1 q1 p1 => ?_)
  by_cases hn : xs.length = es.length
  · rw [if_pos hn] at p1
    by_cases hb : D.inL m1.length xs = true
    · rw [if_pos hb] at p1
      refine ⟨by rw [← q1.len, hn]; exact small_line hz, fun q hq => p1 _ _ F1 (al1 ++ [q]) Le.snoc (w1.newCell hq ⟨w1.fnone hq, vs, upd_same, q1.up Le.snoc⟩ hb) (.loc (by rw [← w1.len, List.getElem?_append_right (Nat.le_refl _), Nat.sub_self]; rfl))⟩
    · rw [if_neg hb] at p1; exact p1.elim
  · rw [if_neg hn] at p1; exact p1.elim
end
end DS

namespace DS
open PySem PySem.Spec PyProof.Rows L2
section
variable {c : SC} {W : WX} {pos : Pos}

/-! ### operators on data -/
def addD (d e : D) (m : Mu) : Out D := match d, e with
  | .int i, .int j => .ok (.int (i + j)) m
  | .str x, .str y => if x.length + y.length ≤ sizeLine then .ok (.str (x ++ y)) m else .stuck
  | .tup xs, .tup ys => if xs.length + ys.length ≤ sizeLine then .ok (.tup (xs ++ ys)) m else .stuck
  | d, e => match ownOf m d, ownOf m e with
    | some xs, some ys => if xs.length + ys.length ≤ sizeLine then .ok (.lst (xs ++ ys)) m else .stuck
    | _, _ => .stuck
theorem op_addD : OpD c (binaryOp .Add) addD := by
  refine ⟨fun x y H Q => ((rI0 (fun i j => .int (i + j)) x y H Q ∨ ∃ i j, x = .str i ∧ y = .str j ∧ i.length + j.length ≤ sizeLine ∧ Q (.str (i ++ j)) H) ∨ rCatA c.K x y H Q) ∨ rCat x y H Q, fun W y hy => ((op_add.or op_add_str).or op_catA).or op_cat, fun W d e m x y H F al Q hw r1 r2 p => ?_⟩
  have lists : ∀ xs ys, ownOf m d = some xs → ownOf m e = some ys → Post c.K (RD c.K) W F al Q (if xs.length + ys.length ≤ sizeLine then .ok (.lst (xs ++ ys)) m else .stuck) → rCat x y H Q := fun xs ys h1 h2 p => by
    obtain ⟨a, vs, rfl, ha, qa⟩ := ownOf_ok hw r1 h1
    obtain ⟨b, ws, rfl, hb, qb⟩ := ownOf_ok hw r2 h2
    by_cases hl : xs.length + ys.length ≤ sizeLine
    · rw [if_pos hl] at p
      exact ⟨a, b, vs, ws, rfl, rfl, ha, hb, by rw [← qa.len, ← qb.len]; exact hl, fun q hq => p _ _ (upd F q _) al (ext_new (hw.fnone hq)) (hw.new hq) (.lst upd_same ((qa.append qb).up (ext_new (hw.fnone hq))))⟩
    · rw [if_neg hl] at p; exact p.elim
  unfold addD at p
  split at p
  · cases r1; cases r2
    exact .inl (.inl (.inl ⟨_, _, rfl, rfl, p _ H F al Le.refl hw (.int _)⟩))
  · cases r1; cases r2
    split at p
    · rename_i hl
      exact .inl (.inl (.inr ⟨_, _, rfl, rfl, hl, p _ H F al Le.refl hw (.str _)⟩))
    · exact p.elim
  · rename_i xs ys
    cases r1 with
    | @tup a vs _ s1 q1 =>
    cases r2 with
    | @tup b ws _ s2 q2 =>
    split at p
    · rename_i hl
      refine .inl (.inr ⟨a, b, vs, ws, rfl, rfl, sqt_up hw.sub s1, sqt_up hw.sub s2, by rw [← q1.len, ← q2.len]; exact hl, fun z => ?_, fun z z' => ?_, fun _ _ q hq => ?_⟩)
      · subst z
        cases q1
        exact p _ H F al Le.refl hw (.tup s2 q2)
      · subst z'
        cases q2
        rw [List.append_nil] at p
        exact p _ H F al Le.refl hw (.tup s1 q1)
      · exact p _ _ (upd F q _) al (ext_new (hw.fnone hq)) (hw.new hq) (.tup (.of upd_same) ((q1.append q2).up (ext_new (hw.fnone hq))))
    · exact p.elim
  · split at p
    · rename_i h1 h2
      exact .inr (lists _ _ h1 h2 p)
    · exact p.elim
/-- two ints -/
def intD (C : Int → Int → Bool) (g : Int → Int → Int) (d e : D) (m : Mu) : Out D := match d, e with
  | .int i, .int j => if C i j then .ok (.int (g i j)) m else .stuck
  | _, _ => .stuck
theorem opd_int {f : Value → Value → Sem Value} {C : Int → Int → Prop} {B : Int → Int → Bool} {g : Int → Int → Int} (h : ∀ X : Cx, OpR X f (rI C fun i j => .int (g i j))) (hB : ∀ i j, B i j = true → C i j) : OpD c f (intD B g) := by
  refine ⟨_, fun W y hy => h _, fun W d e m x y H F al Q hw r1 r2 p => ?_⟩
  unfold intD at p
  split at p
  · cases r1; cases r2
    split at p
    · rename_i hb
      exact ⟨_, _, rfl, rfl, hB _ _ hb, p _ H F al Le.refl hw (.int _)⟩
    · exact p.elim
  · exact p.elim
def subD (d e : D) (m : Mu) : Out D := match d, e with
  | .int i, .int j => .ok (.int (i - j)) m
  | _, _ => .stuck
theorem op_subD : OpD c (binaryOp .Sub) subD := by
  refine ⟨_, fun W y hy => op_sub, fun W d e m x y H F al Q hw r1 r2 p => ?_⟩
  unfold subD at p
  split at p
  · cases r1; cases r2
    exact ⟨_, _, rfl, rfl, p _ H F al Le.refl hw (.int _)⟩
  · exact p.elim
def mulOk (i j : Int) : Bool := decide (-(2 ^ 64) < i ∧ i < 2 ^ 64) || decide (-(2 ^ 64) < j ∧ j < 2 ^ 64)
def mulD (d e : D) (m : Mu) : Out D := match d, e with
  | .int i, .int j => if mulOk i j then .ok (.int (i * j)) m else .stuck
  | d, .int k => match ownOf m d with
    | some xs => if 0 ≤ k ∧ k < 100000 ∧ xs.length * k.toNat ≤ sizeLine then .ok (.lst (List.replicate k.toNat xs).flatten) m else .stuck
    | none => .stuck
  | _, _ => .stuck
theorem RpL.rep {K : PySem.W.Frag} {F : Hp} {al : List Addr} {xs : List D} {vs : List V} (h : RpL K F al xs vs) : ∀ k : Nat, RpL K F al (List.replicate k xs).flatten (List.replicate k vs).flatten
  | 0 => .nil
  | k + 1 => by
    rw [List.replicate_succ, List.replicate_succ, List.flatten_cons, List.flatten_cons]
    exact h.append (RpL.rep h k)
theorem op_mulD : OpD c (binaryOp .Mult) mulD := by
  refine ⟨_, fun W y hy => op_mul.or op_rep, fun W d e m x y H F al Q hw r1 r2 p => ?_⟩
  unfold mulD at p
  split at p
  · cases r1; cases r2
    split at p
    · rename_i hb
      refine .inl ⟨_, _, rfl, rfl, ?_, p _ H F al Le.refl hw (.int _)⟩
      unfold mulOk at hb
      rw [Bool.or_eq_true, decide_eq_true_eq, decide_eq_true_eq] at hb
      exact hb
    · exact p.elim
  · cases r2
    split at p
    · rename_i xs h1
      obtain ⟨a, vs, rfl, ha, qa⟩ := ownOf_ok hw r1 h1
      split at p
      · rename_i k _ hk
        obtain ⟨k0, k1, k2⟩ := hk
        refine .inr ⟨a, _, vs, rfl, rfl, ha, by omega, by omega, by rw [← qa.len]; exact k2, fun q hq => p _ _ (upd F q _) al (ext_new (hw.fnone hq)) (hw.new hq) (.lst upd_same ((qa.rep _).up (ext_new (hw.fnone hq))))⟩
      · exact p.elim
    · exact p.elim
  · exact p.elim
def modD : D → D → Mu → Out D := intD (fun _ j => decide (0 < j)) fun i j => i % j
theorem op_modD : OpD c (binaryOp .Mod) modD := opd_int (fun _ => op_mod) fun _ _ h => of_decide_eq_true h
def divD : D → D → Mu → Out D := intD (fun _ j => decide (0 < j ∧ j < 1073741824)) fun i j => i / j
theorem op_divD : OpD c (binaryOp .FloorDiv) divD := opd_int (fun _ => op_fdiv) fun i j h => (of_decide_eq_true h : 0 < j ∧ j < 1073741824)
def powD : D → D → Mu → Out D := intD (fun i j => decide (0 ≤ j ∧ j ≤ 1000000 ∧ i.natAbs < 2 ^ 64)) fun i j => i ^ j.toNat
theorem op_powD : OpD c (binaryOp .Pow) powD := opd_int (fun _ => op_pow) fun i j h => (of_decide_eq_true h : 0 ≤ j ∧ j ≤ 1000000 ∧ i.natAbs < 2 ^ 64)
/-- comparisons of ints -/
def cmpD (g : Int → Int → Bool) (d e : D) (m : Mu) : Out D := match d, e with
  | .int i, .int j => .ok (.bl (g i j)) m
  | _, _ => .stuck
theorem opd_cmp {f : Value → Value → Sem Value} {g : Int → Int → Bool} (h : ∀ X : Cx, OpR X f (rI0 fun i j => .bl (g i j))) : OpD c f (cmpD g) := by
  refine ⟨_, fun W y hy => h _, fun W d e m x y H F al Q hw r1 r2 p => ?_⟩
  unfold cmpD at p
  split at p
  · cases r1; cases r2
    exact ⟨_, _, rfl, rfl, p _ H F al Le.refl hw (.bl _)⟩
  · exact p.elim
def ltD : D → D → Mu → Out D := cmpD fun i j => decide (i < j)
def leD : D → D → Mu → Out D := cmpD fun i j => decide (i ≤ j)
def gtD : D → D → Mu → Out D := cmpD fun i j => decide (j < i)
def geD : D → D → Mu → Out D := cmpD fun i j => decide (j ≤ i)
theorem op_ltD : OpD c (compareOp .Lt) ltD := opd_cmp fun _ => op_lt
theorem op_leD : OpD c (compareOp .LtE) leD := opd_cmp fun _ => op_le
theorem op_gtD : OpD c (compareOp .Gt) gtD := opd_cmp fun _ => op_gt
theorem op_geD : OpD c (compareOp .GtE) geD := opd_cmp fun _ => op_ge
/-- is None -/
def isNonD : D → Bool
  | .non => true
  | _ => false
theorem Rp.isNon {K : PySem.W.Frag} {F : Hp} {al : List Addr} {d : D} {v : V} (r : Rp K F al d v) : decide (v = .non) = isNonD d := by
  cases r <;> first | rfl | exact decide_eq_false (fun z => nomatch z)
def isD (d e : D) (m : Mu) : Out D := match e with
  | .non => .ok (.bl (isNonD d)) m
  | _ => .stuck
def isntD (d e : D) (m : Mu) : Out D := match e with
  | .non => .ok (.bl (!isNonD d)) m
  | _ => .stuck
theorem op_isD : OpD c (compareOp .Is) isD := by
  refine ⟨_, fun W y hy => op_isN, fun W d e m x y H F al Q hw r1 r2 p => ?_⟩
  unfold isD at p
  split at p
  · cases r2
    refine ⟨rfl, ?_⟩
    rw [r1.isNon]
    exact p _ H F al Le.refl hw (.bl _)
  · exact p.elim
theorem op_isntD : OpD c (compareOp .IsNot) isntD := by
  refine ⟨_, fun W y hy => op_notN, fun W d e m x y H F al Q hw r1 r2 p => ?_⟩
  unfold isntD at p
  split at p
  · cases r2
    refine ⟨rfl, ?_⟩
    rw [r1.isNon]
    exact p _ H F al Le.refl hw (.bl _)
  · exact p.elim

/-! ### == of data -/
mutual
def toP : D → Option PyData
  | .non => some .none
  | .bl b => some (.bool b)
  | .int i => some (.int i)
  | .str x => some (.str x)
  | .tup xs => (toPs xs).map .tuple
  | .lst xs => (toPs xs).map .list
  | .fix xs => (toPs xs).map .list
  | _ => none
def toPs : List D → Option (List PyData)
  | [] => some []
  | x :: r => match toP x, toPs r with
    | some p, some ps => some (p :: ps)
    | _, _ => none
end
section
variable {K : PySem.W.Frag} {F : Hp} {al : List Addr} {H : Hp}
theorem dpall_get {F' : Hp} : True := trivial
mutual
theorem Rp.dp (sub : ∀ (a : Addr) (o : HO), F a = some o → H a = some o) : ∀ {d : D} {v : V} {p : PyData}, Rp K F al d v → toP d = some p → Dp K H v p
  | _, _, _, .non, h => by rw [toP] at h; cases h; exact .non
  | _, _, _, .bl b, h => by rw [toP] at h; cases h; exact .bl b
  | _, _, _, .int i, h => by rw [toP] at h; cases h; exact .int i
  | _, _, _, .str x, h => by rw [toP] at h; cases h; exact .str x
  | _, _, _, .tup (ds := ds) s q, h => by
    rw [toP] at h
    cases e : toPs ds with
    | none => rw [e] at h; cases h
    | some ps => rw [e] at h; cases h; exact .tup (sqt_up sub s) (RpL.dp sub q e)
  | _, _, _, .lst (ds := ds) s q, h => by
    rw [toP] at h
    cases e : toPs ds with
    | none => rw [e] at h; cases h
    | some ps => rw [e] at h; cases h; exact .lst (.of (sub _ _ s)) (RpL.dp sub q e)
  | _, _, _, .fix (ds := ds) s q, h => by
    rw [toP] at h
    cases e : toPs ds with
    | none => rw [e] at h; cases h
    | some ps => rw [e] at h; cases h; exact .lst (sql_up sub s) (RpL.dp sub q e)
  | _, _, _, .obj _ _, h => by rw [toP] at h <;> first | cases h | (intros; exact D.noConfusion)
  | _, _, _, .dct _ _, h => by rw [toP] at h <;> first | cases h | (intros; exact D.noConfusion)
  | _, _, _, .loc _, h => by rw [toP] at h <;> first | cases h | (intros; exact D.noConfusion)
  | _, _, _, .glo _, h => by rw [toP] at h <;> first | cases h | (intros; exact D.noConfusion)
  | _, _, _, .ty _, h => by rw [toP] at h <;> first | cases h | (intros; exact D.noConfusion)
  | _, _, _, .exn _ _, h => by rw [toP] at h <;> first | cases h | (intros; exact D.noConfusion)
theorem RpL.dp (sub : ∀ (a : Addr) (o : HO), F a = some o → H a = some o) : ∀ {d : List D} {v : List V} {p : List PyData}, RpL K F al d v → toPs d = some p → DpAll K H v p
  | _, _, _, .nil, h => by rw [toPs] at h; cases h; exact .nil
  | _, _, _, .cons (d := d) (ds := ds) r q, h => by
    rw [toPs] at h
    cases e1 : toP d with
    | none => rw [e1] at h; cases h
    | some p =>
      cases e2 : toPs ds with
      | none => rw [e1, e2] at h; cases h
      | some ps => rw [e1, e2] at h; cases h; exact .cons (Rp.dp sub r e1) (RpL.dp sub q e2)
end
end
/-- a list that stands in the store, as data -/
def dere (m : Mu) : D → D
  | .loc n => match m[n]? with
    | some (.lst xs) => .fix xs
    | _ => .loc n
  | d => d
theorem dere_dp {K : PySem.W.Frag} {F : Hp} {al : List Addr} {m : Mu} {H : Hp} {d : D} {v : V} {p : PyData} (w : Wd K F al m H) (r : Rp K F al d v) (h : toP (dere m d) = some p) : Dp K H v p := by
  cases d with
  | loc n =>
    unfold dere at h
    cases r with
    | @loc _ a s =>
    cases e : m[n]? with
    | none => simp only [e] at h; rw [toP] at h <;> first | cases h | (intros; exact D.noConfusion)
    | some cl =>
      cases cl with
      | lst xs =>
        simp only [e] at h
        obtain ⟨_, vs, h1, h2⟩ := w.cell n a _ s e
        rw [toP] at h
        cases e2 : toPs xs with
        | none => rw [e2] at h; cases h
        | some ps => rw [e2] at h; cases h; exact .lst (.of h1) (RpL.dp w.sub h2 e2)
      | ins _ _ => simp only [e] at h; rw [toP] at h <;> first | cases h | (intros; exact D.noConfusion)
      | dct _ => simp only [e] at h; rw [toP] at h <;> first | cases h | (intros; exact D.noConfusion)
      | dead => simp only [e] at h; rw [toP] at h <;> first | cases h | (intros; exact D.noConfusion)
      | tab q => simp only [e] at h; rw [toP] at h <;> first | cases h | (intros; exact D.noConfusion)
  | _ => exact r.dp w.sub h
def eqB (m : Mu) (d e : D) : Option Bool := match toP (dere m d), toP (dere m e) with
  | some p, some q => if SeqAt.shaped p && SeqAt.shaped q then some (PyData.eqv p q) else none
  | _, _ => none
def eqD (d e : D) (m : Mu) : Out D := match d, e with
  | .str x, .str y => .ok (.bl (x == y)) m
  | d, e => match eqB m d e with
    | some b => .ok (.bl b) m
    | none => .stuck
def neD (d e : D) (m : Mu) : Out D := match d, e with
  | .str x, .str y => .ok (.bl (!(x == y))) m
  | d, e => match eqB m d e with
    | some b => .ok (.bl (!b)) m
    | none => .stuck
theorem eqB_ok {K : PySem.W.Frag} {F : Hp} {al : List Addr} {m : Mu} {H : Hp} {d e : D} {x y : V} {b : Bool} (w : Wd K F al m H) (r1 : Rp K F al d x) (r2 : Rp K F al e y) (h : eqB m d e = some b) :
    ∃ p q, Dp K H x p ∧ Dp K H y q ∧ SeqAt.shaped p = true ∧ SeqAt.shaped q = true ∧ b = PyData.eqv p q := by
  unfold eqB at h
  split at h
  · rename_i p q h1 h2
    split at h
    · rename_i hs
      rw [Bool.and_eq_true] at hs
      cases h
      exact ⟨p, q, dere_dp w r1 h1, dere_dp w r2 h2, hs.1, hs.2, rfl⟩
    · cases h
  · cases h
theorem op_eqD' : OpD c (compareOp .Eq) eqD := by
  refine ⟨fun x y H Q => rEq x y H Q ∨ rEqD c.K x y H Q, fun W y hy => (op_eq (X := c.cx y)).or (op_eqD (X := c.cx y) hy.un64), fun W d e m x y H F al Q hw r1 r2 p => ?_⟩
  have gen : Post c.K (RD c.K) W F al Q (match eqB m d e with
    | some b => .ok (.bl b) m
    | none => .stuck) → rEq x y H Q ∨ rEqD c.K x y H Q := fun p => by
    split at p
    · rename_i b h
      obtain ⟨p1, q1, a1, a2, a3, a4, rfl⟩ := eqB_ok hw r1 r2 h
      exact .inr ⟨p1, q1, a1, a2, a3, a4, p _ H F al Le.refl hw (.bl _)⟩
    · exact p.elim
  unfold eqD at p
  split at p
  · cases r1; cases r2
    refine .inl ⟨rfl, ?_⟩
    rw [dec_str]
    exact p _ H F al Le.refl hw (.bl _)
  · exact gen p
theorem op_neD' : OpD c (compareOp .NotEq) neD := by
  refine ⟨fun x y H Q => rNe x y H Q ∨ rNeD c.K x y H Q, fun W y hy => (op_ne (X := c.cx y)).or (op_neD (X := c.cx y) hy.un64), fun W d e m x y H F al Q hw r1 r2 p => ?_⟩
  have gen : Post c.K (RD c.K) W F al Q (match eqB m d e with
    | some b => .ok (.bl (!b)) m
    | none => .stuck) → rNe x y H Q ∨ rNeD c.K x y H Q := fun p => by
    split at p
    · rename_i b h
      obtain ⟨p1, q1, a1, a2, a3, a4, rfl⟩ := eqB_ok hw r1 r2 h
      exact .inr ⟨p1, q1, a1, a2, a3, a4, p _ H F al Le.refl hw (.bl _)⟩
    · exact p.elim
  unfold neD at p
  split at p
  · cases r1; cases r2
    refine .inl ⟨rfl, ?_⟩
    rw [dec_str]
    exact p _ H F al Le.refl hw (.bl _)
  · exact gen p

/-! ### in -/
def flatD : D → Bool
  | .non => true
  | .bl _ => true
  | .int _ => true
  | .str _ => true
  | _ => false
def eqF : D → D → Bool
  | .non, .non => true
  | .bl a, .bl b => a == b
  | .bl a, .int b => (if a = true then (1 : Int) else 0) == b
  | .int a, .bl b => a == if b = true then (1 : Int) else 0
  | .int a, .int b => a == b
  | .str a, .str b => a == b
  | _, _ => false
section
variable {K : PySem.W.Frag} {F : Hp} {al : List Addr}
theorem Rp.flat {d : D} {v : V} (r : Rp K F al d v) : flatD d = true → flatV v = true := by
  intro h
  cases r <;> first | rfl | cases h
theorem Rp.eqF {d e : D} {x y : V} (r1 : Rp K F al d x) (r2 : Rp K F al e y) (h1 : flatD d = true) (h2 : flatD e = true) : eqV x y = DS.eqF d e := by
  cases r1 <;> cases h1 <;> cases r2 <;> cases h2 <;> rfl
theorem RpL.flat : ∀ {ds : List D} {vs : List V}, RpL K F al ds vs → ds.all flatD = true → vs.all flatV = true
  | _, _, .nil, _ => rfl
  | _, _, .cons r q, h => by
    rw [List.all_cons, Bool.and_eq_true] at h ⊢
    exact ⟨r.flat h.1, RpL.flat q h.2⟩
theorem RpL.inF {d : D} {v : V} (r : Rp K F al d v) (hd : flatD d = true) : ∀ {ds : List D} {vs : List V}, RpL K F al ds vs → ds.all flatD = true → inV v vs = ds.any fun e => DS.eqF e d
  | _, _, .nil, _ => rfl
  | _, _, .cons r' q, h => by
    rw [List.all_cons, Bool.and_eq_true] at h
    have ih := RpL.inF r hd q h.2
    unfold inV at ih ⊢
    rw [List.any_cons, List.any_cons, ih, Rp.eqF r' r h.1 hd]
end
def inB (m : Mu) (d e : D) : Option Bool := match d, e with
  | .str x, .str y => some (!(Builtin.Str.occurrences y x 0 y.length 1).isEmpty)
  | d, .tup xs => if flatD d && xs.all flatD then some (xs.any fun y => eqF y d) else none
  | d, e => match lstOf m e with
    | some xs => if flatD d && xs.all flatD then some (xs.any fun y => eqF y d) else none
    | none => none
def inD (d e : D) (m : Mu) : Out D := match inB m d e with
  | some b => .ok (.bl b) m
  | none => .stuck
def ninD (d e : D) (m : Mu) : Out D := match inB m d e with
  | some b => .ok (.bl (!b)) m
  | none => .stuck
theorem inB_ok {K : PySem.W.Frag} {F : Hp} {al : List Addr} {m : Mu} {H : Hp} {d e : D} {x y : V} {b : Bool} (w : Wd K F al m H) (r1 : Rp K F al d x) (r2 : Rp K F al e y) (h : inB m d e = some b) :
    (∃ i j, x = .str i ∧ y = .str j ∧ b = (!(Builtin.Str.occurrences j i 0 j.length 1).isEmpty)) ∨ ∃ p xs, y = .ref p ∧ (SqL K H p xs ∨ SqT K H p xs) ∧ flatV x = true ∧ xs.all flatV = true ∧ b = inV x xs := by
  unfold inB at h
  split at h
  · cases r1; cases r2; cases h
    exact .inl ⟨_, _, rfl, rfl, rfl⟩
  · cases r2 with
    | @tup a vs _ s q =>
    split at h
    · rename_i hf
      rw [Bool.and_eq_true] at hf
      cases h
      exact .inr ⟨a, vs, rfl, .inr (sqt_up w.sub s), r1.flat hf.1, q.flat hf.2, (q.inF r1 hf.1 hf.2).symm⟩
    · cases h
  · split at h
    · rename_i hl
      split at h
      · rename_i hf
        rw [Bool.and_eq_true] at hf
        cases h
        obtain ⟨a, vs, rfl, s, q⟩ := lstOf_ok w r2 hl
        exact .inr ⟨a, vs, rfl, .inl s, r1.flat hf.1, q.flat hf.2, (q.inF r1 hf.1 hf.2).symm⟩
      · cases h
    · cases h
theorem op_inD : OpD c (compareOp .In) inD := by
  refine ⟨fun x y H Q => (∃ i j, x = .str i ∧ y = .str j ∧ Q (.bl (!(Builtin.Str.occurrences j i 0 j.length 1).isEmpty)) H) ∨ rIn c.K false x y H Q, fun W y hy => op_in_str.or op_in_seq, fun W d e m x y H F al Q hw r1 r2 p => ?_⟩
  unfold inD at p
  split at p
  · rename_i b h
    rcases inB_ok hw r1 r2 h with ⟨i, j, rfl, rfl, rfl⟩ | ⟨q, xs, rfl, h1, h2, h3, rfl⟩
    · exact .inl ⟨i, j, rfl, rfl, p _ H F al Le.refl hw (.bl _)⟩
    · exact .inr ⟨q, xs, rfl, h1, h2, h3, p _ H F al Le.refl hw (.bl _)⟩
  · exact p.elim
theorem op_ninD : OpD c (compareOp .NotIn) ninD := by
  refine ⟨fun x y H Q => (∃ i j, x = .str i ∧ y = .str j ∧ Q (.bl (!(!(Builtin.Str.occurrences j i 0 j.length 1).isEmpty))) H) ∨ rIn c.K true x y H Q, fun W y hy => op_notin_str.or op_notIn_seq, fun W d e m x y H F al Q hw r1 r2 p => ?_⟩
  unfold ninD at p
  split at p
  · rename_i b h
    rcases inB_ok hw r1 r2 h with ⟨i, j, rfl, rfl, rfl⟩ | ⟨q, xs, rfl, h1, h2, h3, rfl⟩
    · exact .inl ⟨i, j, rfl, rfl, p _ H F al Le.refl hw (.bl _)⟩
    · exact .inr ⟨q, xs, rfl, h1, h2, h3, p _ H F al Le.refl hw (.bl _)⟩
  · exact p.elim
end
end DS

namespace DS
open PySem PySem.Spec PyProof.Rows L2
section
variable {K : PySem.W.Frag} {F F' : Hp} {al al' : List Addr} {m : Mu} {H : Hp}
/-! ### leaving a def: what was new in the store is fixed or forgotten -/
theorem Le.cut {n : Nat} (e : Le F al F' al') (h : al.length ≤ n) : Le F al F' (al'.take n) :=
  ⟨e.f, fun k a q => by
    rw [List.getElem?_take_of_lt (Nat.lt_of_lt_of_le (List.getElem?_eq_some_iff.mp q).1 h)]
    exact e.a k a q⟩
theorem Cell.inB_lst {n : Nat} {xs : List D} : (Cell.lst xs).inB n = D.inL n xs := rfl
mutual
theorem D.inB_mono {n k : Nat} (h : n ≤ k) : ∀ d : D, d.inB n = true → d.inB k = true
  | .loc j, e => by rw [D.inB] at e ⊢; exact decide_eq_true (Nat.lt_of_lt_of_le (of_decide_eq_true e) h)
  | .tup xs, e => by rw [D.inB] at e ⊢; exact D.inL_mono h xs e
  | .lst xs, e => by rw [D.inB] at e ⊢; exact D.inL_mono h xs e
  | .fix xs, e => by rw [D.inB] at e ⊢; exact D.inL_mono h xs e
  | .obj _ fs, e => by rw [D.inB] at e ⊢; exact D.inF_mono h fs e
  | .dct fs, e => by rw [D.inB] at e ⊢; exact D.inF_mono h fs e
  | .exn _ fs, e => by rw [D.inB] at e ⊢; exact D.inF_mono h fs e
  | .non, _ => by simp only [D.inB]
  | .bl _, _ => by simp only [D.inB]
  | .int _, _ => by simp only [D.inB]
  | .str _, _ => by simp only [D.inB]
  | .glo _, _ => by simp only [D.inB]
  | .ty _, _ => by simp only [D.inB]
theorem D.inL_mono {n k : Nat} (h : n ≤ k) : ∀ d : List D, D.inL n d = true → D.inL k d = true
  | [], _ => by rw [D.inL]
  | x :: r, e => by
    rw [D.inL, Bool.and_eq_true] at e ⊢
    exact ⟨D.inB_mono h x e.1, D.inL_mono h r e.2⟩
theorem D.inF_mono {n k : Nat} (h : n ≤ k) : ∀ d : List (Str × D), D.inF n d = true → D.inF k d = true
  | [], _ => by rw [D.inF]
  | (_, x) :: r, e => by
    rw [D.inF, Bool.and_eq_true] at e ⊢
    exact ⟨D.inB_mono h x e.1, D.inF_mono h r e.2⟩
end
theorem Cell.inB_mono {n k : Nat} (h : n ≤ k) {c : Cell} (e : c.inB n = true) : c.inB k = true := by
  cases c with
  | lst xs => exact D.inL_mono h xs e
  | ins _ fs => exact D.inF_mono h fs e
  | dct fs => exact D.inF_mono h fs e
  | dead => rfl
  | tab _ => rfl
theorem CellOk.cut {n : Nat} {a : Addr} {c : Cell} (h : CellOk K F al H a c) (e : c.inB n = true) : CellOk K F (al.take n) H a c := by
  cases c with
  | lst xs => obtain ⟨z, vs, h1, h2⟩ := h; exact ⟨z, vs, h1, h2.cut e⟩
  | ins _ gs => obtain ⟨z, dx, fs, h1, h2⟩ := h; exact ⟨z, dx, fs, h1, h2.cut e⟩
  | dct gs => obtain ⟨z, fs, h1, h2⟩ := h; exact ⟨z, fs, h1, h2.cut e⟩
  | dead => exact h
  | tab _ => exact h
theorem Wd.cut (w : Wd K F al m H) (n : Nat) : Wd K F (al.take n) (m.take n) H := by
  refine ⟨w.sub, by rw [List.length_take, List.length_take, w.len], w.nd.sublist (List.take_sublist _ _), fun k a c h1 h2 => ?_, fun k c h2 => ?_, fun a ha => w.tr a (List.mem_of_mem_take ha), w.nt⟩
  · have hk : k < n := by
      have := (List.getElem?_eq_some_iff.mp h2).1
      rw [List.length_take] at this
      omega
    rw [List.getElem?_take_of_lt hk] at h1 h2
    exact (w.cell k a c h1 h2).cut (Cell.inB_mono (Nat.le_of_lt hk) (w.gen k c h2))
  · have hk : k < n := by
      have := (List.getElem?_eq_some_iff.mp h2).1
      rw [List.length_take] at this
      omega
    rw [List.getElem?_take_of_lt hk] at h2
    exact w.gen k c h2
theorem Wd.inj (w : Wd K F al m H) {i j : Nat} {a : Addr} (h1 : al[i]? = some a) (h2 : al[j]? = some a) : i = j := by
  obtain ⟨l1, e1⟩ := List.getElem?_eq_some_iff.mp h1
  obtain ⟨l2, e2⟩ := List.getElem?_eq_some_iff.mp h2
  exact (List.getElem_inj w.nd).mp (e1.trans e2.symm)
/-- the object at n is fixed, what is above k (k ≤ n) forgotten -/
theorem Wd.frz {n k : Nat} {a : Addr} {o : HO} (w : Wd K F al m H) (h1 : al[n]? = some a) (ho : H a = some o) (hf : F a = none) (hk : k ≤ n) (hto : ∀ ps, o ≠ .tbl ps := by intro ps h; cases h) : Wd K (upd F a o) (al.take k) (m.take k) H := by
  have w' := w.cut k
  refine ⟨fun b u e => ?_, w'.len, w'.nd, fun j b c h2 h3 => ?_, w'.gen, w'.tr, nt_upd w.nt hto⟩
  · by_cases hb : b = a
    · subst hb; rw [upd_same] at e; rw [← e]; exact ho
    · rw [upd_ne hb] at e; exact w.sub b u e
  · have hj : j < k := by
      have := (List.getElem?_eq_some_iff.mp h2).1
      rw [List.length_take] at this
      omega
    have hb : b ≠ a := fun z => by
      subst z
      rw [List.getElem?_take_of_lt hj] at h2
      have := w.inj h2 h1
      omega
    exact (w'.cell j b c h2 h3).upTo (ext_new hf) (fun z => by rw [upd_ne hb]; exact z) fun _ => rfl
/-- the object at n is fixed, its place stays empty -/
theorem Wd.fix {n : Nat} {a : Addr} {o : HO} (w : Wd K F al m H) (h1 : al[n]? = some a) (ho : H a = some o) (hf : F a = none) (hto : ∀ ps, o ≠ .tbl ps := by intro ps h; cases h) : Wd K (upd F a o) al (m.set n .dead) H := by
  refine ⟨fun b u e => ?_, by rw [List.length_set]; exact w.len, w.nd, fun j b c h2 h3 => ?_, fun j c h3 => ?_, w.tr, nt_upd w.nt hto⟩
  · by_cases hb : b = a
    · subst hb; rw [upd_same] at e; rw [← e]; exact ho
    · rw [upd_ne hb] at e; exact w.sub b u e
  · by_cases hj : j = n
    · subst hj
      rw [List.getElem?_set_self (by rw [← w.len]; exact (List.getElem?_eq_some_iff.mp h1).1)] at h3
      cases h3
      have e : b = a := Option.some.inj (h2.symm.trans h1)
      subst e
      exact ⟨o, upd_same⟩
    · rw [List.getElem?_set_ne (Ne.symm hj)] at h3
      have hb : b ≠ a := fun z => by
        subst z
        exact hj (w.inj h2 h1)
      exact (w.cell j b c h2 h3).upTo (ext_new hf) (fun z => by rw [upd_ne hb]; exact z) fun _ => rfl
  · by_cases hj : j = n
    · subst hj
      rw [List.getElem?_set_self (by rw [← w.len]; exact (List.getElem?_eq_some_iff.mp h1).1)] at h3
      cases h3
      rfl
    · rw [List.getElem?_set_ne (Ne.symm hj)] at h3
      exact w.gen j c h3
def exitD (n0 : Nat) (d : D) (m : Mu) : Out D := if d.inB n0 then .ok d (m.take n0) else match d with
  | .loc n => match m[n]? with
    | some (.lst xs) => if D.inL n0 xs then .ok (.lst xs) (m.take n0) else .stuck
    | some (.ins c gs) => if D.inF n0 gs then .ok (.obj c gs) (m.take n0) else .stuck
    | _ => .stuck
  | _ => .stuck
theorem exit_ok {W : XK} {F0 : Hp} {al0 : List Addr} {Q : VK} {n0 : Nat} {d : D} {v : V} (w : Wd K F al m H) (e : Le F0 al0 F al) (h0 : al0.length = n0) (r : Rp K F al d v) (p : Post K (RD K) W F0 al0 Q (exitD n0 d m)) : Q v H := by
  unfold exitD at p
  split at p
  · rename_i hb
    exact p v H F (al.take n0) (e.cut (Nat.le_of_eq h0)) (w.cut n0) (r.cut hb)
  · rename_i hb
    split at p
    · rename_i n
      have hn : n0 ≤ n := by
        rw [D.inB, decide_eq_true_eq] at hb
        omega
      cases r with
      | @loc _ a s =>
      split at p
      · rename_i xs hc
        obtain ⟨hf, vs, h1, h2⟩ := w.cell n a _ s hc
        split at p
        · rename_i hi
          exact p _ H (upd F a (.lst vs)) (al.take n0) ((e.trans (ext_new hf)).cut (Nat.le_of_eq h0)) (w.frz s h1 hf hn) (.lst upd_same ((h2.cut hi).up (ext_new hf)))
        · exact p.elim
      · rename_i cn gs hc
        obtain ⟨hf, dx, fs, h1, h2⟩ := w.cell n a _ s hc
        split at p
        · rename_i hi
          exact p _ H (upd F a _) (al.take n0) ((e.trans (ext_new hf)).cut (Nat.le_of_eq h0)) (w.frz s h1 hf hn) (.obj upd_same ((h2.cut hi).up (ext_new hf)))
        · exact p.elim
      · exact p.elim
    · exact p.elim
end

/-! ### defs -/
abbrev Fn := List D → Mu → Out D
def spOf (K : PySem.W.Frag) (n : Nat) (G : Fn) : Sp := fun vs H Q E => ∃ ds m F al, ds.length = n ∧ RpL K F al ds vs ∧ Wd K F al m H ∧ Post K (RD K) E F al Q (G ds m)
def rho0 (n : Nat) (ds : List D) : Rho := ds.map some ++ List.replicate (n - ds.length) none
def fnOf (n : Nat) (keep : Bool) (g : XS) : Fn := fun ds m => match g (rho0 n ds) m with
  | .next _ m' => .ok .non (m'.take m.length)
  | .ret d m' => if keep then .ok d m' else exitD m.length d m'
  | .exc c fs _ m' => if D.inF m.length fs then .exc c fs (m'.take m.length) else .stuck
  | _ => .stuck
theorem env0_ok {K : PySem.W.Frag} {F : Hp} {al : List Addr} {N : List Str} {ds : List D} {vs : List V} (h : RpL K F al ds vs) : EnvOk K F al (rho0 N.length ds) (L2.start N vs) := by
  have hl := h.len
  refine ⟨by unfold rho0 L2.start; simp [hl], fun i d e => ?_⟩
  unfold rho0 at e
  by_cases hi : i < ds.length
  · rw [List.getElem?_append_left (by simpa using hi), List.getElem?_map] at e
    cases q : ds[i]? with
    | none => rw [q] at e; cases e
    | some d' =>
      rw [q] at e
      cases e
      obtain ⟨v, h1, h2⟩ := h.get q
      refine ⟨v, ?_, h2⟩
      unfold L2.start
      rw [List.getElem?_append_left (by simpa [← hl] using hi), List.getElem?_map, h1]
      rfl
  · rw [List.getElem?_append_right (by simpa using hi), List.getElem?_replicate] at e
    split at e <;> cases e
abbrev wOf (E : XK) : WX := fun cls d _ H => E cls d H
/-- a def's static context -/
structure Base where
  P : Program
  w : World
  K : PySem.W.Frag
  mg : Str → Option Value
  base : Heap
abbrev Base.at (b : Base) (N : List Str) (sc : Scope) (k : Nat) (gd : Bool) : SC := ⟨b.P, b.w, b.K, b.mg, b.base, N, sc, k, fun _ => true, gd, true, none, true, none⟩
abbrev Base.Ok (b : Base) (k : Nat) (f : Addr) (fd : FuncData) (ps : List Str) (G : Fn) : Prop := FnOk b.P b.w b.K b.mg b.base (L2.CX b.P b.w) k f fd ps (spOf b.K ps.length G)
theorem fn_body {b : Base} {N ps : List Str} {sc : Scope} {k : Nat} {body : List Stmt} {g : XS} {keep : Bool} {E : XK} {Q : VK} {y : Dyn} {vs : List V} {H : Hp} (h : DSs (b.at N sc k false) (wOf E) body g) (hy : OkD (b.at N sc k false) (wOf E) y) (hsp : spOf b.K ps.length (fnOf N.length keep g) vs H Q E) :
    ∃ t, PSs ((b.at N sc k false).cx y) body t ∧ t { nx := fun _ H' => Q .non H', rt := Q } (L2.start N vs) H := by
  obtain ⟨t, h1, h2⟩ := h
  obtain ⟨ds, m, F, al, hl, r, w, p⟩ := hsp
  refine ⟨t, h1 y hy, h2 (rho0 N.length ds) m (L2.start N vs) H F al _ (env0_ok r) w ?_⟩
  unfold fnOf at p
  cases q : g (rho0 N.length ds) m with
  | next r' m' =>
    rw [q] at p
    exact fun σ' H' F' al' e w' _ => p _ H' F' (al'.take m.length) (e.cut (Nat.le_of_eq w.len)) (w'.cut _) .non
  | ret d m' =>
    rw [q] at p
    intro v H' F' al' e w' rv
    cases keep with
    | true => exact p v H' F' al' e w' rv
    | false => exact exit_ok w' e w.len rv p
  | exc c fs r' m' =>
    rw [q] at p
    intro dd σ' H' F' al' gs e w' _ hg hd
    have p' : Post b.K (RD b.K) E F al Q (if D.inF m.length fs = true then .exc c fs (m'.take m.length) else .stuck) := p
    split at p'
    · rename_i hi
      exact p' dd H' F' (al'.take m.length) gs (e.cut (Nat.le_of_eq w.len)) (w'.cut _) (hg.cut hi) hd
    · exact p'.elim
  | brk _ _ => rw [q] at p; exact p.elim
  | cont _ _ => rw [q] at p; exact p.elim
  | stuck => rw [q] at p; exact p.elim
theorem RpL.lenV {K : PySem.W.Frag} {n : Nat} {G : Fn} {vs : List V} {H : Hp} {Q : VK} {E : XK} (h : spOf K n G vs H Q E) : vs.length = n := by
  obtain ⟨ds, m, F, al, hl, r, _⟩ := h
  rw [← r.len]; exact hl
theorem fn_ok {b : Base} {x qual : Str} {params : Arguments} {body : List Stmt} {scope : Scope} {dvs : List V} {kws : List (Str × V)} {f : Addr} {fd : FuncData} {N ps : List Str} {k : Nat} {g : XS} (keep : Bool) (D : FunD b.K x qual params body scope dvs kws f fd) (S : FnScope N ps scope)
    (h : ∀ E : XK, DSs (b.at N scope k false) (wOf E) body g) : b.Ok (k + 1) f fd ps (fnOf N.length keep g) := by
  refine D.ok S (fun vs H Q E hsp => RpL.lenV hsp) (fun cdv A outer s H vs Q E hr hsp => ?_)
  let y : Dyn := { A := A.deeper (envOfC qual scope s.heap.objs.size f cdv), s_0 := s, H_0 := H, env := envOfC qual scope s.heap.objs.size f cdv, outer := outer, stack := envOfC qual scope s.heap.objs.size f cdv :: outer, ex := [], fn := fun _ => true, pn := [], xe := (cxOf (L2.CX b.P b.w) b.P b.w b.K b.mg b.base N qual scope f cdv A outer s H E).xe }
  have ht : Takes ((b.at N scope k false).cx y) (wOf E) := takes_of (X := (b.at N scope k false).cx y) (E := E) rfl rfl rfl rfl
  have hy : OkD (b.at N scope k false) (wOf E) y := ⟨rfl, L2H.roomH_of hr, fun _ => hr.hd, ht, fun _ _ => rfl, (fun z => nomatch z), passes_of (X := (b.at N scope k false).cx y) rfl, (fun _ _ z => nomatch z), (fun _ => ⟨rfl, rfl, rfl⟩), fun _ z => nomatch z⟩
  exact fn_body (h E) hy hsp
end DS

namespace DS
open PySem PySem.Spec PyProof.Rows L2
section
variable {c : SC} {W : WX} {pos : Pos} {a b e : Expr} {fa fb fe : XE'}
/-! ### o[i] -/
section
variable {K : PySem.W.Frag} {F : Hp} {al : List Addr}
theorem RpL.atI {ds : List D} {vs : List V} {i : Int} {d : D} (h : RpL K F al ds vs) (e : atI ds i = some d) : ∃ v, L2.atI vs i = some v ∧ Rp K F al d v := by
  unfold L2.atI at e ⊢
  rw [← h.len]
  cases q : ixN ds.length i with
  | none => rw [q] at e; cases e
  | some j =>
    rw [q] at e
    exact h.get e
end
def ixD (d e : D) (m : Mu) : Out D := match e with
  | .int i => (match d with
    | .tup xs => (match L2.atI xs i with
      | some v => .ok v m
      | none => .stuck)
    | .str z => if z.length ≤ sizeLine then (match L2.atI z.cps.toList i with
      | some k => .ok (.str ⟨#[k]⟩) m
      | none => .stuck) else .stuck
    | d => (match lstOf m d with
      | some xs => (match L2.atI xs i with
        | some v => .ok v m
        | none => .stuck)
      | none => .stuck))
  | _ => .stuck
theorem ix_ok {W : XK} {d e : D} {m : Mu} {x y : V} {H F : Hp} {al : List Addr} {Q : VK} {K : PySem.W.Frag} (hw : Wd K F al m H) (r1 : Rp K F al d x) (r2 : Rp K F al e y) (p : Post K (RD K) W F al Q (ixD d e m)) : rIx K x y H Q := by
  unfold ixD at p
  split at p
  · cases r2
    split at p
    · cases r1 with
      | @tup q vs _ s r =>
      split at p
      · rename_i v h
        obtain ⟨u, h1, h2⟩ := r.atI h
        exact .inr (.inl ⟨q, vs, _, u, rfl, rfl, sqt_up hw.sub s, h1, p _ H F al Le.refl hw h2⟩)
      · exact p.elim
    · cases r1
      split at p
      · rename_i hz
        split at p
        · rename_i k h
          exact .inr (.inr ⟨_, _, k, rfl, rfl, hz, h, p _ H F al Le.refl hw (.str _)⟩)
        · exact p.elim
      · exact p.elim
    · split at p
      · rename_i xs hx
        obtain ⟨q, vs, rfl, s, r⟩ := lstOf_ok hw r1 hx
        split at p
        · rename_i v h
          obtain ⟨u, h1, h2⟩ := r.atI h
          exact .inl ⟨q, vs, _, u, rfl, rfl, s, h1, p _ H F al Le.refl hw h2⟩
        · exact p.elim
      · exact p.elim
  · exact p.elim
theorem de_ix (ha : DE c W a fa) (hb : DE c W b fb) (hs : PlainIx b := by exact fun _ _ => rfl) : DE c W (.Subscript a b pos) (xOp ixD fa fb) := by
  obtain ⟨t, a1, a2⟩ := ha
  obtain ⟨u, b1, b2⟩ := hb
  refine ⟨tOp (rIx c.K) t u, fun y hy => pe_ix (X := c.cx y) ix_seq (a1 y hy) (b1 y hy) hs, fun ρ m σ H F al Q he hw p => ?_⟩
  exact a2 ρ m σ H F al _ he hw (Post.step p fun x m1 v H1 F1 al1 e1 w1 q1 p1 => b2 ρ m1 σ H1 F1 al1 _ (he.up e1) w1
    (Post.step p1 fun z m2 u H2 F2 al2 e2 w2 q2 p2 => ix_ok w2 (q1.up e2) q2 p2))
/-! ### o[i:j] -/
def cutD (xs : List D) (lo hi : Option Int) : List D := (xs.drop (HT.sIx xs.length 0 lo)).take (HT.sIx xs.length xs.length hi - HT.sIx xs.length 0 lo)
abbrev XO := Rho → Mu → Out (Option Int)
def DO (c : SC) (W : WX) (e : Option Expr) (f : XO) : Prop := ∃ t : TO, (∀ y, OkD c W y → PO (c.cx y) e t) ∧
  ∀ r m σ H F al Q, EnvOk c.K F al r σ → Wd c.K F al m H → Post c.K (fun _ _ (x y : Option Int) => x = y) (atS W σ) F al Q (f r m) → t σ H Q
def xoN : XO := fun _ m => .ok none m
def asI : D → Mu → Out (Option Int)
  | .int i, m => .ok (some i) m
  | _, _ => .stuck
def xoS (a : XE') : XO := fun r m => (a r m).bind asI
theorem do_none : DO c W none xoN := ⟨_, fun _ _ => po_none, fun _ _ _ H F al Q _ hw p => p none H F al Le.refl hw rfl⟩
theorem do_some (ha : DE c W e fe) : DO c W (some e) (xoS fe) := by
  obtain ⟨t, a1, a2⟩ := ha
  refine ⟨_, fun y hy => po_some (a1 y hy), fun ρ m σ H F al Q he hw p => ?_⟩
  refine a2 ρ m σ H F al _ he hw (Post.step p fun x m1 v H1 F1 al1 e1 w1 q1 p1 => ?_)
  cases q1 with
  | int i => exact ⟨i, rfl, p1 _ H1 F1 al1 Le.refl w1 rfl⟩
  | _ => exact p1.elim
def slD (d : D) (lo hi : Option Int) (m : Mu) : Out D := match d with
  | .tup xs => .ok (.tup (cutD xs lo hi)) m
  | .str z => if z.length ≤ sizeLine then .ok (.str (cutS z lo hi)) m else .stuck
  | d => match lstOf m d with
    | some xs => .ok (.lst (cutD xs lo hi)) m
    | none => .stuck
theorem cut_rp {K : PySem.W.Frag} {F : Hp} {al : List Addr} {xs : List D} {vs : List V} (h : RpL K F al xs vs) (lo hi : Option Int) : RpL K F al (cutD xs lo hi) (cutV vs lo hi) := by
  unfold cutD cutV
  rw [h.len]
  exact (h.drop _).take _
theorem SlR.or {X : Cx} {r r' : V → Option Int → Option Int → Hp → VK → Prop} (h : SlR X r) (h' : SlR X r') : SlR X fun x lo hi H Q => r x lo hi H Q ∨ r' x lo hi H Q :=
  fun pins s σ H x v vl vu lo hi sl Q I rx is p1 p2 q => q.elim (fun q => h pins s σ H x v vl vu lo hi sl Q I rx is p1 p2 q) fun q => h' pins s σ H x v vl vu lo hi sl Q I rx is p1 p2 q
def xSl (a : XE') (lo hi : XO) : XE' := fun r m => (a r m).bind fun d m1 => (lo r m1).bind fun l m2 => (hi r m2).bind fun h m3 => slD d l h m3
theorem de_sl {lo hi : Option Expr} {fl fh : XO} {p2 : Pos} (ha : DE c W a fa) (hl : DO c W lo fl) (hh : DO c W hi fh) : DE c W (.Subscript a (.Slice lo hi none p2) pos) (xSl fa fl fh) := by
  obtain ⟨t, a1, a2⟩ := ha
  obtain ⟨tl, l1, l2⟩ := hl
  obtain ⟨th, h1, h2⟩ := hh
  refine ⟨tSl (fun x lo hi H Q => (rSlL c.K x lo hi H Q ∨ rSlA c.K x lo hi H Q) ∨ rSlS x lo hi H Q) t tl th, fun y hy => pe_slice (X := c.cx y) ((sl_list.or sl_tupA).or sl_str) (a1 y hy) (l1 y hy) (h1 y hy), fun ρ m σ H F al Q he hw p => ?_⟩
  refine a2 ρ m σ H F al _ he hw (Post.step p fun x m1 v H1 F1 al1 e1 w1 q1 p1 => ?_)
  refine l2 ρ m1 σ H1 F1 al1 _ (he.up e1) w1 (Post.step p1 fun l m2 l' H2 F2 al2 e2 w2 q2 p2 => ?_)
  cases q2
  refine h2 ρ m2 σ H2 F2 al2 _ ((he.up e1).up e2) w2 (Post.step p2 fun h m3 h' H3 F3 al3 e3 w3 q3 p3 => ?_)
  cases q3
  have q1 := (q1.up e2).up e3
  unfold slD at p3
  split at p3
  · cases q1 with
    | @tup q vs _ s r =>
    refine .inl (.inr ⟨q, vs, rfl, sqt_up w3.sub s, fun z => ?_, fun _ n hn => p3 _ _ (upd F3 n _) al3 (ext_new (w3.fnone hn)) (w3.new hn) (.tup (.of upd_same) ((cut_rp r l h).up (ext_new (w3.fnone hn))))⟩)
    have ec : cutV vs l h = vs := by
      unfold cutV
      rw [z.1, z.2, Nat.sub_zero, List.drop_zero, List.take_length]
    have := cut_rp r l h
    rw [ec] at this
    exact p3 _ H3 F3 al3 Le.refl w3 (.tup s this)
  · cases q1
    split at p3
    · rename_i hz
      exact .inr ⟨_, rfl, hz, p3 _ H3 F3 al3 Le.refl w3 (.str _)⟩
    · exact p3.elim
  · split at p3
    · rename_i xs hx
      obtain ⟨q, vs, rfl, s, r⟩ := lstOf_ok w3 q1 hx
      exact .inl (.inl ⟨q, vs, rfl, s, fun n hn => p3 _ _ (upd F3 n _) al3 (ext_new (w3.fnone hn)) (w3.new hn) (.lst upd_same ((cut_rp r l h).up (ext_new (w3.fnone hn))))⟩)
    · exact p3.elim
/-! ### o.f -/
def insOf (m : Mu) : D → Option (Str × List (Str × D))
  | .obj c gs => some (c, gs)
  | .loc n => match m[n]? with
    | some (.ins c gs) => some (c, gs)
    | _ => none
  | _ => none
theorem insOf_ok {K : PySem.W.Frag} {F : Hp} {al : List Addr} {m : Mu} {H : Hp} {d : D} {v : V} {cn : Str} {gs : List (Str × D)} (w : Wd K F al m H) (r : Rp K F al d v) (h : insOf m d = some (cn, gs)) :
    ∃ q dx fs, v = .ref q ∧ H q = some (.ins (He.ga K cn) dx fs) ∧ RpF K F al gs fs := by
  cases r with
  | obj s q => cases h; exact ⟨_, _, _, rfl, w.sub _ _ s, q⟩
  | @loc n a s =>
    unfold insOf at h
    cases e : m[n]? with
    | none => simp [e] at h
    | some cl =>
      cases cl with
      | ins c' gs' =>
        simp [e] at h
        obtain ⟨rfl, rfl⟩ := h
        obtain ⟨_, dx, fs, h1, h2⟩ := w.cell n a _ s e
        exact ⟨a, dx, fs, rfl, h1, h2⟩
      | lst _ => simp [e] at h
      | dct _ => simp [e] at h
      | dead => simp [e] at h
      | tab q => simp [e] at h
  | _ => simp [insOf] at h
def fldD (cn f : Str) (d : D) (m : Mu) : Out D := match insOf m d with
  | some (c', gs) => if c' = cn then (match gs.lookup f with
    | some v => .ok v m
    | none => .stuck) else .stuck
  | none => .stuck
def xFld (cn f : Str) (a : XE') : XE' := fun r m => (a r m).bind (fldD cn f)
theorem de_fld {cn f : Str} (hc : Cls c.K (He.ga c.K cn)) (hn : NoAttr c.K (He.ga c.K cn) f) (ha : DE c W a fa) (hb : ∀ env, attributeBase a f env (eval a env) = eval a env := by intro _; rfl) : DE c W (.Attribute a f pos) (xFld cn f fa) := by
  obtain ⟨t, a1, a2⟩ := ha
  refine ⟨tFld c.K t f, fun y hy => pe_fld (a1 y hy) (hb _), fun ρ m σ H F al Q he hw p => ?_⟩
  refine a2 ρ m σ H F al _ he hw (Post.step p fun x m1 v H1 F1 al1 e1 w1 q1 p1 => ?_)
  unfold fldD at p1
  split at p1
  · rename_i c' gs hi
    split at p1
    · rename_i hc'
      subst hc'
      obtain ⟨q, dx, fs, rfl, h1, h2⟩ := insOf_ok w1 q1 hi
      split at p1
      · rename_i d hd
        obtain ⟨u, h3, h4⟩ := (h2.look (x := f)).2 d hd
        exact ⟨q, _, dx, fs, u, rfl, h1, hc, hn, h3, p1 _ H1 F1 al1 Le.refl w1 h4⟩
      · exact p1.elim
    · exact p1.elim
  · exact p1.elim
/-! ### calls -/
variable {es : List Expr} {fr : XA} {x : Str} {p0 apos : Pos} {k : Nat} {f : Addr} {fd : FuncData} {ps : List Str} {G : Fn}
abbrev FOk (c : SC) (k : Nat) (f : Addr) (fd : FuncData) (ps : List Str) (G : Fn) : Prop := FnOk c.P c.w c.K c.mg c.base (L2.CX c.P c.w) k f fd ps (spOf c.K ps.length G)
def xCall (G : Fn) (a : XA) : XE' := fun r m => (a r m).bind G
theorem de_call (hF : FOk c k f fd ps G) (hm : c.mg x = some (.ref f)) (hk : PySem.W.keepIn c.K (.ref f) = true) (hb : Binds c.K fd ps []) (ha : DA c W (e :: es) fr) (hr : k ≤ c.k := by exact Nat.le_of_ble_eq_true rfl) (hcm : c.calm = true := by rfl) (hl : (e :: es).length = ps.length := by rfl) (hg : c.sc.names.lookup x = some .globalImplicit := by rfl)
    (hdb : (x == ("__debug__" : Str)) = false := by decide) (hs : ∀ env, starEach (e :: es) env = (false, eval e env) :: starEach es env := by intro _; rfl) (hpl : ∀ env, (backTo pos (starEach es env)).any (·.1) = false := by intro _; rfl) : DE c W (.Call (.Name x p0) (e :: es) [] pos) (xCall G fr) := by
  obtain ⟨⟨t, a1, a2⟩, hlen⟩ := ha
  refine ⟨tCallSD (spOf c.K ps.length G) [] (WE W) t, fun y hy => pe_callSD (X := c.cx y) hF (hy.rm hcm hr) (hy.gl hg) hm hk hb .nil (fun σ => passAt hy.takes σ) (a1 y hy) hdb (hs _) (hpl _), fun ρ m σ H F al Q he hw p => ?_⟩
  refine a2 ρ m σ H F al _ he hw (Post.step (p.lenA fun ds m' e => hlen ρ m ds m' e) fun ds m1 vs H1 F1 al1 e1 w1 q1 p1 => ?_)
  split at p1
  · rename_i hn
    exact ⟨ds, m1, F1, al1, hn.trans hl, by rw [List.append_nil]; exact q1, w1, p1⟩
  · exact p1.elim
/-- nothing of the caller's names is asked where an error is wanted -/
def Plain (W : WX) : Prop := ∀ cls d σ σ' H, W cls d σ H → W cls d σ' H
theorem Plain.of (E : XK) : Plain (wOf E) := fun _ _ _ _ _ h => h
abbrev allS (W : WX) : XK := fun cls d H => ∀ σ, W cls d σ H
theorem Plain.post {δ ν : Type} {K : PySem.W.Frag} {R : Hp → List Addr → δ → ν → Prop} (hW : Plain W) {F : Hp} {al : List Addr} {Q : ν → Hp → Prop} {o : Out δ} {σ : L2.St} (p : Post K R (atS W σ) F al Q o) : Post K R (allS W) F al Q o :=
  p.imp (fun _ _ h => h) fun cls d H h σ' => hW cls d σ σ' H h
theorem Plain.back {δ ν : Type} {K : PySem.W.Frag} {R : Hp → List Addr → δ → ν → Prop} {F : Hp} {al : List Addr} {Q : ν → Hp → Prop} {o : Out δ} (σ : L2.St) (p : Post K R (allS W) F al Q o) : Post K R (atS W σ) F al Q o :=
  p.imp (fun _ _ h => h) fun cls d H h => h σ
theorem OkD.passes {y : Dyn} (hy : OkD c W y) : Passes (L2.CX c.P c.w) (c.cx y) (allS W) := fun pins σ H s e s' I h => passes_call hy.takes (fun cls d σ H q => q σ) pins σ H s e s' I h
/-! ### calls whose errors are wanted at the caller's names -/
section
variable {X : Cx} {CX : CXT} {k : Nat} {f C : Addr} {fd : FuncData} {ps : List Str} {sp : Sp} {E : L2.St → XK} {m : Str} {pos apos : Pos} {e o : Expr} {es : List Expr} {ta : TE} {t : TA}
def tMethS (C : Addr) (m : Str) (sp : Sp) (E : L2.St → XK) (ta : TE) (t : TA) : TE := fun σ H Q => ta σ H fun w H1 => ∃ a dx fs, w = .ref a ∧ H1 a = some (.ins C dx fs) ∧ fs.lookup m = none ∧ t σ H1 fun vs H2 => sp (w :: vs) H2 Q (E σ)
theorem pe_methS {pl : Sem Bool} (ho : PE X o ta) (hC : Cls X.K C) (hM : Meth X.K C m f) (F : FnOk X.prog X.w X.K X.mg X.base CX k f fd ps sp) (hr : Room k X.A) (hb : Binds X.K fd ps []) (hx : ∀ σ, PassesAt CX X σ (E σ)) (ha : PA X (e :: es) t)
    (hst : starEach (e :: es) X.env = (false, eval e X.env) :: starEach es X.env) (hpl : (backTo pos (starEach es X.env)).any (·.1) = false)
    (ht : eval (.Call (.Attribute o m apos) (e :: es) [] pos) X.env = (do
      let ov ← eval o X.env
      standAt apos.atName
      let (f, first) ← holding [ov] (getMethod ov m pl)
      callWith pos f first (backTo pos (starEach (e :: es) X.env)) (backToKw pos (keywordEach [] X.env)))) : PE X (.Call (.Attribute o m apos) (e :: es) [] pos) (tMethS C m sp E ta t) :=
  ⟨fun pins s σ H Q I h => PySem.W.methodCall_KW (pl := pl) (thn (ho.run pins s σ H _ I h) fun u s1 ⟨w, H1, I1, rw', a, dx, fs, ew, ea, hl, q⟩ => by
    subst ew
    obtain rfl : u = Value.ref a := rw'
    refine getmeth_ok I1 ea hC hM hl (PySem.W.callWith_K (first := [.ref a]) (h₀ := X.base) I.ok.mod.kin hM.kp (thn (ha.run pos pins s1 σ H1 _ I1 q) fun us s2 ⟨vs, H2, I2, r, q2⟩ => ⟨I2.kIn, ?_⟩) hst hpl)
    exact run_fnS (us := .ref a :: us) (vs := .ref a :: vs) F hr hb (hx σ) I2 (.cons rfl r) q2) ht⟩
theorem pe_methS0 {pl : Sem Bool} (ho : PE X o ta) (hC : Cls X.K C) (hM : Meth X.K C m f) (F : FnOk X.prog X.w X.K X.mg X.base CX k f fd ps sp) (hr : Room k X.A) (hb : Binds X.K fd ps []) (hx : ∀ σ, PassesAt CX X σ (E σ))
    (ht : eval (.Call (.Attribute o m apos) [] [] pos) X.env = (do
      let ov ← eval o X.env
      standAt apos.atName
      let (f, first) ← holding [ov] (getMethod ov m pl)
      callWith pos f first (backTo pos (starEach [] X.env)) (backToKw pos (keywordEach [] X.env)))) : PE X (.Call (.Attribute o m apos) [] [] pos) (tMethS C m sp E ta tNil) :=
  ⟨fun pins s σ H Q I h => PySem.W.methodCall_KW (pl := pl) (thn (ho.run pins s σ H _ I h) fun u s1 ⟨w, H1, I1, rw', a, dx, fs, ew, ea, hl, q⟩ => by
    subst ew
    obtain rfl : u = Value.ref a := rw'
    exact getmeth_ok I1 ea hC hM hl (PySem.W.callWith_K0 (first := [.ref a]) I1.kIn hM.kp (run_fnS (us := [.ref a]) (vs := [.ref a]) F hr hb (hx σ) I1 (.cons rfl .nil) q))) ht⟩
/-- a new object: B tells how the values are bound -/
theorem run_mkS {pins : List (Addr × Obj)} {σ : L2.St} {H : Hp} {s : Shared} {Q : VK} {us : List Value} {kw : List (Str × Value)} {B : Addr → List Value} {Bv : Addr → List V} (M : Mk X.K C f) (F : FnOk X.prog X.w X.K X.mg X.base CX k f fd ps sp) (hr : Room (k + 1) X.A)
    (hb : ∀ (s : Shared) (x : Addr), X.K.In s.heap → BindsTo s fd ⟨.ref x :: us, kw⟩ (ps.zip (B x))) (hx : PassesAt CX X σ (E σ)) (I : Inv X pins σ H s) (r : ∀ x, Vals (Bv x) (B x))
    (h : ∀ x dx, H x = none → H dx = none → dx ≠ x → sp (Bv x) (upd (upd H dx (.own x)) x (.ins C dx [])) (fun v H2 => v = .non ∧ Q (.ref x) H2) (E σ)) : wpAny (model X.prog X.w) X.A (call (.ref C) us kw) (EP X pins σ Q) X.xe s := by
  have J := Inv.made (C := C) I
  have n1 : H (s.heap.objs.size + 1) = none := I.hok.fresh (Nat.le_succ _)
  have n2 : H s.heap.objs.size = none := I.hok.fresh (Nat.le_refl _)
  refine wpAny_call (make_map (f := f) I.kIn M.makes M.init (beq_iff_eq.mp M.fn) (codeAny_mono (F.run _ X.stack _ _ ⟨Value.ref (s.heap.objs.size + 1) :: us, kw⟩ _ _ _ (E σ) (hr.make C us kw) (J.env0.make C us kw) (hb _ _ J.kIn) (r _)
    (h _ _ n1 n2 (Nat.ne_of_lt (Nat.lt_succ_self _)))) fun y s' q => ?_))
  rcases y with e | (_ | _ | _ | u)
  · exact hx pins _ _ e s' J q
  · exact False.elim q
  · exact False.elim q
  · exact False.elim q
  · obtain ⟨v, H', J3, rv, ev, q3⟩ := J.after q
    subst ev
    exact ⟨rv, ⟨V.ref (s.heap.objs.size + 1), H', J3, rfl, q3⟩⟩
end
/-- o.m(e, ..) -/
def xMeth (cn m : Str) (G : Fn) (o : XE') (a : XA) : XE' := fun r mu => (o r mu).bind fun d m1 => match insOf m1 d with
  | some (c', gs) => if c' = cn ∧ gs.lookup m = none then (a r m1).bind fun ds m2 => G (d :: ds) m2 else .stuck
  | none => .stuck
theorem de_meth {o : Expr} {fo : XE'} {cn m : Str} (hF : FOk c k f fd ps G) (hc : Cls c.K (He.ga c.K cn)) (hm : Meth c.K (He.ga c.K cn) m f) (hb : Binds c.K fd ps []) (ho : DE c W o fo) (ha : DA c W (e :: es) fr) (hr : k ≤ c.k := by exact Nat.le_of_ble_eq_true rfl) (hcm : c.calm = true := by rfl) (hl : (e :: es).length + 1 = ps.length := by rfl)
    (hs : ∀ env, starEach (e :: es) env = (false, eval e env) :: starEach es env := by intro _; rfl) (hpl : ∀ env, (backTo pos (starEach es env)).any (·.1) = false := by intro _; rfl)
    (ht : ∀ env, ∃ pl : Sem Bool, eval (.Call (.Attribute o m apos) (e :: es) [] pos) env = (do
      let ov ← eval o env
      standAt apos.atName
      let (f, first) ← holding [ov] (getMethod ov m pl)
      callWith pos f first (backTo pos (starEach (e :: es) env)) (backToKw pos (keywordEach [] env))) := by intro _; exact ⟨_, rfl⟩) : DE c W (.Call (.Attribute o m apos) (e :: es) [] pos) (xMeth cn m G fo fr) := by
  obtain ⟨to, o1, o2⟩ := ho
  obtain ⟨⟨t, a1, a2⟩, hlen⟩ := ha
  refine ⟨tMethS (He.ga c.K cn) m (spOf c.K ps.length G) (WE W) to t, fun y hy => ?_, fun ρ mu σ H F al Q he hw p => ?_⟩
  · obtain ⟨pl, ht⟩ := ht (c.cx y).env
    exact pe_methS (X := c.cx y) (pl := pl) (o1 y hy) hc hm hF (hy.rm hcm hr) hb (fun σ => passAt hy.takes σ) (a1 y hy) (hs _) (hpl _) ht
  · refine o2 ρ mu σ H F al _ he hw (Post.step p fun d m1 v H1 F1 al1 e1 w1 q1 p1 => ?_)
    split at p1
    · rename_i c' gs hi
      obtain ⟨q, dx, fs, rfl, h1, h2⟩ := insOf_ok w1 q1 hi
      split at p1
      · rename_i hcl
        obtain ⟨rfl, hlk⟩ := hcl
        refine ⟨q, dx, fs, rfl, h1, (h2.look (x := m)).1 hlk, a2 ρ m1 σ H1 F1 al1 _ (he.up e1) w1 (Post.step (p1.lenA fun ds m' e => hlen ρ m1 ds m' e) fun ds m2 vs H2 F2 al2 e2 w2 q2 p2 => ?_)⟩
        split at p2
        · rename_i hn
          exact ⟨d :: ds, m2, F2, al2, by rw [List.length_cons, hn]; exact hl, .cons (q1.up e2) q2, w2, p2⟩
        · exact p2.elim
      · exact p1.elim
    · exact p1.elim
theorem de_meth0 {o : Expr} {fo : XE'} {cn m : Str} (hF : FOk c k f fd ps G) (hc : Cls c.K (He.ga c.K cn)) (hm : Meth c.K (He.ga c.K cn) m f) (hb : Binds c.K fd ps []) (ho : DE c W o fo) (hr : k ≤ c.k := by exact Nat.le_of_ble_eq_true rfl) (hcm : c.calm = true := by rfl) (hl : 1 = ps.length := by rfl)
    (ht : ∀ env, ∃ pl : Sem Bool, eval (.Call (.Attribute o m apos) [] [] pos) env = (do
      let ov ← eval o env
      standAt apos.atName
      let (f, first) ← holding [ov] (getMethod ov m pl)
      callWith pos f first (backTo pos (starEach [] env)) (backToKw pos (keywordEach [] env))) := by intro _; exact ⟨_, rfl⟩) : DE c W (.Call (.Attribute o m apos) [] [] pos) (xMeth cn m G fo xaNil) := by
  obtain ⟨to, o1, o2⟩ := ho
  refine ⟨tMethS (He.ga c.K cn) m (spOf c.K ps.length G) (WE W) to tNil, fun y hy => ?_, fun ρ mu σ H F al Q he hw p => ?_⟩
  · obtain ⟨pl, ht⟩ := ht (c.cx y).env
    exact pe_methS0 (X := c.cx y) (pl := pl) (o1 y hy) hc hm hF (hy.rm hcm hr) hb (fun σ => passAt hy.takes σ) ht
  · refine o2 ρ mu σ H F al _ he hw (Post.step p fun d m1 v H1 F1 al1 e1 w1 q1 p1 => ?_)
    split at p1
    · rename_i c' gs hi
      obtain ⟨q, dx, fs, rfl, h1, h2⟩ := insOf_ok w1 q1 hi
      split at p1
      · rename_i hcl
        obtain ⟨rfl, hlk⟩ := hcl
        exact ⟨q, dx, fs, rfl, h1, (h2.look (x := m)).1 hlk, [d], m1, F1, al1, hl, .cons q1 .nil, w1, p1⟩
      · exact p1.elim
    · exact p1.elim
/-- o.p, a property -/
def xProp (cn : Str) (G : Fn) (o : XE') : XE' := fun r mu => (o r mu).bind fun d m1 => match insOf m1 d with
  | some (c', _) => if c' = cn then (match G [d] m1 with
    | .exc _ _ _ => .stuck
    | q => q) else .stuck
  | none => .stuck
theorem de_prop {o : Expr} {fo : XE'} {cn m : Str} {pr : Addr} (hF : FOk c k f fd ps G) (hc : Cls c.K (He.ga c.K cn)) (hp : PropOf c.K (He.ga c.K cn) m pr f) (hb : Binds c.K fd ps []) (ho : DE c W o fo) (hr : k + 1 ≤ c.k := by exact Nat.le_of_ble_eq_true rfl) (hcm : c.calm = true := by rfl) (hl : 1 = ps.length := by rfl)
    (hab : ∀ env, attributeBase o m env (eval o env) = eval o env := by intro _; rfl) : DE c W (.Attribute o m pos) (xProp cn G fo) := by
  obtain ⟨to, o1, o2⟩ := ho
  refine ⟨tProp (He.ga c.K cn) (spOf c.K ps.length G) [] (fun _ _ _ => False) to, fun y hy => ?_, fun ρ mu σ H F al Q he hw p => ?_⟩
  · refine pe_prop (X := c.cx y) (o1 y hy) hc hp hF (hy.rm hcm hr) hb .nil (fun pins σ H s e s' I h => ?_) (hab _)
    obtain ⟨_, _, _, _, _, _, _, _, _, _, _, _, _, _, _, _, q⟩ := XE.of_call (W := fun _ _ _ _ => False) I (fun _ _ _ h => h) h
    exact q
  · refine o2 ρ mu σ H F al _ he hw (Post.step p fun d m1 v H1 F1 al1 e1 w1 q1 p1 => ?_)
    split at p1
    · rename_i c' gs hi
      obtain ⟨q, dx, fs, rfl, h1, h2⟩ := insOf_ok w1 q1 hi
      split at p1
      · rename_i hcl
        subst hcl
        refine ⟨q, dx, fs, rfl, h1, [d], m1, F1, al1, hl, .cons q1 .nil, w1, ?_⟩
        cases e : G [d] m1 with
        | ok d' m' => rw [e] at p1; exact p1
        | exc _ _ _ => rw [e] at p1; exact p1.elim
        | stuck => rw [e] at p1; exact p1.elim
      · exact p1.elim
    · exact p1.elim
/-- C(e, ..): a new object -/
def madeD (cn : Str) (frz : Bool) (n : Nat) (d : D) (m2 : Mu) : Out D := match d with
  | .non => (match m2[n]? with
    | some (.ins c' gs) => if c' = cn then (if frz then .ok (.obj cn gs) (m2.take n) else .ok (.loc n) m2) else .stuck
    | _ => .stuck)
  | _ => .stuck
def makeD (cn : Str) (G : Fn) (frz : Bool) (ds : List D) (m1 : Mu) : Out D := (G (.loc m1.length :: ds) (m1 ++ [.ins cn []])).bind (madeD cn frz m1.length)
def xMake (cn : Str) (G : Fn) (frz : Bool) (a : XA) : XE' := fun r m => (a r m).bind (makeD cn G frz)
theorem make_ok {K : PySem.W.Frag} {E : XK} {F : Hp} {al : List Addr} {m : Mu} {H : Hp} {Q : VK} {cn : Str} {n : Nat} {frz : Bool} {ds : List D} {vs : List V} (hl : ds.length + 1 = n) (w : Wd K F al m H) (r : RpL K F al ds vs) (p : Post K (RD K) E F al Q (makeD cn G frz ds m)) (x dx : Addr) (hx : H x = none) (hdx : H dx = none) (hne : dx ≠ x) :
    spOf K n G (.ref x :: vs) (upd (upd H dx (.own x)) x (.ins (He.ga K cn) dx [])) (fun v H2 => v = .non ∧ Q (.ref x) H2) E := by
  have w1 : Wd K F al m (upd H dx (.own x)) := w.junk hdx
  have hx1 : upd H dx (.own x) x = none := by rw [upd_ne (Ne.symm hne)]; exact hx
  have w2 : Wd K F (al ++ [x]) (m ++ [.ins cn []]) (upd (upd H dx (.own x)) x (.ins (He.ga K cn) dx [])) := w1.newCell hx1 ⟨w.fnone hx, dx, [], upd_same, .nil⟩ rfl
  have hlast : (al ++ [x])[m.length]? = some x := by rw [← w.len, List.getElem?_append_right (Nat.le_refl _), Nat.sub_self]; rfl
  refine ⟨.loc m.length :: ds, m ++ [.ins cn []], F, al ++ [x], by rw [List.length_cons]; exact hl, .cons (.loc hlast) (r.up Le.snoc), w2, ?_⟩
  unfold makeD at p
  cases e : G (.loc m.length :: ds) (m ++ [.ins cn []]) with
  | stuck => rw [e] at p; exact p.elim
  | exc c' fs' m' =>
    rw [e] at p
    exact fun dd H' F' al' gs e' => p dd H' F' al' gs (Le.snoc.trans e')
  | ok d m2 =>
    rw [e] at p
    intro v H2 F2 al2 e2 w3 q3
    have e3 : Le F al F2 al2 := Le.snoc.trans e2
    have hx2 : al2[m.length]? = some x := e2.a _ _ hlast
    have p3 : Post K (RD K) E F al Q (madeD cn frz m.length d m2) := p
    unfold madeD at p3
    cases q3 with
    | non =>
      refine ⟨rfl, ?_⟩
      simp only at p3
      split at p3
      · rename_i c' gs hcell
        split at p3
        · rename_i hc
          subst hc
          obtain ⟨hf, dx', fs, h1, h2⟩ := w3.cell _ _ _ hx2 hcell
          cases frz with
          | true =>
            have hg : D.inF m.length gs = true := w3.gen _ _ hcell
            exact p3 _ H2 (upd F2 x (.ins (He.ga K c') dx' fs)) (al2.take m.length) ((e3.trans (ext_new hf)).cut (Nat.le_of_eq w.len)) (w3.frz hx2 h1 hf (Nat.le_refl _)) (.obj upd_same ((h2.cut hg).up (ext_new hf)))
          | false => exact p3 _ H2 F2 al2 e3 w3 (.loc hx2)
        · exact p3.elim
      · exact p3.elim
    | _ => exact p3.elim
def tMakeS (C : Addr) (sp : Sp) (dvs : List V) (n : Nat) (E : L2.St → XK) (t : TA) : TE := fun σ H Q => t σ H fun vs H1 => vs.length + dvs.length + 1 = n ∧ ∀ x dx, H1 x = none → H1 dx = none → dx ≠ x → sp (.ref x :: (vs ++ dvs)) (upd (upd H1 dx (.own x)) x (.ins C dx [])) (fun v H2 => v = .non ∧ Q (.ref x) H2) (E σ)
theorem pe_makeS {X : Cx} {CX : CXT} {f C : Addr} {sp : Sp} {E : L2.St → XK} {p : Pos} {t : TA} {ds : List Value} {dvs : List V} (M : Mk X.K C f) (F : FnOk X.prog X.w X.K X.mg X.base CX k f fd ps sp) (hr : Room (k + 1) X.A) (hg : Gl X x) (hm : X.mg x = some (.ref C)) (hb : Binds X.K fd ps ds) (hd : Vals dvs ds) (hx : ∀ σ, PassesAt CX X σ (E σ)) (ha : PA X (e :: es) t)
    (hdb : (x == ("__debug__" : Str)) = false) (he : starEach (e :: es) X.env = (false, eval e X.env) :: starEach es X.env) (hpl : (backTo pos (starEach es X.env)).any (·.1) = false) : PE X (.Call (.Name x p) (e :: es) [] pos) (tMakeS C sp dvs ps.length E t) := by
  refine ⟨fun pins s σ H Q I h => wpAny_Call_Name_kw (ld_glob I hg hm ?_ hdb)⟩
  refine PySem.W.callWith_K (h₀ := X.base) I.ok.mod.kin M.kp (thn (ha.run pos pins s σ H _ I h) fun us s1 ⟨vs, H1, I1, r, hn, q⟩ => ⟨I1.kIn, ?_⟩) he hpl
  refine run_mkS (B := fun z => .ref z :: us ++ ds) (Bv := fun z => .ref z :: (vs ++ dvs)) M F hr (fun s2 z kI => hb s2 (.ref z :: us) kI ?_) (hx σ) I1 (fun z => .cons rfl (r.append hd)) q
  have l1 := r.length
  have l2 := hd.length
  show (us ++ ds).length + 1 = ps.length
  rw [List.length_append]
  omega
theorem de_make {cn : Str} {frz : Bool} (hF : FOk c k f fd ps G) (hM : Mk c.K (He.ga c.K cn) f) (hm : c.mg x = some (.ref (He.ga c.K cn))) (hb : Binds c.K fd ps []) (ha : DA c W (e :: es) fr) (hr : k + 1 ≤ c.k := by exact Nat.le_of_ble_eq_true rfl) (hcm : c.calm = true := by rfl) (hl : (e :: es).length + 1 = ps.length := by rfl) (hg : c.sc.names.lookup x = some .globalImplicit := by rfl)
    (hdb : (x == ("__debug__" : Str)) = false := by decide) (hs : ∀ env, starEach (e :: es) env = (false, eval e env) :: starEach es env := by intro _; rfl) (hpl : ∀ env, (backTo pos (starEach es env)).any (·.1) = false := by intro _; rfl) : DE c W (.Call (.Name x p0) (e :: es) [] pos) (xMake cn G frz fr) := by
  obtain ⟨⟨t, a1, a2⟩, hlen⟩ := ha
  refine ⟨tMakeS (He.ga c.K cn) (spOf c.K ps.length G) [] ps.length (WE W) t, fun y hy => pe_makeS (X := c.cx y) hM hF (hy.rm hcm hr) (hy.gl hg) hm hb .nil (fun σ => passAt hy.takes σ) (a1 y hy) hdb (hs _) (hpl _), fun ρ m σ H F al Q he hw p => ?_⟩
  refine a2 ρ m σ H F al _ he hw (Post.step (p.lenA fun ds m' e => hlen ρ m ds m' e) fun ds m1 vs H1 F1 al1 e1 w1 q1 p1 => ?_)
  split at p1
  · rename_i hn
    refine ⟨by rw [← q1.len, hn]; exact hl, fun x dx hx hdx hne => ?_⟩
    rw [List.append_nil]
    exact make_ok (by rw [hn]; exact hl) w1 q1 p1 x dx hx hdx hne
  · exact p1.elim
end
end DS

namespace DS
open PySem PySem.Spec PyProof.Rows L2
section
variable {c : SC} {W : WX} {pos : Pos} {a b e : Expr} {fa fb fe : XE'} {ft : XT} {st : Stmt} {rest sa sb : List Stmt} {g u v : XS}
/-! ### blocks, small statements -/
def sNil : XS := fun r m => .next r m
def sSeq (f g : XS) : XS := fun r m => match f r m with
  | .next r' m' => g r' m'
  | o => o
theorem dss_nil : DSs c W [] sNil := ⟨tNext, fun _ _ => pss_nil, fun r m σ H F al E he hw p => p σ H F al Le.refl hw he⟩
theorem dss_one (h : DSt c W st g) : DSs c W [st] g := by
  obtain ⟨t, h1, h2⟩ := h
  exact ⟨t, fun y hy => pss_one (h1 y hy), h2⟩
theorem dss_cons (h : DSt c W st g) (h' : DSs c W rest u) : DSs c W (st :: rest) (sSeq g u) := by
  obtain ⟨t, h1, h2⟩ := h
  obtain ⟨t', h1', h2'⟩ := h'
  refine ⟨tSeq t t', fun y hy => pss_cons (h1 y hy) (h1' y hy), fun r m σ H F al E he hw p => ?_⟩
  refine h2 r m σ H F al { E with nx := t' E } he hw ?_
  unfold sSeq at p
  cases q : g r m with
  | next r' m' =>
    rw [q] at p
    exact fun σ' H' F' al' e w' he' => h2' r' m' σ' H' F' al' E he' w' (p.up e)
  | brk r' m' => rw [q] at p; exact p
  | cont r' m' => rw [q] at p; exact p
  | ret d m' => rw [q] at p; exact p
  | exc _ _ _ _ => rw [q] at p; exact p
  | stuck => rw [q] at p; exact p
theorem ds_pass : DSt c W (.Pass pos) sNil := ⟨tNext, fun _ _ => ps_pass, fun r m σ H F al E he hw p => p σ H F al Le.refl hw he⟩
theorem ds_cont : DSt c W (.Continue pos) (fun r m => .cont r m) := ⟨_, fun _ _ => ps_continue, fun r m σ H F al E he hw p => p σ H F al Le.refl hw he⟩
def sNever : XS := fun _ _ => .stuck
theorem ds_never : DSt c W st sNever := ⟨tNever, fun _ _ => ps_never, fun r m σ H F al E he hw p => p.elim⟩
theorem dss_never {sts : List Stmt} : DSs c W sts sNever := ⟨tNever, fun _ _ => pss_never, fun r m σ H F al E he hw p => p.elim⟩
def sExpr (f : XE') : XS := fun r m => (f r m).stm r fun _ m1 => .next r m1
theorem ds_expr (h : DE c W e fe) (hs : ∀ env, swapsWith e none pos.line env = pure false := by intro _; rfl) : DSt c W (.Expr e pos) (sExpr fe) := by
  obtain ⟨t, h1, h2⟩ := h
  refine ⟨tDrop t, fun y hy => ps_expr (h1 y hy) (hs _), fun r m σ H F al E he hw p => ?_⟩
  exact h2 r m σ H F al _ he hw (PostS.step he p fun d m1 v H1 F1 al1 e1 w1 q1 p1 => p1 σ H1 F1 al1 Le.refl w1 (he.up e1))
def sRet (f : XE') : XS := fun r m => (f r m).stm r fun d m1 => .ret d m1
theorem ds_ret (h : DE c W e fe) : DSt c W (.Return (some e) pos) (sRet fe) := by
  obtain ⟨t, h1, h2⟩ := h
  refine ⟨tRet t, fun y hy => ps_ret (h1 y hy), fun r m σ H F al E he hw p => ?_⟩
  exact h2 r m σ H F al _ he hw (PostS.step he p fun d m1 v H1 F1 al1 e1 w1 q1 p1 => p1 v H1 F1 al1 Le.refl w1 q1)
def sIf (t : XT) (f g : XS) : XS := fun r m => (t r m).stm r fun k m1 => if k then f r m1 else g r m1
theorem ds_if (ht : DT c W e ft) (ha : DSs c W sa u) (hb : DSs c W sb v) : DSt c W (.If e sa sb pos) (sIf ft u v) := by
  obtain ⟨t, t1, t2⟩ := ht
  obtain ⟨ta, a1, a2⟩ := ha
  obtain ⟨tb, b1, b2⟩ := hb
  refine ⟨tIfS t ta tb, fun y hy => ps_if (t1 y hy) (a1 y hy) (b1 y hy), fun r m σ H F al E he hw p => ?_⟩
  refine t2 r m σ H F al _ he hw (PostS.step he p fun k m1 k' H1 F1 al1 e1 w1 q1 p1 => ?_)
  cases q1
  cases k with
  | true => exact a2 r m1 σ H1 F1 al1 E (he.up e1) w1 p1
  | false => exact b2 r m1 σ H1 F1 al1 E (he.up e1) w1 p1

/-! ### targets -/
abbrev XG := D → Rho → Mu → Out Rho
abbrev XGs := List D → Rho → Mu → Out Rho
/-- names' values, all but the slots vs as before -/
abbrev RE (K : PySem.W.Frag) (vs : List Nat) (σ : L2.St) : Hp → List Addr → Rho → L2.St → Prop := fun F al r σ' => EnvOk K F al r σ' ∧ wipe σ' vs = wipe σ vs
def DG (c : SC) (W : WX) (vs : List Nat) (tg : Expr) (g : XG) : Prop := ∃ t : TG, (∀ y, OkD c W y → PG (c.cx y) tg t) ∧
  ∀ d x r m σ H F al Q, EnvOk c.K F al r σ → Wd c.K F al m H → Rp c.K F al d x → Post c.K (RE c.K vs σ) (atS W σ) F al Q (g d r m) → t x σ H Q
def DGs (c : SC) (W : WX) (vs : List Nat) (tg : List Expr) (g : XGs) : Prop := ∃ t : TGs, (∀ y, OkD c W y → PGs (c.cx y) tg t) ∧
  ∀ ds xs r m σ H F al Q, EnvOk c.K F al r σ → Wd c.K F al m H → RpL c.K F al ds xs → Post c.K (RE c.K vs σ) (atS W σ) F al Q (g ds r m) → t xs σ H Q
theorem wipe_set {i : Nat} {x : Option V} : ∀ {vs : List Nat} {σ : L2.St}, i ∈ vs → wipe (σ.set i x) vs = wipe σ vs
  | [], _, h => by simp at h
  | v :: vs, σ, h => by
    unfold wipe
    rcases List.mem_cons.mp h with e | h
    · subst e
      by_cases hi : i ∈ vs
      · rw [wipe_set hi]
      · have wn : ∀ (vs : List Nat) (σ : L2.St), i ∉ vs → (wipe (σ.set i x) vs) = (wipe σ vs).set i x := fun vs => by
          induction vs with
          | nil => intro σ _; rfl
          | cons w ws ih =>
            intro σ hn
            have h1 : i ≠ w := fun z => hn (by simp [z])
            have h2 : i ∉ ws := fun z => hn (by simp [z])
            show (wipe (σ.set i x) ws).set w none = ((wipe σ ws).set w none).set i x
            rw [ih σ h2, List.set_comm _ _ h1]
        rw [wn vs σ hi, List.set_set]
    · rw [wipe_set h]
def gNm (i : Nat) : XG := fun d r m => .ok (r.set i (some d)) m
theorem dg_name (i : Nat) {x : Str} {vs : List Nat} (hN : c.N.Nodup) (hi : c.N[i]? = some x := by rfl) (hx : L2.Loc c.sc x := by first | exact .inl rfl | exact .inr rfl) (hf : c.fnB x = true ∨ c.sc.names.lookup x = some .local := by first | exact .inr rfl | exact .inl rfl) (hv : i ∈ vs := by simp) : DG c W vs (.Name x pos) (gNm i) := by
  refine ⟨gName i, fun y hy => pg_name hN hi (hy.loc hx) ?_, fun d v r m σ H F al Q he hw q p => ?_⟩
  · rcases hf with z | z
    · exact .inl (hy.fn x z)
    · refine .inr ?_
      have e : (c.cx y).env.scope = c.sc := hy.scope
      rw [e]; exact z
  · exact p _ H F al Le.refl hw ⟨he.set i q, wipe_set hv⟩
def gsNil : XGs := fun ds r m => match ds with
  | [] => .ok r m
  | _ => .stuck
def gsCons (g : XG) (gs : XGs) : XGs := fun ds r m => match ds with
  | d :: ds => (g d r m).bind fun r1 m1 => gs ds r1 m1
  | [] => .stuck
theorem dgs_nil {vs : List Nat} : DGs c W vs [] gsNil := by
  refine ⟨gNil, fun y hy => pgs_nil, fun ds xs r m σ H F al Q he hw q p => ?_⟩
  cases q with
  | nil => exact ⟨rfl, p σ H F al Le.refl hw ⟨he, rfl⟩⟩
  | cons _ _ => exact p.elim
theorem dgs_cons {vs : List Nat} {g : XG} {gs : XGs} {es : List Expr} (hW : Plain W) (h : DG c W vs e g) (h' : DGs c W vs es gs) (hs : ∀ env, (assignEach (e :: es) env).map (·.2) = assign e env :: (assignEach es env).map (·.2) := by intro _; rfl) : DGs c W vs (e :: es) (gsCons g gs) := by
  obtain ⟨t, h1, h2⟩ := h
  obtain ⟨t', h1', h2'⟩ := h'
  refine ⟨gCons t t', fun y hy => pgs_cons (h1 y hy) (h1' y hy) (hs _), fun ds xs r m σ H F al Q he hw q p => ?_⟩
  cases q with
  | nil => exact p.elim
  | @cons d v ds vs' q1 q2 =>
    refine ⟨v, vs', rfl, h2 d v r m σ H F al _ he hw q1 (Post.step p fun r1 m1 σ1 H1 F1 al1 e1 w1 qe p1 => ?_)⟩
    refine h2' ds vs' r1 m1 σ1 H1 F1 al1 _ qe.1 w1 (q2.up e1) ?_
    cases o : gs ds r1 m1 with
    | ok r2 m2 => rw [o] at p1; exact fun σ2 H2 F2 al2 e2 w2 q2 => p1 σ2 H2 F2 al2 e2 w2 ⟨q2.1, q2.2.trans qe.2⟩
    | exc cc fs m2 => rw [o] at p1; exact fun dd H' F' al' gs' e' w' r' z => hW _ _ _ _ _ (p1 dd H' F' al' gs' e' w' r' z)
    | stuck => rw [o] at p1; exact p1
def gTp (n : Nat) (g : XGs) : XG := fun d r m => match d with
  | .tup ds => if ds.length = n then g ds r m else .stuck
  | .lst ds => if ds.length = n then g ds r m else .stuck
  | _ => .stuck
theorem PG.or {X : Cx} {tg : Expr} {t t' : TG} (h : PG X tg t) (h' : PG X tg t') : PG X tg (fun v σ H Q => t v σ H Q ∨ t' v σ H Q) :=
  ⟨fun pins s σ H v u Q I r q => q.elim (fun q => h.run pins s σ H v u Q I r q) fun q => h'.run pins s σ H v u Q I r q⟩
theorem dg_tup {vs : List Nat} {es : List Expr} {gs : XGs} {k : Nat} (n : Nat) (h : DGs c W vs es gs) (hn : ∀ env, (assignEach es env).length = n := by intro _; rfl) (hst : ∀ env, (assignEach es env).findIdx? (·.1) = none := by intro _; rfl) (hcm : c.calm = true := by rfl) : DG c W vs (.Tuple es k pos) (gTp n gs) := by
  obtain ⟨t, h1, h2⟩ := h
  refine ⟨fun v σ H Q => gTup c.K n t v σ H Q ∨ gLst c.K n t v σ H Q, fun y hy => PG.or (pg_tup (X := c.cx y) hcm (h1 y hy) (hn _) (hst _)) (pg_lst (X := c.cx y) hcm (h1 y hy) (hn _) (hst _)), fun d x r m σ H F al Q he hw q p => ?_⟩
  unfold gTp at p
  split at p
  · cases q with
    | @tup q' xs _ s q =>
    split at p
    · rename_i hl
      exact .inl ⟨q', xs, rfl, sqt_up hw.sub s, by rw [← q.len]; exact hl, h2 _ _ r m σ H F al Q he hw q p⟩
    · exact p.elim
  · cases q with
    | @lst q' xs _ s q =>
    split at p
    · rename_i hl
      exact .inr ⟨q', xs, rfl, .of (hw.sub _ _ s), by rw [← q.len]; exact hl, h2 _ _ r m σ H F al Q he hw q p⟩
    · exact p.elim
  · exact p.elim
/-- o[i] = .. -/
def setD (o i d : D) (m : Mu) : Out Unit := match o, i with
  | .loc n, .int k => (match m[n]? with
    | some (.lst xs) => (match ixN xs.length k with
      | some j => if d.inB n then .ok () (m.set n (.lst (xs.set j d))) else .stuck
      | none => .stuck)
    | _ => .stuck)
  | _, _ => .stuck
theorem inL_set {n : Nat} {d : D} (hd : d.inB n = true) : ∀ {xs : List D} {j : Nat}, D.inL n xs = true → D.inL n (xs.set j d) = true
  | [], _, _ => by rw [List.set_nil, D.inL]
  | x :: r, 0, h => by
    rw [D.inL, Bool.and_eq_true] at h
    show D.inL n (d :: r) = true
    rw [D.inL, hd, h.2]; rfl
  | x :: r, j + 1, h => by
    rw [D.inL, Bool.and_eq_true] at h
    show D.inL n (x :: r.set j d) = true
    rw [D.inL, h.1, inL_set hd h.2]; rfl
theorem inL_append {n : Nat} : ∀ {xs ys : List D}, D.inL n xs = true → D.inL n ys = true → D.inL n (xs ++ ys) = true
  | [], _, _, h => h
  | x :: r, _, h, h' => by
    rw [D.inL, Bool.and_eq_true] at h
    show D.inL n (x :: (r ++ _)) = true
    rw [D.inL, h.1, inL_append h.2 h']; rfl
def gSb (o i : XE') : XG := fun d r m => (o r m).bind fun ov m1 => (i r m1).bind fun iv m2 => (setD ov iv d m2).bind fun _ m3 => .ok r m3
theorem dg_sub {vs : List Nat} {o i : Expr} {fo fi : XE'} (ho : DE c W o fo) (hi : DE c W i fi) (ha : ∀ env v, assign (.Subscript o i pos) env v = (do
      let ov ← holding [v] (eval o env)
      let iv ← holding [v, ov] (eval i env)
      standAt pos
      holding [v, ov, iv] (setItem ov iv v)
      release [v, ov, iv] []) := by intro _ _; rfl) : DG c W vs (.Subscript o i pos) (gSb fo fi) := by
  obtain ⟨t, h1, h2⟩ := ho
  obtain ⟨t', h1', h2'⟩ := hi
  refine ⟨gSub t t' rSetL, fun y hy => pg_sub (h1 y hy) (h1' y hy) set_list (ha _), fun d x r m σ H F al Q he hw q p => ?_⟩
  refine h2 r m σ H F al _ he hw (Post.step p fun ov m1 ox H1 F1 al1 e1 w1 q1 p1 => ?_)
  refine h2' r m1 σ H1 F1 al1 _ (he.up e1) w1 (Post.step p1 fun iv m2 ix H2 F2 al2 e2 w2 q2 p2 => ?_)
  have he2 := (he.up e1).up e2
  have q := (q.up e1).up e2
  have q1 := q1.up e2
  unfold setD at p2
  cases q1 with
  | @loc n ad s =>
    cases q2 with
    | int kk =>
      simp only at p2
      cases hc : m2[n]? with
      | none => rw [hc] at p2; exact p2.elim
      | some cl =>
        cases cl with
        | lst xs =>
          rw [hc] at p2
          simp only at p2
          cases hj : ixN xs.length kk with
          | none => rw [hj] at p2; exact p2.elim
          | some j =>
            rw [hj] at p2
            simp only at p2
            obtain ⟨hf, ys, h3, h4⟩ := w2.cell n ad _ s hc
            by_cases hb : d.inB n = true
            · rw [if_pos hb] at p2
              have hg : D.inL n xs = true := w2.gen _ _ hc
              exact ⟨ad, ys, kk, j, rfl, rfl, h3, by rw [← h4.len]; exact hj, p2 σ _ F2 al2 Le.refl (w2.write s hf ⟨hf, _, upd_same, h4.set q j⟩ (inL_set hb hg)) ⟨he2, rfl⟩⟩
            · rw [if_neg hb] at p2; exact p2.elim
        | ins _ _ => rw [hc] at p2; exact p2.elim
        | dct _ => rw [hc] at p2; exact p2.elim
        | dead => rw [hc] at p2; exact p2.elim
        | tab _ => rw [hc] at p2; exact p2.elim
    | _ => exact p2.elim
  | _ => exact p2.elim
def sAsg (f : XE') (g : XG) : XS := fun r m => (f r m).stm r fun d m1 => (g d r m1).stm r fun r' m2 => .next r' m2
theorem ds_asg {tg : Expr} {g : XG} (vs : List Nat) (h : DE c W e fe) (hg : DG c W vs tg g) (hs : ∀ env, env.scope = c.sc → swapsWithSole [tg] e pos.line env = pure false := by (intro env h; rfl)) (hw : ∀ env, env.scope = c.sc → swappedStores [tg] e env = pure none := by (intro env h; rfl))
    (ha : ∀ env, (assignEach [tg] env).map (·.2) = [assign tg env] := by intro _; rfl) : DSt c W (.Assign [tg] e pos) (sAsg fe g) := by
  obtain ⟨t, h1, h2⟩ := h
  obtain ⟨t', h1', h2'⟩ := hg
  refine ⟨tAsg t t', fun y hy => ps_asg (h1 y hy) (h1' y hy) (hs _ hy.scope) (hw _ hy.scope) (ha _), fun r m σ H F al E he hw p => ?_⟩
  refine h2 r m σ H F al _ he hw (PostS.step he p fun d m1 x H1 F1 al1 e1 w1 q1 p1 => ?_)
  refine h2' d x r m1 σ H1 F1 al1 _ (he.up e1) w1 q1 (PostS.step (he.up e1) p1 fun r' m2 σ2 H2 F2 al2 e2 w2 q2 p2 => ?_)
  exact p2 σ2 H2 F2 al2 Le.refl w2 q2.1
def sPar (i j : Nat) (a : XA) : XS := fun r m => (a r m).stm r fun ds m1 => match ds with
  | [x, y] => .next ((r.set i (some x)).set j (some y)) m1
  | _ => .stuck
theorem ds_par (i j : Nat) {x y : Str} {fr : XA} {px py pt : Pos} {kt k2 : Nat} {pt2 : Pos} (hN : c.N.Nodup) (h : DA c W [a, b] fr) (hi : c.N[i]? = some x := by rfl) (hj : c.N[j]? = some y := by rfl) (hij : i ≠ j := by decide) (hx : c.sc.names.lookup x = some .local := by rfl) (hy : c.sc.names.lookup y = some .local := by rfl)
    (hsw : ∀ env, env.scope = c.sc → swappedStores [.Tuple [.Name x px, .Name y py] kt pt] (.Tuple [a, b] k2 pt2) env = pure (some [x, y]) := by (intro env h; cases env; cases h; rfl))
    (hs : ∀ env, env.scope = c.sc → swapsWithSole [.Tuple [.Name x px, .Name y py] kt pt] (.Tuple [a, b] k2 pt2) pos.line env = pure false := by (intro env h; rfl)) (hcm : c.calm = true := by rfl) : DSt c W (.Assign [.Tuple [.Name x px, .Name y py] kt pt] (.Tuple [a, b] k2 pt2) pos) (sPar i j fr) := by
  obtain ⟨⟨t, h1, h2⟩, hl⟩ := h
  refine ⟨tPar i j t, fun z hz => ?_, fun r m σ H F al E he hw p => ?_⟩
  · have e : (c.cx z).env.scope = c.sc := hz.scope
    exact ps_par (X := c.cx z) hcm hN hi hj hij (by rw [e]; exact hx) (by rw [e]; exact hy) (h1 z hz) (hsw _ hz.scope) (hs _ hz.scope)
  · refine h2 r m σ H F al _ he hw (PostS.step he p fun ds m1 vs H1 F1 al1 e1 w1 q1 p1 => ?_)
    split at p1
    · cases q1 with
      | cons qa q =>
        cases q with
        | cons qb q =>
          cases q
          exact ⟨_, _, rfl, p1 _ H1 F1 al1 Le.refl w1 (((he.up e1).set i qa).set j qb)⟩
    · exact p1.elim
def sPar3 (i j l : Nat) (a : XA) : XS := fun r m => (a r m).stm r fun ds m1 => match ds with
  | [x, y, z] => .next (((r.set i (some x)).set j (some y)).set l (some z)) m1
  | _ => .stuck
end
end DS

namespace DS
open PySem PySem.Spec PyProof.Rows L2
section
variable {c : SC} {W : WX} {pos : Pos} {a b d e : Expr} {fa fb fe : XE'} {ft : XT} {st : Stmt} {sts : List Stmt} {g u v : XS}
theorem ds_par3 (i j l : Nat) {x y z : Str} {fr : XA} {px py pz pt : Pos} {kt k2 : Nat} {pt2 : Pos} (hN : c.N.Nodup) (h : DA c W [a, b, d] fr) (hi : c.N[i]? = some x := by rfl) (hj : c.N[j]? = some y := by rfl) (hl : c.N[l]? = some z := by rfl) (hij : i ≠ j := by decide) (hil : i ≠ l := by decide) (hjl : j ≠ l := by decide)
    (hx : c.sc.names.lookup x = some .local := by rfl) (hy : c.sc.names.lookup y = some .local := by rfl) (hz : c.sc.names.lookup z = some .local := by rfl)
    (hsw : ∀ env, env.scope = c.sc → swappedStores [.Tuple [.Name x px, .Name y py, .Name z pz] kt pt] (.Tuple [a, b, d] k2 pt2) env = pure (some [x, y, z]) := by (intro env h; cases env; cases h; rfl))
    (hs : ∀ env, env.scope = c.sc → swapsWithSole [.Tuple [.Name x px, .Name y py, .Name z pz] kt pt] (.Tuple [a, b, d] k2 pt2) pos.line env = pure false := by (intro env h; rfl)) (hcm : c.calm = true := by rfl) : DSt c W (.Assign [.Tuple [.Name x px, .Name y py, .Name z pz] kt pt] (.Tuple [a, b, d] k2 pt2) pos) (sPar3 i j l fr) := by
  obtain ⟨⟨t, h1, h2⟩, hln⟩ := h
  refine ⟨tPar3 i j l t, fun q hq => ?_, fun r m σ H F al E he hw p => ?_⟩
  · have e : (c.cx q).env.scope = c.sc := hq.scope
    exact ps_par3 (X := c.cx q) hcm hN hi hj hl hij hil hjl (by rw [e]; exact hx) (by rw [e]; exact hy) (by rw [e]; exact hz) (h1 q hq) (hsw _ hq.scope) (hs _ hq.scope)
  · refine h2 r m σ H F al _ he hw (PostS.step he p fun ds m1 vs H1 F1 al1 e1 w1 q1 p1 => ?_)
    split at p1
    · cases q1 with
      | cons qa q =>
        cases q with
        | cons qb q =>
          cases q with
          | cons qc q =>
            cases q
            exact ⟨_, _, _, rfl, p1 _ H1 F1 al1 Le.refl w1 ((((he.up e1).set i qa).set j qb).set l qc)⟩
    · exact p1.elim
/-! ### o.f = e -/
def putD (f : Str) (d : D) : List (Str × D) → List (Str × D)
  | [] => [(f, d)]
  | (x, y) :: r => if x = f then (x, d) :: r else (x, y) :: putD f d r
theorem put_rp {K : PySem.W.Frag} {F : Hp} {al : List Addr} {f : Str} {q : D} {w : V} (h : Rp K F al q w) : ∀ {gs : List (Str × D)} {fs : List (Str × V)}, RpF K F al gs fs → RpF K F al (putD f q gs) (putF f w fs)
  | _, _, .nil => .cons h .nil
  | _, _, .cons (x := x) r t => by
    unfold putD putF
    by_cases e : x = f
    · rw [if_pos e, if_pos e]; exact .cons h t
    · rw [if_neg e, if_neg e]; exact .cons r (put_rp h t)
theorem put_in {n : Nat} {f : Str} {q : D} (h : q.inB n = true) : ∀ {gs : List (Str × D)}, D.inF n gs = true → D.inF n (putD f q gs) = true
  | [], _ => by unfold putD; rw [D.inF, h, D.inF]; rfl
  | (x, y) :: r, t => by
    rw [D.inF, Bool.and_eq_true] at t
    unfold putD
    split
    · rw [D.inF, h, t.2]; rfl
    · rw [D.inF, t.1, put_in h t.2]; rfl
def putC (cn f : Str) (o q : D) (m : Mu) : Out Unit := match o with
  | .loc n => (match m[n]? with
    | some (.ins c' gs) => if c' = cn ∧ gs.length < 1000 ∧ q.inB n = true then .ok () (m.set n (.ins cn (putD f q gs))) else .stuck
    | _ => .stuck)
  | _ => .stuck
def sFl (cn f : Str) (o v : XE') : XS := fun r m => (v r m).stm r fun q m1 => (o r m1).stm r fun od m2 => (putC cn f od q m2).stm r fun _ m3 => .next r m3
theorem ds_fld {cn f : Str} {o val : Expr} {fo fv : XE'} {pos' : Pos} (hc : Cls c.K (He.ga c.K cn)) (hn : NoAttr c.K (He.ga c.K cn) f) (ho : DE c W o fo) (hv : DE c W val fv) (hs : ∀ env, env.scope = c.sc → swapsWith val (some (.Attribute o f pos')) pos.line env = pure false := by (intro env h; rfl)) : DSt c W (.Assign [.Attribute o f pos'] val pos) (sFl cn f fo fv) := by
  obtain ⟨t, h1, h2⟩ := ho
  obtain ⟨t', h1', h2'⟩ := hv
  refine ⟨sFld c.K t t' f, fun y hy => ps_fld (X := c.cx y) (h1 y hy) (h1' y hy) (hs _ hy.scope), fun r m σ H F al E he hw p => ?_⟩
  refine h2' r m σ H F al _ he hw (PostS.step he p fun q m1 x H1 F1 al1 e1 w1 q1 p1 => ?_)
  refine h2 r m1 σ H1 F1 al1 _ (he.up e1) w1 (PostS.step (he.up e1) p1 fun od m2 ox H2 F2 al2 e2 w2 q2 p2 => ?_)
  have q1 := q1.up e2
  unfold putC at p2
  cases q2 with
  | @loc n ad s =>
    simp only at p2
    cases hcl : m2[n]? with
    | none => rw [hcl] at p2; exact p2.elim
    | some cl =>
      cases cl with
      | ins c' gs =>
        rw [hcl] at p2
        simp only at p2
        obtain ⟨hf, dx, fs, h3, h4⟩ := w2.cell n ad _ s hcl
        by_cases hb : c' = cn ∧ gs.length < 1000 ∧ q.inB n = true
        · rw [if_pos hb] at p2
          obtain ⟨rfl, hl, hq⟩ := hb
          have hg : D.inF n gs = true := w2.gen _ _ hcl
          exact ⟨ad, _, dx, fs, rfl, h3, hc, hn, by rw [← h4.len]; exact hl, p2 σ _ F2 al2 Le.refl (w2.write s hf ⟨hf, dx, _, upd_same, put_rp q1 h4⟩ (put_in hq hg)) ((he.up e1).up e2)⟩
        · rw [if_neg hb] at p2; exact p2.elim
      | lst _ => rw [hcl] at p2; exact p2.elim
      | dct _ => rw [hcl] at p2; exact p2.elim
      | dead => rw [hcl] at p2; exact p2.elim
      | tab _ => rw [hcl] at p2; exact p2.elim
  | _ => exact p2.elim
/-! ### x += e, o.f += e (ints) -/
def sAug (i : Nat) (f : XE') : XS := fun r m => match r[i]? with
  | some (some x) => (f r m).stm r fun y m1 => (match x, y with
    | .int p, .int q => .next (r.set i (some (.int (p + q)))) m1
    | _, _ => .stuck)
  | _ => .stuck
theorem ds_aug (i : Nat) {x : Str} {pos' : Pos} (hN : c.N.Nodup) (h : DE c W e fe) (hi : c.N[i]? = some x := by rfl) (hx : L2.Loc c.sc x := by first | exact .inl rfl | exact .inr rfl) (hf : c.fnB x = true ∨ c.sc.names.lookup x = some .local := by first | exact .inr rfl | exact .inl rfl) : DSt c W (.AugAssign (.Name x pos') .Add e pos) (sAug i fe) := by
  obtain ⟨t, h1, h2⟩ := h
  refine ⟨tAug i t (ipI fun i j => i + j), fun y hy => ps_aug hN hi (hy.loc hx) (h1 y hy) ip_add ?_, fun r m σ H F al E he hw p => ?_⟩
  · rcases hf with z | z
    · exact .inl (hy.fn x z)
    · refine .inr ?_
      have e : (c.cx y).env.scope = c.sc := hy.scope
      rw [e]; exact z
  · unfold sAug at p
    split at p
    · rename_i q hq
      obtain ⟨w, hv, rq⟩ := he.get i q hq
      refine ⟨w, hv, h2 r m σ H F al _ he hw (PostS.step he p fun z m1 x H1 F1 al1 e1 w1 q1 p1 => ?_)⟩
      split at p1
      · cases rq; cases q1
        exact ⟨_, _, rfl, rfl, p1 _ H1 F1 al1 Le.refl w1 ((he.up e1).set i (.int _))⟩
      · exact p1.elim
    · exact p.elim
/-! ### what is walked -/
structure Yld (K : PySem.W.Frag) (J : It) (xs : List D) (F : Hp) (al : List Addr) : Prop where
  go : ∀ (H : Hp) (F' : Hp) (al' : List Addr) (m : Mu) (i : Nat) (d : D), Le F al F' al' → Wd K F' al' m H → xs[i]? = some d →
    J.go i H ∧ ∀ x H', J.yld i H x H' → ∃ F2, Le F' al' F2 al' ∧ Wd K F2 al' m H' ∧ Rp K F2 al' d x
  stop : ∀ (H : Hp) (F' : Hp) (al' : List Addr) (m : Mu) (i : Nat), Le F al F' al' → Wd K F' al' m H → xs.length ≤ i → J.stop i H
def DI (c : SC) (W : WX) (tg iter : Expr) (f : XA) : Prop := ∃ wi : TI, (∀ y, OkD c W y → PI (c.cx y) tg iter wi) ∧
  ∀ r m σ H F al R, EnvOk c.K F al r σ → Wd c.K F al m H → Post c.K (fun F al xs J => Yld c.K J xs F al) (atS W σ) F al R (f r m) → wi σ H R
theorem PI.or {X : Cx} {tg it : Expr} {w w' : TI} (h : PI X tg it w) (h' : PI X tg it w') : PI X tg it (fun σ H R => w σ H R ∨ w' σ H R) :=
  ⟨fun pins s σ H R I q => q.elim (fun q => h.run pins s σ H R I q) fun q => h'.run pins s σ H R I q⟩
theorem SqL.fix {K : PySem.W.Frag} {F F' H : Hp} {al al' : List Addr} {m : Mu} {q : Addr} {vs : List V} (s : SqL K F q vs) (e : Le F al F' al') (w : Wd K F' al' m H) : SqL K H q vs := sql_up w.sub (sql_up e.f s)
theorem SqT.fix {K : PySem.W.Frag} {F F' H : Hp} {al al' : List Addr} {m : Mu} {q : Addr} {vs : List V} (s : SqT K F q vs) (e : Le F al F' al') (w : Wd K F' al' m H) : SqT K H q vs := sqt_up w.sub (sqt_up e.f s)
theorem yld_list {K : PySem.W.Frag} {F : Hp} {al : List Addr} {q : Addr} {vs : List V} {xs : List D} (s : SqL K F q vs) (r : RpL K F al xs vs) : Yld K (Itl K q) xs F al := by
  refine ⟨fun H F' al' m i d e w hd => ?_, fun H F' al' m i e w hi => ⟨vs, SqL.fix s e w, by rw [← r.len]; exact hi⟩⟩
  obtain ⟨x, h1, h2⟩ := r.get hd
  refine ⟨⟨vs, x, SqL.fix s e w, h1⟩, fun y H' hy => ?_⟩
  obtain ⟨rfl, hy⟩ := hy
  have := (hy vs (SqL.fix s e w)).symm.trans h1
  cases this
  exact ⟨F', Le.refl, w, h2.up e⟩
theorem yld_tup {K : PySem.W.Frag} {F : Hp} {al : List Addr} {q : Addr} {vs : List V} {xs : List D} (s : SqT K F q vs) (r : RpL K F al xs vs) : Yld K (Itt K q) xs F al := by
  refine ⟨fun H F' al' m i d e w hd => ?_, fun H F' al' m i e w hi => ⟨vs, SqT.fix s e w, by rw [← r.len]; exact hi⟩⟩
  obtain ⟨x, h1, h2⟩ := r.get hd
  refine ⟨⟨vs, x, SqT.fix s e w, h1⟩, fun y H' hy => ?_⟩
  obtain ⟨rfl, hy⟩ := hy
  have := (hy vs (SqT.fix s e w)).symm.trans h1
  cases this
  exact ⟨F', Le.refl, w, h2.up e⟩
/-- a list or a tuple that stands still, a text -/
def seqD : D → Mu → Out (List D)
  | .lst xs, m => .ok xs m
  | .fix xs, m => .ok xs m
  | .tup xs, m => .ok xs m
  | .str z, m => .ok (z.cps.toList.map fun k => .str ⟨#[k]⟩) m
  | _, _ => .stuck
def xiSeq (f : XE') : XA := fun r m => (f r m).bind seqD
theorem yld_str {K : PySem.W.Frag} {F : Hp} {al : List Addr} {z : Str} : Yld K (Its z) (z.cps.toList.map fun k => .str ⟨#[k]⟩) F al := by
  refine ⟨fun H F' al' m i d e w hd => ?_, fun H F' al' m i e w hi => ?_⟩
  · rw [List.getElem?_map] at hd
    cases hk : z.cps.toList[i]? with
    | none => rw [hk] at hd; cases hd
    | some k =>
      rw [hk] at hd
      cases hd
      have hk' : z.cps[i]? = some k := by rw [← Array.getElem?_toList]; exact hk
      refine ⟨(Array.getElem?_eq_some_iff.mp hk').1, fun x H' hy => ?_⟩
      obtain ⟨rfl, c', h1, rfl⟩ := hy
      rw [hk'] at h1
      cases h1
      exact ⟨F', Le.refl, w, .str _⟩
  · rw [List.length_map, Array.length_toList] at hi
    exact hi
theorem di_seq {tg : Expr} (h : DE c W e fe) : DI c W tg e (xiSeq fe) := by
  obtain ⟨t, h1, h2⟩ := h
  refine ⟨fun σ H R => (iList c.K t σ H R ∨ iTup c.K t σ H R) ∨ iStr t σ H R, fun y hy => PI.or (PI.or (pi_list (X := c.cx y) (h1 y hy)) (pi_tup (X := c.cx y) (h1 y hy))) (pi_str (h1 y hy)), fun r m σ H F al R he hw p => ?_⟩
  unfold xiSeq at p
  cases q : fe r m with
  | stuck => rw [q] at p; exact p.elim
  | exc cc fs m1 =>
    refine .inr (h2 r m σ H F al _ he hw ?_)
    rw [q] at p ⊢
    exact p
  | ok d m1 =>
    cases d with
    | str z =>
      refine .inr (h2 r m σ H F al _ he hw ?_)
      rw [q] at p ⊢
      intro x H1 F1 al1 e1 w1 q1
      cases q1
      exact ⟨z, rfl, p _ H1 F1 al1 e1 w1 yld_str⟩
    | tup xs =>
      refine .inl (.inr (h2 r m σ H F al _ he hw ?_))
      rw [q] at p ⊢
      intro x H1 F1 al1 e1 w1 q1
      cases q1 with
      | @tup q' vs _ s q2 => exact ⟨q', rfl, ⟨vs, sqt_up w1.sub s⟩, p _ H1 F1 al1 e1 w1 (yld_tup s q2)⟩
    | lst xs =>
      refine .inl (.inl (h2 r m σ H F al _ he hw ?_))
      rw [q] at p ⊢
      intro x H1 F1 al1 e1 w1 q1
      cases q1 with
      | @lst q' vs _ s q2 => exact ⟨q', rfl, ⟨vs, .of (w1.sub _ _ s)⟩, p _ H1 F1 al1 e1 w1 (yld_list (.of s) q2)⟩
    | fix xs =>
      refine .inl (.inl (h2 r m σ H F al _ he hw ?_))
      rw [q] at p ⊢
      intro x H1 F1 al1 e1 w1 q1
      cases q1 with
      | @fix q' vs _ s q2 => exact ⟨q', rfl, ⟨vs, sql_up w1.sub s⟩, p _ H1 F1 al1 e1 w1 (yld_list s q2)⟩
    | _ => rw [q] at p; exact p.elim
/-! range -/
def rngL (lo : Int) (n : Nat) : List D := (List.range n).map fun (i : Nat) => .int (lo + (i : Int))
theorem yld_rng {K : PySem.W.Frag} {F : Hp} {al : List Addr} {lo : Int} {n : Nat} : Yld K (Itr lo n) (rngL lo n) F al := by
  refine ⟨fun H F' al' m i d e w hd => ?_, fun H F' al' m i e w hi => ?_⟩
  · unfold rngL at hd
    rw [List.getElem?_map] at hd
    cases hk : (List.range n)[i]? with
    | none => rw [hk] at hd; cases hd
    | some k =>
      rw [hk] at hd
      cases hd
      obtain ⟨h1, h2⟩ := List.getElem?_eq_some_iff.mp hk
      rw [List.length_range] at h1
      rw [List.getElem_range] at h2
      subst h2
      refine ⟨h1, fun x H' hy => ?_⟩
      obtain ⟨rfl, rfl⟩ := hy
      exact ⟨F', Le.refl, w, .int _⟩
  · unfold rngL at hi
    rw [List.length_map, List.length_range] at hi
    exact hi
def rngD1 (ds : List D) (m : Mu) : Out (List D) := match ds with
  | [.int j] => if -(2 ^ 62) ≤ j ∧ j < 2 ^ 62 then .ok (rngL 0 j.toNat) m else .stuck
  | _ => .stuck
def rngD2 (ds : List D) (m : Mu) : Out (List D) := match ds with
  | [.int i, .int j] => if -(2 ^ 62) ≤ i ∧ i < 2 ^ 62 ∧ -(2 ^ 62) ≤ j ∧ j < 2 ^ 62 then .ok (rngL i (j - i).toNat) m else .stuck
  | _ => .stuck
def xiRng1 (f : XA) : XA := fun r m => (f r m).bind rngD1
def xiRng2 (f : XA) : XA := fun r m => (f r m).bind rngD2
theorem di_range1 {tg : Expr} {fr : XA} {p0 : Pos} (hm : c.mg "range" = none) (h : DA c W [a] fr) (hg : c.sc.names.lookup ("range" : Str) = some .globalImplicit := by rfl) (hs : ∀ env, starEach [a] env = [(false, eval a env)] := by intro _; rfl) : DI c W tg (.Call (.Name "range" p0) [a] [] pos) (xiRng1 fr) := by
  obtain ⟨⟨t, h1, h2⟩, _⟩ := h
  refine ⟨iRng1 t, fun y hy => pi_range1 (hy.gl hg) hm (h1 y hy) (hs _), fun r m σ H F al R he hw p => ?_⟩
  refine h2 r m σ H F al _ he hw (Post.step p fun ds m1 vs H1 F1 al1 e1 w1 q1 p1 => ?_)
  unfold rngD1 at p1
  split at p1
  · cases q1 with
    | cons qa q =>
      cases q; cases qa
      split at p1
      · rename_i hb
        exact ⟨_, rfl, hb.1, hb.2, p1 _ H1 F1 al1 Le.refl w1 yld_rng⟩
      · exact p1.elim
  · exact p1.elim
theorem di_range2 {tg : Expr} {fr : XA} {p0 : Pos} (hm : c.mg "range" = none) (h : DA c W [a, b] fr) (hg : c.sc.names.lookup ("range" : Str) = some .globalImplicit := by rfl) (hs : ∀ env, starEach [a, b] env = [(false, eval a env), (false, eval b env)] := by intro _; rfl) (hs2 : ∀ env, starEach [b] env = [(false, eval b env)] := by intro _; rfl) : DI c W tg (.Call (.Name "range" p0) [a, b] [] pos) (xiRng2 fr) := by
  obtain ⟨⟨t, h1, h2⟩, _⟩ := h
  refine ⟨iRng2 t, fun y hy => pi_range2 (hy.gl hg) hm (h1 y hy) (hs _) (hs2 _), fun r m σ H F al R he hw p => ?_⟩
  refine h2 r m σ H F al _ he hw (Post.step p fun ds m1 vs H1 F1 al1 e1 w1 q1 p1 => ?_)
  unfold rngD2 at p1
  split at p1
  · cases q1 with
    | cons qa q =>
      cases q with
      | cons qb q =>
      cases q; cases qa; cases qb
      split at p1
      · rename_i hb
        exact ⟨_, _, rfl, hb, p1 _ H1 F1 al1 Le.refl w1 yld_rng⟩
      · exact p1.elim
  · exact p1.elim
/-! enumerate of a list -/
def enumL : Nat → List D → List D
  | _, [] => []
  | i, x :: r => .tup [.int i, x] :: enumL (i + 1) r
theorem enumL_get : ∀ (xs : List D) (k i : Nat), (enumL k xs)[i]? = xs[i]?.map fun x => .tup [.int ((k + i : Nat) : Int), x]
  | [], _, _ => by simp [enumL]
  | x :: r, k, 0 => by simp [enumL]
  | x :: r, k, i + 1 => by
    rw [enumL, List.getElem?_cons_succ, List.getElem?_cons_succ, enumL_get r (k + 1) i, Nat.add_right_comm, Nat.add_assoc]
theorem enumL_len : ∀ (xs : List D) (k : Nat), (enumL k xs).length = xs.length
  | [], _ => rfl
  | _ :: r, k => by rw [enumL, List.length_cons, List.length_cons, enumL_len r]
theorem yld_enum {K : PySem.W.Frag} {F : Hp} {al : List Addr} {q : Addr} {vs : List V} {xs : List D} (s : SqL K F q vs) (r : RpL K F al xs vs) : Yld K (Ite K q) (enumL 0 xs) F al := by
  refine ⟨fun H F' al' m i d e w hd => ?_, fun H F' al' m i e w hi => ⟨vs, SqL.fix s e w, by rw [← r.len, ← enumL_len xs 0]; exact hi⟩⟩
  rw [enumL_get] at hd
  cases hx : xs[i]? with
  | none => rw [hx] at hd; cases hd
  | some z =>
    rw [hx] at hd
    cases hd
    obtain ⟨x, h1, h2⟩ := r.get hx
    refine ⟨⟨vs, x, SqL.fix s e w, h1⟩, fun y H' hy => ?_⟩
    obtain ⟨T, x', rfl, hT, rfl, hy⟩ := hy
    have := (hy vs (SqL.fix s e w)).symm.trans h1
    cases this
    have hf := w.fnone hT
    refine ⟨upd F' T _, ext_new hf, w.new hT, .tup (.of upd_same) (.cons ?_ (.cons ((h2.up e).up (ext_new hf)) .nil))⟩
    rw [Nat.zero_add]
    exact .int _
def enumD (ds : List D) (m : Mu) : Out (List D) := match ds with
  | [.lst xs] => .ok (enumL 0 xs) m
  | [.fix xs] => .ok (enumL 0 xs) m
  | _ => .stuck
def xiEnum (f : XA) : XA := fun r m => (f r m).bind enumD
theorem di_enum {fr : XA} {p0 tpos : Pos} {elts : List Expr} {kk : Nat} (hm : c.mg "enumerate" = none) (h : DA c W [e] fr) (hg : c.sc.names.lookup ("enumerate" : Str) = some .globalImplicit := by rfl) (hs : ∀ env, starEach [e] env = [(false, eval e env)] := by intro _; rfl) : DI c W (.Tuple elts kk tpos) (.Call (.Name "enumerate" p0) [e] [] pos) (xiEnum fr) := by
  obtain ⟨⟨t, h1, h2⟩, _⟩ := h
  refine ⟨iEnum c.K t, fun y hy => pi_enum (hy.gl hg) hm (h1 y hy) (hs _), fun r m σ H F al R he hw p => ?_⟩
  refine h2 r m σ H F al _ he hw (Post.step p fun ds m1 vs H1 F1 al1 e1 w1 q1 p1 => ?_)
  unfold enumD at p1
  split at p1
  · cases q1 with
    | cons qa q =>
      cases q
      cases qa with
      | @lst q' xs _ s q2 => exact ⟨q', xs, rfl, .of (w1.sub _ _ s), p1 _ H1 F1 al1 Le.refl w1 (yld_enum (.of s) q2)⟩
  · cases q1 with
    | cons qa q =>
      cases q
      cases qa with
      | @fix q' xs _ s q2 => exact ⟨q', xs, rfl, sql_up w1.sub s, p1 _ H1 F1 al1 Le.refl w1 (yld_enum s q2)⟩
  · exact p1.elim
/-! zip of two lists -/
def zipL : List D → List D → List D
  | x :: r, y :: s => .tup [x, y] :: zipL r s
  | _, _ => []
theorem zipL_get : ∀ (xs ys : List D) (i : Nat), (zipL xs ys)[i]? = match xs[i]?, ys[i]? with
    | some x, some y => some (.tup [x, y])
    | _, _ => none
  | [], ys, i => by simp [zipL]
  | x :: r, [], i => by
    simp only [zipL, List.getElem?_nil]
    cases (x :: r)[i]? <;> rfl
  | x :: r, y :: s, 0 => by simp [zipL]
  | x :: r, y :: s, i + 1 => by
    simp only [zipL, List.getElem?_cons_succ]
    exact zipL_get r s i
theorem zipL_len : ∀ (xs ys : List D), (zipL xs ys).length = min xs.length ys.length
  | [], _ => by simp [zipL]
  | _ :: _, [] => by simp [zipL]
  | _ :: r, _ :: s => by simp only [zipL, List.length_cons, zipL_len r s]; omega
theorem yld_zip {K : PySem.W.Frag} {F : Hp} {al : List Addr} {q q' : Addr} {vs ws : List V} {xs ys : List D} (s : SqL K F q vs) (r : RpL K F al xs vs) (s' : SqL K F q' ws) (r' : RpL K F al ys ws) : Yld K (Itz K q q') (zipL xs ys) F al := by
  refine ⟨fun H F' al' m i d e w hd => ?_, fun H F' al' m i e w hi => ⟨vs, ws, SqL.fix s e w, SqL.fix s' e w, ?_⟩⟩
  · rw [zipL_get] at hd
    cases hx : xs[i]? with
    | none => rw [hx] at hd; cases hd
    | some z =>
      cases hy : ys[i]? with
      | none => rw [hx, hy] at hd; cases hd
      | some z' =>
        rw [hx, hy] at hd
        cases hd
        obtain ⟨x, h1, h2⟩ := r.get hx
        obtain ⟨x', h1', h2'⟩ := r'.get hy
        refine ⟨⟨vs, ws, x, x', SqL.fix s e w, SqL.fix s' e w, h1, h1'⟩, fun y H' hy => ?_⟩
        obtain ⟨T, y1, y2, rfl, hT, rfl, hy1, hy2⟩ := hy
        have t1 := (hy1 vs (SqL.fix s e w)).symm.trans h1
        have t2 := (hy2 ws (SqL.fix s' e w)).symm.trans h1'
        cases t1; cases t2
        have hf := w.fnone hT
        exact ⟨upd F' T _, ext_new hf, w.new hT, .tup (.of upd_same) (.cons ((h2.up e).up (ext_new hf)) (.cons ((h2'.up e).up (ext_new hf)) .nil))⟩
  · rw [zipL_len] at hi
    rw [← r.len, ← r'.len]
    omega
def zipD (ds : List D) (m : Mu) : Out (List D) := match ds with
  | [.lst xs, .lst ys] => .ok (zipL xs ys) m
  | _ => .stuck
def xiZip (f : XA) : XA := fun r m => (f r m).bind zipD
theorem di_zip {fr : XA} {p0 tpos : Pos} {elts : List Expr} {kk : Nat} (hm : c.mg "zip" = none) (h : DA c W [a, b] fr) (hg : c.sc.names.lookup ("zip" : Str) = some .globalImplicit := by rfl) (hs : ∀ env, starEach [a, b] env = (false, eval a env) :: starEach [b] env := by intro _; rfl) (hpl : ∀ env, (backTo pos (starEach [b] env)).any (·.1) = false := by intro _; rfl) : DI c W (.Tuple elts kk tpos) (.Call (.Name "zip" p0) [a, b] [] pos) (xiZip fr) := by
  obtain ⟨⟨t, h1, h2⟩, _⟩ := h
  refine ⟨iZip c.K t, fun y hy => pi_zip (hy.gl hg) hm (h1 y hy) (hs _) (hpl _), fun r m σ H F al R he hw p => ?_⟩
  refine h2 r m σ H F al _ he hw (Post.step p fun ds m1 vs H1 F1 al1 e1 w1 q1 p1 => ?_)
  unfold zipD at p1
  split at p1
  · cases q1 with
    | cons qa q =>
      cases q with
      | cons qb q =>
      cases q
      cases qa with
      | @lst q' xs _ s q2 =>
      cases qb with
      | @lst q'' xs' _ s' q2' => exact ⟨q', q'', xs, xs', rfl, .of (w1.sub _ _ s), .of (w1.sub _ _ s'), p1 _ H1 F1 al1 Le.refl w1 (yld_zip (.of s) q2 (.of s') q2')⟩
  · exact p1.elim
/-! ### for -/
def loopF (g : XG) (body : XS) : List D → Rho → Mu → SO
  | [], r, m => .next r m
  | x :: xs, r, m => (g x r m).stm r fun r1 m1 => match body r1 m1 with
    | .next r2 m2 => loopF g body xs r2 m2
    | .cont r2 m2 => loopF g body xs r2 m2
    | .brk r2 m2 => .next r2 m2
    | o => o
def sFor (f : XA) (g : XG) (body : XS) : XS := fun r m => (f r m).stm r fun xs m1 => loopF g body xs r m1
theorem ds_for {tg it : Expr} {fi : XA} {gt : XG} (vs : List Nat) (hi : DI c W tg it fi) (hg : DG c W vs tg gt) (hb : DSs c W sts g) (hs : ∀ env x, foldedSetIterable it env x = pure x := by intro _ _; rfl) (hcm : c.calm = true := by rfl) : DSt c W (.For tg it sts [] pos) (sFor fi gt g) := by
  obtain ⟨wi, i1, i2⟩ := hi
  obtain ⟨tg', g1, g2⟩ := hg
  obtain ⟨tb, b1, b2⟩ := hb
  refine ⟨tFor wi tg' tb, fun y hy => ps_for hy.own hcm (i1 y hy) (g1 y hy) (b1 y hy) (hs _), fun r m σ H F al E he hw p => ?_⟩
  refine i2 r m σ H F al _ he hw (PostS.step he p fun xs m1 J H1 F1 al1 e1 w1 q1 p1 => ?_)
  refine ⟨fun i k σ' H' => ∃ r' m' F' al', k = xs.length - i ∧ i ≤ xs.length ∧ Le F1 al1 F' al' ∧ Wd c.K F' al' m' H' ∧ EnvOk c.K F' al' r' σ' ∧ PostS c.K W F' al' E (loopF gt g (xs.drop i) r' m'),
    ⟨xs.length, r, m1, F1, al1, rfl, Nat.zero_le _, Le.refl, w1, he.up e1, p1⟩, ?_⟩
  rintro i k σ' H' ⟨r', m', F', al', rfl, hi, e', w', he', p'⟩
  by_cases hlt : i < xs.length
  · have hd : xs[i]? = some xs[i] := List.getElem?_eq_getElem hlt
    obtain ⟨hgo, hyl⟩ := q1.go H' F' al' m' i xs[i] e' w' hd
    refine .inr ⟨hgo, fun σ2 H2 => ∃ r2 m2 F2 al2, Le F1 al1 F2 al2 ∧ Wd c.K F2 al2 m2 H2 ∧ EnvOk c.K F2 al2 r2 σ2 ∧ PostS c.K W F2 al2 E (loopF gt g (xs.drop (i + 1)) r2 m2), fun σ2 H2 ⟨r2, m2, F2, al2, z1, z2, z3, z4⟩ => ⟨xs.length - (i + 1), by omega, r2, m2, F2, al2, rfl, hlt, z1, z2, z3, z4⟩, fun x H2 hy => ?_⟩
    obtain ⟨F2, e2, w2, q2⟩ := hyl x H2 hy
    rw [List.drop_eq_getElem_cons hlt] at p'
    refine g2 xs[i] x r' m' σ' H2 F2 al' _ (he'.up e2) w2 q2 (PostS.step (he'.up e2) (p'.up e2) fun r3 m3 σ3 H3 F3 al3 e3 w3 q3 p3 => ?_)
    refine b2 r3 m3 σ3 H3 F3 al3 _ q3.1 w3 ?_
    have up3 := (e'.trans e2).trans e3
    cases o : g r3 m3 with
    | next r4 m4 => rw [o] at p3; exact fun σ4 H4 F4 al4 e4 w4 he4 => ⟨r4, m4, F4, al4, up3.trans e4, w4, he4, p3.up e4⟩
    | cont r4 m4 => rw [o] at p3; exact fun σ4 H4 F4 al4 e4 w4 he4 => ⟨r4, m4, F4, al4, up3.trans e4, w4, he4, p3.up e4⟩
    | brk r4 m4 => rw [o] at p3; exact p3
    | ret d m4 => rw [o] at p3; exact p3
    | exc _ _ _ _ => rw [o] at p3; exact p3
    | stuck => rw [o] at p3; exact p3
  · have ei : i = xs.length := by omega
    subst ei
    rw [List.drop_length] at p'
    exact .inl ⟨q1.stop H' F' al' m' _ e' w' (Nat.le_refl _), p' σ' H' F' al' Le.refl w' he'⟩
/-! ### while -/
def loopW (t : XT) (body : XS) : Nat → Rho → Mu → SO
  | 0, _, _ => .stuck
  | n + 1, r, m => (t r m).stm r fun k m1 => if k then (match body r m1 with
    | .next r2 m2 => loopW t body n r2 m2
    | .cont r2 m2 => loopW t body n r2 m2
    | .brk r2 m2 => .next r2 m2
    | o => o) else .next r m1
theorem ds_while {n : Nat} (ht : DT c W e ft) (hb : DSs c W sts g) : DSt c W (.While e sts [] pos) (loopW ft g n) := by
  obtain ⟨t, t1, t2⟩ := ht
  obtain ⟨tb, b1, b2⟩ := hb
  refine ⟨tWhile t tb, fun y hy => ps_while hy.own (t1 y hy) (b1 y hy), fun r m σ H F al E he hw p => ?_⟩
  refine ⟨fun k σ' H' => ∃ r' m' F' al', Wd c.K F' al' m' H' ∧ EnvOk c.K F' al' r' σ' ∧ PostS c.K W F' al' E (loopW ft g k r' m'), ⟨n, r, m, F, al, hw, he, p⟩, ?_⟩
  rintro k σ' H' ⟨r', m', F', al', w', he', p'⟩
  cases k with
  | zero => exact p'.elim
  | succ k =>
    refine t2 r' m' σ' H' F' al' _ he' w' (PostS.step he' p' fun q m1 q' H1 F1 al1 e1 w1 q1 p1 => ?_)
    cases q1
    cases q with
    | false => exact p1 σ' H1 F1 al1 Le.refl w1 (he'.up e1)
    | true =>
      show ∃ N, _
      refine ⟨fun σ2 H2 => ∃ r2 m2 F2 al2, Wd c.K F2 al2 m2 H2 ∧ EnvOk c.K F2 al2 r2 σ2 ∧ PostS c.K W F2 al2 E (loopW ft g k r2 m2), fun σ2 H2 z => ⟨k, Nat.lt_succ_self k, z⟩, ?_⟩
      refine b2 r' m1 σ' H1 F1 al1 _ (he'.up e1) w1 ?_
      have p1 : PostS c.K W F1 al1 E (match g r' m1 with
        | .next r2 m2 => loopW ft g k r2 m2
        | .cont r2 m2 => loopW ft g k r2 m2
        | .brk r2 m2 => .next r2 m2
        | o => o) := p1
      cases o : g r' m1 with
      | next r4 m4 => rw [o] at p1; exact fun σ4 H4 F4 al4 e4 w4 he4 => ⟨r4, m4, F4, al4, w4, he4, p1.up e4⟩
      | cont r4 m4 => rw [o] at p1; exact fun σ4 H4 F4 al4 e4 w4 he4 => ⟨r4, m4, F4, al4, w4, he4, p1.up e4⟩
      | brk r4 m4 => rw [o] at p1; exact p1
      | ret d m4 => rw [o] at p1; exact p1
      | exc _ _ _ _ => rw [o] at p1; exact p1
      | stuck => rw [o] at p1; exact p1
end
end DS

namespace DS
open PySem PySem.Spec PyProof.Rows L2
/-! ### list comprehensions -/
def wipeR (r : Rho) : List Nat → Rho
  | [] => r
  | v :: vs => (wipeR r vs).set v none
theorem EnvOk.unset {K : PySem.W.Frag} {F : Hp} {al : List Addr} {r : Rho} {σ : L2.St} (h : EnvOk K F al r σ) (i : Nat) : EnvOk K F al (r.set i none) (σ.set i none) := by
  refine ⟨by rw [List.length_set, List.length_set]; exact h.len, fun j e hj => ?_⟩
  by_cases hij : j = i
  · subst hij
    have hl : j < r.length := by
      have := (List.getElem?_eq_some_iff.mp hj).1
      rw [List.length_set] at this
      exact this
    rw [List.getElem?_set_self hl] at hj
    cases hj
  · rw [List.getElem?_set_ne (Ne.symm hij)] at hj
    obtain ⟨w, a, b⟩ := h.get j e hj
    exact ⟨w, by rw [List.getElem?_set_ne (Ne.symm hij)]; exact a, b⟩
theorem EnvOk.wipe {K : PySem.W.Frag} {F : Hp} {al : List Addr} {r : Rho} {σ : L2.St} (h : EnvOk K F al r σ) : ∀ vs : List Nat, EnvOk K F al (wipeR r vs) (L2.wipe σ vs)
  | [] => h
  | v :: vs => (EnvOk.wipe h vs).unset v
def noW : WX := fun _ _ _ _ => False
def Out.ne {α : Type} : Out α → Out α
  | .exc _ _ _ => .stuck
  | o => o
theorem Post.stepN {δ ν δ' ν' : Type} {K : PySem.W.Frag} {R : Hp → List Addr → δ → ν → Prop} {R' : Hp → List Addr → δ' → ν' → Prop} {W W' : XK} {F0 F : Hp} {al0 al : List Addr} {Q : ν → Hp → Prop} {Q' : ν' → Hp → Prop} {o : Out δ} {k : δ → Mu → Out δ'}
    (h : Post K R' W' F0 al0 Q' (o.ne.bind k)) (hk : ∀ d m v H1 F1 al1, Le F al F1 al1 → Wd K F1 al1 m H1 → R F1 al1 d v → Post K R' W' F0 al0 Q' (k d m) → Q v H1) : Post K R W F al Q o := by
  cases o with
  | ok d m => exact fun v H' F' al' e w r => hk d m v H' F' al' e w r h
  | exc c fs m => exact h.elim
  | stuck => exact h.elim
def pushD (n : Nat) (d : D) (m : Mu) : Out Unit := match m[n]? with
  | some (.lst acc) => if d.inB n = true ∧ acc.length < sizeLine then .ok () (m.set n (.lst (acc ++ [d]))) else .stuck
  | _ => .stuck
def lcF (g : XG) (tt : XT) (te : XE') (n : Nat) (r0 : Rho) : List D → Mu → Out Unit
  | [], m => .ok () m
  | x :: xs, m => (g x r0 m).ne.bind fun r1 m1 => (tt r1 m1).ne.bind fun b m2 => if b then (te r1 m2).ne.bind fun d m3 => (pushD n d m3).bind fun _ m4 => lcF g tt te n r0 xs m4 else lcF g tt te n r0 xs m2
def lcEnd (n : Nat) (m : Mu) : Out D := match m[n]? with
  | some (.lst acc) => .ok (.lst acc) (m.take n)
  | _ => .stuck
def lcD (g : XG) (tt : XT) (te : XE') (r0 : Rho) (xs : List D) (m : Mu) : Out D := (lcF g tt te m.length r0 xs (m ++ [.lst []])).bind fun _ m2 => lcEnd m.length m2
def xLc (f : XA) (vs : List Nat) (g : XG) (tt : XT) (te : XE') : XE' := fun r m => (f r m).bind fun xs m1 => lcD g tt te (wipeR r vs) xs m1
def SC.blk (c : SC) (scope : Scope) : SC := { c with sc := relS scope c.sc, fnB := fun x => scope.names.lookup x == some .cell, hx := none, df := false, me := none }
def blkD (y : Dyn) (s : Shared) (H : Hp) (scope : Scope) (cenv : Env) (fp : List Addr) : Dyn := { A := y.A, s_0 := s, H_0 := H, env := cenv, outer := y.stack, stack := y.stack, ex := fp, fn := fun x => scope.names.lookup x == some .cell, pn := [], xe := fun _ _ => False }
theorem OkD.blk {c : SC} {W : WX} {y : Dyn} (hy : OkD c W y) (s : Shared) (H : Hp) (scope : Scope) (C : Addr) (cl : List (Str × Addr)) (fp : List Addr) : OkD (c.blk scope) noW (blkD y s H scope (compEnvC scope cl C y.env) fp) := by
  refine ⟨?_, hy.room, hy.hd, ?_, fun x h => h, hy.gd, PassesOwn.never, (fun _ _ z => nomatch z), (fun z => Bool.noConfusion (show false = true from z)), fun _ z => nomatch z⟩
  · show relS scope y.env.scope = relS scope c.sc
    rw [hy.scope]
  · rintro u s' ⟨a, B, sI, pins, σ, H, cls, d, e, I, nb, up, sky, na, os, ag, w⟩
    exact w.elim
def xYes : XT := fun _ m => .ok true m
def DTs (c : SC) (W : WX) (ifs : List Expr) (f : XT) : Prop := ∃ t : TT, (∀ y, OkD c W y → PTs (c.cx y) ifs t) ∧
  ∀ r m σ H F al Q, EnvOk c.K F al r σ → Wd c.K F al m H → Post c.K RB (atS W σ) F al Q (f r m) → t σ H Q
section
variable {c : SC} {W : WX} {pos : Pos} {a b d e : Expr} {fa fb fe : XE'} {ft : XT}
theorem dts_nil : DTs c W [] xYes := ⟨tYes, fun _ _ => pts_nil, fun r m σ H F al Q he hw p => p true H F al Le.refl hw rfl⟩
theorem dts_one (h : DT c W e ft) : DTs c W [e] ft := by
  obtain ⟨t, h1, h2⟩ := h
  exact ⟨t, fun y hy => pts_one (h1 y hy), h2⟩
theorem lc_read {elt tg : Expr} {ifs : List Expr} {scope : Scope} {vs : List Nat} {gt : XG} {tt : XT} {te : XE'} {tg' : TG} {t2 : TT} {t3 : TE} {J : It} {xs : List D} {r : Rho} {m1 : Mu} {σ : L2.St} {H1 F1 : Hp} {al1 : List Addr} {Q : VK} {W' : XK}
    (g2 : ∀ d x r m σ H F al Q, EnvOk c.K F al r σ → Wd c.K F al m H → Rp c.K F al d x → Post c.K (RE c.K vs σ) (atS noW σ) F al Q (gt d r m) → tg' x σ H Q)
    (h2 : ∀ r m σ H F al Q, EnvOk c.K F al r σ → Wd c.K F al m H → Post c.K RB (atS noW σ) F al Q (tt r m) → t2 σ H Q)
    (h3 : ∀ r m σ H F al Q, EnvOk c.K F al r σ → Wd c.K F al m H → Post c.K (RD c.K) (atS noW σ) F al Q (te r m) → t3 σ H Q)
    (he : EnvOk c.K F1 al1 r σ) (w1 : Wd c.K F1 al1 m1 H1) (q1 : Yld c.K J xs F1 al1) (p : Post c.K (RD c.K) W' F1 al1 Q (lcD gt tt te (wipeR r vs) xs m1)) :
    ∀ D', H1 D' = none → ∃ Wv : Nat → Nat → Hp → Prop, (∃ k, Wv 0 k (upd H1 D' (.lst []))) ∧ ∀ i k H, Wv i k H →
      (J.stop i H ∧ Q (.ref D') H) ∨ (J.go i H ∧ ∃ Nx : Hp → Prop, (∀ H', Nx H' → ∃ k', k' < k ∧ Wv (i + 1) k' H') ∧ ∀ x H', J.yld i H x H' → tg' x (wipe σ vs) H' fun σ2 H2 => wipe σ2 vs = wipe σ vs ∧ t2 σ2 H2 fun b H3 =>
        if b = true then t3 σ2 H3 fun y H4 => ∃ acc, H4 D' = some (.lst acc) ∧ acc.length < sizeLine ∧ Nx (upd H4 D' (.lst (acc ++ [y]))) else Nx H3) := by
  intro D' hD
  have hlast : (al1 ++ [D'])[m1.length]? = some D' := by rw [← w1.len, List.getElem?_append_right (Nat.le_refl _), Nat.sub_self]; rfl
  have w0 : Wd c.K F1 (al1 ++ [D']) (m1 ++ [.lst []]) (upd H1 D' (.lst [])) := w1.newCell hD ⟨w1.fnone hD, [], upd_same, .nil⟩ rfl
  refine ⟨fun i k H' => ∃ m' F' al', k = xs.length - i ∧ i ≤ xs.length ∧ Le F1 (al1 ++ [D']) F' al' ∧ Wd c.K F' al' m' H' ∧ Post c.K (RD c.K) W' F1 al1 Q ((lcF gt tt te m1.length (wipeR r vs) (xs.drop i) m').bind fun _ m2 => lcEnd m1.length m2),
    ⟨xs.length, _, F1, al1 ++ [D'], rfl, Nat.zero_le _, Le.refl, w0, p⟩, ?_⟩
  rintro i k H' ⟨m', F', al', rfl, hi, e', w', p'⟩
  have e1' : Le F1 al1 F' al' := Le.snoc.trans e'
  by_cases hlt : i < xs.length
  · have hd : xs[i]? = some xs[i] := List.getElem?_eq_getElem hlt
    obtain ⟨hgo, hyl⟩ := q1.go H' F' al' m' i xs[i] e1' w' hd
    refine .inr ⟨hgo, fun H2 => ∃ m2 F2 al2, Le F1 (al1 ++ [D']) F2 al2 ∧ Wd c.K F2 al2 m2 H2 ∧ Post c.K (RD c.K) W' F1 al1 Q ((lcF gt tt te m1.length (wipeR r vs) (xs.drop (i + 1)) m2).bind fun _ m2 => lcEnd m1.length m2), fun H2 ⟨m2, F2, al2, z1, z2, z3⟩ => ⟨xs.length - (i + 1), by omega, m2, F2, al2, rfl, hlt, z1, z2, z3⟩, fun x H2 hy => ?_⟩
    obtain ⟨F2, e2, w2, q2⟩ := hyl x H2 hy
    rw [List.drop_eq_getElem_cons hlt, lcF] at p'
    have he2 : EnvOk c.K F2 al' (wipeR r vs) (wipe σ vs) := ((he.up e1').up e2).wipe vs
    refine g2 xs[i] x _ m' _ H2 F2 al' _ he2 w2 q2 (Post.stepN p'.assoc fun r3 m3 σ3 H3 F3 al3 e3 w3 q3 p3 => ?_)
    refine ⟨?_, h2 r3 m3 σ3 H3 F3 al3 _ q3.1 w3 (Post.stepN p3.assoc fun b m4 b' H4 F4 al4 e4 w4 q4 p4 => ?_)⟩
    · rw [q3.2]
      have wz : ∀ (ws : List Nat) (σ : L2.St), wipe (wipe σ ws) ws = wipe σ ws := fun ws σ => by
        apply List.ext_getElem?
        intro n
        have hl : ∀ (us : List Nat) (τ : L2.St), n ∈ us → n < τ.length → (wipe τ us)[n]? = some none := fun us => by
          induction us with
          | nil => intro τ h _; simp at h
          | cons u us ih =>
            intro τ h hn
            unfold L2.wipe
            by_cases hu : n = u
            · subst hu
              rw [List.getElem?_set_self (by rw [wipe_length]; exact hn)]
            · rw [List.getElem?_set_ne (Ne.symm hu)]
              exact ih τ ((List.mem_cons.mp h).resolve_left hu) hn
        have hr : ∀ (us : List Nat) (τ : L2.St), n ∉ us → (wipe τ us)[n]? = τ[n]? := fun us => by
          induction us with
          | nil => intro τ _; rfl
          | cons u us ih =>
            intro τ h
            unfold L2.wipe
            rw [List.getElem?_set_ne (fun z => h (by simp [z]))]
            exact ih τ fun z => h (by simp [z])
        by_cases hn : n ∈ ws
        · by_cases hlen : n < σ.length
          · rw [hl ws _ hn (by rw [wipe_length]; exact hlen), hl ws _ hn hlen]
          · rw [List.getElem?_eq_none_iff.mpr (by rw [wipe_length, wipe_length]; omega), List.getElem?_eq_none_iff.mpr (by rw [wipe_length]; omega)]
        · rw [hr ws _ hn]
      exact wz vs σ
    · cases q4
      have up4 : Le F1 (al1 ++ [D']) F4 al4 := ((e'.trans e2).trans e3).trans e4
      cases b with
      | false => exact ⟨m4, F4, al4, up4, w4, p4⟩
      | true =>
        show t3 σ3 H4 _
        have p4 : Post c.K (RD c.K) W' F1 al1 Q (((te r3 m4).ne.bind fun d m5 => (pushD m1.length d m5).bind fun _ m6 => lcF gt tt te m1.length (wipeR r vs) (xs.drop (i + 1)) m6).bind fun _ m2 => lcEnd m1.length m2) := p4
        refine h3 r3 m4 σ3 H4 F4 al4 _ (q3.1.up e4) w4 (Post.stepN p4.assoc fun q m5 y H5 F5 al5 e5 w5 q5 p5 => ?_)
        have up5 := up4.trans e5
        have hx5 : al5[m1.length]? = some D' := up5.a _ _ hlast
        unfold pushD at p5
        cases hc : m5[m1.length]? with
        | none => rw [hc] at p5; exact p5.elim
        | some cl =>
          cases cl with
          | ins _ _ => rw [hc] at p5; exact p5.elim
          | dct _ => rw [hc] at p5; exact p5.elim
          | dead => rw [hc] at p5; exact p5.elim
          | tab _ => rw [hc] at p5; exact p5.elim
          | lst acc =>
            rw [hc] at p5
            simp only at p5
            obtain ⟨hf, ws, h4, h5⟩ := w5.cell _ _ _ hx5 hc
            by_cases hb : q.inB m1.length = true ∧ acc.length < sizeLine
            · rw [if_pos hb] at p5
              have hg : D.inL m1.length acc = true := w5.gen _ _ hc
              refine ⟨ws, h4, by rw [← h5.len]; exact hb.2, _, F5, al5, up5, w5.write (c := .lst (acc ++ [q])) hx5 hf ⟨hf, _, upd_same, h5.snoc q5⟩ (inL_append hg (by rw [D.inL, hb.1, D.inL]; rfl)), p5⟩
            · rw [if_neg hb] at p5; exact p5.elim
  · have ei : i = xs.length := by omega
    subst ei
    rw [List.drop_length, lcF] at p'
    refine .inl ⟨q1.stop H' F' al' m' _ e1' w' (Nat.le_refl _), ?_⟩
    have hx2 : al'[m1.length]? = some D' := e'.a _ _ hlast
    have p' : Post c.K (RD c.K) W' F1 al1 Q (lcEnd m1.length m') := p'
    unfold lcEnd at p'
    split at p'
    · rename_i acc hc
      obtain ⟨hf, ws, h4, h5⟩ := w'.cell _ _ _ hx2 hc
      have hg : D.inL m1.length acc = true := w'.gen _ _ hc
      exact p' _ H' (upd F' D' (.lst ws)) (al'.take m1.length) ((e1'.trans (ext_new hf)).cut (Nat.le_of_eq w1.len)) (w'.frz hx2 h4 hf (Nat.le_refl _)) (.lst upd_same ((h5.cut hg).up (ext_new hf)))
    · exact p'.elim
theorem de_lc {elt tg it : Expr} {ifs : List Expr} {scope : Scope} (own : List (Str × Nat)) {fi : XA} {gt : XG} {tt : XT} {te : XE'} (hN : c.N.Nodup) (ok : blkC c.N c.sc scope own = true) (hi : DI c W tg it fi) (hg : DG (c.blk scope) noW (own.map (·.2)) tg gt) (ht : DTs (c.blk scope) noW ifs tt) (he : DE (c.blk scope) noW elt te)
    (hs : ∀ env x, foldedSetIterable it env x = pure x := by intro _ _; rfl) (hcm : c.calm = true := by rfl) : DE c W (.ListComp elt [⟨tg, it, ifs, 0⟩] scope pos) (xLc fi (own.map (·.2)) gt tt te) := by
  obtain ⟨wi, i1, i2⟩ := hi
  obtain ⟨tg', g1, g2⟩ := hg
  obtain ⟨t2, t1, t2'⟩ := ht
  obtain ⟨t3, e1, e2⟩ := he
  refine ⟨tLc wi tg' t2 t3 (own.map (·.2)), fun y hy => pe_lc (X := c.cx y) hcm hN (i1 y hy) (by
      have z : (c.cx y).env.scope = c.sc := hy.scope
      rw [z]; exact blkOk_by ok) (fun s H C cl fp => g1 _ (hy.blk s H scope C cl fp)) (fun s H C cl fp => t1 _ (hy.blk s H scope C cl fp)) (fun s H C cl fp => e1 _ (hy.blk s H scope C cl fp)) (hs _), fun r m σ H F al Q he hw p => ?_⟩
  refine i2 r m σ H F al _ he hw (Post.step p fun xs m1 J H1 F1 al1 e3 w1 q1 p1 => ?_)
  exact lc_read (c := c) (elt := elt) (tg := tg) (ifs := ifs) (scope := scope) g2 t2' e2 (he.up e3) w1 q1 p1
theorem ds_lc (i : Nat) {y0 : Str} {py spos : Pos} {elt tg it : Expr} {ifs : List Expr} {scope : Scope} (own : List (Str × Nat)) {fi : XA} {gt : XG} {tt : XT} {te : XE'} (hN : c.N.Nodup) (ok : blkC c.N c.sc scope own = true) (hi : DI c W tg it fi) (hg : DG (c.blk scope) noW (own.map (·.2)) tg gt) (ht : DTs (c.blk scope) noW ifs tt) (he : DE (c.blk scope) noW elt te)
    (hy : c.N[i]? = some y0 := by rfl) (hyl : c.sc.names.lookup y0 = some .local := by rfl) (hk : c.sc.kind = .function := by rfl) (hl : (py.line == pos.line) = true := by rfl) (hn : (scope.names.any fun (n, k) => n == y0 && (k == .local || k == .cell)) = false := by decide +kernel)
    (hs : ∀ env x, foldedSetIterable it env x = pure x := by intro _ _; rfl) (hcm : c.calm = true := by rfl) : DSt c W (.Assign [.Name y0 py] (.ListComp elt [⟨tg, it, ifs, 0⟩] scope pos) spos) (sAsg (xLc fi (own.map (·.2)) gt tt te) (gNm i)) := by
  obtain ⟨wi, i1, i2⟩ := hi
  obtain ⟨tg', g1, g2⟩ := hg
  obtain ⟨t2, t1, t2'⟩ := ht
  obtain ⟨t3, e1, e2⟩ := he
  refine ⟨tAsg (tLc wi tg' t2 t3 (own.map (·.2))) (gName i), fun y hz => ?_, fun r m σ H F al E he hw p => ?_⟩
  · have z : (c.cx y).env.scope = c.sc := hz.scope
    exact ps_setLc (X := c.cx y) hcm hN hy (by rw [z]; exact hyl) (sw_true (by rw [z]; exact hk) (by rw [z]; exact hyl) hl hn) (i1 y hz) (by rw [z]; exact blkOk_by ok) (fun s H C cl fp => g1 _ (hz.blk s H scope C cl fp)) (fun s H C cl fp => t1 _ (hz.blk s H scope C cl fp)) (fun s H C cl fp => e1 _ (hz.blk s H scope C cl fp)) (hs _)
  · have p' : PostS c.K W F al E ((fi r m).stm r fun xs m1 => (lcD gt tt te (wipeR r (own.map (·.2))) xs m1).stm r fun d m2 => .next (r.set i (some d)) m2) := by
      have q : sAsg (xLc fi (own.map (·.2)) gt tt te) (gNm i) r m = ((fi r m).stm r fun xs m1 => (lcD gt tt te (wipeR r (own.map (·.2))) xs m1).stm r fun d m2 => .next (r.set i (some d)) m2) := by
        unfold sAsg xLc
        cases fi r m <;> rfl
      rw [← q]; exact p
    refine i2 r m σ H F al _ he hw (PostS.step he p' fun xs m1 J H1 F1 al1 e3 w1 q1 p1 => ?_)
    refine lc_read (c := c) (elt := elt) (tg := tg) (ifs := ifs) (scope := scope) (W' := atS W σ) (Q := fun x H1 => gName i x σ H1 E.nx) g2 t2' e2 (he.up e3) w1 q1 (PostS.step (he.up e3) p1 fun d m2 x H2 F2 al2 e4 w2 q2 p2 => ?_)
    exact p2 _ H2 F2 al2 Le.refl w2 (((he.up e3).up e4).set i q2)
end
end DS

namespace DS
open PySem PySem.Spec PyProof.Rows L2
section
variable {c : SC} {W : WX} {pos : Pos} {a b d e o : Expr} {fa fb fe fo : XE'} {ft : XT} {es : List Expr} {fr : XA} {x : Str} {p0 apos : Pos}
/-! ### built-ins called by name -/
def CallD (c : SC) (f : Value) (g : Fn) : Prop := ∃ r, (∀ W y, OkD c W y → CallR (c.cx y) f r) ∧
  ∀ (W : XK) ds m vs H F al Q, Wd c.K F al m H → RpL c.K F al ds vs → Post c.K (RD c.K) W F al Q (g ds m) → r vs H Q
theorem CallR.or {X : Cx} {f : Value} {r r' : List V → Hp → VK → Prop} (h : CallR X f r) (h' : CallR X f r') : CallR X f (fun vs H Q => r vs H Q ∨ r' vs H Q) :=
  fun pins s σ H vs us Q I rv q => q.elim (fun q => h pins s σ H vs us Q I rv q) fun q => h' pins s σ H vs us Q I rv q
theorem de_callB {id : String} {g : Fn} (hc : CallD c (.builtin id) g) (hm : c.mg x = none) (hv : bootBuiltins x = some (.builtin id)) (ha : DA c W (e :: es) fr) (hg : c.sc.names.lookup x = some .globalImplicit := by rfl) (hn : x ≠ "__name__" := by decide) (hdb : (x == ("__debug__" : Str)) = false := by decide)
    (hs : ∀ env, starEach (e :: es) env = (false, eval e env) :: starEach es env := by intro _; rfl) (hpl : ∀ env, (backTo pos (starEach es env)).any (·.1) = false := by intro _; rfl) : DE c W (.Call (.Name x p0) (e :: es) [] pos) (xCall g fr) := by
  obtain ⟨r, h1, h2⟩ := hc
  obtain ⟨⟨t, a1, a2⟩, _⟩ := ha
  refine ⟨tCB r t, fun y hy => pe_callB (h1 W y hy) (hy.gl hg) hm hv (a1 y hy) hn hdb (hs _) (hpl _), fun ρ m σ H F al Q he hw p => ?_⟩
  exact a2 ρ m σ H F al _ he hw (Post.step p fun ds m1 vs H1 F1 al1 e1 w1 q1 p1 => h2 _ ds m1 vs H1 F1 al1 Q w1 q1 p1)
theorem de_callT {T : String} {g : Fn} (hc : CallD c (.type T) g) (hm : c.mg x = none) (hv : bootBuiltins x = some (.type T)) (ha : DA c W (e :: es) fr) (hg : c.sc.names.lookup x = some .globalImplicit := by rfl) (hn : x ≠ "__name__" := by decide) (hdb : (x == ("__debug__" : Str)) = false := by decide)
    (hs : ∀ env, starEach (e :: es) env = (false, eval e env) :: starEach es env := by intro _; rfl) (hpl : ∀ env, (backTo pos (starEach es env)).any (·.1) = false := by intro _; rfl) : DE c W (.Call (.Name x p0) (e :: es) [] pos) (xCall g fr) := by
  obtain ⟨r, h1, h2⟩ := hc
  obtain ⟨⟨t, a1, a2⟩, _⟩ := ha
  refine ⟨tCB r t, fun y hy => pe_callTy (h1 W y hy) (hy.gl hg) hm hv (a1 y hy) hn hdb (hs _) (hpl _), fun ρ m σ H F al Q he hw p => ?_⟩
  exact a2 ρ m σ H F al _ he hw (Post.step p fun ds m1 vs H1 F1 al1 e1 w1 q1 p1 => h2 _ ds m1 vs H1 F1 al1 Q w1 q1 p1)
/-! len -/
def lenD (ds : List D) (m : Mu) : Out D := match ds with
  | [.str z] => if z.length ≤ sizeLine then .ok (.int z.length) m else .stuck
  | [.tup xs] => .ok (.int xs.length) m
  | [d] => (match lstOf m d with
    | some xs => .ok (.int xs.length) m
    | none => .stuck)
  | _ => .stuck
theorem b_len : CallD c (.builtin "len") lenD := by
  refine ⟨fun xs H Q => ∃ x n, xs = [x] ∧ LenV c.K x H n ∧ Q (.int n) H, fun W y hy => call_len (X := c.cx y), fun W ds m vs H F al Q hw r p => ?_⟩
  unfold lenD at p
  split at p
  · cases r with
    | cons q r =>
    cases r; cases q
    split at p
    · rename_i hz
      exact ⟨_, _, rfl, ⟨hz, rfl⟩, p _ H F al Le.refl hw (.int _)⟩
    · exact p.elim
  · cases r with
    | cons q r =>
    cases r
    cases q with
    | @tup q' ws _ s q => exact ⟨_, _, rfl, .inr ⟨ws, sqt_up hw.sub s, rfl⟩, by rw [← q.len]; exact p _ H F al Le.refl hw (.int _)⟩
  · cases r with
    | cons q r =>
    cases r
    split at p
    · rename_i xs hx
      obtain ⟨q', ws, rfl, s, q⟩ := lstOf_ok hw q hx
      exact ⟨_, _, rfl, .inl ⟨ws, s, rfl⟩, by rw [← q.len]; exact p _ H F al Le.refl hw (.int _)⟩
    · exact p.elim
  · exact p.elim
/-! int, str, abs, max, min of two -/
def intF (ds : List D) (m : Mu) : Out D := match ds with
  | [.int i] => .ok (.int i) m
  | [.str z] => (match PySem.intText? z with
    | some n => if z.length ≤ 640 then .ok (.int n) m else .stuck
    | none => .stuck)
  | _ => .stuck
theorem b_int : CallD c (.type "int") intF := by
  refine ⟨_, fun W y hy => CallR.or call_int1 call_int_str, fun W ds m vs H F al Q hw r p => ?_⟩
  unfold intF at p
  split at p
  · cases r with
    | cons q r =>
    cases r; cases q
    exact .inl (.inl ⟨_, rfl, p _ H F al Le.refl hw (.int _)⟩)
  · cases r with
    | cons q r =>
    cases r; cases q
    split at p
    · rename_i n hn
      split at p
      · rename_i hz
        exact .inr ⟨_, n, rfl, hn, hz, p _ H F al Le.refl hw (.int _)⟩
      · exact p.elim
    · exact p.elim
  · exact p.elim
def strF (ds : List D) (m : Mu) : Out D := match ds with
  | [.int i] => if i.natAbs.log2 < 1920 then .ok (.str (toString i)) m else .stuck
  | _ => .stuck
theorem b_str : CallD c (.type "str") strF := by
  refine ⟨_, fun W y hy => call_str_int, fun W ds m vs H F al Q hw r p => ?_⟩
  unfold strF at p
  split at p
  · cases r with
    | cons q r =>
    cases r; cases q
    split at p
    · rename_i hz
      exact ⟨_, rfl, hz, p _ H F al Le.refl hw (.str _)⟩
    · exact p.elim
  · exact p.elim
def absF (ds : List D) (m : Mu) : Out D := match ds with
  | [.int i] => .ok (.int (if i < 0 then -i else i)) m
  | _ => .stuck
theorem b_abs : CallD c (.builtin "abs") absF := by
  refine ⟨_, fun W y hy => call_abs, fun W ds m vs H F al Q hw r p => ?_⟩
  unfold absF at p
  split at p
  · cases r with
    | cons q r =>
    cases r; cases q
    exact ⟨_, rfl, p _ H F al Le.refl hw (.int _)⟩
  · exact p.elim
/-- the ints of a list -/
def intsL : List D → Option (List Int)
  | [] => some []
  | .int i :: r => (intsL r).map (i :: ·)
  | _ => none
theorem ints_rp {K : PySem.W.Frag} {F : Hp} {al : List Addr} : ∀ {ds : List D} {vs : List V} {ns : List Int}, RpL K F al ds vs → intsL ds = some ns → vs = ns.map V.int
  | _, _, _, .nil, h => by cases h; rfl
  | _, _, _, .cons (d := d) (ds := ds) r q, h => by
    cases d with
    | int i =>
      unfold intsL at h
      cases e : intsL ds with
      | none => rw [e] at h; cases h
      | some ns =>
        rw [e] at h
        cases h
        cases r
        rw [ints_rp q e]; rfl
    | _ => cases h
def maxL : Int → List Int → Int
  | i, [] => i
  | i, j :: r => maxL (if j > i then j else i) r
theorem maxL_ge : ∀ (r : List Int) (i : Int), i ≤ maxL i r ∧ ∀ y ∈ r, y ≤ maxL i r
  | [], i => ⟨Int.le_refl _, fun y h => by simp at h⟩
  | j :: r, i => by
    obtain ⟨h1, h2⟩ := maxL_ge r (if j > i then j else i)
    unfold maxL
    refine ⟨?_, fun y hy => ?_⟩
    · split at h1 <;> (split <;> omega)
    · rcases List.mem_cons.mp hy with rfl | hy
      · split at h1 <;> (split <;> omega)
      · exact h2 y hy
theorem maxL_mem : ∀ (r : List Int) (i : Int), maxL i r = i ∨ maxL i r ∈ r
  | [], i => .inl rfl
  | j :: r, i => by
    unfold maxL
    rcases maxL_mem r (if j > i then j else i) with h | h
    · rw [h]
      split
      · exact .inr (by simp)
      · exact .inl rfl
    · exact .inr (List.mem_cons_of_mem _ h)
def maxF (ds : List D) (m : Mu) : Out D := match ds with
  | [.int i, .int j] => .ok (.int (if j > i then j else i)) m
  | [d] => (match lstOf m d with
    | some xs => (match intsL xs with
      | some (i :: r) => .ok (.int (maxL i r)) m
      | _ => .stuck)
    | none => .stuck)
  | _ => .stuck
theorem b_max (hcm : c.calm = true := by rfl) : CallD c (.builtin "max") maxF := by
  refine ⟨fun xs H Q => (∃ i j, xs = [.int i, .int j] ∧ Q (.int (if j > i then j else i)) H) ∨ rMax c.K xs H Q, fun W y hy => CallR.or (call_max2 (X := c.cx y) hcm) (cr_max (X := c.cx y) hcm), fun W ds m vs H F al Q hw r p => ?_⟩
  unfold maxF at p
  split at p
  · cases r with
    | cons q r =>
    cases r with
    | cons q' r =>
    cases r; cases q; cases q'
    exact .inl ⟨_, _, rfl, p _ H F al Le.refl hw (.int _)⟩
  · cases r with
    | cons q r =>
    cases r
    split at p
    · rename_i xs hx
      obtain ⟨q', ws, rfl, s, q⟩ := lstOf_ok hw q hx
      split at p
      · rename_i i r hi
        have ew := ints_rp q hi
        subst ew
        refine .inr ⟨q', i :: r, rfl, s, by simp, fun k hk hle => ?_⟩
        have e : k = maxL i r := by
          obtain ⟨h1, h2⟩ := maxL_ge r i
          have h3 : k ≤ maxL i r := by
            rcases List.mem_cons.mp hk with rfl | hk
            · exact h1
            · exact h2 k hk
          have h4 : maxL i r ≤ k := by
            rcases maxL_mem r i with h | h
            · rw [h]; exact hle i (by simp)
            · exact hle _ (List.mem_cons_of_mem _ h)
          omega
        rw [e]
        exact p _ H F al Le.refl hw (.int _)
      · exact p.elim
    · exact p.elim
  · exact p.elim
def minF (ds : List D) (m : Mu) : Out D := match ds with
  | [.int i, .int j] => .ok (.int (if j < i then j else i)) m
  | _ => .stuck
theorem b_min (hcm : c.calm = true := by rfl) : CallD c (.builtin "min") minF := by
  refine ⟨_, fun W y hy => call_min2 (X := c.cx y) hcm, fun W ds m vs H F al Q hw r p => ?_⟩
  unfold minF at p
  split at p
  · cases r with
    | cons q r =>
    cases r with
    | cons q' r =>
    cases r; cases q; cases q'
    exact ⟨_, _, rfl, p _ H F al Le.refl hw (.int _)⟩
  · exact p.elim
def sumF (ds : List D) (m : Mu) : Out D := match ds with
  | [d] => (match lstOf m d with
    | some xs => (match intsL xs with
      | some ns => .ok (.int ns.sum) m
      | _ => .stuck)
    | none => .stuck)
  | _ => .stuck
theorem b_sum (hcm : c.calm = true := by rfl) : CallD c (.builtin "sum") sumF := by
  refine ⟨rSum c.K, fun W y hy => cr_sum (X := c.cx y) hcm, fun W ds m vs H F al Q hw r p => ?_⟩
  unfold sumF at p
  split at p
  · cases r with
    | cons q r =>
    cases r
    split at p
    · rename_i xs hx
      obtain ⟨q', ws, rfl, s, q⟩ := lstOf_ok hw q hx
      split at p
      · rename_i ns hi
        have ew := ints_rp q hi
        subst ew
        exact ⟨q', ns, rfl, s, p _ H F al Le.refl hw (.int _)⟩
      · exact p.elim
    · exact p.elim
  · exact p.elim
/-- the truth values of a list -/
def bsL : List D → Option (List Bool)
  | [] => some []
  | .bl i :: r => (bsL r).map (i :: ·)
  | _ => none
theorem bs_rp {K : PySem.W.Frag} {F : Hp} {al : List Addr} : ∀ {ds : List D} {vs : List V} {ns : List Bool}, RpL K F al ds vs → bsL ds = some ns → vs = ns.map V.bl
  | _, _, _, .nil, h => by cases h; rfl
  | _, _, _, .cons (d := d) (ds := ds) r q, h => by
    cases d with
    | bl i =>
      unfold bsL at h
      cases e : bsL ds with
      | none => rw [e] at h; cases h
      | some ns =>
        rw [e] at h
        cases h
        cases r
        rw [bs_rp q e]; rfl
    | _ => cases h
def allF (ds : List D) (m : Mu) : Out D := match ds with
  | [d] => (match lstOf m d with
    | some xs => (match bsL xs with
      | some ns => .ok (.bl (ns.all id)) m
      | _ => .stuck)
    | none => .stuck)
  | _ => .stuck
def anyF (ds : List D) (m : Mu) : Out D := match ds with
  | [d] => (match lstOf m d with
    | some xs => (match bsL xs with
      | some ns => .ok (.bl (ns.any id)) m
      | _ => .stuck)
    | none => .stuck)
  | _ => .stuck
theorem b_all (hcm : c.calm = true := by rfl) : CallD c (.builtin "all") allF := by
  refine ⟨rAll c.K, fun W y hy => cr_all (X := c.cx y) hcm, fun W ds m vs H F al Q hw r p => ?_⟩
  unfold allF at p
  split at p
  · cases r with
    | cons q r =>
    cases r
    split at p
    · rename_i xs hx
      obtain ⟨q', ws, rfl, s, q⟩ := lstOf_ok hw q hx
      split at p
      · rename_i ns hi
        have ew := bs_rp q hi
        subst ew
        exact ⟨q', ns, rfl, s, p _ H F al Le.refl hw (.bl _)⟩
      · exact p.elim
    · exact p.elim
  · exact p.elim
theorem b_any (hcm : c.calm = true := by rfl) : CallD c (.builtin "any") anyF := by
  refine ⟨rAny c.K, fun W y hy => cr_any (X := c.cx y) hcm, fun W ds m vs H F al Q hw r p => ?_⟩
  unfold anyF at p
  split at p
  · cases r with
    | cons q r =>
    cases r
    split at p
    · rename_i xs hx
      obtain ⟨q', ws, rfl, s, q⟩ := lstOf_ok hw q hx
      split at p
      · rename_i ns hi
        have ew := bs_rp q hi
        subst ew
        exact ⟨q', ns, rfl, s, p _ H F al Le.refl hw (.bl _)⟩
      · exact p.elim
    · exact p.elim
  · exact p.elim
/-! tuple(..), list(..), divmod -/
def tupF (ds : List D) (m : Mu) : Out D := match ds with
  | [.tup xs] => .ok (.tup xs) m
  | [d] => (match lstOf m d with
    | some xs => .ok (.tup xs) m
    | none => .stuck)
  | _ => .stuck
theorem b_tuple : CallD c (.type "tuple") tupF := by
  refine ⟨fun xs H Q => ∃ p ys, xs = [.ref p] ∧ ((SqL c.K H p ys ∧ ∀ l, H l = none → Q (.ref l) (upd H l (.tup ys))) ∨ SqT c.K H p ys ∧ Q (.ref p) H), fun W y hy => call_tuple_of (X := c.cx y), fun W ds m vs H F al Q hw r p => ?_⟩
  unfold tupF at p
  split at p
  · cases r with
    | cons q r =>
    cases r
    cases q with
    | @tup q' ws _ s q => exact ⟨q', ws, rfl, .inr ⟨sqt_up hw.sub s, p _ H F al Le.refl hw (.tup s q)⟩⟩
  · cases r with
    | cons q r =>
    cases r
    split at p
    · rename_i xs hx
      obtain ⟨q', ws, rfl, s, q⟩ := lstOf_ok hw q hx
      exact ⟨q', ws, rfl, .inl ⟨s, fun n hn => p _ _ (upd F n _) al (ext_new (hw.fnone hn)) (hw.new hn) (.tup (.of upd_same) (q.up (ext_new (hw.fnone hn))))⟩⟩
    · exact p.elim
  · exact p.elim
def seqOf (m : Mu) : D → Option (List D)
  | .tup xs => some xs
  | d => lstOf m d
theorem seqOf_ok {K : PySem.W.Frag} {F : Hp} {al : List Addr} {m : Mu} {H : Hp} {d : D} {v : V} {xs : List D} (w : Wd K F al m H) (r : Rp K F al d v) (h : seqOf m d = some xs) : ∃ a vs, v = .ref a ∧ (SqL K H a vs ∨ SqT K H a vs) ∧ RpL K F al xs vs := by
  cases r with
  | tup s q => cases h; exact ⟨_, _, rfl, .inr (sqt_up w.sub s), q⟩
  | lst s q => cases h; exact ⟨_, _, rfl, .inl (.of (w.sub _ _ s)), q⟩
  | fix s q => cases h; exact ⟨_, _, rfl, .inl (sql_up w.sub s), q⟩
  | @loc n q s =>
    obtain ⟨q', ws, e, s', q⟩ := lstOf_ok w (.loc s) (show lstOf m (.loc n) = some xs from h)
    exact ⟨q', ws, e, .inl s', q⟩
  | _ => cases h
def lstF (ds : List D) (m : Mu) : Out D := match ds with
  | [d] => (match seqOf m d with
    | some xs => .ok (.lst xs) m
    | none => .stuck)
  | _ => .stuck
/-- .. that will change -/
def newF (ds : List D) (m : Mu) : Out D := match ds with
  | [d] => (match seqOf m d with
    | some xs => if D.inL m.length xs then .ok (.loc m.length) (m ++ [.lst xs]) else .stuck
    | none => .stuck)
  | _ => .stuck
theorem b_list : CallD c (.type "list") lstF := by
  refine ⟨fun xs H Q => ∃ p ys, xs = [.ref p] ∧ (SqL c.K H p ys ∨ SqT c.K H p ys) ∧ ∀ l, H l = none → Q (.ref l) (upd H l (.lst ys)), fun W y hy => call_list_of (X := c.cx y), fun W ds m vs H F al Q hw r p => ?_⟩
  unfold lstF at p
  split at p
  · cases r with
    | cons q r =>
    cases r
    split at p
    · rename_i xs hx
      obtain ⟨q', ws, rfl, s, q⟩ := seqOf_ok hw q hx
      exact ⟨q', ws, rfl, s, fun n hn => p _ _ (upd F n _) al (ext_new (hw.fnone hn)) (hw.new hn) (.lst upd_same (q.up (ext_new (hw.fnone hn))))⟩
    · exact p.elim
  · exact p.elim
theorem b_listN : CallD c (.type "list") newF := by
  refine ⟨fun xs H Q => ∃ p ys, xs = [.ref p] ∧ (SqL c.K H p ys ∨ SqT c.K H p ys) ∧ ∀ l, H l = none → Q (.ref l) (upd H l (.lst ys)), fun W y hy => call_list_of (X := c.cx y), fun W ds m vs H F al Q hw r p => ?_⟩
  unfold newF at p
  split at p
  · cases r with
    | cons q r =>
    cases r
    split at p
    · rename_i xs hx
      obtain ⟨q', ws, rfl, s, q⟩ := seqOf_ok hw q hx
      split at p
      · rename_i hb
        exact ⟨q', ws, rfl, s, fun n hn => p _ _ F (al ++ [n]) Le.snoc (hw.newCell hn ⟨hw.fnone hn, ws, upd_same, q.up Le.snoc⟩ hb) (.loc (by rw [← hw.len, List.getElem?_append_right (Nat.le_refl _), Nat.sub_self]; rfl))⟩
      · exact p.elim
    · exact p.elim
  · exact p.elim
def dmF (ds : List D) (m : Mu) : Out D := match ds with
  | [.int i, .int j] => if 0 < j ∧ j < 1073741824 then .ok (.tup [.int (i / j), .int (i % j)]) m else .stuck
  | _ => .stuck
theorem b_divmod : CallD c (.builtin "divmod") dmF := by
  refine ⟨_, fun W y hy => call_divmod, fun W ds m vs H F al Q hw r p => ?_⟩
  unfold dmF at p
  split at p
  · cases r with
    | cons q r =>
    cases r with
    | cons q' r =>
    cases r; cases q; cases q'
    split at p
    · rename_i hj
      exact ⟨_, _, rfl, hj, fun n hn => p _ _ (upd F n _) al (ext_new (hw.fnone hn)) (hw.new hn) (.tup (.of upd_same) (.cons (.int _) (.cons (.int _) .nil)))⟩
    · exact p.elim
  · exact p.elim
/-! ### methods of built-in types -/
def tyD (T : String) (m : Mu) : D → Bool
  | .str _ => T == "str"
  | d => T == "list" && (lstOf m d).isSome
theorem tyD_ok {K : PySem.W.Frag} {F : Hp} {al : List Addr} {m : Mu} {H : Hp} {T : String} {d : D} {v : V} (w : Wd K F al m H) (r : Rp K F al d v) (h : tyD T m d = true) : tyV K T v H := by
  have lists : (T == "list" && (lstOf m d).isSome) = true → tyV K T v H := fun h => by
    rw [Bool.and_eq_true] at h
    obtain ⟨xs, hx⟩ := Option.isSome_iff_exists.mp h.2
    obtain ⟨q', ws, rfl, s, q⟩ := lstOf_ok w r hx
    exact .inl ⟨by simpa using h.1, ws, s⟩
  cases r with
  | str x => exact (by simpa [tyD] using h : T = "str")
  | _ => exact lists h
def MethD (c : SC) (id : String) (g : Fn) : Prop := ∃ r, (∀ W y, OkD c W y → MtR (c.cx y) id r) ∧
  ∀ (W : XK) o ds m x vs H F al Q, Wd c.K F al m H → Rp c.K F al o x → RpL c.K F al ds vs → Post c.K (RD c.K) W F al Q (g (o :: ds) m) → r x vs H Q
def xBM (T : String) (g : Fn) (o : XE') (a : XA) : XE' := fun r m => (o r m).bind fun d m1 => if tyD T m1 d then (a r m1).bind fun ds m2 => g (d :: ds) m2 else .stuck
theorem de_bm {T id : String} {name : Str} {g : Fn} (pa : PlainAttrs T) (slot : Slot T name id) (hty : typeOf (.builtin id) = pure (.type "method_descriptor")) (hm : MethD c id g) (ho : DE c W o fo) (ha : DA c W (e :: es) fr) (hb : ∀ env, attributeBase o name env (eval o env) = eval o env := by intro _; rfl)
    (hn : ∀ env, ((backTo pos (starEach (e :: es) env)).all (fun x => !x.1) && (backToKw pos (keywordEach [] env)).all (fun x => x.1.isSome) && decide ((e :: es).length + ([] : List Keyword).length + (if ([] : List Keyword).isEmpty then 0 else 1) < 30)) = true := by intro _; rfl) (hl : (apos.endLine == pos.line) = true := by rfl)
    (hs : ∀ env, starEach (e :: es) env = (false, eval e env) :: starEach es env := by intro _; rfl) (hpl : ∀ env, (backTo pos (starEach es env)).any (·.1) = false := by intro _; rfl) : DE c W (.Call (.Attribute o name apos) (e :: es) [] pos) (xBM T g fo fr) := by
  obtain ⟨r, h1, h2⟩ := hm
  obtain ⟨to, o1, o2⟩ := ho
  obtain ⟨⟨t, a1, a2⟩, _⟩ := ha
  refine ⟨tBM c.K T r to t, fun y hy => pe_bm (X := c.cx y) pa slot hty (h1 W y hy) (o1 y hy) (a1 y hy) (hb _) (hn _) hl (hs _) (hpl _), fun ρ m σ H F al Q he hw p => ?_⟩
  refine o2 ρ m σ H F al _ he hw (Post.step p fun d m1 v H1 F1 al1 e1 w1 q1 p1 => ?_)
  split at p1
  · rename_i ht
    exact ⟨tyD_ok w1 q1 ht, a2 ρ m1 σ H1 F1 al1 _ (he.up e1) w1 (Post.step p1 fun ds m2 vs H2 F2 al2 e2 w2 q2 p2 => h2 _ d ds m2 v vs H2 F2 al2 Q w2 (q1.up e2) q2 p2)⟩
  · exact p1.elim
theorem de_bm0 {T id : String} {name : Str} {g : Fn} (pa : PlainAttrs T) (slot : Slot T name id) (hty : typeOf (.builtin id) = pure (.type "method_descriptor")) (hm : MethD c id g) (ho : DE c W o fo) (hb : ∀ env, attributeBase o name env (eval o env) = eval o env := by intro _; rfl) (hl : (apos.endLine == pos.line) = true := by rfl) : DE c W (.Call (.Attribute o name apos) [] [] pos) (xBM T g fo xaNil) := by
  obtain ⟨r, h1, h2⟩ := hm
  obtain ⟨to, o1, o2⟩ := ho
  refine ⟨tBM0 c.K T r to, fun y hy => pe_bm0 (X := c.cx y) pa slot hty (h1 W y hy) (o1 y hy) (hb _) hl, fun ρ m σ H F al Q he hw p => ?_⟩
  refine o2 ρ m σ H F al _ he hw (Post.step p fun d m1 v H1 F1 al1 e1 w1 q1 p1 => ?_)
  split at p1
  · rename_i ht
    exact ⟨tyD_ok w1 q1 ht, h2 _ d [] m1 v [] H1 F1 al1 Q w1 q1 .nil p1⟩
  · exact p1.elim
def appF (ds : List D) (m : Mu) : Out D := match ds with
  | [.loc n, d] => (pushD n d m).bind fun _ m1 => .ok .non m1
  | _ => .stuck
theorem m_append : MethD c "list.append" appF := by
  refine ⟨rAppend, fun W y hy => mt_append, fun W o ds m x vs H F al Q hw r1 r p => ?_⟩
  unfold appF at p
  split at p
  · rename_i n d heq
    simp only [List.cons.injEq] at heq
    obtain ⟨rfl, rfl⟩ := heq
    cases r1 with
    | @loc _ ad s =>
    cases r with
    | cons q r =>
    cases r
    unfold pushD at p
    cases hc : m[n]? with
    | none => rw [hc] at p; exact p.elim
    | some cl =>
      cases cl with
      | ins _ _ => rw [hc] at p; exact p.elim
      | dct _ => rw [hc] at p; exact p.elim
      | dead => rw [hc] at p; exact p.elim
      | tab _ => rw [hc] at p; exact p.elim
      | lst acc =>
        rw [hc] at p
        simp only at p
        obtain ⟨hf, ws, h4, h5⟩ := hw.cell _ _ _ s hc
        by_cases hb : d.inB n = true ∧ acc.length < sizeLine
        · rw [if_pos hb] at p
          have hg : D.inL n acc = true := hw.gen _ _ hc
          exact ⟨ad, ws, _, rfl, rfl, h4, by rw [← h5.len]; exact hb.2, p _ _ F al Le.refl (hw.write (c := .lst (acc ++ [d])) s hf ⟨hf, _, upd_same, h5.snoc q⟩ (inL_append hg (by rw [D.inL, hb.1, D.inL]; rfl))) .non⟩
        · rw [if_neg hb] at p; exact p.elim
  · exact p.elim
def popF (ds : List D) (m : Mu) : Out D := match ds with
  | [.loc n] => (match m[n]? with
    | some (.lst xs) => (match xs[xs.length - 1]? with
      | some d => .ok d (m.set n (.lst xs.dropLast))
      | none => .stuck)
    | _ => .stuck)
  | _ => .stuck
theorem inL_dropLast {n : Nat} : ∀ {xs : List D}, D.inL n xs = true → D.inL n xs.dropLast = true
  | [], h => h
  | [_], _ => by simp [D.inL]
  | x :: y :: r, h => by
    rw [D.inL, Bool.and_eq_true] at h
    show D.inL n (x :: (y :: r).dropLast) = true
    rw [D.inL, h.1, inL_dropLast h.2]; rfl
theorem RpL.dropLast {K : PySem.W.Frag} {F : Hp} {al : List Addr} : ∀ {ds : List D} {vs : List V}, RpL K F al ds vs → RpL K F al ds.dropLast vs.dropLast
  | _, _, .nil => .nil
  | _, _, .cons r .nil => .nil
  | _, _, .cons r (.cons r' q) => .cons r (RpL.dropLast (.cons r' q))
theorem m_pop : MethD c "list.pop" popF := by
  refine ⟨rPop, fun W y hy => mt_pop, fun W o ds m x vs H F al Q hw r1 r p => ?_⟩
  unfold popF at p
  split at p
  · rename_i n heq
    simp only [List.cons.injEq] at heq
    obtain ⟨rfl, rfl⟩ := heq
    cases r1 with
    | @loc _ ad s =>
    cases r
    cases hc : m[n]? with
    | none => rw [hc] at p; exact p.elim
    | some cl =>
      cases cl with
      | ins _ _ => rw [hc] at p; exact p.elim
      | dct _ => rw [hc] at p; exact p.elim
      | dead => rw [hc] at p; exact p.elim
      | tab _ => rw [hc] at p; exact p.elim
      | lst acc =>
        rw [hc] at p
        simp only at p
        obtain ⟨hf, ws, h4, h5⟩ := hw.cell _ _ _ s hc
        have hg : D.inL n acc = true := hw.gen _ _ hc
        cases hl : acc[acc.length - 1]? with
        | none => rw [hl] at p; exact p.elim
        | some d =>
          rw [hl] at p
          obtain ⟨z, h6, h7⟩ := h5.get hl
          exact ⟨ad, ws, z, rfl, rfl, h4, by rw [← h5.len]; exact h6, p _ _ F al Le.refl (hw.write (c := .lst acc.dropLast) s hf ⟨hf, _, upd_same, h5.dropLast⟩ (inL_dropLast hg)) h7⟩
  · exact p.elim
/-! texts -/
def splitF (ds : List D) (m : Mu) : Out D := match ds with
  | [.str z, .str s] => if (s.length == 0) = false ∧ z.length + 2 ≤ sizeLine then .ok (.lst ((Txt.split z s).map .str)) m else .stuck
  | _ => .stuck
theorem strs_rp {K : PySem.W.Frag} {F : Hp} {al : List Addr} : ∀ (ys : List Str), RpL K F al (ys.map .str) (ys.map V.str)
  | [] => .nil
  | y :: r => .cons (.str y) (strs_rp r)
theorem m_split : MethD c "str.split" splitF := by
  refine ⟨_, fun W y hy => mt_split, fun W o ds m x vs H F al Q hw r1 r p => ?_⟩
  unfold splitF at p
  split at p
  · rename_i z s heq
    simp only [List.cons.injEq] at heq
    obtain ⟨rfl, rfl⟩ := heq
    cases r1
    cases r with
    | cons q r =>
    cases r; cases q
    split at p
    · rename_i hb
      exact ⟨z, s, rfl, rfl, hb.1, hb.2, fun n hn => p _ _ (upd F n _) al (ext_new (hw.fnone hn)) (hw.new hn) (.lst upd_same (strs_rp _))⟩
    · exact p.elim
  · exact p.elim
def strsL : List D → Option (List Str)
  | [] => some []
  | .str i :: r => (strsL r).map (i :: ·)
  | _ => none
theorem strs_of {K : PySem.W.Frag} {F : Hp} {al : List Addr} : ∀ {ds : List D} {vs : List V} {ns : List Str}, RpL K F al ds vs → strsL ds = some ns → vs = ns.map V.str
  | _, _, _, .nil, h => by cases h; rfl
  | _, _, _, .cons (d := d) (ds := ds) r q, h => by
    cases d with
    | str i =>
      unfold strsL at h
      cases e : strsL ds with
      | none => rw [e] at h; cases h
      | some ns =>
        rw [e] at h
        cases h
        cases r
        rw [strs_of q e]; rfl
    | _ => cases h
def joinF (ds : List D) (m : Mu) : Out D := match ds with
  | [.str s, d] => (match seqOf m d with
    | some xs => (match strsL xs with
      | some ys => if (ys.map (·.length)).sum + ys.length * s.length ≤ 16777216 then .ok (.str (Txt.join s ys)) m else .stuck
      | none => .stuck)
    | none => .stuck)
  | _ => .stuck
theorem m_join : MethD c "str.join" joinF := by
  refine ⟨fun x xs H Q => ∃ a p, ∃ ys : List Str, x = .str a ∧ xs = [.ref p] ∧ (SqL c.K H p (ys.map V.str) ∨ SqT c.K H p (ys.map V.str)) ∧ (ys.map (·.length)).sum + ys.length * a.length ≤ 16777216 ∧ Q (.str (Txt.join a ys)) H, fun W y hy => mt_join (X := c.cx y), fun W o ds m x vs H F al Q hw r1 r p => ?_⟩
  unfold joinF at p
  split at p
  · rename_i s d heq
    simp only [List.cons.injEq] at heq
    obtain ⟨rfl, rfl⟩ := heq
    cases r1
    cases r with
    | cons q r =>
    cases r
    split at p
    · rename_i xs hx
      obtain ⟨q', ws, rfl, sq, q⟩ := seqOf_ok hw q hx
      split at p
      · rename_i ys hi
        have ew := strs_of q hi
        subst ew
        split at p
        · rename_i hb
          exact ⟨s, q', ys, rfl, rfl, sq, hb, p _ H F al Le.refl hw (.str _)⟩
        · exact p.elim
      · exact p.elim
    · exact p.elim
  · exact p.elim
/-! ### (*a, b) -/
def xaStar (a : XE') (r : XA) : XA := fun ρ m => (a ρ m).bind fun x m1 => match seqOf m1 x with
  | some xs => (r ρ m1).bind fun ys m2 => .ok (xs ++ ys) m2
  | none => .stuck
/-- an argument list of any length -/
def DA' (c : SC) (W : WX) (es : List Expr) (f : XA) : Prop := ∃ t : TA, (∀ y, OkD c W y → PA (c.cx y) es t) ∧
  ∀ r m σ H F al Q, EnvOk c.K F al r σ → Wd c.K F al m H → Post c.K (RL c.K) (atS W σ) F al Q (f r m) → t σ H Q
theorem da_any (h : DA c W es fr) : DA' c W es fr := h.1
theorem da_cons' (ha : DE c W e fe) (hr : DA' c W es fr) (hs : ∀ env, starEach (e :: es) env = (false, eval e env) :: starEach es env := by intro _; rfl) : DA' c W (e :: es) (xaCons fe fr) := by
  obtain ⟨t, a1, a2⟩ := ha
  obtain ⟨u, b1, b2⟩ := hr
  refine ⟨tCons t u, fun y hy => pa_cons (a1 y hy) (b1 y hy) (hs _), fun ρ m σ H F al Q he hw p => ?_⟩
  refine a2 ρ m σ H F al _ he hw (Post.step p fun x m1 v H1 F1 al1 e1 w1 q1 p1 => ?_)
  refine b2 ρ m1 σ H1 F1 al1 _ (he.up e1) w1 (Post.step p1 fun xs m2 vs H2 F2 al2 e2 w2 q2 p2 => ?_)
  exact p2 _ H2 F2 al2 Le.refl w2 (.cons (q1.up e2) q2)
theorem de_tup' {k : Nat} (h : DA' c W es fr) : DE c W (.Tuple es k pos) (fun r m => (fr r m).bind fun ds m1 => if ds.length ≤ sizeLine then .ok (.tup ds) m1 else .stuck) := by
  obtain ⟨t, a1, a2⟩ := h
  refine ⟨tTup t, fun y hy => pe_tup (a1 y hy), fun ρ m σ H F al Q he hw p => ?_⟩
  refine a2 ρ m σ H F al _ he hw (Post.step p fun xs m1 vs H1 F1 al1 e1 w1 q1 p1 => ?_)
  split at p1
  · rename_i hn
    exact ⟨by rw [← q1.len]; exact hn, fun q hq => p1 _ _ (upd F1 q (.tup vs)) al1 (ext_new (w1.fnone hq)) (w1.new hq) (.tup (.of upd_same) (q1.up (ext_new (w1.fnone hq))))⟩
  · exact p1.elim
theorem de_lst' (h : DA' c W es fr) : DE c W (.List es pos) (fun r m => (fr r m).bind fun ds m1 => if ds.length ≤ sizeLine then .ok (.lst ds) m1 else .stuck) := by
  obtain ⟨t, a1, a2⟩ := h
  refine ⟨tLst t, fun y hy => pe_lst (a1 y hy), fun ρ m σ H F al Q he hw p => ?_⟩
  refine a2 ρ m σ H F al _ he hw (Post.step p fun xs m1 vs H1 F1 al1 e1 w1 q1 p1 => ?_)
  split at p1
  · rename_i hn
    exact ⟨by rw [← q1.len]; exact hn, fun q hq => p1 _ _ (upd F1 q (.lst vs)) al1 (ext_new (w1.fnone hq)) (w1.new hq) (.lst upd_same (q1.up (ext_new (w1.fnone hq))))⟩
  · exact p1.elim
theorem da_star {p2 : Pos} (ha : DE c W e fe) (hr : DA' c W es fr) : DA' c W (.Starred e p2 :: es) (xaStar fe fr) := by
  obtain ⟨t, a1, a2⟩ := ha
  obtain ⟨u, b1, b2⟩ := hr
  refine ⟨StX.tStar c.K t u, fun y hy => StX.pa_star (X := c.cx y) (a1 y hy) (b1 y hy), fun ρ m σ H F al Q he hw p => ?_⟩
  refine a2 ρ m σ H F al _ he hw (Post.step p fun x m1 v H1 F1 al1 e1 w1 q1 p1 => ?_)
  split at p1
  · rename_i xs hx
    obtain ⟨q', ws, rfl, sq, q⟩ := seqOf_ok w1 q1 hx
    refine ⟨q', ws, rfl, sq.symm, b2 ρ m1 σ H1 F1 al1 _ (he.up e1) w1 (Post.step p1 fun ys m2 vs H2 F2 al2 e2 w2 q2 p2 => ?_)⟩
    exact p2 _ H2 F2 al2 Le.refl w2 ((q.up e2).append q2)
  · exact p1.elim
end
end DS

namespace DS
open PySem PySem.Spec PyProof.Rows L2
/-! ### defs that are called where no repr runs: the law's own -/
structure FnG (b : Base) (k : Nat) (f : Addr) (fd : FuncData) (ps : List Str) (G : Fn) : Prop where
  run : ∀ (A : Around) (out : List Env) (s : Shared) (H : Hp) (ar : Args) (us : List Value) (vs : List V) (Q : VK) (E : XK), Room k A → A.guards = some [] → Env0 b.P b.w b.K b.mg b.base A out s H → BindsTo s fd ar (ps.zip us) → Vals vs us →
    spOf b.K ps.length G vs H Q E → codeAny (model b.P b.w) A (.call (.ref f) ar) (CR (L2.CX b.P b.w) out b.P b.w H s Q E) s
theorem FnG.of {b : Base} {k : Nat} {f : Addr} {fd : FuncData} {ps : List Str} {G : Fn} (h : b.Ok k f fd ps G) : FnG b k f fd ps G :=
  ⟨fun A out s H ar us vs Q E hr _ e0 hb r hs => h.run A out s H ar us vs Q E hr e0 hb r hs⟩
theorem FnG.mono {b : Base} {j k : Nat} {f : Addr} {fd : FuncData} {ps : List Str} {G : Fn} (h : FnG b j f fd ps G) (hk : j ≤ k) : FnG b k f fd ps G :=
  ⟨fun A out s H ar us vs Q E hr hg e0 hb r hs => h.run A out s H ar us vs Q E (hr.mono hk) hg e0 hb r hs⟩
theorem fnG_body {b : Base} {N ps : List Str} {sc : Scope} {k : Nat} {body : List Stmt} {g : XS} {keep : Bool} {E : XK} {Q : VK} {y : Dyn} {vs : List V} {H : Hp} (h : DSs (b.at N sc k true) (wOf E) body g) (hy : OkD (b.at N sc k true) (wOf E) y) (hsp : spOf b.K ps.length (fnOf N.length keep g) vs H Q E) :
    ∃ t, PSs ((b.at N sc k true).cx y) body t ∧ t { nx := fun _ H' => Q .non H', rt := Q } (L2.start N vs) H := by
  obtain ⟨t, h1, h2⟩ := h
  have q : DSs (b.at N sc k false) (wOf E) body g → True := fun _ => trivial
  obtain ⟨ds, m, F, al, hl, r, w, p⟩ := hsp
  refine ⟨t, h1 y hy, h2 (rho0 N.length ds) m (L2.start N vs) H F al _ (env0_ok r) w ?_⟩
  unfold fnOf at p
  cases q : g (rho0 N.length ds) m with
  | next r' m' =>
    rw [q] at p
    exact fun σ' H' F' al' e w' _ => p _ H' F' (al'.take m.length) (e.cut (Nat.le_of_eq w.len)) (w'.cut _) .non
  | ret d m' =>
    rw [q] at p
    intro v H' F' al' e w' rv
    cases keep with
    | true => exact p v H' F' al' e w' rv
    | false => exact exit_ok w' e w.len rv p
  | exc c fs r' m' =>
    rw [q] at p
    intro dd σ' H' F' al' gs e w' _ hg hd
    have p' : Post b.K (RD b.K) E F al Q (if D.inF m.length fs = true then .exc c fs (m'.take m.length) else .stuck) := p
    split at p'
    · rename_i hi
      exact p' dd H' F' (al'.take m.length) gs (e.cut (Nat.le_of_eq w.len)) (w'.cut _) (hg.cut hi) hd
    · exact p'.elim
  | brk _ _ => rw [q] at p; exact p.elim
  | cont _ _ => rw [q] at p; exact p.elim
  | stuck => rw [q] at p; exact p.elim
theorem fnG_ok {b : Base} {x qual : Str} {params : Arguments} {body : List Stmt} {scope : Scope} {dvs : List V} {kws : List (Str × V)} {f : Addr} {fd : FuncData} {N ps : List Str} {k : Nat} {g : XS} (keep : Bool) (D : FunD b.K x qual params body scope dvs kws f fd) (S : FnScope N ps scope)
    (h : ∀ E : XK, DSs (b.at N scope k true) (wOf E) body g) : FnG b (k + 1) f fd ps (fnOf N.length keep g) := by
  refine ⟨fun A out s H ar us vs Q E hr hgd e0 hb r hsp => ?_⟩
  have hl := RpL.lenV hsp
  obtain ⟨oc, od, dV, kV, doc, pm, an, cdv, ct, osl, rfl, lk, hcd, _, _⟩ := D.ex
  have kIn : b.K.In s.heap := e0.mod.kin.keeps fun z o q => (e0.bs z o q).1
  have noLim : s.heap.NoLimit := e0.mod.nolimit.keeps fun z o q => (e0.bs z o q).1
  refine codeAny_call_function hr.depth (kIn _ _ lk) rfl S.co S.gen rfl (PySem.W.codeRec_of kIn hcd) (hb _ _ _ _ ?_)
  refine wpAny_newFunctionEnv_cells S.kind (fun z hz => ?_) fun env he s1 hx => ?_
  · obtain ⟨n, u⟩ := z
    rcases S.par n (List.of_mem_zip hz).1 with q | q
    · exact .inl q
    · exact .inr ⟨q, PySem.W.cellsFrom_some _ _ _ (.inl q)⟩
  · subst he
    refine ⟨noLim.keeps hx.toInCall.keep, codeAny_func ?_⟩
    let y : Dyn := { A := A.deeper (envOfC qual scope s.heap.objs.size f cdv), s_0 := s, H_0 := H, env := envOfC qual scope s.heap.objs.size f cdv, outer := out, stack := envOfC qual scope s.heap.objs.size f cdv :: out, ex := [], fn := fun _ => true, pn := [], xe := (cxOf (L2.CX b.P b.w) b.P b.w b.K b.mg b.base N qual scope f cdv A out s H E).xe }
    have ht : Takes ((b.at N scope k true).cx y) (wOf E) := takes_of (X := (b.at N scope k true).cx y) (E := E) rfl rfl rfl rfl
    have hy : OkD (b.at N scope k true) (wOf E) y := ⟨rfl, L2H.roomH_of (hr.deeper _), fun _ => hr.hd, ht, fun _ _ => rfl, fun _ => hgd, passes_of (X := (b.at N scope k true).cx y) rfl, (fun _ _ z => nomatch z), (fun _ => ⟨rfl, rfl, rfl⟩), fun _ z => nomatch z⟩
    obtain ⟨t, t1, t2⟩ := fnG_body (h E) hy hsp
    have I : Inv (cxOf (L2.CX b.P b.w) b.P b.w b.K b.mg b.base N qual scope f cdv A out s H E) [] (L2.start N vs) H s1 := inv_start S hr.hd e0 hl r hx
    have t1' : PSs (cxOf (L2.CX b.P b.w) b.P b.w b.K b.mg b.base N qual scope f cdv A out s H E) body t := t1
    refine wpAny_mono (t1'.run [] s1 (L2.start N vs) H _ I t2) (fun fl s' hs => ?_) fun e s' hs => hs
    cases fl with
    | ret u =>
      obtain ⟨v, σ', H', J, rv, q⟩ := hs
      exact ⟨v, H', J.os, J.bare, J.base, J.hok, rv, q⟩
    | next =>
      obtain ⟨σ', H', J, q⟩ := hs
      exact ⟨V.non, H', J.os, J.bare, J.base, J.hok, rfl, q⟩
    | brk => obtain ⟨_, _, _, q⟩ := hs; exact q.elim
    | cont => obtain ⟨_, _, _, q⟩ := hs; exact q.elim
section
variable {c : SC} {W : WX} {pos : Pos} {a d e o : Expr} {fa fb fe fo : XE'} {ft : XT} {es : List Expr} {fr : XA} {x : Str} {p0 apos : Pos} {k : Nat} {f : Addr} {fd : FuncData} {ps : List Str} {G : Fn}
abbrev SC.toB (c : SC) : Base := ⟨c.P, c.w, c.K, c.mg, c.base⟩
theorem runG {X : Cx} {b : Base} {pins : List (Addr × Obj)} {σ : L2.St} {H : Hp} {s : Shared} {Q : VK} {E : XK} {us : List Value} {vs : List V} (e1 : X.prog = b.P) (e2 : X.w = b.w) (e3 : X.K = b.K) (e4 : X.mg = b.mg) (e5 : X.base = b.base) (hF : FnG b k f fd ps G) (hr : Room k X.A) (hg : X.A.guards = some []) (hb : Binds X.K fd ps [])
    (hx : PassesAt (L2.CX X.prog X.w) X σ E) (I : Inv X pins σ H s) (r : Vals vs us) (h : spOf X.K ps.length G vs H Q E) : wpAny (model X.prog X.w) X.A (call (.ref f) us) (EP X pins σ Q) X.xe s := by
  obtain ⟨P, w, K, mg, base⟩ := b
  simp only at e1 e2 e3 e4 e5
  subst e1 e2 e3 e4 e5
  have hl := RpL.lenV h
  have hl2 : (us ++ []).length = ps.length := by rw [List.append_nil, ← r.length]; exact hl
  have hb2 := hb s us I.kIn hl2
  rw [List.append_nil] at hb2
  refine wpAny_call (codeAny_mono (hF.run X.A X.stack s H ⟨us, []⟩ us vs Q E hr hg I.env0 hb2 r h) fun q s' hq => ?_)
  cases q with
  | error z => exact hx pins H s z s' I hq
  | ok fl =>
    cases fl with
    | ret u => exact I.after hq
    | next => exact False.elim hq
    | brk => exact False.elim hq
    | cont => exact False.elim hq
theorem de_callG (hF : FnG c.toB k f fd ps G) (hm : c.mg x = some (.ref f)) (hk : PySem.W.keepIn c.K (.ref f) = true) (hb : Binds c.K fd ps []) (ha : DA c W (e :: es) fr) (hgd : c.gd = true := by rfl) (hr : k ≤ c.k := by exact Nat.le_of_ble_eq_true rfl) (hcm : c.calm = true := by rfl) (hl : (e :: es).length = ps.length := by rfl) (hg : c.sc.names.lookup x = some .globalImplicit := by rfl)
    (hdb : (x == ("__debug__" : Str)) = false := by decide) (hs : ∀ env, starEach (e :: es) env = (false, eval e env) :: starEach es env := by intro _; rfl) (hpl : ∀ env, (backTo pos (starEach es env)).any (·.1) = false := by intro _; rfl) : DE c W (.Call (.Name x p0) (e :: es) [] pos) (xCall G fr) := by
  obtain ⟨⟨t, a1, a2⟩, hlen⟩ := ha
  refine ⟨fun σ H Q => t σ H fun vs H1 => spOf c.K ps.length G vs H1 Q (WE W σ), fun y hy => ⟨fun pins s σ H Q I h => ?_⟩, fun ρ m σ H F al Q he hw p => ?_⟩
  · refine wpAny_Call_Name_kw (ld_glob I (hy.gl hg) hm ?_ hdb)
    refine PySem.W.callWith_K (h₀ := c.base) I.ok.mod.kin hk (thn ((a1 y hy).run pos pins s σ H _ I h) fun us s1 ⟨vs, H1, I1, r, q⟩ => ⟨I1.kIn, ?_⟩) (hs _) (hpl _)
    exact runG (X := c.cx y) (b := c.toB) rfl rfl rfl rfl rfl hF (hy.rm hcm hr) (hy.gd hgd) hb (passAt hy.takes σ) I1 r q
  · refine a2 ρ m σ H F al _ he hw (Post.step (p.lenA fun ds m' e => hlen ρ m ds m' e) fun ds m1 vs H1 F1 al1 e1 w1 q1 p1 => ?_)
    split at p1
    · rename_i hn
      exact ⟨ds, m1, F1, al1, hn.trans hl, q1, w1, p1⟩
    · exact p1.elim
/-! ### repr -/
def reprF (ds : List D) (m : Mu) : Out D := match ds with
  | [d] => (match toP (dere m d) with
    | some p => if p.showable = true ∧ p.depth ≤ 60 ∧ p.hasDict = false ∧ p.shown.length ≤ sizeLine then .ok (.str p.shown) m else .stuck
    | none => .stuck)
  | _ => .stuck
theorem b_repr (hgd : c.gd = true) : CallD c (.builtin "repr") reprF := by
  refine ⟨fun vs H Q => ∃ v p, vs = [v] ∧ Dp c.K H v p ∧ p.showable = true ∧ p.depth ≤ 60 ∧ p.hasDict = false ∧ p.shown.length ≤ sizeLine ∧ Q (.str p.shown) H, fun W y hy => ?_, fun W ds m vs H F al Q hw r p => ?_⟩
  · rintro pins s σ H vs us Q I rv ⟨v, p, rfl, hd, h1, h2, h3, h4, q⟩
    obtain ⟨u, rfl, ru⟩ := vals1 rv
    obtain ⟨as, hr⟩ := Dp.reads I p v u hd ru
    have hu : y.A.units + 64 < cLine := hy.un64
    have fin : ∀ (h' : Heap) (tk tk' : Tok), (∀ b o, s.heap.get? b = some o → h'.get? b = some o) → EP (c.cx y) pins σ Q (.str p.shown tk) { s with heap := h', toks := tk' } := fun h' tk tk' hk => ⟨.str p.shown, H, I.kept (t' := tk') hk, ⟨_, rfl⟩, q⟩
    cases hd with
    | lst _ _ =>
      obtain rfl : u = Value.ref _ := ru
      exact repr_of_reads' hr h1 (PyData.noDict_hsm h3) (hy.gd hgd) (show y.A.units + _ < cLine by omega) (fun _ _ e => e) (fun h' t tk hk => fin h' t tk hk) h4
    | tup _ _ =>
      obtain rfl : u = Value.ref _ := ru
      exact repr_of_reads' hr h1 (PyData.noDict_hsm h3) (hy.gd hgd) (show y.A.units + _ < cLine by omega) (fun _ _ e => e) (fun h' t tk hk => fin h' t tk hk) h4
    | non =>
      obtain rfl : u = Value.none := ru
      exact PySem.P.repr_of_none (fin s.heap _ _ fun _ _ e => e)
    | bl b =>
      obtain rfl : u = Value.bool b := ru
      exact PySem.P.repr_of_bool (fin s.heap _ _ fun _ _ e => e)
    | int i =>
      obtain ⟨t, rfl⟩ := ru
      exact PySem.P.repr_of_int (by simpa [PyData.showable] using h1) (fin s.heap _ _ fun _ _ e => e)
    | str x =>
      obtain ⟨t, rfl⟩ := ru
      exact PySem.P.repr_of_str (fin s.heap _ _ fun _ _ e => e) h4
  · unfold reprF at p
    split at p
    · cases r with
      | cons q r =>
      cases r
      split at p
      · rename_i pd hp
        split at p
        · rename_i hb
          exact ⟨_, pd, rfl, dere_dp hw q hp, hb.1, hb.2.1, hb.2.2.1, hb.2.2.2, p _ H F al Le.refl hw (.str _)⟩
        · exact p.elim
      · exact p.elim
    · exact p.elim
end
end DS

namespace DS
open PySem PySem.Spec PyProof.Rows L2
section
variable {c : SC} {W : WX} {pos : Pos} {a b d e o : Expr} {fa fb fe fo : XE'} {ft : XT} {es : List Expr} {fr : XA} {x : Str} {p0 apos : Pos} {k : Nat} {f : Addr} {fd : FuncData} {ps : List Str} {G : Fn}
/-! ### isinstance -/
/-- what the written part must tell of classes (the laws' own list cs) -/
def tyNames : List String := ["NoneType", "bool", "int", "str", "tuple", "list"]
structure Isi (K : PySem.W.Frag) (cs : List Str) : Prop where
  cl : ∀ cn ∈ cs, Cls K (He.ga K cn) ∧ PySem.W.findIn K (.ref (He.ga K cn)) "__class__" = some (some (.builtin "object.__class__")) ∧ PySem.W.mroIn K (He.ga K cn) (.type "object") = some true
  gs : PySem.W.specialIn K (.builtin "object.__class__") "__get__" = some (some (.builtin "getset_descriptor.__get__"))
  tk : PySem.W.takesIn K (.builtin "object.__class__") = some true
  ot : ∀ cn ∈ cs, ∀ n ∈ tyNames, PySem.W.kitOne K (.ref (He.ga K cn)) (.type n) = some false
  to : ∀ n ∈ tyNames, ∀ cn ∈ cs, PySem.W.kitOne K (.type n) (.ref (He.ga K cn)) = some false
  oo : ∀ cn ∈ cs, ∀ cm ∈ cs, PySem.W.kitOne K (.ref (He.ga K cn)) (.ref (He.ga K cm)) = some (decide (cn = cm))
/-- the type of data: a built-in one, a class -/
def tyOf (m : Mu) (d : D) : Option (String ⊕ Str) := match d with
  | .non => some (.inl "NoneType")
  | .bl _ => some (.inl "bool")
  | .int _ => some (.inl "int")
  | .str _ => some (.inl "str")
  | .tup _ => some (.inl "tuple")
  | .lst _ => some (.inl "list")
  | d => match insOf m d with
    | some (c, _) => some (.inr c)
    | none => match ownOf m d with
      | some _ => some (.inl "list")
      | none => none
def tyVal (K : PySem.W.Frag) : String ⊕ Str → Value
  | .inl n => .type n
  | .inr c => .ref (He.ga K c)
theorem sqt_ty {K : PySem.W.Frag} {H : Hp} {q : Addr} {vs : List V} (s : SqT K H q vs) : TyX K H (.ref q) (.type "tuple") := by
  rcases s with (s | ⟨o, s⟩) | ⟨o, its, n, h1, h2, h3⟩
  · exact .base (.tup s)
  · exact .fTuple s
  · exact .kTuple h1 h2
theorem tyOf_ok {K : PySem.W.Frag} {cs : List Str} {F : Hp} {al : List Addr} {m : Mu} {H : Hp} {d : D} {v : V} {t : String ⊕ Str} (I : Isi K cs) (w : Wd K F al m H) (r : Rp K F al d v) (h : tyOf m d = some t) (hc : ∀ cn, t = .inr cn → cn ∈ cs) : TyX K H v (tyVal K t) := by
  have rest : (match insOf m d with
    | some (c, _) => some (.inr c)
    | none => match ownOf m d with
      | some _ => some (.inl "list")
      | none => (none : Option (String ⊕ Str))) = some t → TyX K H v (tyVal K t) := fun h => by
    split at h
    · rename_i cn gs hi
      cases h
      obtain ⟨q, dx, fs, rfl, h1, h2⟩ := insOf_ok w r hi
      obtain ⟨c1, c2, c3⟩ := I.cl cn (hc cn rfl)
      exact .base (.ins h1 c1 c2 I.gs I.tk c3)
    · split at h
      · rename_i xs hx
        cases h
        obtain ⟨q, vs, rfl, h1, h2⟩ := ownOf_ok w r hx
        exact .base (.lst h1)
      · cases h
  cases r with
  | non => cases h; exact .base .non
  | bl b => cases h; exact .base (.bl b)
  | int i => cases h; exact .base (.int i)
  | str x => cases h; exact .base (.str x)
  | tup s _ => cases h; exact sqt_ty (sqt_up w.sub s)
  | lst s _ => cases h; exact .base (.lst (w.sub _ _ s))
  | _ => exact rest h
def isiB (cs : List Str) (t : String ⊕ Str) (d : D) : Option Bool := match t, d with
  | .inl a, .ty b => L2.kitB a b
  | .inr a, .ty b => if a ∈ cs ∧ b ∈ tyNames then some false else none
  | .inl a, .glo b => if a ∈ tyNames ∧ b ∈ cs then some false else none
  | .inr a, .glo b => if a ∈ cs ∧ b ∈ cs then some (decide (a = b)) else none
  | _, _ => none
def isiF (cs : List Str) (ds : List D) (m : Mu) : Out D := match ds with
  | [d, e] => (match tyOf m d with
    | some t => (match isiB cs t e with
      | some b => .ok (.bl b) m
      | none => .stuck)
    | none => .stuck)
  | _ => .stuck
theorem b_isi {cs : List Str} (I : Isi c.K cs) : CallD c (.builtin "isinstance") (isiF cs) := by
  refine ⟨rIsi c.K, fun W y hy => call_isi (X := c.cx y), fun W ds m vs H F al Q hw r p => ?_⟩
  unfold isiF at p
  split at p
  · cases r with
    | cons q r =>
    cases r with
    | cons q' r =>
    cases r
    split at p
    · rename_i t ht
      split at p
      · rename_i b hb
        unfold isiB at hb
        split at hb
        · cases q'
          exact ⟨_, _, _, _, b, rfl, .ty _, tyOf_ok I hw q ht (fun _ z => nomatch z), L2.kit_ty hb, p _ H F al Le.refl hw (.bl _)⟩
        · cases q'
          split at hb
          · rename_i hi
            cases hb
            exact ⟨_, _, _, _, false, rfl, .ty _, tyOf_ok I hw q ht (fun _ z => by cases z; exact hi.1), I.ot _ hi.1 _ hi.2, p _ H F al Le.refl hw (.bl _)⟩
          · cases hb
        · cases q'
          split at hb
          · rename_i hi
            cases hb
            exact ⟨_, _, _, _, false, rfl, .own _, tyOf_ok I hw q ht (fun _ z => nomatch z), I.to _ hi.1 _ hi.2, p _ H F al Le.refl hw (.bl _)⟩
          · cases hb
        · cases q'
          split at hb
          · rename_i hi
            cases hb
            exact ⟨_, _, _, _, _, rfl, .own _, tyOf_ok I hw q ht (fun _ z => by cases z; exact hi.1), I.oo _ hi.1 _ hi.2, p _ H F al Le.refl hw (.bl _)⟩
          · cases hb
        · cases hb
      · exact p.elim
    · exact p.elim
  · exact p.elim
/-- a built-in type's name, an own class's -/
theorem de_ty {n : String} (hm : c.mg x = none) (hv : bootBuiltins x = some (.type n)) (hg : c.sc.names.lookup x = some .globalImplicit := by rfl) (hn : x ≠ "__name__" := by decide) (hd : (x == ("__debug__" : Str)) = false := by decide) : DE c W (.Name x pos) (xC (.ty n)) :=
  ⟨_, fun y hy => pe_bltn (v := .ty n) (hy.gl hg) hm hv rfl hn hd, fun _ _ _ H F al Q _ hw p => p _ H F al Le.refl hw (.ty n)⟩
theorem de_glo (hm : c.mg x = some (.ref (He.ga c.K x))) (hg : c.sc.names.lookup x = some .globalImplicit := by rfl) (hd : (x == ("__debug__" : Str)) = false := by decide) : DE c W (.Name x pos) (xC (.glo x)) :=
  ⟨_, fun y hy => pe_glob (v := .ref (He.ga c.K x)) (hy.gl hg) hm rfl hd, fun _ _ _ H F al Q _ hw p => p _ H F al Le.refl hw (.glo x)⟩
/-! ### C(e, ..) with defaults, with keywords -/
def xMakeD (cn : Str) (G : Fn) (frz : Bool) (dds : List D) (a : XA) : XE' := fun r m => (a r m).bind fun ds m1 => makeD cn G frz (ds ++ dds) m1
theorem de_makeD {cn : Str} {frz : Bool} {dvs : List V} (dds : List D) (hF : FOk c k f fd ps G) (hM : Mk c.K (He.ga c.K cn) f) (hm : c.mg x = some (.ref (He.ga c.K cn))) (hb : ∃ ds, Vals dvs ds ∧ Binds c.K fd ps ds) (hd : ∀ F al, RpL c.K F al dds dvs) (ha : DA c W (e :: es) fr) (hr : k + 1 ≤ c.k := by exact Nat.le_of_ble_eq_true rfl) (hcm : c.calm = true := by rfl) (hl : (e :: es).length + dds.length + 1 = ps.length := by rfl) (hg : c.sc.names.lookup x = some .globalImplicit := by rfl)
    (hdb : (x == ("__debug__" : Str)) = false := by decide) (hs : ∀ env, starEach (e :: es) env = (false, eval e env) :: starEach es env := by intro _; rfl) (hpl : ∀ env, (backTo pos (starEach es env)).any (·.1) = false := by intro _; rfl) : DE c W (.Call (.Name x p0) (e :: es) [] pos) (xMakeD cn G frz dds fr) := by
  obtain ⟨⟨t, a1, a2⟩, hlen⟩ := ha
  obtain ⟨dsv, hv, hb⟩ := hb
  refine ⟨tMakeS (He.ga c.K cn) (spOf c.K ps.length G) dvs ps.length (WE W) t, fun y hy => pe_makeS (X := c.cx y) hM hF (hy.rm hcm hr) (hy.gl hg) hm hb hv (fun σ => passAt hy.takes σ) (a1 y hy) hdb (hs _) (hpl _), fun ρ m σ H F al Q he hw p => ?_⟩
  refine a2 ρ m σ H F al _ he hw (Post.step (p.lenA fun ds m' e => hlen ρ m ds m' e) fun ds m1 vs H1 F1 al1 e1 w1 q1 p1 => ?_)
  split at p1
  · rename_i hn
    refine ⟨?_, fun x dx hx hdx hne => make_ok (by rw [List.length_append, hn]; exact hl) w1 (q1.append (hd F1 al1)) p1 x dx hx hdx hne⟩
    rw [← q1.len, ← (hd F1 al1).len, hn]
    exact hl
  · exact p1.elim
def DK (c : SC) (W : WX) (kws : List Keyword) (f : XA) : Prop := (∃ t : TA, (∀ y, OkD c W y → PK (c.cx y) kws t) ∧
  ∀ r m σ H F al Q, EnvOk c.K F al r σ → Wd c.K F al m H → Post c.K (RL c.K) (atS W σ) F al Q (f r m) → t σ H Q) ∧ ∀ r m ds m', f r m = .ok ds m' → ds.length = kws.length
theorem dk_nil : DK c W [] xaNil := ⟨⟨tNil, fun _ _ => pk_nil, fun _ _ _ H F al Q _ hw p => p [] H F al Le.refl hw .nil⟩, fun r m ds m' h => by cases h; rfl⟩
theorem xaCons_len {n : Nat} (hl : ∀ r m ds m', fr r m = .ok ds m' → ds.length = n) : ∀ r m ds m', xaCons fe fr r m = .ok ds m' → ds.length = n + 1 := fun r m ds m' h => by
  unfold xaCons at h
  cases h1 : fe r m with
  | ok x m1 =>
    rw [h1] at h
    have h' : Out.bind (fr r m1) (fun xs m2 => .ok (x :: xs) m2) = .ok ds m' := h
    cases h2 : fr r m1 with
    | ok xs m2 =>
      rw [h2] at h'
      cases h'
      rw [List.length_cons, hl _ _ _ _ h2]
    | exc _ _ _ => rw [h2] at h'; cases h'
    | stuck => rw [h2] at h'; cases h'
  | exc _ _ _ => rw [h1] at h; cases h
  | stuck => rw [h1] at h; cases h
theorem dk_cons {nm : Option Str} {kpos : Pos} {kws : List Keyword} (ha : DE c W e fe) (hr : DK c W kws fr) : DK c W (⟨nm, e, kpos⟩ :: kws) (xaCons fe fr) := by
  obtain ⟨t, a1, a2⟩ := ha
  obtain ⟨⟨u, b1, b2⟩, hl⟩ := hr
  refine ⟨⟨tCons t u, fun y hy => pk_cons (a1 y hy) (b1 y hy), fun ρ m σ H F al Q he hw p => ?_⟩, xaCons_len hl⟩
  refine a2 ρ m σ H F al _ he hw (Post.step p fun x m1 v H1 F1 al1 e1 w1 q1 p1 => ?_)
  refine b2 ρ m1 σ H1 F1 al1 _ (he.up e1) w1 (Post.step p1 fun xs m2 vs H2 F2 al2 e2 w2 q2 p2 => ?_)
  exact p2 _ H2 F2 al2 Le.refl w2 (.cons (q1.up e2) q2)
/-- C(e, .., k = v): the values between stand by their defaults -/
def xMakeK (cn : Str) (G : Fn) (frz : Bool) (mid : List D) (a b : XA) : XE' := fun r m => (a r m).bind fun ds m1 => (b r m1).bind fun zs m2 => makeD cn G frz (ds ++ (mid ++ zs)) m2
theorem de_makeK {cn : Str} {frz : Bool} {n : Nat} {ks : List Str} {g : List Value → List Value → List Value} {gV : List V → List V → List V} {midV : List V} {kws : List Keyword} {fk : XA} (mid : List D) (hF : FOk c k f fd ps G) (hM : Mk c.K (He.ga c.K cn) f) (hm : c.mg x = some (.ref (He.ga c.K cn))) (hb : KBn c.K fd ps (n + 1) ks g gV) (hgV : ∀ x vs zs, gV (x :: vs) zs = x :: (vs ++ (midV ++ zs))) (hmid : ∀ F al, RpL c.K F al mid midV) (ha : DA c W (e :: es) fr) (hkw : DK c W kws fk)
    (hr : k + 1 ≤ c.k := by exact Nat.le_of_ble_eq_true rfl) (hcm : c.calm = true := by rfl) (hn : (e :: es).length = n := by rfl) (hl : n + (mid.length + kws.length) + 1 = ps.length := by rfl) (hg : c.sc.names.lookup x = some .globalImplicit := by rfl)
    (hall : ∀ env, (backToKw pos (keywordEach kws env)).all (·.1.isSome) = true := by intro _; rfl) (hks : ∀ env, (backToKw pos (keywordEach kws env)).filterMap (·.1) = ks := by intro _; rfl) (hkl : kws.length = ks.length := by rfl)
    (hdb : (x == ("__debug__" : Str)) = false := by decide) (hs : ∀ env, starEach (e :: es) env = (false, eval e env) :: starEach es env := by intro _; rfl) (hpl : ∀ env, ((backTo pos (starEach (e :: es) env)).any (·.1) || (backToKw pos (keywordEach kws env)).any (·.1.isNone)) = false := by intro _; rfl) : DE c W (.Call (.Name x p0) (e :: es) kws pos) (xMakeK cn G frz mid fr fk) := by
  obtain ⟨⟨t, a1, a2⟩, hlen⟩ := ha
  obtain ⟨⟨tk, k1, k2⟩, hlenk⟩ := hkw
  refine ⟨fun σ H Q => t σ H fun vs H1 => tk σ H1 fun zs H2 => vs.length = n ∧ zs.length = ks.length ∧ ∀ x dx, H2 x = none → H2 dx = none → dx ≠ x → spOf c.K ps.length G (gV (.ref x :: vs) zs) (upd (upd H2 dx (.own x)) x (.ins (He.ga c.K cn) dx [])) (fun v H3 => v = .non ∧ Q (.ref x) H3) (WE W σ), fun y hy => ⟨fun pins s σ H Q I h => wpAny_Call_Name_kw (ld_glob I (hy.gl hg) hm (PySem.W.callWith_KW (h₀ := c.base) I.ok.mod.kin hM.kp (hall _) (thn ((a1 y hy).run pos pins s σ H _ I h) fun us s1 ⟨vs, H1, I1, r, q⟩ => thn ((k1 y hy).run pos pins s1 σ H1 _ I1 q) fun ws s2 ⟨zs, H2, I2, rz, l1, l2, q2⟩ => ⟨I2.kIn, by
      rw [hks]
      exact run_mkS (X := c.cx y) (E := WE W) (B := fun z => g (.ref z :: us) ws) (Bv := fun z => gV (.ref z :: vs) zs) hM hF (hy.rm hcm hr) (fun s3 z kI => hb.to s3 (.ref z :: us) ws kI (congrArg Nat.succ (r.length.symm.trans l1)) (rz.length.symm.trans l2)) (passAt hy.takes σ) I2 (fun z => hb.rel (.cons rfl r) rz) q2⟩) (hpl _) (hs _)) hdb)⟩, fun ρ m σ H F al Q he hw p => ?_⟩
  refine a2 ρ m σ H F al _ he hw (Post.step (p.lenA fun ds m' e => hlen ρ m ds m' e) fun ds m1 vs H1 F1 al1 e1 w1 q1 p1 => ?_)
  split at p1
  · rename_i hn1
    refine k2 ρ m1 σ H1 F1 al1 _ (he.up e1) w1 (Post.step (p1.lenA fun ds m' e => hlenk ρ m1 ds m' e) fun zs m2 ws H2 F2 al2 e2 w2 q2 p2 => ?_)
    split at p2
    · rename_i hn2
      refine ⟨by rw [← q1.len, hn1]; exact hn, by rw [← q2.len, hn2]; exact hkl, fun x dx hx hdx hne => ?_⟩
      rw [hgV]
      exact make_ok (by rw [List.length_append, List.length_append, hn1, hn2, hn]; exact hl) w2 ((q1.up e2).append ((hmid F2 al2).append q2)) p2 x dx hx hdx hne
    · exact p2.elim
  · exact p1.elim
theorem run_kwS {X : Cx} {CX : CXT} {n : Nat} {f : Addr} {sp : Sp} {ks : List Str} {g : List Value → List Value → List Value} {gV : List V → List V → List V} {E : L2.St → XK} {pins : List (Addr × Obj)} {σ : L2.St} {H : Hp} {s : Shared} {Q : VK} {us ws : List Value} {vs zs : List V} (F : FnOk X.prog X.w X.K X.mg X.base CX k f fd ps sp) (hr : Room k X.A) (hb : KBn X.K fd ps n ks g gV)
    (hx : PassesAt CX X σ (E σ)) (I : Inv X pins σ H s) (r : Vals vs us) (rz : Vals zs ws) (l1 : vs.length = n) (l2 : zs.length = ks.length) (h : sp (gV vs zs) H Q (E σ)) : wpAny (model X.prog X.w) X.A (call (.ref f) us (ks.zip ws)) (EP X pins σ Q) X.xe s := by
  refine wpAny_call (codeAny_mono (F.run X.A X.stack s H ⟨us, ks.zip ws⟩ _ (gV vs zs) Q (E σ) hr I.env0 (hb.to s us ws I.kIn (r.length.symm.trans l1) (rz.length.symm.trans l2)) (hb.rel r rz) h) fun y s' q => ?_)
  rcases y with e | (_ | _ | _ | u)
  · exact hx pins H s e s' I q
  · exact False.elim q
  · exact False.elim q
  · exact False.elim q
  · exact I.after q
/-- f(k = v, ..) -/
def xCallK (G : Fn) (sh : List D → List D) (b : XA) : XE' := fun r m => (b r m).bind fun zs m2 => G (sh zs) m2
theorem de_callK {ks : List Str} {g : List Value → List Value → List Value} {gV : List V → List V → List V} {kws : List Keyword} {fk : XA} (sh : List D → List D) (hF : FOk c k f fd ps G) (hm : c.mg x = some (.ref f)) (hk : PySem.W.keepIn c.K (.ref f) = true) (hb : KBn c.K fd ps 0 ks g gV) (hsh : ∀ F al zs ws, zs.length = kws.length → RpL c.K F al zs ws → RpL c.K F al (sh zs) (gV [] ws)) (hl : ∀ zs : List D, zs.length = kws.length → (sh zs).length = ps.length) (hkw : DK c W kws fk)
    (hr : k ≤ c.k := by exact Nat.le_of_ble_eq_true rfl) (hcm : c.calm = true := by rfl) (hg : c.sc.names.lookup x = some .globalImplicit := by rfl)
    (hall : ∀ env, (backToKw pos (keywordEach kws env)).all (·.1.isSome) = true := by intro _; rfl) (hks : ∀ env, (backToKw pos (keywordEach kws env)).filterMap (·.1) = ks := by intro _; rfl) (hkl : kws.length = ks.length := by rfl)
    (hdb : (x == ("__debug__" : Str)) = false := by decide) (hpl : ∀ env, ((backTo pos (starEach [] env)).any (·.1) || (backToKw pos (keywordEach kws env)).any (·.1.isNone)) = false := by intro _; rfl) : DE c W (.Call (.Name x p0) [] kws pos) (xCallK G sh fk) := by
  obtain ⟨⟨tk, k1, k2⟩, hlenk⟩ := hkw
  refine ⟨fun σ H Q => tk σ H fun zs H1 => zs.length = ks.length ∧ spOf c.K ps.length G (gV [] zs) H1 Q (WE W σ), fun y hy => ⟨fun pins s σ H Q I h => ?_⟩, fun ρ m σ H F al Q he hw p => ?_⟩
  · refine wpAny_Call_Name_kw (ld_glob I (hy.gl hg) hm ?_ hdb)
    refine PySem.W.callWith_KW0 (h₀ := c.base) I.ok.mod.kin hk (hall _) ?_ (hpl _)
    refine thn ((k1 y hy).run pos pins s σ H _ I h) fun ws s2 ⟨zs, H2, I2, rz, lz, q2⟩ => ⟨I2.kIn, ?_⟩
    rw [hks]
    exact run_kwS (X := c.cx y) (E := WE W) (us := []) (vs := []) hF (hy.rm hcm hr) hb (passAt hy.takes σ) I2 .nil rz rfl lz q2
  · refine k2 ρ m σ H F al _ he hw (Post.step (p.lenA fun ds m' e => hlenk ρ m ds m' e) fun zs m2 ws H2 F2 al2 e2 w2 q2 p2 => ?_)
    split at p2
    · rename_i hn
      exact ⟨by rw [← q2.len, hn]; exact hkl, sh zs, m2, F2, al2, hl zs hn, hsh F2 al2 zs ws hn q2, w2, p2⟩
    · exact p2.elim
/-! ### dicts with text keys: {k: v for ..}, d[k] -/
def getF (f : Str) (gs : List (Str × D)) : Option D := gs.lookup f
def dgetD (d e : D) (m : Mu) : Out D := match d, e with
  | .dct gs, .str f => (match gs.lookup f with
    | some v => .ok v m
    | none => .stuck)
  | _, _ => .stuck
theorem valV_look {fs : List (Str × V)} {f : Str} {v : V} (h : fs.lookup f = some v) : valV (fs.map fun p => ((Sum.inr p.1 : Key), p.2)) (Sum.inr f) = some v := by
  induction fs with
  | nil => cases h
  | cons p r ih =>
    obtain ⟨g, w⟩ := p
    unfold valV at ih ⊢
    rw [List.lookup_cons] at h
    simp only [List.map_cons, List.find?_cons]
    by_cases e : f = g
    · subst e
      simp at h
      simp [h]
    · have e1 : (f == g) = false := by simpa using e
      rw [e1] at h
      have e2 : decide ((Sum.inr g : Key) = Sum.inr f) = false := decide_eq_false fun z => e (Sum.inr.inj z).symm
      rw [e2]
      exact ih h
theorem de_dget (ha : DE c W a fa) (hb : DE c W b fb) (hs : NoSl b := by exact fun _ _ => rfl) : DE c W (.Subscript a b pos) (xOp dgetD fa fb) := by
  obtain ⟨t, a1, a2⟩ := ha
  obtain ⟨u, b1, b2⟩ := hb
  refine ⟨tDGet t u, fun y hy => pe_dget (X := c.cx y) (show y.A.units + 1 < cLine by have := hy.un64; omega) (a1 y hy) (b1 y hy) hs, fun ρ m σ H F al Q he hw p => ?_⟩
  refine a2 ρ m σ H F al _ he hw (Post.step p fun z m1 v H1 F1 al1 e1 w1 q1 p1 => b2 ρ m1 σ H1 F1 al1 _ (he.up e1) w1 (Post.step p1 fun z' m2 v' H2 F2 al2 e2 w2 q2 p2 => ?_))
  have q1' := q1.up e2
  clear q1
  unfold dgetD at p2
  split at p2
  · rename_i gs f
    cases q2
    cases q1' with
    | @dct q fs _ s r =>
    split at p2
    · rename_i dv hv
      obtain ⟨u', h3, h4⟩ := (r.look (x := f)).2 dv hv
      exact ⟨q, u', rfl, .inl ⟨_, Sum.inr f, .inl (w2.sub _ _ s), rfl, (valV_look h3).symm⟩, p2 _ H2 F2 al2 Le.refl w2 h4⟩
    · exact p2.elim
  · exact p2.elim
def dputD (n : Nat) (k d : D) (m : Mu) : Out Unit := match m[n]?, k with
  | some (.dct gs), .str f => if d.inB n = true ∧ gs.length < 1000 ∧ gs.lookup f = none then .ok () (m.set n (.dct (gs ++ [(f, d)]))) else .stuck
  | _, _ => .stuck
def dcF (g : XG) (tk te : XE') (n : Nat) (r0 : Rho) : List D → Mu → Out Unit
  | [], m => .ok () m
  | x :: xs, m => (g x r0 m).ne.bind fun r1 m1 => (tk r1 m1).ne.bind fun k m2 => (te r1 m2).ne.bind fun d m3 => (dputD n k d m3).bind fun _ m4 => dcF g tk te n r0 xs m4
def dcEnd (n : Nat) (m : Mu) : Out D := match m[n]? with
  | some (.dct gs) => .ok (.dct gs) (m.take n)
  | _ => .stuck
def xDc (f : XA) (vs : List Nat) (g : XG) (tk te : XE') : XE' := fun r m => (f r m).bind fun xs m1 => (dcF g tk te m1.length (wipeR r vs) xs (m1 ++ [.dct []])).bind fun _ m2 => dcEnd m1.length m2
theorem wipe_twice (ws : List Nat) (σ : L2.St) : L2.wipe (L2.wipe σ ws) ws = L2.wipe σ ws := by
  apply List.ext_getElem?
  intro n
  have hl : ∀ (us : List Nat) (τ : L2.St), n ∈ us → n < τ.length → (L2.wipe τ us)[n]? = some none := fun us => by
    induction us with
    | nil => intro τ h _; simp at h
    | cons u us ih =>
      intro τ h hn
      unfold L2.wipe
      by_cases hu : n = u
      · subst hu
        rw [List.getElem?_set_self (by rw [wipe_length]; exact hn)]
      · rw [List.getElem?_set_ne (Ne.symm hu)]
        exact ih τ ((List.mem_cons.mp h).resolve_left hu) hn
  have hr : ∀ (us : List Nat) (τ : L2.St), n ∉ us → (L2.wipe τ us)[n]? = τ[n]? := fun us => by
    induction us with
    | nil => intro τ _; rfl
    | cons u us ih =>
      intro τ h
      unfold L2.wipe
      rw [List.getElem?_set_ne (fun z => h (by simp [z]))]
      exact ih τ fun z => h (by simp [z])
  by_cases hn : n ∈ ws
  · by_cases hlen : n < σ.length
    · rw [hl ws _ hn (by rw [wipe_length]; exact hlen), hl ws _ hn hlen]
    · rw [List.getElem?_eq_none_iff.mpr (by rw [wipe_length, wipe_length]; omega), List.getElem?_eq_none_iff.mpr (by rw [wipe_length]; omega)]
  · rw [hr ws _ hn]
theorem any_none {fs : List (Str × V)} {f : Str} (h : fs.lookup f = none) : (((fs.map fun p => ((Sum.inr p.1 : Key), p.2))).any fun kv => decide (kv.1 = Sum.inr f)) = false := by
  induction fs with
  | nil => rfl
  | cons p r ih =>
    obtain ⟨g, w⟩ := p
    rw [List.lookup_cons] at h
    by_cases e : f = g
    · subst e; simp at h
    · have e1 : (f == g) = false := by simpa using e
      rw [e1] at h
      have e2 : decide ((Sum.inr g : Key) = Sum.inr f) = false := decide_eq_false fun z => e (Sum.inr.inj z).symm
      rw [List.map_cons, List.any_cons, e2]
      exact ih h
theorem RpF.snoc {K : PySem.W.Frag} {F : Hp} {al : List Addr} {f : Str} {q : D} {w : V} (h : Rp K F al q w) : ∀ {gs : List (Str × D)} {fs : List (Str × V)}, RpF K F al gs fs → RpF K F al (gs ++ [(f, q)]) (fs ++ [(f, w)])
  | _, _, .nil => .cons h .nil
  | _, _, .cons r t => .cons r (RpF.snoc h t)
theorem inF_append {n : Nat} : ∀ {xs ys : List (Str × D)}, D.inF n xs = true → D.inF n ys = true → D.inF n (xs ++ ys) = true
  | [], _, _, h => h
  | (_, x) :: r, _, h, h' => by
    rw [D.inF, Bool.and_eq_true] at h
    show D.inF n ((_, x) :: (r ++ _)) = true
    rw [D.inF, h.1, inF_append h.2 h']; rfl
theorem de_dc {kx vx tg it : Expr} {scope : Scope} (own : List (Str × Nat)) {fi : XA} {gt : XG} {tk te : XE'} (hN : c.N.Nodup) (ok : blkC c.N c.sc scope own = true) (hi : DI c W tg it fi) (hg : DG (c.blk scope) noW (own.map (·.2)) tg gt) (hk : DE (c.blk scope) noW kx tk) (he : DE (c.blk scope) noW vx te)
    (hs : ∀ env x, foldedSetIterable it env x = pure x := by intro _ _; rfl) (hcm : c.calm = true := by rfl) : DE c W (.DictComp kx vx [⟨tg, it, [], 0⟩] scope pos) (xDc fi (own.map (·.2)) gt tk te) := by
  obtain ⟨wi, i1, i2⟩ := hi
  obtain ⟨tg', g1, g2⟩ := hg
  obtain ⟨t2, k1, k2⟩ := hk
  obtain ⟨t3, e1, e2⟩ := he
  refine ⟨tDc wi tg' tYes t2 t3 (own.map (·.2)), fun y hy => pe_dc (X := c.cx y) hcm hN (i1 y hy) (by
      have z : (c.cx y).env.scope = c.sc := hy.scope
      rw [z]; exact blkOk_by ok) (fun s H C cl fp => g1 _ (hy.blk s H scope C cl fp)) (fun s H C cl fp => pts_nil) (fun s H C cl fp => k1 _ (hy.blk s H scope C cl fp)) (fun s H C cl fp => e1 _ (hy.blk s H scope C cl fp)) (hs _), fun r m σ H F al Q he hw p => ?_⟩
  refine i2 r m σ H F al _ he hw (Post.step p fun xs m1 J H1 F1 al1 e3 w1 q1 p1 => ?_)
  have he1 := he.up e3
  intro D' hD
  have hlast : (al1 ++ [D'])[m1.length]? = some D' := by rw [← w1.len, List.getElem?_append_right (Nat.le_refl _), Nat.sub_self]; rfl
  have w0 : Wd c.K F1 (al1 ++ [D']) (m1 ++ [.dct []]) (upd H1 D' (.dK [])) := w1.newCell hD ⟨w1.fnone hD, [], upd_same, .nil⟩ rfl
  refine ⟨fun i k H' => ∃ m' F' al', k = xs.length - i ∧ i ≤ xs.length ∧ Le F1 (al1 ++ [D']) F' al' ∧ Wd c.K F' al' m' H' ∧ Post c.K (RD c.K) (atS W σ) F1 al1 Q ((dcF gt tk te m1.length (wipeR r (own.map (·.2))) (xs.drop i) m').bind fun _ m2 => dcEnd m1.length m2),
    ⟨xs.length, _, F1, al1 ++ [D'], rfl, Nat.zero_le _, Le.refl, w0, p1⟩, ?_⟩
  rintro i k H' ⟨m', F', al', rfl, hi, e', w', p'⟩
  have e1' : Le F1 al1 F' al' := Le.snoc.trans e'
  by_cases hlt : i < xs.length
  · have hd : xs[i]? = some xs[i] := List.getElem?_eq_getElem hlt
    obtain ⟨hgo, hyl⟩ := q1.go H' F' al' m' i xs[i] e1' w' hd
    refine .inr ⟨hgo, fun H2 => ∃ m2 F2 al2, Le F1 (al1 ++ [D']) F2 al2 ∧ Wd c.K F2 al2 m2 H2 ∧ Post c.K (RD c.K) (atS W σ) F1 al1 Q ((dcF gt tk te m1.length (wipeR r (own.map (·.2))) (xs.drop (i + 1)) m2).bind fun _ m2 => dcEnd m1.length m2), fun H2 ⟨m2, F2, al2, z1, z2, z3⟩ => ⟨xs.length - (i + 1), by omega, m2, F2, al2, rfl, hlt, z1, z2, z3⟩, fun x H2 hy => ?_⟩
    obtain ⟨F2, e2', w2, q2⟩ := hyl x H2 hy
    rw [List.drop_eq_getElem_cons hlt, dcF] at p'
    have he2 : EnvOk c.K F2 al' (wipeR r (own.map (·.2))) (wipe σ (own.map (·.2))) := ((he1.up e1').up e2').wipe _
    refine g2 xs[i] x _ m' _ H2 F2 al' _ he2 w2 q2 (Post.stepN p'.assoc fun r3 m3 σ3 H3 F3 al3 e3' w3 q3 p3 => ?_)
    refine ⟨q3.2.trans (wipe_twice _ _), ?_⟩
    show t2 σ3 H3 _
    refine k2 r3 m3 σ3 H3 F3 al3 _ q3.1 w3 (Post.stepN p3.assoc fun kd m4 ky H4 F4 al4 e4 w4 q4 p4 => ?_)
    refine e2 r3 m4 σ3 H4 F4 al4 _ (q3.1.up e4) w4 (Post.stepN p4.assoc fun q m5 y H5 F5 al5 e5 w5 q5 p5 => ?_)
    have up5 : Le F1 (al1 ++ [D']) F5 al5 := (((e'.trans e2').trans e3').trans e4).trans e5
    have hx5 : al5[m1.length]? = some D' := up5.a _ _ hlast
    have q4' := q4.up e5
    unfold dputD at p5
    cases hc : m5[m1.length]? with
    | none => rw [hc] at p5; exact p5.elim
    | some cl =>
      cases cl with
      | ins _ _ => rw [hc] at p5; exact p5.elim
      | lst _ => rw [hc] at p5; exact p5.elim
      | dead => rw [hc] at p5; exact p5.elim
      | tab _ => rw [hc] at p5; exact p5.elim
      | dct gs =>
        rw [hc] at p5
        cases q4' with
        | str f =>
          simp only at p5
          obtain ⟨hf, fs, h4, h5⟩ := w5.cell _ _ _ hx5 hc
          by_cases hb : q.inB m1.length = true ∧ gs.length < 1000 ∧ gs.lookup f = none
          · rw [if_pos hb] at p5
            have hgn : D.inF m1.length gs = true := w5.gen _ _ hc
            have hno : fs.lookup f = none := (h5.look (x := f)).1 hb.2.2
            refine ⟨_, Sum.inr f, rfl, h4, ?_, _, F5, al5, up5, w5.write (c := .dct (gs ++ [(f, q)])) hx5 hf ⟨hf, fs ++ [(f, y)], ?_, RpF.snoc q5 h5⟩ (inF_append hgn (by rw [D.inF, hb.1, D.inF]; rfl)), p5⟩
            · rw [List.length_map, ← h5.len]
              exact Nat.lt_of_lt_of_le hb.2.1 (small_line (by decide))
            · rw [upd_same]
              unfold putK
              rw [any_none hno, if_neg (by simp), List.map_append]
              rfl
          · rw [if_neg hb] at p5; exact p5.elim
        | _ => exact p5.elim
  · have ei : i = xs.length := by omega
    subst ei
    rw [List.drop_length, dcF] at p'
    refine .inl ⟨q1.stop H' F' al' m' _ e1' w' (Nat.le_refl _), ?_⟩
    have hx2 : al'[m1.length]? = some D' := e'.a _ _ hlast
    have p' : Post c.K (RD c.K) (atS W σ) F1 al1 Q (dcEnd m1.length m') := p'
    unfold dcEnd at p'
    split at p'
    · rename_i gs hc
      obtain ⟨hf, fs, h4, h5⟩ := w'.cell _ _ _ hx2 hc
      have hgn : D.inF m1.length gs = true := w'.gen _ _ hc
      exact p' _ H' (upd F' D' _) (al'.take m1.length) ((e1'.trans (ext_new hf)).cut (Nat.le_of_eq w1.len)) (w'.frz hx2 h4 hf (Nat.le_refl _)) (.dct upd_same ((h5.cut hgn).up (ext_new hf)))
    · exact p'.elim
/-! ### small things -/
def xNeg (a : XE') : XE' := fun r m => (a r m).bind fun d m1 => match d with
  | .int i => .ok (.int (-i)) m1
  | _ => .stuck
theorem de_neg (ha : DE c W a fa) : DE c W (.UnaryOp .USub a pos) (xNeg fa) := by
  obtain ⟨t, a1, a2⟩ := ha
  refine ⟨_, fun y hy => pe_un un_neg (a1 y hy), fun ρ m σ H F al Q he hw p => ?_⟩
  refine a2 ρ m σ H F al _ he hw (Post.step p fun d m1 v H1 F1 al1 e1 w1 q1 p1 => ?_)
  cases q1 with
  | int i => exact ⟨i, rfl, p1 _ H1 F1 al1 Le.refl w1 (.int _)⟩
  | _ => exact p1.elim
theorem Plain_no : Plain noW := fun _ _ _ _ _ h => h
theorem non_rp {K : PySem.W.Frag} {F : Hp} {al : List Addr} : ∀ n : Nat, RpL K F al (List.replicate n .non) (List.replicate n V.non)
  | 0 => .nil
  | n + 1 => .cons .non (non_rp n)
def xTupS (fr : XA) : XE' := fun r m => (fr r m).bind fun ds m1 => if ds.length ≤ sizeLine then .ok (.tup ds) m1 else .stuck
def xLstS (fr : XA) : XE' := fun r m => (fr r m).bind fun ds m1 => if ds.length ≤ sizeLine then .ok (.lst ds) m1 else .stuck
def sCont : XS := fun r m => .cont r m
theorem kbn_of {K : PySem.W.Frag} {x qual : Str} {params : Arguments} {body : List Stmt} {scope : Scope} {f : Addr} {fd : FuncData} {ps ks : List Str} (sh : {α : Type} → List α → List α) (F : FunD K x qual params body scope [] [] f fd)
    (h : ∀ (kV doc pm : Value) (an : Option Addr) (cdv ct : Value) (ws : List Value), ws.length = ks.length → bindArgs (PySem.W.fnOf x qual params body scope .none kV doc pm an cdv ct) ⟨[], ks.zip ws⟩ = pure (ps.zip (sh ws))) (hrel : ∀ {zs : List V} {ws : List Value}, Vals zs ws → Vals (sh zs) (sh ws)) : KBn K fd ps 0 ks (fun _ ws => sh ws) (fun _ zs => sh zs) := by
  obtain ⟨oc, od, dV, kV, doc, pm, an, cdv, ct, osl, rfl, lk, hcd, hD, hK⟩ := F.ex
  rcases hD with ⟨_, rfl⟩ | ⟨e, _⟩
  · refine ⟨fun s us ws _ l1 l2 => ?_, fun _ r => hrel r⟩
    have hu : us = [] := List.length_eq_zero_iff.mp l1
    subst hu
    exact .of_eq (h kV doc pm an cdv ct ws l2)
  · exact absurd rfl e
end
end DS

/-! # XA: an own exception class whose __init__ says super().__init__() and stores its parameters -/
namespace DS
open PySem PySem.Spec PyProof.Rows L2
/-- what the written part must say of the class C: B its built-in base -/
structure XcI (K : PySem.W.Frag) (file : Str) (C fI cc cda : Addr) (B newId initId : String) (bmB : List Value) (qual : Str) (params : Arguments) (body : List Stmt) (scope : Scope) : Prop where
  fb : ExcBaseFacts B newId initId bmB
  kf : PySem.W.KxsFacts B initId
  sf : StoreFacts B bmB "object.__setattr__" "object"
  exi : PySem.W.excInitIn K C bmB newId = true
  over : PySem.W.excOver K C bmB = true
  init : PySem.W.findIn K (.ref C) "__init__" = some (some (.ref fI))
  tyI : PySem.W.typeIn K (.ref fI) = some (.type "function")
  fn : ∃ (oc : Value) (od : Option Addr) (kV doc pm : Value) (an : Option Addr) (ct : Value) (osl : Array (Option Value)), K.lookup fI = some ⟨oc, od, .func (PySem.W.ksFn "__init__" qual params body scope .none kV doc pm an (.ref cda) ct cc), osl⟩
  code : PySem.W.codeIn K (.ref cda) qual = true
  src : ∃ (ccl : Value) (cdd : Option Addr) (vs : Array Value) (ccs : Array (Option Value)) (tf : Tok), K.lookup cda = some ⟨ccl, cdd, .fields vs, ccs⟩ ∧ vs[2]? = some (.str file tf)
  cell : ∃ (cl : Value) (cld : Option Addr) (csl : Array (Option Value)), K.lookup cc = some ⟨cl, cld, .cell (some (.ref C)), csl⟩
  mro : PySem.W.mroIn K C (.ref C) = some true
  sup : PySem.W.ks_superIn K C C "__init__" = some (some (.builtin initId))
  sub : PySem.W.subIn K (.ref C) (.type B) = some true
  opq : PySem.W.nsIn K cStatics "thirdparty.any" = some none
  sa : PySem.W.findIn K (.ref C) "__setattr__" = some (some (.builtin "object.__setattr__"))
  hd : PySem.W.hasDictIn K C = true
  exb : PySem.W.subIn K (.ref C) (.type "BaseException") = some true
  tyC : PySem.W.typeIn K (.ref C) = some (.type "type")
  kp : PySem.W.keepIn K (.ref C) = true
section
open Builtin Builtin.ObjectAttr
variable {P : Program} {w : World} {A : Around} {E : Value → Shared → Prop} {K : PySem.W.Frag} {h : Heap} {g : Array GenState} {d : Drawn} {t : Nat} {os : OsState} {C fI cc cda : Addr} {B newId initId : String} {bmB : List Value} {qual : Str} {params : Arguments} {body : List Stmt} {scope : Scope}
theorem XcI.cls {file : Str} (T : XcI K file C fI cc cda B newId initId bmB qual params body scope) : ∃ cd, PySem.W.clsIn K C = some cd ∧ cd.hasDict = true := by
  obtain ⟨cd, hc, hx⟩ := PySem.W.any_some T.hd
  exact ⟨cd, hc, hx⟩
/-- self.f = v, the first field of an exception -/
theorem xc_set {file : Str} {x t0 : Addr} {f : Str} {v : Value} {Q : Unit → Shared → Prop} (T : XcI K file C fI cc cda B newId initId bmB qual params body scope) (X : K.In h) (hx : h.get? x = some (PySem.W.excObj C t0 none .none)) (ht : PySem.W.takerIn K C f = some none)
    (hq : ∀ h' tk' dx, (∀ b o, b ≠ x → h.get? b = some o → h'.get? b = some o) → h.objs.size ≤ dx → dx ≠ x → h'.get? x = some (PySem.W.excObj C t0 (some dx) .none) → h'.Ns1 dx (fun y => if y = f then some v else none) → Q () ⟨h', g, d, tk', os⟩) :
    wpAny (model P w) A (setAttr (.ref x) f v) Q E ⟨h, g, d, t, os⟩ := by
  obtain ⟨cd, hcd, hh⟩ := T.cls
  have I : PySem.W.InstAt h x (PySem.W.excObj C t0 none .none) C none := ⟨hx, rfl, rfl, trivial⟩
  have hxs : x ≠ h.objs.size := Nat.ne_of_lt (Heap.lt_size hx)
  refine PySem.W.set_plain (od := none) X I T.sa ?_
  refine PySem.W.osa_openX T.sf X I T.over ht fun b => ?_
  have hcl : PySem.W.Looks (model P w) h (classData C) cd := PySem.W.looks_clsIn X hcd
  obtain ⟨nm, bs, mro, ns, qn, hdd, sn, sb, ab, col, del⟩ := cd
  dsimp only at hh
  subst hh
  dsimp only
  unfold storeInOwnDict ownDictForStores
  repeat (first | with_reducible refine HandSPX.store_in_new ?_ ?_ | with_reducible refine wpAny_loadPart_at hx ?_ | with_reducible refine hcl.at ?_ | wp_step)
  · exact ⟨_, #[], _, (Heap.get?_update_ne _ _ _ _ hxs.symm).trans (Heap.get?_push_at rfl rfl), rfl, fun e he => absurd he (by simp), fun _ => rfl⟩
  · intro h' tk' hn' hs
    have hx1 : (h.push { cls := .type "dict", data := .dict #[] }).get? x = some (PySem.W.excObj C t0 none .none) := Heap.get?_push_of_some _ hx
    refine hq h' tk' h.objs.size (fun b o hb ho => ?_) (Nat.le_refl _) hxs.symm ?_ hn'
    · exact (hs.2 b (Nat.ne_of_lt (Heap.lt_size ho))).trans ((Heap.get?_update_ne _ _ _ _ hb).trans (Heap.get?_push_of_some _ ho))
    · exact (hs.2 x hxs).trans (Heap.get?_update_self _ hx1 rfl)
/-- super().__init__() in an own exception's __init__ -/
theorem xc_super {file : Str} {s : Shared} {h0 : Heap} {L x t0 : Addr} {m mg mb : Str → Option Value} {bd : List Stmt} {ar : Arg} {p0 p1 p2 p3 p4 : Pos} {Q : Flow → Shared → Prop} (T : XcI K file C fI cc cda B newId initId bmB qual params body scope)
    (F : Fr h0 L s.heap m) (X0 : K.In h0) (N : News h0 L s.heap [(x, PySem.W.excObj C t0 none .none)]) (hg : h0.Ns mainGlobals mg) (hmg : mg "super" = none) (hb : h0.Ns builtinsNs mb) (hmb : mb "super" = some (.type "super"))
    (hp : (params.posonlyargs ++ params.args).head? = some ar) (hv : m ar.arg = some (.ref x)) (hfile : ((P.main.file : Str) == file) = true) (htop : (P.main.scope.names.lookup ("super" : Str)).isSome = false)
    (hks : scope.names.lookup ("super" : Str) = some .globalImplicit) (hkc : scope.names.lookup ("__class__" : Str) = some .free) (hka : scope.names.lookup ar.arg = some .local) (hk : scope.kind = .function) (hi : interactive (PySem.W.ksEnv qual scope L fI (.ref cda) cc) = false)
    (hev : ∃ pl : Sem Bool, eval (.Call (.Attribute (.Call (.Name "super" p0) [] [] p1) "__init__" p2) [] [] p3) (PySem.W.ksEnv qual scope L fI (.ref cda) cc) = (do
      let ov ← attributeBase (.Call (.Name "super" p0) [] [] p1) "__init__" (PySem.W.ksEnv qual scope L fI (.ref cda) cc) (eval (.Call (.Name "super" p0) [] [] p1) (PySem.W.ksEnv qual scope L fI (.ref cda) cc))
      standAt p2.atName
      let (f, first) ← holding [ov] (getMethod ov "__init__" pl)
      callWith p3 f first (backTo p3 (starEach [] (PySem.W.ksEnv qual scope L fI (.ref cda) cc))) []))
    (hq : ∀ h' t' tk', Fr h0 L h' m → h'.get? x = some (PySem.W.excObj C t' none .none) → Q .next { s with heap := h', toks := tk' }) :
    _root_.PySem.wpAt (model P w) A (.func bd (PySem.W.ksEnv qual scope L fI (.ref cda) cc)) (exec (.Expr (.Call (.Attribute (.Call (.Name "super" p0) [] [] p1) "__init__" p2) [] [] p3) p4) (PySem.W.ksEnv qual scope L fI (.ref cda) cc)) Q E s := by
  have X : K.In s.heap := X0.keeps F.keep
  obtain ⟨oc, od, kV, doc, pm, an, ct, osl, hfn⟩ := T.fn
  obtain ⟨ccl, cdd, vs, ccs, tf, hcode, hvs⟩ := T.src
  obtain ⟨cl, cld, csl, hcell⟩ := T.cell
  obtain ⟨cd, hcd, _⟩ := T.cls
  have I0 : PySem.W.InstAt s.heap x (PySem.W.excObj C t0 none .none) C none := ⟨(N _ List.mem_cons_self).1, rfl, rfl, trivial⟩
  have Ng : s.heap.Ns mainGlobals mg := hg.keeps F.keep
  have Nb : s.heap.Ns builtinsNs mb := hb.keeps F.keep
  obtain ⟨hh, g, dr, tk, os⟩ := s
  obtain ⟨oD, hD1, hD2⟩ : ∃ oD, hh.get? C = some oD ∧ oD.data = .cls cd := by
    unfold PySem.W.clsIn at hcd
    split at hcd
    · rename_i c0 d0 cd' sl ho
      cases hcd
      exact ⟨_, X _ _ ho, rfl⟩
    · cases hcd
  obtain ⟨pl, hpl⟩ := hev
  refine ks_wpAt_Expr_any (ks_wpAt_MethodCall (pl := pl) ?_ hpl) hi rfl
  refine ks_wpAt_super_base (env := PySem.W.ksEnv qual scope L fI (.ref cda) cc) hks hkc (by decide) rfl (X _ _ hfn) rfl hp rfl (X _ _ hcode) rfl hvs hfile htop ?_
  refine PySem.W.ks_loadName_global hk hks (Calls.loadGlobal_builtin (env := PySem.W.ksEnv qual scope L fI (.ref cda) cc) Ng hmg Nb hmb ⟨rfl, ?_⟩)
  refine wpAny_loadName_free hk hkc rfl ⟨_, X _ _ hcell, rfl⟩ ?_
  refine wpAny_loadName_local hk hka F.ns hv ?_
  refine ks_wpAny_isType_cls hD1 hD2 ⟨rfl, ?_⟩
  refine ks_wpAny_call_super hD1 hD2 I0.at_ I0.cls (fun c e => nomatch e) (PySem.W.looks_mroIn X T.mro) (fun h1 e1 k1 => ?_)
  obtain ⟨F1, N1, l1⟩ := PySem.W.ks_newsPush (s := ⟨hh, g, dr, tk, os⟩) F N rfl e1 k1
  have I1 : PySem.W.InstAt h1 x (PySem.W.excObj C t0 none .none) C none := ⟨(N1 _ (.tail _ List.mem_cons_self)).1, rfl, rfl, trivial⟩
  refine PySem.W.kxs_method (s := ⟨h1, g, dr, tk, os⟩) T.kf F1 X0 N1 List.mem_cons_self I1 T.opq T.sup T.sub (by decide) fun q2 h2 F2 N2 l2 => ?_
  refine PySem.W.kxs_callWith0 N2 List.mem_cons_self ?_
  refine PySem.W.kxs_call F2 X0 N2 T.fb T.exi List.mem_cons_self (.tail ?_ (.tail ?_ (.head fun p hp => by cases hp))) (by rw [sizeLine_eq]; exact Nat.zero_le _) fun t3 h3 F3 N3 l3 => ?_
  · exact Nat.ne_of_gt (l2 (x, _) (.tail _ List.mem_cons_self))
  · exact Nat.ne_of_gt (l1 (x, _) List.mem_cons_self)
  · exact hq h3 t3 _ F3 (N3 _ (.tail _ (.tail _ (.tail _ List.mem_cons_self)))).1
/-- C(v), its own __init__(self, f): super().__init__(); self.f = f -/
theorem xc_call1 {file : Str} {mg mb : Str → Option Value} {f : Str} {v : Value} {ar : Arg} {p0 p1 p2 p3 p4 q0 q1 q2 q3 : Pos} {Q : Value → Shared → Prop}
    (T : XcI K file C fI cc cda B newId initId bmB qual params [.Expr (.Call (.Attribute (.Call (.Name "super" p0) [] [] p1) "__init__" p2) [] [] p3) p4, .Assign [.Attribute (.Name ar.arg q0) f q1] (.Name f q2) q3] scope)
    (X : K.In h) (hg : h.Ns mainGlobals mg) (hmg : mg "super" = none) (hb : h.Ns builtinsNs mb) (hmb : mb "super" = some (.type "super")) (hlim : h.NoLimit) (hroom : (A.under (.builtin "type.__call__" ⟨[.ref C, v], []⟩)).depth < recursionLimit)
    (hp : (params.posonlyargs ++ params.args).head? = some ar) (hfile : ((P.main.file : Str) == file) = true) (htop : (P.main.scope.names.lookup ("super" : Str)).isSome = false)
    (hks : scope.names.lookup ("super" : Str) = some .globalImplicit) (hkc : scope.names.lookup ("__class__" : Str) = some .free) (hka : scope.names.lookup ar.arg = some .local) (hkf : scope.names.lookup f = some .local) (hk : scope.kind = .function)
    (hcl : ∀ x ∈ scope.names, x.2 ≠ .cell) (hco : scope.isCoroutine = false) (hgen : scope.isGenerator = false) (hne : ar.arg ≠ f) (hd0 : (ar.arg == ("__debug__" : Str)) = false) (hd1 : (f == ("__debug__" : Str)) = false)
    (ht : PySem.W.takerIn K C f = some none)
    (hi : ∀ L, interactive (PySem.W.ksEnv qual scope L fI (.ref cda) cc) = false)
    (hsw : ∀ L, swapsWith (.Name f q2) (some (.Attribute (.Name ar.arg q0) f q1)) q3.line (PySem.W.ksEnv qual scope L fI (.ref cda) cc) = pure false)
    (hev : ∀ L, ∃ pl : Sem Bool, eval (.Call (.Attribute (.Call (.Name "super" p0) [] [] p1) "__init__" p2) [] [] p3) (PySem.W.ksEnv qual scope L fI (.ref cda) cc) = (do
      let ov ← attributeBase (.Call (.Name "super" p0) [] [] p1) "__init__" (PySem.W.ksEnv qual scope L fI (.ref cda) cc) (eval (.Call (.Name "super" p0) [] [] p1) (PySem.W.ksEnv qual scope L fI (.ref cda) cc))
      standAt p2.atName
      let (f, first) ← holding [ov] (getMethod ov "__init__" pl)
      callWith p3 f first (backTo p3 (starEach [] (PySem.W.ksEnv qual scope L fI (.ref cda) cc))) []))
    (hbd : ∀ (s : Shared) (u w : Value) (body : List Stmt) (kV doc pm : Value) (an : Option Addr) (cdv ct : Value) (cc : Addr), BindsTo s (PySem.W.ksFn "__init__" qual params body scope .none kV doc pm an cdv ct cc) ⟨[u, w], []⟩ [(ar.arg, u), (f, w)])
    (hq : ∀ h' tk' dx t', (∀ b o, h.get? b = some o → h'.get? b = some o) → h.objs.size ≤ dx → dx ≠ h.objs.size + 1 → h'.get? (h.objs.size + 1) = some (PySem.W.excObj C t' (some dx) .none) → h'.Ns1 dx (fun y => if y = f then some v else none) → Q (.ref (h.objs.size + 1)) ⟨h', g, d, tk', os⟩) :
    wpAny (model P w) A (call (.ref C) [v]) Q E ⟨h, g, d, t, os⟩ := by
  obtain ⟨nm, N', qn, bs, bm, hdct, sn, sub, ab, col, dd, k0, k1, k2, k3, k5, hC, hT⟩ := PySem.W.excInit_of X T.exi
  obtain ⟨oc, od, kV, doc, pm, an, ct, osl, hfn⟩ := T.fn
  refine wpAny_call (HandSPX.call_own T.fb hT hC (PySem.W.looks_findIn X T.init) (fun self => PySem.W.bind_fn X self T.tyI) (by rw [sizeLine_eq]; show 1 ≤ 16777216; decide) ?_)
  have kk : ∀ b o, h.get? b = some o → ((h.push (PySem.W.kdv_tup [v])).push (HandSPX.excO C h.objs.size)).get? b = some o := fun b o e => Heap.get?_push_of_some _ (Heap.get?_push_of_some _ e)
  have X2 : K.In ((h.push (PySem.W.kdv_tup [v])).push (HandSPX.excO C h.objs.size)) := X.keeps kk
  have hget : ((h.push (PySem.W.kdv_tup [v])).push (HandSPX.excO C h.objs.size)).get? (h.objs.size + 1) = some (HandSPX.excO C h.objs.size) := by heap_get
  have hsz : ((h.push (PySem.W.kdv_tup [v])).push (HandSPX.excO C h.objs.size)).objs.size = h.objs.size + 2 := by rw [Heap.size_push, Heap.size_push]
  refine ks_codeAny_call_defAt (binds := [(ar.arg, .ref (h.objs.size + 1)), (f, v)]) hroom (X2 _ _ hfn) rfl (hlim.keeps kk) (PySem.W.codeRec_of X2 T.code) rfl (hbd _ _ _ _ _ _ _ _ _ _ _) hcl (fun y hy => ?_) (fun h1 hns hk1 => ?_) hco hgen hk
  · rcases List.mem_cons.mp hy with rfl | hy
    · exact hka
    · rcases List.mem_cons.mp hy with rfl | hy
      · exact hkf
      · cases hy
  show _root_.PySem.wpAt _ _ (.func _ (PySem.W.ksEnv qual scope _ fI (.ref cda) cc)) (execs _ (PySem.W.ksEnv qual scope _ fI (.ref cda) cc)) _ _ _
  rw [hsz] at hns ⊢
  have F1 : Fr h (h.objs.size + 2) h1 (fun y => List.lookup y [(ar.arg, Value.ref (h.objs.size + 1)), (f, v)].reverse) := ⟨hns, fun b o e => hk1 b o (kk b o e), Nat.le_add_right _ _⟩
  have N1 : News h (h.objs.size + 2) h1 [(h.objs.size + 1, PySem.W.excObj C h.objs.size none .none)] := fun p hp => by
    have e : p = (h.objs.size + 1, PySem.W.excObj C h.objs.size none .none) := by simpa using hp
    subst e
    refine ⟨hk1 _ _ hget, Nat.ne_of_lt (Nat.lt_succ_self _), ?_⟩
    cases z : h.get? (h.objs.size + 1) with
    | none => rfl
    | some o => exact absurd (Heap.lt_size z) (Nat.not_lt.mpr (Nat.le_succ _))
  have mself : List.lookup ar.arg [(ar.arg, Value.ref (h.objs.size + 1)), (f, v)].reverse = some (.ref (h.objs.size + 1)) := by
    have : (ar.arg == f) = false := by simpa using hne
    simp [List.lookup, this]
  have mf : List.lookup f [(ar.arg, Value.ref (h.objs.size + 1)), (f, v)].reverse = some v := by simp [List.lookup]
  refine ks_wpAt_execs_cons (xc_super T (s := ⟨h1, g, d, _, os⟩) F1 X N1 hg hmg hb hmb hp mself hfile htop hks hkc hka hk (hi _) (hev _) fun h2 t2 tk2 F2 e2 => ?_)
  refine ks_wpAt_execs_cons (wpAt_of_wpAny ?_)
  refine plainObj_wpAny_Assign_Attribute ?_ (hsw _)
  refine wpAny_Name (wpAny_loadName_local hk hkf F2.ns mf ?_) hd1
  refine wpAny_Name (wpAny_loadName_local hk hka F2.ns mself ?_) hd0
  refine xc_set T (X.keeps F2.keep) e2 ht fun h3 tk3 dx k3 hdx hne3 e3 hn3 => ?_
  refine wpAt_of_wpAny (wpAny_execs_nil ?_)
  refine ⟨rfl, hq h3 tk3 dx t2 (fun b o e => k3 b o (fun z => ?_) (F2.keep b o e)) (Nat.le_trans ?_ hdx) hne3 e3 hn3⟩
  · rw [z] at e
    exact absurd (Heap.lt_size e) (Nat.not_lt.mpr (Nat.le_succ _))
  · have q : h.objs.size + 1 < h2.objs.size := Heap.lt_size e2
    exact Nat.le_of_lt (Nat.lt_of_succ_lt q)
end
end DS

namespace DS
open PySem PySem.Spec PyProof.Rows L2
/-! ### the written part: facts by names -/
/-- a property's record, its getter -/
def prA (K : PySem.W.Frag) (cn m : Str) : Addr := He.ma K (He.ga K cn) m
def gtA (K : PySem.W.Frag) (cn m : Str) : Addr := match PySem.W.recIn K (prA K cn m) "property" with
  | some (.ref g :: _) => g
  | _ => 0
/-- a getter: class, name, and the def -/
structure PrD where
  cn : Str
  m : Str
  qual : Str
  params : Arguments
  body : List Stmt
  scope : Scope
def fnAt (K : PySem.W.Frag) (a : Addr) : He.FnW := match K.lookup a with
  | some ⟨_, _, .func fd, _⟩ => some (fd.name, fd.qualname, fd.params, fd.body, fd.scope, fd.globals, fd.closure, fd.builtins)
  | _ => none
def PrD.val (d : PrD) : He.FnW := some (d.m, d.qual, d.params, .stmts d.body, d.scope, mainGlobals, [], builtinsNs)
def PrD.ok (K : PySem.W.Frag) (d : PrD) : Bool := (PySem.W.keepIn K (.ref (gtA K d.cn d.m)) && (match K.lookup (gtA K d.cn d.m) with
  | some ⟨_, _, .func fd, _⟩ => PySem.W.codeIn K fd.code d.qual && (He.dflB K fd.defaults [] && He.kwdB K fd.kwdefaults [])
  | _ => false)) && (He.eqO (PySem.W.findIn K (.ref (He.ga K d.cn)) d.m) (some (some (.ref (prA K d.cn d.m)))) && (He.eqO (PySem.W.specialIn K (.ref (prA K d.cn d.m)) "__get__") (some (some (.builtin "property.__get__"))) && (decide (PySem.W.takesIn K (.ref (prA K d.cn d.m)) = some true) &&
    (match PySem.W.recIn K (prA K d.cn d.m) "property" with
      | some (.ref _ :: _) => true
      | _ => false))))
theorem PrD.prop {K : PySem.W.Frag} {d : PrD} (c : d.ok K = true) : PropOf K (He.ga K d.cn) d.m (prA K d.cn d.m) (gtA K d.cn d.m) := by
  obtain ⟨_, c⟩ := He.ba c
  obtain ⟨c1, c⟩ := He.ba c
  obtain ⟨c2, c⟩ := He.ba c
  obtain ⟨c3, c4⟩ := He.ba c
  refine ⟨He.eqO_ok c1, He.eqO_ok c2, of_decide_eq_true c3, ?_⟩
  unfold gtA
  split at c4
  · rename_i g r e
    rw [e]
    exact ⟨r, rfl⟩
  · cases c4
theorem PrD.funD {K : PySem.W.Frag} {d : PrD} (e : fnAt K (gtA K d.cn d.m) = d.val) (c : d.ok K = true) : ∃ fd, FunD K d.m d.qual d.params d.body d.scope [] [] (gtA K d.cn d.m) fd := by
  obtain ⟨c0, _⟩ := He.ba c
  obtain ⟨kp, c2⟩ := He.ba c0
  unfold fnAt at e
  cases q : K.lookup (gtA K d.cn d.m) with
  | none => rw [q] at c2; cases c2
  | some o =>
    obtain ⟨oc, od, dt, osl⟩ := o
    rw [q] at c2 e
    cases dt with
    | func fd =>
      obtain ⟨n1, n2, n3, n4, n5, n6, n7, n8, n9, n10, n11, n12, n13, n14, n15⟩ := fd
      have e2 : (some (n1, n2, n3, n4, n5, n6, n7, n15) : He.FnW) = some (d.m, d.qual, d.params, .stmts d.body, d.scope, mainGlobals, [], builtinsNs) := e
      simp only [Option.some.injEq, Prod.mk.injEq] at e2
      obtain ⟨h1, h2, h3, h4, h5, h6, h7, h8⟩ := e2
      subst h1 h2 h3 h4 h5 h6 h7 h8
      have c3 : (PySem.W.codeIn K n13 d.qual && (He.dflB K n8 [] && He.kwdB K n9 [])) = true := c2
      obtain ⟨k1, k2⟩ := He.ba c3
      obtain ⟨k3, k4⟩ := He.ba k2
      exact ⟨_, ⟨oc, od, n8, n9, n10, n11, n12, n13, n14, osl, rfl, q, k1, He.dflB_ok k3, He.kwdB_ok k4⟩, kp⟩
    | _ => cases c2
def isiOk (K : PySem.W.Frag) (cs : List Str) : Bool := cs.all (fun cn => (He.Fa.cls cn).ok K && (He.eqO (PySem.W.findIn K (.ref (He.ga K cn)) "__class__") (some (some (.builtin "object.__class__"))) && decide (PySem.W.mroIn K (He.ga K cn) (.type "object") = some true))) &&
  (He.eqO (PySem.W.specialIn K (.builtin "object.__class__") "__get__") (some (some (.builtin "getset_descriptor.__get__"))) && (decide (PySem.W.takesIn K (.builtin "object.__class__") = some true) &&
  (cs.all (fun cn => tyNames.all fun n => decide (PySem.W.kitOne K (.ref (He.ga K cn)) (.type n) = some false)) && (tyNames.all (fun n => cs.all fun cn => decide (PySem.W.kitOne K (.type n) (.ref (He.ga K cn)) = some false)) &&
  cs.all (fun cn => cs.all fun cm => decide (PySem.W.kitOne K (.ref (He.ga K cn)) (.ref (He.ga K cm)) = some (decide (cn = cm))))))))
theorem isiOk_ok {K : PySem.W.Frag} {cs : List Str} (h : isiOk K cs = true) : Isi K cs := by
  obtain ⟨h1, h⟩ := He.ba h
  obtain ⟨h2, h⟩ := He.ba h
  obtain ⟨h3, h⟩ := He.ba h
  obtain ⟨h4, h⟩ := He.ba h
  obtain ⟨h5, h6⟩ := He.ba h
  refine ⟨fun cn hc => ?_, He.eqO_ok h2, of_decide_eq_true h3, fun cn hc n hn => ?_, fun n hn cn hc => ?_, fun cn hc cm hm => ?_⟩
  · obtain ⟨a1, a2⟩ := He.ba (List.all_eq_true.mp h1 cn hc)
    obtain ⟨a3, a4⟩ := He.ba a2
    exact ⟨He.cls_ok a1, He.eqO_ok a3, of_decide_eq_true a4⟩
  · exact of_decide_eq_true (List.all_eq_true.mp (List.all_eq_true.mp h4 cn hc) n hn)
  · exact of_decide_eq_true (List.all_eq_true.mp (List.all_eq_true.mp h5 n hn) cn hc)
  · exact of_decide_eq_true (List.all_eq_true.mp (List.all_eq_true.mp h6 cn hc) cm hm)
/-! ### exception classes with an own __init__ -/
def exTl (B : String) : List Value := [.type B, .type "Exception", .type "BaseException", .type "object"]
structure XiD where
  cn : Str
  f : Str
  B : String
  qual : Str
  params : Arguments
  body : List Stmt
  scope : Scope
def fdA (K : PySem.W.Frag) (a : Addr) : Option FuncData := match K.lookup a with
  | some ⟨_, _, .func fd, _⟩ => some fd
  | _ => none
abbrev FnC : Type := Option (Str × Str × Arguments × FuncBody × Scope × Addr × Addr)
def fnAtC (K : PySem.W.Frag) (a : Addr) : FnC := (fdA K a).map fun fd => (fd.name, fd.qualname, fd.params, fd.body, fd.scope, fd.globals, fd.builtins)
def XiD.val (d : XiD) : FnC := some ("__init__", d.qual, d.params, .stmts d.body, d.scope, mainGlobals, builtinsNs)
abbrev XiD.fI (d : XiD) (K : PySem.W.Frag) : Addr := He.ma K (He.ga K d.cn) "__init__"
def XiD.cc (d : XiD) (K : PySem.W.Frag) : Addr := match fdA K (d.fI K) with
  | some fd => ((fd.closure.lookup ("__class__" : Str)).getD 0)
  | none => 0
def XiD.cda (d : XiD) (K : PySem.W.Frag) : Addr := match fdA K (d.fI K) with
  | some fd => (match fd.code with
    | .ref c => c
    | _ => 0)
  | none => 0
def XiD.ok (file : Str) (d : XiD) (K : PySem.W.Frag) : Bool := PySem.W.excInitIn K (He.ga K d.cn) (exTl d.B) (d.B ++ ".__new__") && (PySem.W.excOver K (He.ga K d.cn) (exTl d.B) && (He.eqO (PySem.W.findIn K (.ref (He.ga K d.cn)) "__init__") (some (some (.ref (d.fI K)))) &&
  (decide (PySem.W.typeIn K (.ref (d.fI K)) = some (.type "function")) && ((match fdA K (d.fI K) with
    | some fd => decide (fd.closure = [(("__class__" : Str), d.cc K)]) && (decide (fd.code = .ref (d.cda K)) && (PySem.W.codeIn K fd.code d.qual && (match fd.defaults with
      | .none => true
      | _ => false)))
    | none => false) && ((match K.lookup (d.cda K) with
    | some ⟨_, _, .fields vs, _⟩ => (match (vs[2]? : Option Value) with
      | some (.str fl _) => decide (fl = file)
      | _ => false)
    | _ => false) && ((match K.lookup (d.cc K) with
    | some ⟨_, _, .cell (some (.ref D)), _⟩ => decide (D = He.ga K d.cn)
    | _ => false) && (decide (PySem.W.mroIn K (He.ga K d.cn) (.ref (He.ga K d.cn)) = some true) && (He.eqO (PySem.W.ks_superIn K (He.ga K d.cn) (He.ga K d.cn) "__init__") (some (some (.builtin (d.B ++ ".__init__")))) && (decide (PySem.W.subIn K (.ref (He.ga K d.cn)) (.type d.B) = some true) &&
  (He.eqO (PySem.W.nsIn K cStatics "thirdparty.any") (some none) && (He.eqO (PySem.W.findIn K (.ref (He.ga K d.cn)) "__setattr__") (some (some (.builtin "object.__setattr__"))) && (PySem.W.hasDictIn K (He.ga K d.cn) && (decide (PySem.W.subIn K (.ref (He.ga K d.cn)) (.type "BaseException") = some true) &&
  (decide (PySem.W.typeIn K (.ref (He.ga K d.cn)) = some (.type "type")) && (PySem.W.keepIn K (.ref (He.ga K d.cn)) && He.eqO (PySem.W.takerIn K (He.ga K d.cn) d.f) (some none))))))))))))))))
structure XiOk (file : Str) (K : PySem.W.Frag) (d : XiD) : Prop where
  ok : d.ok file K = true
  fn : fnAtC K (d.fI K) = d.val
theorem XiOk.xc {file : Str} {K : PySem.W.Frag} {d : XiD} (h : XiOk file K d) (fb : ExcBaseFacts d.B (d.B ++ ".__new__") (d.B ++ ".__init__") (exTl d.B)) (kf : PySem.W.KxsFacts d.B (d.B ++ ".__init__")) (sf : StoreFacts d.B (exTl d.B) "object.__setattr__" "object") :
    XcI K file (He.ga K d.cn) (d.fI K) (d.cc K) (d.cda K) d.B (d.B ++ ".__new__") (d.B ++ ".__init__") (exTl d.B) d.qual d.params d.body d.scope ∧ PySem.W.takerIn K (He.ga K d.cn) d.f = some none := by
  obtain ⟨c, e⟩ := h
  obtain ⟨c1, c⟩ := He.ba c
  obtain ⟨c2, c⟩ := He.ba c
  obtain ⟨c3, c⟩ := He.ba c
  obtain ⟨c4, c⟩ := He.ba c
  obtain ⟨c5, c⟩ := He.ba c
  obtain ⟨c6, c⟩ := He.ba c
  obtain ⟨c7, c⟩ := He.ba c
  obtain ⟨c8, c⟩ := He.ba c
  obtain ⟨c9, c⟩ := He.ba c
  obtain ⟨d1, c⟩ := He.ba c
  obtain ⟨d2, c⟩ := He.ba c
  obtain ⟨d3, c⟩ := He.ba c
  obtain ⟨d4, c⟩ := He.ba c
  obtain ⟨d5, c⟩ := He.ba c
  obtain ⟨d6, c⟩ := He.ba c
  obtain ⟨d7, d8⟩ := He.ba c
  have hfn : (∃ (oc : Value) (od : Option Addr) (kV doc pm : Value) (an : Option Addr) (ct : Value) (osl : Array (Option Value)), K.lookup (d.fI K) = some ⟨oc, od, .func (PySem.W.ksFn "__init__" d.qual d.params d.body d.scope .none kV doc pm an (.ref (d.cda K)) ct (d.cc K)), osl⟩) ∧ PySem.W.codeIn K (.ref (d.cda K)) d.qual = true := by
    unfold fnAtC at e
    cases q : fdA K (d.fI K) with
    | none => rw [q] at c5; cases c5
    | some fd =>
      rw [q] at c5 e
      obtain ⟨k1, k⟩ := He.ba c5
      obtain ⟨k2, k3⟩ := He.ba k
      obtain ⟨k3, k4⟩ := He.ba k3
      have k1 := of_decide_eq_true k1
      have k2 := of_decide_eq_true k2
      unfold fdA at q
      split at q
      · rename_i oc od fd' osl hl
        cases q
        obtain ⟨n1, n2, n3, n4, n5, n6, n7, n8, n9, n10, n11, n12, n13, n14, n15⟩ := fd
        have e2 : (some (n1, n2, n3, n4, n5, n6, n15) : FnC) = some (("__init__" : Str), d.qual, d.params, FuncBody.stmts d.body, d.scope, mainGlobals, builtinsNs) := e
        simp only [Option.some.injEq, Prod.mk.injEq] at e2
        obtain ⟨h1, h2, h3, h4, h5, h6, h8⟩ := e2
        dsimp only at k1 k2 k3 k4
        have h7 : n8 = .none := by
          split at k4
          · rfl
          · cases k4
        refine ⟨⟨oc, od, n9, n10, n11, n12, n14, osl, ?_⟩, ?_⟩
        · rw [hl, k1, k2, h1, h2, h3, h4, h5, h6, h7, h8]
        · rw [← k2]
          exact k3
      · cases q
  refine ⟨⟨fb, kf, sf, c1, c2, He.eqO_ok c3, of_decide_eq_true c4, hfn.1, hfn.2, ?_, ?_, of_decide_eq_true c8, He.eqO_ok c9, of_decide_eq_true d1, He.eqO_ok d2, He.eqO_ok d3, d4, of_decide_eq_true d5, of_decide_eq_true d6, d7⟩, He.eqO_ok d8⟩
  · split at c6
    · rename_i ccl cdd vs ccs hl
      split at c6
      · rename_i fl tf hv
        rw [of_decide_eq_true c6] at hv
        exact ⟨ccl, cdd, vs, ccs, tf, hl, hv⟩
      · cases c6
    · cases c6
  · split at c7
    · rename_i cl cld D csl hl
      rw [of_decide_eq_true c7] at hl
      exact ⟨cl, cld, csl, hl⟩
    · cases c7
/-! ### the Hook -/
/-- what a proof's text tells of the program -/
structure Tl where
  fa : List He.Fa
  fn : List He.DefD
  pr : List PrD
  cs : List Str
  xf : List (PySem.W.Frag → Bool)
  xi : List XiD
  tb : List Str
  file : Str
abbrev AlM : Type := He.AlD × Bool × List He.FnW × List FnC × List (Option Obj)
def tabB (x : Str) (K : PySem.W.Frag) : Bool := (PySem.W.tabIn K x).isSome && (PySem.W.codeHdIn K (tabC K x) (tabP K x) && (K.lookup (tabP K x)).isNone)
def obsM (L : Tl) (K : PySem.W.Frag) (g : Addr → Option Obj) : AlM := (He.obsD L.fa L.fn K, (L.pr.all fun d => d.ok K) && isiOk K L.cs && L.xf.all (fun f => f K) && L.xi.all (fun d => d.ok L.file K) && (L.tb.all (fun x => tabB x K) && decide ((L.tb.map (tabP K)).Nodup)), L.pr.map (fun d => fnAt K (gtA K d.cn d.m)), L.xi.map (fun d => fnAtC K (d.fI K)), L.tb.map fun x => g (tabP K x))
def valM (L : Tl) : AlM := (He.valD L.fn, true, L.pr.map PrD.val, L.xi.map XiD.val, L.tb.map fun _ => some (PySem.W.tabObj #[]))
structure SaysM (L : Tl) (K : PySem.W.Frag) : Prop where
  c : He.SaysD L.fa L.fn K
  isi : Isi K L.cs
  xf : ∀ f ∈ L.xf, f K = true
  prp : ∀ d ∈ L.pr, PropOf K (He.ga K d.cn) d.m (prA K d.cn d.m) (gtA K d.cn d.m) ∧ ∃ fd, FunD K d.m d.qual d.params d.body d.scope [] [] (gtA K d.cn d.m) fd
  xi : ∀ d ∈ L.xi, XiOk L.file K d
  tb : ∀ x ∈ L.tb, tabB x K = true
  nd : (L.tb.map (tabP K)).Nodup
theorem map_at {α β : Type} {l : List α} {f g : α → β} (h : l.map f = l.map g) {d : α} (hd : d ∈ l) : f d = g d := List.map_inj_left.mp h d hd
theorem saysM_of {L : Tl} {K : PySem.W.Frag} {g : Addr → Option Obj} (e : obsM L K g = valM L) : SaysM L K ∧ ∀ x ∈ L.tb, g (tabP K x) = some (PySem.W.tabObj #[]) := by
  have e1 : He.obsD L.fa L.fn K = He.valD L.fn := congrArg (fun z : AlM => z.1) e
  have e2 : ((L.pr.all fun d => d.ok K) && isiOk K L.cs && L.xf.all (fun f => f K) && L.xi.all (fun d => d.ok L.file K) && (L.tb.all (fun x => tabB x K) && decide ((L.tb.map (tabP K)).Nodup))) = true := congrArg (fun z : AlM => z.2.1) e
  have e3 : (L.pr.map fun d => fnAt K (gtA K d.cn d.m)) = L.pr.map PrD.val := congrArg (fun z : AlM => z.2.2.1) e
  have e4 : (L.xi.map fun d => fnAtC K (d.fI K)) = L.xi.map XiD.val := congrArg (fun z : AlM => z.2.2.2.1) e
  have e5 : (L.tb.map fun x => g (tabP K x)) = L.tb.map fun _ => some (PySem.W.tabObj #[]) := congrArg (fun z : AlM => z.2.2.2.2) e
  obtain ⟨h1234, h56⟩ := He.ba e2
  obtain ⟨h123, h4⟩ := He.ba h1234
  obtain ⟨h12, h3⟩ := He.ba h123
  obtain ⟨h1, h2⟩ := He.ba h12
  obtain ⟨h5, h6⟩ := He.ba h56
  refine ⟨⟨e1, isiOk_ok h2, fun f hf => List.all_eq_true.mp h3 f hf, fun d hd => ?_, fun d hd => ⟨List.all_eq_true.mp h4 d hd, map_at e4 hd⟩, fun x hx => List.all_eq_true.mp h5 x hx, of_decide_eq_true h6⟩, fun x hx => map_at e5 hx⟩
  have ok := List.all_eq_true.mp h1 d hd
  exact ⟨d.prop ok, d.funD (map_at e3 hd) ok⟩
/-- all objects but the empty tables -/
def noTab (o : Option Obj) : Bool := match o with
  | some ⟨.none, _, .fields vs, _⟩ => !vs.isEmpty
  | _ => true
def kAs (g : Addr → Option Obj) (n : Nat) : List Addr := (List.range n).filter fun a => noTab (g a)
def obsMG (n : Nat) (L : Tl) (g : Addr → Option Obj) : AlM := obsM L (He.frG g (kAs g n)) g
def hookM (n : Nat) (L : Tl) : PySem.W.Hook where
  α := AlM
  obs := fun s => obsMG n L s.heap.get?
  val := fun _ => valM L
  says := fun _ h => ∃ K : PySem.W.Frag, K.In h ∧ SaysM L K ∧ ∀ x ∈ L.tb, h.get? (tabP K x) = some (PySem.W.tabObj #[])
  of := fun _ _ e => ⟨_, He.frG_in, saysM_of e⟩
  keeps := fun _ _ _ ⟨K, hK, c, t⟩ k => ⟨K, PySem.W.Frag.In.keeps hK k, c, fun x hx => k _ _ (t x hx)⟩
theorem obsMG_eq {n : Nat} {L : Tl} {g : Addr → Option Obj} {s : Shared} (h : ∀ a, g a = s.heap.get? a) : obsMG n L g = (hookM n L).obs s := by
  have e : g = s.heap.get? := funext h
  rw [e] <;> rfl
/-- all that a proof of a def leans on -/
structure Tx (L : Tl) (b : Base) : Prop where
  s : SaysM L b.K
  h : ∃ h : Heap, b.K.In h ∧ h.Ns mainGlobals b.mg
  tab : ∀ x ∈ L.tb, LamX.TabB b.base b.mg (tabC b.K x) (tabP b.K x)
  fl : ((b.P.main.file : Str) == L.file) = true
  sup : (b.P.main.scope.names.lookup ("super" : Str)).isSome = false
section
variable {L : Tl} {b : Base}
theorem Tx.glo (T : Tx L b) (i : Nat) {x : Str} (h : L.fa[i]? = some (.glo x) := by rfl) : b.mg x = some (.ref (He.ga b.K x)) := let ⟨_, a, c⟩ := T.h; He.glo_ok a c (T.s.c.fact i h)
theorem Tx.free (T : Tx L b) (i : Nat) {x : Str} (h : L.fa[i]? = some (.free x) := by rfl) : b.mg x = none := let ⟨_, a, c⟩ := T.h; He.free_ok a c (T.s.c.fact i h)
theorem Tx.int (T : Tx L b) (i : Nat) {x : Str} {n : Int} (h : L.fa[i]? = some (.int x n) := by rfl) : ∃ t, b.mg x = some (.int n t) := let ⟨_, a, c⟩ := T.h; He.int_ok a c (T.s.c.fact i h)
theorem Tx.str (T : Tx L b) (i : Nat) {x z : Str} (h : L.fa[i]? = some (.str x z) := by rfl) : ∃ t, b.mg x = some (.str z t) := let ⟨_, a, c⟩ := T.h; He.str_ok a c (T.s.c.fact i h)
theorem Tx.cls (T : Tx L b) (i : Nat) {x : Str} (h : L.fa[i]? = some (.cls x) := by rfl) : Cls b.K (He.ga b.K x) := He.cls_ok (T.s.c.fact i h)
theorem Tx.noat (T : Tx L b) (i : Nat) {x f : Str} (h : L.fa[i]? = some (.noat x f) := by rfl) : NoAttr b.K (He.ga b.K x) f := He.noat_ok (T.s.c.fact i h)
theorem Tx.meth (T : Tx L b) (i : Nat) {x f : Str} (h : L.fa[i]? = some (.meth x f) := by rfl) : Meth b.K (He.ga b.K x) f (He.ma b.K (He.ga b.K x) f) := He.meth_ok (T.s.c.fact i h)
theorem Tx.x (T : Tx L b) (i : Nat) {f : PySem.W.Frag → Bool} (h : L.xf[i]? = some f := by rfl) : f b.K = true := T.s.xf f (List.mem_of_getElem? h)
theorem Tx.ns (T : Tx L b) {x : Str} {v : Value} (h : PySem.W.nsIn b.K mainGlobals x = some (some v)) : b.mg x = some v := let ⟨_, a, c⟩ := T.h; PySem.W.mg_of a c h
theorem Tx.mkr (T : Tx L b) (i : Nat) {x : Str} (h : L.fa[i]? = some (.mkr x) := by rfl) : Mk b.K (He.ga b.K x) (He.ma b.K (He.ga b.K x) "__init__") := He.mkr_ok (T.s.c.fact i h)
theorem Tx.prp (T : Tx L b) (i : Nat) {d : PrD} (h : L.pr[i]? = some d := by rfl) : PropOf b.K (He.ga b.K d.cn) d.m (prA b.K d.cn d.m) (gtA b.K d.cn d.m) ∧ ∃ fd, FunD b.K d.m d.qual d.params d.body d.scope [] [] (gtA b.K d.cn d.m) fd := T.s.prp d (List.mem_of_getElem? h)
theorem Tx.xi (T : Tx L b) (i : Nat) {d : XiD} (h : L.xi[i]? = some d := by rfl) : XiOk L.file b.K d := T.s.xi d (List.mem_of_getElem? h)
end
/-! ### the law is called -/
theorem ints_all {K : PySem.W.Frag} {F : Hp} {al : List Addr} : ∀ ns : List Int, RpL K F al (ns.map .int) (ns.map V.int)
  | [] => .nil
  | n :: r => .cons (.int n) (ints_all r)
theorem noCX {P : Program} {w : World} {H : Hp} {s : Shared} {u : Value} {s' : Shared} (h : L2.CX P w [] H s (fun _ _ _ => False) u s') : False := by
  obtain ⟨_, _, _, _, _, _, _, _, _, _, _, _, z⟩ := h
  exact z
end DS

namespace DS
open PySem PySem.Spec PyProof.Rows L2
set_option maxHeartbeats 1000000 in
theorem meets_enum1 {v : Value} {o : Obj} {H : Heap → Prop} (B : Begins v o H) :
    Meets (Builtin.«enumerate.__new__» ⟨[.type "enumerate", v], []⟩) (fun _ R s => H s.heap ∧
      R (.ok (.ret (.ref (s.heap.push o).objs.size))) { s with heap := (s.heap.push o).push { cls := .type "enumerate", data := .fields #[.none, .bool false, .ref s.heap.objs.size, rawInt 0, .none, .none] } }) :=
  .of_wp fun prog w A R s h => by
    obtain ⟨hp, g, d, tk, os⟩ := s; obtain ⟨h1, h⟩ := h
    have hs := sub_enumerate
    have q1 : ∀ {A' : Around} {E : Value → Shared → Prop} {Q : Value → Shared → Prop}, Q (.ref hp.objs.size) ⟨hp.push o, g, d, tk, os⟩ → wpAny (model prog w) A' (pyIter v) Q E ⟨hp, g, d, tk, os⟩ :=
      fun q => B.iter prog w _ _ ⟨hp, g, d, tk, os⟩ _ h1 q
    wp_walk using q1
    refine wpAny_stack_any fun st => wpAny_pure ?_
    split
    · rename_i c _ _ _ _ _
      cases (c == Value.type "enumerate")
      · wp_walk using q1
        exact ⟨_, rfl, h⟩
      · wp_walk using q1
        exact ⟨_, rfl, h⟩
    · wp_walk using q1
      exact ⟨_, rfl, h⟩
theorem enum1_begins {prog : Program} {w : World} {A : Around} {E : Value → Shared → Prop} {s : Shared} {v : Value} {o : Obj} {H : Heap → Prop} {Q : Value → Shared → Prop} (B : Begins v o H) (h1 : H s.heap)
    (h : ∀ h', IsEnum h' (s.heap.objs.size + 1) s.heap.objs.size 0 .none → h'.get? s.heap.objs.size = some o → (∀ b o, s.heap.get? b = some o → h'.get? b = some o) → Q (.ref (s.heap.objs.size + 1)) { s with heap := h' }) :
    wpAny (model prog w) A (call (.type "enumerate") [v]) Q E s := by
  refine callType_new F.called_enumerate (by decide) (F.typeCall_enumerate_1 _) (F.newCall_enumerate_1 _) (fun obj => F.args_object_init_2 obj _) F.entry_enumerate_new (meets_enum1 B) ⟨h1, ?_⟩
  have hz : (s.heap.push o).objs.size = s.heap.objs.size + 1 := Heap.size_push ..
  show _ ∧ _
  rw [hz]
  have he : IsEnum ((s.heap.push o).push { cls := .type "enumerate", data := .fields #[.none, .bool false, .ref s.heap.objs.size, rawInt 0, .none, .none] }) (s.heap.objs.size + 1) s.heap.objs.size 0 .none := by
    have z := Heap.get?_push_size (s.heap.push o) (o := { cls := .type "enumerate", data := .fields #[.none, .bool false, .ref s.heap.objs.size, rawInt 0, .none, .none] }) rfl
    rw [hz] at z; exact z
  exact ⟨⟨_, he, rfl⟩, h _ he (Heap.get?_push_of_some _ (Heap.get?_push_size _ B.free)) fun b o x => Heap.get?_push_of_some _ (Heap.get?_push_of_some _ x)⟩
/-- enumerate of a tuple -/
def Iet (K : PySem.W.Frag) (a : Addr) : It :=
  ⟨fun i H => ∃ xs x, SqT K H a xs ∧ xs[i]? = some x, fun i H v H' => ∃ T x, v = .ref T ∧ H T = none ∧ H' = upd H T (.tup [.int (i : Nat), x]) ∧ ∀ xs, SqT K H a xs → xs[i]? = some x, fun i H => ∃ xs, SqT K H a xs ∧ xs.length ≤ i⟩
theorem tup_ne {h : Heap} {t it : Addr} {items : Array Value} {i : Nat} (h1 : IsTup h t items) (h2 : h.IsTupleIter it t i) : t ≠ it := by
  rintro rfl
  obtain ⟨o, e, c, _⟩ := h1
  obtain ⟨o', e', c', _⟩ := h2
  rw [e] at e'
  cases e'
  rw [c] at c'
  exact absurd c' (by simp)
theorem enum_ne {h : Heap} {t e it : Addr} {items : Array Value} {i : Int} {old : Value} (h1 : IsTup h t items) (h2 : IsEnum h e it i old) : e ≠ t := by
  rintro rfl
  obtain ⟨o, q, c, _⟩ := h1
  have h2' : h.get? e = some _ := h2
  rw [q] at h2'
  cases h2'
  exact absurd c (by simp)
theorem turn_enumT {P : Program} {w : World} {K : PySem.W.Frag} {elts : List Expr} {kk : Nat} {tpos : Pos} (a e it : Addr) :
    Turn P w K (.Tuple elts kk tpos) (Iet K a) [e, it] e (fun i h => (∃ old, IsEnum h e it ((i : Nat) : Int) old) ∧ h.IsTupleIter it a i ∧ e ≠ it) where
  mem := by simp
  obj := fun i h st q hq => by
    obtain ⟨⟨old, he⟩, ⟨o, ho, hc, hd⟩, _⟩ := st
    rcases (by simpa using hq : q = e ∨ q = it) with rfl | rfl
    · exact ⟨_, he, fun v z => nomatch z⟩
    · exact ⟨o, ho, fun v z => by rw [hd] at z; cases z⟩
  keep := fun i h h' st k => let ⟨⟨old, he⟩, hi, hne⟩ := st; ⟨⟨old, k e (by simp) _ he⟩, hi.at fun o q => k it (by simp) o q, hne⟩
  item := by
    intro X hP hw hK hc i pins s σ H E I hf st hg
    subst hP hw hK
    obtain ⟨⟨old, he⟩, hit, hne⟩ := st
    obtain ⟨xs, x, hq, hx⟩ := hg
    obtain ⟨its, rv, p, hz⟩ := I.tuple hq
    obtain ⟨u, hu, ru⟩ := rv.get hx
    have n1 := tup_ne p hit
    have n2 := enum_ne p he
    have hel : e < s.heap.objs.size := Heap.lt_size he
    have hil : it < s.heap.objs.size := by obtain ⟨_, q, _⟩ := hit; exact Heap.lt_size q
    have hlt : i < its.toArray.size := by
      have := (List.getElem?_eq_some_iff.mp hu).1
      simpa using this
    refine wpAny_pyNext_enum_itemD (Draws.tuple (A := X.A.in1) (I.ok.hd hc) it a n1 its.toArray) he ⟨hit, p⟩ hlt hne (by simp [hne, n2]) fun x' h' tk hPx ho hst' hT hsz hk => ?_
    have eu : x' = u := by
      have hPx : its.toArray[i]? = some x' := hPx
      rw [List.getElem?_toArray, hu] at hPx
      cases hPx
      rfl
    subst eu
    refine ⟨_, rfl, wpAny_letOwnedTupleGo_enum (s := { s with heap := h', toks := tk + 1 }) ho fun h'' he' sb => ?_⟩
    have hT2 : h''.get? s.heap.objs.size = some { cls := .type "tuple", data := .seq #[.int i tk, x'] } := (sb.2 _ (Nat.ne_of_gt hel)).trans hT
    have new : ObjOk X.prog X.w (upd H s.heap.objs.size (.tup [.int (i : Nat), x])) h'' s.heap.objs.size (.tup [.int (i : Nat), x]) :=
      ⟨small_line (by decide : 2 ≤ 100000), [.int i tk, x'], .cons ⟨_, rfl⟩ (.cons ru .nil), ⟨_, hT2, rfl, _, rfl⟩⟩
    have I1 : Inv X pins σ (upd H s.heap.objs.size (.tup [.int (i : Nat), x])) { s with heap := h'', toks := tk + 1 } :=
      I.turnedNew (ch := [e, it]) (fun q ob hb z => (sb.2 q (fun y => hb (by simp [y]))).trans (hk q ob (fun y => hb (by simp [y])) (fun y => hb (by simp [y])) z)) hf (Nat.le_refl _) new
    refine ⟨.ref s.heap.objs.size, _, I1, rfl, ⟨_, x, rfl, I.hok.fresh (Nat.le_refl _), rfl, fun ys hy => by rw [I.tuple_inj hy hq]; exact hx⟩, ⟨⟨x', ?_⟩, hst'.1.at fun o q => (sb.2 it (Ne.symm hne)).trans q, hne⟩, fun q hq' => ?_⟩
    · have e1 : ((i + 1 : Nat) : Int) = (i : Int) + 1 := by omega
      rw [e1]; exact he'
    · have hb' : q < s.heap.objs.size := by
        rcases (by simpa using hq' : q = e ∨ q = it) with z | z
        · rw [z]; exact hel
        · rw [z]; exact hil
      rw [upd_ne (Nat.ne_of_lt hb')]
      exact (hf q hq').1
  done := by
    intro X hP hw hK hc i pins s σ H E I hf st hg
    subst hP hw hK
    obtain ⟨⟨old, he⟩, hit, hne⟩ := st
    obtain ⟨xs, hq, hx⟩ := hg
    obtain ⟨its, rv, p, hz⟩ := I.tuple hq
    obtain ⟨f0, f1, f2, f3, f4, f5⟩ := hf it (by simp)
    have hl := rv.length
    have hnone : its.toArray[i]? = none := by
      rw [List.getElem?_toArray]
      exact List.getElem?_eq_none_iff.mpr (by omega)
    have hT : s.TypeIs (.ref e) "enumerate" := ⟨_, he, rfl⟩
    unfold pyNext
    refine wpAny_bind (wpAny_attempt (wpAny_callSpecial?_slot (name := Str.ofString "__next__") hT F.slot_enumerate_next (wpAny_call_entry F.slot_enumerate_next hT F.entry_enumerate_next ?_ (F.args_enumerate_next_1 _))))
    show wpAny _ _ (field (.ref e) 2 >>= _) _ _ _
    refine wpAny_bind (wpAny_field he rfl (x := .ref it) rfl ?_)
    refine wpAny_bind (wpAny_nextOf_tuple_end (A := X.A.in1) (I.ok.hd hc) hit p hnone fun h' y hk' hy => ?_)
    obtain ⟨oy, hoy, hcy⟩ := hy
    refine wpAny_bind (wpAny_isInstance (T := "StopIteration") (b := true) ⟨oy, hoy, hcy⟩ isSubtype_stop ?_)
    exact wpAny_pure ⟨rfl, I.turned (t' := s.toks) (fun q o hb z => hk' q o hb z) f0 f1 f3 f4 f5⟩
  self := fun A i s Q E st h => let ⟨⟨_, he⟩, _⟩ := st; wpAny_pyIter_enum he h
def iEnumT (K : PySem.W.Frag) (ta : TA) : TI := fun σ H R => ta σ H fun vs H1 => ∃ a xs, vs = [.ref a] ∧ SqT K H1 a xs ∧ R (Iet K a) H1
theorem pi_enumT {X : Cx} {e : Expr} {ta : TA} {p pos tpos : Pos} {elts : List Expr} {kk : Nat} (hg : Gl X "enumerate") (hm : X.mg "enumerate" = none) (ha : PA X [e] ta) (hs : starEach [e] X.env = [(false, eval e X.env)]) :
    PI X (.Tuple elts kk tpos) (.Call (.Name "enumerate" p) [e] [] pos) (iEnumT X.K ta) := by
  refine ⟨fun pins s σ H R I h => ?_⟩
  refine Call_ (ld_blt I hg hm boot_enumerate (PyProof.Rows.callWith_type1 (thn (ha.run pos pins s σ H _ I h) fun us s1 ⟨vs, H1, I1, r1, q1⟩ => ?_) hs rfl))
  obtain ⟨a, xs, ex, hq, q⟩ := q1
  subst ex
  obtain ⟨u, rfl, ru⟩ := vals1 r1
  obtain rfl : u = Value.ref a := ru
  obtain ⟨its, rv, ht, hz⟩ := I1.tuple hq
  refine enum1_begins (begins_tuple a its.toArray) ht fun h' he hit hk => wpAny_pyIter_enum he ?_
  have I2 : Inv X pins σ H1 { s1 with heap := h' } := I1.kept (t' := s1.toks) hk
  refine ⟨s1.heap.objs.size + 1, [s1.heap.objs.size + 1, s1.heap.objs.size], _, _, H1, rfl, I2, turn_enumT a (s1.heap.objs.size + 1) s1.heap.objs.size, ⟨⟨.none, he⟩, ⟨_, hit, rfl, rfl⟩, Nat.succ_ne_self _⟩, fun y hy => ?_, q⟩
  have hle : s1.heap.objs.size ≤ y := by
    rcases (by simpa using hy : y = s1.heap.objs.size + 1 ∨ y = s1.heap.objs.size) with z | z
    · rw [z]; exact Nat.le_add_right _ _
    · rw [z]; exact Nat.le_refl _
  exact I1.fpOk hle (I1.hok.fresh hle)
theorem yld_enumT {K : PySem.W.Frag} {F : Hp} {al : List Addr} {q : Addr} {vs : List V} {xs : List D} (s : SqT K F q vs) (r : RpL K F al xs vs) : Yld K (Iet K q) (enumL 0 xs) F al := by
  refine ⟨fun H F' al' m i d e w hd => ?_, fun H F' al' m i e w hi => ⟨vs, SqT.fix s e w, by rw [← r.len, ← enumL_len xs 0]; exact hi⟩⟩
  rw [enumL_get] at hd
  cases hx : xs[i]? with
  | none => rw [hx] at hd; cases hd
  | some z =>
    rw [hx] at hd
    cases hd
    obtain ⟨x, h1, h2⟩ := r.get hx
    refine ⟨⟨vs, x, SqT.fix s e w, h1⟩, fun y H' hy => ?_⟩
    obtain ⟨T, x', rfl, hT, rfl, hy⟩ := hy
    have hz := (hy vs (SqT.fix s e w)).symm.trans h1
    cases hz
    have hf := w.fnone hT
    refine ⟨upd F' T _, ext_new hf, w.new hT, .tup (.of upd_same) (.cons ?_ (.cons ((h2.up e).up (ext_new hf)) .nil))⟩
    rw [Nat.zero_add]
    exact .int _
def enumD' (ds : List D) (m : Mu) : Out (List D) := match ds with
  | [.lst xs] => .ok (enumL 0 xs) m
  | [.tup xs] => .ok (enumL 0 xs) m
  | _ => .stuck
def xiEnum' (f : XA) : XA := fun r m => (f r m).bind enumD'
theorem di_enum' {c : SC} {W : WX} {e : Expr} {pos : Pos} {fr : XA} {p0 tpos : Pos} {elts : List Expr} {kk : Nat} (hm : c.mg "enumerate" = none) (h : DA c W [e] fr) (hg : c.sc.names.lookup ("enumerate" : Str) = some .globalImplicit := by rfl) (hs : ∀ env, starEach [e] env = [(false, eval e env)] := by intro _; rfl) : DI c W (.Tuple elts kk tpos) (.Call (.Name "enumerate" p0) [e] [] pos) (xiEnum' fr) := by
  obtain ⟨⟨t, h1, h2⟩, _⟩ := h
  refine ⟨fun σ H R => iEnum c.K t σ H R ∨ iEnumT c.K t σ H R, fun y hy => PI.or (pi_enum (hy.gl hg) hm (h1 y hy) (hs _)) (pi_enumT (hy.gl hg) hm (h1 y hy) (hs _)), fun r m σ H F al R he hw p => ?_⟩
  unfold xiEnum' at p
  have lists : ∀ q xs m1, fr r m = .ok q m1 → q = [.lst xs] → Post c.K (fun F al xs J => Yld c.K J xs F al) (atS W σ) F al R (.ok (enumL 0 xs) m1) → iEnum c.K t σ H R := fun q xs m1 e1 e2 p => by
    subst e2
    refine h2 r m σ H F al _ he hw ?_
    rw [e1]
    intro vs H1 F1 al1 ex w1 q1
    cases q1 with
    | cons qa q =>
      cases q
      cases qa with
      | @lst q' ys _ s q2 => exact ⟨q', ys, rfl, .of (w1.sub _ _ s), p _ H1 F1 al1 ex w1 (yld_enum (.of s) q2)⟩
  have tups : ∀ q xs m1, fr r m = .ok q m1 → q = [.tup xs] → Post c.K (fun F al xs J => Yld c.K J xs F al) (atS W σ) F al R (.ok (enumL 0 xs) m1) → iEnumT c.K t σ H R := fun q xs m1 e1 e2 p => by
    subst e2
    refine h2 r m σ H F al _ he hw ?_
    rw [e1]
    intro vs H1 F1 al1 ex w1 q1
    cases q1 with
    | cons qa q =>
      cases q
      cases qa with
      | @tup q' ys _ s q2 => exact ⟨q', ys, rfl, sqt_up w1.sub s, p _ H1 F1 al1 ex w1 (yld_enumT s q2)⟩
  cases o : fr r m with
  | stuck => rw [o] at p; exact p.elim
  | exc cc fs m1 =>
    refine .inl (h2 r m σ H F al _ he hw ?_)
    rw [o] at p ⊢
    exact p
  | ok ds m1 =>
    rw [o] at p
    have p : Post c.K (fun F al xs J => Yld c.K J xs F al) (atS W σ) F al R (enumD' ds m1) := p
    unfold enumD' at p
    split at p
    · exact .inl (lists _ _ _ o rfl p)
    · exact .inr (tups _ _ _ o rfl p)
    · exact p.elim
end DS

/-! # DSF: frames. A run on a small store is the run on a store with more cells ahead. -/
namespace DS
open PySem PySem.Spec PyProof.Rows L2
mutual
def D.sh (k : Nat) : D → D
  | .loc n => .loc (k + n)
  | .tup xs => .tup (D.shL k xs)
  | .lst xs => .lst (D.shL k xs)
  | .fix xs => .fix (D.shL k xs)
  | .obj c fs => .obj c (D.shF k fs)
  | .dct fs => .dct (D.shF k fs)
  | .non => .non
  | .bl b => .bl b
  | .int i => .int i
  | .str x => .str x
  | .glo x => .glo x
  | .ty x => .ty x
  | .exn h fs => .exn h (D.shF k fs)
def D.shL (k : Nat) : List D → List D
  | [] => []
  | x :: r => D.sh k x :: D.shL k r
def D.shF (k : Nat) : List (Str × D) → List (Str × D)
  | [] => []
  | (f, x) :: r => (f, D.sh k x) :: D.shF k r
end
theorem shL_map (k : Nat) : ∀ xs : List D, D.shL k xs = xs.map (D.sh k)
  | [] => rfl
  | x :: r => by rw [D.shL, List.map_cons, shL_map k r]
theorem shL_len (k : Nat) (xs : List D) : (D.shL k xs).length = xs.length := by rw [shL_map, List.length_map]
theorem shL_app (k : Nat) (xs ys : List D) : D.shL k (xs ++ ys) = D.shL k xs ++ D.shL k ys := by simp [shL_map]
theorem shL_get (k : Nat) (xs : List D) (i : Nat) : (D.shL k xs)[i]? = (xs[i]?).map (D.sh k) := by rw [shL_map, List.getElem?_map]
theorem shF_len (k : Nat) : ∀ xs : List (Str × D), (D.shF k xs).length = xs.length
  | [] => rfl
  | (_, x) :: r => by rw [D.shF, List.length_cons, List.length_cons, shF_len k r]
theorem shF_look (k : Nat) (f : Str) : ∀ xs : List (Str × D), (D.shF k xs).lookup f = (xs.lookup f).map (D.sh k)
  | [] => rfl
  | (g, x) :: r => by
    rw [D.shF, List.lookup_cons, List.lookup_cons]
    cases f == g
    · exact shF_look k f r
    · rfl
mutual
theorem inB_sh (k n : Nat) : ∀ d : D, (d.sh k).inB (k + n) = d.inB n
  | .loc m => by rw [D.sh, D.inB, D.inB]; simp
  | .tup xs => by rw [D.sh, D.inB, D.inB, inL_sh k n xs]
  | .lst xs => by rw [D.sh, D.inB, D.inB, inL_sh k n xs]
  | .fix xs => by rw [D.sh, D.inB, D.inB, inL_sh k n xs]
  | .obj c fs => by rw [D.sh, D.inB, D.inB, inF_sh k n fs]
  | .dct fs => by rw [D.sh, D.inB, D.inB, inF_sh k n fs]
  | .non => rfl
  | .bl b => rfl
  | .int i => rfl
  | .str x => rfl
  | .glo x => rfl
  | .ty x => rfl
  | .exn h fs => by rw [D.sh, D.inB, D.inB, inF_sh k n fs]
theorem inL_sh (k n : Nat) : ∀ d : List D, D.inL (k + n) (D.shL k d) = D.inL n d
  | [] => rfl
  | x :: r => by rw [D.shL, D.inL, D.inL, inB_sh k n x, inL_sh k n r]
theorem inF_sh (k n : Nat) : ∀ d : List (Str × D), D.inF (k + n) (D.shF k d) = D.inF n d
  | [] => rfl
  | (_, x) :: r => by rw [D.shF, D.inF, D.inF, inB_sh k n x, inF_sh k n r]
end
mutual
theorem sh_id (k : Nat) : ∀ d : D, d.inB 0 = true → d.sh k = d
  | .loc m, h => by rw [D.inB] at h; simp at h
  | .tup xs, h => by rw [D.inB] at h; rw [D.sh, shL_id k xs h]
  | .lst xs, h => by rw [D.inB] at h; rw [D.sh, shL_id k xs h]
  | .fix xs, h => by rw [D.inB] at h; rw [D.sh, shL_id k xs h]
  | .obj c fs, h => by rw [D.inB] at h; rw [D.sh, shF_id k fs h]
  | .dct fs, h => by rw [D.inB] at h; rw [D.sh, shF_id k fs h]
  | .non, _ => rfl
  | .bl b, _ => rfl
  | .int i, _ => rfl
  | .str x, _ => rfl
  | .glo x, _ => rfl
  | .ty x, _ => rfl
  | .exn q fs, h => by rw [D.inB] at h; rw [D.sh, shF_id k fs h]
theorem shL_id (k : Nat) : ∀ d : List D, D.inL 0 d = true → D.shL k d = d
  | [], _ => rfl
  | x :: r, h => by
    rw [D.inL, Bool.and_eq_true] at h
    rw [D.shL, sh_id k x h.1, shL_id k r h.2]
theorem shF_id (k : Nat) : ∀ d : List (Str × D), D.inF 0 d = true → D.shF k d = d
  | [], _ => rfl
  | (_, x) :: r, h => by
    rw [D.inF, Bool.and_eq_true] at h
    rw [D.shF, sh_id k x h.1, shF_id k r h.2]
end
mutual
theorem toP_sh (k : Nat) : ∀ d : D, toP (d.sh k) = toP d
  | .loc m => by rw [D.sh]; rfl
  | .tup xs => by rw [D.sh, toP, toP, toPs_sh k xs]
  | .lst xs => by rw [D.sh, toP, toP, toPs_sh k xs]
  | .fix xs => by rw [D.sh, toP, toP, toPs_sh k xs]
  | .obj c fs => rfl
  | .dct fs => rfl
  | .non => rfl
  | .bl b => rfl
  | .int i => rfl
  | .str x => rfl
  | .glo x => rfl
  | .ty x => rfl
  | .exn h fs => rfl
theorem toPs_sh (k : Nat) : ∀ d : List D, toPs (D.shL k d) = toPs d
  | [] => rfl
  | x :: r => by rw [D.shL, toPs, toPs, toP_sh k x, toPs_sh k r]
end
def Cell.sh (k : Nat) : Cell → Cell
  | .lst xs => .lst (D.shL k xs)
  | .ins c fs => .ins c (D.shF k fs)
  | .dct fs => .dct (D.shF k fs)
  | .dead => .dead
  | .tab q => .tab q
def shM (μ ν : Mu) : Mu := μ ++ ν.map (Cell.sh μ.length)
section
variable {μ ν : Mu}
theorem shM_len : (shM μ ν).length = μ.length + ν.length := by simp [shM]
theorem shM_get (n : Nat) : (shM μ ν)[μ.length + n]? = (ν[n]?).map (Cell.sh μ.length) := by
  rw [shM, List.getElem?_append_right (Nat.le_add_right _ _), Nat.add_sub_cancel_left, List.getElem?_map]
theorem shM_set (n : Nat) (c : Cell) : (shM μ ν).set (μ.length + n) (c.sh μ.length) = shM μ (ν.set n c) := by
  rw [shM, shM, List.set_append_right _ _ (Nat.le_add_right _ _), Nat.add_sub_cancel_left, List.map_set]
theorem shM_take (n : Nat) : (shM μ ν).take (μ.length + n) = shM μ (ν.take n) := by
  rw [shM, shM, List.take_append, List.take_of_length_le (Nat.le_add_right _ _), Nat.add_sub_cancel_left, List.map_take]
theorem shM_app (c : Cell) : shM μ ν ++ [c.sh μ.length] = shM μ (ν ++ [c]) := by simp [shM]
theorem shM_nil : shM μ [] = μ := by simp [shM]
theorem lstOf_sh (d : D) : lstOf (shM μ ν) (d.sh μ.length) = (lstOf ν d).map (D.shL μ.length) := by
  cases d <;> try rfl
  rename_i n
  rw [D.sh]
  unfold lstOf
  simp only [shM_get]
  cases ν[n]? with
  | none => rfl
  | some c => cases c <;> rfl
theorem ownOf_sh (d : D) : ownOf (shM μ ν) (d.sh μ.length) = (ownOf ν d).map (D.shL μ.length) := by
  cases d <;> try rfl
  rename_i n
  rw [D.sh]
  unfold ownOf
  simp only [shM_get]
  cases ν[n]? with
  | none => rfl
  | some c => cases c <;> rfl
theorem insOf_sh (d : D) : insOf (shM μ ν) (d.sh μ.length) = (insOf ν d).map fun p => (p.1, D.shF μ.length p.2) := by
  cases d <;> try rfl
  rename_i n
  rw [D.sh]
  unfold insOf
  simp only [shM_get]
  cases ν[n]? with
  | none => rfl
  | some c => cases c <;> rfl
theorem seqOf_sh (d : D) : seqOf (shM μ ν) (d.sh μ.length) = (seqOf ν d).map (D.shL μ.length) := by
  unfold seqOf
  cases d <;> try rfl
  exact lstOf_sh (.loc _)
theorem dere_sh (d : D) : toP (dere (shM μ ν) (d.sh μ.length)) = toP (dere ν d) := by
  cases d <;> try exact toP_sh _ _
  rename_i n
  rw [D.sh]
  unfold dere
  simp only [shM_get]
  cases ν[n]? with
  | none => rfl
  | some c =>
    cases c <;> try rfl
    exact toP_sh μ.length (.fix _)
end

/-! ### shifts of answers -/
class Shf (α : Type) where
  sh : Nat → α → α
instance : Shf D := ⟨D.sh⟩
instance : Shf Bool := ⟨fun _ b => b⟩
instance : Shf Unit := ⟨fun _ b => b⟩
instance : Shf (List D) := ⟨D.shL⟩
instance : Shf (Option Int) := ⟨fun _ b => b⟩
def shR (k : Nat) (r : Rho) : Rho := r.map (Option.map (D.sh k))
instance : Shf Rho := ⟨shR⟩
/-- o' is what o is, on the greater store -/
def FrO {α : Type} [Shf α] (μ : Mu) (o' : Out α) : Out α → Prop
  | .ok a ν => o' = .ok (Shf.sh μ.length a) (shM μ ν)
  | .exc c fs ν => o' = .exc c (D.shF μ.length fs) (shM μ ν)
  | .stuck => True
def FrS (μ : Mu) (o' : SO) : SO → Prop
  | .next r ν => o' = .next (shR μ.length r) (shM μ ν)
  | .brk r ν => o' = .brk (shR μ.length r) (shM μ ν)
  | .cont r ν => o' = .cont (shR μ.length r) (shM μ ν)
  | .ret d ν => o' = .ret (d.sh μ.length) (shM μ ν)
  | .exc c fs r ν => o' = .exc c (D.shF μ.length fs) (shR μ.length r) (shM μ ν)
  | .stuck => True
theorem FrO.bind {α β : Type} [Shf α] [Shf β] {μ : Mu} {o' o : Out α} {k' k : α → Mu → Out β} (h : FrO μ o' o) (hk : ∀ a ν, FrO μ (k' (Shf.sh μ.length a) (shM μ ν)) (k a ν)) : FrO μ (o'.bind k') (o.bind k) := by
  cases o with
  | ok a ν =>
    rw [show o' = _ from h]
    exact hk a ν
  | exc c fs ν =>
    rw [show o' = _ from h]
    rfl
  | stuck => trivial
theorem FrO.ne {α : Type} [Shf α] {μ : Mu} {o' o : Out α} (h : FrO μ o' o) : FrO μ o'.ne o.ne := by
  cases o with
  | ok a ν =>
    rw [show o' = _ from h]
    rfl
  | exc c fs ν => trivial
  | stuck => trivial
theorem FrO.stm {α : Type} [Shf α] {μ : Mu} {o' o : Out α} {r : Rho} {k' k : α → Mu → SO} (h : FrO μ o' o) (hk : ∀ a ν, FrS μ (k' (Shf.sh μ.length a) (shM μ ν)) (k a ν)) : FrS μ (o'.stm (shR μ.length r) k') (o.stm r k) := by
  cases o with
  | ok a ν =>
    rw [show o' = _ from h]
    exact hk a ν
  | exc c fs ν =>
    rw [show o' = _ from h]
    rfl
  | stuck => trivial
def FrE (f : XE') : Prop := ∀ μ r ν, FrO μ (f (shR μ.length r) (shM μ ν)) (f r ν)
def FrT (f : XT) : Prop := ∀ μ r ν, FrO μ (f (shR μ.length r) (shM μ ν)) (f r ν)
def FrA (f : XA) : Prop := ∀ μ r ν, FrO μ (f (shR μ.length r) (shM μ ν)) (f r ν)
def FrI (f : XO) : Prop := ∀ μ r ν, FrO μ (f (shR μ.length r) (shM μ ν)) (f r ν)
def FrB (f : XS) : Prop := ∀ μ r ν, FrS μ (f (shR μ.length r) (shM μ ν)) (f r ν)
def FrG (f : XG) : Prop := ∀ μ d r ν, FrO μ (f (d.sh μ.length) (shR μ.length r) (shM μ ν)) (f d r ν)
def FrGs (f : XGs) : Prop := ∀ μ d r ν, FrO μ (f (D.shL μ.length d) (shR μ.length r) (shM μ ν)) (f d r ν)
def FrF (f : Fn) : Prop := ∀ μ d ν, FrO μ (f (D.shL μ.length d) (shM μ ν)) (f d ν)
def Fr2 (g : D → D → Mu → Out D) : Prop := ∀ μ d e ν, FrO μ (g (d.sh μ.length) (e.sh μ.length) (shM μ ν)) (g d e ν)
theorem shR_get (k : Nat) (r : Rho) (i : Nat) : (shR k r)[i]? = (r[i]?).map (Option.map (D.sh k)) := by rw [shR, List.getElem?_map]
theorem shR_set (k : Nat) (r : Rho) (i : Nat) (d : D) : (shR k r).set i (some (d.sh k)) = shR k (r.set i (some d)) := by rw [shR, shR, List.map_set]; rfl
theorem shR_set0 (k : Nat) (r : Rho) (i : Nat) : (shR k r).set i none = shR k (r.set i none) := by rw [shR, shR, List.map_set]; rfl
theorem shR_wipe (k : Nat) (r : Rho) : ∀ vs, wipeR (shR k r) vs = shR k (wipeR r vs)
  | [] => rfl
  | v :: vs => by rw [wipeR, wipeR, shR_wipe k r vs, shR_set0]
theorem fr_xVar (i : Nat) : FrE (xVar i) := fun μ r ν => by
  unfold xVar
  rw [shR_get]
  cases r[i]? with
  | none => trivial
  | some o => cases o with
    | none => trivial
    | some d => rfl
theorem fr_xC (d : D) (h : d.inB 0 = true := by rfl) : FrE (xC d) := fun μ r ν => by
  show _ = _
  rw [show Shf.sh μ.length d = d.sh μ.length from rfl, sh_id _ d h]
  rfl
theorem fr_xOp {g : D → D → Mu → Out D} {a b : XE'} (hg : Fr2 g) (ha : FrE a) (hb : FrE b) : FrE (xOp g a b) := fun μ r ν =>
  (ha μ r ν).bind fun x ν1 => (hb μ r ν1).bind fun y ν2 => hg μ x y ν2
theorem fr_asB (μ : Mu) (d : D) (ν : Mu) : FrO μ (asB (d.sh μ.length) (shM μ ν)) (asB d ν) := by cases d <;> trivial
theorem fr_xTest {f : XE'} (hf : FrE f) : FrT (xTest f) := fun μ r ν => (hf μ r ν).bind fun d ν1 => fr_asB μ d ν1
theorem fr_xAndT {a b : XT} (ha : FrT a) (hb : FrT b) : FrT (xAndT a b) := fun μ r ν => (ha μ r ν).bind fun k ν1 => by
  cases k
  · exact rfl
  · exact hb μ r ν1
theorem fr_xOrT {a b : XT} (ha : FrT a) (hb : FrT b) : FrT (xOrT a b) := fun μ r ν => (ha μ r ν).bind fun k ν1 => by
  cases k
  · exact hb μ r ν1
  · exact rfl
theorem fr_xNotT {a : XT} (ha : FrT a) : FrT (xNotT a) := fun μ r ν => (ha μ r ν).bind fun k ν1 => rfl
theorem fr_xAnd {a b : XE'} (ha : FrE a) (hb : FrE b) : FrE (xAnd a b) := fun μ r ν => ((ha μ r ν).bind fun d ν1 => fr_asB μ d ν1).bind fun k ν1 => by
  cases k
  · exact rfl
  · exact hb μ r ν1
theorem fr_xOr {a b : XE'} (ha : FrE a) (hb : FrE b) : FrE (xOr a b) := fun μ r ν => ((ha μ r ν).bind fun d ν1 => fr_asB μ d ν1).bind fun k ν1 => by
  cases k
  · exact hb μ r ν1
  · exact rfl
theorem fr_xNot {a : XE'} (ha : FrE a) : FrE (xNot a) := fun μ r ν => ((ha μ r ν).bind fun d ν1 => fr_asB μ d ν1).bind fun k ν1 => rfl
theorem fr_xIf {t : XT} {a b : XE'} (ht : FrT t) (ha : FrE a) (hb : FrE b) : FrE (xIf t a b) := fun μ r ν => (ht μ r ν).bind fun k ν1 => by
  cases k
  · exact hb μ r ν1
  · exact ha μ r ν1
theorem fr_xChain {g g' : D → D → Mu → Out D} {a b k : XE'} (hg : Fr2 g) (hg' : Fr2 g') (ha : FrE a) (hb : FrE b) (hk : FrE k) : FrE (xChain g g' a b k) := fun μ r ν =>
  (ha μ r ν).bind fun x ν1 => (hb μ r ν1).bind fun y ν2 => ((hg μ x y ν2).bind fun d ν1 => fr_asB μ d ν1).bind fun q ν3 => by
    cases q
    · exact rfl
    · exact (hk μ r ν3).bind fun z ν4 => hg' μ y z ν4
theorem fr_xaNil : FrA xaNil := fun μ r ν => rfl
theorem fr_xaCons {a : XE'} {b : XA} (ha : FrE a) (hb : FrA b) : FrA (xaCons a b) := fun μ r ν => (ha μ r ν).bind fun x ν1 => (hb μ r ν1).bind fun xs ν2 => rfl
theorem fr_xTup {a : XA} (ha : FrA a) : FrE (xTup a) := fun μ r ν => (ha μ r ν).bind fun x ν1 => rfl
theorem fr_xLst {a : XA} (ha : FrA a) : FrE (xLst a) := fun μ r ν => (ha μ r ν).bind fun x ν1 => rfl
theorem fr_new (μ : Mu) (ds : List D) (ν : Mu) : FrO μ (if D.inL (shM μ ν).length (D.shL μ.length ds) then Out.ok (D.loc (shM μ ν).length) (shM μ ν ++ [.lst (D.shL μ.length ds)]) else .stuck) (if D.inL ν.length ds then Out.ok (D.loc ν.length) (ν ++ [.lst ds]) else .stuck) := by
  rw [shM_len, inL_sh]
  split
  · exact congrArg (Out.ok _) (shM_app (.lst ds))
  · trivial
theorem fr_xNew {a : XA} (ha : FrA a) : FrE (xNew a) := fun μ r ν => (ha μ r ν).bind fun x ν1 => fr_new μ x ν1

/-! ### operators -/
theorem fr_addD : Fr2 addD := fun μ d e ν => by
  have lists : FrO μ (match ownOf (shM μ ν) (d.sh μ.length), ownOf (shM μ ν) (e.sh μ.length) with
    | some xs, some ys => if xs.length + ys.length ≤ sizeLine then Out.ok (D.lst (xs ++ ys)) (shM μ ν) else .stuck
    | _, _ => .stuck) (match ownOf ν d, ownOf ν e with
    | some xs, some ys => if xs.length + ys.length ≤ sizeLine then .ok (.lst (xs ++ ys)) ν else .stuck
    | _, _ => .stuck) := by
    rw [ownOf_sh, ownOf_sh]
    cases ownOf ν d with
    | none => trivial
    | some xs => cases ownOf ν e with
      | none => trivial
      | some ys =>
        simp only [Option.map_some, shL_len]
        split
        · show _ = Out.ok (D.lst (D.shL μ.length (xs ++ ys))) _
          rw [shL_app]
        · trivial
  cases d <;> cases e <;> try (first | exact lists | trivial)
  · rename_i x y
    unfold addD
    simp only [D.sh]
    split
    · rfl
    · trivial
  · rename_i xs ys
    unfold addD
    simp only [D.sh, shL_len]
    split
    · show _ = Out.ok (D.tup (D.shL μ.length (xs ++ ys))) _
      rw [shL_app]
    · trivial
theorem fr_intD {C : Int → Int → Bool} {g : Int → Int → Int} : Fr2 (intD C g) := fun μ d e ν => by
  cases d <;> try trivial
  cases e <;> try trivial
  rename_i i j
  unfold intD
  simp only [D.sh]
  split
  · rfl
  · trivial
theorem fr_subD : Fr2 subD := fun μ d e ν => by
  cases d <;> try trivial
  cases e <;> trivial
theorem fr_mulD : Fr2 mulD := fun μ d e ν => by
  have lists : ∀ k : Int, FrO μ (match ownOf (shM μ ν) (d.sh μ.length) with
    | some xs => if 0 ≤ k ∧ k < 100000 ∧ xs.length * k.toNat ≤ sizeLine then Out.ok (D.lst (List.replicate k.toNat xs).flatten) (shM μ ν) else .stuck
    | none => .stuck) (match ownOf ν d with
    | some xs => if 0 ≤ k ∧ k < 100000 ∧ xs.length * k.toNat ≤ sizeLine then Out.ok (D.lst (List.replicate k.toNat xs).flatten) ν else .stuck
    | none => .stuck) := fun k => by
    rw [ownOf_sh]
    cases ownOf ν d with
    | none => trivial
    | some xs =>
      simp only [Option.map_some, shL_len]
      split
      · show _ = Out.ok (D.lst (D.shL μ.length _)) _
        simp [shL_map, List.map_flatten]
      · trivial
  cases e <;> try (cases d <;> trivial)
  rename_i k
  cases d <;> try exact lists k
  rename_i i
  unfold mulD
  simp only [D.sh]
  split
  · rfl
  · trivial
theorem fr_modD : Fr2 modD := fr_intD
theorem fr_divD : Fr2 divD := fr_intD
theorem fr_powD : Fr2 powD := fr_intD
theorem fr_cmpD {g : Int → Int → Bool} : Fr2 (cmpD g) := fun μ d e ν => by
  cases d <;> try trivial
  cases e <;> trivial
theorem fr_ltD : Fr2 ltD := fr_cmpD
theorem fr_leD : Fr2 leD := fr_cmpD
theorem fr_gtD : Fr2 gtD := fr_cmpD
theorem fr_geD : Fr2 geD := fr_cmpD
theorem isNon_sh (k : Nat) (d : D) : isNonD (d.sh k) = isNonD d := by cases d <;> rfl
theorem fr_isD : Fr2 isD := fun μ d e ν => by
  cases e <;> try trivial
  show Out.ok _ _ = _
  rw [isNon_sh]
  rfl
theorem fr_isntD : Fr2 isntD := fun μ d e ν => by
  cases e <;> try trivial
  show Out.ok _ _ = _
  rw [isNon_sh]
  rfl
theorem eqB_sh {μ ν : Mu} (d e : D) : eqB (shM μ ν) (d.sh μ.length) (e.sh μ.length) = eqB ν d e := by
  unfold eqB
  rw [dere_sh, dere_sh]
theorem fr_eqD : Fr2 eqD := fun μ d e ν => by
  have gen : FrO μ (match eqB (shM μ ν) (d.sh μ.length) (e.sh μ.length) with
    | some b => Out.ok (D.bl b) (shM μ ν)
    | none => .stuck) (match eqB ν d e with
    | some b => .ok (.bl b) ν
    | none => .stuck) := by
    rw [eqB_sh]
    cases eqB ν d e <;> trivial
  cases d <;> cases e <;> first | exact gen | exact rfl
theorem fr_neD : Fr2 neD := fun μ d e ν => by
  have gen : FrO μ (match eqB (shM μ ν) (d.sh μ.length) (e.sh μ.length) with
    | some b => Out.ok (D.bl (!b)) (shM μ ν)
    | none => .stuck) (match eqB ν d e with
    | some b => .ok (.bl (!b)) ν
    | none => .stuck) := by
    rw [eqB_sh]
    cases eqB ν d e <;> trivial
  cases d <;> cases e <;> first | exact gen | exact rfl
theorem flat_sh (k : Nat) (d : D) : flatD (d.sh k) = flatD d := by cases d <;> rfl
theorem eqF_sh (k : Nat) (d e : D) : eqF (d.sh k) (e.sh k) = eqF d e := by cases d <;> cases e <;> rfl
theorem any_sh (k : Nat) (d : D) (xs : List D) : ((D.shL k xs).any fun y => eqF y (d.sh k)) = xs.any fun y => eqF y d := by
  rw [shL_map, List.any_map]
  congr 1
  funext y
  exact eqF_sh k y d
theorem all_sh (k : Nat) (xs : List D) : (D.shL k xs).all flatD = xs.all flatD := by
  rw [shL_map, List.all_map]
  congr 1
  funext y
  exact flat_sh k y
theorem inB_frame {μ ν : Mu} (d e : D) {b : Bool} (h : DS.inB ν d e = some b) : DS.inB (shM μ ν) (d.sh μ.length) (e.sh μ.length) = some b := by
  have lists : (match lstOf ν e with
    | some xs => if flatD d && xs.all flatD then some (xs.any fun y => eqF y d) else none
    | none => none) = some b → (match lstOf (shM μ ν) (e.sh μ.length) with
    | some xs => if flatD (d.sh μ.length) && xs.all flatD then some (xs.any fun y => eqF y (d.sh μ.length)) else none
    | none => none) = some b := by
    rw [lstOf_sh]
    cases lstOf ν e with
    | none => exact fun z => z
    | some xs =>
      simp only [Option.map_some]
      rw [flat_sh, any_sh, all_sh]
      exact fun z => z
  have tup : ∀ xs, (if flatD d && xs.all flatD then some (xs.any fun y => eqF y d) else none) = some b → (if flatD (d.sh μ.length) && (D.shL μ.length xs).all flatD then some ((D.shL μ.length xs).any fun y => eqF y (d.sh μ.length)) else none) = some b := fun xs => by
    rw [flat_sh, any_sh, all_sh]
    exact fun z => z
  cases e <;> cases d <;> first | exact lists h | exact tup _ h | exact h
theorem fr_inD : Fr2 inD := fun μ d e ν => by
  unfold inD
  cases h : DS.inB ν d e with
  | none => trivial
  | some b => rw [inB_frame d e h]; rfl
theorem fr_ninD : Fr2 ninD := fun μ d e ν => by
  unfold ninD
  cases h : DS.inB ν d e with
  | none => trivial
  | some b => rw [inB_frame d e h]; rfl
theorem atI_sh (k : Nat) (xs : List D) (i : Int) : L2.atI (D.shL k xs) i = (L2.atI xs i).map (D.sh k) := by
  unfold L2.atI
  rw [shL_len]
  cases L2.ixN xs.length i with
  | none => rfl
  | some j => exact shL_get _ _ _
theorem fr_ixD : Fr2 ixD := fun μ d e ν => by
  cases e <;> try (cases d <;> trivial)
  rename_i i
  have at_ : ∀ xs : List D, FrO μ (match L2.atI (D.shL μ.length xs) i with
      | some v => Out.ok v (shM μ ν)
      | none => .stuck) (match L2.atI xs i with
      | some v => .ok v ν
      | none => .stuck) := fun xs => by
    rw [atI_sh]
    cases L2.atI xs i <;> trivial
  have lists : FrO μ (match lstOf (shM μ ν) (d.sh μ.length) with
      | some xs => (match L2.atI xs i with
        | some v => Out.ok v (shM μ ν)
        | none => .stuck)
      | none => .stuck) (match lstOf ν d with
      | some xs => (match L2.atI xs i with
        | some v => .ok v ν
        | none => .stuck)
      | none => .stuck) := by
    rw [lstOf_sh]
    cases lstOf ν d with
    | none => trivial
    | some xs => exact at_ xs
  cases d <;> first | exact lists | exact at_ _ | skip
  rename_i z
  unfold ixD
  simp only [D.sh]
  split
  · cases L2.atI z.cps.toList i <;> trivial
  · trivial
theorem fr_xoN : FrI xoN := fun μ r ν => rfl
theorem fr_xoS {a : XE'} (ha : FrE a) : FrI (xoS a) := fun μ r ν => (ha μ r ν).bind fun d ν1 => by cases d <;> trivial
theorem cut_sh (k : Nat) (xs : List D) (lo hi : Option Int) : cutD (D.shL k xs) lo hi = D.shL k (cutD xs lo hi) := by
  unfold cutD
  rw [shL_len, shL_map, shL_map, List.map_take, List.map_drop]
theorem fr_slD (μ : Mu) (d : D) (lo hi : Option Int) (ν : Mu) : FrO μ (slD (d.sh μ.length) lo hi (shM μ ν)) (slD d lo hi ν) := by
  have lists : FrO μ (match lstOf (shM μ ν) (d.sh μ.length) with
    | some xs => Out.ok (D.lst (cutD xs lo hi)) (shM μ ν)
    | none => .stuck) (match lstOf ν d with
    | some xs => .ok (.lst (cutD xs lo hi)) ν
    | none => .stuck) := by
    rw [lstOf_sh]
    cases lstOf ν d with
    | none => trivial
    | some xs =>
      show Out.ok (D.lst (cutD (D.shL μ.length xs) lo hi)) _ = _
      rw [cut_sh]
      rfl
  cases d <;> try exact lists
  · unfold slD
    simp only [D.sh]
    split <;> trivial
  · rename_i xs
    show Out.ok (D.tup (cutD (D.shL μ.length xs) lo hi)) _ = _
    rw [cut_sh]
    rfl
theorem fr_xSl {a : XE'} {lo hi : XO} (ha : FrE a) (hl : FrI lo) (hh : FrI hi) : FrE (xSl a lo hi) := fun μ r ν =>
  (ha μ r ν).bind fun d ν1 => (hl μ r ν1).bind fun l ν2 => (hh μ r ν2).bind fun h ν3 => fr_slD μ d l h ν3
theorem fr_xFld (cn f : Str) {a : XE'} (ha : FrE a) : FrE (xFld cn f a) := fun μ r ν => (ha μ r ν).bind fun d ν1 => by
  show FrO μ (fldD cn f (d.sh μ.length) (shM μ ν1)) (fldD cn f d ν1)
  unfold fldD
  rw [insOf_sh]
  cases insOf ν1 d with
  | none => trivial
  | some p =>
    simp only [Option.map_some, shF_look]
    split
    · cases p.2.lookup f <;> trivial
    · trivial
theorem fr_xCall {G : Fn} {a : XA} (hG : FrF G) (ha : FrA a) : FrE (xCall G a) := fun μ r ν => (ha μ r ν).bind fun d ν1 => hG μ d ν1
theorem fr_xMeth (cn m : Str) {G : Fn} {o : XE'} {a : XA} (hG : FrF G) (ho : FrE o) (ha : FrA a) : FrE (xMeth cn m G o a) := fun μ r ν => (ho μ r ν).bind fun d ν1 => by
  show FrO μ (match insOf (shM μ ν1) (d.sh μ.length) with
  | some (c', gs) => if c' = cn ∧ gs.lookup m = none then (a (shR μ.length r) (shM μ ν1)).bind fun ds m2 => G (d.sh μ.length :: ds) m2 else .stuck
  | none => .stuck) _
  rw [insOf_sh]
  cases insOf ν1 d with
  | none => trivial
  | some p =>
    simp only [Option.map_some, shF_look, Option.map_eq_none_iff]
    split
    · exact (ha μ r ν1).bind fun ds ν2 => hG μ (d :: ds) ν2
    · trivial
theorem fr_xProp (cn : Str) {G : Fn} {o : XE'} (hG : FrF G) (ho : FrE o) : FrE (xProp cn G o) := fun μ r ν => (ho μ r ν).bind fun d ν1 => by
  show FrO μ (match insOf (shM μ ν1) (d.sh μ.length) with
  | some (c', _) => if c' = cn then (match G [d.sh μ.length] (shM μ ν1) with
    | .exc _ _ _ => .stuck
    | q => q) else .stuck
  | none => .stuck) _
  rw [insOf_sh]
  cases insOf ν1 d with
  | none => trivial
  | some p =>
    simp only [Option.map_some]
    split
    · have h := hG μ [d] ν1
      cases e : G [d] ν1 with
      | ok a ν2 =>
        rw [e] at h
        rw [show G [d.sh μ.length] (shM μ ν1) = _ from h]
        rfl
      | exc c fs ν2 => trivial
      | stuck => trivial
    · trivial
theorem fr_madeD (cn : Str) (frz : Bool) (n : Nat) (μ : Mu) (d : D) (ν : Mu) : FrO μ (madeD cn frz (μ.length + n) (d.sh μ.length) (shM μ ν)) (madeD cn frz n d ν) := by
  cases d <;> try trivial
  show FrO μ (match (shM μ ν)[μ.length + n]? with
    | some (.ins c' gs) => if c' = cn then (if frz then Out.ok (D.obj cn gs) ((shM μ ν).take (μ.length + n)) else .ok (.loc (μ.length + n)) (shM μ ν)) else .stuck
    | _ => .stuck) (match ν[n]? with
    | some (.ins c' gs) => if c' = cn then (if frz then Out.ok (D.obj cn gs) (ν.take n) else .ok (.loc n) ν) else .stuck
    | _ => .stuck)
  rw [shM_get]
  cases ν[n]? with
  | none => trivial
  | some c => cases c with
    | ins c' gs =>
      simp only [Option.map_some, Cell.sh]
      split
      · cases frz
        · rfl
        · exact congrArg (Out.ok _) (shM_take n)
      · trivial
    | _ => trivial
theorem fr_makeD (cn : Str) {G : Fn} (frz : Bool) (hG : FrF G) : FrF (makeD cn G frz) := fun μ ds ν => by
  unfold makeD
  refine FrO.bind (μ := μ) ?_ fun d ν2 => ?_
  · have h := hG μ (.loc ν.length :: ds) (ν ++ [.ins cn []])
    rw [← shM_app] at h
    rw [shM_len]
    exact h
  · rw [shM_len]
    exact fr_madeD cn frz ν.length μ d ν2
theorem fr_xMake (cn : Str) {G : Fn} (hG : FrF G) (frz : Bool) {a : XA} (ha : FrA a) : FrE (xMake cn G frz a) := fun μ r ν => (ha μ r ν).bind fun ds ν1 => fr_makeD cn frz hG μ ds ν1
theorem fr_xMakeD (cn : Str) {G : Fn} (hG : FrF G) (frz : Bool) (dds : List D) {a : XA} (ha : FrA a) (hd : D.inL 0 dds = true := by rfl) : FrE (xMakeD cn G frz dds a) := fun μ r ν => (ha μ r ν).bind fun ds ν1 => by
  have h := fr_makeD cn frz hG μ (ds ++ dds) ν1
  rw [shL_app, shL_id _ dds hd] at h
  exact h
theorem fr_xMakeK (cn : Str) {G : Fn} (hG : FrF G) (frz : Bool) (mid : List D) {a b : XA} (ha : FrA a) (hb : FrA b) (hd : D.inL 0 mid = true := by rfl) : FrE (xMakeK cn G frz mid a b) := fun μ r ν => (ha μ r ν).bind fun ds ν1 => (hb μ r ν1).bind fun zs ν2 => by
  have h := fr_makeD cn frz hG μ (ds ++ (mid ++ zs)) ν2
  rw [shL_app, shL_app, shL_id _ mid hd] at h
  exact h
theorem fr_xCallK {G : Fn} {sh : List D → List D} {b : XA} (hG : FrF G) (hs : ∀ k l, D.shL k (sh l) = sh (D.shL k l)) (hb : FrA b) : FrE (xCallK G sh b) := fun μ r ν => (hb μ r ν).bind fun zs ν1 => by
  have h := hG μ (sh zs) ν1
  rw [hs] at h
  exact h

/-! ### statements, targets -/
theorem fr_sNil : FrB sNil := fun μ r ν => rfl
theorem fr_sCont : FrB sCont := fun μ r ν => rfl
theorem fr_sNever : FrB sNever := fun μ r ν => trivial
theorem fr_sSeq {f g : XS} (hf : FrB f) (hg : FrB g) : FrB (sSeq f g) := fun μ r ν => by
  have h := hf μ r ν
  unfold sSeq
  cases e : f r ν <;> rw [e] at h
  · rw [show f (shR μ.length r) (shM μ ν) = _ from h]
    exact hg μ _ _
  · rw [show f (shR μ.length r) (shM μ ν) = _ from h]; rfl
  · rw [show f (shR μ.length r) (shM μ ν) = _ from h]; rfl
  · rw [show f (shR μ.length r) (shM μ ν) = _ from h]; rfl
  · rw [show f (shR μ.length r) (shM μ ν) = _ from h]; rfl
  · trivial
theorem fr_sExpr {f : XE'} (hf : FrE f) : FrB (sExpr f) := fun μ r ν => (hf μ r ν).stm fun d ν1 => rfl
theorem fr_sRet {f : XE'} (hf : FrE f) : FrB (sRet f) := fun μ r ν => (hf μ r ν).stm fun d ν1 => rfl
theorem fr_sIf {t : XT} {f g : XS} (ht : FrT t) (hf : FrB f) (hg : FrB g) : FrB (sIf t f g) := fun μ r ν => (ht μ r ν).stm fun k ν1 => by
  cases k
  · exact hg μ r ν1
  · exact hf μ r ν1
theorem fr_gNm (i : Nat) : FrG (gNm i) := fun μ d r ν => by
  show Out.ok _ _ = _
  rw [shR_set]
  rfl
theorem fr_gsNil : FrGs gsNil := fun μ d r ν => by cases d <;> trivial
theorem fr_gsCons {g : XG} {gs : XGs} (hg : FrG g) (hs : FrGs gs) : FrGs (gsCons g gs) := fun μ d r ν => by
  cases d with
  | nil => trivial
  | cons d ds => exact (hg μ d r ν).bind fun r1 ν1 => hs μ ds r1 ν1
theorem fr_gTp (n : Nat) {g : XGs} (hg : FrGs g) : FrG (gTp n g) := fun μ d r ν => by
  cases d <;> try trivial
  all_goals
    unfold gTp
    simp only [D.sh, shL_len]
    split
    · exact hg μ _ r ν
    · trivial
theorem fr_setD (μ : Mu) (o i d : D) (ν : Mu) : FrO μ (setD (o.sh μ.length) (i.sh μ.length) (d.sh μ.length) (shM μ ν)) (setD o i d ν) := by
  cases o <;> try trivial
  cases i <;> try trivial
  rename_i n k
  unfold setD
  simp only [D.sh, shM_get, inB_sh]
  cases ν[n]? with
  | none => trivial
  | some c => cases c with
    | lst xs =>
      simp only [Option.map_some, Cell.sh, shL_len]
      cases L2.ixN xs.length k with
      | none => trivial
      | some j =>
        simp only
        split
        · have h := shM_set (μ := μ) (ν := ν) n (.lst (xs.set j d))
          rw [Cell.sh, shL_map, List.map_set, ← shL_map] at h
          exact congrArg (Out.ok _) h
        · trivial
    | _ => trivial
theorem fr_gSb {o i : XE'} (ho : FrE o) (hi : FrE i) : FrG (gSb o i) := fun μ d r ν => (ho μ r ν).bind fun ov ν1 => (hi μ r ν1).bind fun iv ν2 => (fr_setD μ ov iv d ν2).bind fun _ ν3 => rfl
theorem fr_sAsg {f : XE'} {g : XG} (hf : FrE f) (hg : FrG g) : FrB (sAsg f g) := fun μ r ν => (hf μ r ν).stm fun d ν1 => (hg μ d r ν1).stm fun r' ν2 => rfl
theorem fr_sPar (i j : Nat) {a : XA} (ha : FrA a) : FrB (sPar i j a) := fun μ r ν => (ha μ r ν).stm fun ds ν1 => by
  rcases ds with _ | ⟨x, _ | ⟨y, _ | ⟨z, l⟩⟩⟩ <;> try trivial
  show SO.next (((shR μ.length r).set i (some (x.sh _))).set j (some (y.sh _))) _ = _
  rw [shR_set, shR_set]
theorem fr_sPar3 (i j l : Nat) {a : XA} (ha : FrA a) : FrB (sPar3 i j l a) := fun μ r ν => (ha μ r ν).stm fun ds ν1 => by
  rcases ds with _ | ⟨x, _ | ⟨y, _ | ⟨z, _ | ⟨w, q⟩⟩⟩⟩ <;> try trivial
  show SO.next ((((shR μ.length r).set i (some (x.sh _))).set j (some (y.sh _))).set l (some (z.sh _))) _ = _
  rw [shR_set, shR_set, shR_set]
theorem put_sh (k : Nat) (f : Str) (d : D) : ∀ gs, putD f (d.sh k) (D.shF k gs) = D.shF k (putD f d gs)
  | [] => rfl
  | (x, y) :: r => by
    rw [D.shF, putD, putD]
    split
    · rfl
    · rw [put_sh k f d r]; rfl
theorem fr_putC (cn f : Str) (μ : Mu) (o q : D) (ν : Mu) : FrO μ (putC cn f (o.sh μ.length) (q.sh μ.length) (shM μ ν)) (putC cn f o q ν) := by
  cases o <;> try trivial
  rename_i n
  unfold putC
  simp only [D.sh, shM_get, inB_sh]
  cases ν[n]? with
  | none => trivial
  | some c => cases c with
    | ins c' gs =>
      simp only [Option.map_some, Cell.sh, shF_len]
      split
      · have h := shM_set (μ := μ) (ν := ν) n (.ins cn (putD f q gs))
        rw [Cell.sh, ← put_sh] at h
        exact congrArg (Out.ok _) h
      · trivial
    | _ => trivial
theorem fr_sFl (cn f : Str) {o v : XE'} (ho : FrE o) (hv : FrE v) : FrB (sFl cn f o v) := fun μ r ν => (hv μ r ν).stm fun q ν1 => (ho μ r ν1).stm fun od ν2 => (fr_putC cn f μ od q ν2).stm fun _ ν3 => rfl
theorem fr_sAug (i : Nat) {f : XE'} (hf : FrE f) : FrB (sAug i f) := fun μ r ν => by
  unfold sAug
  rw [shR_get]
  cases r[i]? with
  | none => trivial
  | some o => cases o with
    | none => trivial
    | some x =>
      refine (hf μ r ν).stm fun y ν1 => ?_
      cases x <;> try trivial
      cases y <;> try trivial
      rename_i p q
      show SO.next ((shR μ.length r).set i (some (D.sh μ.length (.int (p + q))))) _ = _
      rw [shR_set]
theorem fr_seqD (μ : Mu) (d : D) (ν : Mu) : FrO μ (seqD (d.sh μ.length) (shM μ ν)) (seqD d ν) := by
  cases d <;> try trivial
  rename_i z
  show _ = Out.ok (D.shL _ _) _
  rw [shL_map, List.map_map]
  rfl
theorem fr_xiSeq {f : XE'} (hf : FrE f) : FrA (xiSeq f) := fun μ r ν => (hf μ r ν).bind fun d ν1 => fr_seqD μ d ν1
theorem rng_sh (k : Nat) (lo : Int) (n : Nat) : D.shL k (rngL lo n) = rngL lo n := by
  rw [shL_map, rngL, List.map_map]
  rfl
theorem fr_rngD1 (μ : Mu) (ds : List D) (ν : Mu) : FrO μ (rngD1 (D.shL μ.length ds) (shM μ ν)) (rngD1 ds ν) := by
  rcases ds with _ | ⟨x, _ | ⟨y, l⟩⟩ <;> try trivial
  · cases x <;> try trivial
    unfold rngD1
    simp only [D.shL, D.sh]
    split
    · show _ = Out.ok (D.shL _ _) _
      rw [rng_sh]
    · trivial
  · cases x <;> trivial
theorem fr_rngD2 (μ : Mu) (ds : List D) (ν : Mu) : FrO μ (rngD2 (D.shL μ.length ds) (shM μ ν)) (rngD2 ds ν) := by
  rcases ds with _ | ⟨x, _ | ⟨y, _ | ⟨z, l⟩⟩⟩ <;> try trivial
  · cases x <;> trivial
  · cases x <;> try trivial
    cases y <;> try trivial
    unfold rngD2
    simp only [D.shL, D.sh]
    split
    · show _ = Out.ok (D.shL _ _) _
      rw [rng_sh]
    · trivial
  · cases x <;> try trivial
    cases y <;> trivial
theorem fr_xiRng1 {f : XA} (hf : FrA f) : FrA (xiRng1 f) := fun μ r ν => (hf μ r ν).bind fun d ν1 => fr_rngD1 μ d ν1
theorem fr_xiRng2 {f : XA} (hf : FrA f) : FrA (xiRng2 f) := fun μ r ν => (hf μ r ν).bind fun d ν1 => fr_rngD2 μ d ν1
theorem enum_sh (k : Nat) : ∀ (i : Nat) (xs : List D), enumL i (D.shL k xs) = D.shL k (enumL i xs)
  | _, [] => rfl
  | i, x :: r => by rw [D.shL, enumL, enumL, D.shL, enum_sh k (i + 1) r]; rfl
theorem fr_xiEnum {f : XA} (hf : FrA f) : FrA (xiEnum f) := fun μ r ν => (hf μ r ν).bind fun ds ν1 => by
  rcases ds with _ | ⟨x, _ | ⟨y, l⟩⟩ <;> try trivial
  · cases x <;> try trivial
    all_goals
      show Out.ok (enumL 0 (D.shL _ _)) _ = _
      rw [enum_sh]
      rfl
  · cases x <;> trivial
theorem fr_xiEnum' {f : XA} (hf : FrA f) : FrA (xiEnum' f) := fun μ r ν => (hf μ r ν).bind fun ds ν1 => by
  rcases ds with _ | ⟨x, _ | ⟨y, l⟩⟩ <;> try trivial
  · cases x <;> try trivial
    all_goals
      show Out.ok (enumL 0 (D.shL _ _)) _ = _
      rw [enum_sh]
      rfl
  · cases x <;> trivial
theorem zip_sh (k : Nat) : ∀ (xs ys : List D), zipL (D.shL k xs) (D.shL k ys) = D.shL k (zipL xs ys)
  | [], _ => by simp [D.shL, zipL]
  | _ :: _, [] => by simp [D.shL, zipL]
  | x :: r, y :: s => by rw [D.shL, D.shL, zipL, zipL, D.shL, zip_sh k r s]; rfl
theorem fr_xiZip {f : XA} (hf : FrA f) : FrA (xiZip f) := fun μ r ν => (hf μ r ν).bind fun ds ν1 => by
  rcases ds with _ | ⟨x, _ | ⟨y, _ | ⟨z, l⟩⟩⟩ <;> try trivial
  · cases x <;> trivial
  · cases x <;> try trivial
    cases y <;> try trivial
    show Out.ok (zipL (D.shL _ _) (D.shL _ _)) _ = _
    rw [zip_sh]
    rfl
  · cases x <;> try trivial
    cases y <;> trivial
theorem fr_loopF {g : XG} {body : XS} (hg : FrG g) (hb : FrB body) (μ : Mu) : ∀ (xs : List D) (r : Rho) (ν : Mu), FrS μ (loopF g body (D.shL μ.length xs) (shR μ.length r) (shM μ ν)) (loopF g body xs r ν)
  | [], r, ν => rfl
  | x :: xs, r, ν => by
    rw [D.shL, loopF, loopF]
    refine (hg μ x r ν).stm fun r1 ν1 => ?_
    have h := hb μ r1 ν1
    show FrS μ (match body (shR μ.length r1) (shM μ ν1) with
      | .next r2 m2 => loopF g body (D.shL μ.length xs) r2 m2
      | .cont r2 m2 => loopF g body (D.shL μ.length xs) r2 m2
      | .brk r2 m2 => .next r2 m2
      | o => o) _
    cases e : body r1 ν1 <;> rw [e] at h
    · rw [show body (shR μ.length r1) (shM μ ν1) = _ from h]; exact fr_loopF hg hb μ xs _ _
    · rw [show body (shR μ.length r1) (shM μ ν1) = _ from h]; rfl
    · rw [show body (shR μ.length r1) (shM μ ν1) = _ from h]; rfl
    · rw [show body (shR μ.length r1) (shM μ ν1) = _ from h]; exact fr_loopF hg hb μ xs _ _
    · rw [show body (shR μ.length r1) (shM μ ν1) = _ from h]; rfl
    · trivial
theorem fr_sFor {f : XA} {g : XG} {body : XS} (hf : FrA f) (hg : FrG g) (hb : FrB body) : FrB (sFor f g body) := fun μ r ν => (hf μ r ν).stm fun xs ν1 => fr_loopF hg hb μ xs r ν1
theorem fr_loopW {t : XT} {body : XS} (ht : FrT t) (hb : FrB body) : ∀ n, FrB (loopW t body n)
  | 0 => fun μ r ν => trivial
  | n + 1 => fun μ r ν => by
    rw [loopW, loopW]
    refine (ht μ r ν).stm fun k ν1 => ?_
    cases k
    · rfl
    · have h := hb μ r ν1
      show FrS μ (match body (shR μ.length r) (shM μ ν1) with
        | .next r2 m2 => loopW t body n r2 m2
        | .cont r2 m2 => loopW t body n r2 m2
        | .brk r2 m2 => .next r2 m2
        | o => o) (match body r ν1 with
        | .next r2 m2 => loopW t body n r2 m2
        | .cont r2 m2 => loopW t body n r2 m2
        | .brk r2 m2 => .next r2 m2
        | o => o)
      cases e : body r ν1 <;> rw [e] at h
      · rw [show body (shR μ.length r) (shM μ ν1) = _ from h]; exact fr_loopW ht hb n μ _ _
      · rw [show body (shR μ.length r) (shM μ ν1) = _ from h]; rfl
      · rw [show body (shR μ.length r) (shM μ ν1) = _ from h]; rfl
      · rw [show body (shR μ.length r) (shM μ ν1) = _ from h]; exact fr_loopW ht hb n μ _ _
      · rw [show body (shR μ.length r) (shM μ ν1) = _ from h]; rfl
      · trivial

/-! ### comprehensions -/
theorem fr_xYes : FrT xYes := fun μ r ν => rfl
theorem fr_pushD (n : Nat) (d : D) (μ ν : Mu) : FrO μ (pushD (μ.length + n) (d.sh μ.length) (shM μ ν)) (pushD n d ν) := by
  unfold pushD
  rw [shM_get]
  cases ν[n]? with
  | none => trivial
  | some c => cases c with
    | lst acc =>
      simp only [Option.map_some, Cell.sh, inB_sh, shL_len]
      split
      · have h := shM_set (μ := μ) (ν := ν) n (.lst (acc ++ [d]))
        rw [Cell.sh, shL_app] at h
        exact congrArg (Out.ok _) h
      · trivial
    | _ => trivial
theorem fr_lcF {g : XG} {tt : XT} {te : XE'} (hg : FrG g) (ht : FrT tt) (he : FrE te) (μ : Mu) (n : Nat) (r0 : Rho) : ∀ (xs : List D) (ν : Mu), FrO μ (lcF g tt te (μ.length + n) (shR μ.length r0) (D.shL μ.length xs) (shM μ ν)) (lcF g tt te n r0 xs ν)
  | [], ν => rfl
  | x :: xs, ν => by
    rw [D.shL, lcF, lcF]
    refine (hg μ x r0 ν).ne.bind fun r1 ν1 => (ht μ r1 ν1).ne.bind fun b ν2 => ?_
    cases b
    · exact fr_lcF hg ht he μ n r0 xs ν2
    · exact (he μ r1 ν2).ne.bind fun d ν3 => (fr_pushD n d μ ν3).bind fun _ ν4 => fr_lcF hg ht he μ n r0 xs ν4
theorem fr_lcEnd (n : Nat) (μ ν : Mu) : FrO μ (lcEnd (μ.length + n) (shM μ ν)) (lcEnd n ν) := by
  unfold lcEnd
  rw [shM_get]
  cases ν[n]? with
  | none => trivial
  | some c => cases c with
    | lst acc => exact congrArg (Out.ok _) (shM_take n)
    | _ => trivial
theorem fr_xLc {f : XA} {g : XG} {tt : XT} {te : XE'} (hf : FrA f) (vs : List Nat) (hg : FrG g) (ht : FrT tt) (he : FrE te) : FrE (xLc f vs g tt te) := fun μ r ν => (hf μ r ν).bind fun xs ν1 => by
  show FrO μ (lcD g tt te (wipeR (shR μ.length r) vs) (D.shL μ.length xs) (shM μ ν1)) (lcD g tt te (wipeR r vs) xs ν1)
  unfold lcD
  rw [shR_wipe, shM_len]
  refine FrO.bind ?_ fun _ ν2 => fr_lcEnd ν1.length μ ν2
  have h := fr_lcF hg ht he μ ν1.length (wipeR r vs) xs (ν1 ++ [.lst []])
  rw [← shM_app] at h
  exact h
theorem fr_dputD (n : Nat) (k d : D) (μ ν : Mu) : FrO μ (dputD (μ.length + n) (k.sh μ.length) (d.sh μ.length) (shM μ ν)) (dputD n k d ν) := by
  unfold dputD
  rw [shM_get]
  cases ν[n]? with
  | none => trivial
  | some c => cases c with
    | dct gs =>
      cases k <;> try trivial
      rename_i f
      simp only [Option.map_some, Cell.sh, inB_sh, shF_len, shF_look, Option.map_eq_none_iff, D.sh]
      split
      · have h := shM_set (μ := μ) (ν := ν) n (.dct (gs ++ [(f, d)]))
        have e : ∀ gs : List (Str × D), D.shF μ.length (gs ++ [(f, d)]) = D.shF μ.length gs ++ [(f, d.sh μ.length)] := fun gs => by
          induction gs with
          | nil => rfl
          | cons p r ih => rw [List.cons_append, D.shF, D.shF, ih]; rfl
        rw [Cell.sh, e] at h
        exact congrArg (Out.ok _) h
      · trivial
    | _ => trivial
theorem fr_dcF {g : XG} {tk te : XE'} (hg : FrG g) (ht : FrE tk) (he : FrE te) (μ : Mu) (n : Nat) (r0 : Rho) : ∀ (xs : List D) (ν : Mu), FrO μ (dcF g tk te (μ.length + n) (shR μ.length r0) (D.shL μ.length xs) (shM μ ν)) (dcF g tk te n r0 xs ν)
  | [], ν => rfl
  | x :: xs, ν => by
    rw [D.shL, dcF, dcF]
    exact (hg μ x r0 ν).ne.bind fun r1 ν1 => (ht μ r1 ν1).ne.bind fun k ν2 => (he μ r1 ν2).ne.bind fun d ν3 => (fr_dputD n k d μ ν3).bind fun _ ν4 => fr_dcF hg ht he μ n r0 xs ν4
theorem fr_dcEnd (n : Nat) (μ ν : Mu) : FrO μ (dcEnd (μ.length + n) (shM μ ν)) (dcEnd n ν) := by
  unfold dcEnd
  rw [shM_get]
  cases ν[n]? with
  | none => trivial
  | some c => cases c with
    | dct acc => exact congrArg (Out.ok _) (shM_take n)
    | _ => trivial
theorem fr_xDc {f : XA} {g : XG} {tk te : XE'} (hf : FrA f) (vs : List Nat) (hg : FrG g) (ht : FrE tk) (he : FrE te) : FrE (xDc f vs g tk te) := fun μ r ν => (hf μ r ν).bind fun xs ν1 => by
  show FrO μ ((dcF g tk te (shM μ ν1).length (wipeR (shR μ.length r) vs) (D.shL μ.length xs) (shM μ ν1 ++ [.dct []])).bind fun _ m2 => dcEnd (shM μ ν1).length m2) _
  rw [shR_wipe, shM_len]
  refine FrO.bind ?_ fun _ ν2 => fr_dcEnd ν1.length μ ν2
  have h := fr_dcF hg ht he μ ν1.length (wipeR r vs) xs (ν1 ++ [.dct []])
  rw [← shM_app] at h
  exact h

/-! ### built-ins -/
theorem fr_lenD : FrF lenD := fun μ ds ν => by
  rcases ds with _ | ⟨d, _ | ⟨e, l⟩⟩ <;> try trivial
  · have lists : FrO μ (match lstOf (shM μ ν) (d.sh μ.length) with
      | some xs => Out.ok (D.int xs.length) (shM μ ν)
      | none => .stuck) (match lstOf ν d with
      | some xs => .ok (.int xs.length) ν
      | none => .stuck) := by
      rw [lstOf_sh]
      cases lstOf ν d with
      | none => trivial
      | some xs => simp only [Option.map_some, shL_len]; rfl
    cases d <;> try exact lists
    · unfold lenD
      simp only [D.shL, D.sh]
      split <;> trivial
    · unfold lenD
      simp only [D.shL, D.sh, shL_len]
      rfl
  · cases d <;> trivial
theorem fr_intF : FrF intF := fun μ ds ν => by
  rcases ds with _ | ⟨d, _ | ⟨e, l⟩⟩ <;> try trivial
  · cases d <;> try trivial
    rename_i z
    unfold intF
    simp only [D.shL, D.sh]
    cases PySem.intText? z with
    | none => trivial
    | some n =>
      simp only
      split <;> trivial
  · cases d <;> trivial
theorem fr_strF : FrF strF := fun μ ds ν => by
  rcases ds with _ | ⟨d, _ | ⟨e, l⟩⟩ <;> try trivial
  · cases d <;> try trivial
    unfold strF
    simp only [D.shL, D.sh]
    split <;> trivial
  · cases d <;> trivial
theorem fr_absF : FrF absF := fun μ ds ν => by
  rcases ds with _ | ⟨d, _ | ⟨e, l⟩⟩ <;> try trivial
  all_goals cases d <;> trivial
theorem ints_sh (k : Nat) : ∀ xs, intsL (D.shL k xs) = intsL xs
  | [] => rfl
  | x :: r => by
    have ih := ints_sh k r
    cases x <;> try rfl
    rw [D.shL, D.sh, intsL, intsL, ih]
theorem bs_sh (k : Nat) : ∀ xs, bsL (D.shL k xs) = bsL xs
  | [] => rfl
  | x :: r => by
    have ih := bs_sh k r
    cases x <;> try rfl
    rw [D.shL, D.sh, bsL, bsL, ih]
theorem strs_sh (k : Nat) : ∀ xs, strsL (D.shL k xs) = strsL xs
  | [] => rfl
  | x :: r => by
    have ih := strs_sh k r
    cases x <;> try rfl
    rw [D.shL, D.sh, strsL, strsL, ih]
theorem fr_lstq {α : Type} [Shf α] {μ ν : Mu} {d : D} {k : Mu → List D → Out α} (h : ∀ xs, FrO μ (k (shM μ ν) (D.shL μ.length xs)) (k ν xs)) : FrO μ (match lstOf (shM μ ν) (d.sh μ.length) with
      | some xs => k (shM μ ν) xs
      | none => .stuck) (match lstOf ν d with
      | some xs => k ν xs
      | none => .stuck) := by
  rw [lstOf_sh]
  cases lstOf ν d with
  | none => trivial
  | some xs => exact h xs
theorem fr_seqq {α : Type} [Shf α] {μ ν : Mu} {d : D} {k : Mu → List D → Out α} (h : ∀ xs, FrO μ (k (shM μ ν) (D.shL μ.length xs)) (k ν xs)) : FrO μ (match seqOf (shM μ ν) (d.sh μ.length) with
      | some xs => k (shM μ ν) xs
      | none => .stuck) (match seqOf ν d with
      | some xs => k ν xs
      | none => .stuck) := by
  rw [seqOf_sh]
  cases seqOf ν d with
  | none => trivial
  | some xs => exact h xs
theorem fr_sumF : FrF sumF := fun μ ds ν => by
  rcases ds with _ | ⟨d, _ | ⟨e, l⟩⟩ <;> try trivial
  exact fr_lstq (k := fun m xs => match intsL xs with
      | some ns => .ok (D.int ns.sum) m
      | _ => .stuck) fun xs => by
    show FrO μ (match intsL (D.shL μ.length xs) with
      | some ns => Out.ok (D.int ns.sum) (shM μ ν)
      | _ => .stuck) _
    rw [ints_sh]
    cases intsL xs <;> trivial
theorem fr_allF : FrF allF := fun μ ds ν => by
  rcases ds with _ | ⟨d, _ | ⟨e, l⟩⟩ <;> try trivial
  exact fr_lstq (k := fun m xs => match bsL xs with
      | some ns => .ok (D.bl (ns.all id)) m
      | _ => .stuck) fun xs => by
    show FrO μ (match bsL (D.shL μ.length xs) with
      | some ns => Out.ok (D.bl (ns.all id)) (shM μ ν)
      | _ => .stuck) _
    rw [bs_sh]
    cases bsL xs <;> trivial
theorem fr_anyF : FrF anyF := fun μ ds ν => by
  rcases ds with _ | ⟨d, _ | ⟨e, l⟩⟩ <;> try trivial
  exact fr_lstq (k := fun m xs => match bsL xs with
      | some ns => .ok (D.bl (ns.any id)) m
      | _ => .stuck) fun xs => by
    show FrO μ (match bsL (D.shL μ.length xs) with
      | some ns => Out.ok (D.bl (ns.any id)) (shM μ ν)
      | _ => .stuck) _
    rw [bs_sh]
    cases bsL xs <;> trivial
theorem fr_maxF : FrF maxF := fun μ ds ν => by
  rcases ds with _ | ⟨d, _ | ⟨e, _ | ⟨f, l⟩⟩⟩ <;> try trivial
  · have lists : FrO μ (match lstOf (shM μ ν) (d.sh μ.length) with
      | some xs => (match intsL xs with
        | some (i :: r) => Out.ok (D.int (maxL i r)) (shM μ ν)
        | _ => .stuck)
      | none => .stuck) (match lstOf ν d with
      | some xs => (match intsL xs with
        | some (i :: r) => .ok (.int (maxL i r)) ν
        | _ => .stuck)
      | none => .stuck) := by
      rw [lstOf_sh]
      cases lstOf ν d with
      | none => trivial
      | some xs =>
        simp only [Option.map_some, ints_sh]
        rcases intsL xs with _ | ⟨_ | ⟨i, r⟩⟩ <;> trivial
    cases d <;> exact lists
  · cases d <;> try trivial
    cases e <;> trivial
  · cases d <;> try trivial
    cases e <;> trivial
theorem fr_minF : FrF minF := fun μ ds ν => by
  rcases ds with _ | ⟨d, _ | ⟨e, _ | ⟨f, l⟩⟩⟩ <;> try trivial
  · cases d <;> trivial
  · cases d <;> try trivial
    cases e <;> trivial
  · cases d <;> try trivial
    cases e <;> trivial
theorem fr_tupF : FrF tupF := fun μ ds ν => by
  rcases ds with _ | ⟨d, _ | ⟨e, l⟩⟩ <;> try trivial
  · have lists := fr_lstq (μ := μ) (ν := ν) (d := d) (k := fun m xs => .ok (D.tup xs) m) fun xs => rfl
    cases d <;> first | exact lists | exact rfl
  · cases d <;> trivial
theorem fr_lstF : FrF lstF := fun μ ds ν => by
  rcases ds with _ | ⟨d, _ | ⟨e, l⟩⟩ <;> try trivial
  exact fr_seqq (k := fun m xs => .ok (D.lst xs) m) fun xs => rfl
theorem fr_newF : FrF newF := fun μ ds ν => by
  rcases ds with _ | ⟨d, _ | ⟨e, l⟩⟩ <;> try trivial
  exact fr_seqq (k := fun m xs => if D.inL m.length xs then .ok (D.loc m.length) (m ++ [.lst xs]) else .stuck) fun xs => fr_new μ xs ν
theorem fr_dmF : FrF dmF := fun μ ds ν => by
  rcases ds with _ | ⟨d, _ | ⟨e, _ | ⟨f, l⟩⟩⟩ <;> try trivial
  · cases d <;> trivial
  · cases d <;> try trivial
    cases e <;> try trivial
    unfold dmF
    simp only [D.shL, D.sh]
    split <;> trivial
  · cases d <;> try trivial
    cases e <;> trivial
theorem ty_sh {μ ν : Mu} (T : String) (d : D) : tyD T (shM μ ν) (d.sh μ.length) = tyD T ν d := by
  have lists : (T == "list" && (lstOf (shM μ ν) (d.sh μ.length)).isSome) = (T == "list" && (lstOf ν d).isSome) := by
    rw [lstOf_sh, Option.isSome_map]
  cases d <;> first | exact lists | rfl
theorem fr_xBM (T : String) {g : Fn} {o : XE'} {a : XA} (hg : FrF g) (ho : FrE o) (ha : FrA a) : FrE (xBM T g o a) := fun μ r ν => (ho μ r ν).bind fun d ν1 => by
  show FrO μ (if tyD T (shM μ ν1) (d.sh μ.length) then (a (shR μ.length r) (shM μ ν1)).bind fun ds m2 => g (d.sh μ.length :: ds) m2 else .stuck) _
  rw [ty_sh]
  split
  · exact (ha μ r ν1).bind fun ds ν2 => hg μ (d :: ds) ν2
  · trivial
theorem fr_appF : FrF appF := fun μ ds ν => by
  rcases ds with _ | ⟨d, _ | ⟨e, _ | ⟨f, l⟩⟩⟩ <;> try trivial
  · cases d <;> trivial
  · cases d <;> try trivial
    exact (fr_pushD _ e μ ν).bind fun _ ν1 => rfl
  · cases d <;> trivial
theorem fr_popF : FrF popF := fun μ ds ν => by
  rcases ds with _ | ⟨d, _ | ⟨e, l⟩⟩ <;> try trivial
  · cases d <;> try trivial
    rename_i n
    unfold popF
    simp only [D.shL, D.sh, shM_get]
    cases ν[n]? with
    | none => trivial
    | some c => cases c with
      | lst xs =>
        simp only [Option.map_some, Cell.sh, shL_len, shL_get]
        cases xs[xs.length - 1]? with
        | none => trivial
        | some d =>
          have h := shM_set (μ := μ) (ν := ν) n (.lst xs.dropLast)
          rw [Cell.sh] at h
          have e : D.shL μ.length xs.dropLast = (D.shL μ.length xs).dropLast := by rw [shL_map, shL_map, List.map_dropLast]
          rw [e] at h
          exact congrArg (Out.ok _) h
      | _ => trivial
  · cases d <;> trivial
theorem fr_splitF : FrF splitF := fun μ ds ν => by
  rcases ds with _ | ⟨d, _ | ⟨e, _ | ⟨f, l⟩⟩⟩ <;> try trivial
  · cases d <;> trivial
  · cases d <;> try trivial
    cases e <;> try trivial
    unfold splitF
    simp only [D.shL, D.sh]
    split
    · show _ = Out.ok (D.lst (D.shL _ _)) _
      rw [shL_map, List.map_map]
      rfl
    · trivial
  · cases d <;> try trivial
    cases e <;> trivial
theorem fr_joinF : FrF joinF := fun μ ds ν => by
  rcases ds with _ | ⟨d, _ | ⟨e, _ | ⟨f, l⟩⟩⟩ <;> try trivial
  · cases d <;> trivial
  · cases d <;> try trivial
    rename_i s
    exact fr_seqq (k := fun m xs => match strsL xs with
      | some ys => if (ys.map (·.length)).sum + ys.length * s.length ≤ 16777216 then .ok (D.str (Txt.join s ys)) m else .stuck
      | none => .stuck) fun xs => by
      show FrO μ (match strsL (D.shL μ.length xs) with
        | some ys => if (ys.map (·.length)).sum + ys.length * s.length ≤ 16777216 then .ok (D.str (Txt.join s ys)) (shM μ ν) else .stuck
        | none => .stuck) _
      rw [strs_sh]
      cases strsL xs with
      | none => trivial
      | some ys =>
        simp only
        split <;> trivial
  · cases d <;> trivial
theorem fr_xaStar {a : XE'} {b : XA} (ha : FrE a) (hb : FrA b) : FrA (xaStar a b) := fun μ r ν => (ha μ r ν).bind fun x ν1 => by
  show FrO μ (match seqOf (shM μ ν1) (x.sh μ.length) with
    | some xs => (b (shR μ.length r) (shM μ ν1)).bind fun ys m2 => .ok (xs ++ ys) m2
    | none => .stuck) _
  rw [seqOf_sh]
  cases seqOf ν1 x with
  | none => trivial
  | some xs =>
    refine (hb μ r ν1).bind fun ys ν2 => ?_
    show Out.ok _ _ = Out.ok (D.shL _ (xs ++ ys)) _
    rw [shL_app]
    rfl
theorem fr_reprF : FrF reprF := fun μ ds ν => by
  rcases ds with _ | ⟨d, _ | ⟨e, l⟩⟩ <;> try trivial
  unfold reprF
  simp only [D.shL, dere_sh]
  cases toP (dere ν d) with
  | none => trivial
  | some p =>
    simp only
    split <;> trivial
theorem tyOf_sh {μ ν : Mu} (d : D) : tyOf (shM μ ν) (d.sh μ.length) = tyOf ν d := by
  have gen : (match insOf (shM μ ν) (d.sh μ.length) with
    | some (c, _) => some (Sum.inr c)
    | none => match ownOf (shM μ ν) (d.sh μ.length) with
      | some _ => some (Sum.inl "list")
      | none => none) = (match insOf ν d with
    | some (c, _) => some (Sum.inr c)
    | none => match ownOf ν d with
      | some _ => some (Sum.inl "list")
      | none => none : Option (String ⊕ Str)) := by
    rw [insOf_sh, ownOf_sh]
    cases insOf ν d with
    | some p => rfl
    | none => cases ownOf ν d <;> rfl
  cases d <;> first | exact gen | rfl
theorem isiB_sh (k : Nat) (cs : List Str) (t : String ⊕ Str) (e : D) : isiB cs t (e.sh k) = isiB cs t e := by
  cases e <;> cases t <;> rfl
theorem fr_isiF (cs : List Str) : FrF (isiF cs) := fun μ ds ν => by
  rcases ds with _ | ⟨d, _ | ⟨e, _ | ⟨f, l⟩⟩⟩ <;> try trivial
  unfold isiF
  simp only [D.shL, tyOf_sh, isiB_sh]
  cases tyOf ν d with
  | none => trivial
  | some t =>
    simp only
    cases isiB cs t e <;> trivial
theorem fr_dgetD : Fr2 dgetD := fun μ d e ν => by
  cases d <;> try trivial
  cases e <;> try trivial
  rename_i gs f
  unfold dgetD
  simp only [D.sh, shF_look]
  cases gs.lookup f <;> trivial
theorem fr_xNeg {a : XE'} (ha : FrE a) : FrE (xNeg a) := fun μ r ν => (ha μ r ν).bind fun d ν1 => by cases d <;> trivial
theorem fr_xTupS {a : XA} (ha : FrA a) : FrE (xTupS a) := fun μ r ν => (ha μ r ν).bind fun ds ν1 => by
  show FrO μ (if (D.shL μ.length ds).length ≤ sizeLine then _ else _) _
  rw [shL_len]
  split <;> trivial
theorem fr_xLstS {a : XA} (ha : FrA a) : FrE (xLstS a) := fun μ r ν => (ha μ r ν).bind fun ds ν1 => by
  show FrO μ (if (D.shL μ.length ds).length ≤ sizeLine then _ else _) _
  rw [shL_len]
  split <;> trivial

/-! ### defs -/
theorem fr_exitD (n : Nat) (μ : Mu) (d : D) (ν : Mu) : FrO μ (exitD (μ.length + n) (d.sh μ.length) (shM μ ν)) (exitD n d ν) := by
  unfold exitD
  rw [inB_sh]
  split
  · exact congrArg (Out.ok _) (shM_take n)
  · rename_i hb
    cases d <;> try trivial
    rename_i i
    simp only [D.sh, shM_get]
    cases ν[i]? with
    | none => trivial
    | some c => cases c with
      | lst xs =>
        simp only [Option.map_some, Cell.sh, inL_sh]
        split
        · exact congrArg (Out.ok _) (shM_take n)
        · trivial
      | ins c xs =>
        simp only [Option.map_some, Cell.sh, inF_sh]
        split
        · exact congrArg (Out.ok _) (shM_take n)
        · trivial
      | _ => trivial
theorem rho0_sh (k n : Nat) (ds : List D) : rho0 n (D.shL k ds) = shR k (rho0 n ds) := by
  unfold rho0 shR
  rw [shL_len, shL_map]
  simp
theorem fr_fnOf (n : Nat) (keep : Bool) {g : XS} (hg : FrB g) : FrF (fnOf n keep g) := fun μ ds ν => by
  unfold fnOf
  rw [rho0_sh, shM_len]
  have h := hg μ (rho0 n ds) ν
  cases e : g (rho0 n ds) ν <;> rw [e] at h
  · rw [show g (shR μ.length (rho0 n ds)) (shM μ ν) = _ from h]; exact congrArg (Out.ok _) (shM_take _)
  · rw [show g (shR μ.length (rho0 n ds)) (shM μ ν) = _ from h]
    cases keep
    · exact fr_exitD _ μ _ _
    · rfl
  · trivial
  · trivial
  · rw [show g (shR μ.length (rho0 n ds)) (shM μ ν) = _ from h]
    rename_i c fs r m
    show FrO μ (if D.inF (μ.length + ν.length) (D.shF μ.length fs) then Out.exc c (D.shF μ.length fs) ((shM μ m).take (μ.length + ν.length)) else .stuck) (if D.inF ν.length fs then .exc c fs (m.take ν.length) else .stuck)
    rw [inF_sh]
    split
    · exact congrArg (Out.exc c _) (shM_take _)
    · trivial
  · trivial

/-! ### from the empty store to any -/
mutual
def D.same : D → D → Bool
  | .non, .non => true
  | .bl a, .bl b => a == b
  | .int a, .int b => a == b
  | .str a, .str b => a == b
  | .tup a, .tup b => D.sameL a b
  | .lst a, .lst b => D.sameL a b
  | .obj c a, .obj d b => c == d && D.sameF a b
  | .dct a, .dct b => D.sameF a b
  | _, _ => false
def D.sameL : List D → List D → Bool
  | [], [] => true
  | x :: r, y :: s => D.same x y && D.sameL r s
  | _, _ => false
def D.sameF : List (Str × D) → List (Str × D) → Bool
  | [], [] => true
  | (f, x) :: r, (g, y) :: s => f == g && (D.same x y && D.sameF r s)
  | _, _ => false
end
mutual
theorem D.same_eq : ∀ a b : D, D.same a b = true → a = b := fun a b h => by
  cases a <;> cases b <;> first
    | (simp only [D.same, beq_iff_eq] at h; rw [h])
    | (simp only [D.same] at h; rw [D.sameL_eq _ _ h])
    | (simp only [D.same, Bool.and_eq_true, beq_iff_eq] at h; rw [h.1, D.sameF_eq _ _ h.2])
    | (simp only [D.same] at h; rw [D.sameF_eq _ _ h])
    | rfl
    | (exfalso; exact Bool.noConfusion h)
theorem D.sameL_eq : ∀ a b : List D, D.sameL a b = true → a = b
  | [], [], _ => rfl
  | x :: r, y :: s, h => by
    rw [D.sameL, Bool.and_eq_true] at h
    rw [D.same_eq x y h.1, D.sameL_eq r s h.2]
  | [], _ :: _, h => by simp [D.sameL] at h
  | _ :: _, [], h => by simp [D.sameL] at h
theorem D.sameF_eq : ∀ a b : List (Str × D), D.sameF a b = true → a = b
  | [], [], _ => rfl
  | (f, x) :: r, (g, y) :: s, h => by
    rw [D.sameF, Bool.and_eq_true, Bool.and_eq_true, beq_iff_eq] at h
    rw [h.1, D.same_eq x y h.2.1, D.sameF_eq r s h.2.2]
  | [], (_, _) :: _, h => by simp [D.sameF] at h
  | (_, _) :: _, [], h => by simp [D.sameF] at h
end
/-- the run from nothing ends with d, which holds no place -/
def okIs (o : Out D) (d : D) : Bool := match o with
  | .ok e [] => D.same e d && e.inB 0
  | _ => false
theorem FrF.of {G : Fn} (hG : FrF G) {ds : List D} {d : D} (hd : D.inL 0 ds = true) (h : G ds [] = .ok d []) (hb : d.inB 0 = true) (μ : Mu) : G ds μ = .ok d μ := by
  have q := hG μ ds []
  rw [shL_id _ ds hd, h, shM_nil] at q
  rw [show G ds μ = _ from q, shM_nil]
  show Out.ok (d.sh _) _ = _
  rw [sh_id _ d hb]
theorem FrF.is {G : Fn} (hG : FrF G) {ds : List D} {d : D} (hd : D.inL 0 ds = true) (h : okIs (G ds []) d = true) (μ : Mu) : G ds μ = .ok d μ := by
  unfold okIs at h
  split at h
  · rename_i e he
    rw [Bool.and_eq_true] at h
    cases D.same_eq _ _ h.1
    exact hG.of hd he h.2 μ
  · cases h
end DS

/-! # DSG: ranges with a step, lists of ranges, sorted, two-clause comprehensions. -/
namespace DS
open PySem PySem.Spec PyProof.Rows L2
variable {c : SC} {W : WX} {pos : Pos} {a b e : Expr} {fa fb : XE'} {fr : XA}
def rngC (lo st : Int) (n : Nat) : List D := (List.range n).map fun (i : Nat) => .int (lo + (i : Nat) * st)
theorem yld_rngC {K : PySem.W.Frag} {F : Hp} {al : List Addr} {lo st : Int} {n : Nat} : Yld K (Itc lo st n) (rngC lo st n) F al := by
  refine ⟨fun H F' al' m i d e w hd => ?_, fun H F' al' m i e w hi => ?_⟩
  · unfold rngC at hd
    rw [List.getElem?_map] at hd
    cases hk : (List.range n)[i]? with
    | none => rw [hk] at hd; cases hd
    | some k =>
      rw [hk] at hd
      cases hd
      obtain ⟨h1, h2⟩ := List.getElem?_eq_some_iff.mp hk
      rw [List.length_range] at h1
      rw [List.getElem_range] at h2
      subst h2
      refine ⟨h1, fun x H' hy => ?_⟩
      obtain ⟨rfl, rfl⟩ := hy
      exact ⟨F', Le.refl, w, .int _⟩
  · unfold rngC at hi
    rw [List.length_map, List.length_range] at hi
    exact hi
def rgB (i j st : Int) : Bool := decide (st ≠ 0 ∧ st.natAbs < 1073741824) && (Builtin.Range.small i j st && decide (0 ≤ Builtin.Range.rangeSize i j st))
def rngD3 (ds : List D) (m : Mu) : Out (List D) := match ds with
  | [.int i, .int j, .int st] => if rgB i j st then .ok (rngC i st (Builtin.Range.rangeSize i j st).toNat) m else .stuck
  | _ => .stuck
theorem rgB_ok {i j st : Int} (h : rgB i j st = true) : RgC i j st (Builtin.Range.rangeSize i j st).toNat := by
  unfold rgB at h
  rw [Bool.and_eq_true, Bool.and_eq_true, decide_eq_true_eq, decide_eq_true_eq] at h
  exact ⟨h.1.1, h.1.2, h.2.1, (Int.toNat_of_nonneg h.2.2).symm⟩
def xiRng3 (f : XA) : XA := fun r m => (f r m).bind rngD3
theorem di_range3 {tg d : Expr} {p0 : Pos} (hm : c.mg "range" = none) (h : DA c W [a, b, d] fr) (hg : c.sc.names.lookup ("range" : Str) = some .globalImplicit := by rfl) (hs : ∀ env, starEach [a, b, d] env = (false, eval a env) :: starEach [b, d] env := by intro _; rfl) (hpl : ∀ env, (backTo pos (starEach [b, d] env)).any (·.1) = false := by intro _; rfl) : DI c W tg (.Call (.Name "range" p0) [a, b, d] [] pos) (xiRng3 fr) := by
  obtain ⟨⟨t, h1, h2⟩, _⟩ := h
  refine ⟨iRng3 t, fun y hy => pi_range3 (hy.gl hg) hm (h1 y hy) (hs _) (hpl _), fun r m σ H F al R he hw p => ?_⟩
  refine h2 r m σ H F al _ he hw (Post.step p fun ds m1 vs H1 F1 al1 e1 w1 q1 p1 => ?_)
  unfold rngD3 at p1
  split at p1
  · cases q1 with
    | cons qa q =>
      cases q with
      | cons qb q =>
      cases q with
      | cons qc q =>
      cases q; cases qa; cases qb; cases qc
      split at p1
      · rename_i hb
        exact ⟨_, _, _, _, rfl, rgB_ok hb, p1 _ H1 F1 al1 Le.refl w1 yld_rngC⟩
      · exact p1.elim
  · exact p1.elim

/-! ### list(range(..)) -/
/-- the list, as data; or as a list that will change -/
def frzL (xs : List D) (m : Mu) : Out D := if xs.length ≤ 16777216 then .ok (.lst xs) m else .stuck
def newL (xs : List D) (m : Mu) : Out D := if D.inL m.length xs ∧ xs.length ≤ 16777216 then .ok (.loc m.length) (m ++ [.lst xs]) else .stuck
def xLstR (f : XA) : XE' := fun r m => (f r m).bind frzL
def xNewR (f : XA) : XE' := fun r m => (f r m).bind newL
theorem frz_ok {W' : XK} {F : Hp} {al : List Addr} {Q : VK} {m : Mu} {H : Hp} {xs : List D} {vs : List V} (w : Wd c.K F al m H) (q : RpL c.K F al xs vs) (p : Post c.K (RD c.K) W' F al Q (frzL xs m)) : xs.length ≤ 16777216 ∧ ∀ n, H n = none → Q (.ref n) (upd H n (.lst vs)) := by
  unfold frzL at p
  split at p
  · rename_i hl
    exact ⟨hl, fun n hn => p _ _ (upd F n _) al (ext_new (w.fnone hn)) (w.new hn) (.lst upd_same (q.up (ext_new (w.fnone hn))))⟩
  · exact p.elim
theorem new_ok {W' : XK} {F : Hp} {al : List Addr} {Q : VK} {m : Mu} {H : Hp} {xs : List D} {vs : List V} (w : Wd c.K F al m H) (q : RpL c.K F al xs vs) (p : Post c.K (RD c.K) W' F al Q (newL xs m)) : xs.length ≤ 16777216 ∧ ∀ n, H n = none → Q (.ref n) (upd H n (.lst vs)) := by
  unfold newL at p
  split at p
  · rename_i hb
    exact ⟨hb.2, fun n hn => p _ _ F (al ++ [n]) Le.snoc (w.newCell hn ⟨w.fnone hn, vs, upd_same, q.up Le.snoc⟩ hb.1) (.loc (by rw [← w.len, List.getElem?_append_right (Nat.le_refl _), Nat.sub_self]; rfl))⟩
  · exact p.elim
/-- either of the two -/
structure LKind (k : List D → Mu → Out D) : Prop where
  ok : ∀ {c : SC} {W' : XK} {F : Hp} {al : List Addr} {Q : VK} {m : Mu} {H : Hp} {xs : List D} {vs : List V}, Wd c.K F al m H → RpL c.K F al xs vs → Post c.K (RD c.K) W' F al Q (k xs m) → xs.length ≤ 16777216 ∧ ∀ n, H n = none → Q (.ref n) (upd H n (.lst vs))
theorem lk_frz : LKind frzL := ⟨fun w q p => frz_ok w q p⟩
theorem lk_new : LKind newL := ⟨fun w q p => new_ok w q p⟩
theorem rpl_ints {K : PySem.W.Frag} {F : Hp} {al : List Addr} (f : Nat → Int) (ks : List Nat) : RpL K F al (ks.map fun i => D.int (f i)) (ks.map fun i => V.int (f i)) := by
  induction ks with
  | nil => exact .nil
  | cons x r ih => exact .cons (.int _) ih
theorem de_listR1 {k : List D → Mu → Out D} {p0 p1 pos1 : Pos} (lk : LKind k) (hl : c.mg "list" = none) (hm : c.mg "range" = none) (h : DE c W a fa) (hgl : c.sc.names.lookup ("list" : Str) = some .globalImplicit := by rfl) (hg : c.sc.names.lookup ("range" : Str) = some .globalImplicit := by rfl)
    (ns : ∀ env, starEach [.Call (.Name "range" p1) [a] [] pos1] env = (false, eval (.Call (.Name "range" p1) [a] [] pos1) env) :: starEach [] env := by intro _; rfl) (hs : ∀ env, starEach [a] env = (false, eval a env) :: starEach [] env := by intro _; rfl) (hcm : c.calm = true := by rfl) :
    DE c W (.Call (.Name "list" p0) [.Call (.Name "range" p1) [a] [] pos1] [] pos) (fun r m => (xiRng1 (xaCons fa xaNil) r m).bind k) := by
  obtain ⟨t, h1, h2⟩ := h
  refine ⟨tLstRg (tRg1 t), fun y hy => pe_listRg (X := c.cx y) hcm (hy.gl hgl) hl (prg_1 (hy.gl hg) hm (h1 y hy) (hs _)) (ns _), fun r m σ H F al Q he hw p => ?_⟩
  unfold xiRng1 xaCons at p
  refine h2 r m σ H F al _ he hw (Post.step p.assoc.assoc fun d m1 v H1 F1 al1 e1 w1 q1 p1 => ?_)
  have p2 : Post c.K (RD c.K) (atS W σ) F1 al1 Q ((rngD1 [d] m1).bind k) := p1
  clear p1
  unfold rngD1 at p2
  split at p2
  · rename_i j e
    cases e
    cases q1
    split at p2
    · rename_i hb
      have q := lk.ok w1 (rpl_ints (K := c.K) (F := F1) (al := al1) (fun i => 0 + (i : Int)) (List.range j.toNat)) p2
      rw [List.length_map, List.length_range] at q
      refine ⟨j, rfl, ⟨by omega, by omega, hb.1, hb.2, by omega⟩, fun n hn => ?_⟩
      have z := q.2 n hn
      unfold rgV
      rw [Int.sub_zero]
      exact z
    · exact p2.elim
  · exact p2.elim
theorem de_listR2 {k : List D → Mu → Out D} {p0 p1 pos1 : Pos} (lk : LKind k) (hl : c.mg "list" = none) (hm : c.mg "range" = none) (h : DE c W a fa) (h' : DE c W b fb) (hgl : c.sc.names.lookup ("list" : Str) = some .globalImplicit := by rfl) (hg : c.sc.names.lookup ("range" : Str) = some .globalImplicit := by rfl)
    (ns : ∀ env, starEach [.Call (.Name "range" p1) [a, b] [] pos1] env = (false, eval (.Call (.Name "range" p1) [a, b] [] pos1) env) :: starEach [] env := by intro _; rfl) (hs : ∀ env, starEach [a, b] env = (false, eval a env) :: starEach [b] env := by intro _; rfl) (hs2 : ∀ env, starEach [b] env = (false, eval b env) :: starEach [] env := by intro _; rfl) (hp : ∀ env, (backTo pos1 (starEach [b] env)).any (·.1) = false := by intro _; rfl) (hcm : c.calm = true := by rfl) :
    DE c W (.Call (.Name "list" p0) [.Call (.Name "range" p1) [a, b] [] pos1] [] pos) (fun r m => (xiRng2 (xaCons fa (xaCons fb xaNil)) r m).bind k) := by
  obtain ⟨t, h1, h2⟩ := h
  obtain ⟨t', h3, h4⟩ := h'
  refine ⟨tLstRg (tRg2 t t'), fun y hy => pe_listRg (X := c.cx y) hcm (hy.gl hgl) hl (prg_2 (hy.gl hg) hm (h1 y hy) (h3 y hy) (hs _) (hs2 _) (hp _)) (ns _), fun r m σ H F al Q he hw p => ?_⟩
  unfold xiRng2 xaCons at p
  refine h2 r m σ H F al _ he hw (Post.step p.assoc.assoc fun d m1 v H1 F1 al1 e1 w1 q1 p1 => ?_)
  have p3 : Post c.K (RD c.K) (atS W σ) F1 al1 Q ((fb r m1).bind fun z m2 => (rngD2 [d, z] m2).bind k) := by
    have z := p1.assoc
    cases hb : fb r m1 with
    | ok z' m2 => rw [hb] at z; exact z
    | exc _ _ _ => rw [hb] at z; exact z
    | stuck => rw [hb] at z; exact z
  refine h4 r m1 σ H1 F1 al1 _ (he.up e1) w1 (Post.step p3 fun d2 m2 v2 H2 F2 al2 e2 w2 q2 p2 => ?_)
  · have q1 := Rp.up e2 q1
    unfold rngD2 at p2
    split at p2
    · rename_i i j e
      cases e
      cases q1; cases q2
      split at p2
      · rename_i hb
        have q := lk.ok w2 (rpl_ints (K := c.K) (F := F2) (al := al2) (fun n => i + (n : Int)) (List.range (j - i).toNat)) p2
        rw [List.length_map, List.length_range] at q
        exact ⟨i, j, rfl, rfl, ⟨hb.1, hb.2.1, hb.2.2.1, hb.2.2.2, by omega⟩, fun n hn => q.2 n hn⟩
      · exact p2.elim
    · exact p2.elim
/-- list(range(i, j, st)) -/
def tLstR3 (ta : TA) : TE := fun σ H Q => ta σ H fun vs H1 => ∃ (i j st : Int) (n : Nat), vs = [.int i, .int j, .int st] ∧ RgC i j st n ∧ n ≤ 2 ^ 24 ∧ ∀ q, H1 q = none → Q (.ref q) (upd H1 q (.lst ((List.range n).map fun k => V.int (i + (k : Nat) * st))))
theorem pe_listR3 {X : Cx} {a b d : Expr} {ta : TA} {p0 p1 pos pos1 : Pos} (hc : X.calm = true) (hgl : Gl X "list") (hl : X.mg "list" = none) (hg : Gl X "range") (hm : X.mg "range" = none) (ha : PA X [a, b, d] ta)
    (ns : starEach [.Call (.Name "range" p1) [a, b, d] [] pos1] X.env = (false, eval (.Call (.Name "range" p1) [a, b, d] [] pos1) X.env) :: starEach [] X.env)
    (hs : starEach [a, b, d] X.env = (false, eval a X.env) :: starEach [b, d] X.env) (hpl : (backTo pos1 (starEach [b, d] X.env)).any (·.1) = false) :
    PE X (.Call (.Name "list" p0) [.Call (.Name "range" p1) [a, b, d] [] pos1] [] pos) (tLstR3 ta) := by
  refine ⟨fun pins s σ H Q I h => ?_⟩
  refine Call_ (ld_blt I hgl hl boot_list (PyProof.Rows.callWith_type1 (args_cons ?_ ns) ns))
  refine Call_ (ld_blt I hg hm boot_range (PyProof.Rows.callWith_type1 (thn (ha.run pos1 pins s σ H _ I h) fun us s1 ⟨vs, H1, I1, r1, q1⟩ => ?_) hs hpl))
  obtain ⟨i, j, st, n, e, ⟨c0, c1, c2, c3⟩, hn, q⟩ := q1
  subst e
  cases r1 with
  | cons r rr =>
    cases rr with
    | cons r' rr =>
      cases rr with
      | cons r'' rr =>
        cases rr
        obtain ⟨t, rfl⟩ := r
        obtain ⟨t', rfl⟩ := r'
        obtain ⟨t'', rfl⟩ := r''
        refine call_range_3 c0 ?_ (.inl (PyProof.noPylong_small c1))
        have I2 : Inv X pins σ H1 { s1 with heap := s1.heap.push { cls := .type "range", data := .fields #[.int i t, .int j t', .int st t''] } } := I1.kept (t' := s1.toks) fun b o e => Heap.get?_push_of_some _ e
        refine args_nil ?_
        refine call_list_range (n := n) (I2.ok.hd hc) (IsRange.new ..) c2 c3 hn fun h' tk acc cc hk e' hi => ?_
        refine ⟨.ref _, upd H1 _ (.lst ((List.range n).map fun k => V.int (i + (k : Nat) * st))), I2.laid hk (Nat.le_refl _) (show ObjOk X.prog X.w _ _ _ (.lst _) from ⟨?_, acc.toList, cc, ?_, ?_⟩), rfl, q _ (I2.hok.fresh (Nat.le_refl _))⟩
        · rw [List.length_map, List.length_range, sizeLine_eq]; omega
        · have hz : acc.toList.length = n := by rw [Array.length_toList]; exact hi.1
          rw [← hz]
          refine vals_of_get acc.toList _ fun k u hk => ?_
          obtain ⟨t, rfl⟩ := hi.2 k u (by rw [← hk, Array.getElem?_toList])
          exact ⟨t, rfl⟩
        · rw [Array.toArray_toList]; exact e'
theorem de_listR3 {d : Expr} {k : List D → Mu → Out D} {p0 p1 pos1 : Pos} (lk : LKind k) (hl : c.mg "list" = none) (hm : c.mg "range" = none) (h : DA c W [a, b, d] fr) (hgl : c.sc.names.lookup ("list" : Str) = some .globalImplicit := by rfl) (hg : c.sc.names.lookup ("range" : Str) = some .globalImplicit := by rfl)
    (ns : ∀ env, starEach [.Call (.Name "range" p1) [a, b, d] [] pos1] env = (false, eval (.Call (.Name "range" p1) [a, b, d] [] pos1) env) :: starEach [] env := by intro _; rfl) (hs : ∀ env, starEach [a, b, d] env = (false, eval a env) :: starEach [b, d] env := by intro _; rfl) (hpl : ∀ env, (backTo pos1 (starEach [b, d] env)).any (·.1) = false := by intro _; rfl) (hcm : c.calm = true := by rfl) :
    DE c W (.Call (.Name "list" p0) [.Call (.Name "range" p1) [a, b, d] [] pos1] [] pos) (fun r m => (xiRng3 fr r m).bind k) := by
  obtain ⟨⟨t, h1, h2⟩, _⟩ := h
  refine ⟨tLstR3 t, fun y hy => pe_listR3 (X := c.cx y) hcm (hy.gl hgl) hl (hy.gl hg) hm (h1 y hy) (ns _) (hs _) (hpl _), fun r m σ H F al Q he hw p => ?_⟩
  unfold xiRng3 at p
  refine h2 r m σ H F al _ he hw (Post.step p.assoc fun ds m1 vs H1 F1 al1 e1 w1 q1 p1 => ?_)
  unfold rngD3 at p1
  split at p1
  · rename_i i j st
    cases q1 with
    | cons qa q =>
      cases q with
      | cons qb q =>
      cases q with
      | cons qc q =>
      cases q; cases qa; cases qb; cases qc
      split at p1
      · rename_i hb
        have q := lk.ok w1 (rpl_ints (K := c.K) (F := F1) (al := al1) (fun n => i + (n : Nat) * st) (List.range (Builtin.Range.rangeSize i j st).toNat)) p1
        rw [List.length_map, List.length_range] at q
        exact ⟨_, _, _, _, rfl, rgB_ok hb, by omega, fun n hn => q.2 n hn⟩
      · exact p1.elim
  · exact p1.elim
/-! ### sorted -/
def insI (i : Int) : List Int → List Int
  | [] => [i]
  | j :: r => if i ≤ j then i :: j :: r else j :: insI i r
def sortI : List Int → List Int
  | [] => []
  | i :: r => insI i (sortI r)
theorem insI_perm (i : Int) : ∀ l : List Int, (insI i l).Perm (i :: l)
  | [] => List.Perm.refl _
  | j :: r => by
    unfold insI
    split
    · exact List.Perm.refl _
    · exact ((insI_perm i r).cons j).trans (List.Perm.swap i j r)
theorem sortI_perm : ∀ l : List Int, (sortI l).Perm l
  | [] => List.Perm.refl _
  | i :: r => (insI_perm i _).trans ((sortI_perm r).cons i)
theorem insI_sorted (i : Int) : ∀ l : List Int, l.Pairwise (· ≤ ·) → (insI i l).Pairwise (· ≤ ·)
  | [], _ => List.pairwise_singleton _ _
  | j :: r, h => by
    obtain ⟨h1, h2⟩ := List.pairwise_cons.mp h
    unfold insI
    split
    · rename_i hij
      refine List.pairwise_cons.mpr ⟨fun k hk => ?_, h⟩
      rcases List.mem_cons.mp hk with rfl | hk
      · exact hij
      · exact Int.le_trans hij (h1 k hk)
    · rename_i hij
      refine List.pairwise_cons.mpr ⟨fun k hk => ?_, insI_sorted i r h2⟩
      rcases List.mem_cons.mp ((insI_perm i r).mem_iff.mp hk) with rfl | hk
      · omega
      · exact h1 k hk
theorem sortI_sorted : ∀ l : List Int, (sortI l).Pairwise (· ≤ ·)
  | [] => List.Pairwise.nil
  | i :: r => insI_sorted i _ (sortI_sorted r)
theorem sorted_unique : ∀ {l m : List Int}, l.Perm m → l.Pairwise (· ≤ ·) → m.Pairwise (· ≤ ·) → l = m
  | [], m, p, _, _ => by rw [List.Perm.eq_nil p.symm]
  | x :: l, [], p, _, _ => by have := p.length_eq; simp at this
  | x :: l, y :: m, p, hl, hm => by
    obtain ⟨l1, l2⟩ := List.pairwise_cons.mp hl
    obtain ⟨m1, m2⟩ := List.pairwise_cons.mp hm
    have h1 : x ≤ y := by
      rcases List.mem_cons.mp (p.mem_iff.mpr (List.mem_cons_self (a := y) (l := m))) with e | e
      · omega
      · exact l1 y e
    have h2 : y ≤ x := by
      rcases List.mem_cons.mp (p.mem_iff.mp (List.mem_cons_self (a := x) (l := l))) with e | e
      · omega
      · exact m1 x e
    have e : x = y := by omega
    subst e
    rw [sorted_unique p.cons_inv l2 m2]
def sortF (ds : List D) (m : Mu) : Out D := match ds with
  | [d] => (match lstOf m d with
    | some xs => (match intsL xs with
      | some ns => .ok (.lst ((sortI ns).map .int)) m
      | _ => .stuck)
    | none => .stuck)
  | _ => .stuck
theorem rpl_int {K : PySem.W.Frag} {F : Hp} {al : List Addr} (ns : List Int) : RpL K F al (ns.map D.int) (ns.map V.int) := by
  induction ns with
  | nil => exact .nil
  | cons x r ih => exact .cons (.int _) ih
theorem b_sorted : CallD c (.builtin "sorted") sortF := by
  refine ⟨rSortedI c.K, fun W y hy => cr_sortedI (X := c.cx y), fun W ds m vs H F al Q hw r p => ?_⟩
  unfold sortF at p
  split at p
  · cases r with
    | cons q r =>
    cases r
    split at p
    · rename_i xs hx
      obtain ⟨q', ws, rfl, s, q⟩ := lstOf_ok hw q hx
      split at p
      · rename_i ns hi
        have ew := ints_rp q hi
        subst ew
        refine ⟨q', ns, rfl, s, fun ns' n h1 h2 hn => ?_⟩
        rw [sorted_unique (h1.trans (sortI_perm ns).symm) h2 (sortI_sorted ns)]
        exact p _ _ (upd F n _) al (ext_new (hw.fnone hn)) (hw.new hn) (.lst upd_same ((rpl_int _).up (ext_new (hw.fnone hn))))
      · exact p.elim
    · exact p.elim
  · exact p.elim
theorem bt_sorted : bootBuiltins "sorted" = some (.builtin "sorted") := by kernel_rfl

/-! ### comprehensions of two clauses -/
def lcF1 (g1 : XG) (tt1 : XT) (te : XE') (n : Nat) (r1 : Rho) : List D → Mu → Out Unit := lcF g1 tt1 te n r1
def lcG (g : XG) (tt : XT) (fi1 : XA) (vs1 : List Nat) (g1 : XG) (tt1 : XT) (te : XE') (n : Nat) (r0 : Rho) : List D → Mu → Out Unit
  | [], m => .ok () m
  | x :: xs, m => (g x r0 m).ne.bind fun r1 m1 => (tt r1 m1).ne.bind fun b m2 => if b then (fi1 r1 m2).ne.bind fun ys m3 => (lcF g1 tt1 te n (wipeR r1 vs1) ys m3).bind fun _ m4 => lcG g tt fi1 vs1 g1 tt1 te n r0 xs m4 else lcG g tt fi1 vs1 g1 tt1 te n r0 xs m2
def lc2D (g : XG) (tt : XT) (fi1 : XA) (vs1 : List Nat) (g1 : XG) (tt1 : XT) (te : XE') (r0 : Rho) (xs : List D) (m : Mu) : Out D := (lcG g tt fi1 vs1 g1 tt1 te m.length r0 xs (m ++ [.lst []])).bind fun _ m2 => lcEnd m.length m2
def xLc2 (f : XA) (vs : List Nat) (g : XG) (tt : XT) (fi1 : XA) (vs1 : List Nat) (g1 : XG) (tt1 : XT) (te : XE') : XE' := fun r m => (f r m).bind fun xs m1 => lc2D g tt fi1 vs1 g1 tt1 te (wipeR r vs) xs m1
theorem lc2_read {elt tg it tg1 it1 : Expr} {ifs ifs1 : List Expr} {scope : Scope} {vs vs1 : List Nat} {fi1 : XA} {gt gt1 : XG} {tt tt1 : XT} {te : XE'} {tg' tg1' : TG} {t2 t4 : TT} {t5 : TE} {wi1 : TI} {J : It} {xs : List D} {r : Rho} {m1 : Mu} {σ : L2.St} {H1 F1 : Hp} {al1 : List Addr} {Q : VK} {W' : XK}
    (g2 : ∀ d x r m σ H F al Q, EnvOk c.K F al r σ → Wd c.K F al m H → Rp c.K F al d x → Post c.K (RE c.K vs σ) (atS noW σ) F al Q (gt d r m) → tg' x σ H Q)
    (t2' : ∀ r m σ H F al Q, EnvOk c.K F al r σ → Wd c.K F al m H → Post c.K RB (atS noW σ) F al Q (tt r m) → t2 σ H Q)
    (j2 : ∀ r m σ H F al R, EnvOk c.K F al r σ → Wd c.K F al m H → Post c.K (fun F al xs J => Yld c.K J xs F al) (atS noW σ) F al R (fi1 r m) → wi1 σ H R)
    (g4 : ∀ d x r m σ H F al Q, EnvOk c.K F al r σ → Wd c.K F al m H → Rp c.K F al d x → Post c.K (RE c.K vs1 σ) (atS noW σ) F al Q (gt1 d r m) → tg1' x σ H Q)
    (t4' : ∀ r m σ H F al Q, EnvOk c.K F al r σ → Wd c.K F al m H → Post c.K RB (atS noW σ) F al Q (tt1 r m) → t4 σ H Q)
    (e2 : ∀ r m σ H F al Q, EnvOk c.K F al r σ → Wd c.K F al m H → Post c.K (RD c.K) (atS noW σ) F al Q (te r m) → t5 σ H Q)
    (he : EnvOk c.K F1 al1 r σ) (w1 : Wd c.K F1 al1 m1 H1) (q1 : Yld c.K J xs F1 al1) (p1 : Post c.K (RD c.K) W' F1 al1 Q (lc2D gt tt fi1 vs1 gt1 tt1 te (wipeR r vs) xs m1)) :
    ∀ D', H1 D' = none → ∃ Wv : Nat → Nat → Hp → Prop, (∃ m, Wv 0 m (upd H1 D' (.lst []))) ∧ ∀ i m H, Wv i m H →
  (J.stop i H ∧ Q (.ref D') H) ∨ (J.go i H ∧ ∃ Nx : Hp → Prop, (∀ H', Nx H' → ∃ m', m' < m ∧ Wv (i + 1) m' H') ∧ ∀ x H', J.yld i H x H' → tg' x (wipe σ vs) H' fun σ2 H2 => wipe σ2 vs = wipe σ vs ∧ t2 σ2 H2 fun b H3 =>
    if b = true then wi1 σ2 H3 fun J1 H4 => ∃ W1 : Nat → Nat → Hp → Prop, (∃ m, W1 0 m H4) ∧ ∀ j k H, W1 j k H →
      (J1.stop j H ∧ Nx H) ∨ (J1.go j H ∧ ∃ Nx1 : Hp → Prop, (∀ H', Nx1 H' → ∃ k', k' < k ∧ W1 (j + 1) k' H') ∧ ∀ x H', J1.yld j H x H' → tg1' x (wipe σ2 vs1) H' fun σ3 H5 => wipe σ3 vs1 = wipe σ2 vs1 ∧ t4 σ3 H5 fun b H6 =>
        if b = true then t5 σ3 H6 fun y H7 => ∃ acc, H7 D' = some (.lst acc) ∧ acc.length < sizeLine ∧ Nx1 (upd H7 D' (.lst (acc ++ [y]))) else Nx1 H6)
    else Nx H3) := by
  intro D' hD
  have hlast : (al1 ++ [D'])[m1.length]? = some D' := by rw [← w1.len, List.getElem?_append_right (Nat.le_refl _), Nat.sub_self]; rfl
  have w0 : Wd c.K F1 (al1 ++ [D']) (m1 ++ [.lst []]) (upd H1 D' (.lst [])) := w1.newCell hD ⟨w1.fnone hD, [], upd_same, .nil⟩ rfl
  let P : Out Unit → Prop := fun o => Post c.K (RD c.K) W' F1 al1 Q (o.bind fun _ m2 => lcEnd m1.length m2)
  refine ⟨fun i k H' => ∃ m' F' al', k = xs.length - i ∧ i ≤ xs.length ∧ Le F1 (al1 ++ [D']) F' al' ∧ Wd c.K F' al' m' H' ∧ P (lcG gt tt fi1 vs1 gt1 tt1 te m1.length (wipeR r vs) (xs.drop i) m'),
    ⟨xs.length, _, F1, al1 ++ [D'], rfl, Nat.zero_le _, Le.refl, w0, p1⟩, ?_⟩
  rintro i k H' ⟨m', F', al', rfl, hi, e', w', p'⟩
  have e1' : Le F1 al1 F' al' := Le.snoc.trans e'
  by_cases hlt : i < xs.length
  · have hd : xs[i]? = some xs[i] := List.getElem?_eq_getElem hlt
    obtain ⟨hgo, hyl⟩ := q1.go H' F' al' m' i xs[i] e1' w' hd
    refine .inr ⟨hgo, fun H2 => ∃ m2 F2 al2, Le F1 (al1 ++ [D']) F2 al2 ∧ Wd c.K F2 al2 m2 H2 ∧ P (lcG gt tt fi1 vs1 gt1 tt1 te m1.length (wipeR r vs) (xs.drop (i + 1)) m2), fun H2 ⟨m2, F2, al2, z1, z2, z3⟩ => ⟨xs.length - (i + 1), by omega, m2, F2, al2, rfl, hlt, z1, z2, z3⟩, fun x H2 hy => ?_⟩
    obtain ⟨F2, e2', w2, q2⟩ := hyl x H2 hy
    rw [List.drop_eq_getElem_cons hlt, lcG] at p'
    have he2 : EnvOk c.K F2 al' (wipeR r vs) (wipe σ vs) := ((he.up e1').up e2').wipe vs
    have p' : Post c.K (RD c.K) W' F1 al1 Q _ := p'
    refine g2 xs[i] x _ m' _ H2 F2 al' _ he2 w2 q2 (Post.stepN p'.assoc fun r3 m3 σ3 H3 F3 al3 e3 w3 q3 p3 => ?_)
    refine ⟨by rw [q3.2]; exact wipe_twice vs σ, t2' r3 m3 σ3 H3 F3 al3 _ q3.1 w3 (Post.stepN p3.assoc fun b m4 b' H4 F4 al4 e4 w4 q4 p4 => ?_)⟩
    cases q4
    have up4 : Le F1 (al1 ++ [D']) F4 al4 := ((e'.trans e2').trans e3).trans e4
    have he4 := q3.1.up e4
    cases b with
    | false => exact ⟨m4, F4, al4, up4, w4, p4⟩
    | true =>
      show wi1 σ3 H4 _
      have p4 : Post c.K (RD c.K) W' F1 al1 Q (((fi1 r3 m4).ne.bind fun ys m5 => (lcF gt1 tt1 te m1.length (wipeR r3 vs1) ys m5).bind fun _ m6 => lcG gt tt fi1 vs1 gt1 tt1 te m1.length (wipeR r vs) (xs.drop (i + 1)) m6).bind fun _ m2 => lcEnd m1.length m2) := p4
      refine j2 r3 m4 σ3 H4 F4 al4 _ he4 w4 (Post.stepN p4.assoc fun ys m5 J1 H5 F5 al5 e5 w5 q5 p5 => ?_)
      have up5 := up4.trans e5
      let P1 : Out Unit → Prop := fun o => Post c.K (RD c.K) W' F1 al1 Q (o.bind fun _ m6 => (lcG gt tt fi1 vs1 gt1 tt1 te m1.length (wipeR r vs) (xs.drop (i + 1)) m6).bind fun _ m2 => lcEnd m1.length m2)
      refine ⟨fun j k H' => ∃ m' F' al', k = ys.length - j ∧ j ≤ ys.length ∧ Le F5 al5 F' al' ∧ Wd c.K F' al' m' H' ∧ P1 (lcF gt1 tt1 te m1.length (wipeR r3 vs1) (ys.drop j) m'),
        ⟨ys.length, m5, F5, al5, rfl, Nat.zero_le _, Le.refl, w5, p5.assoc⟩, ?_⟩
      rintro j k H6 ⟨m6, F6, al6, rfl, hj, e6, w6, p6⟩
      by_cases hjt : j < ys.length
      · have hdj : ys[j]? = some ys[j] := List.getElem?_eq_getElem hjt
        obtain ⟨hgo1, hyl1⟩ := q5.go H6 F6 al6 m6 j ys[j] e6 w6 hdj
        refine .inr ⟨hgo1, fun H2 => ∃ m2 F2 al2, Le F5 al5 F2 al2 ∧ Wd c.K F2 al2 m2 H2 ∧ P1 (lcF gt1 tt1 te m1.length (wipeR r3 vs1) (ys.drop (j + 1)) m2), fun H2 ⟨m2, F2, al2, z1, z2, z3⟩ => ⟨ys.length - (j + 1), by omega, m2, F2, al2, rfl, hjt, z1, z2, z3⟩, fun x1 H7 hy1 => ?_⟩
        obtain ⟨F7, e7, w7, q7⟩ := hyl1 x1 H7 hy1
        rw [List.drop_eq_getElem_cons hjt, lcF] at p6
        have he7 : EnvOk c.K F7 al6 (wipeR r3 vs1) (wipe σ3 vs1) := (((he4.up e5).up e6).up e7).wipe vs1
        have p6 : Post c.K (RD c.K) W' F1 al1 Q _ := p6
        refine g4 ys[j] x1 _ m6 _ H7 F7 al6 _ he7 w7 q7 (Post.stepN p6.assoc fun r8 m8 σ8 H8 F8 al8 e8 w8 q8 p8 => ?_)
        refine ⟨by rw [q8.2]; exact wipe_twice vs1 σ3, t4' r8 m8 σ8 H8 F8 al8 _ q8.1 w8 (Post.stepN p8.assoc fun b m9 b' H9 F9 al9 e9 w9 q9 p9 => ?_)⟩
        cases q9
        have up9 : Le F5 al5 F9 al9 := ((e6.trans e7).trans e8).trans e9
        cases b with
        | false => exact ⟨m9, F9, al9, up9, w9, p9⟩
        | true =>
          show t5 σ8 H9 _
          have p9 : Post c.K (RD c.K) W' F1 al1 Q (((te r8 m9).ne.bind fun d m5 => (pushD m1.length d m5).bind fun _ m6 => lcF gt1 tt1 te m1.length (wipeR r3 vs1) (ys.drop (j + 1)) m6).bind fun _ m6 => (lcG gt tt fi1 vs1 gt1 tt1 te m1.length (wipeR r vs) (xs.drop (i + 1)) m6).bind fun _ m2 => lcEnd m1.length m2) := p9
          refine e2 r8 m9 σ8 H9 F9 al9 _ (q8.1.up e9) w9 (Post.stepN p9.assoc fun q m10 y H10 F10 al10 e10 w10 q10 p10 => ?_)
          have up10 := up9.trans e10
          have hx10 : al10[m1.length]? = some D' := (up5.trans up10).a _ _ hlast
          unfold pushD at p10
          cases hc : m10[m1.length]? with
          | none => rw [hc] at p10; exact p10.elim
          | some cl =>
            cases cl with
            | ins _ _ => rw [hc] at p10; exact p10.elim
            | dct _ => rw [hc] at p10; exact p10.elim
            | dead => rw [hc] at p10; exact p10.elim
            | tab _ => rw [hc] at p10; exact p10.elim
            | lst acc =>
              rw [hc] at p10
              simp only at p10
              obtain ⟨hf, ws, h4, h5⟩ := w10.cell _ _ _ hx10 hc
              by_cases hb : q.inB m1.length = true ∧ acc.length < sizeLine
              · rw [if_pos hb] at p10
                have hg : D.inL m1.length acc = true := w10.gen _ _ hc
                refine ⟨ws, h4, by rw [← h5.len]; exact hb.2, _, F10, al10, up10, w10.write (c := .lst (acc ++ [q])) hx10 hf ⟨hf, _, upd_same, h5.snoc q10⟩ (inL_append hg (by rw [D.inL, hb.1, D.inL]; rfl)), p10⟩
              · rw [if_neg hb] at p10; exact p10.elim
      · have ej : j = ys.length := by omega
        subst ej
        rw [List.drop_length, lcF] at p6
        exact .inl ⟨q5.stop H6 F6 al6 m6 _ e6 w6 (Nat.le_refl _), m6, F6, al6, up5.trans e6, w6, p6⟩
  · have ei : i = xs.length := by omega
    subst ei
    rw [List.drop_length, lcG] at p'
    refine .inl ⟨q1.stop H' F' al' m' _ e1' w' (Nat.le_refl _), ?_⟩
    have hx2 : al'[m1.length]? = some D' := e'.a _ _ hlast
    have p' : Post c.K (RD c.K) W' F1 al1 Q (lcEnd m1.length m') := p'
    unfold lcEnd at p'
    split at p'
    · rename_i acc hc
      obtain ⟨hf, ws, h4, h5⟩ := w'.cell _ _ _ hx2 hc
      have hg : D.inL m1.length acc = true := w'.gen _ _ hc
      exact p' _ H' (upd F' D' (.lst ws)) (al'.take m1.length) ((e1'.trans (ext_new hf)).cut (Nat.le_of_eq w1.len)) (w'.frz hx2 h4 hf (Nat.le_refl _)) (.lst upd_same ((h5.cut hg).up (ext_new hf)))
    · exact p'.elim
theorem de_lc2 {elt tg it tg1 it1 : Expr} {ifs ifs1 : List Expr} {scope : Scope} (own : List (Str × Nat)) (vs1 : List Nat) {fi fi1 : XA} {gt gt1 : XG} {tt tt1 : XT} {te : XE'} (hN : c.N.Nodup) (ok : blkC c.N c.sc scope own = true) (hv : ∀ i ∈ vs1, i ∈ own.map (·.2)) (hi : DI c W tg it fi) (hg : DG (c.blk scope) noW (own.map (·.2)) tg gt) (ht : DTs (c.blk scope) noW ifs tt)
    (hi1 : DI (c.blk scope) noW tg1 it1 fi1) (hg1 : DG (c.blk scope) noW vs1 tg1 gt1) (ht1 : DTs (c.blk scope) noW ifs1 tt1) (he : DE (c.blk scope) noW elt te)
    (hs : ∀ env x, foldedSetIterable it env x = pure x := by intro _ _; rfl) (hs1 : ∀ env x, foldedSetIterable it1 env x = pure x := by intro _ _; rfl) (hcm : c.calm = true := by rfl) : DE c W (.ListComp elt [⟨tg, it, ifs, 0⟩, ⟨tg1, it1, ifs1, 0⟩] scope pos) (xLc2 fi (own.map (·.2)) gt tt fi1 vs1 gt1 tt1 te) := by
  obtain ⟨wi, i1, i2⟩ := hi
  obtain ⟨tg', g1, g2⟩ := hg
  obtain ⟨t2, t1, t2'⟩ := ht
  obtain ⟨wi1, j1, j2⟩ := hi1
  obtain ⟨tg1', g3, g4⟩ := hg1
  obtain ⟨t4, t3, t4'⟩ := ht1
  obtain ⟨t5, e1, e2⟩ := he
  refine ⟨tLc2 wi tg' t2 wi1 tg1' t4 t5 (own.map (·.2)) vs1, fun y hy => pe_lc2 (X := c.cx y) hcm hN (i1 y hy) (by
      have z : (c.cx y).env.scope = c.sc := hy.scope
      rw [z]; exact blkOk_by ok) hv (fun s H C cl fp => g1 _ (hy.blk s H scope C cl fp)) (fun s H C cl fp => t1 _ (hy.blk s H scope C cl fp)) (fun s H C cl fp => j1 _ (hy.blk s H scope C cl fp)) (fun s H C cl fp => g3 _ (hy.blk s H scope C cl fp)) (fun s H C cl fp => t3 _ (hy.blk s H scope C cl fp)) (fun s H C cl fp => e1 _ (hy.blk s H scope C cl fp)) (hs _) hs1, fun r m σ H F al Q he hw p => ?_⟩
  refine i2 r m σ H F al _ he hw (Post.step p fun xs m1 J H1 F1 al1 e3 w1 q1 p1 => ?_)
  exact lc2_read (c := c) (elt := elt) (tg := tg) (it := it) (tg1 := tg1) (it1 := it1) (ifs := ifs) (ifs1 := ifs1) (scope := scope) g2 t2' j2 g4 t4' e2 (he.up e3) w1 q1 p1
theorem ds_lc2 (i : Nat) {y0 : Str} {py spos : Pos} {elt tg it tg1 it1 : Expr} {ifs ifs1 : List Expr} {scope : Scope} (own : List (Str × Nat)) (vs1 : List Nat) {fi fi1 : XA} {gt gt1 : XG} {tt tt1 : XT} {te : XE'} (hN : c.N.Nodup) (ok : blkC c.N c.sc scope own = true) (hv : ∀ i ∈ vs1, i ∈ own.map (·.2)) (hi : DI c W tg it fi) (hg : DG (c.blk scope) noW (own.map (·.2)) tg gt) (ht : DTs (c.blk scope) noW ifs tt)
    (hi1 : DI (c.blk scope) noW tg1 it1 fi1) (hg1 : DG (c.blk scope) noW vs1 tg1 gt1) (ht1 : DTs (c.blk scope) noW ifs1 tt1) (he : DE (c.blk scope) noW elt te)
    (hy : c.N[i]? = some y0 := by rfl) (hyl : c.sc.names.lookup y0 = some .local := by rfl) (hk : c.sc.kind = .function := by rfl) (hl : (py.line == pos.line) = true := by rfl) (hn : (scope.names.any fun (n, k) => n == y0 && (k == .local || k == .cell)) = false := by decide +kernel)
    (hs : ∀ env x, foldedSetIterable it env x = pure x := by intro _ _; rfl) (hs1 : ∀ env x, foldedSetIterable it1 env x = pure x := by intro _ _; rfl) (hcm : c.calm = true := by rfl) : DSt c W (.Assign [.Name y0 py] (.ListComp elt [⟨tg, it, ifs, 0⟩, ⟨tg1, it1, ifs1, 0⟩] scope pos) spos) (sAsg (xLc2 fi (own.map (·.2)) gt tt fi1 vs1 gt1 tt1 te) (gNm i)) := by
  obtain ⟨wi, i1, i2⟩ := hi
  obtain ⟨tg', g1, g2⟩ := hg
  obtain ⟨t2, t1, t2'⟩ := ht
  obtain ⟨wi1, j1, j2⟩ := hi1
  obtain ⟨tg1', g3, g4⟩ := hg1
  obtain ⟨t4, t3, t4'⟩ := ht1
  obtain ⟨t5, e1, e2⟩ := he
  refine ⟨tAsg (tLc2 wi tg' t2 wi1 tg1' t4 t5 (own.map (·.2)) vs1) (gName i), fun y hz => ?_, fun r m σ H F al E he hw p => ?_⟩
  · have z : (c.cx y).env.scope = c.sc := hz.scope
    exact ps_setLc2 (X := c.cx y) hcm hN hy (by rw [z]; exact hyl) (sw_true (by rw [z]; exact hk) (by rw [z]; exact hyl) hl hn) (i1 y hz) (by rw [z]; exact blkOk_by ok) hv (fun s H C cl fp => g1 _ (hz.blk s H scope C cl fp)) (fun s H C cl fp => t1 _ (hz.blk s H scope C cl fp)) (fun s H C cl fp => j1 _ (hz.blk s H scope C cl fp)) (fun s H C cl fp => g3 _ (hz.blk s H scope C cl fp)) (fun s H C cl fp => t3 _ (hz.blk s H scope C cl fp)) (fun s H C cl fp => e1 _ (hz.blk s H scope C cl fp)) (hs _) hs1
  · have p' : PostS c.K W F al E ((fi r m).stm r fun xs m1 => (lc2D gt tt fi1 vs1 gt1 tt1 te (wipeR r (own.map (·.2))) xs m1).stm r fun d m2 => .next (r.set i (some d)) m2) := by
      have q : sAsg (xLc2 fi (own.map (·.2)) gt tt fi1 vs1 gt1 tt1 te) (gNm i) r m = ((fi r m).stm r fun xs m1 => (lc2D gt tt fi1 vs1 gt1 tt1 te (wipeR r (own.map (·.2))) xs m1).stm r fun d m2 => .next (r.set i (some d)) m2) := by
        unfold sAsg xLc2
        cases fi r m <;> rfl
      rw [← q]; exact p
    refine i2 r m σ H F al _ he hw (PostS.step he p' fun xs m1 J H1 F1 al1 e3 w1 q1 p1 => ?_)
    refine lc2_read (c := c) (elt := elt) (tg := tg) (it := it) (tg1 := tg1) (it1 := it1) (ifs := ifs) (ifs1 := ifs1) (scope := scope) (W' := atS W σ) (Q := fun x H1 => gName i x σ H1 E.nx) g2 t2' j2 g4 t4' e2 (he.up e3) w1 q1 (PostS.step (he.up e3) p1 fun d m2 x H2 F2 al2 e4 w2 q2 p2 => ?_)
    exact p2 _ H2 F2 al2 Le.refl w2 (((he.up e3).up e4).set i q2)
/-! ### frames -/
theorem rngC_sh (k : Nat) (lo st : Int) (n : Nat) : D.shL k (rngC lo st n) = rngC lo st n := by
  rw [shL_map, rngC, List.map_map]
  rfl
theorem fr_rngD3 (μ : Mu) (ds : List D) (ν : Mu) : FrO μ (rngD3 (D.shL μ.length ds) (shM μ ν)) (rngD3 ds ν) := by
  rcases ds with _ | ⟨x, _ | ⟨y, _ | ⟨z, _ | ⟨u, l⟩⟩⟩⟩ <;> try trivial
  · cases x <;> trivial
  · cases x <;> try trivial
    cases y <;> trivial
  · cases x <;> try trivial
    cases y <;> try trivial
    cases z <;> try trivial
    unfold rngD3
    simp only [D.shL, D.sh]
    split
    · show _ = Out.ok (D.shL _ _) _
      rw [rngC_sh]
    · trivial
  · cases x <;> try trivial
    cases y <;> try trivial
    cases z <;> trivial
theorem fr_xiRng3 {f : XA} (hf : FrA f) : FrA (xiRng3 f) := fun μ r ν => (hf μ r ν).bind fun d ν1 => fr_rngD3 μ d ν1
theorem fr_xLstR {f : XA} (hf : FrA f) : FrE (xLstR f) := fun μ r ν => (hf μ r ν).bind fun xs ν1 => by
  show FrO μ (frzL (D.shL μ.length xs) (shM μ ν1)) (frzL xs ν1)
  unfold frzL
  rw [shL_len]
  split <;> trivial
theorem fr_xNewR {f : XA} (hf : FrA f) : FrE (xNewR f) := fun μ r ν => (hf μ r ν).bind fun xs ν1 => by
  show FrO μ (newL (D.shL μ.length xs) (shM μ ν1)) (newL xs ν1)
  unfold newL
  rw [shL_len, shM_len, inL_sh]
  split
  · exact congrArg (Out.ok _) (shM_app (.lst xs))
  · trivial
theorem shL_ints (k : Nat) (ns : List Int) : D.shL k (ns.map .int) = ns.map .int := by
  rw [shL_map, List.map_map]
  rfl
theorem fr_sortF : FrF sortF := fun μ ds ν => by
  rcases ds with _ | ⟨d, _ | ⟨e, l⟩⟩ <;> try trivial
  exact fr_lstq (k := fun m xs => match intsL xs with
      | some ns => .ok (D.lst ((sortI ns).map .int)) m
      | _ => .stuck) fun xs => by
    show FrO μ (match intsL (D.shL μ.length xs) with
      | some ns => Out.ok (D.lst ((sortI ns).map .int)) (shM μ ν)
      | _ => .stuck) _
    rw [ints_sh]
    cases intsL xs with
    | none => trivial
    | some ns =>
      show Out.ok _ _ = Out.ok (D.lst (D.shL _ _)) _
      rw [shL_ints]
theorem fr_lcG {g : XG} {tt : XT} {fi1 : XA} {vs1 : List Nat} {g1 : XG} {tt1 : XT} {te : XE'} (hg : FrG g) (ht : FrT tt) (hf : FrA fi1) (hg1 : FrG g1) (ht1 : FrT tt1) (he : FrE te) (μ : Mu) (n : Nat) (r0 : Rho) : ∀ (xs : List D) (ν : Mu), FrO μ (lcG g tt fi1 vs1 g1 tt1 te (μ.length + n) (shR μ.length r0) (D.shL μ.length xs) (shM μ ν)) (lcG g tt fi1 vs1 g1 tt1 te n r0 xs ν)
  | [], ν => rfl
  | x :: xs, ν => by
    rw [D.shL, lcG, lcG]
    refine (hg μ x r0 ν).ne.bind fun r1 ν1 => (ht μ r1 ν1).ne.bind fun b ν2 => ?_
    cases b
    · exact fr_lcG hg ht hf hg1 ht1 he μ n r0 xs ν2
    · refine (hf μ r1 ν2).ne.bind fun ys ν3 => ?_
      show FrO μ ((lcF g1 tt1 te (μ.length + n) (wipeR (shR μ.length r1) vs1) (D.shL μ.length ys) (shM μ ν3)).bind _) _
      rw [shR_wipe]
      exact (fr_lcF hg1 ht1 he μ n (wipeR r1 vs1) ys ν3).bind fun _ ν4 => fr_lcG hg ht hf hg1 ht1 he μ n r0 xs ν4
theorem fr_xLc2 {f : XA} {g : XG} {tt : XT} {fi1 : XA} {g1 : XG} {tt1 : XT} {te : XE'} (hf : FrA f) (vs : List Nat) (hg : FrG g) (ht : FrT tt) (hf1 : FrA fi1) (vs1 : List Nat) (hg1 : FrG g1) (ht1 : FrT tt1) (he : FrE te) : FrE (xLc2 f vs g tt fi1 vs1 g1 tt1 te) := fun μ r ν => (hf μ r ν).bind fun xs ν1 => by
  show FrO μ (lc2D g tt fi1 vs1 g1 tt1 te (wipeR (shR μ.length r) vs) (D.shL μ.length xs) (shM μ ν1)) (lc2D g tt fi1 vs1 g1 tt1 te (wipeR r vs) xs ν1)
  unfold lc2D
  rw [shR_wipe, shM_len]
  refine FrO.bind ?_ fun _ ν2 => fr_lcEnd ν1.length μ ν2
  have h := fr_lcG (vs1 := vs1) hg ht hf1 hg1 ht1 he μ ν1.length (wipeR r vs) xs (ν1 ++ [.lst []])
  rw [← shM_app] at h
  exact h
end DS

/-! # DSI: further rules. -/
namespace DS
open PySem PySem.Spec PyProof.Rows L2
variable {c : SC} {W : WX} {pos : Pos} {a b e : Expr} {fa fb : XE'} {fr : XA}
/-! ### xs[::-1] -/
def revD (d : D) (m : Mu) : Out D := match lstOf m d with
  | some xs => .ok (.lst xs.reverse) m
  | none => .stuck
def xRev (f : XE') : XE' := fun r m => (f r m).bind revD
theorem rpl_rev {K : PySem.W.Frag} {F : Hp} {al : List Addr} : ∀ {ds : List D} {vs : List V}, RpL K F al ds vs → RpL K F al ds.reverse vs.reverse
  | _, _, .nil => .nil
  | _, _, .cons r q => by
    rw [List.reverse_cons, List.reverse_cons]
    exact (rpl_rev q).snoc r
theorem de_rev {k : Nat} {p1 p2 p3 : Pos} (h : DE c W a fa) : DE c W (.Subscript a (.Slice none none (some (.UnaryOp .USub (.Constant (.int 1) k p1) p2)) p3) pos) (xRev fa) := by
  obtain ⟨t, h1, h2⟩ := h
  refine ⟨tRevL c.K t, fun y hy => pe_revL (X := c.cx y) (h1 y hy), fun r m σ H F al Q he hw p => ?_⟩
  refine h2 r m σ H F al _ he hw (Post.step p fun d m1 v H1 F1 al1 e1 w1 q1 p1 => ?_)
  unfold revD at p1
  split at p1
  · rename_i xs hx
    obtain ⟨q, vs, rfl, s, r⟩ := lstOf_ok w1 q1 hx
    exact ⟨q, vs, rfl, s, fun n hn => p1 _ _ (upd F1 n _) al1 (ext_new (w1.fnone hn)) (w1.new hn) (.lst upd_same ((rpl_rev r).up (ext_new (w1.fnone hn))))⟩
  · exact p1.elim
end DS

/-! # DSJ: global tuples, f-strings, str of an own object. -/
namespace DS
open PySem PySem.Spec PyProof.Rows L2
variable {c : SC} {W : WX} {pos : Pos} {a b e : Expr} {fa fb : XE'} {fr : XA}
/-! ### a tuple of the module -/
def flatIs : D → Value → Bool
  | .int i, .int j _ => decide (i = j)
  | .str x, .str y _ => decide (x = y)
  | .non, .none => true
  | .bl p, .bool q => decide (p = q)
  | _, _ => false
def flatsAre : List D → List Value → Bool
  | [], [] => true
  | d :: ds, v :: vs => flatIs d v && flatsAre ds vs
  | _, _ => false
def tupB (x : Str) (ds : List D) (K : PySem.W.Frag) : Bool := He.eqO (PySem.W.nsIn K mainGlobals x) (some (some (.ref (He.ga K x)))) && (match K.lookup (He.ga K x) with
  | some ⟨cl, _, .seq its _, _⟩ => decide (cl = .type "tuple") && (decide (its.size ≤ sizeLine) && flatsAre ds its.toList)
  | _ => false)
theorem flatIs_ok {K : PySem.W.Frag} {F : Hp} {al : List Addr} {d : D} {v : Value} (h : flatIs d v = true) : ∃ w, Rp K F al d w ∧ RelV w v := by
  unfold flatIs at h
  split at h
  · exact ⟨.int _, .int _, by rw [of_decide_eq_true h]; exact ⟨_, rfl⟩⟩
  · exact ⟨.str _, .str _, by rw [of_decide_eq_true h]; exact ⟨_, rfl⟩⟩
  · exact ⟨.non, .non, rfl⟩
  · exact ⟨.bl _, .bl _, by rw [of_decide_eq_true h]; rfl⟩
  · cases h
theorem flatsAre_ok {K : PySem.W.Frag} {F : Hp} {al : List Addr} : ∀ {ds : List D} {vs : List Value}, flatsAre ds vs = true → ∃ ws, RpL K F al ds ws ∧ Vals ws vs
  | [], [], _ => ⟨[], .nil, .nil⟩
  | d :: ds, v :: vs, h => by
    rw [flatsAre, Bool.and_eq_true] at h
    obtain ⟨w, h1, h2⟩ := flatIs_ok (K := K) (F := F) (al := al) h.1
    obtain ⟨ws, h3, h4⟩ := flatsAre_ok (K := K) (F := F) (al := al) h.2
    exact ⟨w :: ws, .cons h1 h3, .cons h2 h4⟩
  | [], _ :: _, h => by cases h
  | _ :: _, [], h => by cases h
theorem de_gtup {x : Str} {ds : List D} (h : tupB x ds c.K = true) (hm : c.mg x = some (.ref (He.ga c.K x))) (hg : c.sc.names.lookup x = some .globalImplicit := by rfl) (hd : (x == ("__debug__" : Str)) = false := by decide) : DE c W (.Name x pos) (xC (.tup ds)) := by
  obtain ⟨_, h2⟩ := He.ba h
  refine ⟨_, fun y hy => pe_glob (v := .ref (He.ga c.K x)) (hy.gl hg) hm rfl hd, fun _ _ _ H F al Q _ hw p => p _ H F al Le.refl hw ?_⟩
  split at h2
  · rename_i cl od its n sl e
    obtain ⟨h3, h4⟩ := He.ba h2
    obtain ⟨h5, h6⟩ := He.ba h4
    obtain ⟨ws, h7, h8⟩ := flatsAre_ok (K := c.K) (F := F) (al := al) h6
    exact .tup (.inr ⟨_, its, n, e, of_decide_eq_true h3, rfl, of_decide_eq_true h5, h8⟩) h7
  · cases h2
theorem tupB_glo {x : Str} {ds : List D} {K : PySem.W.Frag} (h : tupB x ds K = true) : PySem.W.nsIn K mainGlobals x = some (some (.ref (He.ga K x))) := He.eqO_ok (He.ba h).1

/-! ### tuple(range(..)) -/
def frzT (xs : List D) (m : Mu) : Out D := if xs.length ≤ 16777216 then .ok (.tup xs) m else .stuck
def xTupR (f : XA) : XE' := fun r m => (f r m).bind frzT
theorem frzT_ok {W' : XK} {F : Hp} {al : List Addr} {Q : VK} {m : Mu} {H : Hp} {xs : List D} {vs : List V} (w : Wd c.K F al m H) (q : RpL c.K F al xs vs) (p : Post c.K (RD c.K) W' F al Q (frzT xs m)) : xs.length ≤ 16777216 ∧ ∀ n, H n = none → Q (.ref n) (upd H n (.tup vs)) := by
  unfold frzT at p
  split at p
  · rename_i hl
    exact ⟨hl, fun n hn => p _ _ (upd F n _) al (ext_new (w.fnone hn)) (w.new hn) (.tup (.of upd_same) (q.up (ext_new (w.fnone hn))))⟩
  · exact p.elim
theorem de_tupR1 {p0 p1 pos1 : Pos} (hl : c.mg "tuple" = none) (hm : c.mg "range" = none) (h : DE c W a fa) (hgl : c.sc.names.lookup ("tuple" : Str) = some .globalImplicit := by rfl) (hg : c.sc.names.lookup ("range" : Str) = some .globalImplicit := by rfl)
    (ns : ∀ env, starEach [.Call (.Name "range" p1) [a] [] pos1] env = (false, eval (.Call (.Name "range" p1) [a] [] pos1) env) :: starEach [] env := by intro _; rfl) (hs : ∀ env, starEach [a] env = (false, eval a env) :: starEach [] env := by intro _; rfl) (hcm : c.calm = true := by rfl) :
    DE c W (.Call (.Name "tuple" p0) [.Call (.Name "range" p1) [a] [] pos1] [] pos) (xTupR (xiRng1 (xaCons fa xaNil))) := by
  obtain ⟨t, h1, h2⟩ := h
  refine ⟨tTupRg (tRg1 t), fun y hy => pe_tupRg (X := c.cx y) hcm (hy.gl hgl) hl (prg_1 (hy.gl hg) hm (h1 y hy) (hs _)) (ns _), fun r m σ H F al Q he hw p => ?_⟩
  unfold xTupR xiRng1 xaCons at p
  refine h2 r m σ H F al _ he hw (Post.step p.assoc.assoc fun d m1 v H1 F1 al1 e1 w1 q1 p1 => ?_)
  have p2 : Post c.K (RD c.K) (atS W σ) F1 al1 Q ((rngD1 [d] m1).bind frzT) := p1
  clear p1
  unfold rngD1 at p2
  split at p2
  · rename_i j e
    cases e
    cases q1
    split at p2
    · rename_i hb
      have q := frzT_ok w1 (rpl_ints (K := c.K) (F := F1) (al := al1) (fun i => 0 + (i : Int)) (List.range j.toNat)) p2
      rw [List.length_map, List.length_range] at q
      refine ⟨j, rfl, ⟨by omega, by omega, hb.1, hb.2, by omega⟩, fun n hn => ?_⟩
      have z := q.2 n hn
      unfold rgV
      rw [Int.sub_zero]
      exact z
    · exact p2.elim
  · exact p2.elim
theorem de_tupR2 {p0 p1 pos1 : Pos} (hl : c.mg "tuple" = none) (hm : c.mg "range" = none) (h : DE c W a fa) (h' : DE c W b fb) (hgl : c.sc.names.lookup ("tuple" : Str) = some .globalImplicit := by rfl) (hg : c.sc.names.lookup ("range" : Str) = some .globalImplicit := by rfl)
    (ns : ∀ env, starEach [.Call (.Name "range" p1) [a, b] [] pos1] env = (false, eval (.Call (.Name "range" p1) [a, b] [] pos1) env) :: starEach [] env := by intro _; rfl) (hs : ∀ env, starEach [a, b] env = (false, eval a env) :: starEach [b] env := by intro _; rfl) (hs2 : ∀ env, starEach [b] env = (false, eval b env) :: starEach [] env := by intro _; rfl) (hp : ∀ env, (backTo pos1 (starEach [b] env)).any (·.1) = false := by intro _; rfl) (hcm : c.calm = true := by rfl) :
    DE c W (.Call (.Name "tuple" p0) [.Call (.Name "range" p1) [a, b] [] pos1] [] pos) (xTupR (xiRng2 (xaCons fa (xaCons fb xaNil)))) := by
  obtain ⟨t, h1, h2⟩ := h
  obtain ⟨t', h3, h4⟩ := h'
  refine ⟨tTupRg (tRg2 t t'), fun y hy => pe_tupRg (X := c.cx y) hcm (hy.gl hgl) hl (prg_2 (hy.gl hg) hm (h1 y hy) (h3 y hy) (hs _) (hs2 _) (hp _)) (ns _), fun r m σ H F al Q he hw p => ?_⟩
  unfold xTupR xiRng2 xaCons at p
  refine h2 r m σ H F al _ he hw (Post.step p.assoc.assoc fun d m1 v H1 F1 al1 e1 w1 q1 p1 => ?_)
  have p3 : Post c.K (RD c.K) (atS W σ) F1 al1 Q ((fb r m1).bind fun z m2 => (rngD2 [d, z] m2).bind frzT) := by
    have z := p1.assoc
    cases hb : fb r m1 with
    | ok z' m2 => rw [hb] at z; exact z
    | exc _ _ _ => rw [hb] at z; exact z
    | stuck => rw [hb] at z; exact z
  refine h4 r m1 σ H1 F1 al1 _ (he.up e1) w1 (Post.step p3 fun d2 m2 v2 H2 F2 al2 e2 w2 q2 p2 => ?_)
  · have q1 := Rp.up e2 q1
    unfold rngD2 at p2
    split at p2
    · rename_i i j e
      cases e
      cases q1; cases q2
      split at p2
      · rename_i hb
        have q := frzT_ok w2 (rpl_ints (K := c.K) (F := F2) (al := al2) (fun n => i + (n : Int)) (List.range (j - i).toNat)) p2
        rw [List.length_map, List.length_range] at q
        exact ⟨i, j, rfl, rfl, ⟨hb.1, hb.2.1, hb.2.2.1, hb.2.2.2, by omega⟩, fun n hn => q.2 n hn⟩
      · exact p2.elim
    · exact p2.elim

/-! ### f-strings -/
def fmtD (d : D) (m : Mu) : Out D := match d with
  | .str y => if y.length ≤ sizeLine then .ok (.str y) m else .stuck
  | .int i => if i.natAbs.log2 < 1920 then .ok (.str (toString i)) m else .stuck
  | _ => .stuck
def xFmt (f : XE') : XE' := fun r m => (f r m).bind fmtD
theorem de_fmt (h : DE c W e fa) : DE c W (.FormattedValue e (-1) none pos) (xFmt fa) := by
  obtain ⟨t, h1, h2⟩ := h
  refine ⟨tFmt t, fun y hy => pe_fmt (X := c.cx y) (h1 y hy), fun r m σ H F al Q he hw p => ?_⟩
  refine h2 r m σ H F al _ he hw (Post.step p fun d m1 v H1 F1 al1 e1 w1 q1 p1 => ?_)
  unfold fmtD at p1
  split at p1
  · cases q1
    split at p1
    · rename_i hz
      exact .inl ⟨_, rfl, hz, p1 _ H1 F1 al1 Le.refl w1 (.str _)⟩
    · exact p1.elim
  · cases q1
    split at p1
    · rename_i hz
      exact .inr ⟨_, rfl, hz, p1 _ H1 F1 al1 Le.refl w1 (.str _)⟩
    · exact p1.elim
  · exact p1.elim
/-- the parts of an f-string, one behind the other -/
abbrev XJ := Str → Rho → Mu → Out Str
def xjNil : XJ := fun acc _ m => .ok acc m
def xjCons (f : XE') (g : XJ) : XJ := fun acc r m => (f r m).bind fun d m1 => match d with
  | .str y => if (acc ++ y).length ≤ sizeLine then g (acc ++ y) r m1 else .stuck
  | _ => .stuck
def RS : Hp → List Addr → Str → Str → Prop := fun _ _ a b => a = b
def DJ (c : SC) (W : WX) (es : List Expr) (f : XJ) : Prop := ∃ ts : List TE, (∀ y, OkD c W y → PJ (c.cx y) es ts) ∧
  ∀ acc r m σ H F al (Q : Str → Hp → Prop), EnvOk c.K F al r σ → Wd c.K F al m H → Post c.K RS (atS W σ) F al Q (f acc r m) → tJs ts acc σ H Q
theorem dj_nil : DJ c W [] xjNil := ⟨[], fun _ _ => .nil, fun acc r m σ H F al Q he hw p => p acc H F al Le.refl hw rfl⟩
theorem dj_cons {es : List Expr} {g : XJ} (h : DE c W e fa) (hs : DJ c W es g) : DJ c W (e :: es) (xjCons fa g) := by
  obtain ⟨t, h1, h2⟩ := h
  obtain ⟨ts, h3, h4⟩ := hs
  refine ⟨t :: ts, fun y hy => .cons (h1 y hy) (h3 y hy), fun acc r m σ H F al Q he hw p => ?_⟩
  refine h2 r m σ H F al _ he hw (Post.step p fun d m1 v H1 F1 al1 e1 w1 q1 p1 => ?_)
  split at p1
  · cases q1
    split at p1
    · rename_i hz
      exact ⟨_, rfl, hz, h4 _ r m1 σ H1 F1 al1 Q (he.up e1) w1 p1⟩
    · exact p1.elim
  · exact p1.elim
def xJoin (g : XJ) : XE' := fun r m => (g Str.empty r m).bind fun z m1 => .ok (.str z) m1
theorem de_joined {v1 v2 : Expr} {rest : List Expr} {g : XJ} (h : DJ c W (v1 :: v2 :: rest) g) : DE c W (.JoinedStr (v1 :: v2 :: rest) pos) (xJoin g) := by
  obtain ⟨ts, h1, h2⟩ := h
  refine ⟨_, fun y hy => pe_joined (X := c.cx y) (h1 y hy), fun r m σ H F al Q he hw p => ?_⟩
  refine h2 Str.empty r m σ H F al _ he hw (Post.step p fun z m1 z' H1 F1 al1 e1 w1 q1 p1 => ?_)
  cases q1
  exact p1 _ H1 F1 al1 Le.refl w1 (.str _)

/-! ### str(o) by the class's own __str__ -/
theorem call_strO {X : Cx} {CX : CXT} {C f : Addr} {fd : FuncData} {ps : List Str} {sp : Sp} {n : Nat} {E : XK} (F : FnOk X.prog X.w X.K X.mg X.base CX n f fd ps sp) (hs : PySem.W.findIn X.K (.ref C) "__str__" = some (some (.ref f))) (hf : PySem.W.isFn X.K (.ref f) = true) (hb : Binds X.K fd ps []) (hx : Passes CX X E) (hr : Room (n + 2) X.A) :
    CallR X (.type "str") (fun vs H Q => ∃ a dx fs, vs = [.ref a] ∧ H a = some (.ins C dx fs) ∧ sp [.ref a] H (fun v H' => (∃ y, v = .str y) ∧ Q v H') E) := by
  intro pins s σ H vs us Q I rv q
  obtain ⟨a, dx, fs, rfl, ha, hsp⟩ := q
  obtain ⟨u, rfl, ru⟩ := vals1 rv
  obtain rfl : u = Value.ref a := ru
  obtain ⟨mA, J, _⟩ := ins_get I.hok ha
  obtain ⟨od, J, _⟩ := J.look
  have hr1 : Room (n + 1) X.A.in1 := hr.in1
  have hr2 : Room n X.A.in1.in1 := hr1.in1
  refine PySem.W.kso_call hr2.units0 I.kIn J hs hf ?_
  have hl := F.len _ _ _ _ hsp
  have r2 : Vals [V.ref a] [Value.ref a] := .cons rfl .nil
  refine wpAny_call (codeAny_mono (F.run X.A.in1.in1 X.stack s H ⟨[.ref a], []⟩ [.ref a] [.ref a] _ E hr2 I.env0.in1.in1 (by
    have := hb s [.ref a] I.kIn (by simpa using hl)
    simpa using this) r2 hsp) fun r s' hq => ?_)
  cases r with
  | error e => exact hx pins σ H s e s' I hq
  | ok fl =>
    cases fl with
    | ret w =>
      obtain ⟨z, H', I', rz, ⟨y, ez⟩, ex⟩ := I.after hq
      subst ez
      obtain ⟨t, rfl⟩ := rz
      exact ⟨.str y, H', I', ⟨t, rfl⟩, ex⟩
    | next => exact False.elim hq
    | brk => exact False.elim hq
    | cont => exact False.elim hq
def strO (cn : Str) (G : Fn) (ds : List D) (m : Mu) : Out D := match ds with
  | [d] => (match insOf m d with
    | some (c', _) => if c' = cn then (match G [d] m with
      | .ok (.str y) m' => .ok (.str y) m'
      | _ => .stuck) else .stuck
    | none => .stuck)
  | _ => .stuck
theorem b_strO {cn : Str} {k : Nat} {f : Addr} {fd : FuncData} {ps : List Str} {G : Fn} (hF : FOk c k f fd ps G) (hm : Meth c.K (He.ga c.K cn) "__str__" f) (hb : Binds c.K fd ps []) (hr : k + 2 ≤ c.k := by exact Nat.le_of_ble_eq_true rfl) (hcm : c.calm = true := by rfl) (hl : 1 = ps.length := by rfl) : CallD c (.type "str") (strO cn G) := by
  refine ⟨_, fun W y hy => call_strO (X := c.cx y) (C := He.ga c.K cn) (E := fun _ _ _ => False) hF hm.at_ hm.fn hb (fun pins σ H s e s' I h => ?_) (hy.rm hcm hr), fun W ds m vs H F al Q hw r p => ?_⟩
  · obtain ⟨_, _, _, _, _, _, _, _, _, _, _, _, _, _, _, _, q⟩ := XE.of_call (W := fun _ _ _ _ => False) I (fun _ _ _ h => h) h
    exact q.elim
  · unfold strO at p
    split at p
    · cases r with
      | cons q1 r =>
      cases r
      split at p
      · rename_i c' gs hi
        obtain ⟨q, dx, fs, rfl, h1, h2⟩ := insOf_ok hw q1 hi
        split at p
        · rename_i hcl
          subst hcl
          refine ⟨q, dx, fs, rfl, h1, [_], m, F, al, hl, .cons q1 .nil, hw, ?_⟩
          split at p
          · rename_i y m' e
            rw [e]
            intro v H' F' al' e1 w1 r1
            cases r1
            exact ⟨⟨_, rfl⟩, p _ H' F' al' e1 w1 (.str _)⟩
          · exact p.elim
        · exact p.elim
      · exact p.elim
    · exact p.elim
end DS

/-! # XB: raise C(e) -/
namespace DS
open PySem PySem.Spec PyProof.Rows L2
/-- C(v) makes an exception with the one field f -/
structure MkX1 (b : Base) (cn f : Str) : Prop where
  kp : PySem.W.keepIn b.K (.ref (He.ga b.K cn)) = true
  exb : PySem.W.subIn b.K (.ref (He.ga b.K cn)) (.type "BaseException") = some true
  tyC : PySem.W.typeIn b.K (.ref (He.ga b.K cn)) = some (.type "type")
  call : ∀ (A : Around) (E : Value → Shared → Prop) (h : Heap) (g : Array GenState) (d : Drawn) (t : Nat) (os : OsState) (mb : Str → Option Value) (v : Value) (Q : Value → Shared → Prop), b.K.In h → h.Ns mainGlobals b.mg → h.Ns builtinsNs mb → mb "super" = some (.type "super") → h.NoLimit →
    (A.under (.builtin "type.__call__" ⟨[.ref (He.ga b.K cn), v], []⟩)).depth < recursionLimit →
    (∀ h' tk' dx t', (∀ b o, h.get? b = some o → h'.get? b = some o) → h.objs.size ≤ dx → dx ≠ h.objs.size + 1 → h'.get? (h.objs.size + 1) = some (PySem.W.excObj (He.ga b.K cn) t' (some dx) .none) → h'.Ns1 dx (fun y => if y = f then some v else none) → Q (.ref (h.objs.size + 1)) ⟨h', g, d, tk', os⟩) →
    wpAny (model b.P b.w) A (call (.ref (He.ga b.K cn)) [v]) Q E ⟨h, g, d, t, os⟩
/-- C() of a class without own __init__ -/
structure MkX0 (b : Base) (cn : Str) : Prop where
  kp : PySem.W.keepIn b.K (.ref (He.ga b.K cn)) = true
  exb : PySem.W.subIn b.K (.ref (He.ga b.K cn)) (.type "BaseException") = some true
  tyC : PySem.W.typeIn b.K (.ref (He.ga b.K cn)) = some (.type "type")
  call : ∀ (A : Around) (E : Value → Shared → Prop) (s : Shared) (Q : Value → Shared → Prop), b.K.In s.heap → (∀ h' e, Heap.MadeExcOf s.heap h' e (.ref (He.ga b.K cn)) [] → Q (.ref e) { s with heap := h' }) → wpAny (model b.P b.w) A (call (.ref (He.ga b.K cn)) []) Q E s
/-- what each of the three bases must have -/
structure BaseOk (B : String) : Prop where
  fb : ExcBaseFacts B (B ++ ".__new__") (B ++ ".__init__") (exTl B)
  kf : PySem.W.KxsFacts B (B ++ ".__init__")
  sf : StoreFacts B (exTl B) "object.__setattr__" "object"
theorem base_V : BaseOk "ValueError" := ⟨PySem.F.excBase_ValueError, PySem.W.kxs_ValueError, PySem.F.store_ValueError⟩
theorem base_L : BaseOk "LookupError" := ⟨PySem.F.excBase_LookupError, PySem.W.kxs_LookupError, PySem.F.store_LookupError⟩
theorem base_A : BaseOk "ArithmeticError" := ⟨PySem.F.excBase_ArithmeticError, PySem.W.kxs_ArithmeticError, PySem.F.store_ArithmeticError⟩
/-- __init__(self, f): super().__init__(); self.f = f -/
structure Ini1 (d : XiD) (ar : Arg) (p0 p1 p2 p3 p4 q0 q1 q2 q3 : Pos) : Prop where
  body : d.body = [.Expr (.Call (.Attribute (.Call (.Name "super" p0) [] [] p1) "__init__" p2) [] [] p3) p4, .Assign [.Attribute (.Name ar.arg q0) d.f q1] (.Name d.f q2) q3]
  hp : (d.params.posonlyargs ++ d.params.args).head? = some ar
  hks : d.scope.names.lookup ("super" : Str) = some .globalImplicit
  hkc : d.scope.names.lookup ("__class__" : Str) = some .free
  hka : d.scope.names.lookup ar.arg = some .local
  hkf : d.scope.names.lookup d.f = some .local
  hk : d.scope.kind = .function
  hcl : ∀ x ∈ d.scope.names, x.2 ≠ .cell
  hco : d.scope.isCoroutine = false
  hgen : d.scope.isGenerator = false
  hne : ar.arg ≠ d.f
  hd0 : (ar.arg == ("__debug__" : Str)) = false
  hd1 : (d.f == ("__debug__" : Str)) = false
  hi : ∀ (L fI cda cc : Addr), interactive (PySem.W.ksEnv d.qual d.scope L fI (.ref cda) cc) = false
  hsw : ∀ (L fI cda cc : Addr), swapsWith (.Name d.f q2) (some (.Attribute (.Name ar.arg q0) d.f q1)) q3.line (PySem.W.ksEnv d.qual d.scope L fI (.ref cda) cc) = pure false
  hev : ∀ (L fI cda cc : Addr), ∃ pl : Sem Bool, eval (.Call (.Attribute (.Call (.Name "super" p0) [] [] p1) "__init__" p2) [] [] p3) (PySem.W.ksEnv d.qual d.scope L fI (.ref cda) cc) = (do
      let ov ← attributeBase (.Call (.Name "super" p0) [] [] p1) "__init__" (PySem.W.ksEnv d.qual d.scope L fI (.ref cda) cc) (eval (.Call (.Name "super" p0) [] [] p1) (PySem.W.ksEnv d.qual d.scope L fI (.ref cda) cc))
      standAt p2.atName
      let (f, first) ← holding [ov] (getMethod ov "__init__" pl)
      callWith p3 f first (backTo p3 (starEach [] (PySem.W.ksEnv d.qual d.scope L fI (.ref cda) cc))) [])
  hbd : ∀ (s : Shared) (u w : Value) (body : List Stmt) (kV doc pm : Value) (an : Option Addr) (cdv ct : Value) (cc : Addr), BindsTo s (PySem.W.ksFn "__init__" d.qual d.params body d.scope .none kV doc pm an cdv ct cc) ⟨[u, w], []⟩ [(ar.arg, u), (d.f, w)]
theorem mkX1_of {L : Tl} {b : Base} {d : XiD} {ar : Arg} {p0 p1 p2 p3 p4 q0 q1 q2 q3 : Pos} (T : Tx L b) (h : XiOk L.file b.K d) (hB : BaseOk d.B) (hs : b.mg "super" = none) (I : Ini1 d ar p0 p1 p2 p3 p4 q0 q1 q2 q3) : MkX1 b d.cn d.f := by
  obtain ⟨hX, ht⟩ := h.xc hB.fb hB.kf hB.sf
  refine ⟨hX.kp, hX.exb, hX.tyC, fun A E h g dr t os mb v Q kI ns nb hmb lim hroom hq => ?_⟩
  rw [I.body] at hX
  exact xc_call1 hX kI ns hs nb hmb lim hroom I.hp T.fl T.sup I.hks I.hkc I.hka I.hkf I.hk I.hcl I.hco I.hgen I.hne I.hd0 I.hd1 ht (fun L => I.hi L _ _ _) (fun L => I.hsw L _ _ _) (fun L => I.hev L _ _ _) I.hbd hq
section
variable {c : SC} {W : WX} {pos pos' p0 : Pos} {e : Expr} {fe : XE'} {x cn f : Str}
theorem mk_fin {X : Cx} {pins : List (Addr × Obj)} {σ : L2.St} {H : Hp} {Q : XK} {s : Shared} {h' : Heap} {t' tk' dx C : Addr} {u : Value} {v : V} (I : Inv X pins σ H s) (r : Raises X (.ref C)) (rv : RelV v u)
    (k : ∀ b o, s.heap.get? b = some o → h'.get? b = some o) (hdx : s.heap.objs.size ≤ dx) (hne : dx ≠ s.heap.objs.size + 1) (he : h'.get? (s.heap.objs.size + 1) = some (PySem.W.excObj C t' (some dx) .none)) (hn : h'.Ns1 dx (fun y => if y = f then some u else none))
    (q : ∀ d, H d = none → Q (.ref C) (some d) (upd H d (.xd [(f, v)]))) : MkP X pins σ Q (.ref (s.heap.objs.size + 1)) { s with heap := h', toks := tk' } := by
  obtain ⟨G, g1, g2⟩ := restrict h' fun b => decide (b ≠ s.heap.objs.size + 1)
  have gk : ∀ b o, b ≠ s.heap.objs.size + 1 → h'.get? b = some o → G.get? b = some o := fun b o hb z => (g1 b (decide_eq_true hb)).trans z
  have gs : ∀ b o, G.get? b = some o → h'.get? b = some o := fun b o z => by
    by_cases hb : b = s.heap.objs.size + 1
    · rw [hb, g2 _ (decide_eq_false fun y => y rfl)] at z
      cases z
    · exact (g1 b (decide_eq_true hb)).symm.trans z
  have nd : H dx = none := I.hok.fresh hdx
  have kG : ∀ b o, s.heap.get? b = some o → G.get? b = some o := fun b o z => gk b o (Nat.ne_of_lt (Nat.lt_succ_of_lt (Heap.lt_size z))) (k b o z)
  have J := I.laid (t' := tk') (a := dx) (o := .xd [(f, v)]) (h' := G) kG hdx ⟨_, hn.at fun o z => gk dx o hne z, relO_put (fs := []) rv fun g => True.intro⟩
  refine ⟨_, _, _, { s with heap := G, toks := tk' }, _, .ref C, some dx, rfl, J, gs, g2 _ (decide_eq_false fun y => y rfl), he, ⟨rfl, rfl⟩, rfl, rfl, ?_, rfl, I.bare, r, q dx nd⟩
  rw [upd_ne (Ne.symm hne)]
  exact I.hok.fresh (Nat.le_succ _)
theorem pmk_x1 {X : Cx} {ta : TE} {b : Base} (e1 : X.prog = b.P) (e2 : X.w = b.w) (e3 : X.K = b.K) (e4 : X.mg = b.mg) (M : MkX1 b cn f) (hs : b.mg "super" = none) (hr : Room 1 X.A) (hg : Gl X x) (gC : X.mg x = some (.ref (He.ga b.K cn))) (ha : PE X e ta)
    (hst : starEach [e] X.env = (false, eval e X.env) :: starEach [] X.env := by rfl) (hdb : (x == ("__debug__" : Str)) = false := by decide) :
    PMk X (.Call (.Name x p0) [e] [] pos) (fun σ H Q => ta σ H fun v H1 => ∀ d, H1 d = none → Q (.ref (He.ga b.K cn)) (some d) (upd H1 d (.xd [(f, v)]))) := by
  intro pins s σ H Q I h
  refine wpAny_Call_Name_kw (ld_glob I hg gC ?_ hdb)
  refine PySem.W.callWith_K (h₀ := X.base) I.ok.mod.kin (by rw [e3]; exact M.kp) ?_ hst (by rfl)
  rw [hst]
  show wpAny _ _ (spliced ((false, eval e X.env) :: backTo pos (starEach [] X.env))) _ _ s
  refine Calls.spliced_cons (thn (ha.run pins s σ H _ I h) fun u s1 ⟨v, H1, I1, r1, q1⟩ => ?_)
  refine Calls.spliced_nil ⟨I1.kIn, ?_⟩
  show wpAny _ _ (call (.ref (He.ga b.K cn)) [u]) _ _ _
  obtain ⟨mb, hb1, hb2⟩ := I1.mod.blt
  have hsup : mb "super" = some (.type "super") := (hb2 _ (by decide)).trans (by decide +kernel)
  have kIn : b.K.In s1.heap := by rw [← e3]; exact I1.kIn
  have ns : s1.heap.Ns mainGlobals b.mg := by rw [← e4]; exact I1.mod.glob.keeps I1.bk
  have rs : Raises X (.ref (He.ga b.K cn)) := raises_own (by rw [e3]; exact M.exb) (by rw [e3]; exact M.tyC)
  have lim : s1.heap.NoLimit := I1.nolimit
  obtain ⟨h1, g1, d1, t1, os1⟩ := s1
  rw [e1, e2]
  refine M.call _ _ h1 g1 d1 t1 os1 mb u _ kIn ns (hb1.keeps I1.bk) hsup lim ?_ fun h' tk' dx t' k hdx hne he hn => mk_fin I1 rs r1 k hdx hne he hn q1
  exact (hr.make (He.ga b.K cn) [u] []).depth
def sRaise (cn f : Str) (a : XE') : XS := fun r m => (a r m).stm r fun d m1 => .exc cn [(f, d)] r m1
theorem ds_raise1 (M : MkX1 c.toB cn f) (hs : c.mg "super" = none) (gC : c.mg x = some (.ref (He.ga c.K cn))) (ha : DE c W e fe) (hr : 1 ≤ c.k := by exact Nat.le_of_ble_eq_true rfl) (hcm : c.calm = true := by rfl) (hg : c.sc.names.lookup x = some .globalImplicit := by rfl)
    (hdb : (x == ("__debug__" : Str)) = false := by decide) (hst : ∀ env, starEach [e] env = (false, eval e env) :: starEach [] env := by intro _; rfl) : DSt c W (.Raise (some (.Call (.Name x p0) [e] [] pos)) none pos') (sRaise cn f fe) := by
  obtain ⟨t, a1, a2⟩ := ha
  refine ⟨_, fun y hy => ps_raise (X := c.cx y) hcm hy.takes (pmk_x1 (X := c.cx y) (b := c.toB) rfl rfl rfl rfl M hs (hy.rm hcm hr) (hy.gl hg) gC (a1 y hy) (hst _) hdb), fun ρ m σ H F al E he hw p => ?_⟩
  refine a2 ρ m σ H F al _ he hw (PostS.step he p fun d m1 v H1 F1 al1 e1 w1 q1 p1 => fun dd hdd => ?_)
  exact p1 (some dd) σ (upd H1 dd _) (upd F1 dd _) al1 [(f, v)] (ext_new (w1.fnone hdd)) (w1.new hdd) ((he.up e1).up (ext_new (w1.fnone hdd))) (.cons (q1.up (ext_new (w1.fnone hdd))) .nil) (.inr ⟨dd, rfl, upd_same⟩)
/-- .. C() -/
theorem pmk_x0 {X : Cx} {b : Base} (e1 : X.prog = b.P) (e2 : X.w = b.w) (e3 : X.K = b.K) (M : MkX0 b cn) (hg : Gl X x) (gC : X.mg x = some (.ref (He.ga b.K cn))) (hdb : (x == ("__debug__" : Str)) = false := by decide) :
    PMk X (.Call (.Name x p0) [] [] pos) (fun _ H Q => Q (.ref (He.ga b.K cn)) none H) := by
  intro pins s σ H Q I h
  refine wpAny_Call_Name_kw (ld_glob I hg gC ?_ hdb)
  refine PySem.W.callWith_K0 I.kIn (show PySem.W.keepIn X.K (.ref (He.ga b.K cn)) = true by rw [e3]; exact M.kp) ?_
  show wpAny _ _ (call (.ref (He.ga b.K cn)) []) _ _ _
  rw [e1, e2]
  refine M.call _ _ s _ (by rw [← e3]; exact I.kIn) fun h' a hm => ?_
  exact mk_of I hm (raises_own (by rw [e3]; exact M.exb) (by rw [e3]; exact M.tyC)) h (I.hok.gone hm.new)
def sRaise0 (cn : Str) : XS := fun r m => .exc cn [] r m
theorem ds_raise0 (M : MkX0 c.toB cn) (gC : c.mg x = some (.ref (He.ga c.K cn))) (hcm : c.calm = true := by rfl) (hg : c.sc.names.lookup x = some .globalImplicit := by rfl)
    (hdb : (x == ("__debug__" : Str)) = false := by decide) : DSt c W (.Raise (some (.Call (.Name x p0) [] [] pos)) none pos') (sRaise0 cn) := by
  refine ⟨_, fun y hy => ps_raise (X := c.cx y) hcm hy.takes (pmk_x0 (X := c.cx y) (b := c.toB) rfl rfl rfl M (hy.gl hg) gC hdb), fun ρ m σ H F al E he hw p => ?_⟩
  exact p none σ H F al [] Le.refl hw he .nil (.inl ⟨rfl, rfl⟩)
end
end DS

/-! # XC: try, any clauses -/
namespace DS
open PySem PySem.Spec PyProof.Rows L2
theorem fly_kept {B G G' : Heap} {fr : List Env} {x : Addr} {Z : Obj → Prop} (k : ∀ b o, G.get? b = some o → G'.get? b = some o) (fl : HandSPX.FlyingZ B fr x Z G) : HandSPX.FlyingZ B fr x Z G' := by
  obtain ⟨y1, y2, y3, oe, vs, T, oT, us, z1, z2, z3, z4, z5, z6, z7, z8⟩ := fl
  exact ⟨fun b o q => k b o (y1 b o q), y2, y3.of_keeps fun b o q _ => ⟨o, k b o q, rfl⟩, oe, vs, T, oT, us, k _ _ z1, z2, z3, z4, z5, z6, k _ _ z7, z8⟩
/-- the test of a clause: t names the classes, an exception of the class cl is met or not -/
def Tst (X : Cx) (t : Expr) (cl : Value) (yes : Bool) : Prop := ∀ (x : Addr) (pn pins : List (Addr × Obj)) (σ : L2.St) (H : Hp) (s : Shared) (Q : Bool → Shared → Prop) (E : Value → Shared → Prop), Inv (X.suite x pn) pins σ H s → PySem.W.Looks (model X.prog X.w) s.heap (typeOf (.ref x)) cl →
  (∀ G, (∀ b o, s.heap.get? b = some o → G.get? b = some o) → Q yes { s with heap := G }) → wpAny (model X.prog X.w) (X.A.mark (some (.ref x))) (eval t X.env) (fun c s1 => wpAny (model X.prog X.w) (X.A.mark (some (.ref x))) (excMatches (.ref x) c) Q E s1) E s
abbrev TSu := Addr → Obj → Value → Option Addr → TS
abbrev Hd1 := (Value → Option Bool) × Option Nat × TSu
def unS (i : Nat) (D : Ends) : Ends := { nx := fun σ H => D.nx (σ.set i none) H, rt := D.rt, bk := fun σ H => D.bk (σ.set i none) H, ct := fun σ H => D.ct (σ.set i none) H }
def wX (Wo : WX) (D : Ends) : List Hd1 → WX
  | [] => Wo
  | (tst, oi, ts) :: r => fun cl d σ H => ∃ yes, tst cl = some yes ∧ (yes = true → ∀ (x : Addr) (ob : Obj), H x = none → Zc cl d ob → (∃ vs, ob.data = .fields vs) → match oi with
      | none => ts x ob cl d D σ H
      | some i => ts x ob cl d (unS i D) (σ.set i (some (.ref x))) H) ∧ (yes = false → wX Wo D r cl d σ H)
inductive HdX (X : Cx) : List ExceptHandler → List Hd1 → Prop
  | nil : HdX X [] []
  | plain {t : Expr} {tst : Value → Option Bool} {ts : TSu} {st : Stmt} {sts : List Stmt} {pos : Pos} {hs : List ExceptHandler} {l : List Hd1} (ht : ∀ cl yes, tst cl = some yes → Tst X t cl yes)
      (hsu : ∀ (x : Addr) (ob : Obj) (cl : Value) (d : Option Addr) (pn : List (Addr × Obj)), Zc cl d ob → (∃ vs, ob.data = .fields vs) → PSs (X.suite x ((x, ob) :: pn)) (st :: sts) (ts x ob cl d)) (r : HdX X hs l) :
      HdX X (.ExceptHandler (some t) none (st :: sts) pos :: hs) ((tst, none, ts) :: l)
  | named {t : Expr} {n : Str} {i : Nat} {tst : Value → Option Bool} {ts : TSu} {st : Stmt} {sts : List Stmt} {pos : Pos} {hs : List ExceptHandler} {l : List Hd1} (ht : ∀ cl yes, tst cl = some yes → Tst X t cl yes) (hN : X.N.Nodup) (hi : X.N[i]? = some n) (hl : X.env.kindOf n = some .local)
      (hsu : ∀ (x : Addr) (ob : Obj) (cl : Value) (d : Option Addr) (pn : List (Addr × Obj)), Zc cl d ob → (∃ vs, ob.data = .fields vs) → PSs (X.suite x ((x, ob) :: pn)) (st :: sts) (ts x ob cl d)) (r : HdX X hs l) :
      HdX X (.ExceptHandler (some t) (some n) (st :: sts) pos :: hs) ((tst, some i, ts) :: l)
section
variable {X : Cx} {body : List Stmt} {h1 : ExceptHandler} {hs : List ExceptHandler} {l : List Hd1} {pos : Pos} {tb : WX → TS} {Wo : WX}
theorem ps_tryX (hst : X.stack = X.env :: X.outer) (hfr : X.env.frame = some X.env.locals) (tk : Takes X Wo)
    (hb : ∀ (W : WX) (pn : List (Addr × Obj)) (xe : Value → Shared → Prop), Takes (X.tr pn xe) W → PassesOwn (model X.prog X.w) X.A X.env xe → (∀ q ∈ X.pn, q ∈ pn) → PSs (X.tr pn xe) body (tb W))
    (hh : HdX X (h1 :: hs) l) : PS X (.Try body (h1 :: hs) [] [] pos) (fun D σ H => tb (wX Wo D l) D σ H) := by
  refine ⟨fun pins s σ H D I h => ?_⟩
  have okX := I.ok
  have hfrs : X.A.frames = some (X.env :: X.outer) := okX.frames.trans (by rw [hst])
  refine wpAny_Try_except (wpAny_mono ((hb (wX Wo D l) (X.pn ++ pins) (fun e s1 => wpAny (model X.prog X.w) X.A (noteFrame e X.env) (fun _ s2 => wpAny (model X.prog X.w) X.A (setFlight e none)
    (fun _ s3 => wpAny (model X.prog X.w) X.A (handleBy e X.env (h1 :: hs)) (SP X pins D) X.xe s3) X.xe s2) X.xe s1) (fun u s' fl => ?_) PassesOwn.looking fun q hq => List.mem_append_left _ hq).run [] s σ H D (I.toTry _) h) (fun f s1 q => ?_) (fun _ _ q => q))
  · obtain ⟨x, B, sI, pins', σ1, H1, cl, d, rfl, J', nb, up, sky, nx, os, ag, wish⟩ := fl
    have J : Inv X pins σ1 H1 sI := J'.ofTry okX
    rw [hst] at sky
    show wpAny (model X.prog X.w) X.A (noteFrame (.ref x) X.env) _ _ _
    refine Sky.land Zc.steady hfrs hfr sky fun G0 fl0 up0 => ?_
    obtain ⟨ob0, vs0, ho0, hz0, hd0⟩ := fl0.there
    have away : x ∉ frs (X.env :: X.outer) := fun hm => by
      obtain ⟨_, o', e', hnf⟩ := fl0.2.2.1.mem hm
      rw [ho0] at e'
      cases e'
      exact hnf _ hd0
    have nL : x ≠ X.env.locals := fun z => away (List.mem_filterMap.mpr ⟨X.env, List.mem_cons_self, hfr.trans (by rw [z])⟩)
    have nF : x ∉ X.fs := fun hm => by
      obtain ⟨e, he, q⟩ := List.mem_filterMap.mp hm
      exact away (List.mem_filterMap.mpr ⟨e, List.mem_cons_of_mem _ he, q⟩)
    have go : ∀ {hs' : List ExceptHandler} {l' : List Hd1}, HdX X hs' l' → ∀ G, HandSPX.FlyingZ B (X.env :: X.outer) x (Zc cl d) G → s'.heap.UpToSlots G → wX Wo D l' cl d σ1 H1 →
        wpAny (model X.prog X.w) X.A (handleBy (.ref x) X.env hs') (SP X pins D) X.xe { s' with heap := G } := by
      intro hs' l' hk
      have ready : ∀ {t : Expr} {tst : Value → Option Bool} {yes : Bool} {Q : Bool → Shared → Prop} {E : Value → Shared → Prop} (G : Heap), HandSPX.FlyingZ B (X.env :: X.outer) x (Zc cl d) G → s'.heap.UpToSlots G → (∀ cl yes, tst cl = some yes → Tst X t cl yes) → tst cl = some yes →
          (∀ G', HandSPX.FlyingZ B (X.env :: X.outer) x (Zc cl d) G' → s'.heap.UpToSlots G' → Q yes { s' with heap := G' }) →
          wpAny (model X.prog X.w) (X.A.mark (some (.ref x))) (eval t X.env) (fun c s1 => wpAny (model X.prog X.w) (X.A.mark (some (.ref x))) (excMatches (.ref x) c) Q E s1) E { s' with heap := G } := by
        intro t tst yes Q E G fl upG ht hy hq
        obtain ⟨ob, vs, ho, hz, hd⟩ := fl.there
        have JG : Inv X pins σ1 H1 { s' with heap := G } := J.landed nb fl.1 (up.trans upG) os ag
        refine ht cl yes hy x _ _ σ1 H1 { s' with heap := G } Q E (JG.suite ho hd nx nL nF) (fun A Q E s k q => wpAny_typeOf_ref (k _ _ ho) (by rw [hz.1]; exact q)) fun G' k => ?_
        exact hq G' (fly_kept k fl) (upG.trans (Heap.UpToSlots.of_keeps k))
      have miss : ∀ {hs2 : List ExceptHandler} (G : Heap), wpAny (model X.prog X.w) X.A (handleBy (.ref x) X.env hs2) (SP X pins D) X.xe { s' with heap := G } → wpAny (model X.prog X.w) X.A (handleBy (.ref x) X.env hs2) (SP X pins D) X.xe { s' with heap := G } := fun _ q => q
      induction hk with
      | nil =>
        intro G fl upG w
        obtain ⟨j1, j2, j3, ob, vs, T, oT, us, ho, hz, hd, h1', hr⟩ := id fl
        refine wpAny_handleBy_nil ?_
        unfold PySem.passOn
        refine wpAny_bind (wpAny_field ho hd h1' ?_)
        rw [if_neg (show ¬ ((Value.ref T == Value.none) = true) by simp)]
        have away' : wpAny (model X.prog X.w) X.A (setFlight (.ref x) X.env.frame) (fun _ s4 => wpAny (model X.prog X.w) X.A (throw (.ref x) : Sem Flow) (SP X pins D) X.xe s4) X.xe { s' with heap := G } := by
          rw [hfr]
          refine HandSPX.setFlight_upZ fl fun G4 held up4 => wpAny_throw (tk _ _ ⟨x, B, sI, pins, σ1, H1, cl, d, rfl, J, nb, (up.trans upG).trans up4, .inr (.inr ?_), nx, os, ag, w⟩)
          rw [hst]
          exact held
        first
          | exact wpAny_bind away'
          | exact wpAny_bind (wpAny_pure (wpAny_bind away'))
      | @plain t tst ts st sts pos' hs2 l2 ht hsu r ih =>
        intro G fl upG w
        obtain ⟨yes, hy, hyes, hno⟩ := w
        refine wpAny_handleBy_cons (codeAny_handlers_test (ready G fl upG ht hy fun G1 fl1 up1 => ?_)) (by intro q; cases q)
        cases yes with
        | false => exact ih G1 fl1 up1 (hno rfl)
        | true =>
          refine codeAny_handlers_suite (HandSPX.lands_againZ fl1 fun G2 fl2 up2 => ?_)
          obtain ⟨ob, vs, ho, hz, hd⟩ := fl2.there
          have J2 : Inv X pins σ1 H1 { s' with heap := G2 } := J.landed nb fl2.1 ((up.trans up1).trans up2) os ag
          refine wpAny_mono ((hsu x ob cl d (X.pn ++ pins) hz ⟨_, hd⟩).run [] _ _ H1 _ (J2.suite ho hd nx nL nF) (hyes rfl x ob nx hz ⟨_, hd⟩)) (fun f s6 q6 => ?_) (fun _ _ z => False.elim z)
          cases f with
          | ret u => exact let ⟨_, _, _, S6, r6, y6⟩ := q6; ⟨_, _, _, S6.unsuite okX, r6, y6⟩
          | next => exact let ⟨_, _, S6, y6⟩ := q6; ⟨_, _, S6.unsuite okX, y6⟩
          | brk => exact let ⟨_, _, S6, y6⟩ := q6; ⟨_, _, S6.unsuite okX, y6⟩
          | cont => exact let ⟨_, _, S6, y6⟩ := q6; ⟨_, _, S6.unsuite okX, y6⟩
      | @named t n i tst ts st sts pos' hs2 l2 ht hN hi hl hsu r ih =>
        intro G fl upG w
        obtain ⟨yes, hy, hyes, hno⟩ := w
        refine wpAny_handleBy_cons (codeAny_handlers_test (ready G fl upG ht hy fun G1 fl1 up1 => ?_)) (by intro q; cases q)
        cases yes with
        | false => exact ih G1 fl1 up1 (hno rfl)
        | true =>
          refine codeAny_handlers_suite_as (HandSPX.lands_againZ fl1 fun G2 fl2 up2 => ?_)
          obtain ⟨ob, vs, ho, hz, hd⟩ := fl2.there
          have J2 : Inv X pins σ1 H1 { s' with heap := G2 } := J.landed nb fl2.1 ((up.trans up1).trans up2) os ag
          refine store_ok (X := X.suite x ((x, ob) :: (X.pn ++ pins))) (v := .ref x) (J2.suite ho hd nx nL nF) hN hi (.inl hl) rfl (fun s5 S5 => ?_) (.inr hl)
          refine wpAny_mono ((hsu x ob cl d (X.pn ++ pins) hz ⟨_, hd⟩).run [] s5 _ H1 _ S5 (hyes rfl x ob nx hz ⟨_, hd⟩)) (fun f s6 q6 => ?_) (fun _ _ z => False.elim z)
          have out : ∀ {σ6 : L2.St} {H6 : Hp} {Q : Shared → Prop}, Inv (X.suite x ((x, ob) :: (X.pn ++ pins))) [] σ6 H6 s6 → (∀ s7, Inv X pins (σ6.set i none) H6 s7 → Q s7) →
              wpAny (model X.prog X.w) X.A (do bindName X.env n .none; unbindBehindTheSuite X.env n pos') (fun _ s7 => Q s7) X.xe s6 := fun S6 q => gone_ok (S6.unsuite okX) hN hi hl q
          cases f with
          | ret u => exact let ⟨_, _, _, S6, r6, y6⟩ := q6; out S6 fun s7 J7 => ⟨_, _, _, J7, r6, y6⟩
          | next => exact let ⟨_, _, S6, y6⟩ := q6; out S6 fun s7 J7 => ⟨_, _, J7, y6⟩
          | brk => exact let ⟨_, _, S6, y6⟩ := q6; out S6 fun s7 J7 => ⟨_, _, J7, y6⟩
          | cont => exact let ⟨_, _, S6, y6⟩ := q6; out S6 fun s7 J7 => ⟨_, _, J7, y6⟩
    exact go hh G0 fl0 up0 wish
  · cases f with
    | next => exact let ⟨_, _, J, y⟩ := q; wpAny_execs_nil ⟨_, _, J.ofTry okX, y⟩
    | brk => exact let ⟨_, _, J, y⟩ := q; ⟨_, _, J.ofTry okX, y⟩
    | cont => exact let ⟨_, _, J, y⟩ := q; ⟨_, _, J.ofTry okX, y⟩
    | ret u => exact let ⟨_, _, _, J, r, y⟩ := q; ⟨_, _, _, J.ofTry okX, r, y⟩
end
end DS

/-! # XD: try over data; what a suite does with the exception -/
namespace DS
open PySem PySem.Spec PyProof.Rows L2
/-! ### the table of the exception classes: own ancestors (itself too), built-in ones -/
abbrev ExT := List (Str × List Str × List String)
def ExT.own (T : ExT) (c d : Str) : Bool := match T.lookup c with
  | some (a, _) => a.contains d
  | none => false
def ExT.blt (T : ExT) (c : Str) (n : String) : Bool := match T.lookup c with
  | some (_, a) => a.contains n
  | none => false
abbrev ExT.nm (T : ExT) : List Str := T.map (·.1)
structure XtOk (K : PySem.W.Frag) (T : ExT) (fs : List Str) (bs : List String) : Prop where
  exm : ∀ c ∈ T.nm, ∀ d ∈ T.nm, PySem.W.exmOne K (.ref (He.ga K c)) (.ref (He.ga K d)) = some (T.own c d)
  kit : ∀ c ∈ T.nm, ∀ d ∈ T.nm, PySem.W.kitOne K (.ref (He.ga K c)) (.ref (He.ga K d)) = some (T.own c d)
  ktb : ∀ c ∈ T.nm, ∀ n ∈ bs, PySem.W.kitOne K (.ref (He.ga K c)) (.type n) = some (T.blt c n)
  xf : ∀ c ∈ T.nm, XfC K (He.ga K c)
  fld : ∀ c ∈ T.nm, ∀ f ∈ fs, PySem.W.findIn K (.ref (He.ga K c)) f = some none
  ha : ∀ c ∈ T.nm, PySem.W.findIn K (.ref (He.ga K c)) "__class__" = some (some (.builtin "object.__class__"))
  hm : ∀ c ∈ T.nm, PySem.W.mroIn K (He.ga K c) (.type "object") = some true
  hn : PySem.W.specialIn K (.builtin "object.__class__") "__get__" = some (some (.builtin "getset_descriptor.__get__"))
  ht : PySem.W.takesIn K (.builtin "object.__class__") = some true
def xtB (T : ExT) (fs : List Str) (bs : List String) (K : PySem.W.Frag) : Bool :=
  (T.nm.all fun c => T.nm.all fun d => decide (PySem.W.exmOne K (.ref (He.ga K c)) (.ref (He.ga K d)) = some (T.own c d))) && ((T.nm.all fun c => T.nm.all fun d => decide (PySem.W.kitOne K (.ref (He.ga K c)) (.ref (He.ga K d)) = some (T.own c d))) &&
  ((T.nm.all fun c => bs.all fun n => decide (PySem.W.kitOne K (.ref (He.ga K c)) (.type n) = some (T.blt c n))) && ((T.nm.all fun c => xfB K (He.ga K c)) && ((T.nm.all fun c => fs.all fun f => decide (PySem.W.findIn K (.ref (He.ga K c)) f = some none)) &&
  ((T.nm.all fun c => decide (PySem.W.findIn K (.ref (He.ga K c)) "__class__" = some (some (.builtin "object.__class__")))) && ((T.nm.all fun c => decide (PySem.W.mroIn K (He.ga K c) (.type "object") = some true)) &&
  (decide (PySem.W.specialIn K (.builtin "object.__class__") "__get__" = some (some (.builtin "getset_descriptor.__get__"))) && decide (PySem.W.takesIn K (.builtin "object.__class__") = some true))))))))
theorem xtB_ok {T : ExT} {fs : List Str} {bs : List String} {K : PySem.W.Frag} (h : xtB T fs bs K = true) : XtOk K T fs bs := by
  obtain ⟨h1, h⟩ := He.ba h
  obtain ⟨h2, h⟩ := He.ba h
  obtain ⟨h3, h⟩ := He.ba h
  obtain ⟨h4, h⟩ := He.ba h
  obtain ⟨h5, h⟩ := He.ba h
  obtain ⟨h6, h⟩ := He.ba h
  obtain ⟨h7, h⟩ := He.ba h
  obtain ⟨h8, h9⟩ := He.ba h
  exact ⟨fun c hc d hd => of_decide_eq_true (List.all_eq_true.mp (List.all_eq_true.mp h1 c hc) d hd), fun c hc d hd => of_decide_eq_true (List.all_eq_true.mp (List.all_eq_true.mp h2 c hc) d hd),
    fun c hc n hn => of_decide_eq_true (List.all_eq_true.mp (List.all_eq_true.mp h3 c hc) n hn), fun c hc => xfB_ok (List.all_eq_true.mp h4 c hc), fun c hc f hf => of_decide_eq_true (List.all_eq_true.mp (List.all_eq_true.mp h5 c hc) f hf),
    fun c hc => of_decide_eq_true (List.all_eq_true.mp h6 c hc), fun c hc => of_decide_eq_true (List.all_eq_true.mp h7 c hc), of_decide_eq_true h8, of_decide_eq_true h9⟩
/-! ### the context of a suite -/
def SC.hot (c : SC) (k : Hx) (ob : Obj) : SC := { c with calm := false, hx := some (k, ob), me := none }
def hotD (y : Dyn) (x : Addr) (pn : List (Addr × Obj)) : Dyn := { y with A := y.A.mark (some (.ref x)), pn := pn, xe := fun _ _ => False }
theorem OkD.hot {c : SC} {W : WX} {y : Dyn} {k : Hx} {ob : Obj} {pn : List (Addr × Obj)} (hy : OkD c W y) (hm : (k.x, ob) ∈ pn) (h1 : ob.cls = .ref (He.ga c.K k.c)) (h2 : ob.dict = k.dd) (h3 : ∃ vs, ob.data = .fields vs) : OkD (c.hot k ob) noW (hotD y k.x pn) := by
  refine ⟨hy.scope, ⟨hy.room.dp, hy.room.un⟩, (fun z => Bool.noConfusion (show false = true from z)), ?_, hy.fn, hy.gd, PassesOwn.never, (fun k' ob' e => ?_), hy.df, fun _ z => nomatch z⟩
  · rintro u s' ⟨a, B, sI, pins, σ, H, cls, d, e, I, nb, up, sky, na, os, ag, w⟩
    exact w.elim
  · have e' : (k, ob) = (k', ob') := Option.some.inj e
    cases e'
    exact ⟨hm, h1, h2, h3⟩
/-! ### outcomes of suites -/
def SO.ne : SO → SO
  | .exc _ _ _ _ => .stuck
  | o => o
def SO.un (i : Nat) : SO → SO
  | .next r m => .next (r.set i none) m
  | .brk r m => .brk (r.set i none) m
  | .cont r m => .cont (r.set i none) m
  | .ret d m => .ret d m
  | .exc _ _ _ _ => .stuck
  | .stuck => .stuck
abbrev HdF := List Str × Option Nat × (Hx → XS)
def tryH (T : ExT) (c : Str) (fs : List (Str × D)) (r : Rho) (m : Mu) : List HdF → SO
  | [] => .exc c fs r m
  | (cns, oi, fh) :: l => if c ∈ T.nm then (if cns.any (T.own c) then (match oi with
      | none => (fh ⟨0, none, c⟩ r m).ne
      | some i => (fh ⟨0, none, c⟩ (r.set i (some (.exn ⟨0, none, c⟩ fs))) m).un i) else tryH T c fs r m l) else .stuck
def sTry (T : ExT) (body : XS) (l : List HdF) : XS := fun r m => match body r m with
  | .exc c fs r' m' => tryH T c fs r' m' l
  | o => o
/-- the suite does not look where the exception lies -/
def IvN (fh : Hx → XS) : Prop := ∀ (k k' : Hx) (r : Rho) (m : Mu), k.c = k'.c → (fh k r m).ne = (fh k' r m).ne
def IvE (i : Nat) (fh : Hx → XS) : Prop := ∀ (k k' : Hx) (fs : List (Str × D)) (r : Rho) (m : Mu), k.c = k'.c → (fh k (r.set i (some (.exn k fs))) m).un i = (fh k' (r.set i (some (.exn k' fs))) m).un i
/-- t names the classes cns -/
def CtOk (c : SC) (T : ExT) (t : Expr) (cns : List Str) : Prop := ∃ tst : Value → Option Bool, (∀ (W : WX) (y : Dyn), OkD c W y → ∀ cl yes, tst cl = some yes → Tst (c.cx y) t cl yes) ∧ ∀ n ∈ T.nm, tst (.ref (He.ga c.K n)) = some (cns.any (T.own n))
inductive DHs (c : SC) (T : ExT) : List ExceptHandler → List HdF → Prop
  | nil : DHs c T [] []
  | plain {t : Expr} {cns : List Str} {fh : Hx → XS} {st : Stmt} {sts : List Stmt} {pos : Pos} {hs : List ExceptHandler} {l : List HdF} (ht : CtOk c T t cns) (hf : ∀ k ob, DSs (c.hot k ob) noW (st :: sts) (fh k)) (hi : IvN fh) (r : DHs c T hs l) :
      DHs c T (.ExceptHandler (some t) none (st :: sts) pos :: hs) ((cns, none, fh) :: l)
  | named {t : Expr} {cns : List Str} {n : Str} {i : Nat} {fh : Hx → XS} {st : Stmt} {sts : List Stmt} {pos : Pos} {hs : List ExceptHandler} {l : List HdF} (ht : CtOk c T t cns) (hN : c.N.Nodup) (hn : c.N[i]? = some n) (hl : c.sc.names.lookup n = some .local) (hf : ∀ k ob, DSs (c.hot k ob) noW (st :: sts) (fh k)) (hi : IvE i fh) (r : DHs c T hs l) :
      DHs c T (.ExceptHandler (some t) (some n) (st :: sts) pos :: hs) ((cns, some i, fh) :: l)
section
variable {c : SC} {W : WX} {T : ExT} {pos : Pos}
theorem EnvOk.unsetS {K : PySem.W.Frag} {F : Hp} {al : List Addr} {r : Rho} {σ : L2.St} (h : EnvOk K F al r σ) (i : Nat) : EnvOk K F al (r.set i none) (σ.set i none) := by
  refine ⟨by rw [List.length_set, List.length_set]; exact h.len, fun j e hj => ?_⟩
  by_cases hij : j = i
  · subst hij
    have hl : j < r.length := by
      have := (List.getElem?_eq_some_iff.mp hj).1
      rw [List.length_set] at this
      exact this
    rw [List.getElem?_set_self hl] at hj
    cases hj
  · rw [List.getElem?_set_ne (Ne.symm hij)] at hj
    obtain ⟨w, a, b⟩ := h.get j e hj
    exact ⟨w, by rw [List.getElem?_set_ne (Ne.symm hij)]; exact a, b⟩
theorem PostS.ofNe {K : PySem.W.Frag} {W : WX} {F : Hp} {al : List Addr} {E : Ends} {o : SO} (p : PostS K W F al E o.ne) : PostS K noW F al E o := by
  cases o <;> first | exact p | exact p.elim
theorem PostS.ofUn {K : PySem.W.Frag} {W : WX} {F : Hp} {al : List Addr} {E : Ends} {o : SO} {i : Nat} (p : PostS K W F al E (o.un i)) : PostS K noW F al (unS i E) o := by
  cases o with
  | next r m => exact fun σ' H' F' al' e w he => p _ H' F' al' e w (he.unsetS i)
  | brk r m => exact fun σ' H' F' al' e w he => p _ H' F' al' e w (he.unsetS i)
  | cont r m => exact fun σ' H' F' al' e w he => p _ H' F' al' e w (he.unsetS i)
  | ret d m => exact p
  | exc _ _ _ _ => exact p.elim
  | stuck => exact p.elim
/-- the clauses' readings -/
theorem hds_ok {hs : List ExceptHandler} {l : List HdF} (h : DHs c T hs l) : ∃ l' : List Hd1, (∀ y, OkD c W y → HdX (c.cx y) hs l') ∧
    ∀ (n : Str) (fs : List (Str × D)) (r : Rho) (m : Mu) (σ : L2.St) (H F : Hp) (al : List Addr) (E : Ends) (dd : Option Addr) (gs : List (Str × V)), EnvOk c.K F al r σ → Wd c.K F al m H → RpF c.K F al fs gs → (gs = [] ∧ dd = none ∨ ∃ x, dd = some x ∧ F x = some (.xd gs)) →
      PostS c.K W F al E (tryH T n fs r m l) → wX W E l' (.ref (He.ga c.K n)) dd σ H := by
  induction h with
  | nil => exact ⟨[], fun _ _ => .nil, fun n fs r m σ H F al E dd gs he hw hg hd p => p dd σ H F al gs Le.refl hw he hg hd⟩
  | @plain t cns fh st sts pos hs l ht hf hi r ih =>
    obtain ⟨l', h1, h2⟩ := ih
    obtain ⟨tst, t1, t2⟩ := ht
    refine ⟨(tst, none, fun x ob cl d D σ H => ∃ n, cl = .ref (He.ga c.K n) ∧ (hf ⟨x, d, n⟩ ob).choose D σ H) :: l', fun y hy => .plain (t1 W y hy) (fun x ob cl d pn hz hv => ⟨fun pins s σ H D I ⟨n, e, q⟩ => ?_⟩) (h1 y hy), fun n fs r m σ H F al E dd gs he hw hg hd p => ?_⟩
    · subst e
      exact ((hf ⟨x, d, n⟩ ob).choose_spec.1 (hotD y x ((x, ob) :: pn)) (OkD.hot (k := ⟨x, d, n⟩) hy List.mem_cons_self hz.1 hz.2 hv)).run pins s σ H D I q
    · rw [tryH] at p
      split at p
      · rename_i hn
        refine ⟨_, t2 n hn, fun hb x ob hx hz hv => ?_, fun hb => ?_⟩
        · rw [if_pos hb] at p
          rw [hi ⟨0, none, n⟩ ⟨x, dd, n⟩ r m rfl] at p
          exact ⟨n, rfl, (hf ⟨x, dd, n⟩ ob).choose_spec.2 r m σ H F al E he hw p.ofNe⟩
        · rw [if_neg (by rw [hb]; simp)] at p
          exact h2 n fs r m σ H F al E dd gs he hw hg hd p
      · exact p.elim
  | @named t cns nm i fh st sts pos hs l ht hN hnm hl hf hi r ih =>
    obtain ⟨l', h1, h2⟩ := ih
    obtain ⟨tst, t1, t2⟩ := ht
    refine ⟨(tst, some i, fun x ob cl d D σ H => ∃ n, cl = .ref (He.ga c.K n) ∧ (hf ⟨x, d, n⟩ ob).choose D σ H) :: l', fun y hy => .named (t1 W y hy) hN hnm (by show y.env.scope.names.lookup nm = _; rw [hy.scope]; exact hl) (fun x ob cl d pn hz hv => ⟨fun pins s σ H D I ⟨n, e, q⟩ => ?_⟩) (h1 y hy), fun n fs r m σ H F al E dd gs he hw hg hd p => ?_⟩
    · subst e
      exact ((hf ⟨x, d, n⟩ ob).choose_spec.1 (hotD y x ((x, ob) :: pn)) (OkD.hot (k := ⟨x, d, n⟩) hy List.mem_cons_self hz.1 hz.2 hv)).run pins s σ H D I q
    · rw [tryH] at p
      split at p
      · rename_i hn
        refine ⟨_, t2 n hn, fun hb x ob hx hz hv => ?_, fun hb => ?_⟩
        · rw [if_pos hb] at p
          rw [hi ⟨0, none, n⟩ ⟨x, dd, n⟩ fs r m rfl] at p
          exact ⟨n, rfl, (hf ⟨x, dd, n⟩ ob).choose_spec.2 _ m _ H F al _ (he.set i (.exn (k := ⟨x, dd, n⟩) hd hg)) hw p.ofUn⟩
        · rw [if_neg (by rw [hb]; simp)] at p
          exact h2 n fs r m σ H F al E dd gs he hw hg hd p
      · exact p.elim
theorem ds_try {h1 : ExceptHandler} {hs : List ExceptHandler} {l : List HdF} {body : List Stmt} {fb : XS} (hd : DHs c T (h1 :: hs) l) (hb : ∀ W', DSs c W' body fb) (hdf : c.df = true := by rfl) : DSt c W (.Try body (h1 :: hs) [] [] pos) (sTry T fb l) := by
  obtain ⟨l', g1, g2⟩ := hds_ok (W := W) hd
  refine ⟨fun D σ H => (hb (wX W D l')).choose D σ H, fun y hy => ?_, fun r m σ H F al E he hw p => ?_⟩
  · have key : PS (c.cx y) (.Try body (h1 :: hs) [] [] pos) (fun D σ H => (fun W' D σ H => ∃ D0, W' = wX W D0 l' ∧ (hb (wX W D0 l')).choose D σ H) (wX W D l') D σ H) := by
      refine ps_tryX (X := c.cx y) (tb := fun W' D σ H => ∃ D0, W' = wX W D0 l' ∧ (hb (wX W D0 l')).choose D σ H) (hy.df hdf).1 (hy.df hdf).2.1 hy.takes (fun W' pn xe tk ow hp => ⟨fun pins s σ H D I ⟨D0, e, q⟩ => ?_⟩) (g1 y hy)
      subst e
      exact ((hb (wX W D0 l')).choose_spec.1 { y with pn := pn, xe := xe } ⟨hy.scope, hy.room, hy.hd, tk, hy.fn, hy.gd, ow, (fun k ob z => ⟨hp _ (hy.pin k ob z).1, (hy.pin k ob z).2⟩), hy.df, hy.me⟩).run pins s σ H D I q
    exact ⟨fun pins s σ H D I q => key.run pins s σ H D I ⟨D, rfl, q⟩⟩
  · refine (hb (wX W E l')).choose_spec.2 r m σ H F al E he hw ?_
    unfold sTry at p
    cases q : fb r m with
    | exc n fs r' m' =>
      rw [q] at p
      intro dd σ' H' F' al' gs e w' he' hg hdd
      exact g2 n fs r' m' σ' H' F' al' E dd gs he' w' hg hdd (p.up e)
    | next r' m' => rw [q] at p; exact p
    | brk r' m' => rw [q] at p; exact p
    | cont r' m' => rw [q] at p; exact p
    | ret d m' => rw [q] at p; exact p
    | stuck => rw [q] at p; exact p
/-! ### except C, except (C, ..) -/
theorem tst_name {X : Cx} {x : Str} {cv cl : Value} {yes : Bool} {np : Pos} (hc : Names X x cv) (h : PySem.W.exmOne X.K cl cv = some yes) : Tst X (.Name x np) cl yes := fun a pn pins σ H s Q E I LT hq => by
  have fin : wpAny (model X.prog X.w) (X.A.mark (some (.ref a))) (excMatches (.ref a) cv) Q E s := (PySem.W.exm_one I.kIn LT h).here (hq s.heap fun _ _ z => z)
  obtain ⟨g1, g2, g3 | ⟨g3, g4, g5⟩⟩ := hc
  · exact ld_glob (X := X.suite a pn) I g1 g3 fin g2
  · exact ld_blt (X := X.suite a pn) I g1 g3 g4 fin g5 g2
theorem ct_name {x : Str} {np : Pos} {fs : List Str} {bs : List String} (K : XtOk c.K T fs bs) (hm : c.mg x = some (.ref (He.ga c.K x))) (hx : x ∈ T.nm := by decide) (hg : c.sc.names.lookup x = some .globalImplicit := by rfl) (hdb : (x == ("__debug__" : Str)) = false := by decide) : CtOk c T (.Name x np) [x] := by
  refine ⟨fun cl => PySem.W.exmOne c.K cl (.ref (He.ga c.K x)), fun W y hy cl yes h => tst_name (X := c.cx y) ⟨hy.gl hg, hdb, .inl hm⟩ h, fun n hn => ?_⟩
  show PySem.W.exmOne c.K (.ref (He.ga c.K n)) (.ref (He.ga c.K x)) = _
  rw [K.exm n hn x hx]
  simp
theorem ct_tup2 {x1 x2 : Str} {p1 p2 pos : Pos} {k : Nat} {fs : List Str} {bs : List String} (K : XtOk c.K T fs bs) (m1 : c.mg x1 = some (.ref (He.ga c.K x1))) (m2 : c.mg x2 = some (.ref (He.ga c.K x2))) (hx1 : x1 ∈ T.nm := by decide) (hx2 : x2 ∈ T.nm := by decide)
    (g1 : c.sc.names.lookup x1 = some .globalImplicit := by rfl) (g2 : c.sc.names.lookup x2 = some .globalImplicit := by rfl) (d1 : (x1 == ("__debug__" : Str)) = false := by decide) (d2 : (x2 == ("__debug__" : Str)) = false := by decide) : CtOk c T (.Tuple [.Name x1 p1, .Name x2 p2] k pos) [x1, x2] := by
  refine ⟨fun cl => PySem.W.exmAny c.K cl [.ref (He.ga c.K x1), .ref (He.ga c.K x2)], fun W y hy cl yes h a pn pins σ H s Q E I LT hq => ?_, fun n hn => ?_⟩
  · refine wpAny_Tuple (wpAny_items_cons (ld_glob (X := (c.cx y).suite a pn) I (hy.gl g1) m1 (wpAny_items_cons (ld_glob (X := (c.cx y).suite a pn) I (hy.gl g2) m2 (wpAny_items_nil ⟨by size_fits, ?_⟩) d2)) d1))
    have kp : ∀ b o, s.heap.get? b = some o → (s.heap.push { cls := .type "tuple", data := .seq [Value.ref (He.ga c.K x1), Value.ref (He.ga c.K x2)].toArray }).get? b = some o := fun _ _ z => Heap.get?_push_of_some _ z
    exact (PySem.W.exm_tup2 (I.kIn.keeps kp) (LT.keeps kp) (Heap.get?_push_size s.heap rfl) h).here (hq _ kp)
  · simp only [PySem.W.exmAny, K.exm n hn x1 hx1, K.exm n hn x2 hx2, List.any_cons, List.any_nil]
theorem ct_tup3 {x1 x2 x3 : Str} {p1 p2 p3 pos : Pos} {k : Nat} {fs : List Str} {bs : List String} (K : XtOk c.K T fs bs) (m1 : c.mg x1 = some (.ref (He.ga c.K x1))) (m2 : c.mg x2 = some (.ref (He.ga c.K x2))) (m3 : c.mg x3 = some (.ref (He.ga c.K x3))) (hx1 : x1 ∈ T.nm := by decide) (hx2 : x2 ∈ T.nm := by decide) (hx3 : x3 ∈ T.nm := by decide)
    (g1 : c.sc.names.lookup x1 = some .globalImplicit := by rfl) (g2 : c.sc.names.lookup x2 = some .globalImplicit := by rfl) (g3 : c.sc.names.lookup x3 = some .globalImplicit := by rfl) (d1 : (x1 == ("__debug__" : Str)) = false := by decide) (d2 : (x2 == ("__debug__" : Str)) = false := by decide) (d3 : (x3 == ("__debug__" : Str)) = false := by decide) : CtOk c T (.Tuple [.Name x1 p1, .Name x2 p2, .Name x3 p3] k pos) [x1, x2, x3] := by
  refine ⟨fun cl => PySem.W.exmAny c.K cl [.ref (He.ga c.K x1), .ref (He.ga c.K x2), .ref (He.ga c.K x3)], fun W y hy cl yes h a pn pins σ H s Q E I LT hq => ?_, fun n hn => ?_⟩
  · refine wpAny_Tuple (wpAny_items_cons (ld_glob (X := (c.cx y).suite a pn) I (hy.gl g1) m1 (wpAny_items_cons (ld_glob (X := (c.cx y).suite a pn) I (hy.gl g2) m2 (wpAny_items_cons (ld_glob (X := (c.cx y).suite a pn) I (hy.gl g3) m3 (wpAny_items_nil ⟨by size_fits, ?_⟩) d3)) d2)) d1))
    have kp : ∀ b o, s.heap.get? b = some o → (s.heap.push { cls := .type "tuple", data := .seq [Value.ref (He.ga c.K x1), Value.ref (He.ga c.K x2), Value.ref (He.ga c.K x3)].toArray }).get? b = some o := fun _ _ z => Heap.get?_push_of_some _ z
    exact (PySem.W.exm_tup3 (I.kIn.keeps kp) (LT.keeps kp) (Heap.get?_push_size s.heap rfl) h).here (hq _ kp)
  · simp only [PySem.W.exmAny, K.exm n hn x1 hx1, K.exm n hn x2 hx2, K.exm n hn x3 hx3, List.any_cons, List.any_nil]
/-! ### e.f, isinstance(e, C) -/
def xExF (k0 : Hx) (T : ExT) (f : Str) (a : XE') : XE' := fun r m => (a r m).bind fun d m1 => match d with
  | .exn k gs => if k = k0 ∧ k.c ∈ T.nm then (match gs.lookup f with
    | some v => .ok v m1
    | none => .stuck) else .stuck
  | _ => .stuck
theorem de_xf {e : Expr} {fe : XE'} {f : Str} {k0 : Hx} {ob : Obj} {fs : List Str} {bs : List String} (K : XtOk c.K T fs bs) (hc : c.hx = some (k0, ob)) (ha : DE c W e fe) (hf : f ∈ fs := by decide) (hb : ∀ env, attributeBase e f env (eval e env) = eval e env := by intro _; rfl) : DE c W (.Attribute e f pos) (xExF k0 T f fe) := by
  obtain ⟨t, a1, a2⟩ := ha
  refine ⟨fun σ H Q => t σ H fun x H1 => k0.c ∈ T.nm ∧ x = .ref k0.x ∧ ∃ (dd : Addr) (gs : List (Str × V)) (v : V), k0.dd = some dd ∧ H1 dd = some (.xd gs) ∧ gs.lookup f = some v ∧ Q v H1, fun y hy => ⟨fun pins s σ H Q I h => ?_⟩, fun ρ m σ H F al Q he hw p => ?_⟩
  · refine attr_of (hb _) (thn ((a1 y hy).run pins s σ H _ I h) fun u s1 ⟨x, H1, I1, rx, hk, ex, dd, gs, v, ed, ea, hl, q⟩ => ?_)
    subst ex
    obtain rfl : u = Value.ref k0.x := rx
    obtain ⟨hp, o1, o2, vs, o3⟩ := hy.pin k0 ob hc
    obtain ⟨ho, _⟩ := I1.pin (k0.x, ob) (List.mem_append_left _ hp)
    obtain ⟨mA, hns, hr⟩ : ObjOk c.P c.w H1 s1.heap dd (.xd gs) := I1.hok dd _ ea
    obtain ⟨od, hod, hlk⟩ := lookIn_ns hns
    obtain ⟨w, hw', rw'⟩ := RelO.some_of (v := v) (o := mA f) (by rw [← hl]; exact hr f)
    have J : PySem.W.InstAt s1.heap k0.x ob (He.ga c.K k0.c) (some od) := ⟨ho, o1, by unfold PySem.W.notCls; rw [o3] <;> rfl, by rw [o2, ed]; exact hod⟩
    have XT := K.xf _ hk
    exact HandSPX.exc_get I1.kIn J XT.ga XT.gg XT.exC (PySem.W.findObj_own XT.hdC (K.fld _ hk f hf) rfl (by rw [hlk, hw'])) (handed_of rw') ⟨v, H1, I1.tok _, rw', q⟩
  · refine a2 ρ m σ H F al _ he hw (Post.step p fun d m1 v H1 F1 al1 e1 w1 q1 p1 => ?_)
    cases q1 with
    | @exn k gs ds s r =>
      dsimp only at p1
      split at p1
      · rename_i hk
        obtain ⟨rfl, hk⟩ := hk
        split at p1
        · rename_i d' hd
          obtain ⟨u, h3, h4⟩ := (r.look (x := f)).2 d' hd
          rcases s with ⟨s1, s2⟩ | ⟨yy, s1, s2⟩
          · subst s1; cases h3
          · exact ⟨hk, rfl, yy, gs, u, s1, w1.sub _ _ s2, h3, p1 _ H1 F1 al1 Le.refl w1 h4⟩
        · exact p1.elim
      · exact p1.elim
    | _ => exact p1.elim
end
end DS

/-! # XE: isinstance of the handled exception; defs called with it -/
namespace DS
open PySem PySem.Spec PyProof.Rows L2
section
variable {c : SC} {W : WX} {T : ExT} {pos : Pos}
def isiX (k0 : Hx) (T : ExT) (bs : List String) (ds : List D) (m : Mu) : Out D := match ds with
  | [.exn k _, .glo d] => if k = k0 ∧ k.c ∈ T.nm ∧ d ∈ T.nm then .ok (.bl (T.own k.c d)) m else .stuck
  | [.exn k _, .ty n] => if k = k0 ∧ k.c ∈ T.nm ∧ n ∈ bs then .ok (.bl (T.blt k.c n)) m else .stuck
  | _ => .stuck
theorem b_isiX {k0 : Hx} {ob : Obj} {fs : List Str} {bs : List String} (K : XtOk c.K T fs bs) (hc : c.hx = some (k0, ob)) : CallD c (.builtin "isinstance") (isiX k0 T bs) := by
  refine ⟨fun xs H Q => ∃ (cv : V) (u : Value) (b : Bool), xs = [.ref k0.x, cv] ∧ k0.c ∈ T.nm ∧ (∀ w, RelV cv w → w = u) ∧ (k0.dd = none ∨ ∃ y gs, k0.dd = some y ∧ H y = some (.xd gs)) ∧ PySem.W.kitOne c.K (.ref (He.ga c.K k0.c)) u = some b ∧ Q (.bl b) H, fun W y hy pins s σ H xs us Q I r h => ?_, fun W ds m vs H F al Q hw r p => ?_⟩
  · obtain ⟨cv, u, b, rfl, hk, hu, hd, e, q⟩ := h
    cases r with
    | cons rx rr =>
    cases rr with
    | cons rt rr =>
    cases rr
    cases rx
    have eu := hu _ rt
    subst eu
    obtain ⟨hp, o1, o2, vs, o3⟩ := hy.pin k0 ob hc
    obtain ⟨ho, _⟩ := I.pin (k0.x, ob) (List.mem_append_left _ hp)
    have hn : PySem.W.notCls ob = true := by unfold PySem.W.notCls; rw [o3] <;> rfl
    obtain ⟨od, J⟩ : ∃ od, PySem.W.InstAt s.heap k0.x ob (He.ga c.K k0.c) od := by
      rcases hd with hd | ⟨y, gs, hd, hy'⟩
      · exact ⟨none, ho, o1, hn, by rw [o2, hd]; trivial⟩
      · obtain ⟨mA, hns, _⟩ : ObjOk c.P c.w H s.heap y (.xd gs) := I.hok y _ hy'
        obtain ⟨od, _, _, hod, _⟩ := hns
        exact ⟨some od, ho, o1, hn, by rw [o2, hd]; exact hod⟩
    have XT := K.xf _ hk
    have hcl : (PySem.W.clsIn c.K (He.ga c.K k0.c)).isSome = true := by
      obtain ⟨cd, hcd, _⟩ := PySem.W.any_some XT.hdC
      rw [hcd] <;> rfl
    exact PySem.W.kia_one (PySem.W.kitx_exc hcl XT.ga XT.gg XT.exC (K.ha _ hk) K.hn K.ht (K.hm _ hk)) I.kIn J e (fun z => nomatch z) fun tk => ⟨.bl b, H, I.kept (t' := tk) fun _ _ z => z, rfl, q⟩
  · unfold isiX at p
    split at p
    · cases r with
      | cons q r =>
      cases r with
      | cons q' r =>
      cases r
      cases q with
      | @exn k gs ds sx rx =>
      cases q' with
      | glo =>
      split at p
      · rename_i hk
        obtain ⟨rfl, hk, hd⟩ := hk
        refine ⟨_, _, _, rfl, hk, fun w hw' => hw', ?_, K.kit _ hk _ hd, p _ H F al Le.refl hw (.bl _)⟩
        rcases sx with ⟨_, z⟩ | ⟨y, z1, z2⟩
        · exact .inl z
        · exact .inr ⟨y, gs, z1, hw.sub _ _ z2⟩
      · exact p.elim
    · cases r with
      | cons q r =>
      cases r with
      | cons q' r =>
      cases r
      cases q with
      | @exn k gs ds sx rx =>
      cases q' with
      | ty =>
      split at p
      · rename_i hk
        obtain ⟨rfl, hk, hd⟩ := hk
        refine ⟨_, _, _, rfl, hk, fun w hw' => hw', ?_, K.ktb _ hk _ hd, p _ H F al Le.refl hw (.bl _)⟩
        rcases sx with ⟨_, z⟩ | ⟨y, z1, z2⟩
        · exact .inl z
        · exact .inr ⟨y, gs, z1, hw.sub _ _ z2⟩
      · exact p.elim
    · exact p.elim
/-! ### a def that is called with the exception that is handled -/
/-- what it promises while ob (at k.x) is handled -/
structure FnX (b : Base) (n : Nat) (f : Addr) (fd : FuncData) (ps : List Str) (G : Hx → Fn) : Prop where
  run : ∀ (k : Hx) (ob : Obj) (A : Around) (out : List Env) (s : Shared) (H : Hp) (ar : Args) (us : List Value) (vs : List V) (Q : VK), L2H.RoomH n A → A.guards = some [] → L2H.PinOk out H s (k.x, ob) → ob.cls = .ref (He.ga b.K k.c) → ob.dict = k.dd → (∃ vs, ob.data = .fields vs) → Env0 b.P b.w b.K b.mg b.base A out s H → BindsTo s fd ar (ps.zip us) → Vals vs us →
    spOf b.K ps.length (G k) vs H Q (fun _ _ _ => False) → codeAny (model b.P b.w) A (.call (.ref f) ar) (CR (L2.CX b.P b.w) out b.P b.w H s Q (fun _ _ _ => False)) s
abbrev Base.hotAt (b : Base) (N : List Str) (sc : Scope) (n : Nat) (k : Hx) (ob : Obj) : SC := ⟨b.P, b.w, b.K, b.mg, b.base, N, sc, n, fun _ => true, true, false, some (k, ob), true, none⟩
theorem fnX_ok {b : Base} {x qual : Str} {params : Arguments} {body : List Stmt} {scope : Scope} {dvs : List V} {kws : List (Str × V)} {f : Addr} {fd : FuncData} {N ps : List Str} {n : Nat} {g : Hx → XS} (keep : Bool) (Fd : FunD b.K x qual params body scope dvs kws f fd) (S : FnScope N ps scope)
    (h : ∀ (k : Hx) (ob : Obj), DSs (b.hotAt N scope n k ob) (wOf fun _ _ _ => False) body (g k)) : FnX b (n + 1) f fd ps (fun k => fnOf N.length keep (g k)) := by
  refine ⟨fun k ob A out s H ar us vs Q hr hgd hpin o1 o2 o3 e0 hb r hsp => ?_⟩
  have hl : vs.length = ps.length := RpL.lenV hsp
  obtain ⟨oc, od, dV, kV, doc, pm, an, cdv, ct, osl, rfl, lk, hcd, _, _⟩ := Fd.ex
  have kIn : b.K.In s.heap := e0.mod.kin.keeps fun z o q => (e0.bs z o q).1
  have noLim : s.heap.NoLimit := e0.mod.nolimit.keeps fun z o q => (e0.bs z o q).1
  refine codeAny_call_function hr.depth (kIn _ _ lk) rfl S.co S.gen rfl (PySem.W.codeRec_of kIn hcd) (hb _ _ _ _ ?_)
  refine wpAny_newFunctionEnv_cells S.kind (fun z hz => ?_) fun env he s1 hx => ?_
  · obtain ⟨nm, u⟩ := z
    rcases S.par nm (List.of_mem_zip hz).1 with q | q
    · exact .inl q
    · exact .inr ⟨q, PySem.W.cellsFrom_some _ _ _ (.inl q)⟩
  · subst he
    refine ⟨noLim.keeps hx.toInCall.keep, codeAny_func ?_⟩
    let y : Dyn := { A := A.deeper (envOfC qual scope s.heap.objs.size f cdv), s_0 := s, H_0 := H, env := envOfC qual scope s.heap.objs.size f cdv, outer := out, stack := envOfC qual scope s.heap.objs.size f cdv :: out, ex := [], fn := fun _ => true, pn := [(k.x, ob)], xe := (cxOf (L2.CX b.P b.w) b.P b.w b.K b.mg b.base N qual scope f cdv A out s H (fun _ _ _ => False)).xe }
    have ht : Takes ((b.hotAt N scope n k ob).cx y) (wOf fun _ _ _ => False) := takes_of (X := (b.hotAt N scope n k ob).cx y) (E := fun _ _ _ => False) rfl rfl rfl rfl
    have hy : OkD (b.hotAt N scope n k ob) (wOf fun _ _ _ => False) y := ⟨rfl, hr.deeper _, (fun z => Bool.noConfusion (show false = true from z)), ht, fun _ _ => rfl, fun _ => hgd, passes_of (X := (b.hotAt N scope n k ob).cx y) rfl, (fun k' ob' e => by
      have e' : (k, ob) = (k', ob') := Option.some.inj e
      cases e'
      exact ⟨List.mem_cons_self, o1, o2, o3⟩), (fun _ => ⟨rfl, rfl, rfl⟩), fun _ z => nomatch z⟩
    obtain ⟨t, t1, t2⟩ := h k ob
    obtain ⟨ds, m, F, al, hlen, rr, w, p⟩ := hsp
    have I : Inv ((b.hotAt N scope n k ob).cx y) [] (L2.start N vs) H s1 := L2H.inv_startH (E := fun _ _ _ => False) S hpin e0 hl r hx
    have q : t { nx := fun _ H' => Q .non H', rt := Q } (L2.start N vs) H := by
      refine t2 (rho0 N.length ds) m (L2.start N vs) H F al _ (env0_ok rr) w ?_
      unfold fnOf at p
      cases q : g k (rho0 N.length ds) m with
      | next r' m' =>
        rw [q] at p
        exact fun σ' H' F' al' e w' _ => p _ H' F' (al'.take m.length) (e.cut (Nat.le_of_eq w.len)) (w'.cut _) .non
      | ret d m' =>
        rw [q] at p
        intro v H' F' al' e w' rv
        cases keep with
        | true => exact p v H' F' al' e w' rv
        | false => exact exit_ok w' e w.len rv p
      | exc c fs r' m' =>
        rw [q] at p
        intro dd σ' H' F' al' gs e w' _ hg hd
        have p' : Post b.K (RD b.K) (fun _ _ _ => False) F al Q (if D.inF m.length fs = true then .exc c fs (m'.take m.length) else .stuck) := p
        split at p'
        · rename_i hi
          exact p' dd H' F' (al'.take m.length) gs (e.cut (Nat.le_of_eq w.len)) (w'.cut _) (hg.cut hi) hd
        · exact p'.elim
      | brk _ _ => rw [q] at p; exact p.elim
      | cont _ _ => rw [q] at p; exact p.elim
      | stuck => rw [q] at p; exact p.elim
    refine wpAny_mono ((t1 y hy).run [] s1 (L2.start N vs) H _ I q) (fun fl s' hs => ?_) fun e s' hs => hs
    cases fl with
    | ret u => exact let ⟨v, _, H', J, rv, q⟩ := hs; ⟨v, H', J.os, J.bare, J.base, J.hok, rv, q⟩
    | next => exact let ⟨_, H', J, q⟩ := hs; ⟨V.non, H', J.os, J.bare, J.base, J.hok, rfl, q⟩
    | brk => exact let ⟨_, _, _, q⟩ := hs; q.elim
    | cont => exact let ⟨_, _, _, q⟩ := hs; q.elim
def xCallX (G : Fn) (a : XA) : XE' := fun r m => ((a r m).bind G).ne
/-- g(e): one argument, the exception -/
theorem de_callX {x : Str} {n : Nat} {f : Addr} {fd : FuncData} {ps : List Str} {G : Hx → Fn} {p0 : Pos} {e : Expr} {es : List Expr} {fr : XA} {k0 : Hx} {ob : Obj} (hF : FnX c.toB n f fd ps G) (hm : c.mg x = some (.ref f)) (hk : PySem.W.keepIn c.K (.ref f) = true) (hb : Binds c.K fd ps []) (hc : c.hx = some (k0, ob)) (ha : DA c W (e :: es) fr)
    (hr : n ≤ c.k := by exact Nat.le_of_ble_eq_true rfl) (hgd : c.gd = true := by rfl) (hl : (e :: es).length = ps.length := by rfl) (hg : c.sc.names.lookup x = some .globalImplicit := by rfl) (hdb : (x == ("__debug__" : Str)) = false := by decide)
    (hs : ∀ env, starEach (e :: es) env = (false, eval e env) :: starEach es env := by intro _; rfl) (hpl : ∀ env, (backTo pos (starEach es env)).any (·.1) = false := by intro _; rfl) : DE c W (.Call (.Name x p0) (e :: es) [] pos) (xCallX (G k0) fr) := by
  obtain ⟨⟨t, a1, a2⟩, hlen⟩ := ha
  refine ⟨fun σ H Q => t σ H fun vs H1 => spOf c.K ps.length (G k0) vs H1 Q (fun _ _ _ => False), fun y hy => ⟨fun pins s σ H Q I h => wpAny_Call_Name_kw (ld_glob I (hy.gl hg) hm (PySem.W.callWith_K (h₀ := c.base) I.ok.mod.kin hk (thn ((a1 y hy).run pos pins s σ H _ I h) fun us s1 ⟨vs, H1, I1, r, q⟩ => ⟨I1.kIn, ?_⟩) (hs _) (hpl _)) hdb)⟩, fun ρ m σ H F al Q he hw p => ?_⟩
  · obtain ⟨hp, o1, o2, o3⟩ := hy.pin k0 ob hc
    have P1 := I1.pin (k0.x, ob) (List.mem_append_left _ hp)
    have hpin : L2H.PinOk y.stack H1 s1 (k0.x, ob) := ⟨P1.1, P1.2.1, fun z => (List.mem_cons.mp (I1.stkSub k0.x z)).elim P1.2.2.1 P1.2.2.2.1, P1.2.2.2.2⟩
    have hlu : us.length = ps.length := by rw [← r.length]; exact RpL.lenV q
    have b1 := hb s1 us I1.kIn (by rw [List.append_nil]; exact hlu)
    rw [List.append_nil] at b1
    refine wpAny_call (codeAny_mono (hF.run k0 ob y.A y.stack s1 H1 ⟨us, []⟩ us vs Q (hy.room.mono hr) (hy.gd hgd) hpin o1 o2 o3 I1.env0 b1 r q) fun z s' hq => ?_)
    rcases z with e | (_ | _ | _ | u)
    · obtain ⟨_, _, _, _, _, _, _, _, _, _, _, _, z⟩ := hq
      exact z.elim
    · exact False.elim hq
    · exact False.elim hq
    · exact False.elim hq
    · exact I1.after hq
  · refine a2 ρ m σ H F al _ he hw ?_
    have p : Post c.K (RD c.K) (atS W σ) F al Q ((fr ρ m).bind (G k0)).ne := p
    cases e : fr ρ m with
    | stuck => rw [e] at p; exact p.elim
    | exc _ _ _ => rw [e] at p; exact p.elim
    | ok ds m1 =>
      rw [e] at p
      have hn := hlen ρ m ds m1 e
      intro vs H1 F1 al1 e1 w1 q1
      have p1 : Post c.K (RD c.K) (atS W σ) F1 al1 Q (G k0 ds m1).ne := p.up e1
      refine ⟨ds, m1, F1, al1, hn.trans hl, q1, w1, ?_⟩
      cases e2 : G k0 ds m1 with
      | ok d m2 => rw [e2] at p1; exact p1
      | exc _ _ _ => rw [e2] at p1; exact p1.elim
      | stuck => rw [e2] at p1; exact p1.elim
end
end DS

/-! # XF: g(lambda: e), where g begins with try: x = a() -/
namespace DS
open PySem PySem.Spec PyProof.Rows L2
/-! ### the store behind a new code object -/
section
variable {K : PySem.W.Frag} {F H H1 : Hp} {al : List Addr} {m : Mu}
/-- the tables of a store -/
def tabsOf (K : PySem.W.Frag) : Mu → List (Addr × Str)
  | [] => []
  | .tab x :: r => (tabP K x, lamQ x) :: tabsOf K r
  | _ :: r => tabsOf K r
theorem mem_tabs {x : Str} : ∀ {m : Mu} {n : Nat}, m[n]? = some (.tab x) → (tabP K x, lamQ x) ∈ tabsOf K m
  | [], n, h => by simp at h
  | c :: r, 0, h => by
    have e : c = .tab x := Option.some.inj h
    subst e
    exact List.mem_cons_self
  | c :: r, n + 1, h => by
    have ih := mem_tabs (m := r) (n := n) (by simpa using h)
    cases c <;> first | exact ih | exact List.mem_cons_of_mem _ ih
theorem tabs_mem : ∀ {m : Mu} {p : Addr × Str}, p ∈ tabsOf K m → ∃ (n : Nat) (x : Str), m[n]? = some (Cell.tab x) ∧ p = (tabP K x, lamQ x)
  | [], p, h => nomatch h
  | c :: r, p, h => by
    have up : p ∈ tabsOf K r → ∃ (n : Nat) (x : Str), (c :: r)[n]? = some (Cell.tab x) ∧ p = (tabP K x, lamQ x) := fun z =>
      let ⟨n, x, h1, h2⟩ := tabs_mem z; ⟨n + 1, x, by simpa using h1, h2⟩
    cases c with
    | tab x =>
      rcases List.mem_cons.mp h with z | z
      · exact ⟨0, x, rfl, z⟩
      · exact up z
    | _ => exact up h
theorem Wd.tabs (w : Wd K F al m H) : LamX.Tabs (tabsOf K m) H := fun p hp => by
  obtain ⟨n, x, h1, rfl⟩ := tabs_mem hp
  have hn : n < al.length := by rw [w.len]; exact (List.getElem?_eq_some_iff.mp h1).1
  obtain ⟨⟨_, e⟩, ps, h2, h3, h4⟩ := w.cell n _ _ (List.getElem?_eq_getElem hn) h1
  refine ⟨ps, by rw [← e]; exact h2, h3, fun pos cv hc => ?_⟩
  obtain ⟨c, e1, e2⟩ := h4 pos cv hc
  exact ⟨c, e1, w.sub _ _ e2⟩
theorem Wd.tabU (w : Wd K F al m H) {x : Str} {n : Nat} (hx : m[n]? = some (.tab x)) : ∀ p ∈ tabsOf K m, p.1 = tabP K x → p.2 = lamQ x := fun p hp e => by
  obtain ⟨k, z, h1, rfl⟩ := tabs_mem hp
  have hn : n < al.length := by rw [w.len]; exact (List.getElem?_eq_some_iff.mp hx).1
  have hk : k < al.length := by rw [w.len]; exact (List.getElem?_eq_some_iff.mp h1).1
  obtain ⟨⟨_, e1⟩, _⟩ := w.cell n _ _ (List.getElem?_eq_getElem hn) hx
  obtain ⟨⟨_, e2⟩, _⟩ := w.cell k _ _ (List.getElem?_eq_getElem hk) h1
  have e3 : al[k] = al[n] := e2.trans (Eq.trans e e1.symm)
  have e4 : k = n := (List.getElem_inj w.nd).mp e3
  subst e4
  rw [hx] at h1
  cases h1
  rfl
open Classical in
theorem Wd.lam (w : Wd K F al m H) (ex : LamX.ExtN H H1) (tb : LamX.Tabs (tabsOf K m) H1) : ∃ F1, Le F al F1 al ∧ Wd K F1 al m H1 ∧ ∀ c q, H1 c = some (LamX.CodeO c q) → F1 c = some (LamX.CodeO c q) := by
  let F1 : Hp := fun a => match F a with
    | some o => some o
    | none => if ∃ q, H1 a = some (LamX.CodeO a q) then H1 a else none
  have f1 : ∀ a o, F a = some o → F1 a = some o := fun a o e => by show (match F a with | some o => some o | none => _) = _; rw [e]
  have f2 : ∀ a, F a = none → F1 a = if ∃ q, H1 a = some (LamX.CodeO a q) then H1 a else none := fun a e => by show (match F a with | some o => some o | none => _) = _; rw [e]
  have up : ∀ a o, H a = some o → (∀ ps, o ≠ .tbl ps) → H1 a = some o := fun a o e n => ex a o e n
  have sub : ∀ a o, F1 a = some o → H1 a = some o := fun a o e => by
    cases q : F a with
    | some u =>
      rw [f1 a u q] at e
      cases e
      exact up a _ (w.sub a _ q) fun ps z => w.nt a ps (by rw [q, z])
    | none =>
      rw [f2 a q] at e
      split at e
      · exact e
      · cases e
  have code : ∀ c q, H1 c = some (LamX.CodeO c q) → F1 c = some (LamX.CodeO c q) := fun c q e => by
    cases z : F c with
    | some u =>
      have h := sub c u (f1 c u z)
      rw [e] at h
      cases h
      exact f1 c _ z
    | none => rw [f2 c z, if_pos ⟨q, e⟩]; exact e
  have free : ∀ a o, F a = none → H1 a = some o → (∀ c q, o ≠ LamX.CodeO c q) → F1 a = none := fun a o e h n => by
    rw [f2 a e, if_neg]
    rintro ⟨q, z⟩
    rw [h] at z
    exact n _ _ (Option.some.inj z)
  have le : Le F al F1 al := ⟨f1, fun _ _ e => e⟩
  refine ⟨F1, le, ⟨sub, w.len, w.nd, fun n a c h1 h2 => ?_, w.gen, fun a ha => ?_, fun a ps z => ?_⟩, code⟩
  · have hc := w.cell n a c h1 h2
    cases c with
    | lst ds =>
      obtain ⟨z, vs, e1, e2⟩ := hc
      have e3 := up a _ e1 fun ps z => by cases z
      exact ⟨free a _ z e3 fun c q z => (by unfold LamX.CodeO at z; cases z), vs, e3, e2.up le⟩
    | ins cn gs =>
      obtain ⟨z, dx, fs, e1, e2⟩ := hc
      have e3 := up a _ e1 fun ps z => by cases z
      exact ⟨free a _ z e3 fun c q z => (by unfold LamX.CodeO at z; cases z), dx, fs, e3, e2.up le⟩
    | dct gs =>
      obtain ⟨z, fs, e1, e2⟩ := hc
      have e3 := up a _ e1 fun ps z => by cases z
      exact ⟨free a _ z e3 fun c q z => (by unfold LamX.CodeO at z; cases z), fs, e3, e2.up le⟩
    | dead => exact let ⟨o, z⟩ := hc; ⟨o, f1 a o z⟩
    | tab x =>
      obtain ⟨⟨z, e⟩, _⟩ := hc
      obtain ⟨ps, t1, t2, t3⟩ := tb _ (mem_tabs h2)
      have t1 : H1 (tabP K x) = some (.tbl ps) := t1
      rw [← e] at t1
      refine ⟨⟨free a _ z t1 fun c q z => (by unfold LamX.CodeO at z; cases z), e⟩, ps, t1, t2, fun pos cv hc => ?_⟩
      obtain ⟨c, e1, e2⟩ := t3 pos cv hc
      exact ⟨c, e1, code c _ e2⟩
  · cases q : H a with
    | none => exact absurd q (w.tr a ha)
    | some o =>
      by_cases hq : ∃ ps, o = .tbl ps
      · obtain ⟨ps, rfl⟩ := hq
        obtain ⟨n, hn, hn'⟩ := List.mem_iff_getElem.mp ha
        have h1 : al[n]? = some a := by rw [List.getElem?_eq_getElem hn, hn']
        have hm : n < m.length := by rw [← w.len]; exact hn
        have hc := w.cell n a _ h1 (List.getElem?_eq_getElem hm)
        cases e : m[n] with
        | tab x =>
          rw [e] at hc
          obtain ⟨⟨_, e1⟩, _⟩ := hc
          obtain ⟨ps', t1, _⟩ := tb _ (mem_tabs (by rw [List.getElem?_eq_getElem hm, e]))
          have t1 : H1 (tabP K x) = some (.tbl ps') := t1
          rw [e1, t1]
          simp
        | lst _ => rw [e] at hc; obtain ⟨_, _, e1, _⟩ := hc; rw [q] at e1; cases e1
        | ins _ _ => rw [e] at hc; obtain ⟨_, _, _, e1, _⟩ := hc; rw [q] at e1; cases e1
        | dct _ => rw [e] at hc; obtain ⟨_, _, e1, _⟩ := hc; rw [q] at e1; cases e1
        | dead =>
          rw [e] at hc
          obtain ⟨o, e1⟩ := hc
          rw [sub a o (f1 a o e1)]
          simp
      · rw [up a o q fun ps z => hq ⟨ps, z⟩]
        simp
  · have h := sub a _ z
    cases q : F a with
    | some u =>
      rw [f1 a u q] at z
      exact w.nt a ps (by rw [q]; exact z)
    | none =>
      rw [f2 a q] at z
      split at z
      · rename_i hq
        obtain ⟨r, hr⟩ := hq
        rw [hr] at z
        unfold LamX.CodeO at z
        cases z
      · cases z
end
/-! ### the lambda is called in the def that got it -/
section
variable {X : Cx} {pins : List (Addr × Obj)} {σ : L2.St} {H : Hp} {s : Shared}
/-- a(): Z is the context of the def that got the lambda, entered at s -/
theorem pe_act' {Z : Cx} {Eg : XK} {Ng : List Str} {qg : Str} {sg : Scope} {g f c' : Addr} {cdg pm ctv : Value} {params : Arguments} {body : Expr} {scope : Scope} {k i : Nat} {a : Str} {pn : List (Addr × Obj)} {xe : Value → Shared → Prop} {W : WX} {t : XK → TE} {p1 p2 : Pos}
    (hZ : Z = (cxOf (L2.CX X.prog X.w) X.prog X.w X.K X.mg X.base Ng qg sg g cdg X.A X.stack s H Eg).tr pn xe) (I : Inv X pins σ H s) (L : LamX.LamS X.env.scope scope) (hf : s.heap.get? f = some (PySem.W.kla_obj "<lambda>" (X.env.qual ++ "<lambda>") params body scope (cloFrom X.env.cells scope.names []) pm c' ctv)) (hfn : H f = none) (hfr : f ∉ frs X.stack)
    (hbind : bindArgs (PySem.W.kla_fn "<lambda>" (X.env.qual ++ "<lambda>") params body scope (cloFrom X.env.cells scope.names []) pm (.ref c') ctv) ⟨[], []⟩ = pure [])
    (tk : Takes Z W) (hr : Room (k + 1) (X.A.deeper (envOfC qg sg s.heap.objs.size g cdg)))
    (hbody : ∀ (E : XK) (s1 : Shared) (H1 : Hp), Room k ((X.A.deeper (envOfC qg sg s.heap.objs.size g cdg)).deeper (LamX.lamEnv X scope s1.heap.objs.size f c')) → PE (LamX.lamCx X (X.A.deeper (envOfC qg sg s.heap.objs.size g cdg)) (envOfC qg sg s.heap.objs.size g cdg :: X.stack) s1 H1 E scope f c') body (t E))
    (hN : Ng[i]? = some a) (hv : Vis sg a) (hd : (a == ("__debug__" : Str)) = false) (hcd : (a == ("__classdict__" : Str)) = false) :
    PE Z (.Call (.Name a p1) [] [] p2) (fun σZ HZ Q => σZ[i]? = some (some (.ref f)) ∧ HZ c' = some (LamX.CodeO c' (X.env.qual ++ "<lambda>")) ∧ t (WE W σZ) σ HZ Q) := by
  subst hZ
  refine ⟨fun pinsZ sZ σZ HZ Q IZ ⟨hs, hc, ht⟩ => ?_⟩
  refine wpAny_Call_Name_kw (thn ((pe_var (pos := p1) (i := i) hN hv hd hcd).run pinsZ sZ σZ HZ (fun v H1 => v = .ref f ∧ H1 = HZ) IZ ⟨.ref f, hs, rfl, rfl⟩) fun u s1 ⟨v, H1, I1, r1, q1⟩ => ?_)
  obtain ⟨ev, eH⟩ := q1
  subst ev
  rw [eH] at I1
  obtain rfl : u = Value.ref f := r1
  have fat : s1.heap.get? f = some (PySem.W.kla_obj "<lambda>" (X.env.qual ++ "<lambda>") params body scope (cloFrom X.env.cells scope.names []) pm c' ctv) := I1.base.keep f _ hf hfn hfr (by intro z; cases z)
  refine PySem.W.callWith_F0 ⟨_, _, _, _, fat⟩ ?_
  have un : Un (frs X.stack) [] H HZ s.heap s1.heap := I1.base
  obtain ⟨⟨oc, vs, tk', hoc, hdc, hvc⟩, _, _⟩ := I1.hok c' _ hc
  have rc : codeAny (model X.prog X.w) (X.A.deeper (envOfC qg sg s.heap.objs.size g cdg)) (.call (.ref f) ⟨[], []⟩) (CR (L2.CX X.prog X.w) (envOfC qg sg s.heap.objs.size g cdg :: X.stack) X.prog X.w HZ s1 Q (WE W σZ)) s1 := by
    refine PySem.W.kla_callFunE hr.depth fat rfl L.co L.gen rfl ⟨c', oc, vs, tk', rfl, hoc, hdc, hvc⟩ ?_
    rw [hbind]
    refine wpAny_pure (wpAny_newFunctionEnv (fun y hy => (L.own y hy).2) (fun y hy => by cases hy) (fun G hns hsb => ⟨I1.nolimit.fresh _ hsb, ?_⟩) L.kind)
    show codeAny _ _ (.expr body (LamX.lamEnv X scope s1.heap.objs.size f c')) _ _
    have kp : ∀ b o, s1.heap.get? b = some o → G.get? b = some o := fun b o e => hsb.extBut b o (Nat.ne_of_lt (Heap.lt_size e)) (Heap.get?_push_of_some _ e)
    have J := LamX.lam_start2 (tk := s1.toks + ([] : List (Str × Value)).length) (f := f) (c' := c') (E := WE W σZ) I L I1.env0 hr.hd un hns kp
    refine PySem.W.kla_codeExpr (wpAny_mono ((hbody (WE W σZ) s1 HZ (hr.deeper _)).run [] _ _ HZ Q J ht) (fun v s' ⟨w', H', J', rv, q⟩ => ⟨w', H', J'.os, J'.bare, J'.base, J'.hok, rv, q⟩) fun e s' hq => hq)
  refine wpAny_call (codeAny_mono rc fun r s' hq => ?_)
  rcases r with e | (_ | _ | _ | u)
  · exact passAt tk σZ pinsZ HZ s1 e s' I1 hq
  · exact False.elim hq
  · exact False.elim hq
  · exact False.elim hq
  · exact I1.after hq
end
/-! ### x = a(), a() -/
/-- a statement that calls a() and keeps what it gives in slot j, or nowhere -/
def upJ {α : Type} (j : Option Nat) (σ : List (Option α)) (v : α) : List (Option α) := match j with
  | some j => σ.set j (some v)
  | none => σ
def Cal (Ng : List Str) (sg : Scope) (call : Expr) (st0 : Stmt) (j : Option Nat) : Prop := ∀ (X : Cx) (te : TE), X.N = Ng → X.env.scope = sg → (∀ x, X.fn x = true) → PE X call te → PS X st0 (fun D σ H => te σ H fun v H' => D.nx (upJ j σ v) H')
theorem cal_asg {Ng : List Str} {sg : Scope} {a bk : Str} {j : Nat} {p1 p2 bp pos : Pos} (hN : Ng.Nodup) (hj : Ng[j]? = some bk := by rfl) (hl : sg.names.lookup bk = some .local := by rfl)
    (hs : ∀ env, env.scope = sg → swapsWith (.Call (.Name a p1) [] [] p2) (some (.Name bk bp)) pos.line env = pure false := by (intro env h; rfl)) : Cal Ng sg (.Call (.Name a p1) [] [] p2) (.Assign [.Name bk bp] (.Call (.Name a p1) [] [] p2) pos) (some j) := fun X te e1 e2 e3 hp =>
  ps_set (i := j) (by rw [e1]; exact hN) (by rw [e1]; exact hj) (.inl (by show X.env.scope.names.lookup bk = _; rw [e2]; exact hl)) hp (hs _ e2) (.inl (e3 bk))
theorem cal_expr {Ng : List Str} {sg : Scope} {a : Str} {p1 p2 pos : Pos} (hi : ∀ env : Env, env.scope = sg → interactive env = false := by (intro env h; cases env; cases h; rfl)) (hs : ∀ env, env.scope = sg → swapsWith (.Call (.Name a p1) [] [] p2) none pos.line env = pure false := by (intro env h; rfl)) :
    Cal Ng sg (.Call (.Name a p1) [] [] p2) (.Expr (.Call (.Name a p1) [] [] p2) pos) none := fun X te e1 e2 e3 hp => by
  refine ⟨fun pins s σ H D I h => ?_⟩
  have q := (ps_expr (pos := pos) hp).run pins s σ H D I h
  exact q
/-! ### g(lambda: e) -/
def lamG (T : ExT) (n : Nat) (j : Option Nat) (l : List HdF) (rest : XS) (act : Mu → Out D) (m : Mu) : Out D :=
  match (match act m with
    | .ok d m1 => rest (upJ j (List.replicate n none) d) m1
    | .exc c fs m1 => (match tryH T c fs (List.replicate n none) m1 l with
      | .next r m2 => rest r m2
      | o => o)
    | .stuck => .stuck) with
  | .ret d m' => exitD m.length d m'
  | .next _ m' => .ok .non (m'.take m.length)
  | _ => .stuck
def xLam (i : Nat) (me : Str) (T : ExT) (n : Nat) (j : Option Nat) (l : List HdF) (rest : XS) (fb : XE') : XE' := fun r m => match m[i]? with
  | some (.tab z) => if z = me then lamG T n j l rest (fb r) m else .stuck
  | _ => .stuck
def SC.lam (c : SC) (scope : Scope) (k : Nat) : SC := { c with sc := scope, k := k, fnB := fun _ => false, calm := true, hx := none, df := true, me := none }
theorem envN {K : PySem.W.Frag} {F : Hp} {al : List Addr} {n : Nat} {σ : L2.St} (h : σ.length = n) : EnvOk K F al (List.replicate n none) σ := by
  refine ⟨by rw [List.length_replicate, h], fun i d e => ?_⟩
  rw [List.getElem?_replicate] at e
  split at e <;> cases e
theorem EnvOk.upJ {K : PySem.W.Frag} {F : Hp} {al : List Addr} {r : Rho} {σ : L2.St} {d : D} {v : V} (h : EnvOk K F al r σ) (j : Option Nat) (q : Rp K F al d v) : EnvOk K F al (upJ j r d) (upJ j σ v) := by
  cases j with
  | none => exact h
  | some j => exact h.set j q
section
variable {c : SC} {W : WX} {T : ExT} {pos : Pos}
theorem de_lam {x me a : Str} {g : Addr} {fdg : FuncData} {kg kb i : Nat} {Ng : List Str} {pg : Arguments} {sg scope : Scope} {h1 : ExceptHandler} {hs : List ExceptHandler} {rs : List Stmt} {st0 : Stmt} {l : List HdF} {frs : XS} {j : Option Nat} {params : Arguments} {body : Expr} {fb : XE'} {p lpos p1 p2 tp : Pos}
    (hme : c.me = some me) (TB : LamX.TabB c.base c.mg (tabC c.K me) (tabP c.K me)) (hm : c.mg x = some (.ref g)) (FD : FunD c.K x x pg (.Try [st0] (h1 :: hs) [] [] tp :: rs) sg [] [] g fdg) (hb : Binds c.K fdg [a] []) (Sg : FnScope Ng [a] sg) (h0 : Cal Ng sg (.Call (.Name a p1) [] [] p2) st0 j)
    (hd : DHs (c.toB.at Ng sg kg true) T (h1 :: hs) l) (hrs : DSs (c.toB.at Ng sg kg true) (wOf fun _ _ _ => False) rs frs) (hbody : ∀ E : XK, DE (c.lam scope kb) (wOf E) body fb) (hL : LamX.lamSB c.sc scope = true)
    (hr : (max kg (kb + 1)) + 1 ≤ c.k := by exact Nat.le_of_ble_eq_true rfl) (hcm : c.calm = true := by rfl) (hgd : c.gd = true := by rfl) (hg : c.sc.names.lookup x = some .globalImplicit := by rfl) (hNg : Ng[0]? = some a := by rfl) (hva : Vis sg a := by first | exact .inl rfl | exact .inr (.inl rfl))
    (hdef : ∀ env, defaultsOf params env = ([], []) := by intro _; rfl) (hbind : ∀ (q : Str) (cl : List (Str × Addr)) (pm cv ctv : Value), bindArgs (PySem.W.kla_fn "<lambda>" q params body scope cl pm cv ctv) ⟨[], []⟩ = pure [] := by intros; rfl)
    (hdb : (x == ("__debug__" : Str)) = false := by decide) (hda : (a == ("__debug__" : Str)) = false := by decide) (hdc : (a == ("__classdict__" : Str)) = false := by decide) :
    DE c W (.Call (.Name x p) [.Lambda params body scope lpos] [] pos) (xLam i me T Ng.length j l frs fb) := by
  obtain ⟨l', g1, g2⟩ := hds_ok (W := wOf fun _ _ _ => False) hd
  obtain ⟨trs, r1, r2⟩ := hrs
  have hkp := FD.kp
  obtain ⟨oc, od, dV, kV, doc, pm, an, cdv, ct, osl, rfl, lk, hcd, _, _⟩ := FD.ex
  -- what the def makes of the lambda's reading
  let tc : (XK → TE) → L2.St → Addr → Addr → Hp → VK → Prop := fun t σ f c' H Q => (fun (D : Ends) (σZ : L2.St) (HZ : Hp) => σZ[0]? = some (some (.ref f)) ∧ HZ c' = some (LamX.CodeO c' (lamQ me)) ∧ t (WE (wX (wOf fun _ _ _ => False) D l') σZ) σ HZ fun v H' => D.nx (upJ j σZ v) H')
    { nx := trs { nx := fun _ H' => Q .non H', rt := Q }, rt := Q } (L2.start Ng [.ref f]) H
  refine ⟨fun σ H Q => ∃ Tb : List (Addr × Str), (tabP c.K me, lamQ me) ∈ Tb ∧ (∀ p ∈ Tb, p.1 = tabP c.K me → p.2 = lamQ me) ∧ LamX.Tabs Tb H ∧ ∀ H1, LamX.ExtN H H1 → LamX.Tabs Tb H1 → ∀ f c', H1 c' = some (LamX.CodeO c' (lamQ me)) → tc (fun E => (hbody E).choose) σ f c' H1 Q, fun y hy => ⟨fun pins s σ H Q I ⟨Tb, b1, b2, b3, b4⟩ => ?_⟩, fun ρ m σ H F al Q he hw p => ?_⟩
  · obtain ⟨hco, hqu⟩ := hy.me me hme
    have hq : (c.cx y).env.qual ++ "<lambda>" = lamQ me := by show y.env.qual ++ _ = _; rw [hqu]; rfl
    have LS : LamX.LamS (c.cx y).env.scope scope := LamX.lamS_by (by show LamX.lamSB y.env.scope scope = true; rw [hy.scope]; exact hL)
    refine wpAny_Call_Name_kw (ld_glob I (hy.gl hg) hm (PySem.W.callWith_K (h₀ := c.base) I.ok.mod.kin hkp ?_ (by rfl) (by rfl)) hdb)
    show wpAny _ _ (spliced ((false, eval (.Lambda params body scope lpos) (c.cx y).env) :: backTo pos (starEach [] (c.cx y).env))) _ _ s
    refine Calls.spliced_cons (LamX.lam_make2 (X := c.cx y) I TB hco (by rw [hq]; exact b1) (by rw [hq]; exact b2) b3 (hdef _) (LS.has I.ok) fun f c' pm' ctv H1 s1 I1 eN T1 hf hfn hfr hcode => ?_)
    refine Calls.spliced_nil ⟨I1.kIn, ?_⟩
    rw [hq] at hcode
    have h := b4 H1 eN T1 f c' hcode
    have hr1 : Room (max kg (kb + 1) + 1) y.A := hy.rm hcm hr
    have rc : codeAny (model c.P c.w) y.A (.call (.ref g) ⟨[.ref f], []⟩) (CR (L2.CX c.P c.w) y.stack c.P c.w H1 s1 Q (fun _ _ _ => False)) s1 := by
      refine LamX.run_ofS (N := Ng) (ps := [a]) (us := [.ref f]) (vs := [.ref f]) lk hcd Sg hr1 I1.env0 (hb s1 [.ref f] I1.kIn rfl) (.cons rfl .nil) rfl fun hr2 => ?_
      let z : Dyn := { A := y.A.deeper (envOfC x sg s1.heap.objs.size g cdv), s_0 := s1, H_0 := H1, env := envOfC x sg s1.heap.objs.size g cdv, outer := y.stack, stack := envOfC x sg s1.heap.objs.size g cdv :: y.stack, ex := [], fn := fun _ => true, pn := [], xe := (cxOf (L2.CX c.P c.w) c.P c.w c.K c.mg c.base Ng x sg g cdv y.A y.stack s1 H1 (fun _ _ _ => False)).xe }
      have hz : OkD (c.toB.at Ng sg kg true) (wOf fun _ _ _ => False) z := ⟨rfl, L2H.roomH_of (hr2.mono (Nat.le_max_left _ _)), fun _ => hr2.hd, takes_of (X := (c.toB.at Ng sg kg true).cx z) (E := fun _ _ _ => False) rfl rfl rfl rfl, fun _ _ => rfl, fun _ => hy.gd hgd, passes_of (X := (c.toB.at Ng sg kg true).cx z) rfl, (fun _ _ e => nomatch e), (fun _ => ⟨rfl, rfl, rfl⟩), fun _ e => nomatch e⟩
      refine ⟨_, pss_cons (ps_tryX (X := (c.toB.at Ng sg kg true).cx z) (tb := fun W' D σZ HZ => σZ[0]? = some (some (V.ref f)) ∧ HZ c' = some (LamX.CodeO c' (lamQ me)) ∧ (hbody (WE W' σZ)).choose σ HZ fun v H' => D.nx (upJ j σZ v) H') rfl rfl hz.takes (fun W' pn xe tk ow hp => pss_one ⟨fun pins2 s2 σ2 H2 D2 I2 q2 => ?_⟩) (g1 z hz)) (r1 z hz), h⟩
      have pa := pe_act' (X := c.cx y) (Z := ((c.toB.at Ng sg kg true).cx z).tr pn xe) (Eg := fun _ _ _ => False) (i := 0) (k := kb) (p1 := p1) (p2 := p2) (t := fun E => (hbody E).choose) rfl I1 LS hf hfn hfr (hbind _ _ _ _ _) tk (hr2.mono (Nat.le_max_right _ _)) (fun E s3 H3 hr3 => ?_) hNg hva hda hdc
      · rw [hq] at pa
        exact (h0 _ _ rfl rfl (fun _ => rfl) pa).run pins2 s2 σ2 H2 D2 I2 q2
      · let u : Dyn := { A := (y.A.deeper (envOfC x sg s1.heap.objs.size g cdv)).deeper (LamX.lamEnv (c.cx y) scope s3.heap.objs.size f c'), s_0 := s3, H_0 := H3, env := LamX.lamEnv (c.cx y) scope s3.heap.objs.size f c', outer := envOfC x sg s1.heap.objs.size g cdv :: y.stack, stack := LamX.lamEnv (c.cx y) scope s3.heap.objs.size f c' :: envOfC x sg s1.heap.objs.size g cdv :: y.stack, ex := [], fn := fun _ => false, pn := [], xe := (LamX.lamCx (c.cx y) (y.A.deeper (envOfC x sg s1.heap.objs.size g cdv)) (envOfC x sg s1.heap.objs.size g cdv :: y.stack) s3 H3 E scope f c').xe }
        have hu : OkD (c.lam scope kb) (wOf E) u := ⟨rfl, L2H.roomH_of hr3, fun _ => hr3.hd, takes_of (X := (c.lam scope kb).cx u) (E := E) rfl rfl rfl rfl, (fun _ e => Bool.noConfusion (show false = true from e)), fun _ => hy.gd hgd, passes_of (X := (c.lam scope kb).cx u) rfl, (fun _ _ e => nomatch e), (fun _ => ⟨rfl, rfl, rfl⟩), fun _ e => nomatch e⟩
        exact (hbody E).choose_spec.1 u hu
    refine wpAny_call (codeAny_mono rc fun r s2 hq2 => ?_)
    rcases r with e | (_ | _ | _ | u)
    · obtain ⟨_, _, _, _, _, _, _, _, _, _, _, _, z⟩ := hq2
      exact z.elim
    · exact False.elim hq2
    · exact False.elim hq2
    · exact False.elim hq2
    · exact I1.after hq2
  · unfold xLam at p
    split at p
    · rename_i zn hcell
      split at p
      · rename_i ez
        subst ez
        refine ⟨tabsOf c.K m, mem_tabs hcell, hw.tabU hcell, hw.tabs, fun H1 eN T1 f c' hcode => ?_⟩
        obtain ⟨F1, le1, w1, _⟩ := hw.lam eN T1
        have hlen : (L2.start Ng [V.ref f]).length = Ng.length := by
          have hp0 : 0 < Ng.length := (List.getElem?_eq_some_iff.mp hNg).1
          unfold L2.start
          simp
          omega
        refine ⟨?_, hcode, (hbody _).choose_spec.2 ρ m σ H1 F1 al _ (he.up le1) w1 ?_⟩
        · unfold L2.start; rfl
        have p1 : Post c.K (RD c.K) (atS W σ) F1 al Q (lamG T Ng.length j l frs (fb ρ) m) := p.up le1
        have fin : ∀ {o : SO}, Post c.K (RD c.K) (atS W σ) F1 al Q (match o with | .ret d m' => exitD m.length d m' | .next _ m' => .ok .non (m'.take m.length) | _ => .stuck) → PostS c.K (wOf fun _ _ _ => False) F1 al { nx := fun _ H' => Q .non H', rt := Q } o := by
          intro o q
          cases o with
          | ret d m' => exact fun v H2 F2 al2 e2 w2 rv => exit_ok w2 e2 w1.len rv q
          | next r m' => exact fun σ' H2 F2 al2 e2 w2 _ => q _ H2 F2 (al2.take m.length) (e2.cut (Nat.le_of_eq w1.len)) (w2.cut _) .non
          | brk _ _ => exact q.elim
          | cont _ _ => exact q.elim
          | exc _ _ _ _ => exact q.elim
          | stuck => exact q.elim
        unfold lamG at p1
        have p2 := fin p1
        cases e : fb ρ m with
        | stuck => rw [e] at p2; exact p2.elim
        | ok d m1 =>
          rw [e] at p2
          intro v H2 F2 al2 e2 w2 rv
          exact r2 (upJ j (List.replicate Ng.length none) d) m1 _ H2 F2 al2 _ ((envN hlen).upJ j rv) w2 (p2.up e2)
        | exc n fs m1 =>
          rw [e] at p2
          intro dd H2 F2 al2 gs e2 w2 hg2 hd2
          refine g2 n fs (List.replicate Ng.length none) m1 _ H2 F2 al2 _ dd gs (envN hlen) w2 hg2 hd2 ?_
          have p3 : PostS c.K (wOf fun _ _ _ => False) F2 al2 { nx := fun _ H' => Q .non H', rt := Q } (match tryH T n fs (List.replicate Ng.length none) m1 l with | .next r m2 => frs r m2 | o => o) := p2.up e2
          cases e3 : tryH T n fs (List.replicate Ng.length none) m1 l with
          | next r' m' =>
            rw [e3] at p3
            exact fun σ' H' F' al' e w' he' => r2 r' m' σ' H' F' al' _ he' w' (p3.up e)
          | ret d m' => rw [e3] at p3; exact p3
          | brk r' m' => rw [e3] at p3; exact p3
          | cont r' m' => rw [e3] at p3; exact p3
          | exc _ _ _ _ => rw [e3] at p3; exact p3
          | stuck => rw [e3] at p3; exact p3
      · exact p.elim
    · exact p.elim
end
end DS

/-! # XG: defs that make lambdas; the law is called -/
namespace DS
open PySem PySem.Spec PyProof.Rows L2
abbrev Base.atL (b : Base) (N : List Str) (sc : Scope) (k : Nat) (x : Str) : SC := ⟨b.P, b.w, b.K, b.mg, b.base, N, sc, k, fun _ => true, true, true, none, true, some x⟩
theorem tab_code {K : PySem.W.Frag} {x : Str} {oc : Value} {od : Option Addr} {fd : FuncData} {osl : Array (Option Value)} (h : tabB x K = true) (lk : K.lookup (He.ga K x) = some ⟨oc, od, .func fd, osl⟩) : fd.code = .ref (tabC K x) := by
  obtain ⟨h1, _⟩ := He.ba h
  obtain ⟨p, hp⟩ := Option.isSome_iff_exists.mp h1
  unfold tabC
  rw [hp]
  unfold PySem.W.tabIn at hp
  split at hp
  · rename_i f hn
    have e : He.ga K x = f := by unfold He.ga; rw [hn]
    rw [e] at lk
    split at hp
    · rename_i a1 a2 fd' a3 hf
      rw [lk] at hf
      cases hf
      split at hp
      · rename_i c hc
        split at hp
        · split at hp
          · cases hp; exact hc
          · cases hp
        · cases hp
      · cases hp
    · cases hp
  · cases hp
theorem fnG_okL {b : Base} {x : Str} {params : Arguments} {body : List Stmt} {scope : Scope} {dvs : List V} {kws : List (Str × V)} {fd : FuncData} {N ps : List Str} {k : Nat} {g : XS} (keep : Bool) (Fd : FunD b.K x x params body scope dvs kws (He.ga b.K x) fd) (ht : tabB x b.K = true) (S : FnScope N ps scope)
    (h : ∀ E : XK, DSs (b.atL N scope k x) (wOf E) body g) : FnG b (k + 1) (He.ga b.K x) fd ps (fnOf N.length keep g) := by
  refine ⟨fun A out s H ar us vs Q E hr hgd e0 hb r hsp => ?_⟩
  have hl : vs.length = ps.length := RpL.lenV hsp
  obtain ⟨oc, od, dV, kV, doc, pm, an, cdv, ct, osl, rfl, lk, hcd, _, _⟩ := Fd.ex
  have hcode : cdv = .ref (tabC b.K x) := tab_code ht lk
  have kIn : b.K.In s.heap := e0.mod.kin.keeps fun z o q => (e0.bs z o q).1
  have noLim : s.heap.NoLimit := e0.mod.nolimit.keeps fun z o q => (e0.bs z o q).1
  refine codeAny_call_function hr.depth (kIn _ _ lk) rfl S.co S.gen rfl (PySem.W.codeRec_of kIn hcd) (hb _ _ _ _ ?_)
  refine wpAny_newFunctionEnv_cells S.kind (fun z hz => ?_) fun env he s1 hx => ?_
  · obtain ⟨nm, u⟩ := z
    rcases S.par nm (List.of_mem_zip hz).1 with q | q
    · exact .inl q
    · exact .inr ⟨q, PySem.W.cellsFrom_some _ _ _ (.inl q)⟩
  · subst he
    refine ⟨noLim.keeps hx.toInCall.keep, codeAny_func ?_⟩
    let y : Dyn := { A := A.deeper (envOfC x scope s.heap.objs.size (He.ga b.K x) cdv), s_0 := s, H_0 := H, env := envOfC x scope s.heap.objs.size (He.ga b.K x) cdv, outer := out, stack := envOfC x scope s.heap.objs.size (He.ga b.K x) cdv :: out, ex := [], fn := fun _ => true, pn := [], xe := (cxOf (L2.CX b.P b.w) b.P b.w b.K b.mg b.base N x scope (He.ga b.K x) cdv A out s H E).xe }
    have hy : OkD (b.atL N scope k x) (wOf E) y := ⟨rfl, L2H.roomH_of (hr.deeper _), fun _ => hr.hd, takes_of (X := (b.atL N scope k x).cx y) (E := E) rfl rfl rfl rfl, fun _ _ => rfl, fun _ => hgd, passes_of (X := (b.atL N scope k x).cx y) rfl, (fun _ _ z => nomatch z), (fun _ => ⟨rfl, rfl, rfl⟩), fun z e => by
      have e' : x = z := Option.some.inj e
      subst e'
      exact ⟨hcode, rfl⟩⟩
    obtain ⟨t, t1, t2⟩ := h E
    obtain ⟨ds, m, F, al, hlen, rr, w, p⟩ := hsp
    have I : Inv ((b.atL N scope k x).cx y) [] (L2.start N vs) H s1 := inv_start S hr.hd e0 hl r hx
    have q : t { nx := fun _ H' => Q .non H', rt := Q } (L2.start N vs) H := by
      refine t2 (rho0 N.length ds) m (L2.start N vs) H F al _ (env0_ok rr) w ?_
      unfold fnOf at p
      cases q : g (rho0 N.length ds) m with
      | next r' m' =>
        rw [q] at p
        exact fun σ' H' F' al' e w' _ => p _ H' F' (al'.take m.length) (e.cut (Nat.le_of_eq w.len)) (w'.cut _) .non
      | ret d m' =>
        rw [q] at p
        intro v H' F' al' e w' rv
        cases keep with
        | true => exact p v H' F' al' e w' rv
        | false => exact exit_ok w' e w.len rv p
      | exc c fs r' m' =>
        rw [q] at p
        intro dd σ' H' F' al' gs e w' _ hg hd
        have p' : Post b.K (RD b.K) E F al Q (if D.inF m.length fs = true then .exc c fs (m'.take m.length) else .stuck) := p
        split at p'
        · rename_i hi
          exact p' dd H' F' (al'.take m.length) gs (e.cut (Nat.le_of_eq w.len)) (w'.cut _) (hg.cut hi) hd
        · exact p'.elim
      | brk _ _ => rw [q] at p; exact p.elim
      | cont _ _ => rw [q] at p; exact p.elim
      | stuck => rw [q] at p; exact p.elim
    refine wpAny_mono ((t1 y hy).run [] s1 (L2.start N vs) H _ I q) (fun fl s' hs => ?_) fun e s' hs => hs
    cases fl with
    | ret u => exact let ⟨v, _, H', J, rv, q⟩ := hs; ⟨v, H', J.os, J.bare, J.base, J.hok, rv, q⟩
    | next => exact let ⟨_, H', J, q⟩ := hs; ⟨V.non, H', J.os, J.bare, J.base, J.hok, rfl, q⟩
    | brk => exact let ⟨_, _, _, q⟩ := hs; q.elim
    | cont => exact let ⟨_, _, _, q⟩ := hs; q.elim
/-! ### the law is called -/
def mu0 (tb : List Str) : Mu := tb.map Cell.tab
theorem enterT {L : Tl} {P : Program} {w : World} {K : PySem.W.Frag} {mg mb : Str → Option Value} {k : Nat} {fa a : Addr} {fd : FuncData} {x : Str} {G : Fn} {s1 : Shared} {vs : List Value} {ns : List Int}
    (KX : K.In s1.heap) (sy : SaysM L K) (tb : ∀ z ∈ L.tb, s1.heap.get? (tabP K z) = some (PySem.W.tabObj #[])) (hns : s1.heap.Ns mainGlobals mg) (hb : s1.heap.Ns builtinsNs mb) (hbb : ∀ x : Str, x ≠ "__name__" → mb x = bootBuiltins x) (hlim : s1.heap.NoLimit) (hg : s1.gens = #[])
    (hbm : L.tb ≠ [] → ∃ (bm : Addr) (ob : Obj), mg "__builtins__" = some (.ref bm) ∧ bm ≠ builtinsNs ∧ s1.heap.get? bm = some ob ∧ ob.cls = .type "module" ∧ ob.dict = some builtinsNs ∧ ob.data = .plain)
    (ha : s1.heap.get? a = some { cls := .type "list", data := .seq vs.toArray }) (hi : IntsAre vs ns) (hl : ns.length ≤ sizeLine) (hr : Room k callerA)
    (hF : ∀ base : Heap, K.In base → base.Ns mainGlobals mg → (∀ z ∈ L.tb, LamX.TabB base mg (tabC K z) (tabP K z)) → FnG ⟨P, w, K, mg, base⟩ k fa fd [x] G) (hbd : ∀ (s : Shared) (u : Value), BindsTo s fd ⟨[u], []⟩ [(x, u)])
    (hG : ∃ m', G [.fix (ns.map .int)] (mu0 L.tb) = .ok (.bl true) m') :
    codeAny (model P w) callerA (.call (.ref fa) ⟨[.ref a], []⟩) (fun r s' => r = .ok (.ret (.bool true)) ∧ OldK s1.heap s'.heap ∧ s'.os = s1.os ∧ AllBare s'.gens) s1 := by
  have rv := vals_ints hi
  have lenV := hi.length
  obtain ⟨m', hG⟩ := hG
  let PS := L.tb.map (tabP K)
  have isT : ∀ b ∈ PS, s1.heap.get? b = some (PySem.W.tabObj #[]) := fun b hb => by
    obtain ⟨z, hz, e⟩ := List.mem_map.mp hb
    rw [← e]
    exact tb z hz
  have noK : ∀ b ∈ PS, K.lookup b = none := fun b hb => by
    obtain ⟨z, hz, e⟩ := List.mem_map.mp hb
    obtain ⟨_, h2⟩ := He.ba (sy.tb z hz)
    obtain ⟨_, h3⟩ := He.ba h2
    rw [← e]
    cases q : K.lookup (tabP K z) with
    | none => rfl
    | some o => rw [q] at h3; cases h3
  have hdC : ∀ z ∈ L.tb, PySem.W.CodeHd s1.heap (tabC K z) (tabP K z) := fun z hz => by
    obtain ⟨_, h2⟩ := He.ba (sy.tb z hz)
    obtain ⟨h3, _⟩ := He.ba h2
    exact PySem.W.codeHd_of_K KX h3
  have aT : a ∉ PS := fun z => by
    have q := isT a z
    rw [ha] at q
    have z' : Data.seq vs.toArray _ = Data.fields #[] := congrArg Obj.data (Option.some.inj q)
    cases z'
  -- HA: what is known of the script's list alone
  have core : ∀ HA : Hp, (∀ (q : Addr) (u : HO), HA q = some u → q = a ∧ ∃ o xs, u = .frz o (.lst xs)) → SqL K HA a (ns.map V.int) → HOk P w HA s1.heap → (HA a ≠ none → K.lookup a = none) →
      codeAny (model P w) callerA (.call (.ref fa) ⟨[.ref a], []⟩) (fun r s' => r = .ok (.ret (.bool true)) ∧ OldK s1.heap s'.heap ∧ s'.os = s1.os ∧ AllBare s'.gens) s1 := by
    intro HA hone hS hok hK
    let H : Hp := fun b => if b ∈ PS then some (.tbl #[]) else HA b
    have hT : ∀ b, b ∈ PS → H b = some (.tbl #[]) := fun b hb => if_pos hb
    have hN : ∀ b, b ∉ PS → H b = HA b := fun b hb => if_neg hb
    have nA : ∀ b ∈ PS, HA b = none := fun b hb => by
      cases q : HA b with
      | none => rfl
      | some u => exact absurd hb ((hone b u q).1 ▸ aT)
    have sub : ∀ b o, HA b = some o → H b = some o := fun b o e => by
      rw [hN b fun z => by rw [nA b z] at e; cases e]
      exact e
    have cases_ : ∀ {q : Addr} {u : HO}, H q = some u → (q ∈ PS ∧ u = .tbl #[]) ∨ (q = a ∧ ∃ o xs, u = .frz o (.lst xs)) := fun {q u} e => by
      by_cases hq : q ∈ PS
      · rw [hT q hq] at e
        cases e
        exact .inl ⟨hq, rfl⟩
      · rw [hN q hq] at e
        exact .inr (hone q u e)
    have hokH : HOk P w H s1.heap := fun q u e => by
      by_cases hq : q ∈ PS
      · rw [hT q hq] at e
        cases e
        exact isT q hq
      · have e' := e
        rw [hN q hq] at e'
        refine (hok q u e').stay (fun d v _ z => z) (fun d z => sub d _ z) fun d xs z => sub d _ z
    have away : ∀ {q : Addr} {o : Obj}, s1.heap.get? q = some o → (∀ vs n, o.data ≠ .seq vs n) → o.data ≠ .fields #[] → H q = none := fun {q o} e n1 n2 => by
      cases z : H q with
      | none => rfl
      | some u =>
        rcases cases_ z with ⟨h1, _⟩ | ⟨h1, _⟩
        · rw [isT q h1] at e
          cases e
          exact absurd rfl n2
        · rw [h1, ha] at e
          cases e
          exact absurd rfl (n1 _ _)
    have ns' : ∀ {q : Addr} {mm : Str → Option Value}, s1.heap.Ns q mm → (hidT s1.heap H).Ns q mm := fun {q mm} ⟨o, es, ep, e, d, r⟩ => ⟨o, es, ep, hidT_get e (away e (fun vs n z => by rw [d] at z; cases z) fun z => by rw [d] at z; cases z), d, r⟩
    have kb : K.In (hidT s1.heap H) := fun q o e => hidT_get (KX q o e) (by
      cases z : H q with
      | none => rfl
      | some u =>
        rcases cases_ z with ⟨h1, _⟩ | ⟨h1, _⟩
        · rw [noK q h1] at e
          cases e
        · by_cases hq : q ∈ PS
          · rw [noK q hq] at e; cases e
          · rw [hN q hq] at z
            subst h1
            rw [hK (by rw [z]; simp)] at e
            cases e)
    have md : Mod K mg (hidT s1.heap H) := ⟨kb, ns' hns, ⟨mb, ns' hb, hbb⟩, let ⟨mc, h1, h2⟩ := hlim; ⟨mc, ns' h1, h2⟩⟩
    have e0 : Env0 P w K mg (hidT s1.heap H) callerA [] s1 H := ⟨rfl, md, fun q o e => of_hidT e, Nat.le_of_eq (hidT_size _ _), trivial, fun q hq => (by cases hq), hokH, .of_eq hg⟩
    have TB : ∀ z ∈ L.tb, LamX.TabB (hidT s1.heap H) mg (tabC K z) (tabP K z) := fun z hz => by
      have hP : tabP K z ∈ PS := List.mem_map.mpr ⟨z, hz, rfl⟩
      refine ⟨?_, ?_, fun e => ?_⟩
      · obtain ⟨o, us, fl, tf, fg, tg, iF, tx, tt, e1, e2, e3, e4, e5⟩ := hdC z hz
        exact ⟨o, us, fl, tf, fg, tg, iF, tx, tt, hidT_get e1 (away e1 (fun vs n q => by rw [e3] at q; cases q) fun q => by rw [e3] at q; cases q; simp at e4), e2, e3, e4, e5⟩
      · obtain ⟨bm, ob, b1, b2, b3, b4, b5, b6⟩ := hbm (fun e => by rw [e] at hz; cases hz)
        refine ⟨bm, ob, b1, b2, fun q => ?_, fun q => ?_, hidT_get b3 (away b3 (fun vs n q => by rw [b6] at q; cases q) fun q => by rw [b6] at q; cases q), b4, b5, b6⟩
        · obtain ⟨o, es, ep, e, hd, _⟩ := hns
          rw [q, e] at b3
          cases b3
          rw [hd] at b6
          cases b6
        · rw [q, tb z hz] at b3
          cases b3
          cases b6
      · obtain ⟨o, es, ep, q, hd, _⟩ := hns
        rw [e, tb z hz] at q
        cases q
        cases hd
    have hsp : spOf K 1 G [.ref a] H (fun v _ => v = .bl true) fun _ _ _ => False := by
      refine ⟨[.fix (ns.map .int)], mu0 L.tb, HA, PS, rfl, .cons (.fix hS (ints_all ns)) .nil, ⟨sub, by simp [PS, mu0], sy.nd, fun n q c h1 h2 => ?_, fun n c h => ?_, fun q h => by rw [hT q h]; simp, fun q ps e => ?_⟩, ?_⟩
      · have h2' : (L.tb.map Cell.tab)[n]? = some c := h2
        have h1' : (L.tb.map (tabP K))[n]? = some q := h1
        rw [List.getElem?_map] at h1' h2'
        cases z : L.tb[n]? with
        | none => rw [z] at h1'; cases h1'
        | some y =>
          rw [z] at h1' h2'
          cases h1'
          cases h2'
          have hm : tabP K y ∈ PS := List.mem_map.mpr ⟨y, List.mem_of_getElem? z, rfl⟩
          exact ⟨⟨nA _ hm, rfl⟩, #[], hT _ hm, True.intro, fun pos cv hc => by
            have hc' : codeAmong pos [] = some cv := hc
            simp [codeAmong] at hc'⟩
      · have h' : (L.tb.map Cell.tab)[n]? = some c := h
        rw [List.getElem?_map] at h'
        cases z : L.tb[n]? with
        | none => rw [z] at h'; cases h'
        | some y => rw [z] at h'; cases h'; rfl
      · obtain ⟨_, o, xs, e'⟩ := hone q _ e
        cases e'
      · rw [hG]
        intro v H' F' al' _ _ r
        cases r
        rfl
    refine codeAny_mono ((hF _ kb (ns' hns) TB).run callerA [] s1 H ⟨[.ref a], []⟩ [.ref a] [.ref a] _ _ hr rfl e0 (hbd s1 (.ref a)) (.cons rfl .nil) hsp) fun r s' h => ?_
    rcases r with e | (_ | _ | _ | u)
    · exact (noCX h).elim
    · exact h.elim
    · exact h.elim
    · exact h.elim
    · obtain ⟨v, H', os, bare, un, hok', r', q⟩ := h
      have q' : v = .bl true := q
      subst q'
      obtain rfl : u = Value.bool true := r'
      have key : ∀ b o, b ∉ PS → s1.heap.get? b = some o → s'.heap.get? b = some o := fun b o nb e => by
        cases z : H b with
        | none => exact un.keep b o e z (by intro y; cases y) (by simp)
        | some u =>
          rcases cases_ z with ⟨h1, _⟩ | ⟨_, ob, xs, rfl⟩
          · exact absurd h1 nb
          · have z2 := un.frzs b ob _ z
            obtain ⟨e1, _⟩ := hokH b _ z
            obtain ⟨e2, _⟩ := hok' b _ z2
            rw [e] at e1
            cases e1
            exact e2
      have grown : ∀ b ∈ PS, ∃ more : Array Value, s'.heap.get? b = some (PySem.W.tabObj more) := fun b hb => by
        obtain ⟨more, z⟩ := un.tbls b #[] (hT b hb)
        exact ⟨_, hok' b _ z⟩
      refine ⟨rfl, ⟨fun b o e => ?_, fun b o e => ?_⟩, os, bare⟩
      · by_cases hb : b ∈ PS
        · obtain ⟨z, hz, ez⟩ := List.mem_map.mp hb
          obtain ⟨more, hm⟩ := grown b hb
          subst ez
          rw [tb z hz] at e
          cases e
          exact .inr (.inl ⟨((hdC z hz).tab (tb z hz)).isCodeTable, rfl, #[], more, rfl, by rw [Array.empty_append]; exact hm⟩)
        · exact .inl (key b o hb e)
      · by_cases hb : b ∈ PS
        · obtain ⟨more, hm⟩ := grown b hb
          exact ⟨_, hm⟩
        · exact ⟨o, key b o hb e⟩
  cases hk : K.lookup a with
  | some o =>
    have e := KX a o hk
    rw [ha] at e
    cases e
    exact core (fun _ => none) (fun q u z => by cases z) (.inr ⟨_, vs.toArray, _, hk, rfl, rfl, rfl, by rw [List.size_toArray, lenV]; exact hl, by simpa using rv⟩) (fun q u z => by cases z) fun z => absurd rfl z
  | none =>
    refine core (fun q => if q = a then some (.frz { cls := .type "list", data := .seq vs.toArray } (.lst (ns.map V.int))) else none) (fun q u z => ?_) (.inl (.inr ⟨{ cls := .type "list", data := .seq vs.toArray }, if_pos rfl⟩)) (fun q u z => ?_) fun _ => hk
    · by_cases hq : q = a
      · have z' := (if_pos hq).symm.trans z
        cases z'
        exact ⟨hq, _, _, rfl⟩
      · have z' := (if_neg hq).symm.trans z
        cases z'
    · by_cases hq : q = a
      · have z' := (if_pos hq).symm.trans z
        cases z'
        subst hq
        exact ⟨ha, by rw [List.length_map]; exact hl, vs, _, rv, ha⟩
      · have z' := (if_neg hq).symm.trans z
        cases z'
theorem walkT {l : PySem.W.OpenLaw} {n k : Nat} {q : Program} {loose : List Str} {XP : (Str → Option Value) → Heap → Prop} {L : Tl} {N : Nat} {d : DefRec} {x : Str} {G : Fn}
    (hn : l.most = some n) (hn2 : n ≤ sizeLine) (hdf : d.params.defaults = []) (hd : d.name = ("law" : Str)) (hr : Room k callerA) (hfl : ((l.prog.main.file : Str) == L.file) = true) (hsup : (l.prog.main.scope.names.lookup ("super" : Str)).isSome = false)
    {pa : Arguments} {bd : List Stmt} {sc : Scope} (hfun : ∀ K : PySem.W.Frag, SaysM L K → ∃ fd : FuncData, FunD K "law" "law" pa bd sc [] [] (He.ga K "law") fd)
    (hF : ∀ (b : Base), b.P = l.prog → Tx L b → ∀ fd : FuncData, FunD b.K "law" "law" pa bd sc [] [] (He.ga b.K "law") fd → (∀ (s : Shared) (u : Value), BindsTo s fd ⟨[u], []⟩ [(x, u)]) ∧ FnG b k (He.ga b.K "law") fd [x] G)
    (hfd : ∃ f : Nat, L.fa[f]? = some (.glo "law"))
    (hG : ∀ ns : List Int, ns.length ≤ n → ∃ m', G [.fix (ns.map .int)] (mu0 L.tb) = .ok (.bl true) m') :
    PySem.W.WalkO q loose XP (hookM N L).says l.row.toRowW d [] (fun f vs => PySem.call f vs) := by
  refine Att.attach_call hn hdf fun w s0 s1 mg mb f o pm cd doc a vs ns Gr Y ho hd' hcd hmg hobj hints hlen hg => ?_
  obtain ⟨K, KX, c, tb⟩ := Y
  obtain ⟨i, hi⟩ := hfd
  rw [hd] at hmg
  have e := hmg.symm.trans (He.glo_ok KX Gr.T.g (c.c.fact i hi))
  cases e
  have T : ∀ base : Heap, K.In base → base.Ns mainGlobals mg → (∀ z ∈ L.tb, LamX.TabB base mg (tabC K z) (tabP K z)) → Tx L ⟨l.prog, w, K, mg, base⟩ := fun base h1 h2 h3 => ⟨c, ⟨base, h1, h2⟩, h3, hfl, hsup⟩
  obtain ⟨fd, hfd'⟩ := hfun K c
  refine enterT (fd := fd) (x := x) KX c tb Gr.T.g Gr.T.b Gr.T.builtins Gr.T.nolimit hg (fun _ => Gr.T.bmain) hobj hints (Nat.le_trans hlen hn2) hr (fun base h1 h2 h3 => (hF ⟨l.prog, w, K, mg, base⟩ rfl (T base h1 h2 h3) fd hfd').2) ?_ (hG ns hlen)
  intro s u
  obtain ⟨oc, od, dV, kV, doc, pm, an, cdv, ct, osl, rfl, lk, hcd, _, _⟩ := hfd'.ex
  have TB : ∀ z ∈ L.tb, LamX.TabB s1.heap mg (tabC K z) (tabP K z) := fun z hz => by
    obtain ⟨_, h2⟩ := He.ba (c.tb z hz)
    obtain ⟨h3, _⟩ := He.ba h2
    refine ⟨PySem.W.codeHd_of_K KX h3, ?_, fun e => ?_⟩
    · obtain ⟨bm, ob, b1, b2, b3, b4, b5, b6⟩ := Gr.T.bmain
      refine ⟨bm, ob, b1, b2, fun q => ?_, fun q => ?_, b3, b4, b5, b6⟩
      · obtain ⟨o, es, ep, e, hd, _⟩ := Gr.T.g
        rw [q, e] at b3
        cases b3
        rw [hd] at b6
        cases b6
      · rw [q, tb z hz] at b3
        cases b3
        cases b6
    · obtain ⟨o, es, ep, q, hd, _⟩ := Gr.T.g
      rw [e, tb z hz] at q
      cases q
      cases hd
  exact (hF ⟨l.prog, w, K, mg, s1.heap⟩ rfl (T s1.heap KX Gr.T.g TB) _ hfd').1 s u
end DS

/-! # XH: pop at an index, repr and truth of own objects, keywords of methods -/
namespace DS
open PySem PySem.Spec PyProof.Rows L2
variable {c : SC} {W : WX} {pos : Pos} {a b e : Expr} {fa fb : XE'} {fr : XA}
/-! ### l.pop(i) -/
theorem inL_eraseIdx {n : Nat} : ∀ {xs : List D} {k : Nat}, D.inL n xs = true → D.inL n (xs.eraseIdx k) = true
  | [], _, h => h
  | x :: r, 0, h => by
    rw [D.inL, Bool.and_eq_true] at h
    exact h.2
  | x :: r, k + 1, h => by
    rw [D.inL, Bool.and_eq_true] at h
    show D.inL n (x :: r.eraseIdx k) = true
    rw [D.inL, h.1, inL_eraseIdx h.2]; rfl
theorem RpL.eraseIdx {K : PySem.W.Frag} {F : Hp} {al : List Addr} : ∀ {ds : List D} {vs : List V} (k : Nat), RpL K F al ds vs → RpL K F al (ds.eraseIdx k) (vs.eraseIdx k)
  | _, _, _, .nil => .nil
  | _, _, 0, .cons r q => q
  | _, _, k + 1, .cons r q => .cons r (RpL.eraseIdx k q)
def popIF (ds : List D) (m : Mu) : Out D := match ds with
  | [.loc n, .int i] => (match m[n]? with
    | some (.lst xs) => if -(2 ^ 63) ≤ i ∧ i < 2 ^ 63 then (match seqIndex? i xs.length with
      | some k => (match xs[k]? with
        | some d => .ok d (m.set n (.lst (xs.eraseIdx k)))
        | none => .stuck)
      | none => .stuck) else .stuck
    | _ => .stuck)
  | _ => .stuck
theorem m_popI : MethD c "list.pop" popIF := by
  refine ⟨rPopAt, fun W y hy => mt_popAt, fun W o ds m x vs H F al Q hw r1 r p => ?_⟩
  unfold popIF at p
  split at p
  · rename_i n i heq
    simp only [List.cons.injEq] at heq
    obtain ⟨rfl, rfl⟩ := heq
    cases r1 with
    | @loc _ ad s =>
    cases r with
    | cons ri r =>
    cases r
    cases ri
    cases hc : m[n]? with
    | none => rw [hc] at p; exact p.elim
    | some cl =>
      cases cl with
      | ins _ _ => rw [hc] at p; exact p.elim
      | dct _ => rw [hc] at p; exact p.elim
      | dead => rw [hc] at p; exact p.elim
      | tab _ => rw [hc] at p; exact p.elim
      | lst acc =>
        rw [hc] at p
        simp only at p
        obtain ⟨hf, ws, h4, h5⟩ := hw.cell _ _ _ s hc
        have hg : D.inL n acc = true := hw.gen _ _ hc
        split at p
        · rename_i hb
          split at p
          · rename_i k hk
            split at p
            · rename_i d hd
              obtain ⟨z, h6, h7⟩ := h5.get hd
              exact ⟨ad, ws, i, k, z, rfl, rfl, h4, hb.1, hb.2, by rw [← h5.len]; exact hk, h6, p _ _ F al Le.refl (hw.write (c := .lst (acc.eraseIdx k)) s hf ⟨hf, _, upd_same, h5.eraseIdx k⟩ (inL_eraseIdx hg)) h7⟩
            · exact p.elim
          · exact p.elim
        · exact p.elim
  · exact p.elim
/-! ### repr(o) by the class's own __repr__ -/
theorem call_reprO {X : Cx} {CX : CXT} {C f : Addr} {fd : FuncData} {ps : List Str} {sp : Sp} {n : Nat} {E : XK} (F : FnOk X.prog X.w X.K X.mg X.base CX n f fd ps sp) (hs : PySem.W.findIn X.K (.ref C) "__repr__" = some (some (.ref f))) (hf : PySem.W.isFn X.K (.ref f) = true) (hb : Binds X.K fd ps []) (hx : Passes CX X E) (hr : Room (n + 1) X.A) :
    CallR X (.builtin "repr") (fun vs H Q => ∃ a dx fs, vs = [.ref a] ∧ H a = some (.ins C dx fs) ∧ sp [.ref a] H (fun v H' => (∃ y, v = .str y) ∧ Q v H') E) := by
  intro pins s σ H vs us Q I rv q
  obtain ⟨a, dx, fs, rfl, ha, hsp⟩ := q
  obtain ⟨u, rfl, ru⟩ := vals1 rv
  obtain rfl : u = Value.ref a := ru
  obtain ⟨mA, J, _⟩ := ins_get I.hok ha
  obtain ⟨od, J, _⟩ := J.look
  obtain ⟨m, hF⟩ := I.fr
  have hr1 : Room n X.A.in1 := hr.in1
  refine PySem.W.repr_K hr1.units0 hF I.ok.mod.kin J hs hf ?_
  have hl := F.len _ _ _ _ hsp
  have r2 : Vals [V.ref a] [Value.ref a] := .cons rfl .nil
  refine wpAny_call (codeAny_mono (F.run X.A.in1 X.stack s H ⟨[.ref a], []⟩ [.ref a] [.ref a] _ E hr1 I.env0.in1 (by
    have := hb s [.ref a] I.kIn (by simpa using hl)
    simpa using this) r2 hsp) fun r s' hq => ?_)
  cases r with
  | error e => exact hx pins σ H s e s' I hq
  | ok fl =>
    cases fl with
    | ret w =>
      obtain ⟨z, H', I', rz, ⟨y, ez⟩, ex⟩ := I.after hq
      subst ez
      obtain ⟨t, rfl⟩ := rz
      exact ⟨.str y, H', I', ⟨t, rfl⟩, ex⟩
    | next => exact False.elim hq
    | brk => exact False.elim hq
    | cont => exact False.elim hq
theorem b_reprO {cn : Str} {k : Nat} {f : Addr} {fd : FuncData} {ps : List Str} {G : Fn} (hF : FOk c k f fd ps G) (hm : Meth c.K (He.ga c.K cn) "__repr__" f) (hb : Binds c.K fd ps []) (hr : k + 1 ≤ c.k := by exact Nat.le_of_ble_eq_true rfl) (hcm : c.calm = true := by rfl) (hl : 1 = ps.length := by rfl) : CallD c (.builtin "repr") (strO cn G) := by
  refine ⟨_, fun W y hy => call_reprO (X := c.cx y) (C := He.ga c.K cn) (E := fun _ _ _ => False) hF hm.at_ hm.fn hb (fun pins σ H s e s' I h => ?_) (hy.rm hcm hr), fun W ds m vs H F al Q hw r p => ?_⟩
  · obtain ⟨_, _, _, _, _, _, _, _, _, _, _, _, _, _, _, _, q⟩ := XE.of_call (W := fun _ _ _ _ => False) I (fun _ _ _ h => h) h
    exact q.elim
  · unfold strO at p
    split at p
    · cases r with
      | cons q1 r =>
      cases r
      split at p
      · rename_i c' gs hi
        obtain ⟨q, dx, fs, rfl, h1, h2⟩ := insOf_ok hw q1 hi
        split at p
        · rename_i hcl
          subst hcl
          refine ⟨q, dx, fs, rfl, h1, [_], m, F, al, hl, .cons q1 .nil, hw, ?_⟩
          split at p
          · rename_i y m' e
            rw [e]
            intro v H' F' al' e1 w1 r1
            cases r1
            exact ⟨⟨_, rfl⟩, p _ H' F' al' e1 w1 (.str _)⟩
          · exact p.elim
        · exact p.elim
      · exact p.elim
    · exact p.elim
/-! ### truth of an own object -/
def truB (cn : Str) (K : PySem.W.Frag) : Bool := He.eqO (PySem.W.findIn K (.ref (He.ga K cn)) "__bool__") (some none) && He.eqO (PySem.W.findIn K (.ref (He.ga K cn)) "__len__") (some none)
def boolO (cn : Str) (ds : List D) (m : Mu) : Out D := match ds with
  | [d] => (match insOf m d with
    | some (c', _) => if c' = cn then .ok (.bl true) m else .stuck
    | none => .stuck)
  | _ => .stuck
theorem truthy_own0 {M : Model} {A : Around} {E : Value → Shared → Prop} {s : Shared} {K : PySem.W.Frag} {x C : Addr} {ox : Obj} {od : Option Obj} {Q : Bool → Shared → Prop} (X : K.In s.heap) (I : PySem.W.InstAt s.heap x ox C od) (hs : PySem.W.findIn K (.ref C) "__bool__" = some none) (hl : PySem.W.findIn K (.ref C) "__len__" = some none) (h : Q true s) : wpAny M A (truthy (.ref x)) Q E s := by
  unfold truthy
  refine wpAny_bind (m := callSpecial? (.ref x) (Str.ofString "__bool__")) (wpAny_bind (wpAny_bind (I.type.here ((PySem.W.looks_findIn X hs).here (wpAny_pure ?_)))))
  refine wpAny_bind (wpAny_bind (I.type.here ((PySem.W.looks_findIn X hl).here ?_)))
  exact wpAny_pure h
theorem meets_bool_own (x C : Addr) (K : PySem.W.Frag) (hs : PySem.W.findIn K (.ref C) "__bool__" = some none) (hl : PySem.W.findIn K (.ref C) "__len__" = some none) :
    Meets (Builtin.«bool.__new__» ⟨[.type "bool", .ref x], []⟩) (fun _ R s => K.In s.heap ∧ (∃ ox od, PySem.W.InstAt s.heap x ox C od) ∧ R (.ok (.ret (.bool true))) s) :=
  Meets.of_wp fun prog w A R s hq => by
    obtain ⟨X, ⟨ox, od, I⟩, hq⟩ := hq
    have f1 := F.conv_sub_bool
    have ht : ∀ {M : Model} {A : Around} {E : Value → Shared → Prop} {Q : Bool → Shared → Prop}, Q true s → wpAny M A (truthy (.ref x)) Q E s := fun h => truthy_own0 X I hs hl h
    repeat (any_goals (first | assumption | (with_reducible refine ht ?_) | wp_step))
    all_goals first | exact ⟨_, rfl, hq⟩ | exact hq | skip
theorem call_boolO {X : Cx} {C : Addr} (hs : PySem.W.findIn X.K (.ref C) "__bool__" = some none) (hl : PySem.W.findIn X.K (.ref C) "__len__" = some none) : CallR X (.type "bool") (fun vs H Q => ∃ a dx fs, vs = [.ref a] ∧ H a = some (.ins C dx fs) ∧ Q (.bl true) H) := by
  intro pins s σ H vs us Q I rv q
  obtain ⟨a, dx, fs, rfl, ha, hq⟩ := q
  obtain ⟨u, rfl, ru⟩ := vals1 rv
  obtain rfl : u = Value.ref a := ru
  obtain ⟨mA, J, _⟩ := ins_get I.hok ha
  obtain ⟨od, J, _⟩ := J.look
  exact call_bool_1 (meets_bool_own a C X.K hs hl) ⟨I.kIn, ⟨_, _, J⟩, rfl, .bl true, H, I, rfl, hq⟩
theorem b_boolO {cn : Str} (h : truB cn c.K = true) : CallD c (.type "bool") (boolO cn) := by
  obtain ⟨h1, h2⟩ := He.ba h
  refine ⟨_, fun W y hy => call_boolO (X := c.cx y) (C := He.ga c.K cn) (He.eqO_ok h1) (He.eqO_ok h2), fun W ds m vs H F al Q hw r p => ?_⟩
  unfold boolO at p
  split at p
  · cases r with
    | cons q1 r =>
    cases r
    split at p
    · rename_i c' gs hi
      obtain ⟨q, dx, fs, rfl, h3, h4⟩ := insOf_ok hw q1 hi
      split at p
      · rename_i hcl
        subst hcl
        exact ⟨q, dx, fs, rfl, h3, p _ H F al Le.refl hw (.bl _)⟩
      · exact p.elim
    · exact p.elim
  · exact p.elim
/-- an own object as a test -/
def xTruO (cn : Str) (f : XE') : XT := fun r m => (f r m).bind fun d m1 => match insOf m1 d with
  | some (c', _) => if c' = cn then .ok true m1 else .stuck
  | none => .stuck
theorem tru_own {X : Cx} {C : Addr} (hs : PySem.W.findIn X.K (.ref C) "__bool__" = some none) (hl : PySem.W.findIn X.K (.ref C) "__len__" = some none) : TruR X (fun x H Q => ∃ a dx fs, x = .ref a ∧ H a = some (.ins C dx fs) ∧ Q true H) := by
  intro pins s σ H x v Q I rx h
  obtain ⟨a, dx, fs, rfl, ha, q⟩ := h
  cases rx
  obtain ⟨mA, J, _⟩ := ins_get I.hok ha
  obtain ⟨od, J, _⟩ := J.look
  exact truthy_own0 I.kIn J hs hl ⟨H, I, q⟩
theorem dt_own {cn : Str} (ht : truB cn c.K = true) (h : DE c W e fa) (he : ∀ env whole, isTrue e env whole = (do let v ← whole; standAt e.pos; holding [v] (truthy v)) := by intro _ _; rfl) : DT c W e (xTruO cn fa) := by
  obtain ⟨h1, h2⟩ := He.ba ht
  obtain ⟨t, a1, a2⟩ := h
  refine ⟨_, fun y hy => pt_truthR (X := c.cx y) (a1 y hy) (tru_own (C := He.ga c.K cn) (He.eqO_ok h1) (He.eqO_ok h2)) (he _), fun ρ m σ H F al Q ho hw p => ?_⟩
  refine a2 ρ m σ H F al _ ho hw (Post.step p fun d m1 v H1 F1 al1 e1 w1 q1 p1 => ?_)
  split at p1
  · rename_i c' gs hi
    obtain ⟨q, dx, fs, rfl, h3, h4⟩ := insOf_ok w1 q1 hi
    split at p1
    · rename_i hcl
      subst hcl
      exact ⟨q, dx, fs, rfl, h3, p1 true H1 F1 al1 Le.refl w1 rfl⟩
    · exact p1.elim
  · exact p1.elim
/-! ### o.m(k = v, ..), C(k = v, ..) -/
variable {o : Expr} {fo : XE'} {x : Str} {p0 apos : Pos} {k : Nat} {f : Addr} {fd : FuncData} {ps : List Str} {G : Fn}
theorem kbn1_of {K : PySem.W.Frag} {x qual : Str} {params : Arguments} {body : List Stmt} {scope : Scope} {f : Addr} {fd : FuncData} {ps ks : List Str} (sh : {α : Type} → List α → List α) (F : FunD K x qual params body scope [] [] f fd)
    (h : ∀ (kV doc pm : Value) (an : Option Addr) (cdv ct : Value) (u : Value) (ws : List Value), ws.length = ks.length → bindArgs (PySem.W.fnOf x qual params body scope .none kV doc pm an cdv ct) ⟨[u], ks.zip ws⟩ = pure (ps.zip (u :: sh ws))) (hrel : ∀ {zs : List V} {ws : List Value}, Vals zs ws → Vals (sh zs) (sh ws)) : KBn K fd ps 1 ks (fun us ws => us ++ sh ws) (fun vs zs => vs ++ sh zs) := by
  obtain ⟨oc, od, dV, kV, doc, pm, an, cdv, ct, osl, rfl, lk, hcd, hD, hK⟩ := F.ex
  rcases hD with ⟨_, rfl⟩ | ⟨e, _⟩
  · refine ⟨fun s us ws _ l1 l2 => ?_, fun r1 r => r1.append (hrel r)⟩
    obtain ⟨u, rfl⟩ := List.length_eq_one_iff.mp l1
    exact .of_eq (h kV doc pm an cdv ct u ws l2)
  · exact absurd rfl e
def xMethK (cn m : Str) (G : Fn) (sh : List D → List D) (o : XE') (a : XA) : XE' := fun r mu => (o r mu).bind fun d m1 => match insOf m1 d with
  | some (c', gs) => if c' = cn ∧ gs.lookup m = none then (a r m1).bind fun zs m2 => G (d :: sh zs) m2 else .stuck
  | none => .stuck
theorem de_methK {cn m : Str} {ks : List Str} {kws : List Keyword} {fk : XA} (sh : {α : Type} → List α → List α) (hF : FOk c k f fd ps G) (hc : Cls c.K (He.ga c.K cn)) (hm : Meth c.K (He.ga c.K cn) m f) (hb : KBn c.K fd ps 1 ks (fun us ws => us ++ sh ws) (fun vs zs => vs ++ sh zs)) (hsh : ∀ F al (zs : List D) (ws : List V), zs.length = kws.length → RpL c.K F al zs ws → RpL c.K F al (sh zs) (sh ws)) (hl : ∀ zs : List D, zs.length = kws.length → (sh zs).length + 1 = ps.length) (ho : DE c W o fo) (hkw : DK c W kws fk)
    (hr : k ≤ c.k := by exact Nat.le_of_ble_eq_true rfl) (hcm : c.calm = true := by rfl)
    (hall : ∀ env, (backToKw pos (keywordEach kws env)).all (·.1.isSome) = true := by intro _; rfl) (hks : ∀ env, (backToKw pos (keywordEach kws env)).filterMap (·.1) = ks := by intro _; rfl) (hkl : kws.length = ks.length := by rfl)
    (hpl : ∀ env, ((backTo pos (starEach [] env)).any (·.1) || (backToKw pos (keywordEach kws env)).any (·.1.isNone)) = false := by intro _; rfl)
    (ht : ∀ env, ∃ pl : Sem Bool, eval (.Call (.Attribute o m apos) [] kws pos) env = (do
      let ov ← eval o env
      standAt apos.atName
      let (f, first) ← holding [ov] (getMethod ov m pl)
      callWith pos f first (backTo pos (starEach [] env)) (backToKw pos (keywordEach kws env))) := by intro _; exact ⟨_, rfl⟩) : DE c W (.Call (.Attribute o m apos) [] kws pos) (xMethK cn m G sh fo fk) := by
  obtain ⟨to, o1, o2⟩ := ho
  obtain ⟨⟨tk, k1, k2⟩, hlenk⟩ := hkw
  refine ⟨fun σ H Q => to σ H fun w H1 => ∃ a dx fs, w = .ref a ∧ H1 a = some (.ins (He.ga c.K cn) dx fs) ∧ fs.lookup m = none ∧ tk σ H1 fun zs H2 => zs.length = ks.length ∧ spOf c.K ps.length G ([w] ++ sh zs) H2 Q (WE W σ), fun y hy => ⟨fun pins s σ H Q I h => ?_⟩, fun ρ mu σ H F al Q he hw p => ?_⟩
  · obtain ⟨pl, ht⟩ := ht (c.cx y).env
    refine PySem.W.methodCall_KW (pl := pl) (thn ((o1 y hy).run pins s σ H _ I h) fun u s1 ⟨w, H1, I1, rw', a, dx, fs, ew, ea, hl', q⟩ => ?_) ht
    subst ew
    obtain rfl : u = Value.ref a := rw'
    refine getmeth_ok I1 ea hc hm hl' (PySem.W.callWith_KW0 (first := [.ref a]) (h₀ := c.base) I.ok.mod.kin hm.kp (hall _) (thn ((k1 y hy).run pos pins s1 σ H1 _ I1 q) fun ws s2 ⟨zs, H2, I2, rz, lz, q2⟩ => ⟨I2.kIn, ?_⟩) (hpl _))
    rw [hks]
    exact run_kwS (X := c.cx y) (E := WE W) (us := [.ref a]) (vs := [.ref a]) hF (hy.rm hcm hr) hb (passAt hy.takes σ) I2 (.cons rfl .nil) rz rfl lz q2
  · refine o2 ρ mu σ H F al _ he hw (Post.step p fun d m1 v H1 F1 al1 e1 w1 q1 p1 => ?_)
    split at p1
    · rename_i c' gs hi
      obtain ⟨q, dx, fs, rfl, h1, h2⟩ := insOf_ok w1 q1 hi
      split at p1
      · rename_i hcl
        obtain ⟨rfl, hlk⟩ := hcl
        refine ⟨q, dx, fs, rfl, h1, (h2.look (x := m)).1 hlk, k2 ρ m1 σ H1 F1 al1 _ (he.up e1) w1 (Post.step (p1.lenA fun ds m' e => hlenk ρ m1 ds m' e) fun zs m2 ws H2 F2 al2 e2 w2 q2 p2 => ?_)⟩
        split at p2
        · rename_i hn
          exact ⟨by rw [← q2.len, hn]; exact hkl, d :: sh zs, m2, F2, al2, by rw [List.length_cons]; exact hl zs hn, .cons (q1.up e2) (hsh F2 al2 zs ws hn q2), w2, p2⟩
        · exact p2.elim
      · exact p1.elim
    · exact p1.elim
def xMakeN (cn : Str) (G : Fn) (frz : Bool) (sh : List D → List D) (b : XA) : XE' := fun r m => (b r m).bind fun zs m2 => makeD cn G frz (sh zs) m2
theorem de_makeN {cn : Str} {frz : Bool} {ks : List Str} {kws : List Keyword} {fk : XA} (sh : {α : Type} → List α → List α) (hF : FOk c k f fd ps G) (hM : Mk c.K (He.ga c.K cn) f) (hm : c.mg x = some (.ref (He.ga c.K cn))) (hb : KBn c.K fd ps 1 ks (fun us ws => us ++ sh ws) (fun vs zs => vs ++ sh zs)) (hsh : ∀ F al (zs : List D) (ws : List V), zs.length = kws.length → RpL c.K F al zs ws → RpL c.K F al (sh zs) (sh ws)) (hl : ∀ zs : List D, zs.length = kws.length → (sh zs).length + 1 = ps.length) (hkw : DK c W kws fk)
    (hr : k + 1 ≤ c.k := by exact Nat.le_of_ble_eq_true rfl) (hcm : c.calm = true := by rfl) (hg : c.sc.names.lookup x = some .globalImplicit := by rfl)
    (hall : ∀ env, (backToKw pos (keywordEach kws env)).all (·.1.isSome) = true := by intro _; rfl) (hks : ∀ env, (backToKw pos (keywordEach kws env)).filterMap (·.1) = ks := by intro _; rfl) (hkl : kws.length = ks.length := by rfl)
    (hdb : (x == ("__debug__" : Str)) = false := by decide) (hpl : ∀ env, ((backTo pos (starEach [] env)).any (·.1) || (backToKw pos (keywordEach kws env)).any (·.1.isNone)) = false := by intro _; rfl) : DE c W (.Call (.Name x p0) [] kws pos) (xMakeN cn G frz sh fk) := by
  obtain ⟨⟨tk, k1, k2⟩, hlenk⟩ := hkw
  refine ⟨fun σ H Q => tk σ H fun zs H2 => zs.length = ks.length ∧ ∀ x dx, H2 x = none → H2 dx = none → dx ≠ x → spOf c.K ps.length G (.ref x :: sh zs) (upd (upd H2 dx (.own x)) x (.ins (He.ga c.K cn) dx [])) (fun v H3 => v = .non ∧ Q (.ref x) H3) (WE W σ), fun y hy => ⟨fun pins s σ H Q I h => ?_⟩, fun ρ m σ H F al Q he hw p => ?_⟩
  · refine wpAny_Call_Name_kw (ld_glob I (hy.gl hg) hm (PySem.W.callWith_KW0 (h₀ := c.base) I.ok.mod.kin hM.kp (hall _) (thn ((k1 y hy).run pos pins s σ H _ I h) fun ws s2 ⟨zs, H2, I2, rz, l2, q2⟩ => ⟨I2.kIn, ?_⟩) (hpl _)) hdb)
    rw [hks]
    exact run_mkS (X := c.cx y) (E := WE W) (us := []) (B := fun z => .ref z :: sh ws) (Bv := fun z => .ref z :: sh zs) hM hF (hy.rm hcm hr) (fun s3 z kI => hb.to s3 [.ref z] ws kI rfl (rz.length.symm.trans l2)) (passAt hy.takes σ) I2 (fun z => hb.rel (vs := [.ref z]) (us := [.ref z]) (.cons rfl .nil) rz) q2
  · refine k2 ρ m σ H F al _ he hw (Post.step (p.lenA fun ds m' e => hlenk ρ m ds m' e) fun zs m2 ws H2 F2 al2 e2 w2 q2 p2 => ?_)
    split at p2
    · rename_i hn
      exact ⟨by rw [← q2.len, hn]; exact hkl, fun x dx hx hdx hne => make_ok (hl zs hn) w2 (hsh F2 al2 zs ws hn q2) p2 x dx hx hdx hne⟩
    · exact p2.elim
/-! ### a == b by the class's own __eq__ -/
def eqO (cn : Str) (G : Fn) (d e : D) (m : Mu) : Out D := match insOf m d, insOf m e with
  | some (c1, _), some (c2, _) => if c1 = cn ∧ c2 = cn then (match G [d, e] m with
    | .ok (.bl k) m' => .ok (.bl k) m'
    | _ => .stuck) else .stuck
  | _, _ => .stuck
theorem op_eqO {cn : Str} (hF : FOk c k f fd ps G) (hm : Meth c.K (He.ga c.K cn) "__eq__" f) (hb : Binds c.K fd ps []) (hr : k ≤ c.k := by exact Nat.le_of_ble_eq_true rfl) (hcm : c.calm = true := by rfl) (hl : 2 = ps.length := by rfl) : OpD c (compareOp .Eq) (eqO cn G) := by
  refine ⟨fun x z H Q => ∃ a b dx dy fs gs, x = .ref a ∧ z = .ref b ∧ H a = some (.ins (He.ga c.K cn) dx fs) ∧ H b = some (.ins (He.ga c.K cn) dy gs) ∧ spOf c.K ps.length G [.ref a, .ref b] H (fun v H' => (∃ k, v = .bl k) ∧ Q v H') (fun _ _ _ => False), fun W y hy => ?_, fun W d e m x z H F al Q hw r1 r2 p => ?_⟩
  · intro pins s σ H x z v u Q I rx rz h
    obtain ⟨a, b, dx, dy, fs, gs, rfl, rfl, ha, hb', hsp⟩ := h
    cases rx
    cases rz
    obtain ⟨mA, J, _⟩ := ins_get I.hok ha
    obtain ⟨mB, J', _⟩ := ins_get I.hok hb'
    obtain ⟨od, J, _⟩ := J.look
    obtain ⟨od', J', _⟩ := J'.look
    obtain ⟨m, hFr⟩ := I.fr
    have hrr : Room k y.A := hy.rm hcm hr
    show wpAny (model c.P c.w) y.A (richCompare .Eq (.ref a) (.ref b)) _ _ s
    refine PySem.W.cmp_K (op := .Eq) (tb := .ref (He.ga c.K cn)) hrr.units0 hFr I.ok.mod.kin J J'.type (by simp [PySem.W.notFirst]) hm.at_ hm.fn ?_
    have r2 : Vals [V.ref a, V.ref b] [Value.ref a, Value.ref b] := .cons rfl (.cons rfl .nil)
    refine wpAny_call (codeAny_mono (hF.run y.A (c.cx y).stack s H ⟨[.ref a, .ref b], []⟩ [.ref a, .ref b] [.ref a, .ref b] _ (fun _ _ _ => False) hrr I.env0 (by
      have := hb s [.ref a, .ref b] I.kIn (by simpa using hl)
      simpa using this) r2 hsp) fun r s' hq => ?_)
    cases r with
    | error e =>
      obtain ⟨_, _, _, _, _, _, _, _, _, _, _, _, _, _, _, _, q⟩ := XE.of_call (W := fun _ _ _ _ => False) I (fun _ _ _ h => h) hq
      exact q.elim
    | ok fl =>
      cases fl with
      | ret w =>
        obtain ⟨z, H', I', rz, ⟨kk, ez⟩, ex⟩ := I.after hq
        subst ez
        cases rz
        exact ⟨.bl kk, H', I', rfl, ex⟩
      | next => exact False.elim hq
      | brk => exact False.elim hq
      | cont => exact False.elim hq
  · unfold eqO at p
    split at p
    · rename_i c1 g1 c2 g2 h1 h2
      obtain ⟨q1, dx, fs, rfl, h3, h4⟩ := insOf_ok hw r1 h1
      obtain ⟨q2, dy, gs, rfl, h5, h6⟩ := insOf_ok hw r2 h2
      split at p
      · rename_i hcl
        obtain ⟨e1, e2⟩ := hcl
        rw [e1] at h3
        rw [e2] at h5
        refine ⟨q1, q2, dx, dy, fs, gs, rfl, rfl, h3, h5, [d, e], m, F, al, hl, .cons r1 (.cons r2 .nil), hw, ?_⟩
        split at p
        · rename_i y m' eq
          rw [eq]
          intro v H' F' al' e1 w1 r1
          cases r1
          exact ⟨⟨_, rfl⟩, p _ H' F' al' e1 w1 (.bl _)⟩
        · exact p.elim
      · exact p.elim
    · exact p.elim
/-! ### a + b of lists, as a new list that will change -/
def addN (d e : D) (m : Mu) : Out D := match ownOf m d, ownOf m e with
  | some xs, some ys => if xs.length + ys.length ≤ sizeLine ∧ D.inL m.length (xs ++ ys) = true then .ok (.loc m.length) (m ++ [.lst (xs ++ ys)]) else .stuck
  | _, _ => .stuck
theorem op_addN : OpD c (binaryOp .Add) addN := by
  refine ⟨rCat, fun W y hy => op_cat, fun W d e m x y H F al Q hw r1 r2 p => ?_⟩
  unfold addN at p
  split at p
  · rename_i xs ys h1 h2
    obtain ⟨a, vs, rfl, ha, qa⟩ := ownOf_ok hw r1 h1
    obtain ⟨b, ws, rfl, hb, qb⟩ := ownOf_ok hw r2 h2
    split at p
    · rename_i hl
      exact ⟨a, b, vs, ws, rfl, rfl, ha, hb, by rw [← qa.len, ← qb.len]; exact hl.1, fun n hn => p _ _ F (al ++ [n]) Le.snoc (hw.newCell hn ⟨hw.fnone hn, _, upd_same, (qa.append qb).up Le.snoc⟩ hl.2) (.loc (by rw [← hw.len, List.getElem?_append_right (Nat.le_refl _), Nat.sub_self]; rfl))⟩
    · exact p.elim
  · exact p.elim
end DS

/-! # XI: list.index, list.count (flat items), tuple.index, order of texts -/
namespace DS
open PySem PySem.Spec PyProof.Rows L2
section
variable {c : SC} {W : WX} {pos apos : Pos}
/-! ### list.index -/
def lixF (ds : List D) (m : Mu) : Out D := match ds with
  | [l, y] => (match lstOf m l with
    | some xs => if flatD y && xs.all flatD then (match xs.findIdx? (fun z => eqF z y) with
      | some j => .ok (.int (j : Nat)) m
      | none => .stuck) else .stuck
    | none => .stuck)
  | _ => .stuck
theorem m_lix : MethD c "list.index" lixF := by
  refine ⟨rIndex c.K, fun W y hy => mt_index (X := c.cx y), fun W o ds m x vs H F al Q hw ro r p => ?_⟩
  unfold lixF at p
  split at p
  · rename_i l y e
    cases e
    cases r with
    | @cons _ vy _ _ ry r =>
    cases r
    split at p
    · rename_i xs hl
      split at p
      · rename_i hf
        rw [Bool.and_eq_true] at hf
        split at p
        · rename_i j hj
          obtain ⟨a, ws, rfl, s, q⟩ := lstOf_ok hw ro hl
          obtain ⟨hjl, hj1, hj2⟩ := List.findIdx?_eq_some_iff_getElem.mp hj
          obtain ⟨w, hw1, rw1⟩ := q.get (List.getElem?_eq_getElem hjl)
          have fl := fun (k : Nat) (hk : k < xs.length) => List.all_eq_true.mp hf.2 xs[k] (List.getElem_mem _)
          refine ⟨a, ws, vy, j, w, rfl, rfl, s, ry.flat hf.1, q.flat hf.2, hw1, ?_, fun k z' hk hz => ?_, p _ H F al Le.refl hw (.int _)⟩
          · rw [Rp.eqF rw1 ry (fl j hjl) hf.1]
            exact hj1
          · have hkl : k < xs.length := Nat.lt_trans hk hjl
            obtain ⟨w2, h1, h2⟩ := q.get (List.getElem?_eq_getElem hkl)
            rw [hz] at h1
            cases h1
            rw [Rp.eqF h2 ry (fl k hkl) hf.1]
            simpa using hj2 k hk
        · exact p.elim
      · exact p.elim
    · exact p.elim
  · exact p.elim
/-! ### list.count -/
def rCntF (K : PySem.W.Frag) : V → List V → Hp → VK → Prop := fun x xs H Q => ∃ (p : Addr) (ys : List V) (y : V), x = .ref p ∧ xs = [y] ∧ SqL K H p ys ∧ flatV y = true ∧ ys.all flatV = true ∧ Q (.int (ys.countP (fun z => eqV z y) : Nat)) H
theorem eqU_count {y : V} : ∀ {us : List Value} {ys : List V}, Vals ys us → ys.all flatV = true → us.countP (eqU y) = ys.countP (fun z => eqV z y)
  | _, _, .nil, _ => rfl
  | _, _, .cons r q, h => by
    rw [List.all_cons, Bool.and_eq_true] at h
    rw [List.countP_cons, List.countP_cons, eqU_count q h.2, eqU_of r h.1]
theorem mt_lcntF {X : Cx} : MtR X "list.count" (rCntF X.K) := by
  intro pins s σ H x xs v us Q I rx rxs h
  obtain ⟨p, ys, y, rfl, rfl, hs, fy, fys, q⟩ := h
  cases rx
  obtain ⟨u, rfl, ru⟩ := rxs.one
  obtain ⟨its, rv, ⟨⟨cls, dd, data, sl⟩, n, ho, hc, hdn, hd⟩, hlen⟩ := I.list hs
  simp only at hc hd
  subst hc hd
  refine call_meets PySem.F.slot_list_count ⟨_, ho, rfl⟩ PySem.F.entry_list_count (PySem.F.args_list_count_2 _ _)
    (SeqAt.list_countAt p its.toArray n dd sl u (eqU y)) ⟨ho, fun u' hu' => mem_eqAt ru fy rv fys u' (by simpa using hu'), ?_⟩
  have ec : its.toArray.toList.countP (eqU y) = ys.countP (fun z => eqV z y) := eqU_count rv fys
  refine ⟨.int (ys.countP (fun z => eqV z y) : Nat), H, I.tok _, ⟨s.toks, ?_⟩, q⟩
  show Value.int ((its.toArray.toList.countP (eqU y) : Nat) : Int) s.toks = Value.int ((ys.countP (fun z => eqV z y) : Nat) : Int) s.toks
  rw [ec]
def lcntF (ds : List D) (m : Mu) : Out D := match ds with
  | [l, y] => (match lstOf m l with
    | some xs => if flatD y && xs.all flatD then .ok (.int (xs.countP (fun z => eqF z y) : Nat)) m else .stuck
    | none => .stuck)
  | _ => .stuck
theorem RpL.cntF {K : PySem.W.Frag} {F : Hp} {al : List Addr} {d : D} {v : V} (r : Rp K F al d v) (hd : flatD d = true) : ∀ {ds : List D} {vs : List V}, RpL K F al ds vs → ds.all flatD = true → vs.countP (fun z => eqV z v) = ds.countP fun e => DS.eqF e d
  | _, _, .nil, _ => rfl
  | _, _, .cons r' q, h => by
    rw [List.all_cons, Bool.and_eq_true] at h
    rw [List.countP_cons, List.countP_cons, RpL.cntF r hd q h.2, Rp.eqF r' r h.1 hd]
theorem m_lcnt : MethD c "list.count" lcntF := by
  refine ⟨rCntF c.K, fun W y hy => mt_lcntF (X := c.cx y), fun W o ds m x vs H F al Q hw ro r p => ?_⟩
  unfold lcntF at p
  split at p
  · rename_i l y e
    cases e
    cases r with
    | @cons _ vy _ _ ry r =>
    cases r
    split at p
    · rename_i xs hl
      split at p
      · rename_i hf
        rw [Bool.and_eq_true] at hf
        obtain ⟨a, ws, rfl, s, q⟩ := lstOf_ok hw ro hl
        refine ⟨a, ws, vy, rfl, rfl, s, ry.flat hf.1, q.flat hf.2, ?_⟩
        rw [RpL.cntF ry hf.1 q hf.2]
        exact p _ H F al Le.refl hw (.int _)
      · exact p.elim
    · exact p.elim
  · exact p.elim
/-! ### order of texts -/
def cmpS (g : List Nat → List Nat → Bool) (d e : D) (m : Mu) : Out D := match d, e with
  | .str a, .str b => .ok (.bl (g a.cps.toList b.cps.toList)) m
  | _, _ => .stuck
theorem opd_cmpS {f : Value → Value → Sem Value} {g : List Nat → List Nat → Bool} (h : ∀ X : Cx, OpR X f (fun x y H Q => ∃ i j, x = .str i ∧ y = .str j ∧ Q (.bl (g i.cps.toList j.cps.toList)) H)) : OpD c f (cmpS g) := by
  refine ⟨_, fun W y hy => h _, fun W d e m x y H F al Q hw r1 r2 p => ?_⟩
  unfold cmpS at p
  split at p
  · cases r1; cases r2
    exact ⟨_, _, rfl, rfl, p _ H F al Le.refl hw (.bl _)⟩
  · exact p.elim
def ltS : D → D → Mu → Out D := cmpS fun i j => decide (i < j)
def leS : D → D → Mu → Out D := cmpS fun i j => !decide (j < i)
def gtS : D → D → Mu → Out D := cmpS fun i j => decide (j < i)
def geS : D → D → Mu → Out D := cmpS fun i j => !decide (i < j)
theorem op_ltS : OpD c (compareOp .Lt) ltS := opd_cmpS fun _ => op_lt_str
theorem op_leS : OpD c (compareOp .LtE) leS := opd_cmpS fun _ => op_le_str
theorem op_gtS : OpD c (compareOp .Gt) gtS := opd_cmpS fun _ => op_gt_str
theorem op_geS : OpD c (compareOp .GtE) geS := opd_cmpS fun _ => op_ge_str
end
end DS

/-! # XJ: a def that calls its argument in a try, as one fact -/
namespace DS
open PySem PySem.Spec PyProof.Rows L2
def Catch (b : Base) (x a : Str) (g : Addr) (Ng : List Str) (kg : Nat) (T : ExT) (j : Option Nat) (l : List HdF) (frs : XS) : Prop :=
  ∃ (fdg : FuncData) (pg : Arguments) (sg : Scope) (h1 : ExceptHandler) (hs : List ExceptHandler) (rs : List Stmt) (st0 : Stmt) (p1 p2 tp : Pos), FunD b.K x x pg (.Try [st0] (h1 :: hs) [] [] tp :: rs) sg [] [] g fdg ∧ Binds b.K fdg [a] [] ∧ FnScope Ng [a] sg ∧
    Cal Ng sg (.Call (.Name a p1) [] [] p2) st0 j ∧ DHs (b.at Ng sg kg true) T (h1 :: hs) l ∧ DSs (b.at Ng sg kg true) (wOf fun _ _ _ => False) rs frs ∧ Vis sg a ∧ Ng[0]? = some a
section
variable {c : SC} {W : WX} {T : ExT} {pos : Pos}
theorem de_lamC {x me a : Str} {g : Addr} {kg kb i n : Nat} {Ng : List Str} {scope : Scope} {l : List HdF} {frs : XS} {j : Option Nat} {params : Arguments} {body : Expr} {fb : XE'} {p lpos : Pos}
    (C : Catch c.toB x a g Ng kg T j l frs) (hn : Ng.length = n) (hme : c.me = some me) (TB : LamX.TabB c.base c.mg (tabC c.K me) (tabP c.K me)) (hm : c.mg x = some (.ref g)) (hbody : ∀ E : XK, DE (c.lam scope kb) (wOf E) body fb) (hL : LamX.lamSB c.sc scope = true)
    (hr : (max kg (kb + 1)) + 1 ≤ c.k := by exact Nat.le_of_ble_eq_true rfl) (hcm : c.calm = true := by rfl) (hgd : c.gd = true := by rfl) (hg : c.sc.names.lookup x = some .globalImplicit := by rfl)
    (hdef : ∀ env, defaultsOf params env = ([], []) := by intro _; rfl) (hbind : ∀ (q : Str) (cl : List (Str × Addr)) (pm cv ctv : Value), bindArgs (PySem.W.kla_fn "<lambda>" q params body scope cl pm cv ctv) ⟨[], []⟩ = pure [] := by intros; rfl)
    (hdb : (x == ("__debug__" : Str)) = false := by decide) (hda : (a == ("__debug__" : Str)) = false := by decide) (hdc : (a == ("__classdict__" : Str)) = false := by decide) :
    DE c W (.Call (.Name x p) [.Lambda params body scope lpos] [] pos) (xLam i me T n j l frs fb) := by
  subst hn
  obtain ⟨fdg, pg, sg, h1, hs, rs, st0, p1, p2, tp, FD, hb, Sg, h0, hd, hrs, hva, hNg⟩ := C
  exact de_lam hme TB hm FD hb Sg h0 hd hrs hbody hL hr hcm hgd hg hNg hva hdef hbind hdb hda hdc
end
end DS

namespace J
open PySem PySem.Spec PyProof.Rows L2 DS
def cs : List Str := ["Book", "Clause"]
def exT : ExT := [("NotRight", ["NotRight"], ["ValueError"]), ("InvalidText", ["InvalidText", "NotRight"], ["ValueError"]), ("InvalidCount", ["InvalidCount", "NotRight"], ["ValueError"]), ("InvalidPlace", ["InvalidPlace", "NotRight"], ["ValueError"]), ("InvalidClaim", ["InvalidClaim", "NotRight"], ["ValueError"]), ("NotABook", ["NotABook", "NotRight"], ["ValueError"]), ("InvalidPlans", ["InvalidPlans", "NotRight"], ["ValueError"]), ("InvalidPieces", ["InvalidPieces", "NotRight"], ["ValueError"]), ("NotThere", ["NotThere"], ["LookupError"]), ("UnknownPlan", ["UnknownPlan", "NotThere"], ["LookupError"]), ("CannotBe", ["CannotBe"], ["ArithmeticError"]), ("TooLong", ["TooLong", "CannotBe"], ["ArithmeticError"]), ("IsOver", ["IsOver", "CannotBe"], ["ArithmeticError"]), ("NothingToUndo", ["NothingToUndo", "CannotBe"], ["ArithmeticError"]), ("Broken", ["Broken", "CannotBe"], ["ArithmeticError"])]
def exBs : List String := ["ValueError", "LookupError", "ArithmeticError"]
def exFs : List Str := ["given", "index", "most", "shown"]
def B__law_error (k : Hx) : XS := (sSeq (sAsg (xLst (xaCons (xCall (isiX k exT exBs) (xaCons (xVar 0) (xaCons (xC (.glo "InvalidText")) xaNil))) (xaCons (xCall (isiX k exT exBs) (xaCons (xVar 0) (xaCons (xC (.glo "InvalidCount")) xaNil))) (xaCons (xCall (isiX k exT exBs) (xaCons (xVar 0) (xaCons (xC (.glo "InvalidPlace")) xaNil))) xaNil)))) (gNm 1))
  (sSeq (sAsg (xOp addD (xVar 1) (xLst (xaCons (xCall (isiX k exT exBs) (xaCons (xVar 0) (xaCons (xC (.glo "InvalidClaim")) xaNil))) (xaCons (xCall (isiX k exT exBs) (xaCons (xVar 0) (xaCons (xC (.glo "NotABook")) xaNil))) (xaCons (xCall (isiX k exT exBs) (xaCons (xVar 0) (xaCons (xC (.glo "InvalidPlans")) xaNil))) xaNil))))) (gNm 1))
  (sSeq (sAsg (xOp addD (xVar 1) (xLst (xaCons (xCall (isiX k exT exBs) (xaCons (xVar 0) (xaCons (xC (.glo "InvalidPieces")) xaNil))) (xaCons (xCall (isiX k exT exBs) (xaCons (xVar 0) (xaCons (xC (.glo "UnknownPlan")) xaNil))) (xaCons (xCall (isiX k exT exBs) (xaCons (xVar 0) (xaCons (xC (.glo "TooLong")) xaNil))) xaNil))))) (gNm 1))
  (sSeq (sAsg (xOp addD (xVar 1) (xLst (xaCons (xCall (isiX k exT exBs) (xaCons (xVar 0) (xaCons (xC (.glo "IsOver")) xaNil))) (xaCons (xCall (isiX k exT exBs) (xaCons (xVar 0) (xaCons (xC (.glo "NothingToUndo")) xaNil))) (xaCons (xCall (isiX k exT exBs) (xaCons (xVar 0) (xaCons (xC (.glo "Broken")) xaNil))) xaNil))))) (gNm 1))
  (sSeq (sAsg (xLst (xaCons (xCall (isiX k exT exBs) (xaCons (xVar 0) (xaCons (xC (.glo "NotRight")) xaNil))) (xaCons (xCall (isiX k exT exBs) (xaCons (xVar 0) (xaCons (xC (.glo "NotThere")) xaNil))) (xaCons (xCall (isiX k exT exBs) (xaCons (xVar 0) (xaCons (xC (.glo "CannotBe")) xaNil))) xaNil)))) (gNm 2))
  (sSeq (sAsg (xLst (xaCons (xCall (isiX k exT exBs) (xaCons (xVar 0) (xaCons (xC (.ty "ValueError")) xaNil))) (xaCons (xCall (isiX k exT exBs) (xaCons (xVar 0) (xaCons (xC (.ty "LookupError")) xaNil))) (xaCons (xCall (isiX k exT exBs) (xaCons (xVar 0) (xaCons (xC (.ty "ArithmeticError")) xaNil))) xaNil)))) (gNm 3))
  (sSeq (sIf (xOrT (xTest (xOp neD (xBM "list" lcntF (xVar 1) (xaCons (xC (.bl true)) xaNil)) (xC (.int 1)))) (xTest (xOp neD (xVar 3) (xVar 2)))) (sRet (xLst (xaCons (xC (.str "odd")) (xaCons (xC (.str "")) xaNil)))) sNil)
  (sSeq (sAsg (xBM "list" lixF (xVar 1) (xaCons (xC (.bl true)) xaNil)) (gNm 4))
  (sSeq (sIf (xTest (xOp neD (xVar 2) (xLst (xaCons (xOp ltD (xVar 4) (xC (.int 7))) (xaCons (xOp eqD (xVar 4) (xC (.int 7))) (xaCons (xOp gtD (xVar 4) (xC (.int 7))) xaNil)))))) (sRet (xLst (xaCons (xC (.str "odd")) (xaCons (xC (.str "")) xaNil)))) sNil)
  (sSeq (sAsg (xLst (xaCons (xC (.str "InvalidText")) (xaCons (xC (.str "InvalidCount")) (xaCons (xC (.str "InvalidPlace")) (xaCons (xC (.str "InvalidClaim")) (xaCons (xC (.str "NotABook")) (xaCons (xC (.str "InvalidPlans")) xaNil))))))) (gNm 5))
  (sSeq (sAsg (xOp addD (xVar 5) (xLst (xaCons (xC (.str "InvalidPieces")) (xaCons (xC (.str "UnknownPlan")) (xaCons (xC (.str "TooLong")) (xaCons (xC (.str "IsOver")) (xaCons (xC (.str "NothingToUndo")) (xaCons (xC (.str "Broken")) xaNil)))))))) (gNm 5))
  (sSeq (sIf (xOrT (xTest (xOp ltD (xVar 4) (xC (.int 5)))) (xTest (xOp eqD (xVar 4) (xC (.int 7))))) (sRet (xLst (xaCons (xOp ixD (xVar 5) (xVar 4)) (xaCons (xCall reprF (xaCons (xExF k exT "given" (xVar 0)) xaNil)) xaNil)))) sNil)
  (sSeq (sIf (xTest (xOp ltD (xVar 4) (xC (.int 7)))) (sRet (xLst (xaCons (xOp ixD (xVar 5) (xVar 4)) (xaCons (xCall reprF (xaCons (xExF k exT "index" (xVar 0)) xaNil)) xaNil)))) sNil)
  (sSeq (sIf (xTest (xOp eqD (xVar 4) (xC (.int 8)))) (sRet (xLst (xaCons (xOp ixD (xVar 5) (xVar 4)) (xaCons (xCall reprF (xaCons (xExF k exT "most" (xVar 0)) xaNil)) xaNil)))) sNil)
  (sRet (xLst (xaCons (xOp ixD (xVar 5) (xVar 4)) (xaCons (xIf (xTest (xOp eqD (xVar 4) (xC (.int 11)))) (xCall reprF (xaCons (xLst (xaCons (xExF k exT "index" (xVar 0)) (xaCons (xExF k exT "shown" (xVar 0)) xaNil))) xaNil)) (xC (.str ""))) xaNil))))))))))))))))))
def F__law_error (k : Hx) : Fn := fnOf 6 false (B__law_error k)
def L__law_caught : List HdF := [(["NotRight", "NotThere", "CannotBe"], some 2, fun k => (sRet (xCallX (F__law_error k) (xaCons (xVar 2) xaNil))))]
def R__law_caught : XS := (sRet (xLst (xaCons (xC (.str "told")) (xaCons (xCall reprF (xaCons (xVar 1) xaNil)) xaNil))))
def B_Book_plans : XS := (sRet (xFld "Book" "held" (xVar 0)))
def F_Book_plans : Fn := fnOf 1 false B_Book_plans
def B_meet : XS := (sRet (xOr (xOp neD (xFld "Clause" "step" (xVar 0)) (xFld "Clause" "step" (xVar 1))) (xOp eqD (xFld "Clause" "rest" (xVar 0)) (xFld "Clause" "rest" (xVar 1)))))
def F_meet : Fn := fnOf 2 false B_meet
def B_Clause_D_initD_ : XS := (sSeq (sFl "Clause" "word" (xVar 0) (xVar 1))
  (sSeq (sFl "Clause" "rest" (xVar 0) (xVar 2))
  (sSeq (sFl "Clause" "step" (xVar 0) (xVar 3))
  (sSeq (sFl "Clause" "side" (xVar 0) (xVar 4))
  (sSeq (sFl "Clause" "far" (xVar 0) (xVar 5))
  (sFl "Clause" "goal" (xVar 0) (xVar 6)))))))
def F_Clause_D_initD_ : Fn := fnOf 7 false B_Clause_D_initD_
def B_is_integer : XS := (sRet (xAnd (xCall (isiF cs) (xaCons (xVar 0) (xaCons (xC (.ty "int")) xaNil))) (xNot (xCall (isiF cs) (xaCons (xVar 0) (xaCons (xC (.ty "bool")) xaNil))))))
def F_is_integer : Fn := fnOf 1 false B_is_integer
def B_is_between : XS := (sRet (xAnd (xCall F_is_integer (xaCons (xVar 0) xaNil)) (xChain leD leD (xVar 1) (xVar 0) (xVar 2))))
def F_is_between : Fn := fnOf 3 false B_is_between
def B_digit_of : XS := (sRet (xIf (xAndT (xTest (xOp eqD (xCall lenD (xaCons (xVar 0) xaNil)) (xC (.int 1)))) (xTest (xOp inD (xVar 0) (xC (.str "0123456789"))))) (xCall intF (xaCons (xVar 0) xaNil)) (xC .non)))
def F_digit_of : Fn := fnOf 1 false B_digit_of
def B_class_of : XS := (sSeq (sIf (xOrT (xTest (xOp neD (xCall lenD (xaCons (xVar 0) xaNil)) (xC (.int 3)))) (xTest (xOp neD (xOp ixD (xVar 0) (xC (.int 1))) (xC (.str "of"))))) (sRet (xC .non)) sNil)
  (sSeq (sPar 1 2 (xaCons (xCall F_digit_of (xaCons (xOp ixD (xVar 0) (xC (.int 0))) xaNil)) (xaCons (xCall F_digit_of (xaCons (xOp ixD (xVar 0) (xC (.int 2))) xaNil)) xaNil)))
  (sSeq (sIf (xOrT (xNotT (xTest (xCall F_is_between (xaCons (xVar 2) (xaCons (xC (.int 1)) (xaCons (xC (.int 3)) xaNil)))))) (xNotT (xTest (xCall F_is_between (xaCons (xVar 1) (xaCons (xC (.int 0)) (xaCons (xOp subD (xVar 2) (xC (.int 1))) xaNil))))))) (sRet (xC .non)) sNil)
  (sRet (xTup (xaCons (xVar 1) (xaCons (xVar 2) xaNil)))))))
def F_class_of : Fn := fnOf 3 false B_class_of
def B_is_name : XS := (sSeq (sIf (xOrT (xNotT (xTest (xCall (isiF cs) (xaCons (xVar 0) (xaCons (xC (.ty "str")) xaNil))))) (xOrT (xNotT (xTest (xChain ltD ltD (xC (.int 0)) (xCall lenD (xaCons (xVar 0) xaNil)) (xC (.int 9))))) (xTest (xOp ninD (xOp ixD (xVar 0) (xC (.int 0))) (xC (.str "abcdefghijklmnopqrstuvwxyz")))))) (sRet (xC (.bl false))) sNil)
  (sRet (xCall allF (xaCons (xLc (xiSeq (xVar 0)) [1] (gNm 1) xYes (xOr (xOp inD (xVar 1) (xC (.str "abcdefghijklmnopqrstuvwxyz"))) (xOp inD (xVar 1) (xC (.str "0123456789"))))) xaNil))))
def F_is_name : Fn := fnOf 2 false B_is_name
def B_read_call : XS := (sSeq (sAsg (xCall F_class_of (xaCons (xSl (xVar 0) (xoS (xC (.int 3))) xoN) xaNil)) (gNm 1))
  (sSeq (sIf (xOrT (xTest (xOp isD (xVar 1) (xC .non))) (xOrT (xTest (xOp neD (xOp ixD (xVar 0) (xC (.int 2))) (xC (.str "on")))) (xNotT (xTest (xCall F_is_name (xaCons (xOp ixD (xVar 0) (xC (.int 1))) xaNil)))))) (sRet (xC .non)) sNil)
  (sSeq (sAsg (xVar 1) (gTp 2 (gsCons (gNm 2) (gsCons (gNm 3) gsNil))))
  (sRet (xMakeK "Clause" F_Clause_D_initD_ true [.non, .non] (xaCons (xC (.str "call")) (xaCons (xVar 2) (xaCons (xVar 3) xaNil))) (xaCons (xOp ixD (xVar 0) (xC (.int 1))) xaNil))))))
def F_read_call : Fn := fnOf 4 false B_read_call
def B_read_clause : XS := (sSeq (sAsg (xBM "str" splitF (xVar 0) (xaCons (xC (.str " ")) xaNil)) (gNm 1))
  (sSeq (sIf (xTest (xOp eqD (xOp ixD (xVar 1) (xC (.int 0))) (xC (.str "call")))) (sRet (xCall F_read_call (xaCons (xVar 1) xaNil))) sNil)
  (sSeq (sAsg (xCall F_class_of (xaCons (xSl (xVar 1) (xoS (xC (.int 1))) (xoS (xC (.int 4)))) xaNil)) (gNm 2))
  (sSeq (sIf (xTest (xOp isD (xVar 2) (xC .non))) (sRet (xC .non)) sNil)
  (sSeq (sAsg (xVar 2) (gTp 2 (gsCons (gNm 3) (gsCons (gNm 4) gsNil))))
  (sSeq (sIf (xTest (xOp eqD (xOp ixD (xVar 1) (xC (.int 0))) (xC (.str "clear")))) (sRet (xIf (xTest (xOp eqD (xCall lenD (xaCons (xVar 1) xaNil)) (xC (.int 4)))) (xMakeD "Clause" F_Clause_D_initD_ true [.non, .non, .non] (xaCons (xC (.str "clear")) (xaCons (xVar 3) (xaCons (xVar 4) xaNil)))) (xC .non))) sNil)
  (sSeq (sIf (xOrT (xTest (xOp ninD (xOp ixD (xVar 1) (xC (.int 0))) (xTup (xaCons (xC (.str "join")) (xaCons (xC (.str "take")) xaNil))))) (xOrT (xTest (xOp neD (xCall lenD (xaCons (xVar 1) xaNil)) (xC (.int 6)))) (xTest (xOp ninD (xOp ixD (xVar 1) (xC (.int 4))) (xTup (xaCons (xC (.str "left")) (xaCons (xC (.str "right")) xaNil))))))) (sRet (xC .non)) sNil)
  (sSeq (sAsg (xCall F_digit_of (xaCons (xOp ixD (xVar 1) (xC (.int 5))) xaNil)) (gNm 5))
  (sRet (xIf (xTest (xCall F_is_between (xaCons (xVar 5) (xaCons (xC (.int 1)) (xaCons (xC (.int 4)) xaNil))))) (xMakeD "Clause" F_Clause_D_initD_ true [.non] (xaCons (xOp ixD (xVar 1) (xC (.int 0))) (xaCons (xVar 3) (xaCons (xVar 4) (xaCons (xOp ixD (xVar 1) (xC (.int 4))) (xaCons (xVar 5) xaNil)))))) (xC .non)))))))))))
def F_read_clause : Fn := fnOf 6 false B_read_clause
def B_read_clauses : XS := (sSeq (sIf (xNotT (xTest (xCall (isiF cs) (xaCons (xVar 0) (xaCons (xC (.ty "str")) xaNil))))) (sRet (xC .non)) sNil)
  (sSeq (sAsg (xLc (xiSeq (xBM "str" splitF (xVar 0) (xaCons (xC (.str "; ")) xaNil))) [5] (gNm 5) xYes (xCall F_read_clause (xaCons (xVar 5) xaNil))) (gNm 1))
  (sSeq (sIf (xOrT (xTest (xOp gtD (xCall lenD (xaCons (xVar 1) xaNil)) (xC (.int 3)))) (xTest (xCall anyF (xaCons (xLc (xiSeq (xVar 1)) [4] (gNm 4) xYes (xOp isD (xVar 4) (xC .non))) xaNil)))) (sRet (xC .non)) sNil)
  (sSeq (sAsg (xLc (xiSeq (xVar 1)) [4] (gNm 4) (xTest (xOp eqD (xFld "Clause" "word" (xVar 4)) (xC (.str "call")))) (xVar 4)) (gNm 2))
  (sSeq (sIf (xTest (xChain ltD ltD (xC (.int 0)) (xCall lenD (xaCons (xVar 2) xaNil)) (xCall lenD (xaCons (xVar 1) xaNil)))) (sRet (xC .non)) sNil)
  (sSeq (sFor (xiEnum' (xaCons (xVar 1) xaNil)) (gTp 2 (gsCons (gNm 3) (gsCons (gNm 4) gsNil)))
  (sIf (xTest (xCall anyF (xaCons (xLc (xiSeq (xSl (xVar 1) xoN (xoS (xVar 3)))) [6] (gNm 6) xYes (xCall F_meet (xaCons (xVar 4) (xaCons (xVar 6) xaNil)))) xaNil))) (sRet (xC .non)) sNil))
  (sRet (xVar 1))))))))
def F_read_clauses : Fn := fnOf 7 false B_read_clauses
def B_read_round : XS := (sSeq (sAsg (xCall F_read_clauses (xaCons (xVar 0) xaNil)) (gNm 3))
  (sSeq (sIf (xTest (xOp isD (xVar 3) (xC .non))) (sRet (xC .non)) sNil)
  (sSeq (sFor (xiSeq (xVar 3)) (gNm 4)
  (sIf (xAndT (xTest (xOp eqD (xFld "Clause" "word" (xVar 4)) (xC (.str "call")))) (xOrT (xTest (xOp ninD (xFld "Clause" "goal" (xVar 4)) (xVar 1))) (xAndT (xTest (xOp eqD (xFld "Clause" "step" (xVar 4)) (xC (.int 1)))) (xTest (xOp inD (xFld "Clause" "goal" (xVar 4)) (xVar 2)))))) (sRet (xC .non)) sNil))
  (sRet (xVar 3)))))
def F_read_round : Fn := fnOf 5 false B_read_round
def B_read_goal : XS := (sSeq (sIf (xNotT (xTest (xCall (isiF cs) (xaCons (xVar 0) (xaCons (xC (.ty "str")) xaNil))))) (sRet (xC .non)) sNil)
  (sSeq (sIf (xTest (xOp inD (xVar 0) (xTup (xaCons (xC (.str "all")) (xaCons (xC (.str "before")) xaNil))))) (sRet (xTup (xaCons (xVar 0) (xaCons (xC .non) xaNil)))) sNil)
  (sSeq (sAsg (xIf (xTest (xOp eqD (xSl (xVar 0) xoN (xoS (xC (.int 5)))) (xC (.str "last ")))) (xCall F_digit_of (xaCons (xSl (xVar 0) (xoS (xC (.int 5))) xoN) xaNil)) (xC .non)) (gNm 1))
  (sRet (xIf (xTest (xCall F_is_between (xaCons (xVar 1) (xaCons (xC (.int 1)) (xaCons (xC (.int 4)) xaNil))))) (xTup (xaCons (xC (.str "last")) (xaCons (xVar 1) xaNil))) (xC .non))))))
def F_read_goal : Fn := fnOf 2 false B_read_goal
def B_is_plan : XS := (sSeq (sIf (xOrT (xNotT (xTest (xCall (isiF cs) (xaCons (xVar 0) (xaCons (xC (.ty "tuple")) xaNil))))) (xTest (xOp neD (xCall lenD (xaCons (xVar 0) xaNil)) (xC (.int 4))))) (sRet (xC (.bl false))) sNil)
  (sSeq (sAsg (xVar 0) (gTp 4 (gsCons (gNm 1) (gsCons (gNm 2) (gsCons (gNm 3) (gsCons (gNm 4) gsNil))))))
  (sSeq (sIf (xOrT (xNotT (xTest (xCall F_is_name (xaCons (xVar 1) xaNil)))) (xOrT (xTest (xOp isD (xCall F_read_goal (xaCons (xVar 2) xaNil)) (xC .non))) (xNotT (xTest (xCall F_is_between (xaCons (xVar 3) (xaCons (xC (.int 1)) (xaCons (xC (.int 4)) xaNil)))))))) (sRet (xC (.bl false))) sNil)
  (sSeq (sIf (xOrT (xNotT (xTest (xCall (isiF cs) (xaCons (xVar 4) (xaCons (xC (.ty "tuple")) xaNil))))) (xNotT (xTest (xChain ltD leD (xC (.int 0)) (xCall lenD (xaCons (xVar 4) xaNil)) (xC (.int 5)))))) (sRet (xC (.bl false))) sNil)
  (sRet (xCall allF (xaCons (xLc (xiSeq (xVar 4)) [5] (gNm 5) xYes (xOp isntD (xCall F_read_clauses (xaCons (xVar 5) xaNil)) (xC .non))) xaNil)))))))
def F_is_plan : Fn := fnOf 6 false B_is_plan
def B_first_invalid : XS := (sSeq (sAsg (xNew xaNil) (gNm 1))
  (sSeq (sFor (xiEnum' (xaCons (xVar 0) xaNil)) (gTp 2 (gsCons (gNm 2) (gsCons (gNm 3) gsNil)))
  (sSeq (sIf (xOrT (xTest (xOp eqD (xVar 2) (xC (.int 4)))) (xOrT (xNotT (xTest (xCall F_is_plan (xaCons (xVar 3) xaNil)))) (xTest (xOp inD (xOp ixD (xVar 3) (xC (.int 0))) (xVar 1))))) (sRet (xVar 2)) sNil)
  (sExpr (xBM "list" appF (xVar 1) (xaCons (xOp ixD (xVar 3) (xC (.int 0))) xaNil)))))
  (sSeq (sFor (xiEnum' (xaCons (xVar 0) xaNil)) (gTp 2 (gsCons (gNm 2) (gsCons (gNm 3) gsNil)))
  (sIf (xTest (xCall anyF (xaCons (xLc (xiSeq (xOp ixD (xVar 3) (xC (.int 3)))) [4] (gNm 4) xYes (xOp isD (xCall F_read_round (xaCons (xVar 4) (xaCons (xVar 1) (xaCons (xSl (xVar 1) xoN (xoS (xOp addD (xVar 2) (xC (.int 1))))) xaNil)))) (xC .non))) xaNil))) (sRet (xVar 2)) sNil))
  (sRet (xC .non)))))
def F_first_invalid : Fn := fnOf 5 false B_first_invalid
def B_Book_D_initD_ : XS := (sSeq (sIf (xOrT (xNotT (xTest (xCall (isiF cs) (xaCons (xVar 1) (xaCons (xC (.ty "tuple")) xaNil))))) (xTest (xOp eqD (xCall lenD (xaCons (xVar 1) xaNil)) (xC (.int 0))))) (sRaise "InvalidPlans" "index" (xC .non)) sNil)
  (sSeq (sAsg (xCall F_first_invalid (xaCons (xVar 1) xaNil)) (gNm 2))
  (sSeq (sIf (xTest (xOp isntD (xVar 2) (xC .non))) (sRaise "InvalidPlans" "index" (xVar 2)) sNil)
  (sSeq (sFl "Book" "held" (xVar 0) (xVar 1))
  (sFl "Book" "parsed" (xVar 0) (xDc (xiSeq (xVar 1)) [3] (gNm 3) (xOp ixD (xVar 3) (xC (.int 0))) (xLc (xiSeq (xOp ixD (xVar 3) (xC (.int 3)))) [4] (gNm 4) xYes (xCall F_read_clauses (xaCons (xVar 4) xaNil)))))))))
def F_Book_D_initD_ : Fn := fnOf 5 false B_Book_D_initD_
def B__law_fits : XS := (sSeq (sAsg (xTup (xaCons (xTup (xaCons (xC (.str "up")) (xaCons (xC (.str "all")) (xaCons (xC (.int 1)) (xaCons (xTup (xaCons (xVar 0) xaNil)) xaNil))))) (xaCons (xTup (xaCons (xC (.str "low")) (xaCons (xC (.str "before")) (xaCons (xC (.int 2)) (xaCons (xTup (xaCons (xC (.str "clear 0 of 1")) xaNil)) xaNil))))) xaNil))) (gNm 2))
  (sSeq (sAsg (xIf (xTest (xVar 1)) (xLst (xaCons (xC (.str "told")) (xaCons (xCall reprF (xaCons (xVar 2) xaNil)) xaNil))) (xLst (xaCons (xC (.str "InvalidPlans")) (xaCons (xC (.str "0")) xaNil)))) (gNm 3))
  (sRet (xOp eqD (xLam 0 "_law_fits" exT 3 (some 1) L__law_caught R__law_caught (xProp "Book" F_Book_plans (xMake "Book" F_Book_D_initD_ true (xaCons (xVar 2) xaNil)))) (xVar 3)))))
def F__law_fits : Fn := fnOf 4 false B__law_fits
def B__law_draw : XS := (sSeq (sAsg (xOp addD (xOp ixD (xVar 0) (xC (.int 2))) (xC (.int 1))) (gSb (xVar 0) (xC (.int 2))))
  (sSeq (sAsg (xCall intF (xaCons (xOp ixD (xVar 0) (xC (.int 0))) xaNil)) (gNm 2))
  (sSeq (sAsg (xOp modD (xCall intF (xaCons (xOp addD (xOp addD (xOp mulD (xVar 2) (xOp addD (xOp modD (xCall intF (xaCons (xVar 2) xaNil)) (xC (.int 997))) (xC (.int 40014)))) (xOp mulD (xC (.int 12211)) (xOp ixD (xVar 0) (xC (.int 2))))) (xC (.int 7))) xaNil)) (xC (.int 2147483563))) (gSb (xVar 0) (xC (.int 0))))
  (sSeq (sIf (xTest (xOp gtD (xOp ixD (xVar 0) (xC (.int 1))) (xC (.int 0)))) (sSeq (sAsg (xCall dmF (xaCons (xOp ixD (xVar 0) (xC (.int 1))) (xaCons (xVar 1) xaNil))) (gTp 2 (gsCons (gSb (xVar 0) (xC (.int 1))) (gsCons (gNm 3) gsNil))))
  (sRet (xVar 3))) sNil)
  (sRet (xOp modD (xCall intF (xaCons (xOp divD (xOp ixD (xVar 0) (xC (.int 0))) (xC (.int 53))) xaNil)) (xVar 1)))))))
def F__law_draw : Fn := fnOf 4 false B__law_draw
def B__law_pick : XS := (sRet (xOp ixD (xVar 1) (xCall F__law_draw (xaCons (xVar 0) (xaCons (xCall lenD (xaCons (xVar 1) xaNil)) xaNil)))))
def F__law_pick : Fn := fnOf 2 false B__law_pick
def B__law_right : XS := (sSeq (sPar 1 2 (xaCons (xLst (xaCons (xC (.int 0)) (xaCons (xC (.int 1)) (xaCons (xC (.int 2)) (xaCons (xC (.int 3)) (xaCons (xC (.int 4)) (xaCons (xOp addD (xC (.int 5)) (xCall F__law_draw (xaCons (xVar 0) (xaCons (xC (.int 5)) xaNil)))) xaNil))))))) (xaCons (xOp addD (xC (.int 1)) (xCall F__law_draw (xaCons (xVar 0) (xaCons (xC (.int 4)) xaNil)))) xaNil)))
  (sSeq (sPar 3 4 (xaCons (xCall F__law_pick (xaCons (xVar 0) (xaCons (xLst (xaCons (xC (.str "join")) (xaCons (xC (.str "take")) xaNil))) xaNil))) (xaCons (xCall F__law_pick (xaCons (xVar 0) (xaCons (xLst (xaCons (xC (.str "left")) (xaCons (xC (.str "right")) xaNil))) xaNil))) xaNil)))
  (sSeq (sFor (xiSeq (xVar 1)) (gNm 5)
  (sFor (xiSeq (xVar 1)) (gNm 6)
  (sSeq (sPar 7 8 (xaCons (xOp addD (xOp addD (xCall strF (xaCons (xVar 6) xaNil)) (xC (.str " of "))) (xCall strF (xaCons (xVar 5) xaNil))) (xaCons (xAnd (xChain ltD ltD (xC (.int 0)) (xVar 5) (xC (.int 4))) (xOp ltD (xVar 6) (xVar 5))) xaNil)))
  (sSeq (sIf (xNotT (xTest (xCall F__law_fits (xaCons (xOp addD (xOp addD (xOp addD (xOp addD (xOp addD (xOp addD (xVar 3) (xC (.str " "))) (xVar 7)) (xC (.str " "))) (xVar 4)) (xC (.str " "))) (xCall strF (xaCons (xVar 2) xaNil))) (xaCons (xVar 8) xaNil))))) (sRet (xC (.bl false))) sNil)
  (sSeq (sIf (xOrT (xNotT (xTest (xCall F__law_fits (xaCons (xOp addD (xC (.str "clear ")) (xVar 7)) (xaCons (xVar 8) xaNil))))) (xNotT (xTest (xCall F__law_fits (xaCons (xOp addD (xC (.str "call low on ")) (xVar 7)) (xaCons (xVar 8) xaNil)))))) (sRet (xC (.bl false))) sNil)
  (sIf (xNotT (xTest (xCall F__law_fits (xaCons (xOp addD (xC (.str "call up on ")) (xVar 7)) (xaCons (xAnd (xVar 8) (xOp gtD (xVar 5) (xC (.int 1)))) xaNil))))) (sRet (xC (.bl false))) sNil))))))
  (sSeq (sAsg (xOp addD (xC (.int 1)) (xCall F__law_draw (xaCons (xVar 0) (xaCons (xC (.int 3)) xaNil)))) (gNm 9))
  (sSeq (sAsg (xOp addD (xOp addD (xCall strF (xaCons (xCall F__law_draw (xaCons (xVar 0) (xaCons (xVar 9) xaNil))) xaNil)) (xC (.str " of "))) (xCall strF (xaCons (xVar 9) xaNil))) (gNm 7))
  (sSeq (sFor (xiSeq (xLst (xaCons (xC (.str "join")) (xaCons (xC (.str "take")) xaNil)))) (gNm 3)
  (sFor (xiSeq (xLst (xaCons (xC (.str "left")) (xaCons (xC (.str "right")) xaNil)))) (gNm 4)
  (sFor (xiRng1 (xaCons (xC (.int 10)) xaNil)) (gNm 10)
  (sIf (xNotT (xTest (xCall F__law_fits (xaCons (xOp addD (xOp addD (xOp addD (xOp addD (xOp addD (xOp addD (xVar 3) (xC (.str " "))) (xVar 7)) (xC (.str " "))) (xVar 4)) (xC (.str " "))) (xCall strF (xaCons (xVar 10) xaNil))) (xaCons (xChain ltD ltD (xC (.int 0)) (xVar 10) (xC (.int 5))) xaNil))))) (sRet (xC (.bl false))) sNil))))
  (sRet (xC (.bl true)))))))))
def F__law_right : Fn := fnOf 11 false B__law_right
def B__law_purse : XS := (sSeq (sAsg (xCall absF (xaCons (xVar 0) xaNil)) (gNm 1))
  (sRet (xNew (xaCons (xOp modD (xCall intF (xaCons (xVar 1) xaNil)) (xC (.int 2147483563))) (xaCons (xIf (xOrT (xTest (xOp ltD (xVar 0) (xC (.int 0)))) (xTest (xOp geD (xVar 1) (xOp powD (xC (.int 10)) (xC (.int 18)))))) (xVar 1) (xC (.int 0))) (xaCons (xC (.int 0)) xaNil))))))
def F__law_purse : Fn := fnOf 2 true B__law_purse
def B__law_cell : XS := (sSeq (sIf (xTest (xOp ltD (xVar 1) (xCall lenD (xaCons (xVar 0) xaNil)))) (sRet (xOp ixD (xVar 0) (xVar 1))) sNil)
  (sSeq (sAsg (xOp mulD (xOp mulD (xC (.int 7919)) (xOp addD (xVar 1) (xC (.int 3)))) (xOp addD (xVar 1) (xC (.int 5)))) (gNm 2))
  (sSeq (sFor (xiSeq (xSl (xVar 0) xoN (xoS (xC (.int 8))))) (gNm 3)
  (sAsg (xOp modD (xCall intF (xaCons (xOp addD (xOp mulD (xVar 2) (xC (.int 30097))) (xVar 3)) xaNil)) (xC (.int 2147483563))) (gNm 2)))
  (sRet (xVar 2)))))
def F__law_cell : Fn := fnOf 4 false B__law_cell
def B_law : XS := (sRet (xCall allF (xaCons (xLc (xiRng1 (xaCons (xCall maxF (xaCons (xC (.int 2)) (xaCons (xCall minF (xaCons (xCall lenD (xaCons (xVar 0) xaNil)) (xaCons (xC (.int 3)) xaNil))) xaNil))) xaNil)) [1] (gNm 1) xYes (xCall F__law_right (xaCons (xCall F__law_purse (xaCons (xCall F__law_cell (xaCons (xVar 0) (xaCons (xVar 1) xaNil))) xaNil)) xaNil))) xaNil)))
def F_law : Fn := fnOf 2 false B_law
end J
/-! # GA: lemmas on the combinators, no program in sight -/
namespace J
open PySem PySem.Spec PyProof.Rows L2 DS
theorem lc_go {i : Nat} {tt : XT} {te : XE'} {r0 : Rho} {μ : Mu} (b : D → Bool) (f : D → D) : ∀ (xs acc : List D),
    (∀ x ∈ xs, ∀ acc, tt (r0.set i (some x)) (μ ++ [.lst acc]) = .ok (b x) (μ ++ [.lst acc])) →
    (∀ x ∈ xs, b x = true → ∀ acc, te (r0.set i (some x)) (μ ++ [.lst acc]) = .ok (f x) (μ ++ [.lst acc])) →
    (∀ x ∈ xs, b x = true → (f x).inB μ.length = true) → acc.length + xs.length ≤ sizeLine →
    lcF (gNm i) tt te μ.length r0 xs (μ ++ [.lst acc]) = .ok () (μ ++ [.lst (acc ++ (xs.filter b).map f)])
  | [], acc, _, _, _, _ => by simp [lcF]
  | x :: xs, acc, h1, h2, h3, hl => by
    rw [List.length_cons] at hl
    have m1 : ∀ y ∈ xs, y ∈ x :: xs := fun y hy => List.mem_cons_of_mem _ hy
    have m0 : x ∈ x :: xs := List.mem_cons_self ..
    rw [lcF]
    simp only [gNm, Out.ne, Out.bind, h1 x m0 acc]
    cases hb : b x
    · simp only [Bool.false_eq_true, if_false, List.filter_cons, hb]
      exact lc_go b f xs acc (fun y hy => h1 y (m1 y hy)) (fun y hy => h2 y (m1 y hy)) (fun y hy => h3 y (m1 y hy)) (by omega)
    · simp only [if_true, List.filter_cons, hb, h2 x m0 hb acc, List.map_cons]
      have e : pushD μ.length (f x) (μ ++ [.lst acc]) = .ok () (μ ++ [.lst (acc ++ [f x])]) := by
        unfold pushD
        rw [List.getElem?_append_right (Nat.le_refl _), Nat.sub_self]
        simp only [List.getElem?_cons_zero]
        rw [if_pos ⟨h3 x m0 hb, by omega⟩, List.set_append_right _ _ (Nat.le_refl _), Nat.sub_self]
        rfl
      rw [e]
      simp only
      rw [lc_go b f xs (acc ++ [f x]) (fun y hy => h1 y (m1 y hy)) (fun y hy => h2 y (m1 y hy)) (fun y hy => h3 y (m1 y hy)) (by rw [List.length_append]; simp; omega)]
      simp
theorem lc_of {i : Nat} {tt : XT} {te : XE'} {r0 : Rho} {μ : Mu} (b : D → Bool) (f : D → D) {xs : List D}
    (h1 : ∀ x ∈ xs, ∀ acc, tt (r0.set i (some x)) (μ ++ [.lst acc]) = .ok (b x) (μ ++ [.lst acc]))
    (h2 : ∀ x ∈ xs, b x = true → ∀ acc, te (r0.set i (some x)) (μ ++ [.lst acc]) = .ok (f x) (μ ++ [.lst acc]))
    (h3 : ∀ x ∈ xs, b x = true → (f x).inB μ.length = true) (hl : xs.length ≤ sizeLine) :
    lcD (gNm i) tt te r0 xs μ = .ok (.lst ((xs.filter b).map f)) μ := by
  unfold lcD
  rw [lc_go b f xs [] h1 h2 h3 (by simpa using hl)]
  simp [Out.bind, lcEnd]
theorem lc_map {α : Type} {i : Nat} {te : XE'} {r0 : Rho} {μ : Mu} (e : α → D) (f : α → D) {xs : List α}
    (h2 : ∀ x ∈ xs, ∀ acc, te (r0.set i (some (e x))) (μ ++ [.lst acc]) = .ok (f x) (μ ++ [.lst acc]))
    (h3 : ∀ x ∈ xs, (f x).inB μ.length = true) (hl : xs.length ≤ sizeLine) :
    lcD (gNm i) xYes te r0 (xs.map e) μ = .ok (.lst (xs.map f)) μ := by
  have go : ∀ (ys : List α) (acc : List D), (∀ y ∈ ys, y ∈ xs) → acc.length + ys.length ≤ sizeLine → lcF (gNm i) xYes te μ.length r0 (ys.map e) (μ ++ [.lst acc]) = .ok () (μ ++ [.lst (acc ++ ys.map f)]) := fun ys => by
    induction ys with
    | nil => intro acc _ _; simp [lcF]
    | cons y ys ih =>
      intro acc hm hl
      rw [List.length_cons] at hl
      have hy := hm y (List.mem_cons_self ..)
      have e : pushD μ.length (f y) (μ ++ [.lst acc]) = .ok () (μ ++ [.lst (acc ++ [f y])]) := by
        unfold pushD
        rw [List.getElem?_append_right (Nat.le_refl _), Nat.sub_self]
        simp only [List.getElem?_cons_zero]
        rw [if_pos ⟨h3 y hy, by omega⟩, List.set_append_right _ _ (Nat.le_refl _), Nat.sub_self]
        rfl
      rw [List.map_cons, lcF]
      simp only [gNm, Out.ne, Out.bind, xYes, if_true, h2 y hy acc, e]
      rw [ih (acc ++ [f y]) (fun z hz => hm z (List.mem_cons_of_mem _ hz)) (by rw [List.length_append]; simp; omega)]
      simp
  unfold lcD
  rw [go xs [] (fun _ h => h) (by simpa using hl)]
  simp [Out.bind, lcEnd]

theorem AP : (∀ {g : D → D → Mu → Out D} {a b : XE'} {r : Rho} {m : Mu}, xOp g a b r m = (a r m).bind fun x m1 => (b r m1).bind fun y m2 => g x y m2) ∧
  (∀ {f : XE'} {r : Rho} {m : Mu}, xTest f r m = (f r m).bind asB) ∧
  (∀ {a b : XT} {r : Rho} {m : Mu}, xAndT a b r m = (a r m).bind fun k m1 => if k then b r m1 else .ok false m1) ∧
  (∀ {a b : XT} {r : Rho} {m : Mu}, xOrT a b r m = (a r m).bind fun k m1 => if k then .ok true m1 else b r m1) ∧
  (∀ {a : XT} {r : Rho} {m : Mu}, xNotT a r m = (a r m).bind fun k m1 => .ok (!k) m1) ∧
  (∀ {a b : XE'} {r : Rho} {m : Mu}, xAnd a b r m = ((a r m).bind asB).bind fun k m1 => if k then b r m1 else .ok (.bl false) m1) ∧
  (∀ {a b : XE'} {r : Rho} {m : Mu}, xOr a b r m = ((a r m).bind asB).bind fun k m1 => if k then .ok (.bl true) m1 else b r m1) ∧
  (∀ {a : XE'} {r : Rho} {m : Mu}, xNot a r m = ((a r m).bind asB).bind fun k m1 => .ok (.bl (!k)) m1) ∧
  (∀ {t : XT} {a b : XE'} {r : Rho} {m : Mu}, xIf t a b r m = (t r m).bind fun k m1 => if k then a r m1 else b r m1) ∧
  (∀ {g g' : D → D → Mu → Out D} {a b k : XE'} {r : Rho} {m : Mu}, xChain g g' a b k r m = (a r m).bind fun x m1 => (b r m1).bind fun y m2 => ((g x y m2).bind asB).bind fun q m3 => if q then (k r m3).bind fun z m4 => g' y z m4 else .ok (.bl false) m3) ∧
  (∀ {r : Rho} {m : Mu}, xaNil r m = .ok [] m) ∧
  (∀ {a : XE'} {b : XA} {r : Rho} {m : Mu}, xaCons a b r m = (a r m).bind fun x m1 => (b r m1).bind fun xs m2 => .ok (x :: xs) m2) ∧
  (∀ {a : XA} {r : Rho} {m : Mu}, xTup a r m = (a r m).bind fun ds m1 => .ok (.tup ds) m1) ∧
  (∀ {a : XA} {r : Rho} {m : Mu}, xLst a r m = (a r m).bind fun ds m1 => .ok (.lst ds) m1) ∧
  (∀ {a : XA} {r : Rho} {m : Mu}, xNew a r m = (a r m).bind fun ds m1 => if D.inL m1.length ds then .ok (.loc m1.length) (m1 ++ [.lst ds]) else .stuck) ∧
  (∀ {d : D} {r : Rho} {m : Mu}, xC d r m = .ok d m) ∧
  (∀ {r : Rho} {m : Mu}, xYes r m = .ok true m) ∧
  (∀ {r : Rho} {m : Mu}, xoN r m = .ok none m) ∧
  (∀ {a : XE'} {r : Rho} {m : Mu}, xoS a r m = (a r m).bind asI) ∧
  (∀ {a : XE'} {lo hi : XO} {r : Rho} {m : Mu}, xSl a lo hi r m = (a r m).bind fun d m1 => (lo r m1).bind fun l m2 => (hi r m2).bind fun h m3 => slD d l h m3) ∧
  (∀ {cn f : Str} {a : XE'} {r : Rho} {m : Mu}, xFld cn f a r m = (a r m).bind (fldD cn f)) ∧
  (∀ {G : Fn} {a : XA} {r : Rho} {m : Mu}, xCall G a r m = (a r m).bind G) ∧
  (∀ {cn : Str} {G : Fn} {frz : Bool} {a : XA} {r : Rho} {m : Mu}, xMake cn G frz a r m = (a r m).bind (makeD cn G frz)) ∧
  (∀ {T : String} {g : Fn} {o : XE'} {a : XA} {r : Rho} {m : Mu}, xBM T g o a r m = (o r m).bind fun d m1 => if tyD T m1 d then (a r m1).bind fun ds m2 => g (d :: ds) m2 else .stuck) ∧
  (∀ {f : XA} {vs : List Nat} {g : XG} {tt : XT} {te : XE'} {r : Rho} {m : Mu}, xLc f vs g tt te r m = (f r m).bind fun xs m1 => lcD g tt te (wipeR r vs) xs m1) ∧
  (∀ {f : XE'} {r : Rho} {m : Mu}, xiSeq f r m = (f r m).bind seqD) ∧
  (∀ {f : XA} {r : Rho} {m : Mu}, xiRng1 f r m = (f r m).bind rngD1) ∧
  (∀ {f : XA} {r : Rho} {m : Mu}, xiRng2 f r m = (f r m).bind rngD2) ∧
  (∀ {f : XA} {r : Rho} {m : Mu}, xiEnum' f r m = (f r m).bind enumD') ∧
  (∀ {r : Rho} {m : Mu}, sNil r m = .next r m) ∧
  (∀ {f : XE'} {r : Rho} {m : Mu}, sExpr f r m = (f r m).stm r fun _ m1 => .next r m1) ∧
  (∀ {f : XE'} {r : Rho} {m : Mu}, sRet f r m = (f r m).stm r fun d m1 => .ret d m1) ∧
  (∀ {t : XT} {f g : XS} {r : Rho} {m : Mu}, sIf t f g r m = (t r m).stm r fun k m1 => if k then f r m1 else g r m1) ∧
  (∀ {f : XE'} {g : XG} {r : Rho} {m : Mu}, sAsg f g r m = (f r m).stm r fun d m1 => (g d r m1).stm r fun r' m2 => .next r' m2) ∧
  (∀ {f : XA} {g : XG} {b : XS} {r : Rho} {m : Mu}, sFor f g b r m = (f r m).stm r fun xs m1 => loopF g b xs r m1) ∧
  (∀ {i : Nat} {d : D} {r : Rho} {m : Mu}, gNm i d r m = .ok (r.set i (some d)) m) ∧
  (∀ {o i : XE'} {d : D} {r : Rho} {m : Mu}, gSb o i d r m = (o r m).bind fun ov m1 => (i r m1).bind fun iv m2 => (setD ov iv d m2).bind fun _ m3 => .ok r m3) ∧
  (∀ {n : Nat} {g : XGs} {ds : List D} {r : Rho} {m : Mu}, gTp n g (.tup ds) r m = if ds.length = n then g ds r m else .stuck) ∧
  (∀ {n : Nat} {g : XGs} {ds : List D} {r : Rho} {m : Mu}, gTp n g (.lst ds) r m = if ds.length = n then g ds r m else .stuck) ∧
  (∀ {r : Rho} {m : Mu}, gsNil [] r m = .ok r m) ∧
  (∀ {g : XG} {gs : XGs} {d : D} {ds : List D} {r : Rho} {m : Mu}, gsCons g gs (d :: ds) r m = (g d r m).bind fun r1 m1 => gs ds r1 m1) ∧
  (∀ {r : Rho} {m : Mu} {f g : XS}, sSeq f g r m = (match f r m with
  | .next r' m' => g r' m'
  | o => o)) := by
  refine ⟨?_, ?_, ?_, ?_, ?_, ?_, ?_, ?_, ?_, ?_, ?_, ?_, ?_, ?_, ?_, ?_, ?_, ?_, ?_, ?_, ?_, ?_, ?_, ?_, ?_, ?_, ?_, ?_, ?_, ?_, ?_, ?_, ?_, ?_, ?_, ?_, ?_, ?_, ?_, ?_, ?_, ?_⟩ <;> intros <;> rfl
theorem AV {i : Nat} {r : Rho} {m : Mu} : xVar i r m = (match r[i]? with
  | some (some d) => .ok d m
  | _ => .stuck) := rfl
theorem AB : (∀ {α β : Type} {a : α} {m : Mu} {k : α → Mu → Out β}, (Out.ok a m).bind k = k a m) ∧ (∀ {α : Type} {a : α} {m : Mu} {r : Rho} {k : α → Mu → SO}, (Out.ok a m).stm r k = k a m) ∧ (∀ {b : Bool} {m : Mu}, asB (.bl b) m = .ok b m) ∧ (∀ {i : Int} {m : Mu}, asI (.int i) m = .ok (some i) m) ∧
  (∀ {xs : List D} {m : Mu}, seqD (.lst xs) m = .ok xs m) ∧ (∀ {xs : List D} {m : Mu}, seqD (.fix xs) m = .ok xs m) ∧ (∀ {xs : List D} {m : Mu}, seqD (.tup xs) m = .ok xs m) := by
  refine ⟨?_, ?_, ?_, ?_, ?_, ?_, ?_⟩ <;> intros <;> rfl
theorem fn_ap {n : Nat} {keep : Bool} {g : XS} {ds : List D} {m : Mu} : fnOf n keep g ds m = (match g (rho0 n ds) m with
  | .next _ m' => .ok .non (m'.take m.length)
  | .ret d m' => if keep then .ok d m' else exitD m.length d m'
  | .exc c fs _ m' => if D.inF m.length fs then .exc c fs (m'.take m.length) else .stuck
  | _ => .stuck) := rfl
theorem exit_in {n : Nat} {d : D} {m : Mu} (h : d.inB n = true) : exitD n d m = .ok d (m.take n) := by
  unfold exitD
  rw [if_pos h]
theorem LS : (∀ {α : Type} {x : α} {l : List α}, (x :: l)[0]? = some x) ∧ (∀ {α : Type} {x : α} {l : List α} {i : Nat}, (x :: l)[i + 1]? = l[i]?) ∧ (∀ {α : Type} {x y : α} {l : List α}, (x :: l).set 0 y = y :: l) ∧ (∀ {α : Type} {x y : α} {l : List α} {i : Nat}, (x :: l).set (i + 1) y = x :: l.set i y) := by
  refine ⟨?_, ?_, ?_, ?_⟩ <;> intros <;> rfl
theorem strs_map (l : List Str) : strsL (l.map .str) = some l := by
  induction l with
  | nil => rfl
  | cons x r ih => simp [strsL, ih]
theorem OI : (∀ {i j : Int} {m : Mu}, ltD (.int i) (.int j) m = .ok (.bl (decide (i < j))) m) ∧ (∀ {i j : Int} {m : Mu}, leD (.int i) (.int j) m = .ok (.bl (decide (i ≤ j))) m) ∧ (∀ {i j : Int} {m : Mu}, gtD (.int i) (.int j) m = .ok (.bl (decide (j < i))) m) ∧ (∀ {i j : Int} {m : Mu}, geD (.int i) (.int j) m = .ok (.bl (decide (j ≤ i))) m) ∧
  (∀ {i j : Int} {m : Mu}, addD (.int i) (.int j) m = .ok (.int (i + j)) m) ∧ (∀ {i j : Int} {m : Mu}, subD (.int i) (.int j) m = .ok (.int (i - j)) m) ∧
  (∀ {xs : List D} {m : Mu}, lenD [.lst xs] m = .ok (.int xs.length) m) ∧ (∀ {xs : List D} {m : Mu}, lenD [.tup xs] m = .ok (.int xs.length) m) ∧
  (∀ {xs : List D} {m : Mu}, enumD' [.lst xs] m = .ok (enumL 0 xs) m) ∧ (∀ {xs : List D} {m : Mu}, enumD' [.tup xs] m = .ok (enumL 0 xs) m) ∧
  (∀ {xs : List D} {m : Mu}, tupF [.lst xs] m = .ok (.tup xs) m) ∧ (∀ {xs : List D} {m : Mu}, tupF [.tup xs] m = .ok (.tup xs) m) ∧
  (∀ {d : D} {m : Mu}, isD d .non m = .ok (.bl (isNonD d)) m) ∧ (∀ {d : D} {m : Mu}, isntD d .non m = .ok (.bl (!isNonD d)) m) ∧
  (∀ {xs : List D} {lo hi : Option Int} {m : Mu}, slD (.lst xs) lo hi m = .ok (.lst (cutD xs lo hi)) m) ∧ (∀ {xs : List D} {lo hi : Option Int} {m : Mu}, slD (.tup xs) lo hi m = .ok (.tup (cutD xs lo hi)) m) := by
  refine ⟨?_, ?_, ?_, ?_, ?_, ?_, ?_, ?_, ?_, ?_, ?_, ?_, ?_, ?_, ?_, ?_⟩ <;> intros <;> rfl
theorem TY {cs : List Str} : (∀ {x : Str} {m : Mu}, isiF cs [.str x, .ty "str"] m = .ok (.bl true) m) ∧ (∀ {x : List D} {m : Mu}, isiF cs [.tup x, .ty "tuple"] m = .ok (.bl true) m) ∧ (∀ {x : Int} {m : Mu}, isiF cs [.int x, .ty "int"] m = .ok (.bl true) m) ∧ (∀ {x : Int} {m : Mu}, isiF cs [.int x, .ty "bool"] m = .ok (.bl false) m) ∧
  (∀ {x : Str} {m : Mu}, tyD "str" m (.str x) = true) ∧ (∀ {x : List D} {m : Mu}, tyD "list" m (.lst x) = true) := by
  refine ⟨?_, ?_, ?_, ?_, ?_, ?_⟩ <;> intros <;> rfl
theorem bs_map {α : Type} (p : α → Bool) (xs : List α) : bsL (xs.map fun x => .bl (p x)) = some (xs.map p) := by
  induction xs with
  | nil => rfl
  | cons x r ih => simp [bsL, ih]
theorem any_map {α : Type} (p : α → Bool) (xs : List α) (m : Mu) : anyF [.lst (xs.map fun x => .bl (p x))] m = .ok (.bl (xs.any p)) m := by
  unfold anyF
  simp only [lstOf, bs_map]
  congr 2
  induction xs with
  | nil => rfl
  | cons x r ih => simp_all
theorem all_map {α : Type} (p : α → Bool) (xs : List α) (m : Mu) : allF [.lst (xs.map fun x => .bl (p x))] m = .ok (.bl (xs.all p)) m := by
  unfold allF
  simp only [lstOf, bs_map]
  congr 2
  induction xs with
  | nil => rfl
  | cons x r ih => simp_all
theorem mem_enum {x : D} : ∀ {i : Nat} {xs : List D}, x ∈ enumL i xs → ∃ k y, xs[k]? = some y ∧ x = .tup [.int ((i + k : Nat) : Int), y]
  | _, [], h => by simp [enumL] at h
  | i, z :: r, h => by
    rw [enumL, List.mem_cons] at h
    rcases h with rfl | h
    · exact ⟨0, z, rfl, rfl⟩
    · obtain ⟨k, y, h1, h2⟩ := mem_enum h
      exact ⟨k + 1, y, h1, by rw [h2, show i + 1 + k = i + (k + 1) by omega]⟩
theorem loop_keep {g : XG} {body : XS} {μ : Mu} (I : Rho → Prop) : ∀ {xs : List D} {r : Rho}, I r → (∀ x ∈ xs, ∀ r, I r → ∃ r1 r2, g x r μ = .ok r1 μ ∧ body r1 μ = .next r2 μ ∧ I r2) → ∃ r', loopF g body xs r μ = .next r' μ ∧ I r'
  | [], r, h, _ => ⟨r, rfl, h⟩
  | x :: xs, r, h, hs => by
    obtain ⟨r1, r2, h1, h2, h3⟩ := hs x (List.mem_cons_self ..) r h
    obtain ⟨r', h4, h5⟩ := loop_keep I h3 fun y hy => hs y (List.mem_cons_of_mem _ hy)
    refine ⟨r', ?_, h5⟩
    rw [loopF, h1]
    simp only [AB, h2]
    exact h4
theorem cut_to (xs : List D) (k : Nat) (h : k ≤ xs.length) : cutD xs none (some (k : Int)) = xs.take k := by
  unfold DS.cutD
  rw [HT.sIx_nat, HT.sIx_none, Nat.min_eq_left h, List.drop_zero, Nat.sub_zero]
theorem join_len (y : Str) : ∀ parts : List Str, (Txt.join y parts).length ≤ (parts.map (·.length)).sum + parts.length * y.length := fun parts => by
  have hl : ∀ x : Str, x.length = (TL.tl x).length := fun x => by simp [Str.length]
  rw [TL.join_eq, hl, TL.tl_join]
  induction parts with
  | nil => simp [TL.joinL]
  | cons p r ih =>
    cases r with
    | nil => simp [TL.joinL, hl]
    | cons q r =>
      simp only [List.map_cons, TL.joinL, List.length_append, List.sum_cons, List.length_cons] at ih ⊢
      rw [hl p, hl y] at *
      have e : (r.length + 1 + 1) * (TL.tl y).length = (r.length + 1) * (TL.tl y).length + (TL.tl y).length := by rw [Nat.succ_mul]
      omega
theorem ix_at (i : Nat) (xs : List D) (x : D) (h : xs[i]? = some x) : L2.atI xs (i : Int) = some x := by
  have hl := (List.getElem?_eq_some_iff.mp h).1
  unfold L2.atI L2.ixN
  rw [if_pos (by omega), if_pos (by omega)]
  simpa using h
theorem EQ : (∀ {i j : Int} {m : Mu}, eqD (.int i) (.int j) m = .ok (.bl (i == j)) m) ∧ (∀ {i j : Int} {m : Mu}, neD (.int i) (.int j) m = .ok (.bl (!(i == j))) m) ∧ (∀ {i j : Str} {m : Mu}, eqD (.str i) (.str j) m = .ok (.bl (i == j)) m) ∧ (∀ {i j : Str} {m : Mu}, neD (.str i) (.str j) m = .ok (.bl (!(i == j))) m) := by
  refine ⟨?_, ?_, ?_, ?_⟩ <;> intros <;> rfl
theorem exit_bl {n : Nat} {b : Bool} {m : Mu} : exitD n (.bl b) m = .ok (.bl b) (m.take n) := exit_in rfl
theorem lc_fil {α : Type} {i : Nat} {tt : XT} {te : XE'} {r0 : Rho} {μ : Mu} (e : α → D) (b : α → Bool) (f : α → D) {xs : List α}
    (h1 : ∀ x ∈ xs, ∀ acc, tt (r0.set i (some (e x))) (μ ++ [.lst acc]) = .ok (b x) (μ ++ [.lst acc]))
    (h2 : ∀ x ∈ xs, b x = true → ∀ acc, te (r0.set i (some (e x))) (μ ++ [.lst acc]) = .ok (f x) (μ ++ [.lst acc]))
    (h3 : ∀ x ∈ xs, b x = true → (f x).inB μ.length = true) (hl : xs.length ≤ sizeLine) :
    lcD (gNm i) tt te r0 (xs.map e) μ = .ok (.lst ((xs.filter b).map f)) μ := by
  have go : ∀ (ys : List α) (acc : List D), (∀ y ∈ ys, y ∈ xs) → acc.length + ys.length ≤ sizeLine → lcF (gNm i) tt te μ.length r0 (ys.map e) (μ ++ [.lst acc]) = .ok () (μ ++ [.lst (acc ++ (ys.filter b).map f)]) := fun ys => by
    induction ys with
    | nil => intro acc _ _; simp [lcF]
    | cons y ys ih =>
      intro acc hm hl
      rw [List.length_cons] at hl
      have hy := hm y (List.mem_cons_self ..)
      rw [List.map_cons, lcF]
      simp only [gNm, Out.ne, Out.bind, h1 y hy acc]
      cases hb : b y
      · simp only [Bool.false_eq_true, if_false, List.filter_cons, hb]
        exact ih acc (fun z hz => hm z (List.mem_cons_of_mem _ hz)) (by omega)
      · have e : pushD μ.length (f y) (μ ++ [.lst acc]) = .ok () (μ ++ [.lst (acc ++ [f y])]) := by
          unfold pushD
          rw [List.getElem?_append_right (Nat.le_refl _), Nat.sub_self]
          simp only [List.getElem?_cons_zero]
          rw [if_pos ⟨h3 y hy hb, by omega⟩, List.set_append_right _ _ (Nat.le_refl _), Nat.sub_self]
          rfl
        simp only [if_true, List.filter_cons, hb, h2 y hy hb acc, e]
        rw [ih (acc ++ [f y]) (fun z hz => hm z (List.mem_cons_of_mem _ hz)) (by rw [List.length_append]; simp; omega)]
        simp
  unfold lcD
  rw [go xs [] (fun _ h => h) (by simpa using hl)]
  simp [Out.bind, lcEnd]
theorem inL_map {α : Type} (f : α → D) (n : Nat) (xs : List α) (h : ∀ x ∈ xs, (f x).inB n = true) : D.inL n (xs.map f) = true := by
  induction xs with
  | nil => rfl
  | cons x r ih => rw [List.map_cons, D.inL, h x (List.mem_cons_self ..), ih fun y hy => h y (List.mem_cons_of_mem _ hy)]; rfl
theorem any_no {α : Type} (xs : List α) : (xs.any fun _ => false) = false := by
  induction xs <;> simp_all
theorem IX : (∀ {x : D} {xs : List D} {m : Mu}, ixD (.lst (x :: xs)) (.int 0) m = .ok x m) ∧ (∀ {x y : D} {xs : List D} {m : Mu}, ixD (.lst (x :: y :: xs)) (.int 1) m = .ok y m) ∧ (∀ {x y z : D} {xs : List D} {m : Mu}, ixD (.lst (x :: y :: z :: xs)) (.int 2) m = .ok z m) ∧ (∀ {x y z w : D} {xs : List D} {m : Mu}, ixD (.lst (x :: y :: z :: w :: xs)) (.int 3) m = .ok w m) ∧
  (∀ {x : D} {xs : List D} {m : Mu}, ixD (.tup (x :: xs)) (.int 0) m = .ok x m) ∧ (∀ {x y : D} {xs : List D} {m : Mu}, ixD (.tup (x :: y :: xs)) (.int 1) m = .ok y m) ∧ (∀ {x y z : D} {xs : List D} {m : Mu}, ixD (.tup (x :: y :: z :: xs)) (.int 2) m = .ok z m) ∧ (∀ {x y z w : D} {xs : List D} {m : Mu}, ixD (.tup (x :: y :: z :: w :: xs)) (.int 3) m = .ok w m) := by
  have lt : ∀ {x : D} {xs : List D} {i : Nat} {y : D}, xs[i]? = some y → ∀ m, ixD (.lst xs) (.int (i : Int)) m = .ok y m := fun {x xs i y} h m => by
    unfold ixD
    simp only [lstOf, ix_at i xs y h]
  have tp : ∀ {x : D} {xs : List D} {i : Nat} {y : D}, xs[i]? = some y → ∀ m, ixD (.tup xs) (.int (i : Int)) m = .ok y m := fun {x xs i y} h m => by
    unfold ixD
    simp only [ix_at i xs y h]
  refine ⟨?_, ?_, ?_, ?_, ?_, ?_, ?_, ?_⟩ <;> intros
  · exact lt (x := .non) (i := 0) rfl _
  · exact lt (x := .non) (i := 1) rfl _
  · exact lt (x := .non) (i := 2) rfl _
  · exact lt (x := .non) (i := 3) rfl _
  · exact tp (x := .non) (i := 0) rfl _
  · exact tp (x := .non) (i := 1) rfl _
  · exact tp (x := .non) (i := 2) rfl _
  · exact tp (x := .non) (i := 3) rfl _
theorem loop_inv {g : XG} {body : XS} (I : Nat → Rho → Mu → Prop) : ∀ {xs : List D} {k : Nat} {r : Rho} {m : Mu}, I k r m → (∀ i x r m, xs[i]? = some x → I (k + i) r m → ∃ r1 m1 r2 m2, g x r m = .ok r1 m1 ∧ body r1 m1 = .next r2 m2 ∧ I (k + i + 1) r2 m2) → ∃ r' m', loopF g body xs r m = .next r' m' ∧ I (k + xs.length) r' m'
  | [], k, r, m, h, _ => ⟨r, m, rfl, h⟩
  | x :: xs, k, r, m, h, hs => by
    obtain ⟨r1, m1, r2, m2, h1, h2, h3⟩ := hs 0 x r m rfl h
    obtain ⟨r', m', h4, h5⟩ := loop_inv I (k := k + 1) h3 fun i y r m hy hi => by
      have := hs (i + 1) y r m hy (by rw [show k + (i + 1) = k + 1 + i by omega]; exact hi)
      rw [show k + (i + 1) + 1 = k + 1 + i + 1 by omega] at this
      exact this
    refine ⟨r', m', ?_, by rw [List.length_cons, show k + (xs.length + 1) = k + 1 + xs.length by omega]; exact h5⟩
    rw [loopF, h1]
    simp only [AB, h2]
    exact h4
theorem enum_get : ∀ {xs : List D} {b i : Nat}, (enumL b xs)[i]? = (xs[i]?).map fun y => .tup [.int ((b + i : Nat) : Int), y]
  | [], b, i => by simp [enumL]
  | x :: xs, b, 0 => rfl
  | x :: xs, b, i + 1 => by
    rw [enumL, List.getElem?_cons_succ, List.getElem?_cons_succ, enum_get, show b + 1 + i = b + (i + 1) by omega]
theorem dc_map {α : Type} {i : Nat} {tk te : XE'} {r0 : Rho} {μ : Mu} (e : α → D) (kf : α → Str) (f : α → D) {xs : List α}
    (h1 : ∀ x ∈ xs, ∀ acc, tk (r0.set i (some (e x))) (μ ++ [.dct acc]) = .ok (.str (kf x)) (μ ++ [.dct acc]))
    (h2 : ∀ x ∈ xs, ∀ acc, te (r0.set i (some (e x))) (μ ++ [.dct acc]) = .ok (f x) (μ ++ [.dct acc]))
    (h3 : ∀ x ∈ xs, (f x).inB μ.length = true) (hd : xs.Pairwise fun a b => (kf a == kf b) = false) (hl : xs.length < 1000) :
    (dcF (gNm i) tk te μ.length r0 (xs.map e) (μ ++ [.dct []])).bind (fun _ m2 => dcEnd μ.length m2) = .ok (.dct (xs.map fun x => (kf x, f x))) μ := by
  have look : ∀ (y : α) (ys : List α), (∀ z ∈ ys, (kf z == kf y) = false) → (ys.map fun x => (kf x, f x)).lookup (kf y) = none := fun y ys hz => by
    induction ys with
    | nil => rfl
    | cons z r ih =>
      rw [List.map_cons, List.lookup_cons]
      have := hz z (List.mem_cons_self ..)
      rw [show (kf y == kf z) = false by rw [beq_eq_false_iff_ne] at this ⊢; exact Ne.symm this]
      exact ih fun w hw => hz w (List.mem_cons_of_mem _ hw)
  have go : ∀ (ys zs : List α), zs ++ ys = xs → dcF (gNm i) tk te μ.length r0 (ys.map e) (μ ++ [.dct (zs.map fun x => (kf x, f x))]) = .ok () (μ ++ [.dct (xs.map fun x => (kf x, f x))]) := fun ys => by
    induction ys with
    | nil => intro zs hz; rw [List.append_nil] at hz; subst hz; simp [dcF]
    | cons y ys ih =>
      intro zs hz
      have hy : y ∈ xs := by rw [← hz]; simp
      have hlen : zs.length < xs.length := by rw [← hz]; simp
      have e : dputD μ.length (.str (kf y)) (f y) (μ ++ [.dct (zs.map fun x => (kf x, f x))]) = .ok () (μ ++ [.dct ((zs ++ [y]).map fun x => (kf x, f x))]) := by
        unfold dputD
        rw [List.getElem?_append_right (Nat.le_refl _), Nat.sub_self]
        simp only [List.getElem?_cons_zero]
        rw [if_pos ⟨h3 y hy, by rw [List.length_map]; omega, look y zs fun z hz' => by
          rw [← hz] at hd
          exact (List.pairwise_append.mp hd).2.2 z hz' y (List.mem_cons_self ..)⟩, List.set_append_right _ _ (Nat.le_refl _), Nat.sub_self]
        simp
      rw [List.map_cons, dcF]
      simp only [gNm, Out.ne, Out.bind, h1 y hy, h2 y hy, e]
      exact ih (zs ++ [y]) (by rw [← hz]; simp)
  have g0 := go xs [] rfl
  rw [List.map_nil] at g0
  rw [g0]
  simp [Out.bind, dcEnd]
theorem inF_map {α : Type} (k : α → Str) (f : α → D) (n : Nat) (xs : List α) (h : ∀ x ∈ xs, (f x).inB n = true) : D.inF n (xs.map fun x => (k x, f x)) = true := by
  induction xs with
  | nil => rfl
  | cons x r ih => rw [List.map_cons, D.inF, h x (List.mem_cons_self ..), ih fun y hy => h y (List.mem_cons_of_mem _ hy)]; rfl
def cupC (a b c : Int) : Cell := .lst [.int a, .int b, .int c]
def Cup (n : Nat) (μ : Mu) : Prop := ∃ a b c, μ[n]? = some (cupC a b c)
def Sip (n : Nat) (μ μ' : Mu) : Prop := ∃ a b c, μ' = μ.set n (cupC a b c)
theorem Cup.lt {n : Nat} {μ : Mu} (h : Cup n μ) : n < μ.length := by
  obtain ⟨a, b, c, e⟩ := h
  exact (List.getElem?_eq_some_iff.mp e).1
theorem Sip.refl {n : Nat} {μ : Mu} (h : Cup n μ) : Sip n μ μ := by
  obtain ⟨a, b, c, e⟩ := h
  refine ⟨a, b, c, ?_⟩
  obtain ⟨hl, q⟩ := List.getElem?_eq_some_iff.mp e
  rw [← q, List.set_getElem_self]
theorem Sip.trans {n : Nat} {μ μ1 μ2 : Mu} (h : Sip n μ μ1) (g : Sip n μ1 μ2) : Sip n μ μ2 := by
  obtain ⟨a, b, c, rfl⟩ := h
  obtain ⟨a', b', c', rfl⟩ := g
  exact ⟨a', b', c', by rw [List.set_set]⟩
theorem Sip.cup {n : Nat} {μ μ1 : Mu} (h : Sip n μ μ1) (g : Cup n μ) : Cup n μ1 := by
  obtain ⟨a, b, c, rfl⟩ := h
  exact ⟨a, b, c, by rw [List.getElem?_set_self g.lt]⟩
theorem Sip.len {n : Nat} {μ μ1 : Mu} (h : Sip n μ μ1) : μ1.length = μ.length := by
  obtain ⟨a, b, c, rfl⟩ := h
  rw [List.length_set]
theorem Sip.app {n : Nat} {μ μ1 ν : Mu} (h : Sip n (μ ++ ν) μ1) (g : n < μ.length) : ∃ μ2, Sip n μ μ2 ∧ μ1 = μ2 ++ ν := by
  obtain ⟨a, b, c, rfl⟩ := h
  exact ⟨μ.set n (cupC a b c), ⟨a, b, c, rfl⟩, by rw [List.set_append_left _ _ g]⟩
theorem Cup.app {n : Nat} {μ : Mu} (h : Cup n μ) (ν : Mu) : Cup n (μ ++ ν) := by
  have hl := h.lt
  obtain ⟨a, b, c, e⟩ := h
  exact ⟨a, b, c, by rw [List.getElem?_append_left hl]; exact e⟩
theorem Sip.take {n k : Nat} {μ μ1 : Mu} (h : Sip n μ μ1) (hk : k = μ.length) : μ1.take k = μ1 := by
  rw [List.take_of_length_le (by rw [h.len, hk]; exact Nat.le_refl _)]
theorem ix_loc {n i : Nat} {m : Mu} {xs : List D} {x : D} (h : m[n]? = some (.lst xs)) (hx : xs[i]? = some x) : ixD (.loc n) (.int (i : Int)) m = .ok x m := by
  unfold ixD
  simp only [lstOf, h, ix_at i xs x hx]
theorem ix_lst {i : Nat} {m : Mu} {xs : List D} {x : D} (hx : xs[i]? = some x) : ixD (.lst xs) (.int (i : Int)) m = .ok x m := by
  unfold ixD
  simp only [lstOf, ix_at i xs x hx]
theorem set_cup {n : Nat} {m : Mu} {a b c v : Int} (h : m[n]? = some (cupC a b c)) : setD (.loc n) (.int 2) (.int v) m = .ok () (m.set n (cupC a b v)) ∧ setD (.loc n) (.int 1) (.int v) m = .ok () (m.set n (cupC a v c)) ∧ setD (.loc n) (.int 0) (.int v) m = .ok () (m.set n (cupC v b c)) := by
  unfold cupC at h
  refine ⟨?_, ?_, ?_⟩ <;>
  · unfold setD
    simp only [h]
    rfl
theorem exit_int {n : Nat} {b : Int} {m : Mu} : exitD n (.int b) m = .ok (.int b) (m.take n) := exit_in rfl
theorem rng_get {lo : Int} {N k : Nat} (h : k < N) : (rngL lo N)[k]? = some (.int (lo + k)) := by
  unfold rngL
  rw [List.getElem?_map, List.getElem?_range h]
  rfl
theorem lc_rng {T : Type} {i n : Nat} {te : XE'} {r0 : Rho} (enc : T → D) (hin : ∀ t m, (enc t).inB m = true) (Q : Nat → T → Prop) {N : Nat} (hN : N ≤ sizeLine)
    (he : ∀ k < N, ∀ μ, Cup n μ → ∃ t μ', te (r0.set i (some (.int (k : Nat)))) μ = .ok (enc t) μ' ∧ Q k t ∧ Sip n μ μ') {μ : Mu} (h : Cup n μ) :
    ∃ (ts : List T) (μ' : Mu), lcD (gNm i) xYes te r0 (rngL 0 N) μ = .ok (.lst (ts.map enc)) μ' ∧ ts.length = N ∧ (∀ k t, ts[k]? = some t → Q k t) ∧ Sip n μ μ' := by
  have go : ∀ (j : Nat) (ts : List T) (ν : Mu), ts.length + j = N → Cup n ν → ν.length = μ.length → (∀ k t, ts[k]? = some t → Q k t) → ∃ (ts' : List T) (ν' : Mu), lcF (gNm i) xYes te μ.length r0 ((rngL 0 N).drop ts.length) (ν ++ [.lst (ts.map enc)]) = .ok () (ν' ++ [.lst (ts'.map enc)]) ∧ ts'.length = N ∧ (∀ k t, ts'[k]? = some t → Q k t) ∧ Sip n ν ν' := fun j => by
    induction j with
    | zero =>
      intro ts ν hl hc hln hq
      refine ⟨ts, ν, ?_, hl, hq, Sip.refl hc⟩
      rw [List.drop_of_length_le (by simp [rngL]; omega)]
      rfl
    | succ j ih =>
      intro ts ν hl hc hln hq
      have hk : ts.length < N := by omega
      obtain ⟨t, ν1, e1, q1, s1⟩ := he ts.length hk (ν ++ [.lst (ts.map enc)]) (hc.app _)
      obtain ⟨ν2, s2, rfl⟩ := s1.app hc.lt
      have hd : (rngL 0 N).drop ts.length = .int ((ts.length : Nat) : Int) :: (rngL 0 N).drop (ts.length + 1) := by
        have := rng_get (lo := 0) hk
        rw [List.drop_eq_getElem?_toList_append, this]
        simp
      have hp : pushD μ.length (enc t) (ν2 ++ [.lst (ts.map enc)]) = .ok () (ν2 ++ [.lst ((ts ++ [t]).map enc)]) := by
        have hl2 : ν2.length = μ.length := s2.len.trans hln
        unfold pushD
        rw [List.getElem?_append_right (by omega), ← hl2, Nat.sub_self]
        simp only [List.getElem?_cons_zero]
        rw [if_pos ⟨hin _ _, by rw [List.length_map]; omega⟩, List.set_append_right _ _ (Nat.le_refl _), Nat.sub_self]
        simp
      obtain ⟨ts', ν', e2, l2, q2, s3⟩ := ih (ts ++ [t]) ν2 (by rw [List.length_append, List.length_singleton]; omega) (s2.cup hc) (s2.len.trans hln) (fun k u hu => by
        by_cases hkk : k < ts.length
        · rw [List.getElem?_append_left hkk] at hu
          exact hq k u hu
        · rw [List.getElem?_append_right (by omega)] at hu
          have : k = ts.length := by
            by_cases e : k - ts.length = 0
            · omega
            · obtain ⟨z, ez⟩ := Nat.exists_eq_succ_of_ne_zero e
              rw [ez] at hu
              cases hu
          subst this
          rw [Nat.sub_self] at hu
          cases hu
          exact q1)
      refine ⟨ts', ν', ?_, l2, q2, s2.trans s3⟩
      rw [hd, lcF]
      simp only [gNm, Out.ne, Out.bind, xYes, if_true, e1, hp]
      rw [List.length_append, List.length_singleton] at e2
      exact e2
  obtain ⟨ts, ν, e, l, q, s⟩ := go N [] μ (by simp) h rfl (fun k t ht => by simp at ht)
  refine ⟨ts, ν, ?_, l, q, s⟩
  rw [List.length_nil, List.drop_zero, List.map_nil] at e
  unfold lcD
  rw [e]
  have hl2 : ν.length = μ.length := s.len
  simp [Out.bind, lcEnd, ← hl2]
theorem md_ok {i j : Int} {m : Mu} (hj : 0 < j) : modD (.int i) (.int j) m = .ok (.int (i % j)) m := by
  unfold modD DS.intD
  simp only [decide_eq_true hj, if_true]
theorem mul_ok {i j : Int} {m : Mu} (h : -(2 ^ 64) < i ∧ i < 2 ^ 64) : mulD (.int i) (.int j) m = .ok (.int (i * j)) m := by
  unfold mulD mulOk
  simp only [decide_eq_true h, Bool.true_or, if_true]
theorem int_ok {i : Int} {m : Mu} : intF [.int i] m = .ok (.int i) m := rfl
theorem PAR : (∀ {i j : Nat} {a : XA} {r : Rho} {m : Mu}, sPar i j a r m = (a r m).stm r fun ds m1 => match ds with
  | [x, y] => .next ((r.set i (some x)).set j (some y)) m1
  | _ => .stuck) ∧ (∀ {i j l : Nat} {a : XA} {r : Rho} {m : Mu}, sPar3 i j l a r m = (a r m).stm r fun ds m1 => match ds with
  | [x, y, z] => .next (((r.set i (some x)).set j (some y)).set l (some z)) m1
  | _ => .stuck) := by
  refine ⟨?_, ?_⟩ <;> intros <;> rfl
theorem rng1_ok {k : Nat} (h : k < 2 ^ 62) (m : Mu) : rngD1 [.int (k : Int)] m = .ok (rngL 0 k) m := by
  unfold rngD1
  simp only
  rw [if_pos (by omega), Int.toNat_natCast]
theorem min_ok (a b : Nat) (m : Mu) : minF [.int a, .int b] m = .ok (.int ((min a b : Nat) : Int)) m := by
  show Out.ok (D.int (if (b : Int) < a then (b : Int) else a)) m = _
  congr 2
  split <;> omega
structure Shw (p : PyData) (k w : Nat) : Prop where
  sh : p.showable = true
  dp : p.depth ≤ k
  nd : p.hasDict = false
  lv : p.leavesShort 30 = true
  wt : p.weight ≤ w
  ly : p.canLay0 = true
structure ShwL (p : List PyData) (k w : Nat) : Prop where
  sh : PyData.showableAll p = true
  dp : PyData.depthAll p ≤ k
  nd : PyData.hasDictAll p = false
  lv : PyData.leavesShortAll 30 p = true
  wt : PyData.weightAll p ≤ w
  ly : PyData.canLayAll0 p = true
theorem ShwL.nil {k w : Nat} : ShwL [] k w := ⟨rfl, Nat.zero_le _, rfl, rfl, Nat.zero_le _, rfl⟩
theorem ShwL.cons {p : PyData} {ps : List PyData} {k w v : Nat} (h : Shw p k w) (g : ShwL ps k v) : ShwL (p :: ps) k (w + 1 + v) :=
  ⟨by rw [PyData.showableAll, h.sh, g.sh]; rfl, by rw [PyData.depthAll]; exact Nat.max_le.mpr ⟨h.dp, g.dp⟩, by rw [PyData.hasDictAll, h.nd, g.nd]; rfl, by rw [PyData.leavesShortAll, h.lv, g.lv]; rfl, by rw [PyData.weightAll]; have := h.wt; have := g.wt; omega, by rw [PyData.canLayAll0, h.ly, g.ly]; rfl⟩
theorem ShwL.all {ps : List PyData} {k w : Nat} (h : ∀ p ∈ ps, Shw p k w) : ShwL ps k ((w + 1) * ps.length) := by
  induction ps with
  | nil => exact .nil
  | cons p ps ih =>
    have := ShwL.cons (h p (List.mem_cons_self ..)) (ih fun q hq => h q (List.mem_cons_of_mem _ hq))
    rw [List.length_cons, Nat.mul_succ, Nat.add_comm]
    exact this
theorem Shw.tup {ps : List PyData} {k w : Nat} (h : ShwL ps k w) : Shw (.tuple ps) (k + 1) w :=
  ⟨by rw [PyData.showable]; exact h.sh, by rw [PyData.depth]; exact Nat.succ_le_succ h.dp, by rw [PyData.hasDict]; exact h.nd, by rw [PyData.leavesShort]; exact h.lv, by rw [PyData.weight]; exact h.wt, by rw [PyData.canLay0]; exact h.ly⟩
theorem Shw.lst {ps : List PyData} {k w : Nat} (h : ShwL ps k w) : Shw (.list ps) (k + 1) w :=
  ⟨by rw [PyData.showable]; exact h.sh, by rw [PyData.depth]; exact Nat.succ_le_succ h.dp, by rw [PyData.hasDict]; exact h.nd, by rw [PyData.leavesShort]; exact h.lv, by rw [PyData.weight]; exact h.wt, by rw [PyData.canLay0]; exact h.ly⟩
theorem repr_of {d : D} {p : PyData} {k w : Nat} {m : Mu} (e : toP (dere m d) = some p) (h : Shw p k w) (hk : k ≤ 60) (hw : w ≤ 400000) : reprF [d] m = .ok (.str p.shown) m := by
  have h1 := PyData.shown_le 30 (by decide) p h.lv
  have h2 := h.wt
  have h3 := h.dp
  unfold reprF
  simp only [e]
  rw [if_pos ⟨h.sh, by omega, h.nd, by unfold sizeLine; omega⟩]
theorem loop_find {α : Type} {g : XG} {body : XS} {μ : Mu} (e : α → D) (I : Rho → Prop) (f : α → Option D) : ∀ {xs : List α} {r : Rho}, I r →
    (∀ x ∈ xs, ∀ r, I r → ∃ r1, g (e x) r μ = .ok r1 μ ∧ (∀ d, f x = some d → body r1 μ = .ret d μ) ∧ (f x = none → ∃ r2, body r1 μ = .next r2 μ ∧ I r2)) →
    (∀ d, xs.findSome? f = some d → loopF g body (xs.map e) r μ = .ret d μ) ∧ (xs.findSome? f = none → ∃ r', loopF g body (xs.map e) r μ = .next r' μ ∧ I r')
  | [], r, h, _ => ⟨(fun d h => nomatch h), fun _ => ⟨r, rfl, h⟩⟩
  | x :: xs, r, h, hs => by
    obtain ⟨r1, h1, h2, h3⟩ := hs x (List.mem_cons_self ..) r h
    rw [List.map_cons, loopF, h1]
    simp only [AB]
    cases hf : f x with
    | some d =>
      rw [List.findSome?_cons_of_isSome (by rw [hf]; rfl), hf]
      refine ⟨fun d' e => ?_, (fun e => nomatch e)⟩
      cases e
      rw [h2 d hf]
    | none =>
      obtain ⟨r2, h4, h5⟩ := h3 hf
      rw [List.findSome?_cons_of_isNone (by rw [hf]; rfl), h4]
      exact loop_find e I f h5 fun y hy => hs y (List.mem_cons_of_mem _ hy)
theorem lc_gen {α : Type} {g : XG} {tt : XT} {te : XE'} {r0 : Rho} {μ : Mu} (e : α → D) (b : α → Bool) (f : α → D) (ρ : α → Rho) {xs : List α}
    (h0 : ∀ x ∈ xs, ∀ m, g (e x) r0 m = .ok (ρ x) m)
    (h1 : ∀ x ∈ xs, ∀ acc, tt (ρ x) (μ ++ [.lst acc]) = .ok (b x) (μ ++ [.lst acc]))
    (h2 : ∀ x ∈ xs, b x = true → ∀ acc, te (ρ x) (μ ++ [.lst acc]) = .ok (f x) (μ ++ [.lst acc]))
    (h3 : ∀ x ∈ xs, b x = true → (f x).inB μ.length = true) (hl : xs.length ≤ sizeLine) :
    lcD g tt te r0 (xs.map e) μ = .ok (.lst ((xs.filter b).map f)) μ := by
  have go : ∀ (ys : List α) (acc : List D), (∀ y ∈ ys, y ∈ xs) → acc.length + ys.length ≤ sizeLine → lcF g tt te μ.length r0 (ys.map e) (μ ++ [.lst acc]) = .ok () (μ ++ [.lst (acc ++ (ys.filter b).map f)]) := fun ys => by
    induction ys with
    | nil => intro acc _ _; simp [lcF]
    | cons y ys ih =>
      intro acc hm hl
      rw [List.length_cons] at hl
      have hy := hm y (List.mem_cons_self ..)
      rw [List.map_cons, lcF]
      simp only [h0 y hy, Out.ne, Out.bind, h1 y hy acc]
      cases hb : b y
      · simp only [Bool.false_eq_true, if_false, List.filter_cons, hb]
        exact ih acc (fun z hz => hm z (List.mem_cons_of_mem _ hz)) (by omega)
      · have e : pushD μ.length (f y) (μ ++ [.lst acc]) = .ok () (μ ++ [.lst (acc ++ [f y])]) := by
          unfold pushD
          rw [List.getElem?_append_right (Nat.le_refl _), Nat.sub_self]
          simp only [List.getElem?_cons_zero]
          rw [if_pos ⟨h3 y hy hb, by omega⟩, List.set_append_right _ _ (Nat.le_refl _), Nat.sub_self]
          rfl
        simp only [if_true, List.filter_cons, hb, h2 y hy hb acc, e]
        rw [ih (acc ++ [f y]) (fun z hz => hm z (List.mem_cons_of_mem _ hz)) (by rw [List.length_append]; simp; omega)]
        simp
  unfold lcD
  rw [go xs [] (fun _ h => h) (by simpa using hl)]
  simp [Out.bind, lcEnd]
theorem lc_flat {α β : Type} {i j : Nat} {fi : XA} {r0 : Rho} {μ : Mu} (e : α → D) (k : α → List β) (d : β → D) {xs : List α} (hij : i < r0.length) (hj : j < r0.length) (hne : i ≠ j)
    (h1 : ∀ x ∈ xs, ∀ acc, fi (r0.set i (some (e x))) (μ ++ [.lst acc]) = .ok ((k x).map d) (μ ++ [.lst acc]))
    (h3 : ∀ y, (d y).inB μ.length = true) (hl : (xs.flatMap k).length ≤ sizeLine) :
    lc2D (gNm i) xYes fi [j] (gNm j) xYes (xVar j) r0 (xs.map e) μ = .ok (.lst ((xs.flatMap k).map d)) μ := by
  have inner : ∀ (r : Rho) (ys : List β) (acc : List D), j < r.length → acc.length + ys.length ≤ sizeLine → lcF (gNm j) xYes (xVar j) μ.length r (ys.map d) (μ ++ [.lst acc]) = .ok () (μ ++ [.lst (acc ++ ys.map d)]) := fun r ys => by
    induction ys with
    | nil => intro acc _ _; simp [lcF]
    | cons y ys ih =>
      intro acc hr hl
      rw [List.length_cons] at hl
      have e : pushD μ.length (d y) (μ ++ [.lst acc]) = .ok () (μ ++ [.lst (acc ++ [d y])]) := by
        unfold pushD
        rw [List.getElem?_append_right (Nat.le_refl _), Nat.sub_self]
        simp only [List.getElem?_cons_zero]
        rw [if_pos ⟨h3 y, by omega⟩, List.set_append_right _ _ (Nat.le_refl _), Nat.sub_self]
        rfl
      rw [List.map_cons, lcF]
      simp only [gNm, Out.ne, Out.bind, xYes, if_true, AV, List.getElem?_set_self hr, e]
      rw [ih (acc ++ [d y]) hr (by rw [List.length_append]; simp; omega)]
      simp
  have go : ∀ (ys : List α) (acc : List D), (∀ y ∈ ys, y ∈ xs) → acc.length + (ys.flatMap k).length ≤ sizeLine → lcG (gNm i) xYes fi [j] (gNm j) xYes (xVar j) μ.length r0 (ys.map e) (μ ++ [.lst acc]) = .ok () (μ ++ [.lst (acc ++ (ys.flatMap k).map d)]) := fun ys => by
    induction ys with
    | nil => intro acc _ _; simp [lcG]
    | cons y ys ih =>
      intro acc hm hl
      rw [List.flatMap_cons, List.length_append] at hl
      have hy := hm y (List.mem_cons_self ..)
      rw [List.map_cons, lcG]
      simp only [show gNm i (e y) r0 (μ ++ [.lst acc]) = .ok (r0.set i (some (e y))) (μ ++ [.lst acc]) from rfl, Out.ne, Out.bind, show xYes (r0.set i (some (e y))) (μ ++ [.lst acc]) = .ok true (μ ++ [.lst acc]) from rfl, if_true, h1 y hy acc]
      have hin := inner (wipeR (r0.set i (some (e y))) [j]) (k y) acc (by simp [wipeR]; exact hj) (by omega)
      rw [hin]
      simp only
      rw [ih (acc ++ (k y).map d) (fun z hz => hm z (List.mem_cons_of_mem _ hz)) (by rw [List.length_append, List.length_map]; omega)]
      simp
  unfold lc2D
  rw [go xs [] (fun _ h => h) (by simpa using hl)]
  simp [Out.bind, lcEnd]
theorem toPs_int : ∀ ns : List Int, toPs (ns.map D.int) = some (ns.map PyData.int)
  | [] => rfl
  | n :: ns => by
    rw [List.map_cons, toPs, toPs_int ns]
    rfl
theorem canLay_int : ∀ ns : List Int, PyData.canLayAll0 (ns.map PyData.int) = true
  | [] => rfl
  | n :: ns => by
    rw [List.map_cons, PyData.canLayAll0, canLay_int ns]
    rfl
theorem depth_int : ∀ ns : List Int, PyData.depthAll (ns.map PyData.int) = 0
  | [] => rfl
  | n :: ns => by
    rw [List.map_cons, PyData.depthAll, depth_int ns]
    rfl
theorem eq_nil (ns : List Int) (m : Mu) : eqB m (.lst (ns.map .int)) (.lst []) = some ns.isEmpty := by
  unfold eqB
  have e : toP (dere m (.lst (ns.map .int))) = some (.list (ns.map PyData.int)) := by
    show toP (.lst (ns.map .int)) = _
    rw [toP, toPs_int]
    rfl
  have e2 : toP (dere m (.lst [])) = some (.list []) := rfl
  rw [e, e2]
  have hs : SeqAt.shaped (.list (ns.map PyData.int)) = true := by
    unfold SeqAt.shaped
    rw [PyData.canLay0, canLay_int, PyData.depth, depth_int]
    rfl
  simp only [hs, show SeqAt.shaped (.list []) = true from rfl, Bool.and_true, if_true]
  cases ns <;> rfl
theorem ne_nil (ns : List Int) (m : Mu) : neD (.lst (ns.map .int)) (.lst []) m = .ok (.bl (!ns.isEmpty)) m := by
  show (match eqB m (.lst (ns.map .int)) (.lst []) with
    | some b => Out.ok (D.bl (!b)) m
    | none => .stuck) = _
  rw [eq_nil]
theorem eq_nil' (ns : List Int) (m : Mu) : eqD (.lst (ns.map .int)) (.lst []) m = .ok (.bl ns.isEmpty) m := by
  show (match eqB m (.lst (ns.map .int)) (.lst []) with
    | some b => Out.ok (D.bl b) m
    | none => .stuck) = _
  rw [eq_nil]
theorem ints_map : ∀ ns : List Int, intsL (ns.map D.int) = some ns
  | [] => rfl
  | n :: ns => by
    rw [List.map_cons]
    unfold intsL
    rw [ints_map ns]
    rfl
theorem sort_ok (ns : List Int) (m : Mu) : sortF [.lst (ns.map .int)] m = .ok (.lst ((sortI ns).map .int)) m := by
  unfold sortF
  simp only [lstOf, ints_map]
theorem catX_ok {xs ys : List D} {m : Mu} (h : xs.length + ys.length ≤ 1000) : addD (.lst xs) (.lst ys) m = .ok (.lst (xs ++ ys)) m := by
  show (if xs.length + ys.length ≤ sizeLine then Out.ok (D.lst (xs ++ ys)) m else .stuck) = _
  rw [if_pos (by unfold sizeLine; omega)]
theorem cut_to' (xs : List D) (k : Nat) : DS.cutD xs none (some (k : Int)) = xs.take k := by
  unfold DS.cutD
  rw [HT.sIx_nat, HT.sIx_none, List.drop_zero, Nat.sub_zero]
  by_cases h : k ≤ xs.length
  · rw [Nat.min_eq_left h]
  · rw [Nat.min_eq_right (by omega), List.take_length, List.take_of_length_le (by omega)]
theorem seq_next {f g : XS} {r r' : Rho} {m m' : Mu} (e : f r m = .next r' m') : sSeq f g r m = g r' m' := by
  show (match f r m with
    | .next r' m' => g r' m'
    | o => o) = _
  rw [e]
theorem mul_ok' {i j : Int} {m : Mu} (h : -(2 ^ 64) < j ∧ j < 2 ^ 64) : mulD (.int i) (.int j) m = .ok (.int (i * j)) m := by
  unfold mulD mulOk
  simp only [decide_eq_true h, Bool.or_true, if_true]
theorem lc_all {i : Nat} {te : XE'} {r0 : Rho} {xs : List D} (hl : xs.length ≤ 1000) (h : ∀ x ∈ xs, ∀ c ν, ∃ ν', te (r0.set i (some x)) (c :: ν) = .ok (.bl true) (c :: ν')) : lcD (gNm i) xYes te r0 xs [] = .ok (.lst (xs.map fun _ => .bl true)) [] := by
  have go : ∀ (ys : List D) (acc : List D) (ν : Mu), (∀ y ∈ ys, y ∈ xs) → acc.length + ys.length ≤ 1000 → ∃ ν', lcF (gNm i) xYes te 0 r0 ys (.lst acc :: ν) = .ok () (.lst (acc ++ ys.map fun _ => .bl true) :: ν') := fun ys => by
    induction ys with
    | nil => intro acc ν _ _; exact ⟨ν, by simp [lcF]⟩
    | cons y ys ih =>
      intro acc ν hm hl
      rw [List.length_cons] at hl
      obtain ⟨ν1, e1⟩ := h y (hm y (List.mem_cons_self ..)) (.lst acc) ν
      have e : pushD 0 (.bl true) (.lst acc :: ν1) = .ok () (.lst (acc ++ [.bl true]) :: ν1) := by
        unfold pushD
        simp only [List.getElem?_cons_zero]
        rw [if_pos ⟨rfl, by unfold sizeLine; omega⟩]
        rfl
      obtain ⟨ν2, e2⟩ := ih (acc ++ [.bl true]) ν1 (fun z hz => hm z (List.mem_cons_of_mem _ hz)) (by rw [List.length_append]; simp; omega)
      refine ⟨ν2, ?_⟩
      rw [lcF]
      simp only [gNm, Out.ne, Out.bind, xYes, if_true, e1, e]
      rw [e2]
      simp
  obtain ⟨ν', e⟩ := go xs [] [] (fun _ h => h) (by simpa using hl)
  unfold lcD
  show (lcF (gNm i) xYes te 0 r0 xs [.lst []]).bind _ = _
  rw [e]
  rfl
theorem allT_ok (xs : List D) (m : Mu) : allF [.lst (xs.map fun _ => .bl true)] m = .ok (.bl true) m := by
  rw [all_map (fun _ => true)]
  congr 2
  rw [List.all_eq_true]
  intro _ _
  rfl
theorem len_fix (ns : List Int) (m : Mu) : lenD [.fix (ns.map .int)] m = .ok (.int (ns.length : Nat)) m := by
  show Out.ok (D.int ((ns.map D.int).length : Nat)) m = _
  rw [List.length_map]
theorem max_ok (a b : Nat) (m : Mu) : maxF [.int a, .int b] m = .ok (.int ((max a b : Nat) : Int)) m := by
  show Out.ok (D.int (if (b : Int) > a then (b : Int) else a)) m = _
  congr 2
  split <;> omega
end J

/-! # GB: texts of books as lists of signs: what is read, no program in sight -/
namespace J
open PySem PySem.Spec PyProof.Rows L2 DS
open SX (S)
def K (s : String) : List Nat := s.toList.map Char.toNat
theorem K_S (s : String) : Str.ofString s = S (K s) := TL.ext_tl (TL.tl_ofString s)
theorem eqK (l : List Nat) (s : String) : (S l == Str.ofString s) = decide (l = K s) := by rw [K_S, SX.S_beq_eq]
theorem spl_ne {sep : List Nat} : ∀ {l : List Nat} {k : Nat} {acc : List Nat}, TL.spl sep k acc l ≠ []
  | [], 0, _ => by simp [TL.spl]
  | [], k + 1, _ => by simp [TL.spl]
  | c :: r, 0, acc => by
    rw [TL.spl]
    split
    · simp
    · exact spl_ne
  | c :: r, k + 1, acc => by
    rw [TL.spl]
    exact spl_ne
theorem joinL_cons {sep p : List Nat} : ∀ {q : List (List Nat)}, q ≠ [] → TL.joinL sep (p :: q) = p ++ (sep ++ TL.joinL sep q)
  | [], h => absurd rfl h
  | _ :: _, _ => rfl
theorem joinL_spl {sep : List Nat} (hs : sep ≠ []) : ∀ (n : Nat) (l acc : List Nat), l.length ≤ n → TL.joinL sep (TL.spl sep 0 acc l) = acc ++ l
  | n, [], acc, _ => by simp [TL.spl, TL.joinL]
  | 0, c :: r, _, h => by simp at h
  | n + 1, c :: r, acc, h => by
    rw [List.length_cons] at h
    by_cases hp : TL.pre sep (c :: r) = true
    · rw [TL.spl_hit hp, TL.spl_pass, joinL_cons spl_ne]
      have e : (c :: r).take sep.length = sep := eq_of_beq hp
      have hd : r.drop (sep.length - 1) = (c :: r).drop sep.length := by
        cases sep with
        | nil => exact absurd rfl hs
        | cons s S => rfl
      rw [joinL_spl hs n _ [] (by rw [List.length_drop]; omega), List.nil_append, hd]
      congr 1
      conv => lhs; lhs; rw [← e]
      exact List.take_append_drop _ _
    · rw [TL.spl_miss (by simpa using hp), joinL_spl hs n r _ (by omega)]
      simp
theorem spl_free1 {s : Nat} : ∀ (l : List Nat) (acc : List Nat), s ∉ acc → ∀ w ∈ TL.spl [s] 0 acc l, s ∉ w
  | [], acc, h, w, hw => by
    rw [TL.spl_nil, List.mem_singleton] at hw
    subst hw
    exact h
  | c :: r, acc, h, w, hw => by
    by_cases hp : TL.pre [s] (c :: r) = true
    · rw [TL.spl_hit hp] at hw
      have hw' : w = acc ∨ w ∈ TL.spl [s] 0 [] r := by
        rw [List.mem_cons] at hw
        exact hw
      rcases hw' with rfl | hw'
      · exact h
      · exact spl_free1 r [] (by simp) w hw'
    · have hp' : TL.pre [s] (c :: r) = false := by simpa using hp
      rw [TL.spl_miss hp'] at hw
      refine spl_free1 r _ ?_ w hw
      intro hm
      rw [List.mem_append, List.mem_singleton] at hm
      rcases hm with hm | hm
      · exact h hm
      · subst hm
        have := TL.pre_self [s] r
        rw [List.singleton_append] at this
        rw [this] at hp'
        cases hp'
theorem joinL_len {sep : List Nat} : ∀ {ps : List (List Nat)} {p : List Nat}, p ∈ ps → p.length ≤ (TL.joinL sep ps).length
  | [], p, h => by simp at h
  | [q], p, h => by
    rw [List.mem_singleton] at h
    subst h
    exact Nat.le_refl _
  | q :: q' :: r, p, h => by
    rw [TL.joinL, List.length_append, List.length_append]
    rw [List.mem_cons] at h
    rcases h with rfl | h
    · omega
    · have := joinL_len (sep := sep) h
      omega
theorem spl_len {sep : List Nat} (hs : sep ≠ []) {l p : List Nat} (h : p ∈ TL.spl sep 0 [] l) : p.length ≤ l.length := by
  have := joinL_len (sep := sep) h
  rw [joinL_spl hs l.length l [] (Nat.le_refl _)] at this
  simpa using this
theorem joinL_count {sep : List Nat} (hs : sep ≠ []) : ∀ {ps : List (List Nat)}, ps.length ≤ (TL.joinL sep ps).length + 1
  | [] => by simp
  | [q] => by simp
  | q :: q' :: r => by
    have := joinL_count hs (ps := q' :: r)
    have h0 : 0 < sep.length := List.length_pos_iff.mpr hs
    rw [TL.joinL, List.length_append, List.length_append, List.length_cons]
    omega
theorem spl_count {sep : List Nat} (hs : sep ≠ []) (l : List Nat) : (TL.spl sep 0 [] l).length ≤ l.length + 1 := by
  have := joinL_count hs (ps := TL.spl sep 0 [] l)
  rw [joinL_spl hs l.length l [] (Nat.le_refl _)] at this
  simpa using this
/-! ### signs, names, digits, classes -/
def low (c : Nat) : Bool := decide (97 ≤ c) && decide (c ≤ 122)
def dig (c : Nat) : Bool := decide (48 ≤ c) && decide (c ≤ 57)
def nameL : List Nat → Bool
  | [] => false
  | c :: r => low c && (decide (r.length < 8) && (c :: r).all fun x => low x || dig x)
def digL : List Nat → Option Nat
  | [c] => if dig c then some (c - 48) else none
  | _ => none
def clsL : List (List Nat) → Option (Nat × Nat)
  | [a, o, b] => if o = K "of" then (match digL a, digL b with
    | some r, some s => if 1 ≤ s ∧ s ≤ 3 ∧ r < s then some (r, s) else none
    | _, _ => none) else none
  | _ => none
/-- a clause that is read -/
structure Cu where
  w : List Nat
  rest : Nat
  step : Nat
  side : Option (List Nat)
  far : Option Nat
  goal : Option (List Nat)
def callW (ws : List (List Nat)) : Option Cu := match clsL (ws.drop 3) with
  | some (r, s) => if ws.getD 2 [] = K "on" ∧ nameL (ws.getD 1 []) = true then some ⟨K "call", r, s, none, none, some (ws.getD 1 [])⟩ else none
  | none => none
def clauseW (ws : List (List Nat)) : Option Cu := if ws.getD 0 [] = K "call" then callW ws else match clsL ((ws.drop 1).take 3) with
  | none => none
  | some (r, s) => if ws.getD 0 [] = K "clear" then (if ws.length = 4 then some ⟨K "clear", r, s, none, none, none⟩ else none) else
    if (ws.getD 0 [] = K "join" ∨ ws.getD 0 [] = K "take") ∧ ws.length = 6 ∧ (ws.getD 4 [] = K "left" ∨ ws.getD 4 [] = K "right") then (match digL (ws.getD 5 []) with
      | some d => if 1 ≤ d ∧ d ≤ 4 then some ⟨ws.getD 0 [], r, s, some (ws.getD 4 []), some d, none⟩ else none
      | none => none) else none
def clauseL (l : List Nat) : Option Cu := clauseW (TL.spl [32] 0 [] l)
def optS : Option (List Nat) → D
  | some l => .str (S l)
  | none => .non
def optN : Option Nat → D
  | some n => .int n
  | none => .non
def Cu.obj (c : Cu) : D := .obj "Clause" [("word", .str (S c.w)), ("rest", .int c.rest), ("step", .int c.step), ("side", optS c.side), ("far", optN c.far), ("goal", optS c.goal)]
def optC : Option Cu → D
  | some c => c.obj
  | none => .non
/-! ### rounds -/
def meetC (a b : Cu) : Bool := !(a.step == b.step) || a.rest == b.rest
def allSome {α : Type} : List (Option α) → Option (List α)
  | [] => some []
  | some x :: r => (allSome r).map (x :: ·)
  | none :: _ => none
def Cu.call (c : Cu) : Bool := decide (c.w = K "call")
def meets : List Cu → Bool
  | [] => false
  | c :: r => r.any (fun d => meetC d c) || meets r
def roundL (l : List Nat) : Option (List Cu) := match allSome ((TL.spl (K "; ") 0 [] l).map clauseL) with
  | none => none
  | some cs => if cs.length ≤ 3 ∧ (cs.all Cu.call = true ∨ cs.any Cu.call = false) ∧ meets cs = false then some cs else none
def optR : Option (List Cu) → D
  | some cs => .lst (cs.map Cu.obj)
  | none => .non
def goalL (l : List Nat) : Option (List Nat × Option Nat) := if l = K "all" ∨ l = K "before" then some (l, none) else if l.take 5 = K "last " then (match digL (l.drop 5) with
  | some d => if 1 ≤ d ∧ d ≤ 4 then some (K "last", some d) else none
  | none => none) else none
def optG : Option (List Nat × Option Nat) → D
  | some (w, n) => .tup [.str (S w), optN n]
  | none => .non
/-- which calls can stand -/
def standL (names above : List (List Nat)) (cs : List Cu) : Bool := cs.all fun c => match c.goal with
  | some g => decide (g ∈ names) && !(c.step == 1 && decide (g ∈ above))
  | none => true
theorem exit_non {n : Nat} {m : Mu} : exitD n .non m = .ok .non (m.take n) := exit_in rfl
theorem exit_str {n : Nat} {x : Str} {m : Mu} : exitD n (.str x) m = .ok (.str x) (m.take n) := exit_in rfl
theorem TD : (∀ {x : Str} {m : Mu}, tyD "str" m (.str x) = true) ∧ (∀ {x : List D} {m : Mu}, tyD "list" m (.lst x) = true) := by
  refine ⟨?_, ?_⟩ <;> intros <;> rfl
/-- no rfl: the kernel shall not run the body -/
theorem FA : (∀ {n : Nat} {keep : Bool} {g : XS} {ds : List D} {m : Mu}, fnOf n keep g ds m = (match g (rho0 n ds) m with
  | .next _ m' => .ok .non (m'.take m.length)
  | .ret d m' => if keep then .ok d m' else exitD m.length d m'
  | .exc c fs _ m' => if D.inF m.length fs then .exc c fs (m'.take m.length) else .stuck
  | _ => .stuck)) ∧ True := ⟨fun {n keep g ds m} => rfl, trivial⟩
theorem SL : (∀ {n : Nat} {ds : List D}, rho0 n ds = ds.map some ++ List.replicate (n - ds.length) none) ∧ (∀ {α β : Type} {f : α → β}, List.map f [] = []) ∧ (∀ {α β : Type} {f : α → β} {x : α} {r : List α}, List.map f (x :: r) = f x :: List.map f r) ∧
  (∀ {α : Type} {x : α}, List.replicate 0 x = []) ∧ (∀ {α : Type} {x : α} {n : Nat}, List.replicate (n + 1) x = x :: List.replicate n x) ∧ (∀ {α : Type}, List.length ([] : List α) = 0) ∧ (∀ {α : Type} {x : α} {r : List α}, List.length (x :: r) = r.length + 1) ∧ (∀ {α : Type} {r : List α}, [] ++ r = r) ∧ (∀ {α : Type} {x : α} {q r : List α}, (x :: q) ++ r = x :: (q ++ r)) ∧
  (∀ {i : Nat} {r : Rho} {m : Mu}, xVar i r m = (match r[i]? with
    | some (some d) => .ok d m
    | _ => .stuck)) := by
  refine ⟨?_, ?_, ?_, ?_, ?_, ?_, ?_, ?_, ?_, ?_⟩ <;> intros <;> rfl
/-! a def is run by its equations -/
end J

/-! # GS: what repr shows is a text of signs -/
namespace J
open PySem PySem.Spec PyProof.Rows L2 DS
open SX (S)
def Sok (x : Str) : Prop := ∀ c ∈ TL.tl x, c < 0x110000
theorem Sok.ok {x : Str} (h : Sok x) : PyData.strOk x = true := by
  show x.cps.all (· < 0x110000) = true
  rw [Array.all_eq_true']
  intro c hc
  exact decide_eq_true (h c (by show c ∈ x.cps.toList; simpa using hc))
theorem Sok.of {x : Str} (h : PyData.strOk x = true) : Sok x := fun c hc => by
  have h' : x.cps.all (· < 0x110000) = true := h
  rw [Array.all_eq_true'] at h'
  exact of_decide_eq_true (h' c (by have : c ∈ x.cps.toList := hc; simpa using this))
theorem Sok.app {x y : Str} (h : Sok x) (g : Sok y) : Sok (x ++ y) := fun c hc => by
  rw [TL.tl_append, List.mem_append] at hc
  exact hc.elim (h c) (g c)
theorem char_lt (c : Char) : c.toNat < 0x110000 := by
  have := c.valid
  rcases this with h | ⟨_, h⟩
  · have : c.toNat < 0xd800 := h
    omega
  · exact h
theorem Sok.lit (s : String) : Sok (Str.ofString s) := fun c hc => by
  rw [TL.tl_ofString] at hc
  obtain ⟨d, _, rfl⟩ := List.mem_map.mp hc
  exact char_lt d
theorem Sok.S {l : List Nat} (h : ∀ c ∈ l, c < 0x110000) : Sok (S l) := h
theorem reprChar_sok {q c : Nat} (hq : q < 0x110000) (hc : c < 0x110000) : ∀ d ∈ Builtin.Str.reprChar q c, d < 0x110000 := by
  have hex : ∀ w : Nat, ∀ d ∈ (let dd := (Nat.toDigits 16 c).map Char.toNat; List.replicate (w - dd.length) 48 ++ dd), d < 0x110000 := fun w d hd => by
    simp only [List.mem_append, List.mem_replicate, List.mem_map] at hd
    rcases hd with ⟨_, rfl⟩ | ⟨a, _, rfl⟩
    · decide
    · exact char_lt a
  intro d hd
  unfold Builtin.Str.reprChar at hd
  dsimp only at hd
  repeat' split at hd
  all_goals simp only [List.mem_append, List.mem_cons, List.not_mem_nil, or_false] at hd
  · rcases hd with rfl | rfl <;> omega
  · rcases hd with rfl | rfl <;> omega
  · rcases hd with rfl | rfl <;> omega
  · rcases hd with rfl | rfl <;> omega
  · rw [hd]; exact hc
  · rcases hd with (rfl | rfl) | hd
    · omega
    · omega
    · exact hex 2 d (by simpa using hd)
  · rcases hd with (rfl | rfl) | hd
    · omega
    · omega
    · exact hex 4 d (by simpa using hd)
  · rcases hd with (rfl | rfl) | hd
    · omega
    · omega
    · exact hex 8 d (by simpa using hd)
theorem Sok.repr {x : Str} (h : Sok x) : Sok (reprText x) := by
  have hq : reprQuote x < 0x110000 := by
    unfold reprQuote
    split <;> decide
  have go : ∀ (l : List Nat) (acc : Array Nat), (∀ c ∈ l, c < 0x110000) → (∀ c ∈ acc.toList, c < 0x110000) → ∀ c ∈ (l.foldl (fun out c => out ++ (Builtin.Str.reprChar (reprQuote x) c).toArray) acc).toList, c < 0x110000 := fun l => by
    induction l with
    | nil => intro acc _ ha; exact ha
    | cons a r ih =>
      intro acc hl ha
      rw [List.foldl_cons]
      refine ih _ (fun c hc => hl c (List.mem_cons_of_mem _ hc)) fun c hc => ?_
      rw [Array.toList_append, List.mem_append] at hc
      exact hc.elim (ha c) (reprChar_sok hq (hl a (List.mem_cons_self ..)) c)
  intro c hc
  have hc' : c ∈ ((x.cps.foldl (fun out c => out ++ (Builtin.Str.reprChar (reprQuote x) c).toArray) #[reprQuote x]).push (reprQuote x)).toList := hc
  rw [Array.toList_push, List.mem_append, ← Array.foldl_toList] at hc'
  rcases hc' with hc' | hc'
  · refine go x.cps.toList _ h ?_ c hc'
    intro d hd
    have : d = reprQuote x := by simpa using hd
    rw [this]; exact hq
  · have : c = reprQuote x := by simpa using hc'
    rw [this]; exact hq
theorem Sok.text : ∀ {ts : List Str} {k : Nat} {acc : Str}, Sok acc → (∀ t ∈ ts, Sok t) → Sok (textFrom k acc ts)
  | [], _, _, h, _ => h
  | t :: r, k, acc, h, g => Sok.text (ts := r) ((h.app (Sok.lit _)).app (g t (List.mem_cons_self ..))) fun t ht => g t (List.mem_cons_of_mem _ ht)
theorem memJ {sep : List Nat} {x : Nat} : ∀ {ps : List (List Nat)}, x ∈ TL.joinL sep ps → x ∈ sep ∨ ∃ p ∈ ps, x ∈ p
  | [], h => by simp [TL.joinL] at h
  | [p], h => .inr ⟨p, by simp, h⟩
  | p :: q :: r, h => by
    rw [TL.joinL, List.mem_append, List.mem_append] at h
    rcases h with h | h | h
    · exact .inr ⟨p, by simp, h⟩
    · exact .inl h
    · rcases memJ h with h | ⟨p', hp, h⟩
      · exact .inl h
      · exact .inr ⟨p', List.mem_cons_of_mem _ hp, h⟩
theorem Sok.join {y : Str} {ts : List Str} (h : Sok y) (g : ∀ t ∈ ts, Sok t) : Sok (Str.join y ts) := fun c hc => by
  rw [TL.tl_join] at hc
  rcases memJ hc with q | ⟨p, hp, q⟩
  · exact h c q
  · obtain ⟨t, ht, rfl⟩ := List.mem_map.mp hp
    exact g t ht c q
mutual
theorem shown_sok : ∀ p : PyData, p.canLay0 = true → Sok p.shown
  | .none, _ => by rw [PyData.shown]; exact Sok.lit _
  | .bool b, _ => by rw [PyData.shown]; cases b <;> exact Sok.lit _
  | .int i, _ => by rw [PyData.shown]; exact Sok.lit _
  | .str x, h => by rw [PyData.shown]; rw [PyData.canLay0] at h; exact (Sok.of h).repr
  | .list xs, h => by
    rw [PyData.shown]
    rw [PyData.canLay0] at h
    exact (Sok.text (Sok.lit _) (shownAll_sok xs h)).app (Sok.lit _)
  | .tuple xs, h => by
    rw [PyData.shown]
    rw [PyData.canLay0] at h
    exact ((Sok.lit _).app (Sok.join (Sok.lit _) (shownAll_sok xs h))).app (Sok.lit _)
  | .dict _, h => by rw [PyData.canLay0] at h; cases h
theorem shownAll_sok : ∀ ps : List PyData, PyData.canLayAll0 ps = true → ∀ t ∈ PyData.shownAll ps, Sok t
  | [], _, t, ht => by rw [PyData.shownAll] at ht; cases ht
  | p :: ps, h, t, ht => by
    rw [PyData.canLayAll0, Bool.and_eq_true] at h
    rw [PyData.shownAll, List.mem_cons] at ht
    rcases ht with rfl | ht
    · exact shown_sok p h.1
    · exact shownAll_sok ps h.2 t ht
end
/-- two short lists of texts, compared -/
theorem eq_pair {a b c d : Str} (ha : Sok a) (hb : Sok b) (hc : Sok c) (hd : Sok d) (m : Mu) : eqD (.lst [.str a, .str b]) (.lst [.str c, .str d]) m = .ok (.bl ((a == c) && (b == d))) m := by
  have e : eqB m (.lst [.str a, .str b]) (.lst [.str c, .str d]) = some ((a == c) && (b == d)) := by
    show (if SeqAt.shaped (.list [.str a, .str b]) && SeqAt.shaped (.list [.str c, .str d]) then some (PyData.eqv (.list [.str a, .str b]) (.list [.str c, .str d])) else none) = _
    have s1 : ∀ {a b : Str}, Sok a → Sok b → SeqAt.shaped (.list [.str a, .str b]) = true := fun ha hb => by
      unfold SeqAt.shaped
      rw [PyData.canLay0, PyData.canLayAll0, PyData.canLayAll0, PyData.canLayAll0, PyData.canLay0, PyData.canLay0, ha.ok, hb.ok]
      rfl
    rw [s1 ha hb, s1 hc hd]
    simp only [Bool.and_self, if_true]
    congr 1
    show (((a == c) && ((b == d) && true)) : Bool) = _
    rw [Bool.and_true]
  show (match eqB m (.lst [.str a, .str b]) (.lst [.str c, .str d]) with
    | some b => Out.ok (D.bl b) m
    | none => .stuck) = _
  rw [e]
theorem ne_pair {a b c d : Str} (ha : Sok a) (hb : Sok b) (hc : Sok c) (hd : Sok d) (m : Mu) : neD (.lst [.str a, .str b]) (.lst [.str c, .str d]) m = .ok (.bl (!((a == c) && (b == d)))) m := by
  have h := eq_pair ha hb hc hd m
  have e1 : eqD (.lst [.str a, .str b]) (.lst [.str c, .str d]) m = (match eqB m (.lst [.str a, .str b]) (.lst [.str c, .str d]) with
    | some b => Out.ok (D.bl b) m
    | none => .stuck) := rfl
  rw [e1] at h
  show (match eqB m (.lst [.str a, .str b]) (.lst [.str c, .str d]) with
    | some b => Out.ok (D.bl (!b)) m
    | none => .stuck) = _
  cases q : eqB m (.lst [.str a, .str b]) (.lst [.str c, .str d]) with
  | none => rw [q] at h; cases h
  | some k => rw [q] at h; cases h; rfl
end J

/-! # GT: a def is run step by step, each step by its outcome -/
namespace J
open PySem PySem.Spec PyProof.Rows L2 DS
open SX (S)
section
variable {r r1 r2 : Rho} {m m1 m2 m3 : Mu} {f g h : XE'} {a : XA} {d x y : D} {xs : List D} {i : Nat}
theorem w_var (e : r[i]? = some (some d)) : xVar i r m = .ok d m := by unfold xVar; rw [e]
theorem w_c : xC d r m = .ok d m := rfl
theorem w_op {o : D → D → Mu → Out D} {R : Out D} (ha : f r m = .ok x m1) (hb : g r m1 = .ok y m2) (e : o x y m2 = R) : xOp o f g r m = R := by
  show (f r m).bind _ = _
  rw [ha]
  show (g r m1).bind _ = _
  rw [hb]
  exact e
theorem wa_nil : xaNil r m = .ok [] m := rfl
theorem wa_cons (ha : f r m = .ok x m1) (hb : a r m1 = .ok xs m2) : xaCons f a r m = .ok (x :: xs) m2 := by
  show (f r m).bind _ = _
  rw [ha]
  show (a r m1).bind _ = _
  rw [hb]
  rfl
theorem wa_1 (ha : f r m = .ok x m1) : xaCons f xaNil r m = .ok [x] m1 := wa_cons ha rfl
theorem wa_2 (ha : f r m = .ok x m1) (hb : g r m1 = .ok y m2) : xaCons f (xaCons g xaNil) r m = .ok [x, y] m2 := wa_cons ha (wa_1 hb)
theorem wa_3 {z : D} (ha : f r m = .ok x m1) (hb : g r m1 = .ok y m2) (hc : h r m2 = .ok z m3) : xaCons f (xaCons g (xaCons h xaNil)) r m = .ok [x, y, z] m3 := wa_cons ha (wa_2 hb hc)
theorem w_call {G : Fn} {R : Out D} (ha : a r m = .ok xs m1) (e : G xs m1 = R) : xCall G a r m = R := by
  show (a r m).bind _ = _
  rw [ha]
  exact e
theorem w_lst (ha : a r m = .ok xs m1) : xLst a r m = .ok (.lst xs) m1 := by
  show (a r m).bind _ = _
  rw [ha]
  rfl
theorem w_tup (ha : a r m = .ok xs m1) : xTup a r m = .ok (.tup xs) m1 := by
  show (a r m).bind _ = _
  rw [ha]
  rfl
theorem w_new (ha : a r m = .ok xs m1) (hi : D.inL m1.length xs = true) : xNew a r m = .ok (.loc m1.length) (m1 ++ [.lst xs]) := by
  show (a r m).bind _ = _
  rw [ha]
  show (if D.inL m1.length xs then _ else _) = _
  rw [if_pos hi]
theorem w_if1 {t : XT} {R : Out D} (ht : t r m = .ok true m1) (e : f r m1 = R) : xIf t f g r m = R := by
  show (t r m).bind _ = _
  rw [ht]
  exact e
theorem w_if0 {t : XT} {R : Out D} (ht : t r m = .ok false m1) (e : g r m1 = R) : xIf t f g r m = R := by
  show (t r m).bind _ = _
  rw [ht]
  exact e
theorem w_tst {b : Bool} (e : f r m = .ok (.bl b) m1) : xTest f r m = .ok b m1 := by
  show (f r m).bind _ = _
  rw [e]
  rfl
theorem w_not {t : XT} {b : Bool} (e : t r m = .ok b m1) : xNotT t r m = .ok (!b) m1 := by
  show (t r m).bind _ = _
  rw [e]
  rfl
theorem w_or1 {t u : XT} (e : t r m = .ok true m1) : xOrT t u r m = .ok true m1 := by
  show (t r m).bind _ = _
  rw [e]
  rfl
theorem w_or0 {t u : XT} {R : Out Bool} (e : t r m = .ok false m1) (e2 : u r m1 = R) : xOrT t u r m = R := by
  show (t r m).bind _ = _
  rw [e]
  exact e2
theorem w_and0 {t u : XT} (e : t r m = .ok false m1) : xAndT t u r m = .ok false m1 := by
  show (t r m).bind _ = _
  rw [e]
  rfl
theorem w_and1 {t u : XT} {R : Out Bool} (e : t r m = .ok true m1) (e2 : u r m1 = R) : xAndT t u r m = R := by
  show (t r m).bind _ = _
  rw [e]
  exact e2
theorem v_and {b k : Bool} (e : f r m = .ok (.bl b) m1) (e2 : b = true → g r m1 = .ok (.bl k) m1) : xAnd f g r m = .ok (.bl (b && k)) m1 := by
  show ((f r m).bind asB).bind _ = _
  rw [e]
  show (if b = true then g r m1 else Out.ok (D.bl false) m1) = _
  cases b with
  | true => rw [if_pos rfl, e2 rfl]; rfl
  | false => rfl
theorem v_or {b k : Bool} (e : f r m = .ok (.bl b) m1) (e2 : b = false → g r m1 = .ok (.bl k) m1) : xOr f g r m = .ok (.bl (b || k)) m1 := by
  show ((f r m).bind asB).bind _ = _
  rw [e]
  show (if b = true then Out.ok (D.bl true) m1 else g r m1) = _
  cases b with
  | true => rfl
  | false => rw [if_neg (by decide), e2 rfl]; rfl
theorem v_not {b : Bool} (e : f r m = .ok (.bl b) m1) : xNot f r m = .ok (.bl (!b)) m1 := by
  show ((f r m).bind asB).bind _ = _
  rw [e]
  rfl
theorem v_chain {o o' : D → D → Mu → Out D} {z : D} {b k : Bool} (ha : f r m = .ok x m) (hb : g r m = .ok y m) (hc : h r m = .ok z m) (e1 : o x y m = .ok (.bl b) m) (e2 : o' y z m = .ok (.bl k) m) : xChain o o' f g h r m = .ok (.bl (b && k)) m := by
  show (f r m).bind _ = _
  rw [ha]
  show (g r m).bind _ = _
  rw [hb]
  show ((o x y m).bind asB).bind _ = _
  rw [e1]
  show (if b = true then (h r m).bind (fun z m4 => o' y z m4) else Out.ok (D.bl false) m) = _
  cases b with
  | true => rw [if_pos rfl, hc]; exact e2
  | false => rfl
theorem w_sl {lo hi : XO} {l k : Option Int} {R : Out D} (ha : f r m = .ok x m1) (hl : lo r m1 = .ok l m1) (hh : hi r m1 = .ok k m1) (e : slD x l k m1 = R) : xSl f lo hi r m = R := by
  show (f r m).bind _ = _
  rw [ha]
  show (lo r m1).bind _ = _
  rw [hl]
  show (hi r m1).bind _ = _
  rw [hh]
  exact e
theorem wo_n : xoN r m = .ok none m := rfl
theorem wo_s {k : Int} (e : f r m = .ok (.int k) m1) : xoS f r m = .ok (some k) m1 := by
  show (f r m).bind _ = _
  rw [e]
  rfl
theorem wi_seq (e : f r m = .ok x m1) {R : Out (List D)} (e2 : seqD x m1 = R) : xiSeq f r m = R := by
  show (f r m).bind _ = _
  rw [e]
  exact e2
theorem wi_rng1 {k : Nat} (e : f r m = .ok (.int (k : Nat)) m1) (hk : k ≤ 100000) : xiRng1 (xaCons f xaNil) r m = .ok (rngL 0 k) m1 := by
  have q := rng1_ok (k := k) (by omega) m1
  have b : ∀ xs : List D, Out.bind (.ok xs m1) rngD1 = rngD1 xs m1 := fun _ => rfl
  unfold xiRng1
  rw [wa_1 e, b, q]
theorem w_bm {T : String} {G : Fn} {R : Out D} (e : f r m = .ok x m1) (ht : tyD T m1 x = true) (ha : a r m1 = .ok xs m2) (e2 : G (x :: xs) m2 = R) : xBM T G f a r m = R := by
  show (f r m).bind _ = _
  rw [e]
  show (if tyD T m1 x then (a r m1).bind (fun ds m2 => G (x :: ds) m2) else .stuck) = _
  rw [if_pos ht, ha]
  exact e2
theorem w_neg {k : Int} (e : f r m = .ok (.int k) m1) : xNeg f r m = .ok (.int (-k)) m1 := by
  show (f r m).bind _ = _
  rw [e]
  rfl
theorem w_lc {vs : List Nat} {gt : XG} {tt : XT} {it : XA} {R : Out D} (e : it r m = .ok xs m1) (e2 : lcD gt tt f (wipeR r vs) xs m1 = R) : xLc it vs gt tt f r m = R := by
  show (it r m).bind _ = _
  rw [e]
  exact e2
/-! statements -/
variable {s t : XS} {R : SO}
theorem s_seq (e : s r m = .next r1 m1) (e2 : t r1 m1 = R) : sSeq s t r m = R := by
  show (match s r m with
    | .next r' m' => t r' m'
    | o => o) = _
  rw [e]
  exact e2
theorem s_end {d : D} (e : s r m = .ret d m1) : sSeq s t r m = .ret d m1 := by
  show (match s r m with
    | .next r' m' => t r' m'
    | o => o) = _
  rw [e]
theorem s_if1 {q : XT} (e : q r m = .ok true m1) (e2 : s r m1 = R) : sIf q s t r m = R := by
  show (q r m).stm r _ = _
  rw [e]
  exact e2
theorem s_if0 {q : XT} (e : q r m = .ok false m1) (e2 : t r m1 = R) : sIf q s t r m = R := by
  show (q r m).stm r _ = _
  rw [e]
  exact e2
theorem s_no {q : XT} (e : q r m = .ok false m1) : sIf q s sNil r m = .next r m1 := s_if0 e rfl
theorem s_asg (e : f r m = .ok d m1) : sAsg f (gNm i) r m = .next (r.set i (some d)) m1 := by
  show (f r m).stm r _ = _
  rw [e]
  rfl
theorem s_asgT {gt : XG} (e : f r m = .ok d m1) (e2 : gt d r m1 = .ok r2 m2) : sAsg f gt r m = .next r2 m2 := by
  show (f r m).stm r _ = _
  rw [e]
  show (gt d r m1).stm r _ = _
  rw [e2]
  rfl
theorem s_for {gt : XG} (e : a r m = .ok xs m1) (e2 : loopF gt s xs r m1 = R) : sFor a gt s r m = R := by
  show (a r m).stm r _ = _
  rw [e]
  exact e2
theorem s_par {j : Nat} (e : a r m = .ok [x, y] m1) : sPar i j a r m = .next ((r.set i (some x)).set j (some y)) m1 := by
  show (a r m).stm r _ = _
  rw [e]
  rfl
theorem s_par3 {j l : Nat} {z : D} (e : a r m = .ok [x, y, z] m1) : sPar3 i j l a r m = .next (((r.set i (some x)).set j (some y)).set l (some z)) m1 := by
  show (a r m).stm r _ = _
  rw [e]
  rfl
theorem s_ret (e : f r m = .ok d m1) : sRet f r m = .ret d m1 := by
  show (f r m).stm r _ = _
  rw [e]
  rfl
theorem s_expr (e : f r m = .ok d m1) : sExpr f r m = .next r m1 := by
  show (f r m).stm r _ = _
  rw [e]
  rfl
/-! defs -/
variable {n : Nat} {ds : List D}
theorem f_ret (e : s (rho0 n ds) m = .ret d m1) (hi : d.inB m.length = true) : fnOf n false s ds m = .ok d (m1.take m.length) := by
  show (match s (rho0 n ds) m with
    | .next _ m' => Out.ok D.non (m'.take m.length)
    | .ret d m' => if false then .ok d m' else exitD m.length d m'
    | .exc c fs _ m' => if D.inF m.length fs then .exc c fs (m'.take m.length) else .stuck
    | _ => .stuck) = _
  rw [e]
  show exitD m.length d m1 = _
  exact exit_in hi
theorem f_ret' {μ' : Mu} (e : s (rho0 n ds) m = .ret d m1) (hi : d.inB m.length = true) (ht : m1.take m.length = μ') : fnOf n false s ds m = .ok d μ' := by rw [f_ret e hi, ht]
end
end J

/-! # GC: the program's readers of clauses and rounds, on any text -/
namespace J
open PySem PySem.Spec PyProof.Rows L2 DS
open SX (S)
/-- data of a plain kind -/
def Pk : D → Bool
  | .non | .bl _ | .int _ | .str _ | .tup _ | .lst _ => true
  | _ => false
def isS : D → Bool
  | .str _ => true
  | _ => false
def isT : D → Bool
  | .tup _ => true
  | _ => false
theorem isi_str {cs : List Str} {d : D} (h : Pk d = true) (m : Mu) : isiF cs [d, .ty "str"] m = .ok (.bl (isS d)) m := by
  cases d <;> first | rfl | (simp [Pk] at h)
theorem isi_tup {cs : List Str} {d : D} (h : Pk d = true) (m : Mu) : isiF cs [d, .ty "tuple"] m = .ok (.bl (isT d)) m := by
  cases d <;> first | rfl | (simp [Pk] at h)
def btw (d : D) (a b : Int) : Bool := match d with
  | .int i => decide (a ≤ i) && decide (i ≤ b)
  | _ => false
theorem is_int_ok {d : D} (h : Pk d = true) (μ : Mu) : F_is_integer [d] μ = .ok (.bl (match d with | .int _ => true | _ => false)) μ := by
  cases d with
  | bl b => simp only [F_is_integer, B_is_integer, fn_ap, rho0, List.map, List.replicate, List.length, Nat.reduceSub, Nat.reduceAdd, List.cons_append, List.nil_append, AP, AV, AB, LS, show isiF cs [.bl b, .ty "int"] μ = .ok (.bl true) μ from rfl, show isiF cs [.bl b, .ty "bool"] μ = .ok (.bl true) μ from rfl, if_true, Bool.not_true, exit_bl, List.take_length, Bool.false_eq_true, if_false]
  | int i => simp only [F_is_integer, B_is_integer, fn_ap, rho0, List.map, List.replicate, List.length, Nat.reduceSub, Nat.reduceAdd, List.cons_append, List.nil_append, AP, AV, AB, LS, TY, if_true, Bool.not_false, exit_bl, List.take_length, Bool.false_eq_true, if_false]
  | non => simp only [F_is_integer, B_is_integer, fn_ap, rho0, List.map, List.replicate, List.length, Nat.reduceSub, Nat.reduceAdd, List.cons_append, List.nil_append, AP, AV, AB, LS, show isiF cs [.non, .ty "int"] μ = .ok (.bl false) μ from rfl, if_true, Bool.not_false, exit_bl, List.take_length, Bool.false_eq_true, if_false]
  | str x => simp only [F_is_integer, B_is_integer, fn_ap, rho0, List.map, List.replicate, List.length, Nat.reduceSub, Nat.reduceAdd, List.cons_append, List.nil_append, AP, AV, AB, LS, show isiF cs [.str x, .ty "int"] μ = .ok (.bl false) μ from rfl, if_true, Bool.not_false, exit_bl, List.take_length, Bool.false_eq_true, if_false]
  | tup x => simp only [F_is_integer, B_is_integer, fn_ap, rho0, List.map, List.replicate, List.length, Nat.reduceSub, Nat.reduceAdd, List.cons_append, List.nil_append, AP, AV, AB, LS, show isiF cs [.tup x, .ty "int"] μ = .ok (.bl false) μ from rfl, if_true, Bool.not_false, exit_bl, List.take_length, Bool.false_eq_true, if_false]
  | lst x => simp only [F_is_integer, B_is_integer, fn_ap, rho0, List.map, List.replicate, List.length, Nat.reduceSub, Nat.reduceAdd, List.cons_append, List.nil_append, AP, AV, AB, LS, show isiF cs [.lst x, .ty "int"] μ = .ok (.bl false) μ from rfl, if_true, Bool.not_false, exit_bl, List.take_length, Bool.false_eq_true, if_false]
  | _ => simp [Pk] at h
theorem is_between_ok {d : D} (h : Pk d = true) (a b : Int) (μ : Mu) : F_is_between [d, .int a, .int b] μ = .ok (.bl (btw d a b)) μ := by
  simp only [F_is_between, B_is_between, fn_ap, rho0, List.map, List.replicate, List.length, Nat.reduceSub, Nat.reduceAdd, List.cons_append, List.nil_append, AP, AV, AB, LS, is_int_ok h]
  cases d with
  | int i =>
    simp only [btw, if_true, OI, AB]
    by_cases h : a ≤ i
    · simp only [decide_eq_true h, if_true, OI, exit_bl, List.take_length, Bool.true_and, AB, Bool.false_eq_true, if_false]
    · simp only [decide_eq_false h, Bool.false_eq_true, if_false, exit_bl, List.take_length, Bool.false_and, AB]
  | _ => simp only [btw, Bool.false_eq_true, if_false, exit_bl, List.take_length, AB]
theorem S_len' (l : List Nat) : (S l).length = l.length := SX.S_len l
theorem len_str {l : List Nat} (h : l.length ≤ sizeLine) (m : Mu) : lenD [.str (S l)] m = .ok (.int (l.length : Nat)) m := by
  show (if (S l).length ≤ sizeLine then Out.ok (D.int ((S l).length : Nat)) m else .stuck) = _
  rw [S_len', if_pos h]
theorem in_one (c : Nat) (s : String) (m : Mu) : DS.inB m (.str (S [c])) (.str (Str.ofString s)) = some (decide (c ∈ K s)) := by
  show some _ = _
  rw [K_S, SX.in_one]
theorem dig_mem (c : Nat) : decide (c ∈ K "0123456789") = dig c := by
  have e : K "0123456789" = [48, 49, 50, 51, 52, 53, 54, 55, 56, 57] := by decide +kernel
  rw [e]
  unfold dig
  by_cases h : 48 ≤ c ∧ c ≤ 57
  · have : c = 48 ∨ c = 49 ∨ c = 50 ∨ c = 51 ∨ c = 52 ∨ c = 53 ∨ c = 54 ∨ c = 55 ∨ c = 56 ∨ c = 57 := by omega
    rcases this with rfl | rfl | rfl | rfl | rfl | rfl | rfl | rfl | rfl | rfl <;> decide
  · rw [decide_eq_false, ← Bool.decide_and, decide_eq_false h]
    simp only [List.mem_cons, List.not_mem_nil, or_false]
    omega
theorem low_mem (c : Nat) : decide (c ∈ K "abcdefghijklmnopqrstuvwxyz") = low c := by
  have e : K "abcdefghijklmnopqrstuvwxyz" = (List.range 26).map (97 + ·) := by decide +kernel
  rw [e]
  unfold low
  rw [← Bool.decide_and, decide_eq_decide, List.mem_map]
  constructor
  · rintro ⟨i, hi, rfl⟩
    rw [List.mem_range] at hi
    omega
  · intro h
    exact ⟨c - 97, by rw [List.mem_range]; omega, by omega⟩
theorem int_dig {c : Nat} (h : dig c = true) (m : Mu) : intF [.str (S [c])] m = .ok (.int ((c - 48 : Nat) : Int)) m := by
  have e := SX.int_S (a := [c]) (by simpa [dig] using h) (by simp) (by simp)
  have hv : NumText.digitsVal [c] = c - 48 := by simp [NumText.digitsVal]
  rw [hv] at e
  show (match PySem.intText? (S [c]) with
    | some n => if (S [c]).length ≤ 640 then Out.ok (D.int n) m else .stuck
    | none => .stuck) = _
  rw [e]
  simp [S_len']
theorem exit_optN {n : Nat} {o : Option Nat} {m : Mu} : exitD n (optN o) m = .ok (optN o) (m.take n) := exit_in (by cases o <;> rfl)
theorem digit_of_ok {l : List Nat} (hl : l.length ≤ sizeLine) (μ : Mu) : F_digit_of [.str (S l)] μ = .ok (optN (digL l)) μ := by
  simp only [F_digit_of, B_digit_of, fn_ap, rho0, List.map, List.replicate, List.length, Nat.reduceSub, Nat.reduceAdd, List.cons_append, List.nil_append, AP, AV, AB, LS, len_str hl, EQ]
  match l, hl with
  | [], _ =>
    rw [if_neg (by decide)]
    simp only [AB, Bool.false_eq_true, if_false, digL, exit_in (show (D.non).inB _ = true from rfl), List.take_length, optN]
  | [c], _ =>
    rw [if_pos (by rfl)]
    simp only [inD, in_one, dig_mem, AB, digL]
    by_cases h : dig c = true
    · simp only [h, if_true, int_dig h, AB, exit_int, List.take_length, optN, Bool.false_eq_true, if_false]
    · have h' : dig c = false := by simpa using h
      simp only [h', Bool.false_eq_true, if_false, AB, exit_in (show (D.non).inB _ = true from rfl), List.take_length, optN]
  | a :: b :: r, _ =>
    rw [if_neg (by simp only [List.length_cons]; rw [beq_iff_eq]; omega)]
    simp only [AB, Bool.false_eq_true, if_false, digL, exit_in (show (D.non).inB _ = true from rfl), List.take_length, optN]
def wD (l : List Nat) : D := .str (S l)
def optK : Option (Nat × Nat) → D
  | some (r, s) => .tup [.int r, .int s]
  | none => .non
theorem exit_optK {n : Nat} {o : Option (Nat × Nat)} {m : Mu} : exitD n (optK o) m = .ok (optK o) (m.take n) := exit_in (by rcases o with _ | ⟨_, _⟩ <;> rfl)
theorem pk_optN (o : Option Nat) : Pk (optN o) = true := by cases o <;> rfl
theorem ne_K (l : List Nat) (s : String) (m : Mu) : neD (.str (S l)) (.str (Str.ofString s)) m = .ok (.bl (!decide (l = K s))) m := by
  show Out.ok (D.bl (!(S l == Str.ofString s))) m = _
  rw [eqK]
theorem eq_K (l : List Nat) (s : String) (m : Mu) : eqD (.str (S l)) (.str (Str.ofString s)) m = .ok (.bl (decide (l = K s))) m := by
  show Out.ok (D.bl (S l == Str.ofString s)) m = _
  rw [eqK]
theorem class_of_ok {ws : List (List Nat)} (hl : ∀ w ∈ ws, w.length ≤ sizeLine) (μ : Mu) : F_class_of [.lst (ws.map wD)] μ = .ok (optK (clsL ws)) μ := by
  have no : ∀ {n : Nat}, n ≠ 3 → (((n : Nat) : Int) == 3) = false := fun {n} h => by
    rw [beq_eq_false_iff_ne]
    omega
  have bad : ∀ (xs : List (List Nat)), xs.length ≠ 3 → F_class_of [.lst (xs.map wD)] μ = .ok .non μ := fun xs h => by
    simp only [F_class_of, B_class_of, fn_ap, rho0, List.map, List.replicate, List.length, Nat.reduceSub, Nat.reduceAdd, List.cons_append, List.nil_append, AP, AV, AB, LS, OI, EQ, List.length_map, no h, Bool.not_false, if_true, exit_in (show (D.non).inB _ = true from rfl), List.take_length, Bool.false_eq_true, if_false]
  match ws, hl with
  | [], _ => exact bad [] (by decide)
  | [a], _ => exact bad [a] (by simp)
  | [a, b], _ => exact bad [a, b] (by simp)
  | a :: b :: c :: d :: r, _ =>
    rw [bad _ (by simp)]
    rfl
  | [a, o, b], hl =>
    have ha := hl a (by simp)
    have hb := hl b (by simp)
    simp only [FA, SL, Nat.reduceSub, Nat.reduceAdd, AP, PAR, AB, LS, OI, EQ, IX, TD, eqK, if_true, if_false, Bool.not_true, Bool.not_false, Bool.false_eq_true, List.take_length, exit_bl, exit_int, exit_non, exit_str, decide_true, decide_false, F_class_of, B_class_of, wD, show ((((3 : Nat) : Int) == 3)) = true from rfl]
    by_cases h : o = K "of"
    · simp only [FA, SL, Nat.reduceSub, Nat.reduceAdd, AP, PAR, AB, LS, OI, EQ, IX, TD, eqK, if_true, if_false, Bool.not_true, Bool.not_false, Bool.false_eq_true, List.take_length, exit_bl, exit_int, exit_non, exit_str, decide_true, decide_false, h, digit_of_ok ha, digit_of_ok hb, is_between_ok (pk_optN _), clsL]
      cases hb' : digL b with
      | none =>
        simp only [FA, SL, Nat.reduceSub, Nat.reduceAdd, AP, PAR, AB, LS, OI, EQ, IX, TD, eqK, if_true, if_false, Bool.not_true, Bool.not_false, Bool.false_eq_true, List.take_length, exit_bl, exit_int, exit_non, exit_str, decide_true, decide_false, optN, btw]
        cases digL a <;> rfl
      | some s =>
        simp only [FA, SL, Nat.reduceSub, Nat.reduceAdd, AP, PAR, AB, LS, OI, EQ, IX, TD, eqK, if_true, if_false, Bool.not_true, Bool.not_false, Bool.false_eq_true, List.take_length, exit_bl, exit_int, exit_non, exit_str, decide_true, decide_false, optN, btw]
        cases ha' : digL a with
        | none =>
          by_cases q : 1 ≤ s ∧ s ≤ 3
          · have q1 : (decide ((1 : Int) ≤ (s : Int)) && decide ((s : Int) ≤ 3)) = true := by rw [← Bool.decide_and, decide_eq_true_eq]; omega
            simp only [FA, SL, Nat.reduceSub, Nat.reduceAdd, AP, PAR, AB, LS, OI, EQ, IX, TD, eqK, if_true, if_false, Bool.not_true, Bool.not_false, Bool.false_eq_true, List.take_length, exit_bl, exit_int, exit_non, exit_str, decide_true, decide_false, q1, is_between_ok (show Pk .non = true from rfl), btw, optK]
          · have q1 : (decide ((1 : Int) ≤ (s : Int)) && decide ((s : Int) ≤ 3)) = false := by rw [← Bool.decide_and, decide_eq_false_iff_not]; omega
            simp only [FA, SL, Nat.reduceSub, Nat.reduceAdd, AP, PAR, AB, LS, OI, EQ, IX, TD, eqK, if_true, if_false, Bool.not_true, Bool.not_false, Bool.false_eq_true, List.take_length, exit_bl, exit_int, exit_non, exit_str, decide_true, decide_false, q1, optK]
        | some r =>
          by_cases q : 1 ≤ s ∧ s ≤ 3
          · have q1 : (decide ((1 : Int) ≤ (s : Int)) && decide ((s : Int) ≤ 3)) = true := by rw [← Bool.decide_and, decide_eq_true_eq]; omega
            simp only [FA, SL, Nat.reduceSub, Nat.reduceAdd, AP, PAR, AB, LS, OI, EQ, IX, TD, eqK, if_true, if_false, Bool.not_true, Bool.not_false, Bool.false_eq_true, List.take_length, exit_bl, exit_int, exit_non, exit_str, decide_true, decide_false, q1, is_between_ok (show Pk (.int (r : Nat)) = true from rfl), btw]
            by_cases q2 : r < s
            · have q3 : (decide ((0 : Int) ≤ (r : Int)) && decide ((r : Int) ≤ (s : Int) - 1)) = true := by rw [← Bool.decide_and, decide_eq_true_eq]; omega
              simp only [FA, SL, Nat.reduceSub, Nat.reduceAdd, AP, PAR, AB, LS, OI, EQ, IX, TD, eqK, if_true, if_false, Bool.not_true, Bool.not_false, Bool.false_eq_true, List.take_length, exit_bl, exit_int, exit_non, exit_str, decide_true, decide_false, q3]
              rw [if_pos ⟨q.1, q.2, q2⟩, exit_in (by rfl), List.take_length]
              rfl
            · have q3 : (decide ((0 : Int) ≤ (r : Int)) && decide ((r : Int) ≤ (s : Int) - 1)) = false := by rw [← Bool.decide_and, decide_eq_false_iff_not]; omega
              simp only [FA, SL, Nat.reduceSub, Nat.reduceAdd, AP, PAR, AB, LS, OI, EQ, IX, TD, eqK, if_true, if_false, Bool.not_true, Bool.not_false, Bool.false_eq_true, List.take_length, exit_bl, exit_int, exit_non, exit_str, decide_true, decide_false, q3]
              rw [if_neg (fun z => q2 z.2.2)]
              rfl
          · have q1 : (decide ((1 : Int) ≤ (s : Int)) && decide ((s : Int) ≤ 3)) = false := by rw [← Bool.decide_and, decide_eq_false_iff_not]; omega
            simp only [FA, SL, Nat.reduceSub, Nat.reduceAdd, AP, PAR, AB, LS, OI, EQ, IX, TD, eqK, if_true, if_false, Bool.not_true, Bool.not_false, Bool.false_eq_true, List.take_length, exit_bl, exit_int, exit_non, exit_str, decide_true, decide_false, q1]
            rw [if_neg (fun z => q ⟨z.1, z.2.1⟩)]
            rfl
    · simp only [FA, SL, Nat.reduceSub, Nat.reduceAdd, AP, PAR, AB, LS, OI, EQ, IX, TD, eqK, if_true, if_false, Bool.not_true, Bool.not_false, Bool.false_eq_true, List.take_length, exit_bl, exit_int, exit_non, exit_str, decide_true, decide_false, h, clsL, optK]
theorem last_get {α : Type} {μ : List α} {x : α} : (μ ++ [x])[μ.length]? = some x := by
  rw [List.getElem?_append_right (Nat.le_refl _), Nat.sub_self]
  rfl
theorem last_set {α : Type} {μ : List α} {x y : α} : (μ ++ [x]).set μ.length y = μ ++ [y] := by
  rw [List.set_append_right _ _ (Nat.le_refl _), Nat.sub_self]
  rfl
theorem last_take {α : Type} {μ : List α} {x : α} : (μ ++ [x]).take μ.length = μ := by simp
theorem put_last {cn f : Str} {q : D} {μ : Mu} {gs : List (Str × D)} (hg : gs.length < 1000) (hq : q.inB μ.length = true) : putC cn f (.loc μ.length) q (μ ++ [.ins cn gs]) = .ok () (μ ++ [.ins cn (putD f q gs)]) := by
  unfold putC
  simp only [last_get]
  rw [if_pos ⟨trivial, hg, hq⟩, last_set]
theorem putD_len {f : Str} {q : D} : ∀ gs : List (Str × D), (putD f q gs).length ≤ gs.length + 1
  | [] => Nat.le_refl _
  | (g, x) :: r => by
    unfold putD
    split
    · simp
    · rw [List.length_cons, List.length_cons]
      have := putD_len (f := f) (q := q) r
      omega
theorem putD_le {f : Str} {q : D} {gs : List (Str × D)} {n : Nat} (h : gs.length ≤ n) : (putD f q gs).length ≤ n + 1 := Nat.le_trans (putD_len gs) (by omega)
theorem clause_make {w s f g : D} {r t : Nat} (μ : Mu) (hw : ∀ n, w.inB n = true) (hs : ∀ n, s.inB n = true) (hf : ∀ n, f.inB n = true) (hg : ∀ n, g.inB n = true) :
    makeD "Clause" F_Clause_D_initD_ true [w, .int r, .int t, s, f, g] μ = .ok (.obj "Clause" [("word", w), ("rest", .int r), ("step", .int t), ("side", s), ("far", f), ("goal", g)]) μ := by
  have e : ∀ (i : Int) (n : Nat), (D.int i).inB n = true := fun _ _ => rfl
  have p : ∀ {f : Str} {q : D} {gs : List (Str × D)}, gs.length < 1000 → q.inB μ.length = true → putC "Clause" f (.loc μ.length) q (μ ++ [.ins "Clause" gs]) = .ok () (μ ++ [.ins "Clause" (putD f q gs)]) := put_last
  unfold makeD
  have sf : ∀ {cn f : Str} {o v : XE'} {r : Rho} {m : Mu}, sFl cn f o v r m = (v r m).stm r fun q m1 => (o r m1).stm r fun od m2 => (putC cn f od q m2).stm r fun _ m3 => .next r m3 := rfl
  simp only [FA, SL, Nat.reduceSub, Nat.reduceAdd, AP, PAR, AB, LS, OI, EQ, IX, TD, eqK, if_true, if_false, Bool.not_true, Bool.not_false, Bool.false_eq_true, List.take_length, exit_bl, exit_int, exit_non, exit_str, decide_true, decide_false, F_Clause_D_initD_, B_Clause_D_initD_, sf]
  rw [p (Nat.lt_of_le_of_lt (Nat.le_refl 0) (by decide)) (hw _)]
  simp only [FA, SL, Nat.reduceSub, Nat.reduceAdd, AP, PAR, AB, LS, OI, EQ, IX, TD, eqK, if_true, if_false, Bool.not_true, Bool.not_false, Bool.false_eq_true, List.take_length, exit_bl, exit_int, exit_non, exit_str, decide_true, decide_false]
  rw [p (Nat.lt_of_le_of_lt (putD_le (Nat.le_refl 0)) (by decide)) (e _ _)]
  simp only [FA, SL, Nat.reduceSub, Nat.reduceAdd, AP, PAR, AB, LS, OI, EQ, IX, TD, eqK, if_true, if_false, Bool.not_true, Bool.not_false, Bool.false_eq_true, List.take_length, exit_bl, exit_int, exit_non, exit_str, decide_true, decide_false]
  rw [p (Nat.lt_of_le_of_lt (putD_le (putD_le (Nat.le_refl 0))) (by decide)) (e _ _)]
  simp only [FA, SL, Nat.reduceSub, Nat.reduceAdd, AP, PAR, AB, LS, OI, EQ, IX, TD, eqK, if_true, if_false, Bool.not_true, Bool.not_false, Bool.false_eq_true, List.take_length, exit_bl, exit_int, exit_non, exit_str, decide_true, decide_false]
  rw [p (Nat.lt_of_le_of_lt (putD_le (putD_le (putD_le (Nat.le_refl 0)))) (by decide)) (hs _)]
  simp only [FA, SL, Nat.reduceSub, Nat.reduceAdd, AP, PAR, AB, LS, OI, EQ, IX, TD, eqK, if_true, if_false, Bool.not_true, Bool.not_false, Bool.false_eq_true, List.take_length, exit_bl, exit_int, exit_non, exit_str, decide_true, decide_false]
  rw [p (Nat.lt_of_le_of_lt (putD_le (putD_le (putD_le (putD_le (Nat.le_refl 0))))) (by decide)) (hf _)]
  simp only [FA, SL, Nat.reduceSub, Nat.reduceAdd, AP, PAR, AB, LS, OI, EQ, IX, TD, eqK, if_true, if_false, Bool.not_true, Bool.not_false, Bool.false_eq_true, List.take_length, exit_bl, exit_int, exit_non, exit_str, decide_true, decide_false]
  rw [p (Nat.lt_of_le_of_lt (putD_le (putD_le (putD_le (putD_le (putD_le (Nat.le_refl 0)))))) (by decide)) (hg _)]
  simp only [FA, SL, Nat.reduceSub, Nat.reduceAdd, AP, PAR, AB, LS, OI, EQ, IX, TD, eqK, if_true, if_false, Bool.not_true, Bool.not_false, Bool.false_eq_true, List.take_length, exit_bl, exit_int, exit_non, exit_str, decide_true, decide_false]
  have tk : (μ ++ [Cell.ins "Clause" (putD "goal" g (putD "far" f (putD "side" s (putD "step" (.int t) (putD "rest" (.int r) (putD "word" w []))))))]).take (μ ++ [Cell.ins "Clause" []]).length = μ ++ [Cell.ins "Clause" (putD "goal" g (putD "far" f (putD "side" s (putD "step" (.int t) (putD "rest" (.int r) (putD "word" w []))))))] := List.take_of_length_le (by simp)
  rw [tk]
  unfold madeD
  simp only [last_get, last_take, if_true]
  rfl
/-! ### names -/
theorem ix_str0 {c : Nat} {r : List Nat} (h : (c :: r).length ≤ sizeLine) (m : Mu) : ixD (.str (S (c :: r))) (.int 0) m = .ok (.str (S [c])) m := by
  have e : L2.atI (S (c :: r)).cps.toList 0 = some c := by
    show L2.atI (c :: r) 0 = some c
    unfold L2.atI L2.ixN
    simp
  show (if (S (c :: r)).length ≤ sizeLine then (match L2.atI (S (c :: r)).cps.toList 0 with
      | some k => Out.ok (D.str ⟨#[k]⟩) m
      | none => .stuck) else .stuck) = _
  rw [S_len', if_pos h, e]
def nameD : D → Bool
  | .str x => nameL (TL.tl x)
  | _ => false
theorem seq_str (l : List Nat) (m : Mu) : seqD (.str (S l)) m = .ok (l.map fun k => .str (S [k])) m := rfl
theorem name_ok {l : List Nat} (hl : l.length ≤ sizeLine) (μ : Mu) : F_is_name [.str (S l)] μ = .ok (.bl (nameL l)) μ := by
  match l, hl with
  | [], hl => simp only [FA, SL, Nat.reduceSub, Nat.reduceAdd, AP, PAR, AB, LS, OI, EQ, IX, TD, eqK, if_true, if_false, Bool.not_true, Bool.not_false, Bool.false_eq_true, List.take_length, exit_bl, exit_int, exit_non, exit_str, decide_true, decide_false, F_is_name, B_is_name, isi_str (show Pk (.str (S [])) = true from rfl), isS, len_str hl, nameL, show decide ((0 : Int) < ((0 : Nat) : Int)) = false from rfl]
  | c :: r, hl =>
    simp only [FA, SL, Nat.reduceSub, Nat.reduceAdd, AP, PAR, AB, LS, OI, EQ, IX, TD, eqK, if_true, if_false, Bool.not_true, Bool.not_false, Bool.false_eq_true, List.take_length, exit_bl, exit_int, exit_non, exit_str, decide_true, decide_false, F_is_name, B_is_name, isi_str (show Pk (.str (S (c :: r))) = true from rfl), isS, len_str hl, show decide ((0 : Int) < ((r.length + 1 : Nat) : Int)) = true from by simp]
    by_cases h8 : r.length < 8
    · have h9 : decide (((r.length + 1 : Nat) : Int) < 9) = true := by simp; omega
      simp only [FA, SL, Nat.reduceSub, Nat.reduceAdd, AP, PAR, AB, LS, OI, EQ, IX, TD, eqK, if_true, if_false, Bool.not_true, Bool.not_false, Bool.false_eq_true, List.take_length, exit_bl, exit_int, exit_non, exit_str, decide_true, decide_false, h9, ix_str0 hl, ninD, in_one, low_mem]
      by_cases hc : low c = true
      · have e1 : ∀ r0 : Rho, 1 < r0.length → lcD (gNm 1) xYes (xOr (xOp inD (xVar 1) (xC (.str "abcdefghijklmnopqrstuvwxyz"))) (xOp inD (xVar 1) (xC (.str "0123456789")))) r0 ((c :: r).map fun k => .str (S [k])) μ = .ok (.lst ((c :: r).map fun k => .bl (low k || dig k))) μ := fun r0 h5 =>
          lc_map _ _ (fun k hk acc => by
            simp only [AP, AV, AB, List.getElem?_set_self h5, inD, in_one, low_mem, dig_mem]
            cases low k <;> simp [AB]) (fun _ _ => rfl) hl
        have hn : nameL (c :: r) = (c :: r).all fun x => low x || dig x := by simp [nameL, hc, h8]
        rw [hn]
        simp only [FA, SL, Nat.reduceSub, Nat.reduceAdd, AP, PAR, AB, LS, OI, EQ, IX, TD, eqK, if_true, if_false, Bool.not_true, Bool.not_false, Bool.false_eq_true, List.take_length, exit_bl, exit_int, exit_non, exit_str, decide_true, decide_false, hc]
        generalize c :: r = L at hl e1 ⊢
        simp only [FA, SL, Nat.reduceSub, Nat.reduceAdd, AP, PAR, AB, LS, OI, EQ, IX, TD, eqK, if_true, if_false, Bool.not_true, Bool.not_false, Bool.false_eq_true, List.take_length, exit_bl, exit_int, exit_non, exit_str, decide_true, decide_false, wipeR, seq_str, e1 [some (.str (S L)), none] (by simp), all_map]
      · have hc' : low c = false := by simpa using hc
        simp only [FA, SL, Nat.reduceSub, Nat.reduceAdd, AP, PAR, AB, LS, OI, EQ, IX, TD, eqK, if_true, if_false, Bool.not_true, Bool.not_false, Bool.false_eq_true, List.take_length, exit_bl, exit_int, exit_non, exit_str, decide_true, decide_false, hc', nameL, Bool.false_and]
    · have h9 : decide (((r.length + 1 : Nat) : Int) < 9) = false := by simp; omega
      simp only [FA, SL, Nat.reduceSub, Nat.reduceAdd, AP, PAR, AB, LS, OI, EQ, IX, TD, eqK, if_true, if_false, Bool.not_true, Bool.not_false, Bool.false_eq_true, List.take_length, exit_bl, exit_int, exit_non, exit_str, decide_true, decide_false, h9, nameL, decide_eq_false h8, Bool.false_and, Bool.and_false]
theorem name_okD {d : D} (h : Pk d = true) (hl : ∀ x, d = .str x → x.length ≤ sizeLine) (μ : Mu) : F_is_name [d] μ = .ok (.bl (nameD d)) μ := by
  cases d with
  | str x =>
    have e : x = S (TL.tl x) := (SX.S_tl x).symm
    rw [e]
    exact name_ok (by have := hl x rfl; rw [TL.len_tl] at this; exact this) μ
  | _ => simp only [FA, SL, Nat.reduceSub, Nat.reduceAdd, AP, PAR, AB, LS, OI, EQ, IX, TD, eqK, if_true, if_false, Bool.not_true, Bool.not_false, Bool.false_eq_true, List.take_length, exit_bl, exit_int, exit_non, exit_str, decide_true, decide_false, F_is_name, B_is_name, isi_str h, isS, nameD]
/-! ### clauses -/
theorem cut_from (xs : List D) (k : Nat) : DS.cutD xs (some (k : Int)) none = xs.drop k := by
  unfold DS.cutD
  rw [HT.sIx_nat, HT.sIx_none]
  by_cases h : k ≤ xs.length
  · rw [Nat.min_eq_left h, List.take_of_length_le (by rw [List.length_drop]; omega)]
  · rw [Nat.min_eq_right (by omega), List.drop_of_length_le (Nat.le_refl _), List.drop_of_length_le (by omega)]
    simp
theorem cut_mid (xs : List D) (a b : Nat) (h : a ≤ b) : DS.cutD xs (some (a : Int)) (some (b : Int)) = (xs.drop a).take (b - a) := by
  unfold DS.cutD
  rw [HT.sIx_nat, HT.sIx_nat]
  by_cases h1 : a ≤ xs.length
  · rw [Nat.min_eq_left h1]
    by_cases h2 : b ≤ xs.length
    · rw [Nat.min_eq_left h2]
    · rw [Nat.min_eq_right (by omega), List.take_of_length_le (by rw [List.length_drop]; omega), List.take_of_length_le (by rw [List.length_drop]; omega)]
  · rw [Nat.min_eq_right (show xs.length ≤ a by omega), List.drop_of_length_le (Nat.le_refl _), List.drop_of_length_le (by omega)]
    simp
theorem ix_w {ws : List (List Nat)} {i : Nat} (h : i < ws.length) (m : Mu) : ixD (.lst (ws.map wD)) (.int (i : Int)) m = .ok (wD (ws.getD i [])) m := by
  refine ix_lst ?_
  rw [List.getElem?_map, List.getElem?_eq_getElem h, List.getD_eq_getElem?_getD, List.getElem?_eq_getElem h]
  rfl
theorem wD_in (l : List Nat) (n : Nat) : (wD l).inB n = true := rfl
theorem clsL_len {ws : List (List Nat)} {k : Nat × Nat} (h : clsL ws = some k) : ws.length = 3 := by
  unfold clsL at h
  split at h
  · rfl
  · cases h
theorem Cu.obj_in (c : Cu) (n : Nat) : c.obj.inB n = true := by
  obtain ⟨w, r, s, sd, f, g⟩ := c
  cases sd <;> cases f <;> cases g <;> rfl
theorem optC_in (c : Option Cu) (n : Nat) : (optC c).inB n = true := by
  cases c with
  | none => rfl
  | some c => exact c.obj_in n
theorem exit_optC {n : Nat} {o : Option Cu} {m : Mu} : exitD n (optC o) m = .ok (optC o) (m.take n) := exit_in (optC_in o n)
theorem Cu.make (c : Cu) (μ : Mu) : makeD "Clause" F_Clause_D_initD_ true [.str (S c.w), .int c.rest, .int c.step, optS c.side, optN c.far, optS c.goal] μ = .ok c.obj μ :=
  clause_make μ (fun _ => rfl) (fun _ => by cases c.side <;> rfl) (fun _ => by cases c.far <;> rfl) (fun _ => by cases c.goal <;> rfl)
theorem exit_obj (c : Cu) {n : Nat} {m : Mu} : exitD n c.obj m = .ok c.obj (m.take n) := exit_in (c.obj_in n)
theorem read_call_ok {ws : List (List Nat)} (hl : ∀ w ∈ ws, w.length ≤ sizeLine) (μ : Mu) : F_read_call [.lst (ws.map wD)] μ = .ok (optC (callW ws)) μ := by
  have c3 := cut_from (ws.map wD) 3
  have ht : F_class_of [.lst (DS.cutD (ws.map wD) (some 3) none)] μ = .ok (optK (clsL (ws.drop 3))) μ := by
    rw [show DS.cutD (ws.map wD) (some 3) none = (ws.drop 3).map wD from by rw [List.map_drop]; exact c3]
    exact class_of_ok (fun w hw => hl w (List.mem_of_mem_drop hw)) μ
  simp only [FA, SL, Nat.reduceSub, Nat.reduceAdd, AP, PAR, AB, LS, OI, EQ, IX, TD, eqK, if_true, if_false, Bool.not_true, Bool.not_false, Bool.false_eq_true, List.take_length, exit_bl, exit_int, exit_non, exit_str, decide_true, decide_false, F_read_call, B_read_call, ht]
  unfold callW
  cases hc : clsL (ws.drop 3) with
  | none => simp only [FA, SL, Nat.reduceSub, Nat.reduceAdd, AP, PAR, AB, LS, OI, EQ, IX, TD, eqK, if_true, if_false, Bool.not_true, Bool.not_false, Bool.false_eq_true, List.take_length, exit_bl, exit_int, exit_non, exit_str, decide_true, decide_false, optK, isNonD, optC]
  | some k =>
    obtain ⟨r, s⟩ := k
    have hlen := clsL_len hc
    rw [List.length_drop] at hlen
    have i2 := ix_w (ws := ws) (i := 2) (by omega)
    have i1 := ix_w (ws := ws) (i := 1) (by omega)
    have hn : (ws.getD 1 []).length ≤ sizeLine := hl _ (by
      rw [List.getD_eq_getElem?_getD, List.getElem?_eq_getElem (show 1 < ws.length by omega)]
      exact List.getElem_mem _)
    change ∀ m, ixD (.lst (ws.map wD)) (.int 2) m = _ at i2
    change ∀ m, ixD (.lst (ws.map wD)) (.int 1) m = _ at i1
    simp only [FA, SL, Nat.reduceSub, Nat.reduceAdd, AP, PAR, AB, LS, OI, EQ, IX, TD, eqK, if_true, if_false, Bool.not_true, Bool.not_false, Bool.false_eq_true, List.take_length, exit_bl, exit_int, exit_non, exit_str, decide_true, decide_false, optK, isNonD, i2, i1, wD, name_ok hn]
    by_cases h1 : ws.getD 2 [] = K "on"
    · by_cases h2 : nameL (ws.getD 1 []) = true
      · have mk : ∀ {cn : Str} {G : Fn} {fz : Bool} {mid : List D} {a b : XA} {r : Rho} {m : Mu}, xMakeK cn G fz mid a b r m = (a r m).bind fun ds m1 => (b r m1).bind fun zs m2 => makeD cn G fz (ds ++ (mid ++ zs)) m2 := rfl
        have q := Cu.make ⟨K "call", r, s, none, none, some (ws.getD 1 [])⟩ μ
        simp only [optS, optN, ← K_S] at q
        simp only [FA, SL, Nat.reduceSub, Nat.reduceAdd, AP, PAR, AB, LS, OI, EQ, IX, TD, eqK, if_true, if_false, Bool.not_true, Bool.not_false, Bool.false_eq_true, List.take_length, exit_bl, exit_int, exit_non, exit_str, decide_true, decide_false, h1, h2, mk, i1, wD, q, exit_obj]
        rfl
      · have h2' : nameL (ws.getD 1 []) = false := by simpa using h2
        simp only [FA, SL, Nat.reduceSub, Nat.reduceAdd, AP, PAR, AB, LS, OI, EQ, IX, TD, eqK, if_true, if_false, Bool.not_true, Bool.not_false, Bool.false_eq_true, List.take_length, exit_bl, exit_int, exit_non, exit_str, decide_true, decide_false, h1, h2', optC, and_false, if_false]
    · simp only [FA, SL, Nat.reduceSub, Nat.reduceAdd, AP, PAR, AB, LS, OI, EQ, IX, TD, eqK, if_true, if_false, Bool.not_true, Bool.not_false, Bool.false_eq_true, List.take_length, exit_bl, exit_int, exit_non, exit_str, decide_true, decide_false, h1, optC, false_and, if_false]
theorem split_ok {l : List Nat} {sep : String} (hs : K sep ≠ []) (hk : (K sep).all (· < 256) = true) (hl : l.length + 2 ≤ sizeLine) (m : Mu) : splitF [.str (S l), .str (Str.ofString sep)] m = .ok (.lst ((TL.spl (K sep) 0 [] l).map wD)) m := by
  have h0 : ((Str.ofString sep).length == 0) = false := by
    rw [K_S, S_len', beq_eq_false_iff_ne]
    exact fun e => hs (List.length_eq_zero_iff.mp e)
  show (if ((Str.ofString sep).length == 0) = false ∧ (S l).length + 2 ≤ sizeLine then Out.ok (D.lst ((Txt.split (S l) (Str.ofString sep)).map D.str)) m else .stuck) = _
  rw [if_pos ⟨h0, by rw [S_len']; exact hl⟩, K_S, SX.split_S hs hk, List.map_map]
  rfl
theorem split_sp {l : List Nat} (hl : l.length + 2 ≤ sizeLine) (m : Mu) : splitF [.str (S l), .str (Str.ofString " ")] m = .ok (.lst ((TL.spl [32] 0 [] l).map wD)) m := split_ok (sep := " ") (by decide) (by decide) hl m
theorem in_two {l : List Nat} {a b : String} (m : Mu) : DS.inB m (.str (S l)) (.tup [.str (Str.ofString a), .str (Str.ofString b)]) = some (decide (l = K a) || decide (l = K b)) := by
  show some ((Str.ofString a == S l) || ((Str.ofString b == S l) || false)) = _
  rw [K_S, K_S, SX.S_beq_eq, SX.S_beq_eq, Bool.or_false]
  simp only [eq_comm]
theorem read_clause_ok {l : List Nat} (hl : l.length + 2 ≤ sizeLine) (μ : Mu) : F_read_clause [.str (S l)] μ = .ok (optC (clauseL l)) μ := by
  unfold clauseL
  have hw : ∀ w ∈ TL.spl [32] 0 [] l, w.length ≤ sizeLine := fun w h => Nat.le_trans (spl_len (by simp) h) (by omega)
  have hn : TL.spl [32] 0 [] l ≠ [] := spl_ne
  have hsp := split_sp hl
  generalize TL.spl [32] 0 [] l = ws at hw hn hsp ⊢
  have h0 : 0 < ws.length := List.length_pos_iff.mpr hn
  have i0 := ix_w (ws := ws) (i := 0) h0
  change ∀ m, ixD (.lst (ws.map wD)) (.int 0) m = _ at i0
  unfold clauseW
  simp only [FA, SL, Nat.reduceSub, Nat.reduceAdd, AP, PAR, AB, LS, OI, EQ, IX, TD, eqK, if_true, if_false, Bool.not_true, Bool.not_false, Bool.false_eq_true, List.take_length, exit_bl, exit_int, exit_non, exit_str, decide_true, decide_false, F_read_clause, B_read_clause, hsp, i0, wD]
  by_cases hc : ws.getD 0 [] = K "call"
  · simp only [FA, SL, Nat.reduceSub, Nat.reduceAdd, AP, PAR, AB, LS, OI, EQ, IX, TD, eqK, if_true, if_false, Bool.not_true, Bool.not_false, Bool.false_eq_true, List.take_length, exit_bl, exit_int, exit_non, exit_str, decide_true, decide_false, hc, read_call_ok hw, exit_optC]
  · have c14 := cut_mid (ws.map wD) 1 4 (by decide)
    have ht : F_class_of [.lst (DS.cutD (ws.map wD) (some 1) (some 4))] μ = .ok (optK (clsL ((ws.drop 1).take 3))) μ := by
      rw [show DS.cutD (ws.map wD) (some 1) (some 4) = ((ws.drop 1).take 3).map wD from by rw [List.map_take, List.map_drop]; exact c14]
      exact class_of_ok (fun w h => hw w (List.mem_of_mem_drop (List.mem_of_mem_take h))) μ
    simp only [FA, SL, Nat.reduceSub, Nat.reduceAdd, AP, PAR, AB, LS, OI, EQ, IX, TD, eqK, if_true, if_false, Bool.not_true, Bool.not_false, Bool.false_eq_true, List.take_length, exit_bl, exit_int, exit_non, exit_str, decide_true, decide_false, hc, ht]
    cases hk : clsL ((ws.drop 1).take 3) with
    | none => simp only [FA, SL, Nat.reduceSub, Nat.reduceAdd, AP, PAR, AB, LS, OI, EQ, IX, TD, eqK, if_true, if_false, Bool.not_true, Bool.not_false, Bool.false_eq_true, List.take_length, exit_bl, exit_int, exit_non, exit_str, decide_true, decide_false, optK, isNonD, optC]
    | some k =>
      obtain ⟨r, s⟩ := k
      have mk : ∀ {cn : Str} {G : Fn} {fz : Bool} {mid : List D} {a : XA} {r : Rho} {m : Mu}, xMakeD cn G fz mid a r m = (a r m).bind fun ds m1 => makeD cn G fz (ds ++ mid) m1 := rfl
      simp only [FA, SL, Nat.reduceSub, Nat.reduceAdd, AP, PAR, AB, LS, OI, EQ, IX, TD, eqK, if_true, if_false, Bool.not_true, Bool.not_false, Bool.false_eq_true, List.take_length, exit_bl, exit_int, exit_non, exit_str, decide_true, decide_false, optK, isNonD, i0, wD]
      by_cases hcl : ws.getD 0 [] = K "clear"
      · have e : (((ws.length : Nat) : Int) == 4) = decide (ws.length = 4) := by
          by_cases z : ws.length = 4
          · rw [z]; rfl
          · rw [decide_eq_false z, beq_eq_false_iff_ne]; omega
        simp only [FA, SL, Nat.reduceSub, Nat.reduceAdd, AP, PAR, AB, LS, OI, EQ, IX, TD, eqK, if_true, if_false, Bool.not_true, Bool.not_false, Bool.false_eq_true, List.take_length, exit_bl, exit_int, exit_non, exit_str, decide_true, decide_false, hcl, List.length_map, e]
        by_cases z : ws.length = 4
        · have q := Cu.make ⟨K "clear", r, s, none, none, none⟩ μ
          simp only [optS, optN, ← K_S] at q
          simp only [FA, SL, Nat.reduceSub, Nat.reduceAdd, AP, PAR, AB, LS, OI, EQ, IX, TD, eqK, if_true, if_false, Bool.not_true, Bool.not_false, Bool.false_eq_true, List.take_length, exit_bl, exit_int, exit_non, exit_str, decide_true, decide_false, z, mk, q, exit_obj]
          rfl
        · simp only [FA, SL, Nat.reduceSub, Nat.reduceAdd, AP, PAR, AB, LS, OI, EQ, IX, TD, eqK, if_true, if_false, Bool.not_true, Bool.not_false, Bool.false_eq_true, List.take_length, exit_bl, exit_int, exit_non, exit_str, decide_true, decide_false, z]
          rfl
      · have e : (((ws.length : Nat) : Int) == 6) = decide (ws.length = 6) := by
          by_cases z : ws.length = 6
          · rw [z]; rfl
          · rw [decide_eq_false z, beq_eq_false_iff_ne]; omega
        simp only [FA, SL, Nat.reduceSub, Nat.reduceAdd, AP, PAR, AB, LS, OI, EQ, IX, TD, eqK, if_true, if_false, Bool.not_true, Bool.not_false, Bool.false_eq_true, List.take_length, exit_bl, exit_int, exit_non, exit_str, decide_true, decide_false, hcl, i0, wD, ninD, in_two, List.length_map, e]
        by_cases hj : ws.getD 0 [] = K "join" ∨ ws.getD 0 [] = K "take"
        · have hj' : (decide (ws.getD 0 [] = K "join") || decide (ws.getD 0 [] = K "take")) = true := by simpa using hj
          simp only [FA, SL, Nat.reduceSub, Nat.reduceAdd, AP, PAR, AB, LS, OI, EQ, IX, TD, eqK, if_true, if_false, Bool.not_true, Bool.not_false, Bool.false_eq_true, List.take_length, exit_bl, exit_int, exit_non, exit_str, decide_true, decide_false, hj']
          by_cases z : ws.length = 6
          · have i4 := ix_w (ws := ws) (i := 4) (by omega)
            change ∀ m, ixD (.lst (ws.map wD)) (.int 4) m = _ at i4
            have i5 := ix_w (ws := ws) (i := 5) (by omega)
            change ∀ m, ixD (.lst (ws.map wD)) (.int 5) m = _ at i5
            have hd : (ws.getD 5 []).length ≤ sizeLine := hw _ (by
              rw [List.getD_eq_getElem?_getD, List.getElem?_eq_getElem (show 5 < ws.length by omega)]
              exact List.getElem_mem _)
            simp only [FA, SL, Nat.reduceSub, Nat.reduceAdd, AP, PAR, AB, LS, OI, EQ, IX, TD, eqK, if_true, if_false, Bool.not_true, Bool.not_false, Bool.false_eq_true, List.take_length, exit_bl, exit_int, exit_non, exit_str, decide_true, decide_false, z, i4, wD, in_two, ninD]
            by_cases hsd : ws.getD 4 [] = K "left" ∨ ws.getD 4 [] = K "right"
            · have hsd' : (decide (ws.getD 4 [] = K "left") || decide (ws.getD 4 [] = K "right")) = true := by simpa using hsd
              simp only [FA, SL, Nat.reduceSub, Nat.reduceAdd, AP, PAR, AB, LS, OI, EQ, IX, TD, eqK, if_true, if_false, Bool.not_true, Bool.not_false, Bool.false_eq_true, List.take_length, exit_bl, exit_int, exit_non, exit_str, decide_true, decide_false, hsd', i5, wD, digit_of_ok hd, is_between_ok (pk_optN _)]
              have hcnd : (ws.getD 0 [] = K "join" ∨ ws.getD 0 [] = K "take") ∧ True ∧ (ws.getD 4 [] = K "left" ∨ ws.getD 4 [] = K "right") := ⟨hj, trivial, hsd⟩
              rw [if_pos hcnd]
              cases hf : digL (ws.getD 5 []) with
              | none => simp only [FA, SL, Nat.reduceSub, Nat.reduceAdd, AP, PAR, AB, LS, OI, EQ, IX, TD, eqK, if_true, if_false, Bool.not_true, Bool.not_false, Bool.false_eq_true, List.take_length, exit_bl, exit_int, exit_non, exit_str, decide_true, decide_false, optN, btw, optC]
              | some d =>
                by_cases q : 1 ≤ d ∧ d ≤ 4
                · have q1 : (decide ((1 : Int) ≤ (d : Int)) && decide ((d : Int) ≤ 4)) = true := by rw [← Bool.decide_and, decide_eq_true_eq]; omega
                  have qq := Cu.make ⟨ws.getD 0 [], r, s, some (ws.getD 4 []), some d, none⟩ μ
                  simp only [optS, optN] at qq
                  simp only [FA, SL, Nat.reduceSub, Nat.reduceAdd, AP, PAR, AB, LS, OI, EQ, IX, TD, eqK, if_true, if_false, Bool.not_true, Bool.not_false, Bool.false_eq_true, List.take_length, exit_bl, exit_int, exit_non, exit_str, decide_true, decide_false, optN, btw, q1, mk, i0, i4, wD, qq, exit_obj]
                  rw [if_pos q]
                  rfl
                · have q1 : (decide ((1 : Int) ≤ (d : Int)) && decide ((d : Int) ≤ 4)) = false := by rw [← Bool.decide_and, decide_eq_false_iff_not]; omega
                  simp only [FA, SL, Nat.reduceSub, Nat.reduceAdd, AP, PAR, AB, LS, OI, EQ, IX, TD, eqK, if_true, if_false, Bool.not_true, Bool.not_false, Bool.false_eq_true, List.take_length, exit_bl, exit_int, exit_non, exit_str, decide_true, decide_false, optN, btw, q1]
                  rw [if_neg q]
                  rfl
            · have hsd' : (decide (ws.getD 4 [] = K "left") || decide (ws.getD 4 [] = K "right")) = false := by
                rw [Bool.eq_false_iff]
                intro z
                exact hsd (by simpa using z)
              simp only [FA, SL, Nat.reduceSub, Nat.reduceAdd, AP, PAR, AB, LS, OI, EQ, IX, TD, eqK, if_true, if_false, Bool.not_true, Bool.not_false, Bool.false_eq_true, List.take_length, exit_bl, exit_int, exit_non, exit_str, decide_true, decide_false, hsd']
              rw [if_neg (fun z => hsd z.2.2)]
              rfl
          · simp only [FA, SL, Nat.reduceSub, Nat.reduceAdd, AP, PAR, AB, LS, OI, EQ, IX, TD, eqK, if_true, if_false, Bool.not_true, Bool.not_false, Bool.false_eq_true, List.take_length, exit_bl, exit_int, exit_non, exit_str, decide_true, decide_false, z]
            rw [if_neg (fun q => q.2.1)]
            rfl
        · have hj' : (decide (ws.getD 0 [] = K "join") || decide (ws.getD 0 [] = K "take")) = false := by
            rw [Bool.eq_false_iff]
            intro z
            exact hj (by simpa using z)
          simp only [FA, SL, Nat.reduceSub, Nat.reduceAdd, AP, PAR, AB, LS, OI, EQ, IX, TD, eqK, if_true, if_false, Bool.not_true, Bool.not_false, Bool.false_eq_true, List.take_length, exit_bl, exit_int, exit_non, exit_str, decide_true, decide_false, hj']
          rw [if_neg (fun q => hj q.1)]
          rfl
/-! ### rounds -/
theorem Cu.f_word (c : Cu) (m : Mu) : fldD "Clause" "word" c.obj m = .ok (.str (S c.w)) m := rfl
theorem Cu.f_rest (c : Cu) (m : Mu) : fldD "Clause" "rest" c.obj m = .ok (.int c.rest) m := rfl
theorem Cu.f_step (c : Cu) (m : Mu) : fldD "Clause" "step" c.obj m = .ok (.int c.step) m := rfl
theorem Cu.f_goal (c : Cu) (m : Mu) : fldD "Clause" "goal" c.obj m = .ok (optS c.goal) m := rfl
theorem nat_beq (a b : Nat) : (((a : Nat) : Int) == ((b : Nat) : Int)) = (a == b) := by
  by_cases h : a = b
  · subst h; simp
  · rw [beq_eq_false_iff_ne.mpr h, beq_eq_false_iff_ne]; omega
theorem meet_ok (a b : Cu) (μ : Mu) : F_meet [a.obj, b.obj] μ = .ok (.bl (meetC a b)) μ := by
  simp only [FA, SL, Nat.reduceSub, Nat.reduceAdd, AP, PAR, AB, LS, OI, EQ, IX, TD, eqK, if_true, if_false, Bool.not_true, Bool.not_false, Bool.false_eq_true, List.take_length, exit_bl, exit_int, exit_non, exit_str, decide_true, decide_false, F_meet, B_meet, Cu.f_step, Cu.f_rest, nat_beq]
  unfold meetC
  cases h : (a.step == b.step) <;> simp only [FA, SL, Nat.reduceSub, Nat.reduceAdd, AP, PAR, AB, LS, OI, EQ, IX, TD, eqK, if_true, if_false, Bool.not_true, Bool.not_false, Bool.false_eq_true, List.take_length, exit_bl, exit_int, exit_non, exit_str, decide_true, decide_false, Bool.true_or, Bool.false_or]
theorem optC_non (o : Option Cu) : isNonD (optC o) = o.isNone := by cases o <;> rfl
theorem allSome_some {α : Type} : ∀ {os : List (Option α)} {xs : List α}, allSome os = some xs → os = xs.map some
  | [], xs, h => by cases h; rfl
  | some y :: r, xs, h => by
    rw [allSome, Option.map_eq_some_iff] at h
    obtain ⟨ys, h1, rfl⟩ := h
    rw [allSome_some h1]
    rfl
  | none :: r, xs, h => by cases h
theorem allSome_none {α : Type} : ∀ {os : List (Option α)}, allSome os = none → os.any Option.isNone = true
  | [], h => by cases h
  | some y :: r, h => by
    rw [allSome, Option.map_eq_none_iff] at h
    rw [List.any_cons, allSome_none h, Bool.or_true]
  | none :: r, h => rfl
theorem any_some {α : Type} (xs : List α) : (xs.map some).any Option.isNone = false := by
  induction xs <;> simp_all
theorem allSome_len {α : Type} {os : List (Option α)} {xs : List α} (h : allSome os = some xs) : xs.length = os.length := by
  rw [allSome_some h, List.length_map]
/-- a clause meets one ahead of it -/
theorem meets_at {cs : List Cu} : meets cs = true ↔ ∃ k, ∃ h : k < cs.length, (cs.take k).any (fun d => meetC cs[k] d) = true := by
  induction cs with
  | nil => simp [meets]
  | cons c r ih =>
    rw [meets, Bool.or_eq_true, ih, List.any_eq_true]
    constructor
    · rintro (⟨d, hd, h⟩ | ⟨k, hk, h⟩)
      · obtain ⟨k, hk, rfl⟩ := List.getElem_of_mem hd
        exact ⟨k + 1, by simp; omega, by simp [h]⟩
      · refine ⟨k + 1, by simp; omega, ?_⟩
        rw [List.take_succ_cons, List.any_cons, Bool.or_eq_true]
        exact .inr (by simpa using h)
    · rintro ⟨k, hk, h⟩
      cases k with
      | zero => simp at h
      | succ k =>
        rw [List.take_succ_cons, List.any_cons, Bool.or_eq_true] at h
        rw [List.length_cons] at hk
        rcases h with h | h
        · exact .inl ⟨r[k], List.getElem_mem _, by simpa using h⟩
        · exact .inr ⟨k, by omega, by simpa using h⟩
/-- a for that may leave by a return, found at the first hit -/
theorem loop_hit {g : XG} {body : XS} {μ : Mu} (I : Rho → Prop) (v : D) : ∀ {xs : List D} {r : Rho}, I r → ∀ (k : Nat), k < xs.length → (∀ i x, xs[i]? = some x → i < k → ∀ r, I r → ∃ r1 r2, g x r μ = .ok r1 μ ∧ body r1 μ = .next r2 μ ∧ I r2) → (∀ x, xs[k]? = some x → ∀ r, I r → ∃ r1, g x r μ = .ok r1 μ ∧ body r1 μ = .ret v μ) → loopF g body xs r μ = .ret v μ
  | [], r, h, k, hk, _, _ => by simp at hk
  | x :: xs, r, h, 0, hk, _, hh => by
    obtain ⟨r1, h1, h2⟩ := hh x rfl r h
    rw [loopF, h1]
    simp only [AB, h2]
  | x :: xs, r, h, k + 1, hk, hn, hh => by
    obtain ⟨r1, r2, h1, h2, h3⟩ := hn 0 x rfl (by omega) r h
    rw [loopF, h1]
    simp only [AB, h2]
    exact loop_hit I v h3 k (by simpa using hk) (fun i y hy hi => hn (i + 1) y hy (by omega)) fun y hy => hh y hy
end J

/-! # GD: the program's readers of rounds and goals, on any text -/
namespace J
open PySem PySem.Spec PyProof.Rows L2 DS
open SX (S)
theorem optR_in (o : Option (List Cu)) (n : Nat) : (optR o).inB n = true := by
  cases o with
  | none => rfl
  | some cs => rw [optR, D.inB]; exact inL_map _ _ _ fun c _ => c.obj_in _
theorem exit_optR {n : Nat} {o : Option (List Cu)} {m : Mu} : exitD n (optR o) m = .ok (optR o) (m.take n) := exit_in (optR_in o n)
theorem exit_objs {n : Nat} {cs : List Cu} {m : Mu} : exitD n (.lst (cs.map Cu.obj)) m = .ok (.lst (cs.map Cu.obj)) (m.take n) := exit_optR (o := some cs)
theorem filter_mixed (cs : List Cu) : (0 < (cs.filter Cu.call).length ∧ (cs.filter Cu.call).length < cs.length) ↔ ¬ (cs.all Cu.call = true ∨ cs.any Cu.call = false) := by
  have h1 : (cs.filter Cu.call).length = cs.length ↔ cs.all Cu.call = true := by
    rw [List.length_filter_eq_length_iff, List.all_eq_true]
  have h2 : (cs.filter Cu.call).length = 0 ↔ cs.any Cu.call = false := by
    rw [List.length_eq_zero_iff, List.filter_eq_nil_iff, List.any_eq_false]
  have h3 := List.length_filter_le Cu.call cs
  rw [not_or, ← h1, ← h2]
  omega
theorem first_hit {p : Nat → Prop} (h : ∃ k, p k) : ∃ k, p k ∧ ∀ i < k, ¬ p i := by
  obtain ⟨k, hk⟩ := h
  induction k using Nat.strongRecOn with
  | ind k ih =>
    by_cases z : ∃ i < k, p i
    · obtain ⟨i, hi, hp⟩ := z
      exact ih i hi hp
    · exact ⟨k, hk, fun i hi hp => z ⟨i, hi, hp⟩⟩
theorem read_clauses_ok {l : List Nat} (hl : l.length + 2 ≤ sizeLine) (μ : Mu) : F_read_clauses [.str (S l)] μ = .ok (optR (roundL l)) μ := by
  have hsp : ∀ m, splitF [.str (S l), .str (Str.ofString "; ")] m = _ := split_ok (sep := "; ") (by decide) (by decide) hl
  have hw : ∀ w ∈ TL.spl (K "; ") 0 [] l, w.length + 2 ≤ sizeLine := fun w h => by have := spl_len (by decide) h; omega
  have hcnt := spl_count (sep := K "; ") (by decide) l
  unfold roundL
  generalize TL.spl (K "; ") 0 [] l = ps at hsp hw hcnt ⊢
  have hps : ps.length ≤ sizeLine := by omega
  have e1 : ∀ r0 : Rho, 5 < r0.length → lcD (gNm 5) xYes (xCall F_read_clause (xaCons (xVar 5) xaNil)) r0 (ps.map wD) μ = .ok (.lst ((ps.map clauseL).map optC)) μ := fun r0 h5 => by
    rw [List.map_map]
    exact lc_map _ _ (fun p hp acc => by
      simp only [AP, AV, AB, List.getElem?_set_self h5]
      exact read_clause_ok (hw p hp) _) (fun p _ => optC_in _ _) hps
  have hol : (ps.map clauseL).length ≤ sizeLine := by rw [List.length_map]; exact hps
  generalize ps.map clauseL = os at e1 hol ⊢
  have e2 : ∀ r0 : Rho, 4 < r0.length → lcD (gNm 4) xYes (xOp isD (xVar 4) (xC D.non)) r0 (os.map optC) μ = .ok (.lst (os.map fun o => .bl o.isNone)) μ := fun r0 h5 =>
    lc_map _ _ (fun o ho acc => by
      simp only [AP, AV, AB, List.getElem?_set_self h5, OI, optC_non]) (fun c _ => rfl) hol
  have i5 : ∀ (a b c d e f g : Option D), 5 < ([a, b, c, d, e, f, g] : Rho).length := fun _ _ _ _ _ _ _ => by simp
  have i4 : ∀ (a b c d e f g : Option D), 4 < ([a, b, c, d, e, f, g] : Rho).length := fun _ _ _ _ _ _ _ => by simp
  simp only [FA, SL, Nat.reduceSub, Nat.reduceAdd, AP, PAR, AB, LS, OI, EQ, IX, TD, eqK, if_true, if_false, Bool.not_true, Bool.not_false, Bool.false_eq_true, List.take_length, exit_bl, exit_int, exit_non, exit_str, decide_true, decide_false, F_read_clauses, B_read_clauses, isi_str (show Pk (.str (S l)) = true from rfl), isS, hsp, wipeR, e1 _ (i5 _ _ _ _ _ _ _), e2 _ (i4 _ _ _ _ _ _ _), any_map, List.length_map]
  cases ho : allSome os with
  | none =>
    simp only [FA, SL, Nat.reduceSub, Nat.reduceAdd, AP, PAR, AB, LS, OI, EQ, IX, TD, eqK, if_true, if_false, Bool.not_true, Bool.not_false, Bool.false_eq_true, List.take_length, exit_bl, exit_int, exit_non, exit_str, decide_true, decide_false, allSome_none ho, ite_self, optR]
  | some cs =>
    have hos := allSome_some ho
    have hlen := allSome_len ho
    have hcl : cs.length ≤ sizeLine := by omega
    subst hos
    simp only [FA, SL, Nat.reduceSub, Nat.reduceAdd, AP, PAR, AB, LS, OI, EQ, IX, TD, eqK, if_true, if_false, Bool.not_true, Bool.not_false, Bool.false_eq_true, List.take_length, exit_bl, exit_int, exit_non, exit_str, decide_true, decide_false, any_some]
    have hd : decide ((3 : Int) < (cs.length : Nat)) = decide (3 < cs.length) := by
      rw [decide_eq_decide]; omega
    have e3 : ∀ r0 : Rho, 4 < r0.length → lcD (gNm 4) (xTest (xOp eqD (xFld "Clause" "word" (xVar 4)) (xC (D.str "call")))) (xVar 4) r0 (cs.map Cu.obj) μ = .ok (.lst ((cs.filter Cu.call).map Cu.obj)) μ := fun r0 h5 =>
      lc_fil _ _ _ (fun c hc acc => by
        simp only [AP, AV, AB, List.getElem?_set_self h5, Cu.f_word, EQ, eqK]
        rfl) (fun c hc _ acc => by
        simp only [AP, AV, AB, List.getElem?_set_self h5]) (fun c _ _ => c.obj_in _) hcl
    have emap : (cs.map some).map optC = cs.map Cu.obj := by rw [List.map_map]; rfl
    rw [emap]
    by_cases h3 : 3 < cs.length
    · have hd' : decide ((3 : Int) < (cs.length : Nat)) = true := by rw [decide_eq_true_eq]; omega
      simp only [FA, SL, Nat.reduceSub, Nat.reduceAdd, AP, PAR, AB, LS, OI, EQ, IX, TD, eqK, if_true, if_false, Bool.not_true, Bool.not_false, Bool.false_eq_true, List.take_length, exit_bl, exit_int, exit_non, exit_str, decide_true, decide_false, List.length_map, hd']
      rw [if_neg (fun z => by omega)]
      rfl
    · have hd' : decide ((3 : Int) < (cs.length : Nat)) = false := by rw [decide_eq_false_iff_not]; omega
      simp only [FA, SL, Nat.reduceSub, Nat.reduceAdd, AP, PAR, AB, LS, OI, EQ, IX, TD, eqK, if_true, if_false, Bool.not_true, Bool.not_false, Bool.false_eq_true, List.take_length, exit_bl, exit_int, exit_non, exit_str, decide_true, decide_false, List.length_map, hd', e3 _ (i4 _ _ _ _ _ _ _), wipeR, List.length_map]
      have i6 : ∀ r0 : Rho, 6 < r0.length → ∀ (c : Cu) (k : Nat), r0[4]? = some (some c.obj) → lcD (gNm 6) xYes (xCall F_meet (xaCons (xVar 4) (xaCons (xVar 6) xaNil))) r0 ((cs.take k).map Cu.obj) μ = .ok (.lst ((cs.take k).map fun o => .bl (meetC c o))) μ := fun r0 h6 c k h4 =>
        lc_map _ _ (fun o ho acc => by
          simp only [AP, AV, AB, List.getElem?_set_self h6, List.getElem?_set_ne (show 6 ≠ 4 by decide), h4, meet_ok]) (fun _ _ => rfl) (by rw [List.length_take]; omega)
      let I : Rho → Prop := fun r' => ∃ a b, r' = [some (.str (S l)), some (.lst (cs.map Cu.obj)), some (.lst ((cs.filter Cu.call).map Cu.obj)), a, b, none, none]
      have turn : ∀ (k : Nat) (x : D), (enumL 0 (cs.map Cu.obj))[k]? = some x → ∀ r, I r → ∃ h : k < cs.length, ∃ r1, I r1 ∧ gTp 2 (gsCons (gNm 3) (gsCons (gNm 4) gsNil)) x r μ = .ok r1 μ ∧ (sIf (xTest (xCall anyF (xaCons (xLc (xiSeq (xSl (xVar 1) xoN (xoS (xVar 3)))) [6] (gNm 6) xYes (xCall F_meet (xaCons (xVar 4) (xaCons (xVar 6) xaNil)))) xaNil))) (sRet (xC D.non)) sNil) r1 μ = if (cs.take k).any (fun d => meetC cs[k] d) then .ret .non μ else .next r1 μ := fun k x hx r hr => by
        obtain ⟨a, b, rfl⟩ := hr
        rw [enum_get, List.getElem?_map, Nat.zero_add] at hx
        cases hc : cs[k]? with
        | none => rw [hc] at hx; cases hx
        | some c =>
          rw [hc] at hx
          cases hx
          obtain ⟨hk, hck⟩ := List.getElem?_eq_some_iff.mp hc
          refine ⟨hk, [some (.str (S l)), some (.lst (cs.map Cu.obj)), some (.lst ((cs.filter Cu.call).map Cu.obj)), some (.int ((k : Nat) : Int)), some c.obj, none, none], ⟨_, _, rfl⟩, by simp only [FA, SL, Nat.reduceSub, Nat.reduceAdd, AP, PAR, AB, LS, OI, EQ, IX, TD, eqK, if_true, if_false, Bool.not_true, Bool.not_false, Bool.false_eq_true, List.take_length, exit_bl, exit_int, exit_non, exit_str, decide_true, decide_false], ?_⟩
          have ct := cut_to' (cs.map Cu.obj) k
          rw [← List.map_take] at ct
          simp only [FA, SL, Nat.reduceSub, Nat.reduceAdd, AP, PAR, AB, LS, OI, EQ, IX, TD, eqK, if_true, if_false, Bool.not_true, Bool.not_false, Bool.false_eq_true, List.take_length, exit_bl, exit_int, exit_non, exit_str, decide_true, decide_false, wipeR, ct, i6 _ (show 6 < List.length [_, _, _, _, _, _, _] by simp) c k rfl, any_map, hck]
      have fin : ∀ r, I r → (match loopF (gTp 2 (gsCons (gNm 3) (gsCons (gNm 4) gsNil))) (sIf (xTest (xCall anyF (xaCons (xLc (xiSeq (xSl (xVar 1) xoN (xoS (xVar 3)))) [6] (gNm 6) xYes (xCall F_meet (xaCons (xVar 4) (xaCons (xVar 6) xaNil)))) xaNil))) (sRet (xC D.non)) sNil) (enumL 0 (cs.map Cu.obj)) r μ with
          | .next r' m' => sRet (xVar 1) r' m'
          | o => o) = .ret (optR (if meets cs = false then some cs else none)) μ := fun r hr => by
        by_cases hme : meets cs = true
        · obtain ⟨k, ⟨hk, hh⟩, hmin⟩ := first_hit (p := fun k => ∃ h : k < cs.length, (cs.take k).any (fun d => meetC cs[k] d) = true) (meets_at.mp hme)
          have hlE : k < (enumL 0 (cs.map Cu.obj)).length := by
            have : ∀ (b : Nat) (xs : List D), (enumL b xs).length = xs.length := fun b xs => by
              induction xs generalizing b with
              | nil => rfl
              | cons x r ih => rw [enumL, List.length_cons, List.length_cons, ih]
            rw [this, List.length_map]
            exact hk
          rw [loop_hit I .non hr k hlE (fun i x hx hi r hr => by
            obtain ⟨hi', r1, h1, h2, h3⟩ := turn i x hx r hr
            have hf : ((cs.take i).any fun d => meetC cs[i] d) = false := by
              rw [Bool.eq_false_iff]
              exact fun z => hmin i hi ⟨hi', z⟩
            rw [hf] at h3
            exact ⟨r1, r1, h2, h3, h1⟩) fun x hx r hr => by
            obtain ⟨hi', r1, h1, h2, h3⟩ := turn k x hx r hr
            rw [hh] at h3
            exact ⟨r1, h2, h3⟩]
          rw [hme]
          rfl
        · have hme' : meets cs = false := by simpa using hme
          obtain ⟨r', h1, a, b, rfl⟩ := loop_keep (μ := μ) (xs := enumL 0 (cs.map Cu.obj)) (g := gTp 2 (gsCons (gNm 3) (gsCons (gNm 4) gsNil))) (body := sIf (xTest (xCall anyF (xaCons (xLc (xiSeq (xSl (xVar 1) xoN (xoS (xVar 3)))) [6] (gNm 6) xYes (xCall F_meet (xaCons (xVar 4) (xaCons (xVar 6) xaNil)))) xaNil))) (sRet (xC D.non)) sNil) I hr fun x hx r hr => by
            obtain ⟨i, hi⟩ := List.getElem?_of_mem hx
            obtain ⟨hi', r1, h1, h2, h3⟩ := turn i x hi r hr
            have hf : ((cs.take i).any fun d => meetC cs[i] d) = false := by
              rw [Bool.eq_false_iff]
              exact fun z => hme (meets_at.mpr ⟨i, hi', z⟩)
            rw [hf] at h3
            exact ⟨r1, r1, h2, h3, h1⟩
          rw [h1, hme', if_pos rfl]
          simp only [FA, SL, Nat.reduceSub, Nat.reduceAdd, AP, PAR, AB, LS, OI, EQ, IX, TD, eqK, if_true, if_false, Bool.not_true, Bool.not_false, Bool.false_eq_true, List.take_length, exit_bl, exit_int, exit_non, exit_str, decide_true, decide_false, optR]
      have fin0 := fin [some (.str (S l)), some (.lst (cs.map Cu.obj)), some (.lst ((cs.filter Cu.call).map Cu.obj)), none, none, none, none] ⟨_, _, rfl⟩
      by_cases hm : cs.all Cu.call = true ∨ cs.any Cu.call = false
      · have hres : (if cs.length ≤ 3 ∧ (cs.all Cu.call = true ∨ cs.any Cu.call = false) ∧ meets cs = false then some cs else none) = if meets cs = false then some cs else none := by
          by_cases q : meets cs = false
          · rw [if_pos q, if_pos ⟨by omega, hm, q⟩]
          · rw [if_neg q, if_neg (fun z => q z.2.2)]
        rw [hres]
        have hnm : ¬ (0 < (cs.filter Cu.call).length ∧ (cs.filter Cu.call).length < cs.length) := fun z => (filter_mixed cs).mp z hm
        have go : ∀ o : SO, o = .ret (optR (if meets cs = false then some cs else none)) μ → (match o with
          | .next _ m' => Out.ok D.non (m'.take μ.length)
          | .ret d m' => if false = true then .ok d m' else exitD μ.length d m'
          | .exc c fs _ m' => if D.inF μ.length fs then .exc c fs (m'.take μ.length) else .stuck
          | _ => .stuck) = .ok (optR (if meets cs = false then some cs else none)) μ := fun o ho => by
          rw [ho]
          show exitD _ _ _ = _
          rw [exit_optR, List.take_length]
        by_cases h0 : 0 < (cs.filter Cu.call).length
        · have d0 : decide ((0 : Int) < ((cs.filter Cu.call).length : Nat)) = true := by rw [decide_eq_true_eq]; omega
          have d1 : decide ((((cs.filter Cu.call).length : Nat) : Int) < ((cs.length : Nat) : Int)) = false := by rw [decide_eq_false_iff_not]; omega
          simp only [FA, SL, Nat.reduceSub, Nat.reduceAdd, AP, PAR, AB, LS, OI, EQ, IX, TD, eqK, if_true, if_false, Bool.not_true, Bool.not_false, Bool.false_eq_true, List.take_length, exit_bl, exit_int, exit_non, exit_str, decide_true, decide_false, d0, d1]
          exact go _ fin0
        · have d0 : decide ((0 : Int) < ((cs.filter Cu.call).length : Nat)) = false := by rw [decide_eq_false_iff_not]; omega
          simp only [FA, SL, Nat.reduceSub, Nat.reduceAdd, AP, PAR, AB, LS, OI, EQ, IX, TD, eqK, if_true, if_false, Bool.not_true, Bool.not_false, Bool.false_eq_true, List.take_length, exit_bl, exit_int, exit_non, exit_str, decide_true, decide_false, d0]
          exact go _ fin0
      · have hx := (filter_mixed cs).mpr hm
        have d0 : decide ((0 : Int) < ((cs.filter Cu.call).length : Nat)) = true := by rw [decide_eq_true_eq]; omega
        have d1 : decide ((((cs.filter Cu.call).length : Nat) : Int) < ((cs.length : Nat) : Int)) = true := by rw [decide_eq_true_eq]; omega
        simp only [FA, SL, Nat.reduceSub, Nat.reduceAdd, AP, PAR, AB, LS, OI, EQ, IX, TD, eqK, if_true, if_false, Bool.not_true, Bool.not_false, Bool.false_eq_true, List.take_length, exit_bl, exit_int, exit_non, exit_str, decide_true, decide_false, d0, d1]
        rw [if_neg (fun z => hm z.2.1)]
        rfl
end J

/-! # GE: goals, rounds that can stand, plans -/
namespace J
open PySem PySem.Spec PyProof.Rows L2 DS
open SX (S)
/-! ### goals -/
theorem sl_to {l : List Nat} {k : Nat} (h : l.length ≤ sizeLine) (m : Mu) : slD (.str (S l)) none (some (k : Int)) m = .ok (.str (S (l.take k))) m := by
  show (if (S l).length ≤ sizeLine then Out.ok (D.str (cutS (S l) none (some (k : Int)))) m else .stuck) = _
  rw [S_len', if_pos h]
  congr 2
  refine TL.ext_tl ?_
  show _ = l.take k
  unfold cutS
  simp only [TL.tl_mk]
  rw [HT.sIx_none, HT.sIx_nat, S_len']
  show (l.drop 0).take _ = _
  rw [List.drop_zero, Nat.sub_zero]
  by_cases q : k ≤ l.length
  · rw [Nat.min_eq_left q]
  · rw [Nat.min_eq_right (by omega), List.take_length, List.take_of_length_le (by omega)]
theorem sl_from {l : List Nat} {k : Nat} (h : l.length ≤ sizeLine) (m : Mu) : slD (.str (S l)) (some (k : Int)) none m = .ok (.str (S (l.drop k))) m := by
  show (if (S l).length ≤ sizeLine then Out.ok (D.str (cutS (S l) (some (k : Int)) none)) m else .stuck) = _
  rw [S_len', if_pos h]
  congr 2
  refine TL.ext_tl ?_
  show _ = l.drop k
  unfold cutS
  simp only [TL.tl_mk]
  rw [HT.sIx_none, HT.sIx_nat, S_len']
  show (l.drop _).take (l.length - _) = _
  by_cases q : k ≤ l.length
  · rw [Nat.min_eq_left q, List.take_of_length_le (by rw [List.length_drop]; omega)]
  · rw [Nat.min_eq_right (by omega), List.drop_of_length_le (Nat.le_refl _), List.drop_of_length_le (by omega)]
    simp
theorem optG_in (o : Option (List Nat × Option Nat)) (n : Nat) : (optG o).inB n = true := by
  rcases o with _ | ⟨w, _ | k⟩ <;> rfl
theorem exit_optG {n : Nat} {o : Option (List Nat × Option Nat)} {m : Mu} : exitD n (optG o) m = .ok (optG o) (m.take n) := exit_in (optG_in o n)
theorem read_goal_ok {l : List Nat} (hl : l.length ≤ sizeLine) (μ : Mu) : F_read_goal [.str (S l)] μ = .ok (optG (goalL l)) μ := by
  have s1 : slD (.str (S l)) none (some 5) μ = _ := sl_to (k := 5) hl μ
  have s2 : slD (.str (S l)) (some 5) none μ = _ := sl_from (k := 5) hl μ
  have hd : (l.drop 5).length ≤ sizeLine := by rw [List.length_drop]; omega
  unfold goalL
  simp only [FA, SL, Nat.reduceSub, Nat.reduceAdd, AP, PAR, AB, LS, OI, EQ, IX, TD, eqK, if_true, if_false, Bool.not_true, Bool.not_false, Bool.false_eq_true, List.take_length, exit_bl, exit_int, exit_non, exit_str, decide_true, decide_false, F_read_goal, B_read_goal, isi_str (show Pk (.str (S l)) = true from rfl), isS, inD, in_two]
  by_cases h : l = K "all" ∨ l = K "before"
  · have h' : (decide (l = K "all") || decide (l = K "before")) = true := by simpa using h
    rw [if_pos h]
    simp only [FA, SL, Nat.reduceSub, Nat.reduceAdd, AP, PAR, AB, LS, OI, EQ, IX, TD, eqK, if_true, if_false, Bool.not_true, Bool.not_false, Bool.false_eq_true, List.take_length, exit_bl, exit_int, exit_non, exit_str, decide_true, decide_false, h']
    exact exit_optG (o := some (l, none)) |>.trans (by rw [List.take_length])
  · have h' : (decide (l = K "all") || decide (l = K "before")) = false := by
      rw [Bool.eq_false_iff]
      intro z
      exact h (by simpa using z)
    rw [if_neg h]
    simp only [FA, SL, Nat.reduceSub, Nat.reduceAdd, AP, PAR, AB, LS, OI, EQ, IX, TD, eqK, if_true, if_false, Bool.not_true, Bool.not_false, Bool.false_eq_true, List.take_length, exit_bl, exit_int, exit_non, exit_str, decide_true, decide_false, h', s1]
    by_cases h5 : l.take 5 = K "last "
    · simp only [FA, SL, Nat.reduceSub, Nat.reduceAdd, AP, PAR, AB, LS, OI, EQ, IX, TD, eqK, if_true, if_false, Bool.not_true, Bool.not_false, Bool.false_eq_true, List.take_length, exit_bl, exit_int, exit_non, exit_str, decide_true, decide_false, h5, s2, digit_of_ok hd, is_between_ok (pk_optN _)]
      cases hk : digL (l.drop 5) with
      | none => simp only [FA, SL, Nat.reduceSub, Nat.reduceAdd, AP, PAR, AB, LS, OI, EQ, IX, TD, eqK, if_true, if_false, Bool.not_true, Bool.not_false, Bool.false_eq_true, List.take_length, exit_bl, exit_int, exit_non, exit_str, decide_true, decide_false, optN, btw, optG]
      | some d =>
        by_cases q : 1 ≤ d ∧ d ≤ 4
        · have q1 : (decide ((1 : Int) ≤ (d : Int)) && decide ((d : Int) ≤ 4)) = true := by rw [← Bool.decide_and, decide_eq_true_eq]; omega
          simp only [FA, SL, Nat.reduceSub, Nat.reduceAdd, AP, PAR, AB, LS, OI, EQ, IX, TD, eqK, if_true, if_false, Bool.not_true, Bool.not_false, Bool.false_eq_true, List.take_length, exit_bl, exit_int, exit_non, exit_str, decide_true, decide_false, optN, btw, q1]
          rw [if_pos q, exit_in (by rfl), List.take_length, K_S "last"]
          rfl
        · have q1 : (decide ((1 : Int) ≤ (d : Int)) && decide ((d : Int) ≤ 4)) = false := by rw [← Bool.decide_and, decide_eq_false_iff_not]; omega
          simp only [FA, SL, Nat.reduceSub, Nat.reduceAdd, AP, PAR, AB, LS, OI, EQ, IX, TD, eqK, if_true, if_false, Bool.not_true, Bool.not_false, Bool.false_eq_true, List.take_length, exit_bl, exit_int, exit_non, exit_str, decide_true, decide_false, optN, btw, q1]
          rw [if_neg q]
          rfl
    · simp only [FA, SL, Nat.reduceSub, Nat.reduceAdd, AP, PAR, AB, LS, OI, EQ, IX, TD, eqK, if_true, if_false, Bool.not_true, Bool.not_false, Bool.false_eq_true, List.take_length, exit_bl, exit_int, exit_non, exit_str, decide_true, decide_false, h5, is_between_ok (show Pk .non = true from rfl), btw, optG]
/-! ### rounds that can stand -/
theorem clsL_call {ws : List (List Nat)} {c : Cu} (h : clauseW ws = some c) : (c.w = K "call" ∧ ∃ g, c.goal = some g) ∨ (c.w ≠ K "call" ∧ c.goal = none) := by
  unfold clauseW at h
  split at h
  · unfold callW at h
    split at h
    · split at h
      · cases h
        exact .inl ⟨rfl, _, rfl⟩
      · cases h
    · cases h
  · rename_i hne
    split at h
    · cases h
    · split at h
      · split at h
        · cases h
          exact .inr ⟨show K "clear" ≠ K "call" by decide, rfl⟩
        · cases h
      · split at h
        · split at h
          · split at h
            · cases h
              exact .inr ⟨hne, rfl⟩
            · cases h
          · cases h
        · cases h
theorem roundL_mem {l : List Nat} {cs : List Cu} (h : roundL l = some cs) {c : Cu} (hc : c ∈ cs) : (c.w = K "call" ∧ ∃ g, c.goal = some g) ∨ (c.w ≠ K "call" ∧ c.goal = none) := by
  unfold roundL at h
  split at h
  · cases h
  · rename_i xs hx
    split at h
    · cases h
      have := allSome_some hx
      have hm : some c ∈ (TL.spl (K "; ") 0 [] l).map clauseL := by
        rw [this]
        exact List.mem_map.mpr ⟨c, hc, rfl⟩
      obtain ⟨p, _, hp⟩ := List.mem_map.mp hm
      exact clsL_call hp
    · cases h
def stands (names above : List (List Nat)) (o : Option (List Cu)) : Option (List Cu) := match o with
  | some cs => if standL names above cs = true then some cs else none
  | none => none
def okC (names above : List (List Nat)) (c : Cu) : Bool := match c.goal with
  | some g => decide (g ∈ names) && !(c.step == 1 && decide (g ∈ above))
  | none => true
theorem read_round_ok {l : List Nat} (hl : l.length + 2 ≤ sizeLine) {names above : List (List Nat)} {nd ad : D} {μ : Mu} (hN : ∀ g, DS.inB μ (wD g) nd = some (decide (g ∈ names))) (hA : ∀ g, DS.inB μ (wD g) ad = some (decide (g ∈ above))) :
    F_read_round [.str (S l), nd, ad] μ = .ok (optR (stands names above (roundL l))) μ := by
  simp only [FA, SL, Nat.reduceSub, Nat.reduceAdd, AP, PAR, AB, LS, OI, EQ, IX, TD, eqK, if_true, if_false, Bool.not_true, Bool.not_false, Bool.false_eq_true, List.take_length, exit_bl, exit_int, exit_non, exit_str, decide_true, decide_false, F_read_round, B_read_round, read_clauses_ok hl]
  cases hr : roundL l with
  | none => simp only [FA, SL, Nat.reduceSub, Nat.reduceAdd, AP, PAR, AB, LS, OI, EQ, IX, TD, eqK, if_true, if_false, Bool.not_true, Bool.not_false, Bool.false_eq_true, List.take_length, exit_bl, exit_int, exit_non, exit_str, decide_true, decide_false, optR, isNonD, stands]
  | some cs =>
    have hmem := fun c hc => roundL_mem hr (c := c) hc
    simp only [FA, SL, Nat.reduceSub, Nat.reduceAdd, AP, PAR, AB, LS, OI, EQ, IX, TD, eqK, if_true, if_false, Bool.not_true, Bool.not_false, Bool.false_eq_true, List.take_length, exit_bl, exit_int, exit_non, exit_str, decide_true, decide_false, optR, isNonD, stands]
    let I : Rho → Prop := fun r' => ∃ a, r' = [some (.str (S l)), some nd, some ad, some (.lst (cs.map Cu.obj)), a]
    have turn : ∀ c ∈ cs, ∀ r, I r → ∃ r1, I r1 ∧ gNm 4 c.obj r μ = .ok r1 μ ∧ (sIf (xAndT (xTest (xOp eqD (xFld "Clause" "word" (xVar 4)) (xC (.str "call")))) (xOrT (xTest (xOp ninD (xFld "Clause" "goal" (xVar 4)) (xVar 1))) (xAndT (xTest (xOp eqD (xFld "Clause" "step" (xVar 4)) (xC (.int 1)))) (xTest (xOp inD (xFld "Clause" "goal" (xVar 4)) (xVar 2)))))) (sRet (xC .non)) sNil) r1 μ = if okC names above c = true then .next r1 μ else .ret .non μ := fun c hc r hr => by
      obtain ⟨a, rfl⟩ := hr
      refine ⟨[some (.str (S l)), some nd, some ad, some (.lst (cs.map Cu.obj)), some c.obj], ⟨_, rfl⟩, by simp only [FA, SL, Nat.reduceSub, Nat.reduceAdd, AP, PAR, AB, LS, OI, EQ, IX, TD, eqK, if_true, if_false, Bool.not_true, Bool.not_false, Bool.false_eq_true, List.take_length, exit_bl, exit_int, exit_non, exit_str, decide_true, decide_false], ?_⟩
      have e1 : (((c.step : Nat) : Int) == 1) = (c.step == 1) := nat_beq c.step 1
      rcases hmem c hc with ⟨h1, g, h2⟩ | ⟨h1, h2⟩
      · have n1 : DS.inB μ (.str (S g)) nd = _ := hN g
        have n2 : DS.inB μ (.str (S g)) ad = _ := hA g
        unfold okC
        simp only [FA, SL, Nat.reduceSub, Nat.reduceAdd, AP, PAR, AB, LS, OI, EQ, IX, TD, eqK, if_true, if_false, Bool.not_true, Bool.not_false, Bool.false_eq_true, List.take_length, exit_bl, exit_int, exit_non, exit_str, decide_true, decide_false, Cu.f_word, Cu.f_goal, Cu.f_step, h1, h2, optS, ninD, inD, n1, n2, e1]
        by_cases q1 : g ∈ names
        · cases q2 : (c.step == 1)
          · simp only [FA, SL, Nat.reduceSub, Nat.reduceAdd, AP, PAR, AB, LS, OI, EQ, IX, TD, eqK, if_true, if_false, Bool.not_true, Bool.not_false, Bool.false_eq_true, List.take_length, exit_bl, exit_int, exit_non, exit_str, decide_true, decide_false, q1, Bool.true_and, Bool.false_and]
          · by_cases q3 : g ∈ above
            · simp only [FA, SL, Nat.reduceSub, Nat.reduceAdd, AP, PAR, AB, LS, OI, EQ, IX, TD, eqK, if_true, if_false, Bool.not_true, Bool.not_false, Bool.false_eq_true, List.take_length, exit_bl, exit_int, exit_non, exit_str, decide_true, decide_false, q1, q3, Bool.true_and]
            · simp only [FA, SL, Nat.reduceSub, Nat.reduceAdd, AP, PAR, AB, LS, OI, EQ, IX, TD, eqK, if_true, if_false, Bool.not_true, Bool.not_false, Bool.false_eq_true, List.take_length, exit_bl, exit_int, exit_non, exit_str, decide_true, decide_false, q1, q3, Bool.true_and]
        · simp only [FA, SL, Nat.reduceSub, Nat.reduceAdd, AP, PAR, AB, LS, OI, EQ, IX, TD, eqK, if_true, if_false, Bool.not_true, Bool.not_false, Bool.false_eq_true, List.take_length, exit_bl, exit_int, exit_non, exit_str, decide_true, decide_false, q1, Bool.false_and]
      · unfold okC
        simp only [FA, SL, Nat.reduceSub, Nat.reduceAdd, AP, PAR, AB, LS, OI, EQ, IX, TD, eqK, if_true, if_false, Bool.not_true, Bool.not_false, Bool.false_eq_true, List.take_length, exit_bl, exit_int, exit_non, exit_str, decide_true, decide_false, Cu.f_word, h1, h2]
    by_cases hs : standL names above cs = true
    · have hall : ∀ c ∈ cs, okC names above c = true := fun c hc => List.all_eq_true.mp hs c hc
      obtain ⟨r', h1, a, rfl⟩ := loop_keep (μ := μ) (xs := cs.map Cu.obj) (g := gNm 4) (body := sIf (xAndT (xTest (xOp eqD (xFld "Clause" "word" (xVar 4)) (xC (.str "call")))) (xOrT (xTest (xOp ninD (xFld "Clause" "goal" (xVar 4)) (xVar 1))) (xAndT (xTest (xOp eqD (xFld "Clause" "step" (xVar 4)) (xC (.int 1)))) (xTest (xOp inD (xFld "Clause" "goal" (xVar 4)) (xVar 2)))))) (sRet (xC .non)) sNil) I (r := [some (.str (S l)), some nd, some ad, some (.lst (cs.map Cu.obj)), none]) ⟨_, rfl⟩ fun x hx r hr => by
        obtain ⟨c, hc, rfl⟩ := List.mem_map.mp hx
        obtain ⟨r1, h1, h2, h3⟩ := turn c hc r hr
        rw [hall c hc, if_pos rfl] at h3
        exact ⟨r1, r1, h2, h3, h1⟩
      simp only [FA, SL, Nat.reduceSub, Nat.reduceAdd, AP, PAR, AB, LS, OI, EQ, IX, TD, eqK, if_true, if_false, Bool.not_true, Bool.not_false, Bool.false_eq_true, List.take_length, exit_bl, exit_int, exit_non, exit_str, decide_true, decide_false, h1, hs, exit_objs, optR]
    · have hs' : standL names above cs = false := by simpa using hs
      have hex : ∃ k, ∃ h : k < cs.length, okC names above cs[k] = false := by
        have : cs.all (okC names above) = false := hs'
        rw [List.all_eq_false] at this
        obtain ⟨c, hc, hn⟩ := this
        obtain ⟨k, hk, rfl⟩ := List.getElem_of_mem hc
        exact ⟨k, hk, by simpa using hn⟩
      obtain ⟨k, ⟨hk, hh⟩, hmin⟩ := first_hit hex
      have h1 := loop_hit (μ := μ) (xs := cs.map Cu.obj) (g := gNm 4) (body := sIf (xAndT (xTest (xOp eqD (xFld "Clause" "word" (xVar 4)) (xC (.str "call")))) (xOrT (xTest (xOp ninD (xFld "Clause" "goal" (xVar 4)) (xVar 1))) (xAndT (xTest (xOp eqD (xFld "Clause" "step" (xVar 4)) (xC (.int 1)))) (xTest (xOp inD (xFld "Clause" "goal" (xVar 4)) (xVar 2)))))) (sRet (xC .non)) sNil) I .non (r := [some (.str (S l)), some nd, some ad, some (.lst (cs.map Cu.obj)), none]) ⟨_, rfl⟩ k (by rw [List.length_map]; exact hk) (fun i x hx hi r hr => by
        have hi' : i < cs.length := by omega
        rw [List.getElem?_map, List.getElem?_eq_getElem hi'] at hx
        cases hx
        obtain ⟨r1, h1, h2, h3⟩ := turn cs[i] (List.getElem_mem _) r hr
        have : okC names above cs[i] = true := by
          cases q : okC names above cs[i]
          · exact absurd ⟨hi', q⟩ (hmin i hi)
          · rfl
        rw [this, if_pos rfl] at h3
        exact ⟨r1, r1, h2, h3, h1⟩) (fun x hx r hr => by
        rw [List.getElem?_map, List.getElem?_eq_getElem hk] at hx
        cases hx
        obtain ⟨r1, h1, h2, h3⟩ := turn cs[k] (List.getElem_mem _) r hr
        rw [hh] at h3
        exact ⟨r1, h2, h3⟩)
      simp only [FA, SL, Nat.reduceSub, Nat.reduceAdd, AP, PAR, AB, LS, OI, EQ, IX, TD, eqK, if_true, if_false, Bool.not_true, Bool.not_false, Bool.false_eq_true, List.take_length, exit_bl, exit_int, exit_non, exit_str, decide_true, decide_false, h1, hs', optR]
/-! ### plain small data -/
mutual
def sm : D → Bool
  | .non => true
  | .bl _ => true
  | .int _ => true
  | .str x => decide (x.length + 2 ≤ sizeLine)
  | .tup xs => smL xs
  | .lst xs => smL xs
  | _ => false
def smL : List D → Bool
  | [] => true
  | x :: r => sm x && smL r
end
theorem sm_pk {d : D} (h : sm d = true) : Pk d = true := by
  cases d <;> first | rfl | (simp [sm] at h)
theorem sm_str {x : Str} (h : sm (.str x) = true) : (TL.tl x).length + 2 ≤ sizeLine := by
  rw [sm, decide_eq_true_eq, TL.len_tl] at h
  exact h
mutual
theorem sm_in : ∀ {d : D} (n : Nat), sm d = true → d.inB n = true
  | .non, _, _ => rfl
  | .bl _, _, _ => rfl
  | .int _, _, _ => rfl
  | .str _, _, _ => rfl
  | .tup xs, n, h => by
    rw [sm] at h
    rw [D.inB]
    exact smL_in n h
  | .lst xs, n, h => by
    rw [sm] at h
    rw [D.inB]
    exact smL_in n h
  | .fix _, _, h => by simp [sm] at h
  | .obj _ _, _, h => by simp [sm] at h
  | .dct _, _, h => by simp [sm] at h
  | .loc _, _, h => by simp [sm] at h
  | .glo _, _, h => by simp [sm] at h
  | .ty _, _, h => by simp [sm] at h
  | .exn _ _, _, h => by simp [sm] at h
theorem smL_in : ∀ {ds : List D} (n : Nat), smL ds = true → D.inL n ds = true
  | [], _, _ => rfl
  | d :: r, n, h => by
    rw [smL, Bool.and_eq_true] at h
    rw [D.inL, sm_in n h.1, smL_in n h.2]
    rfl
end
theorem smL_all {ds : List D} : smL ds = true ↔ ∀ d ∈ ds, sm d = true := by
  induction ds with
  | nil => simp [smL]
  | cons x r ih => rw [smL, Bool.and_eq_true, ih]; simp
/-! ### plans -/
def roundD : D → Option (List Cu)
  | .str x => roundL (TL.tl x)
  | _ => none
def goalD : D → Option (List Nat × Option Nat)
  | .str x => goalL (TL.tl x)
  | _ => none
def roundsD : D → List D
  | .tup rs => rs
  | _ => []
def planD (d : D) : Bool := match d with
  | .tup [n, g, b, .tup rs] => nameD n && ((goalD g).isSome && (btw b 1 4 && (decide (0 < rs.length) && (decide (rs.length ≤ 5) && rs.all fun t => (roundD t).isSome))))
  | _ => false
theorem str_S (x : Str) : (D.str x) = .str (S (TL.tl x)) := by rw [SX.S_tl]
theorem read_clauses_D {d : D} (h : sm d = true) (μ : Mu) : F_read_clauses [d] μ = .ok (optR (roundD d)) μ := by
  cases d with
  | str x =>
    rw [str_S]
    exact read_clauses_ok (sm_str h) μ
  | _ => simp only [FA, SL, Nat.reduceSub, Nat.reduceAdd, AP, PAR, AB, LS, OI, EQ, IX, TD, eqK, if_true, if_false, Bool.not_true, Bool.not_false, Bool.false_eq_true, List.take_length, exit_bl, exit_int, exit_non, exit_str, decide_true, decide_false, F_read_clauses, B_read_clauses, isi_str (sm_pk h), isS, roundD, optR]
theorem read_goal_D {d : D} (h : sm d = true) (μ : Mu) : F_read_goal [d] μ = .ok (optG (goalD d)) μ := by
  cases d with
  | str x =>
    rw [str_S]
    exact read_goal_ok (by have := sm_str h; omega) μ
  | _ => simp only [FA, SL, Nat.reduceSub, Nat.reduceAdd, AP, PAR, AB, LS, OI, EQ, IX, TD, eqK, if_true, if_false, Bool.not_true, Bool.not_false, Bool.false_eq_true, List.take_length, exit_bl, exit_int, exit_non, exit_str, decide_true, decide_false, F_read_goal, B_read_goal, isi_str (sm_pk h), isS, goalD, optG]
theorem is_name_D {d : D} (h : sm d = true) (μ : Mu) : F_is_name [d] μ = .ok (.bl (nameD d)) μ := name_okD (sm_pk h) (fun x e => by
  subst e
  have := sm_str h
  rw [TL.len_tl]
  omega) μ
theorem optR_non (o : Option (List Cu)) : isNonD (optR o) = o.isNone := by cases o <;> rfl
theorem optG_non (o : Option (List Nat × Option Nat)) : isNonD (optG o) = o.isNone := by rcases o with _ | ⟨_, _⟩ <;> rfl
theorem len_ne4 {α : Type} {xs : List α} (h : xs.length ≠ 4) : (((xs.length : Nat) : Int) == 4) = false := by
  rw [beq_eq_false_iff_ne]; omega
theorem is_plan_ok {d : D} (h : sm d = true) (μ : Mu) : F_is_plan [d] μ = .ok (.bl (planD d)) μ := by
  have other : isT d = false → F_is_plan [d] μ = .ok (.bl false) μ := fun ht => by
    simp only [FA, SL, Nat.reduceSub, Nat.reduceAdd, AP, PAR, AB, LS, OI, EQ, IX, TD, eqK, if_true, if_false, Bool.not_true, Bool.not_false, Bool.false_eq_true, List.take_length, exit_bl, exit_int, exit_non, exit_str, decide_true, decide_false, F_is_plan, B_is_plan, isi_tup (sm_pk h), ht]
  cases d with
  | tup xs =>
    have bad : xs.length ≠ 4 → F_is_plan [.tup xs] μ = .ok (.bl false) μ := fun hl => by
      simp only [FA, SL, Nat.reduceSub, Nat.reduceAdd, AP, PAR, AB, LS, OI, EQ, IX, TD, eqK, if_true, if_false, Bool.not_true, Bool.not_false, Bool.false_eq_true, List.take_length, exit_bl, exit_int, exit_non, exit_str, decide_true, decide_false, F_is_plan, B_is_plan, isi_tup (sm_pk h), isT, len_ne4 hl]
    match xs, h, bad with
    | [], _, bad => exact bad (by simp)
    | [_], _, bad => exact bad (by simp)
    | [_, _], _, bad => exact bad (by simp)
    | [_, _, _], _, bad => exact bad (by simp)
    | _ :: _ :: _ :: d :: _ :: _, _, bad => rw [bad (by simp)]; cases d <;> rfl
    | [n, g, b, r], h, _ =>
      have hh : sm n = true ∧ sm g = true ∧ sm b = true ∧ sm r = true := by
        simp only [sm, smL, Bool.and_eq_true, and_true] at h
        exact h
      obtain ⟨hn, hg, hb, hr⟩ := hh
      simp only [FA, SL, Nat.reduceSub, Nat.reduceAdd, AP, PAR, AB, LS, OI, EQ, IX, TD, eqK, if_true, if_false, Bool.not_true, Bool.not_false, Bool.false_eq_true, List.take_length, exit_bl, exit_int, exit_non, exit_str, decide_true, decide_false, F_is_plan, B_is_plan, isi_tup (show Pk (.tup [n, g, b, r]) = true from rfl), isT, show (((4 : Nat) : Int) == 4) = true from rfl, is_name_D hn, read_goal_D hg, optG_non, is_between_ok (sm_pk hb)]
      have pl : planD (.tup [n, g, b, r]) = (nameD n && ((goalD g).isSome && (btw b 1 4 && (isT r && (decide (0 < (roundsD r).length) && (decide ((roundsD r).length ≤ 5) && (roundsD r).all fun t => (roundD t).isSome)))))) := by
        cases r <;> first | rfl | simp [planD, isT, roundsD]
      rw [pl]
      cases nameD n
      · simp only [FA, SL, Nat.reduceSub, Nat.reduceAdd, AP, PAR, AB, LS, OI, EQ, IX, TD, eqK, if_true, if_false, Bool.not_true, Bool.not_false, Bool.false_eq_true, List.take_length, exit_bl, exit_int, exit_non, exit_str, decide_true, decide_false, Bool.false_and]
      · cases hgo : goalD g with
        | none => simp only [FA, SL, Nat.reduceSub, Nat.reduceAdd, AP, PAR, AB, LS, OI, EQ, IX, TD, eqK, if_true, if_false, Bool.not_true, Bool.not_false, Bool.false_eq_true, List.take_length, exit_bl, exit_int, exit_non, exit_str, decide_true, decide_false, Option.isNone_some, Option.isSome_some, Option.isNone_none, Option.isSome_none, Bool.false_and, Bool.and_false]
        | some gg =>
          cases btw b 1 4
          · simp only [FA, SL, Nat.reduceSub, Nat.reduceAdd, AP, PAR, AB, LS, OI, EQ, IX, TD, eqK, if_true, if_false, Bool.not_true, Bool.not_false, Bool.false_eq_true, List.take_length, exit_bl, exit_int, exit_non, exit_str, decide_true, decide_false, Option.isNone_some, Option.isSome_some, Option.isNone_none, Option.isSome_none, Bool.false_and, Bool.and_false]
          · simp only [FA, SL, Nat.reduceSub, Nat.reduceAdd, AP, PAR, AB, LS, OI, EQ, IX, TD, eqK, if_true, if_false, Bool.not_true, Bool.not_false, Bool.false_eq_true, List.take_length, exit_bl, exit_int, exit_non, exit_str, decide_true, decide_false, Option.isNone_some, Option.isSome_some, Option.isNone_none, Option.isSome_none, Bool.true_and, isi_tup (sm_pk hr)]
            cases r with
            | tup rs =>
              have hrs : ∀ t ∈ rs, sm t = true := by
                rw [sm] at hr
                exact smL_all.mp hr
              simp only [FA, SL, Nat.reduceSub, Nat.reduceAdd, AP, PAR, AB, LS, OI, EQ, IX, TD, eqK, if_true, if_false, Bool.not_true, Bool.not_false, Bool.false_eq_true, List.take_length, exit_bl, exit_int, exit_non, exit_str, decide_true, decide_false, isT, roundsD, Bool.true_and]
              by_cases h0 : 0 < rs.length
              · have d0 : decide ((0 : Int) < ((rs.length : Nat) : Int)) = true := by rw [decide_eq_true_eq]; omega
                by_cases h5 : rs.length ≤ 5
                · have d5 : decide (((rs.length : Nat) : Int) ≤ 5) = true := by rw [decide_eq_true_eq]; omega
                  have e1 : ∀ r0 : Rho, 5 < r0.length → lcD (gNm 5) xYes (xOp isntD (xCall F_read_clauses (xaCons (xVar 5) xaNil)) (xC .non)) r0 (rs.map fun t => t) μ = .ok (.lst (rs.map fun t => .bl (roundD t).isSome)) μ := fun r0 h6 =>
                    lc_map _ _ (fun t ht acc => by
                      simp only [AP, AV, AB, List.getElem?_set_self h6, read_clauses_D (hrs t ht), OI, optR_non]
                      cases roundD t <;> rfl) (fun c _ => rfl) (Nat.le_trans h5 (by decide))
                  rw [List.map_id'] at e1
                  simp only [FA, SL, Nat.reduceSub, Nat.reduceAdd, AP, PAR, AB, LS, OI, EQ, IX, TD, eqK, if_true, if_false, Bool.not_true, Bool.not_false, Bool.false_eq_true, List.take_length, exit_bl, exit_int, exit_non, exit_str, decide_true, decide_false, d0, d5, h0, h5, wipeR, e1 _ (show 5 < List.length [_, _, _, _, _, _] by simp), all_map, Bool.true_and]
                · have d5 : decide (((rs.length : Nat) : Int) ≤ 5) = false := by rw [decide_eq_false_iff_not]; omega
                  simp only [FA, SL, Nat.reduceSub, Nat.reduceAdd, AP, PAR, AB, LS, OI, EQ, IX, TD, eqK, if_true, if_false, Bool.not_true, Bool.not_false, Bool.false_eq_true, List.take_length, exit_bl, exit_int, exit_non, exit_str, decide_true, decide_false, d0, d5, h0, h5, Bool.false_and, Bool.and_false]
              · have d0 : decide ((0 : Int) < ((rs.length : Nat) : Int)) = false := by rw [decide_eq_false_iff_not]; omega
                simp only [FA, SL, Nat.reduceSub, Nat.reduceAdd, AP, PAR, AB, LS, OI, EQ, IX, TD, eqK, if_true, if_false, Bool.not_true, Bool.not_false, Bool.false_eq_true, List.take_length, exit_bl, exit_int, exit_non, exit_str, decide_true, decide_false, d0, h0, Bool.false_and, Bool.and_false]
            | _ => simp only [FA, SL, Nat.reduceSub, Nat.reduceAdd, AP, PAR, AB, LS, OI, EQ, IX, TD, eqK, if_true, if_false, Bool.not_true, Bool.not_false, Bool.false_eq_true, List.take_length, exit_bl, exit_int, exit_non, exit_str, decide_true, decide_false, isT, Bool.false_and]
  | _ => exact other rfl
end J

/-! # GF: the first plan that is none, books -/
namespace J
open PySem PySem.Spec PyProof.Rows L2 DS
open SX (S)
theorem any_w {g : List Nat} : ∀ {ns : List (List Nat)}, ((ns.map wD).any fun y => eqF y (wD g)) = decide (g ∈ ns)
  | [] => by simp
  | n :: ns => by
    rw [List.map_cons, List.any_cons, any_w]
    show ((S n == S g) || _) = _
    rw [SX.S_beq_eq]
    by_cases e : n = g
    · subst e; simp
    · by_cases e2 : g ∈ ns
      · simp [e2]
      · have : g ≠ n := fun z => e z.symm
        simp [e, e2, this]
theorem flat_w (ns : List (List Nat)) : (ns.map wD).all flatD = true := by
  rw [List.all_map, List.all_eq_true]
  intros
  rfl
theorem in_lstW {g : List Nat} {ns : List (List Nat)} (m : Mu) : DS.inB m (wD g) (.lst (ns.map wD)) = some (decide (g ∈ ns)) := by
  show (if flatD (wD g) && (ns.map wD).all flatD then some ((ns.map wD).any fun y => eqF y (wD g)) else none) = _
  rw [flat_w, any_w]
  rfl
theorem in_tupW {g : List Nat} {ns : List (List Nat)} (m : Mu) : DS.inB m (wD g) (.tup (ns.map wD)) = some (decide (g ∈ ns)) := by
  show (if flatD (wD g) && (ns.map wD).all flatD then some ((ns.map wD).any fun y => eqF y (wD g)) else none) = _
  rw [flat_w, any_w]
  rfl
theorem in_locW {g : List Nat} {n : Nat} {ns : List (List Nat)} {m : Mu} (hm : m[n]? = some (.lst (ns.map wD))) : DS.inB m (wD g) (.loc n) = some (decide (g ∈ ns)) := by
  show (match lstOf m (.loc n) with
    | some xs => if flatD (wD g) && xs.all flatD then some (xs.any fun y => eqF y (wD g)) else none
    | none => none) = _
  rw [show lstOf m (.loc n) = some (ns.map wD) by unfold lstOf; simp only [hm]]
  show (if flatD (wD g) && (ns.map wD).all flatD then some ((ns.map wD).any fun y => eqF y (wD g)) else none) = _
  rw [flat_w, any_w]
  rfl
theorem loop_hitI {g : XG} {body : XS} (I : Nat → Rho → Mu → Prop) (v : D) (P : Mu → Prop) : ∀ {xs : List D} {j : Nat} {r : Rho} {m : Mu}, I j r m → ∀ (k : Nat), k < xs.length → (∀ i x r m, xs[i]? = some x → i < k → I (j + i) r m → ∃ r1 m1 r2 m2, g x r m = .ok r1 m1 ∧ body r1 m1 = .next r2 m2 ∧ I (j + i + 1) r2 m2) →
    (∀ x r m, xs[k]? = some x → I (j + k) r m → ∃ r1 m1 m2, g x r m = .ok r1 m1 ∧ body r1 m1 = .ret v m2 ∧ P m2) → ∃ m', loopF g body xs r m = .ret v m' ∧ P m'
  | [], j, r, m, h, k, hk, _, _ => by simp at hk
  | x :: xs, j, r, m, h, 0, hk, _, hh => by
    obtain ⟨r1, m1, m2, h1, h2, h3⟩ := hh x r m rfl h
    refine ⟨m2, ?_, h3⟩
    rw [loopF, h1]
    simp only [AB, h2]
  | x :: xs, j, r, m, h, k + 1, hk, hn, hh => by
    obtain ⟨r1, m1, r2, m2, h1, h2, h3⟩ := hn 0 x r m rfl (by omega) h
    obtain ⟨m', h4, h5⟩ := loop_hitI I v P (j := j + 1) h3 k (by simpa using hk) (fun i y r m hy hi hI => by
      have := hn (i + 1) y r m hy (by omega) (by rw [show j + (i + 1) = j + 1 + i by omega]; exact hI)
      rw [show j + (i + 1) + 1 = j + 1 + i + 1 by omega] at this
      exact this) fun y r m hy hI => hh y r m hy (by rw [show j + (k + 1) = j + 1 + k by omega]; exact hI)
    refine ⟨m', ?_, h5⟩
    rw [loopF, h1]
    simp only [AB, h2]
    exact h4
theorem enum_len : ∀ (b : Nat) (xs : List D), (enumL b xs).length = xs.length
  | _, [] => rfl
  | b, x :: r => by rw [enumL, List.length_cons, List.length_cons, enum_len]
def nameOf : D → List Nat
  | .tup (.str x :: _) => TL.tl x
  | _ => []
def roundsOf : D → List D
  | .tup [_, _, _, .tup rs] => rs
  | _ => []
/-- a plan that is none by itself, or has a name that was there -/
def cA (ds : List D) (k : Nat) : Bool := decide (k = 4) || (!planD (ds.getD k .non) || decide (nameOf (ds.getD k .non) ∈ (ds.take k).map nameOf))
def stD (names above : List (List Nat)) (d : D) : Option (List Cu) := stands names above (roundD d)
/-- a plan with a round that cannot stand there -/
def cB (ds : List D) (k : Nat) : Bool := (roundsOf (ds.getD k .non)).any fun t => (stD (ds.map nameOf) ((ds.map nameOf).take (k + 1)) t).isNone
def badL (ds : List D) : Option Nat := match (List.range ds.length).find? (cA ds) with
  | some k => some k
  | none => (List.range ds.length).find? (cB ds)
theorem plan_shape {d : D} (h : planD d = true) : ∃ x g b rs, d = .tup [.str x, g, b, .tup rs] ∧ 0 < rs.length ∧ rs.length ≤ 5 := by
  unfold planD at h
  split at h
  · rename_i n g b rs
    simp only [Bool.and_eq_true, decide_eq_true_eq] at h
    obtain ⟨h1, _, _, h4, h5, _⟩ := h
    cases n with
    | str x => exact ⟨x, g, b, rs, rfl, h4, h5⟩
    | _ => simp [nameD] at h1
  · cases h
theorem read_round_D {d : D} (h : sm d = true) {names above : List (List Nat)} {nd ad : D} {μ : Mu} (hN : ∀ g, DS.inB μ (wD g) nd = some (decide (g ∈ names))) (hA : ∀ g, DS.inB μ (wD g) ad = some (decide (g ∈ above))) :
    F_read_round [d, nd, ad] μ = .ok (optR (stD names above d)) μ := by
  cases d with
  | str x =>
    rw [str_S]
    exact read_round_ok (sm_str h) hN hA
  | _ => simp only [FA, SL, Nat.reduceSub, Nat.reduceAdd, AP, PAR, AB, LS, OI, EQ, IX, TD, eqK, if_true, if_false, Bool.not_true, Bool.not_false, Bool.false_eq_true, List.take_length, exit_bl, exit_int, exit_non, exit_str, decide_true, decide_false, F_read_round, B_read_round, read_clauses_D h, stD, roundD, optR, stands, isNonD]
theorem find_none {n : Nat} {p : Nat → Bool} : (List.range n).find? p = none ↔ ∀ i < n, p i = false := by
  rw [List.find?_eq_none]
  simp
theorem find_some {n k : Nat} {p : Nat → Bool} (h : (List.range n).find? p = some k) : k < n ∧ p k = true ∧ ∀ i < k, p i = false := by
  rw [List.find?_range_eq_some] at h
  obtain ⟨h1, h2, h3⟩ := h
  exact ⟨List.mem_range.mp h2, h1, fun i hi => by simpa using h3 i hi⟩
abbrev bodyA : XS := (sSeq (sIf (xOrT (xTest (xOp eqD (xVar 2) (xC (.int 4)))) (xOrT (xNotT (xTest (xCall F_is_plan (xaCons (xVar 3) xaNil)))) (xTest (xOp inD (xOp ixD (xVar 3) (xC (.int 0))) (xVar 1))))) (sRet (xVar 2)) sNil)
  (sExpr (xBM "list" appF (xVar 1) (xaCons (xOp ixD (xVar 3) (xC (.int 0))) xaNil))))
abbrev bodyB : XS := (sIf (xTest (xCall anyF (xaCons (xLc (xiSeq (xOp ixD (xVar 3) (xC (.int 3)))) [4] (gNm 4) xYes (xOp isD (xCall F_read_round (xaCons (xVar 4) (xaCons (xVar 1) (xaCons (xSl (xVar 1) xoN (xoS (xOp addD (xVar 2) (xC (.int 1))))) xaNil)))) (xC .non))) xaNil))) (sRet (xVar 2)) sNil)
theorem first_invalid_ok {ds : List D} (hs : smL ds = true) (hl : ds.length ≤ sizeLine) (μ : Mu) : F_first_invalid [.tup ds] μ = .ok (optN (badL ds)) μ := by
  have hsm := smL_all.mp hs
  let I : Nat → Rho → Mu → Prop := fun k r m => k ≤ ds.length ∧ (∃ a b, r = [some (.tup ds), some (.loc μ.length), a, b, none]) ∧ m = μ ++ [.lst (((ds.take k).map nameOf).map wD)]
  have i0 : I 0 [some (.tup ds), some (.loc μ.length), none, none, none] (μ ++ [.lst []]) := ⟨Nat.zero_le _, ⟨_, _, rfl⟩, rfl⟩
  have turnA : ∀ (k : Nat) (x : D) (r : Rho) (m : Mu), (enumL 0 ds)[k]? = some x → I k r m → ∃ r1, gTp 2 (gsCons (gNm 2) (gsCons (gNm 3) gsNil)) x r m = .ok r1 m ∧ (if cA ds k = true then bodyA r1 m = .ret (.int (k : Nat)) m else ∃ m2, bodyA r1 m = .next r1 m2 ∧ I (k + 1) r1 m2) := fun k x r m hx hI => by
    obtain ⟨hk, ⟨a, b, rfl⟩, rfl⟩ := hI
    rw [enum_get, Nat.zero_add] at hx
    cases hd : ds[k]? with
    | none => rw [hd] at hx; cases hx
    | some d =>
      rw [hd] at hx
      cases hx
      obtain ⟨hkl, hdk⟩ := List.getElem?_eq_some_iff.mp hd
      have hg : ds.getD k .non = d := by rw [List.getD_eq_getElem?_getD, hd]; rfl
      have hsd : sm d = true := hsm d (List.mem_of_getElem? hd)
      refine ⟨[some (.tup ds), some (.loc μ.length), some (.int (k : Nat)), some d, none], by simp only [FA, SL, Nat.reduceSub, Nat.reduceAdd, AP, PAR, AB, LS, OI, EQ, IX, TD, eqK, if_true, if_false, Bool.not_true, Bool.not_false, Bool.false_eq_true, List.take_length, exit_bl, exit_int, exit_non, exit_str, decide_true, decide_false], ?_⟩
      have e4 : (((k : Nat) : Int) == 4) = decide (k = 4) := by
        by_cases z : k = 4
        · rw [z]; rfl
        · rw [decide_eq_false z, beq_eq_false_iff_ne]; omega
      unfold cA bodyA
      rw [hg]
      simp only [FA, SL, Nat.reduceSub, Nat.reduceAdd, AP, PAR, AB, LS, OI, EQ, IX, TD, eqK, if_true, if_false, Bool.not_true, Bool.not_false, Bool.false_eq_true, List.take_length, exit_bl, exit_int, exit_non, exit_str, decide_true, decide_false, e4, is_plan_ok hsd]
      by_cases h4 : k = 4
      · simp only [FA, SL, Nat.reduceSub, Nat.reduceAdd, AP, PAR, AB, LS, OI, EQ, IX, TD, eqK, if_true, if_false, Bool.not_true, Bool.not_false, Bool.false_eq_true, List.take_length, exit_bl, exit_int, exit_non, exit_str, decide_true, decide_false, h4, Bool.true_or]
      · simp only [FA, SL, Nat.reduceSub, Nat.reduceAdd, AP, PAR, AB, LS, OI, EQ, IX, TD, eqK, if_true, if_false, Bool.not_true, Bool.not_false, Bool.false_eq_true, List.take_length, exit_bl, exit_int, exit_non, exit_str, decide_true, decide_false, h4, Bool.false_or]
        cases hp : planD d
        · simp only [FA, SL, Nat.reduceSub, Nat.reduceAdd, AP, PAR, AB, LS, OI, EQ, IX, TD, eqK, if_true, if_false, Bool.not_true, Bool.not_false, Bool.false_eq_true, List.take_length, exit_bl, exit_int, exit_non, exit_str, decide_true, decide_false, Bool.true_or]
        · obtain ⟨x, g, bb, rs, rfl, _, _⟩ := plan_shape hp
          have hin : DS.inB (μ ++ [.lst (((ds.take k).map nameOf).map wD)]) (.str x) (.loc μ.length) = some (decide (TL.tl x ∈ (ds.take k).map nameOf)) := by
            rw [str_S]
            exact in_locW last_get
          simp only [FA, SL, Nat.reduceSub, Nat.reduceAdd, AP, PAR, AB, LS, OI, EQ, IX, TD, eqK, if_true, if_false, Bool.not_true, Bool.not_false, Bool.false_eq_true, List.take_length, exit_bl, exit_int, exit_non, exit_str, decide_true, decide_false, inD, hin, nameOf, Bool.false_or]
          by_cases hm : TL.tl x ∈ (ds.take k).map nameOf
          · simp only [FA, SL, Nat.reduceSub, Nat.reduceAdd, AP, PAR, AB, LS, OI, EQ, IX, TD, eqK, if_true, if_false, Bool.not_true, Bool.not_false, Bool.false_eq_true, List.take_length, exit_bl, exit_int, exit_non, exit_str, decide_true, decide_false, hm]
          · simp only [FA, SL, Nat.reduceSub, Nat.reduceAdd, AP, PAR, AB, LS, OI, EQ, IX, TD, eqK, if_true, if_false, Bool.not_true, Bool.not_false, Bool.false_eq_true, List.take_length, exit_bl, exit_int, exit_non, exit_str, decide_true, decide_false, hm]
            refine ⟨μ ++ [.lst (((ds.take (k + 1)).map nameOf).map wD)], ?_, by omega, ⟨_, _, rfl⟩, rfl⟩
            have ht : tyD "list" (μ ++ [.lst (((ds.take k).map nameOf).map wD)]) (.loc μ.length) = true := by
              show ("list" == "list" && (lstOf (μ ++ [.lst (((ds.take k).map nameOf).map wD)]) (.loc μ.length)).isSome) = true
              unfold lstOf
              simp only [last_get]
              rfl
            have hap : appF [.loc μ.length, .str x] (μ ++ [.lst (((ds.take k).map nameOf).map wD)]) = .ok .non (μ ++ [.lst (((ds.take (k + 1)).map nameOf).map wD)]) := by
              show (pushD μ.length (.str x) _).bind _ = _
              unfold pushD
              simp only [last_get]
              rw [if_pos ⟨rfl, by rw [List.length_map, List.length_map, List.length_take]; omega⟩, last_set]
              have e : ds.take (k + 1) = ds.take k ++ [.tup [.str x, g, bb, .tup rs]] := by rw [List.take_succ, hd]; rfl
              rw [e, List.map_append, List.map_append]
              simp only [AB, List.map_cons, List.map_nil, nameOf]
              rw [str_S x]
              rfl
            simp only [ht, if_true, hap, AB]
  have hfull : ds.take ds.length = ds := List.take_length
  unfold badL
  cases hA : (List.range ds.length).find? (cA ds) with
  | some k =>
    obtain ⟨hk, hc, hmin⟩ := find_some hA
    obtain ⟨m', e, c, hm'⟩ := loop_hitI (g := gTp 2 (gsCons (gNm 2) (gsCons (gNm 3) gsNil))) (body := bodyA) (xs := enumL 0 ds) I (.int (k : Nat)) (fun m => ∃ c, m = μ ++ [c]) i0 k (by rw [enum_len]; exact hk) (fun i x r m hx hi hI => by
      rw [Nat.zero_add] at hI ⊢
      obtain ⟨r1, h1, h2⟩ := turnA i x r m hx hI
      rw [if_neg (by rw [hmin i hi]; exact Bool.false_ne_true)] at h2
      obtain ⟨m2, h2, h3⟩ := h2
      exact ⟨r1, m, r1, m2, h1, h2, h3⟩) (fun x r m hx hI => by
      rw [Nat.zero_add] at hI
      obtain ⟨r1, h1, h2⟩ := turnA k x r m hx hI
      rw [if_pos hc] at h2
      exact ⟨r1, m, m, h1, h2, _, hI.2.2⟩)
    subst hm'
    simp only [FA, SL, Nat.reduceSub, Nat.reduceAdd, AP, PAR, AB, LS, OI, EQ, IX, TD, eqK, if_true, if_false, Bool.not_true, Bool.not_false, Bool.false_eq_true, List.take_length, exit_bl, exit_int, exit_non, exit_str, decide_true, decide_false, F_first_invalid, B_first_invalid, D.inL, e, optN, last_take]
  | none =>
    have hno := find_none.mp hA
    obtain ⟨r', m', e, hk, ⟨a, b, rfl⟩, hm'⟩ := loop_inv (g := gTp 2 (gsCons (gNm 2) (gsCons (gNm 3) gsNil))) (body := bodyA) (xs := enumL 0 ds) I i0 (fun i x r m hx hI => by
      rw [Nat.zero_add] at hI ⊢
      obtain ⟨r1, h1, h2⟩ := turnA i x r m hx hI
      have hil : i < ds.length := by
        have := (List.getElem?_eq_some_iff.mp hx).1
        rw [enum_len] at this
        exact this
      rw [if_neg (by rw [hno i hil]; exact Bool.false_ne_true)] at h2
      obtain ⟨m2, h2, h3⟩ := h2
      exact ⟨r1, m, r1, m2, h1, h2, h3⟩)
    rw [enum_len, Nat.zero_add, hfull] at hm'
    subst hm'
    let J' : Rho → Prop := fun r => ∃ a b, r = [some (.tup ds), some (.loc μ.length), a, b, none]
    have turnB : ∀ (k : Nat) (x : D), (enumL 0 ds)[k]? = some x → ∀ r, J' r → ∃ r1, J' r1 ∧ gTp 2 (gsCons (gNm 2) (gsCons (gNm 3) gsNil)) x r (μ ++ [Cell.lst ((ds.map nameOf).map wD)]) = .ok r1 (μ ++ [Cell.lst ((ds.map nameOf).map wD)]) ∧ bodyB r1 (μ ++ [Cell.lst ((ds.map nameOf).map wD)]) = if cB ds k = true then .ret (.int (k : Nat)) (μ ++ [Cell.lst ((ds.map nameOf).map wD)]) else .next r1 (μ ++ [Cell.lst ((ds.map nameOf).map wD)]) := fun k x hx r hr => by
      obtain ⟨a, b, rfl⟩ := hr
      rw [enum_get, Nat.zero_add] at hx
      cases hd : ds[k]? with
      | none => rw [hd] at hx; cases hx
      | some d =>
        rw [hd] at hx
        cases hx
        obtain ⟨hkl, hdk⟩ := List.getElem?_eq_some_iff.mp hd
        have hg : ds.getD k .non = d := by rw [List.getD_eq_getElem?_getD, hd]; rfl
        have hsd : sm d = true := hsm d (List.mem_of_getElem? hd)
        have hpd : planD d = true := by
          have := hno k hkl
          unfold cA at this
          rw [hg] at this
          cases q : planD d
          · rw [q] at this; simp at this
          · rfl
        obtain ⟨x, g, bb, rs, rfl, h0, h5⟩ := plan_shape hpd
        have hrs : ∀ t ∈ rs, sm t = true := by
          simp only [sm, smL, Bool.and_eq_true, and_true] at hsd
          exact smL_all.mp hsd.2.2.2
        refine ⟨[some (.tup ds), some (.loc μ.length), some (.int (k : Nat)), some (.tup [.str x, g, bb, .tup rs]), none], ⟨_, _, rfl⟩, by simp only [FA, SL, Nat.reduceSub, Nat.reduceAdd, AP, PAR, AB, LS, OI, EQ, IX, TD, eqK, if_true, if_false, Bool.not_true, Bool.not_false, Bool.false_eq_true, List.take_length, exit_bl, exit_int, exit_non, exit_str, decide_true, decide_false], ?_⟩
        have e1 : lcD (gNm 4) xYes (xOp isD (xCall F_read_round (xaCons (xVar 4) (xaCons (xVar 1) (xaCons (xSl (xVar 1) xoN (xoS (xOp addD (xVar 2) (xC (.int 1))))) xaNil)))) (xC .non)) [some (.tup ds), some (.loc μ.length), some (.int (k : Nat)), some (.tup [.str x, g, bb, .tup rs]), none] (rs.map fun t => t) (μ ++ [Cell.lst ((ds.map nameOf).map wD)]) = .ok (.lst (rs.map fun t => .bl (stD (ds.map nameOf) ((ds.map nameOf).take (k + 1)) t).isNone)) (μ ++ [Cell.lst ((ds.map nameOf).map wD)]) :=
          lc_map _ _ (fun t ht acc => by
            have hget : ((μ ++ [Cell.lst ((ds.map nameOf).map wD)]) ++ [Cell.lst acc])[μ.length]? = some (.lst ((ds.map nameOf).map wD)) := by
              rw [List.getElem?_append_left (by simp), last_get]
            have hsl : slD (.loc μ.length) none (some (((k : Nat) : Int) + 1)) ((μ ++ [Cell.lst ((ds.map nameOf).map wD)]) ++ [Cell.lst acc]) = .ok (.lst (((ds.map nameOf).take (k + 1)).map wD)) ((μ ++ [Cell.lst ((ds.map nameOf).map wD)]) ++ [Cell.lst acc]) := by
              show (match lstOf ((μ ++ [Cell.lst ((ds.map nameOf).map wD)]) ++ [Cell.lst acc]) (.loc μ.length) with
                | some xs => Out.ok (D.lst (DS.cutD xs none (some (((k : Nat) : Int) + 1)))) ((μ ++ [Cell.lst ((ds.map nameOf).map wD)]) ++ [Cell.lst acc])
                | none => .stuck) = _
              rw [show lstOf ((μ ++ [Cell.lst ((ds.map nameOf).map wD)]) ++ [Cell.lst acc]) (.loc μ.length) = some ((ds.map nameOf).map wD) by unfold lstOf; simp only [hget]]
              show Out.ok (D.lst (DS.cutD ((ds.map nameOf).map wD) none (some (((k : Nat) : Int) + 1)))) _ = _
              rw [show (((k : Nat) : Int) + 1) = ((k + 1 : Nat) : Int) by omega, cut_to', List.map_take]
            have hrr := read_round_D (hrs t ht) (μ := (μ ++ [Cell.lst ((ds.map nameOf).map wD)]) ++ [Cell.lst acc]) (nd := .loc μ.length) (ad := .lst (((ds.map nameOf).take (k + 1)).map wD)) (fun g => in_locW hget) (fun g => in_lstW _)
            simp only [FA, SL, Nat.reduceSub, Nat.reduceAdd, AP, PAR, AB, LS, OI, EQ, IX, TD, eqK, if_true, if_false, Bool.not_true, Bool.not_false, Bool.false_eq_true, List.take_length, exit_bl, exit_int, exit_non, exit_str, decide_true, decide_false, hsl, hrr, optR_non]) (fun _ _ => rfl) (Nat.le_trans h5 (by decide))
        rw [List.map_id'] at e1
        unfold bodyB cB
        rw [hg]
        simp only [FA, SL, Nat.reduceSub, Nat.reduceAdd, AP, PAR, AB, LS, OI, EQ, IX, TD, eqK, if_true, if_false, Bool.not_true, Bool.not_false, Bool.false_eq_true, List.take_length, exit_bl, exit_int, exit_non, exit_str, decide_true, decide_false, wipeR, e1, any_map, roundsOf]
        rfl
    cases hB : (List.range ds.length).find? (cB ds) with
    | some k =>
      obtain ⟨hk, hc, hmin⟩ := find_some hB
      have e2 := loop_hit (μ := (μ ++ [Cell.lst ((ds.map nameOf).map wD)])) (g := gTp 2 (gsCons (gNm 2) (gsCons (gNm 3) gsNil))) (body := bodyB) (xs := enumL 0 ds) J' (.int (k : Nat)) (r := [some (.tup ds), some (.loc μ.length), a, b, none]) ⟨_, _, rfl⟩ k (by rw [enum_len]; exact hk) (fun i x hx hi r hr => by
        obtain ⟨r1, h1, h2, h3⟩ := turnB i x hx r hr
        rw [if_neg (by rw [hmin i hi]; exact Bool.false_ne_true)] at h3
        exact ⟨r1, r1, h2, h3, h1⟩) (fun x hx r hr => by
        obtain ⟨r1, h1, h2, h3⟩ := turnB k x hx r hr
        rw [if_pos hc] at h3
        exact ⟨r1, h2, h3⟩)
      simp only [FA, SL, Nat.reduceSub, Nat.reduceAdd, AP, PAR, AB, LS, OI, EQ, IX, TD, eqK, if_true, if_false, Bool.not_true, Bool.not_false, Bool.false_eq_true, List.take_length, exit_bl, exit_int, exit_non, exit_str, decide_true, decide_false, F_first_invalid, B_first_invalid, D.inL, e, e2, optN, last_take]
    | none =>
      have hnoB := find_none.mp hB
      obtain ⟨r2, e2, a2, b2, rfl⟩ := loop_keep (μ := (μ ++ [Cell.lst ((ds.map nameOf).map wD)])) (g := gTp 2 (gsCons (gNm 2) (gsCons (gNm 3) gsNil))) (body := bodyB) (xs := enumL 0 ds) J' (r := [some (.tup ds), some (.loc μ.length), a, b, none]) ⟨_, _, rfl⟩ (fun x hx r hr => by
        obtain ⟨i, hi⟩ := List.getElem?_of_mem hx
        have hil : i < ds.length := by
          have := (List.getElem?_eq_some_iff.mp hi).1
          rw [enum_len] at this
          exact this
        obtain ⟨r1, h1, h2, h3⟩ := turnB i x hi r hr
        rw [if_neg (by rw [hnoB i hil]; exact Bool.false_ne_true)] at h3
        exact ⟨r1, r1, h2, h3, h1⟩)
      simp only [FA, SL, Nat.reduceSub, Nat.reduceAdd, AP, PAR, AB, LS, OI, EQ, IX, TD, eqK, if_true, if_false, Bool.not_true, Bool.not_false, Bool.false_eq_true, List.take_length, exit_bl, exit_int, exit_non, exit_str, decide_true, decide_false, F_first_invalid, B_first_invalid, D.inL, e, e2, optN, last_take]
end J

/-! # GG: books -/
namespace J
open PySem PySem.Spec PyProof.Rows L2 DS
open SX (S)
/-- the plans of a book -/
structure Good (ds : List D) : Prop where
  sm : smL ds = true
  len0 : 0 < ds.length
  bad : badL ds = none
theorem Good.A {ds : List D} (h : Good ds) : ∀ i < ds.length, cA ds i = false := by
  have q := h.bad
  unfold badL at q
  split at q
  · cases q
  · rename_i e
    exact find_none.mp e
theorem Good.B {ds : List D} (h : Good ds) : ∀ i < ds.length, cB ds i = false := by
  have q := h.bad
  unfold badL at q
  split at q
  · cases q
  · exact find_none.mp q
theorem getD_at {α : Type} {xs : List α} {i : Nat} {x d : α} (h : xs[i]? = some x) : xs.getD i d = x := by
  rw [List.getD_eq_getElem?_getD, h]; rfl
theorem Good.len {ds : List D} (h : Good ds) : ds.length ≤ 4 := by
  apply Decidable.byContradiction
  intro z
  have := h.A 4 (by omega)
  simp [cA] at this
theorem Good.plan {ds : List D} (h : Good ds) {d : D} (hd : d ∈ ds) : planD d = true := by
  obtain ⟨i, hi⟩ := List.getElem?_of_mem hd
  have := h.A i (List.getElem?_eq_some_iff.mp hi).1
  unfold cA at this
  rw [getD_at hi] at this
  cases q : planD d
  · rw [q] at this; simp at this
  · rfl
theorem Good.nodup {ds : List D} (h : Good ds) : (ds.map nameOf).Nodup := by
  rw [List.Nodup, List.pairwise_iff_getElem]
  intro i j hi hj hij e
  rw [List.length_map] at hi hj
  have := h.A j hj
  unfold cA at this
  rw [getD_at (List.getElem?_eq_getElem hj), Bool.or_eq_false_iff, Bool.or_eq_false_iff, decide_eq_false_iff_not] at this
  refine of_decide_eq_false this.2.2 ?_
  rw [List.getElem_map, List.getElem_map] at e
  rw [← e]
  exact List.mem_map.mpr ⟨ds[i], by
    rw [List.mem_iff_getElem]
    exact ⟨i, by rw [List.length_take]; omega, by rw [List.getElem_take]⟩, rfl⟩
def progD (d : D) : D := .lst ((roundsOf d).map fun t => optR (roundD t))
theorem progD_in (d : D) (n : Nat) : (progD d).inB n = true := by
  rw [progD, D.inB]
  exact inL_map _ _ _ fun t _ => optR_in _ _
def bookD (ds : List D) : D := .obj "Book" [("held", .tup ds), ("parsed", .dct (ds.map fun d => (S (nameOf d), progD d)))]
theorem bookD_in {ds : List D} (h : smL ds = true) (n : Nat) : (bookD ds).inB n = true := by
  rw [bookD, D.inB, D.inF, D.inF, D.inF, D.inB, D.inB, smL_in n h]
  simp only [Bool.true_and, Bool.and_true]
  exact inF_map _ _ _ _ fun d _ => progD_in _ _
theorem plan_parts {d : D} (h : planD d = true) (hs : sm d = true) : ∃ g b rs, d = .tup [wD (nameOf d), g, b, .tup rs] ∧ roundsOf d = rs ∧ 0 < rs.length ∧ rs.length ≤ 5 ∧ (∀ t ∈ rs, sm t = true ∧ (roundD t).isSome = true) ∧ nameL (nameOf d) = true ∧ sm g = true ∧ (goalD g).isSome = true ∧ btw b 1 4 = true := by
  obtain ⟨x, g, b, rs, rfl, h0, h5⟩ := plan_shape h
  have hp : planD (.tup [.str x, g, b, .tup rs]) = (nameD (.str x) && ((goalD g).isSome && (btw b 1 4 && (decide (0 < rs.length) && (decide (rs.length ≤ 5) && rs.all fun t => (roundD t).isSome))))) := rfl
  rw [hp] at h
  simp only [Bool.and_eq_true, decide_eq_true_eq] at h
  simp only [sm, smL, Bool.and_eq_true, and_true] at hs
  refine ⟨g, b, rs, ?_, rfl, h0, h5, fun t ht => ⟨smL_all.mp hs.2.2.2 t ht, List.all_eq_true.mp h.2.2.2.2.2 t ht⟩, h.1, hs.2.1, h.2.1, h.2.2.1⟩
  show _ = D.tup [wD (TL.tl x), _, _, _]
  unfold wD
  rw [← str_S]
theorem book_ok {ds : List D} (h : Good ds) (μ : Mu) : makeD "Book" F_Book_D_initD_ true [.tup ds] μ = .ok (bookD ds) μ := by
  have hl4 := h.len
  have hsm := smL_all.mp h.sm
  have e0 : ∀ (ν : Mu) (rs : List D), (∀ t ∈ rs, sm t = true) → rs.length ≤ 5 → ∀ r0 : Rho, 4 < r0.length → lcD (gNm 4) xYes (xCall F_read_clauses (xaCons (xVar 4) xaNil)) r0 rs ν = .ok (.lst (rs.map fun t => optR (roundD t))) ν := fun ν rs hrs hl r0 h5 => by
    have q := lc_map (i := 4) (te := xCall F_read_clauses (xaCons (xVar 4) xaNil)) (r0 := r0) (μ := ν) (fun t : D => t) (fun t => optR (roundD t)) (xs := rs) (fun t ht acc => by
      simp only [AP, AV, AB, List.getElem?_set_self h5, read_clauses_D (hrs t ht)]) (fun t _ => optR_in _ _) (Nat.le_trans hl (by decide))
    rw [List.map_id'] at q
    exact q
  have e1 : ∀ gs : List (Str × D), (dcF (gNm 3) (xOp ixD (xVar 3) (xC (.int 0))) (xLc (xiSeq (xOp ixD (xVar 3) (xC (.int 3)))) [4] (gNm 4) xYes (xCall F_read_clauses (xaCons (xVar 4) xaNil))) (μ ++ [Cell.ins "Book" gs]).length [some (.loc μ.length), some (.tup ds), some .non, none, none] ds ((μ ++ [Cell.ins "Book" gs]) ++ [Cell.dct []])).bind (fun _ m2 => dcEnd (μ ++ [Cell.ins "Book" gs]).length m2) = .ok (.dct (ds.map fun d => (S (nameOf d), progD d))) (μ ++ [Cell.ins "Book" gs]) := fun gs => by
    have q := dc_map (μ := μ ++ [Cell.ins "Book" gs]) (i := 3) (tk := xOp ixD (xVar 3) (xC (.int 0))) (te := xLc (xiSeq (xOp ixD (xVar 3) (xC (.int 3)))) [4] (gNm 4) xYes (xCall F_read_clauses (xaCons (xVar 4) xaNil))) (r0 := [some (.loc μ.length), some (.tup ds), some .non, none, none]) (fun d : D => d) (fun d => S (nameOf d)) progD (xs := ds) (fun d hd acc => by
      obtain ⟨g, b, rs, e, _⟩ := plan_parts (h.plan hd) (hsm d hd)
      rw [e]
      simp only [FA, SL, Nat.reduceSub, Nat.reduceAdd, AP, PAR, AB, LS, OI, EQ, IX, TD, eqK, if_true, if_false, Bool.not_true, Bool.not_false, Bool.false_eq_true, List.take_length, exit_bl, exit_int, exit_non, exit_str, decide_true, decide_false, wD]
      rfl) (fun d hd acc => by
      obtain ⟨g, b, rs, e, e2, _, h5, h6, _⟩ := plan_parts (h.plan hd) (hsm d hd)
      unfold progD
      rw [e2]
      rw [e]
      simp only [FA, SL, Nat.reduceSub, Nat.reduceAdd, AP, PAR, AB, LS, OI, EQ, IX, TD, eqK, if_true, if_false, Bool.not_true, Bool.not_false, Bool.false_eq_true, List.take_length, exit_bl, exit_int, exit_non, exit_str, decide_true, decide_false, wipeR, e0 _ rs (fun t ht => (h6 t ht).1) h5 _ (show 4 < List.length [_, _, _, _, _] by simp)]) (fun d _ => progD_in _ _) (by
      have q := h.nodup
      rw [List.Nodup, List.pairwise_map] at q
      exact q.imp fun {a b} hab => by rw [SX.S_beq_eq, decide_eq_false_iff_not]; exact hab) (by omega)
    rw [List.map_id'] at q
    exact q
  have e2 : (((ds.length : Nat) : Int) == 0) = false := by
    have := h.len0
    rw [beq_eq_false_iff_ne]
    omega
  have xd : ∀ (f : XA) (vs : List Nat) (g : XG) (tk te : XE') (r : Rho) (m : Mu), xDc f vs g tk te r m = (f r m).bind fun xs m1 => (dcF g tk te m1.length (wipeR r vs) xs (m1 ++ [.dct []])).bind fun _ m2 => dcEnd m1.length m2 := fun _ _ _ _ _ _ _ => rfl
  have sf : ∀ {cn f : Str} {o v : XE'} {r : Rho} {m : Mu}, sFl cn f o v r m = (v r m).stm r fun q m1 => (o r m1).stm r fun od m2 => (putC cn f od q m2).stm r fun _ m3 => .next r m3 := rfl
  have p1 : putC "Book" "held" (.loc μ.length) (.tup ds) (μ ++ [.ins "Book" []]) = .ok () (μ ++ [.ins "Book" [("held", .tup ds)]]) := put_last (by decide) (by rw [D.inB]; exact smL_in _ h.sm)
  have p2 : putC "Book" "parsed" (.loc μ.length) (.dct (ds.map fun d => (S (nameOf d), progD d))) (μ ++ [.ins "Book" [("held", .tup ds)]]) = .ok () (μ ++ [.ins "Book" (putD "parsed" (.dct (ds.map fun d => (S (nameOf d), progD d))) [("held", .tup ds)])]) := put_last (by simp) (by rw [D.inB]; exact inF_map _ _ _ _ fun d _ => progD_in _ _)
  unfold makeD
  simp only [FA, SL, Nat.reduceSub, Nat.reduceAdd, AP, PAR, AB, LS, OI, EQ, IX, TD, eqK, if_true, if_false, Bool.not_true, Bool.not_false, Bool.false_eq_true, List.take_length, exit_bl, exit_int, exit_non, exit_str, decide_true, decide_false, F_Book_D_initD_, B_Book_D_initD_, isi_tup (show Pk (.tup ds) = true from rfl), isT, e2, first_invalid_ok h.sm (Nat.le_trans hl4 (by decide)), h.bad, optN, isNonD, sf, p1, xd, wipeR, e1, p2]
  rw [show (μ ++ [Cell.ins "Book" (putD "parsed" (.dct (ds.map fun d => (S (nameOf d), progD d))) [("held", .tup ds)])]).take (μ ++ [Cell.ins "Book" []]).length = μ ++ [Cell.ins "Book" (putD "parsed" (.dct (ds.map fun d => (S (nameOf d), progD d))) [("held", .tup ds)])] from List.take_of_length_le (by simp)]
  unfold madeD
  simp only [last_get, last_take, if_true]
  rfl
end J

/-! # GH: draws from a purse -/
namespace J
open PySem PySem.Spec PyProof.Rows L2 DS
open SX (S)
theorem cup_ix {n : Nat} {a b c : Int} {m : Mu} (h : m[n]? = some (cupC a b c)) : ixD (.loc n) (.int 0) m = .ok (.int a) m ∧ ixD (.loc n) (.int 1) m = .ok (.int b) m ∧ ixD (.loc n) (.int 2) m = .ok (.int c) m := ⟨ix_loc (i := 0) h rfl, ix_loc (i := 1) h rfl, ix_loc (i := 2) h rfl⟩
theorem draw_ok {n top : Nat} {μ : Mu} (h : Cup n μ) (h0 : 0 < top) (h1 : top < 1073741824) : ∃ (r : Nat) (μ' : Mu), F__law_draw [.loc n, .int top] μ = .ok (.int r) μ' ∧ r < top ∧ Sip n μ μ' := by
  have hl := h.lt
  obtain ⟨a, b, c, e⟩ := h
  have gs : ∀ (x : Cell), (μ.set n x)[n]? = some x := fun x => List.getElem?_set_self hl
  have dv : ∀ {i : Int} {m : Mu}, divD (.int i) (.int 53) m = .ok (.int (i / 53)) m := fun {i m} => rfl
  have dm : ∀ {i : Int} {m : Mu}, dmF [.int i, .int top] m = .ok (.tup [.int (i / top), .int (i % top)]) m := fun {i m} => by
    unfold dmF
    simp only
    rw [if_pos (by omega)]
  let x := (a * (a % 997 + 40014) + 12211 * (c + 1) + 7) % 2147483563
  have m1 : ∀ {m : Mu}, mulD (.int a) (.int (a % 997 + 40014)) m = .ok (.int (a * (a % 997 + 40014))) m := fun {m} => mul_ok' (by
    have := Int.emod_nonneg a (show (997 : Int) ≠ 0 by decide)
    have := Int.emod_lt_of_pos a (show (0 : Int) < 997 by decide)
    omega)
  have m2 : ∀ {i : Int} {m : Mu}, mulD (.int 12211) (.int i) m = .ok (.int (12211 * i)) m := fun {i m} => mul_ok (by decide)
  by_cases hb : 0 < b
  · refine ⟨(b % top).toNat, μ.set n (cupC x (b / top) (c + 1)), ?_, ?_, ⟨_, _, _, rfl⟩⟩
    · have ht : ((b % (top : Int)).toNat : Int) = b % top := Int.toNat_of_nonneg (Int.emod_nonneg _ (by omega))
      simp only [FA, SL, Nat.reduceSub, Nat.reduceAdd, AP, PAR, AB, LS, OI, EQ, IX, TD, eqK, if_true, if_false, Bool.not_true, Bool.not_false, Bool.false_eq_true, List.take_length, exit_bl, exit_int, exit_non, exit_str, decide_true, decide_false, F__law_draw, B__law_draw, (cup_ix e).2.2, (set_cup e).1, (cup_ix (gs _)).1, (cup_ix (gs _)).2.1, (cup_ix (gs _)).2.2, int_ok, md_ok (show (0 : Int) < 997 by decide), m1, m2, md_ok (show (0 : Int) < 2147483563 by decide), (set_cup (gs _)).2.2, List.set_set, decide_eq_true hb, dm, (set_cup (gs _)).2.1, ht]
      rw [List.take_of_length_le (by rw [List.length_set]; exact Nat.le_refl _)]
    · have := Int.emod_lt_of_pos b (show (0 : Int) < top by omega)
      have := Int.emod_nonneg b (show (top : Int) ≠ 0 by omega)
      omega
  · refine ⟨((x / 53) % top).toNat, μ.set n (cupC x b (c + 1)), ?_, ?_, ⟨_, _, _, rfl⟩⟩
    · have ht : (((x / 53) % (top : Int)).toNat : Int) = (x / 53) % top := Int.toNat_of_nonneg (Int.emod_nonneg _ (by omega))
      simp only [FA, SL, Nat.reduceSub, Nat.reduceAdd, AP, PAR, AB, LS, OI, EQ, IX, TD, eqK, if_true, if_false, Bool.not_true, Bool.not_false, Bool.false_eq_true, List.take_length, exit_bl, exit_int, exit_non, exit_str, decide_true, decide_false, F__law_draw, B__law_draw, (cup_ix e).2.2, (set_cup e).1, (cup_ix (gs _)).1, (cup_ix (gs _)).2.1, (cup_ix (gs _)).2.2, int_ok, md_ok (show (0 : Int) < 997 by decide), m1, m2, md_ok (show (0 : Int) < 2147483563 by decide), (set_cup (gs _)).2.2, List.set_set, decide_eq_false hb, dv, md_ok (show (0 : Int) < (top : Int) by omega), ht]
      rw [List.take_of_length_le (by rw [List.length_set]; exact Nat.le_refl _)]
    · have := Int.emod_lt_of_pos (x / 53) (show (0 : Int) < top by omega)
      have := Int.emod_nonneg (x / 53) (show (top : Int) ≠ 0 by omega)
      omega
theorem pick_ok {n : Nat} {xs : List D} {μ : Mu} (h : Cup n μ) (h0 : 0 < xs.length) (h1 : xs.length < 1073741824) (hi : ∀ x ∈ xs, ∀ k, x.inB k = true) : ∃ (x : D) (μ' : Mu), F__law_pick [.loc n, .lst xs] μ = .ok x μ' ∧ x ∈ xs ∧ Sip n μ μ' := by
  obtain ⟨r, μ', e, hr, s⟩ := draw_ok h h0 h1
  refine ⟨xs[r], μ', ?_, List.getElem_mem _, s⟩
  simp only [FA, SL, Nat.reduceSub, Nat.reduceAdd, AP, PAR, AB, LS, OI, EQ, IX, TD, eqK, if_true, if_false, Bool.not_true, Bool.not_false, Bool.false_eq_true, List.take_length, exit_bl, exit_int, exit_non, exit_str, decide_true, decide_false, F__law_pick, B__law_pick, e, ix_lst (List.getElem?_eq_getElem hr)]
  rw [exit_in (hi _ (List.getElem_mem _) _), s.take rfl]
theorem ix_sign {l : List Nat} {r : Nat} (hl : l.length ≤ sizeLine) (hr : r < l.length) (m : Mu) : ixD (.str (S l)) (.int (r : Int)) m = .ok (.str (S [l[r]])) m := by
  have e : L2.atI (S l).cps.toList (r : Int) = some l[r] := by
    show L2.atI l (r : Int) = some l[r]
    unfold L2.atI L2.ixN
    rw [if_pos (by omega), if_pos (by omega)]
    simp [hr]
  show (if (S l).length ≤ sizeLine then (match L2.atI (S l).cps.toList (r : Int) with
      | some k => Out.ok (D.str ⟨#[k]⟩) m
      | none => .stuck) else .stuck) = _
  rw [S_len', if_pos hl, e]
theorem pick_str {n : Nat} {l : List Nat} {μ : Mu} (h : Cup n μ) (h0 : 0 < l.length) (h1 : l.length ≤ 1000) : ∃ (c : Nat) (μ' : Mu), F__law_pick [.loc n, .str (S l)] μ = .ok (.str (S [c])) μ' ∧ c ∈ l ∧ Sip n μ μ' := by
  obtain ⟨r, μ', e, hr, s⟩ := draw_ok h h0 (by omega)
  have hl : l.length ≤ sizeLine := Nat.le_trans h1 (by decide)
  refine ⟨l[r], μ', ?_, List.getElem_mem _, s⟩
  simp only [FA, SL, Nat.reduceSub, Nat.reduceAdd, AP, PAR, AB, LS, OI, EQ, IX, TD, eqK, if_true, if_false, Bool.not_true, Bool.not_false, Bool.false_eq_true, List.take_length, exit_bl, exit_int, exit_non, exit_str, decide_true, decide_false, F__law_pick, B__law_pick, len_str hl, e, ix_sign hl hr]
  rw [s.take rfl]
/-! ### names -/
theorem add_str {a b : List Nat} (h : a.length + b.length ≤ 100000) (m : Mu) : addD (.str (S a)) (.str (S b)) m = .ok (.str (S (a ++ b))) m := by
  show (if (S a).length + (S b).length ≤ sizeLine then Out.ok (D.str (S a ++ S b)) m else .stuck) = _
  rw [S_len', S_len', if_pos (Nat.le_trans h (by decide)), SX.S_cat]
theorem join_nil_ok {ys : List (List Nat)} (h : (ys.map (·.length)).sum ≤ 100000) (m : Mu) : joinF [.str (Str.ofString ""), .lst (ys.map wD)] m = .ok (.str (S ys.flatten)) m := by
  have q : strsL (ys.map wD) = some (ys.map S) := by
    have := strs_map (ys.map S)
    rw [List.map_map] at this
    exact this
  have e : Str.ofString "" = S [] := K_S ""
  show (match strsL (ys.map wD) with
    | some zs => if (zs.map (fun z : Str => z.length)).sum + zs.length * (Str.ofString "").length ≤ 16777216 then Out.ok (D.str (Txt.join (Str.ofString "") zs)) m else .stuck
    | none => .stuck) = _
  rw [q]
  simp only
  rw [SX.lens, e, S_len', List.length_nil, Nat.mul_zero, Nat.add_zero, if_pos (by omega), SX.join_S]
  congr 3
  have : ∀ zs : List (List Nat), TL.joinL [] zs = zs.flatten := fun zs => by
    induction zs with
    | nil => rfl
    | cons z r ih =>
      cases r with
      | nil => simp [TL.joinL]
      | cons y r => rw [TL.joinL, List.nil_append, ih]; rfl
  rw [this]
theorem tag_chk : ((TL.spl [32] 0 [] (K "join take clear call plan base all last before left right on of a a1 z9")).all fun l => nameL l) = true := by decide +kernel
theorem tag_len : (TL.spl [32] 0 [] (K "join take clear call plan base all last before left right on of a a1 z9")).length = 16 := by decide +kernel
/-! ### goals, clauses, classes -/
inductive Go where
  | all | before | last (n : Nat)
def Go.Ok : Go → Prop
  | .last n => 1 ≤ n ∧ n ≤ 4
  | _ => True
def Go.dat : Go → D
  | .all => .tup [.str "all", .int 0]
  | .before => .tup [.str "before", .int 0]
  | .last n => .tup [.str "last", .int n]
theorem Go.dat_in (g : Go) (n : Nat) : g.dat.inB n = true := by cases g <;> rfl
/-- a drawn clause -/
inductive Dc where
  | call (r s : Nat) (g : List Nat)
  | clear (r s : Nat)
  | act (w : Bool) (r s : Nat) (side : Bool) (far : Nat)
def Dc.r : Dc → Nat
  | .call r _ _ => r
  | .clear r _ => r
  | .act _ r _ _ _ => r
def Dc.s : Dc → Nat
  | .call _ s _ => s
  | .clear _ s => s
  | .act _ _ s _ _ => s
structure Dc.Ok (c : Dc) : Prop where
  rs : c.r < c.s
  s3 : c.s ≤ 3
  nm : ∀ r s g, c = .call r s g → nameL g = true
  fr : ∀ w r s sd f, c = .act w r s sd f → 1 ≤ f ∧ f ≤ 4
def wrd (w : Bool) : String := if w then "take" else "join"
def sde (w : Bool) : String := if w then "right" else "left"
def Dc.dat : Dc → D
  | .call r s g => .tup [.str "call", .int r, .int s, .str "", .int 0, wD g]
  | .clear r s => .tup [.str "clear", .int r, .int s, .str "", .int 0, .str ""]
  | .act w r s sd f => .tup [.str (Str.ofString (wrd w)), .int r, .int s, .str (Str.ofString (sde sd)), .int f, .str ""]
theorem Dc.dat_in (c : Dc) (n : Nat) : c.dat.inB n = true := by cases c <;> rfl
end J

/-! # GI: drawn rounds, names, books -/
namespace J
open PySem PySem.Spec PyProof.Rows L2 DS
open SX (S)
theorem lt_line {a : Nat} (h : a ≤ 100000) : a < sizeLine := by unfold sizeLine; omega
theorem le_line {a : Nat} (h : a ≤ 100000) : a ≤ sizeLine := by unfold sizeLine; omega
def nD (k : Nat) : D := .int (k : Int)
theorem nD_in (xs : List Nat) (n : Nat) : D.inL n (xs.map nD) = true := inL_map _ _ _ fun _ _ => rfl
theorem two_get0 {α : Type} {μ : List α} {x y : α} : (μ ++ [x, y])[μ.length]? = some x := by
  rw [List.getElem?_append_right (Nat.le_refl _), Nat.sub_self]; rfl
theorem two_get1 {α : Type} {μ : List α} {x y : α} : (μ ++ [x, y])[μ.length + 1]? = some y := by
  rw [List.getElem?_append_right (by omega), Nat.add_sub_cancel_left]; rfl
theorem two_set0 {α : Type} {μ : List α} {x y z : α} : (μ ++ [x, y]).set μ.length z = μ ++ [z, y] := by
  rw [List.set_append_right _ _ (Nat.le_refl _), Nat.sub_self]; rfl
theorem two_set1 {α : Type} {μ : List α} {x y z : α} : (μ ++ [x, y]).set (μ.length + 1) z = μ ++ [x, z] := by
  rw [List.set_append_right _ _ (by omega), Nat.add_sub_cancel_left]; rfl
theorem ty_loc {m : Mu} {n : Nat} {xs : List D} (h : m[n]? = some (.lst xs)) : tyD "list" m (.loc n) = true := by
  show ("list" == "list" && (lstOf m (.loc n)).isSome) = true
  unfold lstOf
  simp only [h]
  rfl
theorem len_loc {m : Mu} {n : Nat} {xs : List D} (h : m[n]? = some (.lst xs)) : lenD [.loc n] m = .ok (.int (xs.length : Nat)) m := by
  show (match lstOf m (.loc n) with
    | some xs => Out.ok (D.int (xs.length : Nat)) m
    | none => .stuck) = _
  unfold lstOf
  simp only [h]
theorem map_erase {α β : Type} (f : α → β) : ∀ (xs : List α) (k : Nat), (xs.eraseIdx k).map f = (xs.map f).eraseIdx k
  | [], _ => rfl
  | _ :: _, 0 => rfl
  | x :: r, k + 1 => by
    show f x :: (r.eraseIdx k).map f = f x :: (r.map f).eraseIdx k
    rw [map_erase f r k]
theorem erase_perm {α : Type} : ∀ {xs : List α} {k : Nat} (h : k < xs.length), List.Perm (xs[k] :: xs.eraseIdx k) xs
  | x :: r, 0, _ => List.Perm.refl _
  | x :: r, k + 1, h => by
    have h' : k < r.length := by simpa using h
    show List.Perm (r[k] :: x :: r.eraseIdx k) (x :: r)
    exact (List.Perm.swap _ _ _).trans ((erase_perm h').cons x)
theorem pop_at {m : Mu} {j k : Nat} {fs : List Nat} (h : m[j]? = some (.lst (fs.map nD))) (hk : k < fs.length) (hs : fs.length ≤ 3) : popIF [.loc j, .int (k : Nat)] m = .ok (nD fs[k]) (m.set j (.lst ((fs.eraseIdx k).map nD))) := by
  have hsi : seqIndex? (k : Int) ((fs.map nD).length) = some k := by
    unfold seqIndex?
    rw [List.length_map]
    simp
    omega
  have hb : -(2 ^ 63) ≤ ((k : Nat) : Int) ∧ ((k : Nat) : Int) < 2 ^ 63 := by omega
  have hg : (fs.map nD)[k]? = some (nD fs[k]) := by rw [List.getElem?_map, List.getElem?_eq_getElem hk]; rfl
  unfold popIF
  simp only [h]
  rw [if_pos hb]
  simp only [hsi, hg]
  rw [map_erase]
/-! ### rounds -/
structure DR (lower tags : List (List Nat)) (r : List Dc) : Prop where
  len0 : 0 < r.length
  len : r.length ≤ 3
  ok : ∀ c ∈ r, c.Ok
  kind : (∀ c ∈ r, ∃ a b g, c = .call a b g ∧ g ∈ (if b = 1 then lower else tags)) ∨ (∀ c ∈ r, ∀ a b g, c ≠ .call a b g)
  apart : r.Pairwise fun a b => a.s = b.s ∧ a.r ≠ b.r
theorem pick_w {n : Nat} {ws : List (List Nat)} {μ : Mu} (h : Cup n μ) (h0 : 0 < ws.length) (h1 : ws.length < 1000) : ∃ (w : List Nat) (μ' : Mu), F__law_pick [.loc n, .lst (ws.map wD)] μ = .ok (wD w) μ' ∧ w ∈ ws ∧ Sip n μ μ' := by
  obtain ⟨x, μ', e, hx, s⟩ := pick_ok (xs := ws.map wD) h (by rw [List.length_map]; exact h0) (by rw [List.length_map]; omega) (fun x hx k => by
    obtain ⟨l, _, rfl⟩ := List.mem_map.mp hx
    rfl)
  obtain ⟨w, hw, rfl⟩ := List.mem_map.mp hx
  exact ⟨w, μ', e, hw, s⟩
/-- a comprehension that draws, over any things -/
theorem lc_draw {T U : Type} {i n : Nat} {te : XE'} {r0 : Rho} (d : U → D) (enc : T → D) (hin : ∀ t m, (enc t).inB m = true) (Q : U → T → Prop) {us : List U} (hN : us.length ≤ 100000)
    (he : ∀ u ∈ us, ∀ μ, Cup n μ → ∃ t μ', te (r0.set i (some (d u))) μ = .ok (enc t) μ' ∧ Q u t ∧ Sip n μ μ') {μ : Mu} (h : Cup n μ) :
    ∃ (ts : List T) (μ' : Mu), lcD (gNm i) xYes te r0 (us.map d) μ = .ok (.lst (ts.map enc)) μ' ∧ ts.length = us.length ∧ (∀ (k : Nat) (u : U) (t : T), us[k]? = some u → ts[k]? = some t → Q u t) ∧ Sip n μ μ' := by
  have go : ∀ (vs : List U) (ts : List T) (ν : Mu), (∀ u ∈ vs, u ∈ us) → ts.length + vs.length = us.length → Cup n ν → ν.length = μ.length → ∃ (ts' : List T) (ν' : Mu), lcF (gNm i) xYes te μ.length r0 (vs.map d) (ν ++ [.lst (ts.map enc)]) = .ok () (ν' ++ [.lst ((ts ++ ts').map enc)]) ∧ ts'.length = vs.length ∧ (∀ (k : Nat) (u : U) (t : T), vs[k]? = some u → ts'[k]? = some t → Q u t) ∧ Sip n ν ν' := fun vs => by
    induction vs with
    | nil =>
      intro ts ν _ hl hc hln
      exact ⟨[], ν, by rw [List.append_nil]; rfl, rfl, fun k u t h => by simp at h, Sip.refl hc⟩
    | cons v vs ih =>
      intro ts ν hm hl hc hln
      obtain ⟨t, ν1, e1, q1, s1⟩ := he v (hm v (List.mem_cons_self ..)) (ν ++ [.lst (ts.map enc)]) (hc.app _)
      obtain ⟨ν2, s2, rfl⟩ := s1.app hc.lt
      have hl2 : ν2.length = μ.length := s2.len.trans hln
      rw [List.length_cons] at hl
      have hp : pushD μ.length (enc t) (ν2 ++ [.lst (ts.map enc)]) = .ok () (ν2 ++ [.lst ((ts ++ [t]).map enc)]) := by
        unfold pushD
        rw [List.getElem?_append_right (by omega), ← hl2, Nat.sub_self]
        simp only [List.getElem?_cons_zero]
        rw [if_pos ⟨hin _ _, by rw [List.length_map]; exact lt_line (by omega)⟩, List.set_append_right _ _ (Nat.le_refl _), Nat.sub_self]
        simp
      obtain ⟨ts', ν', e2, l2, q2, s3⟩ := ih (ts ++ [t]) ν2 (fun u hu => hm u (List.mem_cons_of_mem _ hu)) (by rw [List.length_append, List.length_singleton]; omega) (s2.cup hc) (s2.len.trans hln)
      refine ⟨t :: ts', ν', ?_, by rw [List.length_cons, List.length_cons, l2], fun k u x hu hx => ?_, s2.trans s3⟩
      · rw [List.map_cons, lcF]
        simp only [gNm, Out.ne, Out.bind, xYes, if_true, e1, hp]
        rw [List.append_assoc] at e2
        exact e2
      · cases k with
        | zero =>
          cases hu
          cases hx
          exact q1
        | succ k => exact q2 k u x hu hx
  obtain ⟨ts, ν, e, l, q, s⟩ := go us [] μ (fun _ h => h) (by simp) h rfl
  refine ⟨ts, ν, ?_, l, q, s⟩
  rw [List.map_nil, List.nil_append] at e
  unfold lcD
  rw [e]
  have hl2 : ν.length = μ.length := s.len
  simp [Out.bind, lcEnd, ← hl2]
def wP (l : List Nat) : PyData := .str (S l)
theorem toPs_w : ∀ ws : List (List Nat), toPs (ws.map wD) = some (ws.map wP)
  | [] => rfl
  | n :: ns => by
    rw [List.map_cons, toPs, toPs_w ns]
    rfl
theorem name_small {l : List Nat} (h : nameL l = true) : ∀ c ∈ l, c < 128 := fun c hc => by
  cases l with
  | nil => simp at hc
  | cons a r =>
    have q : (low a && (decide (r.length < 8) && List.all (a :: r) fun x => low x || dig x)) = true := h
    rw [Bool.and_eq_true, Bool.and_eq_true, List.all_eq_true] at q
    have := q.2.2 c hc
    simp only [low, dig, Bool.or_eq_true, Bool.and_eq_true, decide_eq_true_eq] at this
    omega
theorem strOk_S {l : List Nat} (h : ∀ c ∈ l, c < 128) : PyData.strOk (S l) = true := by
  unfold PyData.strOk
  rw [← Array.all_toList, List.all_eq_true]
  intro c hc
  have := h c hc
  rw [decide_eq_true_eq]
  omega
theorem canLay_w : ∀ {ws : List (List Nat)}, (∀ w ∈ ws, nameL w = true) → PyData.canLayAll0 (ws.map wP) = true
  | [], _ => rfl
  | n :: ns, h => by
    rw [List.map_cons, PyData.canLayAll0, canLay_w fun w hw => h w (List.mem_cons_of_mem _ hw)]
    have : (wP n).canLay0 = true := strOk_S (name_small (h n (List.mem_cons_self ..)))
    rw [this]
    rfl
theorem depth_w : ∀ ws : List (List Nat), PyData.depthAll (ws.map wP) = 0
  | [] => rfl
  | n :: ns => by
    rw [List.map_cons, PyData.depthAll, depth_w ns]
    rfl
theorem eqn_nil {ws : List (List Nat)} (hw : ∀ w ∈ ws, nameL w = true) (m : Mu) : eqD (.lst (ws.map wD)) (.lst []) m = .ok (.bl ws.isEmpty) m := by
  have q : eqB m (.lst (ws.map wD)) (.lst []) = some ws.isEmpty := by
    unfold eqB
    have e : toP (dere m (.lst (ws.map wD))) = some (.list (ws.map wP)) := by
      show toP (.lst (ws.map wD)) = _
      rw [toP, toPs_w]
      rfl
    have e2 : toP (dere m (.lst [])) = some (.list []) := rfl
    rw [e, e2]
    have hs : SeqAt.shaped (.list (ws.map wP)) = true := by
      unfold SeqAt.shaped
      rw [PyData.canLay0, canLay_w hw, PyData.depth, depth_w]
      rfl
    simp only [hs, show SeqAt.shaped (.list []) = true from rfl, Bool.and_true, if_true]
    cases ws <;> rfl
  show (match eqB m (.lst (ws.map wD)) (.lst []) with
    | some b => Out.ok (D.bl b) m
    | none => .stuck) = _
  rw [q]
/-! ### names of a book -/
def spare : List (List Nat) := [K "a", K "b", K "up2", K "d", K "e"]
theorem spare_nd : spare.Nodup := by decide +kernel
theorem spare_nm : ∀ w ∈ spare, nameL w = true := by decide +kernel
theorem spare_free {found : List (List Nat)} (h : found.length < 5) : (spare.filter fun w => !decide (w ∈ found)) ≠ [] := fun e => by
  have hsub : ∀ w ∈ spare, w ∈ found := fun w hw => by
    have := List.filter_eq_nil_iff.mp e w hw
    simpa using this
  have := List.Nodup.length_le_of_subset spare_nd hsub
  have hl : spare.length = 5 := rfl
  omega
/-! ### the plans of a drawn book -/
structure Mt where
  nm : List Nat
  goal : Go
  base : Nat
  rounds : List (List Dc)
def Mt.dat (p : Mt) : D := .tup [wD p.nm, p.goal.dat, .int p.base, .lst (p.rounds.map fun r => .lst (r.map Dc.dat))]
theorem rds_in (rs : List (List Dc)) (n : Nat) : D.inL n (rs.map fun r => .lst (r.map Dc.dat)) = true := inL_map _ _ _ fun r _ => by rw [D.inB]; exact inL_map _ _ _ fun c _ => c.dat_in _
theorem Mt.dat_in (p : Mt) (n : Nat) : p.dat.inB n = true := by
  rw [Mt.dat, D.inB, D.inL, D.inL, D.inL, D.inL, D.inL, D.inB, rds_in, Go.dat_in]
  rfl
structure MtOk (tags : List (List Nat)) (many i : Nat) (p : Mt) : Prop where
  nm : tags[i]? = some p.nm
  goal : p.goal.Ok
  base0 : 1 ≤ p.base
  base : p.base ≤ 4
  len0 : 0 < p.rounds.length
  len : p.rounds.length ≤ many
  ok : ∀ r ∈ p.rounds, DR (tags.drop (i + 1)) tags r
structure Mates (ms : List Mt) (many : Nat) : Prop where
  len0 : 0 < ms.length
  names : (ms.map Mt.nm).Nodup
  nmok : ∀ p ∈ ms, nameL p.nm = true
  ok : ∀ (i : Nat) (p : Mt), ms[i]? = some p → MtOk (ms.map Mt.nm) many i p
end J

/-! # GJ: the texts of drawn books, and that they are read -/
namespace J
open PySem PySem.Spec PyProof.Rows L2 DS
open SX (S)
def Dc.words : Dc → List (List Nat)
  | .call r s g => [K "call", g, K "on", [48 + r], K "of", [48 + s]]
  | .clear r s => [K "clear", [48 + r], K "of", [48 + s]]
  | .act w r s sd f => [K (wrd w), [48 + r], K "of", [48 + s], K (sde sd), [48 + f]]
def Dc.line (c : Dc) : List Nat := TL.joinL [32] c.words
def Dc.cu : Dc → Cu
  | .call r s g => ⟨K "call", r, s, none, none, some g⟩
  | .clear r s => ⟨K "clear", r, s, none, none, none⟩
  | .act w r s sd f => ⟨K (wrd w), r, s, some (K (sde sd)), some f, none⟩
theorem num1 : ∀ r < 10, TL.numL r = [48 + r] := by decide +kernel
theorem str_num {r : Nat} (h : r < 10) (m : Mu) : strF [.int (r : Nat)] m = .ok (.str (S [48 + r])) m := by
  have hl : ((r : Int)).natAbs.log2 < 1920 := by
    rw [Int.natAbs_natCast]
    have : r = 0 ∨ r = 1 ∨ r = 2 ∨ r = 3 ∨ r = 4 ∨ r = 5 ∨ r = 6 ∨ r = 7 ∨ r = 8 ∨ r = 9 := by omega
    rcases this with rfl | rfl | rfl | rfl | rfl | rfl | rfl | rfl | rfl | rfl <;> decide
  show (if ((r : Int)).natAbs.log2 < 1920 then Out.ok (D.str (Str.ofString (toString (r : Int)))) m else .stuck) = _
  rw [if_pos hl, SX.num_S, num1 r h]
theorem add_K {a : List Nat} {s : String} (h : a.length + (K s).length ≤ 100000) (m : Mu) : addD (.str (S a)) (.str (Str.ofString s)) m = .ok (.str (S (a ++ K s))) m := by rw [K_S]; exact add_str h m
theorem K_add {a : List Nat} {s : String} (h : (K s).length + a.length ≤ 100000) (m : Mu) : addD (.str (Str.ofString s)) (.str (S a)) m = .ok (.str (S (K s ++ a))) m := by rw [K_S]; exact add_str h m
theorem K_K {a b : String} (h : (K a).length + (K b).length ≤ 100000) (m : Mu) : addD (.str (Str.ofString a)) (.str (Str.ofString b)) m = .ok (.str (S (K a ++ K b))) m := by rw [K_S, K_S]; exact add_str h m
theorem kl : (K "call ").length = 5 ∧ (K " on ").length = 4 ∧ (K " of ").length = 4 ∧ (K "clear ").length = 6 ∧ (K " ").length = 1 ∧ (∀ w, (K (wrd w)).length = 4) ∧ (∀ w, (K (sde w)).length ≤ 5) := by decide +kernel
theorem name_len {l : List Nat} (h : nameL l = true) : l.length ≤ 8 := by
  cases l with
  | nil => simp
  | cons a r =>
    have q : (low a && (decide (r.length < 8) && List.all (a :: r) fun x => low x || dig x)) = true := h
    rw [Bool.and_eq_true, Bool.and_eq_true, decide_eq_true_eq] at q
    rw [List.length_cons]
    omega
theorem kk : K "call " = K "call" ++ [32] ∧ K " on " = 32 :: (K "on" ++ [32]) ∧ K " of " = 32 :: (K "of" ++ [32]) ∧ K "clear " = K "clear" ++ [32] ∧ K " " = [32] ∧ K "; " = [59, 32] ∧ K "\n" = [10] := by decide +kernel
/-! ### a drawn clause is read -/
theorem K_free : (∀ w ∈ [K "call", K "on", K "of", K "clear", K "left", K "right", K "join", K "take"], 32 ∉ w ∧ 59 ∉ w ∧ 10 ∉ w) := by decide +kernel
theorem wrd_free (w : Bool) : 32 ∉ K (wrd w) ∧ 59 ∉ K (wrd w) ∧ 10 ∉ K (wrd w) := by cases w <;> decide +kernel
theorem sde_free (w : Bool) : 32 ∉ K (sde w) ∧ 59 ∉ K (sde w) ∧ 10 ∉ K (sde w) := by cases w <;> decide +kernel
theorem name_chars {l : List Nat} (h : nameL l = true) : ∀ c ∈ l, low c = true ∨ dig c = true := fun c hc => by
  cases l with
  | nil => simp at hc
  | cons a r =>
    have q : (low a && (decide (r.length < 8) && List.all (a :: r) fun x => low x || dig x)) = true := h
    rw [Bool.and_eq_true, Bool.and_eq_true, List.all_eq_true] at q
    have := q.2.2 c hc
    rw [Bool.or_eq_true] at this
    exact this
theorem name_free {l : List Nat} (h : nameL l = true) : 32 ∉ l ∧ 59 ∉ l ∧ 10 ∉ l := by
  refine ⟨fun z => ?_, fun z => ?_, fun z => ?_⟩ <;>
  · rcases name_chars h _ z with q | q <;> simp [low, dig] at q
theorem Dc.Ok.free {c : Dc} (h : c.Ok) : ∀ w ∈ c.words, 32 ∉ w ∧ 59 ∉ w ∧ 10 ∉ w := by
  have hrs := h.rs
  have hs3 := h.s3
  have dg : ∀ k, k < 10 → 32 ∉ [48 + k] ∧ 59 ∉ [48 + k] ∧ 10 ∉ [48 + k] := fun k hk => by simp; omega
  intro w hw
  cases c with
  | call r s g =>
    change r < s at hrs
    change s ≤ 3 at hs3
    simp only [Dc.words, List.mem_cons, List.not_mem_nil, or_false] at hw
    rcases hw with rfl | rfl | rfl | rfl | rfl | rfl
    · exact K_free _ (by simp)
    · exact name_free (h.nm _ _ _ rfl)
    · exact K_free _ (by simp)
    · exact dg _ (by omega)
    · exact K_free _ (by simp)
    · exact dg _ (by omega)
  | clear r s =>
    change r < s at hrs
    change s ≤ 3 at hs3
    simp only [Dc.words, List.mem_cons, List.not_mem_nil, or_false] at hw
    rcases hw with rfl | rfl | rfl | rfl
    · exact K_free _ (by simp)
    · exact dg _ (by omega)
    · exact K_free _ (by simp)
    · exact dg _ (by omega)
  | act w' r s sd f =>
    change r < s at hrs
    change s ≤ 3 at hs3
    have hf := h.fr _ _ _ _ _ rfl
    simp only [Dc.words, List.mem_cons, List.not_mem_nil, or_false] at hw
    rcases hw with rfl | rfl | rfl | rfl | rfl | rfl
    · exact wrd_free _
    · exact dg _ (by omega)
    · exact K_free _ (by simp)
    · exact dg _ (by omega)
    · exact sde_free _
    · exact dg _ (by omega)
theorem dig1 {k : Nat} (h : k < 10) : digL [48 + k] = some k := by
  have : dig (48 + k) = true := by simp [dig]; omega
  simp [digL, this]
theorem cls_ok {r s : Nat} (hr : r < s) (hs : s ≤ 3) : clsL [[48 + r], K "of", [48 + s]] = some (r, s) := by
  simp only [clsL, if_true, dig1 (show r < 10 by omega), dig1 (show s < 10 by omega)]
  rw [if_pos ⟨by omega, hs, hr⟩]
theorem read_line {c : Dc} (h : c.Ok) : clauseL c.line = some c.cu := by
  have hsp : TL.spl [32] 0 [] c.line = c.words := SX.spl_join (by cases c <;> simp [Dc.words]) (fun p hp => (h.free p hp).1)
  unfold clauseL
  rw [hsp]
  have hrs := h.rs
  have hs3 := h.s3
  cases c with
  | call r s g =>
    change r < s at hrs
    change s ≤ 3 at hs3
    have hn := h.nm _ _ _ rfl
    show (if K "call" = K "call" then callW _ else _) = _
    rw [if_pos rfl]
    unfold callW
    show (match clsL [[48 + r], K "of", [48 + s]] with
      | some (r, s) => if K "on" = K "on" ∧ nameL g = true then some (⟨K "call", r, s, none, none, some g⟩ : Cu) else none
      | none => none) = _
    rw [cls_ok hrs hs3]
    simp only
    rw [if_pos ⟨trivial, hn⟩]
    rfl
  | clear r s =>
    change r < s at hrs
    change s ≤ 3 at hs3
    show (if K "clear" = K "call" then _ else match clsL [[48 + r], K "of", [48 + s]] with
      | none => none
      | some (r, s) => if K "clear" = K "clear" then (if 4 = 4 then some (⟨K "clear", r, s, none, none, none⟩ : Cu) else none) else _) = _
    rw [if_neg (by decide), cls_ok hrs hs3]
    simp only
    rw [if_pos trivial, if_pos trivial]
    rfl
  | act w r s sd f =>
    change r < s at hrs
    change s ≤ 3 at hs3
    have hf := h.fr _ _ _ _ _ rfl
    have n1 : K (wrd w) ≠ K "call" := by cases w <;> decide +kernel
    have n2 : K (wrd w) ≠ K "clear" := by cases w <;> decide +kernel
    have n3 : K (wrd w) = K "join" ∨ K (wrd w) = K "take" := by cases w <;> decide +kernel
    have n4 : K (sde sd) = K "left" ∨ K (sde sd) = K "right" := by cases sd <;> decide +kernel
    show (if K (wrd w) = K "call" then _ else match clsL [[48 + r], K "of", [48 + s]] with
      | none => none
      | some (r, s) => if K (wrd w) = K "clear" then _ else if (K (wrd w) = K "join" ∨ K (wrd w) = K "take") ∧ 6 = 6 ∧ (K (sde sd) = K "left" ∨ K (sde sd) = K "right") then (match digL [48 + f] with
        | some d => if 1 ≤ d ∧ d ≤ 4 then some (⟨K (wrd w), r, s, some (K (sde sd)), some d, none⟩ : Cu) else none
        | none => none) else none) = _
    rw [if_neg n1, cls_ok hrs hs3]
    simp only
    rw [if_neg n2, if_pos ⟨n3, trivial, n4⟩, dig1 (show f < 10 by omega)]
    simp only
    rw [if_pos hf]
    rfl
/-! ### rounds -/
theorem mem_joinL {sep : List Nat} {x : Nat} : ∀ {ps : List (List Nat)}, x ∈ TL.joinL sep ps → x ∈ sep ∨ ∃ p ∈ ps, x ∈ p
  | [], h => by simp [TL.joinL] at h
  | [p], h => .inr ⟨p, by simp, h⟩
  | p :: q :: r, h => by
    rw [TL.joinL, List.mem_append, List.mem_append] at h
    rcases h with h | h | h
    · exact .inr ⟨p, by simp, h⟩
    · exact .inl h
    · rcases mem_joinL h with h | ⟨p', hp, h⟩
      · exact .inl h
      · exact .inr ⟨p', List.mem_cons_of_mem _ hp, h⟩
theorem Dc.Ok.line_free {c : Dc} (h : c.Ok) : 59 ∉ c.line ∧ 10 ∉ c.line := by
  refine ⟨fun z => ?_, fun z => ?_⟩ <;>
  · rcases mem_joinL z with q | ⟨p, hp, q⟩
    · simp at q
    · have := h.free p hp
      simp_all
theorem joinL_le {sep : List Nat} {b : Nat} : ∀ {ps : List (List Nat)}, (∀ p ∈ ps, p.length ≤ b) → (TL.joinL sep ps).length ≤ ps.length * (b + sep.length)
  | [], _ => by simp [TL.joinL]
  | [p], h => by
    have := h p (by simp)
    show p.length ≤ _
    simp
    omega
  | p :: q :: r, h => by
    have h1 := h p (by simp)
    have h2 := joinL_le (sep := sep) (ps := q :: r) fun x hx => h x (List.mem_cons_of_mem _ hx)
    rw [TL.joinL, List.length_append, List.length_append]
    have e : (p :: q :: r).length * (b + sep.length) = (q :: r).length * (b + sep.length) + (b + sep.length) := by rw [List.length_cons, Nat.succ_mul]
    omega
theorem Dc.Ok.line_len {c : Dc} (h : c.Ok) : c.line.length ≤ 54 := by
  have hw : ∀ w ∈ c.words, w.length ≤ 8 := fun w hw => by
    have kw : ∀ w ∈ [K "call", K "on", K "of", K "clear"], w.length ≤ 8 := by decide +kernel
    cases c with
    | call r s g =>
      simp only [Dc.words, List.mem_cons, List.not_mem_nil, or_false] at hw
      rcases hw with rfl | rfl | rfl | rfl | rfl | rfl
      · exact kw _ (by simp)
      · exact name_len (h.nm _ _ _ rfl)
      · exact kw _ (by simp)
      · simp
      · exact kw _ (by simp)
      · simp
    | clear r s =>
      simp only [Dc.words, List.mem_cons, List.not_mem_nil, or_false] at hw
      rcases hw with rfl | rfl | rfl | rfl
      · exact kw _ (by simp)
      · simp
      · exact kw _ (by simp)
      · simp
    | act w' r s sd f =>
      simp only [Dc.words, List.mem_cons, List.not_mem_nil, or_false] at hw
      rcases hw with rfl | rfl | rfl | rfl | rfl | rfl
      · rw [kl.2.2.2.2.2.1]; omega
      · simp
      · exact kw _ (by simp)
      · simp
      · exact Nat.le_trans (kl.2.2.2.2.2.2 _) (by omega)
      · simp
  have := joinL_le (sep := [32]) hw
  have hc : c.words.length ≤ 6 := by cases c <;> simp [Dc.words]
  unfold Dc.line
  have e : c.words.length * (8 + [32].length) ≤ 6 * 9 := Nat.mul_le_mul hc (by simp)
  omega
def rline (r : List Dc) : List Nat := TL.joinL [59, 32] (r.map Dc.line)
theorem DR.line_len {lower tags : List (List Nat)} {r : List Dc} (h : DR lower tags r) : (rline r).length ≤ 168 := by
  have := joinL_le (sep := [59, 32]) (ps := r.map Dc.line) (b := 54) (fun p hp => by
    obtain ⟨c, hc, rfl⟩ := List.mem_map.mp hp
    exact (h.ok c hc).line_len)
  rw [List.length_map] at this
  have e : r.length * (54 + [59, 32].length) ≤ 3 * 56 := Nat.mul_le_mul h.len (by simp)
  unfold rline
  omega
theorem allSome_map {α β : Type} (f : α → Option β) (g : α → β) : ∀ {xs : List α}, (∀ x ∈ xs, f x = some (g x)) → allSome (xs.map f) = some (xs.map g)
  | [], _ => rfl
  | x :: r, h => by
    rw [List.map_cons, h x (List.mem_cons_self ..), allSome, allSome_map f g fun y hy => h y (List.mem_cons_of_mem _ hy)]
    rfl
theorem Dc.cu_r (c : Dc) : c.cu.rest = c.r := by cases c <;> rfl
theorem Dc.cu_s (c : Dc) : c.cu.step = c.s := by cases c <;> rfl
theorem Dc.cu_call {c : Dc} : c.cu.call = true ↔ ∃ a b g, c = .call a b g := by
  cases c with
  | call a b g => exact ⟨fun _ => ⟨a, b, g, rfl⟩, fun _ => show decide (K "call" = K "call") = true by decide⟩
  | clear a b => exact ⟨fun z => absurd z (by show ¬ decide (K "clear" = K "call") = true; decide +kernel), fun ⟨_, _, _, z⟩ => by cases z⟩
  | act w a b sd f => exact ⟨fun z => absurd z (by show ¬ decide (K (wrd w) = K "call") = true; cases w <;> decide +kernel), fun ⟨_, _, _, z⟩ => by cases z⟩
theorem meets_no : ∀ {r : List Dc}, (r.Pairwise fun a b => a.s = b.s ∧ a.r ≠ b.r) → meets (r.map Dc.cu) = false
  | [], _ => rfl
  | c :: r, h => by
    rw [List.pairwise_cons] at h
    rw [List.map_cons, meets, meets_no h.2, Bool.or_false, List.any_eq_false]
    intro d hd
    obtain ⟨e, he, rfl⟩ := List.mem_map.mp hd
    have := h.1 e he
    unfold meetC
    rw [Dc.cu_s, Dc.cu_s, Dc.cu_r, Dc.cu_r]
    simp only [Bool.or_eq_true, Bool.not_eq_true', beq_eq_false_iff_ne, beq_iff_eq, not_or, Decidable.not_not]
    exact ⟨this.1.symm, fun z => this.2 z.symm⟩
theorem read_rline {lower tags : List (List Nat)} {r : List Dc} (h : DR lower tags r) : roundL (rline r) = some (r.map Dc.cu) := by
  have hsp : TL.spl (K "; ") 0 [] (rline r) = r.map Dc.line := by
    rw [kk.2.2.2.2.2.1]
    refine SX.spl_join (fun e => ?_) fun p hp => ?_
    · have := h.len0
      rw [List.map_eq_nil_iff] at e
      rw [e] at this
      simp at this
    · obtain ⟨c, hc, rfl⟩ := List.mem_map.mp hp
      exact (h.ok c hc).line_free.1
  unfold roundL
  rw [hsp, List.map_map, allSome_map (clauseL ∘ Dc.line) Dc.cu (fun c hc => read_line (h.ok c hc))]
  simp only
  rw [if_pos]
  refine ⟨by rw [List.length_map]; exact h.len, ?_, meets_no h.apart⟩
  rcases h.kind with q | q
  · refine .inl ?_
    rw [List.all_eq_true]
    intro d hd
    obtain ⟨c, hc, rfl⟩ := List.mem_map.mp hd
    obtain ⟨a, b, g, e, _⟩ := q c hc
    exact Dc.cu_call.mpr ⟨a, b, g, e⟩
  · refine .inr ?_
    rw [List.any_eq_false]
    intro d hd
    obtain ⟨c, hc, rfl⟩ := List.mem_map.mp hd
    intro z
    obtain ⟨a, b, g, e⟩ := Dc.cu_call.mp z
    exact q c hc a b g e
/-! ### plans and books as they are told -/
def Go.text : Go → List Nat
  | .all => K "all"
  | .before => K "before"
  | .last n => K "last " ++ [48 + n]
def Go.rd : Go → List Nat × Option Nat
  | .all => (K "all", none)
  | .before => (K "before", none)
  | .last n => (K "last", some n)
theorem Go.Ok.read {g : Go} (h : g.Ok) : goalL g.text = some g.rd := by
  cases g with
  | all => decide +kernel
  | before => decide +kernel
  | last n =>
    have : n = 1 ∨ n = 2 ∨ n = 3 ∨ n = 4 := by have := h.1; have := h.2; omega
    rcases this with rfl | rfl | rfl | rfl <;> decide +kernel
theorem Go.Ok.len {g : Go} (h : g.Ok) : g.text.length ≤ 6 := by
  cases g with
  | all => decide +kernel
  | before => decide +kernel
  | last n => show (K "last " ++ [48 + n]).length ≤ 6; rw [List.length_append, show (K "last ").length = 5 by decide +kernel]; simp
def Mt.parts (p : Mt) : D := .tup [wD p.nm, wD p.goal.text, .int p.base, .tup (p.rounds.map fun r => wD (rline r))]
theorem joinT_ok {sep : String} {ys : List (List Nat)} (h : (ys.map (fun l : List Nat => l.length)).sum + ys.length * (K sep).length ≤ 100000) (m : Mu) : joinF [.str (Str.ofString sep), .lst (ys.map wD)] m = .ok (wD (TL.joinL (K sep) ys)) m := by
  have q : strsL (ys.map wD) = some (ys.map S) := by
    have := strs_map (ys.map S)
    rw [List.map_map] at this
    exact this
  show (match strsL (ys.map wD) with
    | some zs => if (zs.map (fun z : Str => z.length)).sum + zs.length * (Str.ofString sep).length ≤ 16777216 then Out.ok (D.str (Txt.join (Str.ofString sep) zs)) m else .stuck
    | none => .stuck) = _
  rw [q]
  simp only
  rw [SX.lens, K_S, S_len', List.length_map, if_pos (by omega), SX.join_S]
  rfl
theorem sum_le {α : Type} (f : α → Nat) (b : Nat) : ∀ {xs : List α}, (∀ x ∈ xs, f x ≤ b) → (xs.map f).sum ≤ xs.length * b
  | [], _ => by simp
  | x :: r, h => by
    have h1 := h x (List.mem_cons_self ..)
    have h2 := sum_le f b (xs := r) fun y hy => h y (List.mem_cons_of_mem _ hy)
    rw [List.map_cons, List.sum_cons, List.length_cons, Nat.succ_mul]
    omega
theorem D.inL_mem {n : Nat} : ∀ {xs : List D} {x : D}, D.inL n xs = true → x ∈ xs → x.inB n = true
  | [], _, _, h => by simp at h
  | y :: r, x, h, hx => by
    rw [D.inL, Bool.and_eq_true] at h
    rw [List.mem_cons] at hx
    rcases hx with rfl | hx
    · exact h.1
    · exact D.inL_mem h.2 hx
/-! ### such a book is one -/
theorem Mt.parts_sm {tags : List (List Nat)} {many i : Nat} {p : Mt} (h : MtOk tags many i p) (hn : nameL p.nm = true) : sm p.parts = true := by
  have hw : ∀ l : List Nat, l.length ≤ 1000 → sm (wD l) = true := fun l hl => by
    show decide ((S l).length + 2 ≤ sizeLine) = true
    rw [S_len', decide_eq_true_eq]
    exact le_line (by omega)
  have h1 := hw p.nm (by have := name_len hn; omega)
  have h2 := hw p.goal.text (by have := h.goal.len; omega)
  have h3 : smL (p.rounds.map fun r => wD (rline r)) = true := smL_all.mpr fun d hd => by
    obtain ⟨r, hr, rfl⟩ := List.mem_map.mp hd
    exact hw _ (by have := (h.ok r hr).line_len; omega)
  show sm (.tup [wD p.nm, wD p.goal.text, .int p.base, .tup (p.rounds.map fun r => wD (rline r))]) = true
  simp only [sm, smL, h1, h2, h3, Bool.and_self]
theorem Mt.parts_plan {tags : List (List Nat)} {many i : Nat} {p : Mt} (h : MtOk tags many i p) (hn : nameL p.nm = true) (hy : many ≤ 5) : planD p.parts = true := by
  have hp : planD p.parts = (nameL p.nm && ((goalL p.goal.text).isSome && (btw (.int p.base) 1 4 && (decide (0 < (p.rounds.map fun r => wD (rline r)).length) && (decide ((p.rounds.map fun r => wD (rline r)).length ≤ 5) && (p.rounds.map fun r => wD (rline r)).all fun t => (roundD t).isSome))))) := rfl
  rw [hp, hn, h.goal.read, List.length_map, decide_eq_true h.len0, decide_eq_true (show p.rounds.length ≤ 5 from Nat.le_trans h.len hy)]
  have hb : btw (.int (p.base : Nat)) 1 4 = true := by
    show (decide _ && decide _) = true
    have := h.base0
    have := h.base
    rw [← Bool.decide_and, decide_eq_true_eq]
    omega
  rw [hb]
  simp only [Option.isSome_some, Bool.true_and, List.all_map, List.all_eq_true]
  intro r hr
  show (roundL (rline r)).isSome = true
  rw [read_rline (h.ok r hr)]
  rfl
theorem nameOf_parts (p : Mt) : nameOf p.parts = p.nm := rfl
theorem names_parts (ms : List Mt) : (ms.map Mt.parts).map nameOf = ms.map Mt.nm := by rw [List.map_map]; rfl
theorem stands_ok {names : List (List Nat)} {i : Nat} {r : List Dc} (hnd : names.Nodup) (h : DR (names.drop (i + 1)) names r) : stands names (names.take (i + 1)) (some (r.map Dc.cu)) = some (r.map Dc.cu) := by
  unfold stands
  simp only
  rw [if_pos]
  unfold standL
  rw [List.all_map, List.all_eq_true]
  intro c hc
  rcases h.kind with q | q
  · obtain ⟨a, b, g, rfl, hg⟩ := q c hc
    show (decide (g ∈ names) && !(b == 1 && decide (g ∈ names.take (i + 1)))) = true
    by_cases hb : b = 1
    · rw [if_pos hb] at hg
      have h1 : g ∈ names := List.mem_of_mem_drop hg
      have h2 : g ∉ names.take (i + 1) := fun z => by
        have := List.take_append_drop (i + 1) names
        rw [← this, List.nodup_append] at hnd
        exact hnd.2.2 g z g hg rfl
      simp [h1, h2]
    · rw [if_neg hb] at hg
      simp [hg, hb]
  · have : c.cu.goal = none := by
      cases c with
      | call a b g => exact absurd rfl (q _ hc a b g)
      | clear _ _ => rfl
      | act _ _ _ _ _ => rfl
    show (match c.cu.goal with
      | some g => decide (g ∈ names) && !(c.cu.step == 1 && decide (g ∈ names.take (i + 1)))
      | none => true) = true
    rw [this]
theorem Mates.good {ms : List Mt} {many : Nat} (h : Mates ms many) (hl : ms.length ≤ 4) (hy : many ≤ 5) : Good (ms.map Mt.parts) := by
  refine ⟨smL_all.mpr fun d hd => ?_, by rw [List.length_map]; exact h.len0, ?_⟩
  · obtain ⟨p, hp, rfl⟩ := List.mem_map.mp hd
    obtain ⟨i, hi⟩ := List.getElem?_of_mem hp
    exact Mt.parts_sm (h.ok i p hi) (h.nmok p hp)
  · have hA : ∀ i < (ms.map Mt.parts).length, cA (ms.map Mt.parts) i = false := fun i hi => by
      rw [List.length_map] at hi
      have hg : (ms.map Mt.parts)[i]? = some ms[i].parts := by rw [List.getElem?_map, List.getElem?_eq_getElem hi]; rfl
      unfold cA
      rw [getD_at hg, Mt.parts_plan (h.ok i ms[i] (List.getElem?_eq_getElem hi)) (h.nmok _ (List.getElem_mem _)) hy, nameOf_parts, ← List.map_take, List.map_map]
      rw [decide_eq_false (show ¬ i = 4 by omega), Bool.not_true, Bool.false_or, Bool.false_or, decide_eq_false_iff_not]
      intro z
      have z' : ms[i].nm ∈ (ms.take i).map Mt.nm := z
      rw [List.map_take] at z'
      obtain ⟨j, hj⟩ := List.getElem?_of_mem z'
      rw [List.getElem?_take] at hj
      split at hj
      · rename_i hji
        rw [List.getElem?_map, List.getElem?_eq_getElem (show j < ms.length by omega)] at hj
        have q := List.pairwise_iff_getElem.mp h.names j i (by rw [List.length_map]; omega) (by rw [List.length_map]; exact hi) hji
        rw [List.getElem_map, List.getElem_map] at q
        exact q (Option.some.inj hj)
      · cases hj
    have hB : ∀ i < (ms.map Mt.parts).length, cB (ms.map Mt.parts) i = false := fun i hi => by
      rw [List.length_map] at hi
      have hg : (ms.map Mt.parts)[i]? = some ms[i].parts := by rw [List.getElem?_map, List.getElem?_eq_getElem hi]; rfl
      unfold cB
      rw [getD_at hg, names_parts]
      show ((ms[i].rounds.map fun r => wD (rline r)).any _) = false
      rw [List.any_map, List.any_eq_false]
      intro r hr z
      have hdr := (h.ok i ms[i] (List.getElem?_eq_getElem hi)).ok r hr
      have : stD (ms.map Mt.nm) ((ms.map Mt.nm).take (i + 1)) (wD (rline r)) = some (r.map Dc.cu) := by
        show stands _ _ (roundL (rline r)) = _
        rw [read_rline hdr]
        exact stands_ok h.names hdr
      have z' : (stD (ms.map Mt.nm) ((ms.map Mt.nm).take (i + 1)) (wD (rline r))).isNone = true := z
      rw [this] at z'
      cases z'
    unfold badL
    rw [find_none.mpr hA]
    exact find_none.mpr hB
end J

/-! # GK: purses from a script, the turns of a law -/
namespace J
open PySem PySem.Spec PyProof.Rows L2 DS
open SX (S)
theorem abs_ok (i : Int) (m : Mu) : ∃ j : Int, absF [.int i] m = .ok (.int j) m := ⟨_, rfl⟩
theorem purse_ok (v : Int) (μ : Mu) : ∃ a b c, F__law_purse [.int v] μ = .ok (.loc μ.length) (μ ++ [cupC a b c]) := by
  obtain ⟨j, hj⟩ := abs_ok v μ
  have hp : ∀ m, powD (.int 10) (.int 18) m = .ok (.int 1000000000000000000) m := fun m => rfl
  have mk : ∀ b : Int, (if D.inL μ.length [D.int (j % 2147483563), .int b, .int 0] = true then Out.ok (D.loc μ.length) (μ ++ [Cell.lst [.int (j % 2147483563), .int b, .int 0]]) else .stuck) = .ok (.loc μ.length) (μ ++ [cupC (j % 2147483563) b 0]) := fun b => rfl
  by_cases h1 : v < 0
  · refine ⟨j % 2147483563, j, 0, ?_⟩
    simp only [FA, SL, Nat.reduceSub, Nat.reduceAdd, AP, PAR, AB, LS, OI, EQ, IX, TD, eqK, if_true, if_false, Bool.not_true, Bool.not_false, Bool.false_eq_true, List.take_length, exit_bl, exit_int, exit_non, exit_str, decide_true, decide_false, F__law_purse, B__law_purse, hj, int_ok, md_ok (show (0 : Int) < 2147483563 by decide), h1, mk, eq_self]
  · by_cases h2 : 1000000000000000000 ≤ j
    · refine ⟨j % 2147483563, j, 0, ?_⟩
      simp only [FA, SL, Nat.reduceSub, Nat.reduceAdd, AP, PAR, AB, LS, OI, EQ, IX, TD, eqK, if_true, if_false, Bool.not_true, Bool.not_false, Bool.false_eq_true, List.take_length, exit_bl, exit_int, exit_non, exit_str, decide_true, decide_false, F__law_purse, B__law_purse, hj, int_ok, md_ok (show (0 : Int) < 2147483563 by decide), h1, hp, h2, mk, eq_self]
    · refine ⟨j % 2147483563, 0, 0, ?_⟩
      simp only [FA, SL, Nat.reduceSub, Nat.reduceAdd, AP, PAR, AB, LS, OI, EQ, IX, TD, eqK, if_true, if_false, Bool.not_true, Bool.not_false, Bool.false_eq_true, List.take_length, exit_bl, exit_int, exit_non, exit_str, decide_true, decide_false, F__law_purse, B__law_purse, hj, int_ok, md_ok (show (0 : Int) < 2147483563 by decide), h1, hp, h2, mk, eq_self]
theorem ix_fix {ns : List Int} {k : Nat} (h : k < ns.length) (m : Mu) : ixD (.fix (ns.map .int)) (.int (k : Nat)) m = .ok (.int ns[k]) m := by
  unfold ixD
  simp only [lstOf, ix_at k (ns.map D.int) (.int ns[k]) (by rw [List.getElem?_map, List.getElem?_eq_getElem h]; rfl)]
theorem cell_ok (ns : List Int) (k : Nat) (hk : k < 100) (μ : Mu) : ∃ v : Int, F__law_cell [.fix (ns.map .int), .int (k : Nat)] μ = .ok (.int v) μ := by
  by_cases h : k < ns.length
  · refine ⟨ns[k], ?_⟩
    have d : decide (((k : Nat) : Int) < ((ns.length : Nat) : Int)) = true := by rw [decide_eq_true_eq]; omega
    simp only [FA, SL, Nat.reduceSub, Nat.reduceAdd, AP, PAR, AB, LS, OI, EQ, IX, TD, eqK, if_true, if_false, Bool.not_true, Bool.not_false, Bool.false_eq_true, List.take_length, exit_bl, exit_int, exit_non, exit_str, decide_true, decide_false, F__law_cell, B__law_cell, len_fix, d, ix_fix h]
  · have d : decide (((k : Nat) : Int) < ((ns.length : Nat) : Int)) = false := by rw [decide_eq_false_iff_not]; omega
    have m1 : ∀ m, mulD (.int 7919) (.int ((k : Int) + 3)) m = .ok (.int (7919 * ((k : Int) + 3))) m := fun m => mul_ok (by decide)
    have m2 : ∀ m, mulD (.int (7919 * ((k : Int) + 3))) (.int ((k : Int) + 5)) m = .ok (.int (7919 * ((k : Int) + 3) * ((k : Int) + 5))) m := fun m => mul_ok (by omega)
    have m3 : ∀ i m, mulD (.int i) (.int 30097) m = .ok (.int (i * 30097)) m := fun i m => mul_ok' (by decide)
    have hsl : slD (.fix (ns.map .int)) none (some 8) μ = .ok (.lst ((ns.take 8).map .int)) μ := by
      have := cut_to' (ns.map D.int) 8
      show Out.ok (D.lst (DS.cutD (ns.map D.int) none (some 8))) μ = _
      rw [show DS.cutD (ns.map D.int) none (some 8) = (ns.map D.int).take 8 from this, List.map_take]
    have lp : ∀ (xs : List Int) (a : Int) (b : Option D), ∃ (v : Int) (b' : Option D), loopF (gNm 3) (sAsg (xOp modD (xCall intF (xaCons (xOp addD (xOp mulD (xVar 2) (xC (.int 30097))) (xVar 3)) xaNil)) (xC (.int 2147483563))) (gNm 2)) (xs.map .int) [some (.fix (ns.map .int)), some (.int (k : Nat)), some (.int a), b] μ = .next [some (.fix (ns.map .int)), some (.int (k : Nat)), some (.int v), b'] μ := fun xs => by
      induction xs with
      | nil => intro a b; exact ⟨a, b, rfl⟩
      | cons x r ih =>
        intro a b
        obtain ⟨v, b', e⟩ := ih ((a * 30097 + x) % 2147483563) (some (.int x))
        refine ⟨v, b', ?_⟩
        rw [List.map_cons, loopF]
        simp only [FA, SL, Nat.reduceSub, Nat.reduceAdd, AP, PAR, AB, LS, OI, EQ, IX, TD, eqK, if_true, if_false, Bool.not_true, Bool.not_false, Bool.false_eq_true, List.take_length, exit_bl, exit_int, exit_non, exit_str, decide_true, decide_false, m3, int_ok, md_ok (show (0 : Int) < 2147483563 by decide), e]
    obtain ⟨v, b', e⟩ := lp (ns.take 8) (7919 * ((k : Int) + 3) * ((k : Int) + 5)) none
    refine ⟨v, ?_⟩
    simp only [FA, SL, Nat.reduceSub, Nat.reduceAdd, AP, PAR, AB, LS, OI, EQ, IX, TD, eqK, if_true, if_false, Bool.not_true, Bool.not_false, Bool.false_eq_true, List.take_length, exit_bl, exit_int, exit_non, exit_str, decide_true, decide_false, F__law_cell, B__law_cell, len_fix, d, m1, m2, hsl, e]
theorem drawn_ok (ns : List Int) (hl : ns.length ≤ 63) (N : Nat) (hN : N ≤ 90) (right : Fn)
    (h : ∀ (n : Nat) (μ : Mu), Cup n μ → ∃ μ', right [.loc n] μ = .ok (.bl true) μ' ∧ Sip n μ μ') :
    lcD (gNm 1) xYes (xCall right (xaCons (xCall F__law_purse (xaCons (xCall F__law_cell (xaCons (xVar 0) (xaCons (xVar 1) xaNil))) xaNil)) xaNil)) [some (.fix (ns.map .int)), none] (rngL 0 N) [] = .ok (.lst ((rngL 0 N).map fun _ => .bl true)) [] := by
  refine lc_all (by simp [rngL]; omega) fun x hx c ν => ?_
  obtain ⟨k, hk, rfl⟩ : ∃ k : Nat, k < N ∧ x = .int k := by
    unfold rngL at hx
    obtain ⟨k, hk, rfl⟩ := List.mem_map.mp hx
    exact ⟨k, List.mem_range.mp hk, by rw [Int.zero_add]⟩
  obtain ⟨v, e0⟩ := cell_ok ns k (by omega) (c :: ν)
  obtain ⟨c1, c2, c3, e1⟩ := purse_ok v (c :: ν)
  have hc : Cup (c :: ν).length ((c :: ν) ++ [cupC c1 c2 c3]) := ⟨c1, c2, c3, by simp⟩
  obtain ⟨m2, e2, s2⟩ := h _ _ hc
  obtain ⟨a, b, d, rfl⟩ := s2
  refine ⟨ν ++ [cupC a b d], ?_⟩
  simp only [AP, AV, AB, LS, e0, e1, e2]
  congr 1
  rw [List.set_append_right _ _ (Nat.le_refl _), Nat.sub_self]
  rfl
end J

/-! # GL: what a book tells -/
namespace J
open PySem PySem.Spec PyProof.Rows L2 DS
open SX (S)
theorem fld_held (ds : List D) (m : Mu) : fldD "Book" "held" (bookD ds) m = .ok (.tup ds) m := rfl
theorem plans_ok {ds : List D} (h : smL ds = true) (μ : Mu) : F_Book_plans [bookD ds] μ = .ok (.tup ds) μ := by
  simp only [FA, SL, Nat.reduceSub, Nat.reduceAdd, AP, PAR, AB, LS, OI, EQ, IX, TD, eqK, if_true, if_false, Bool.not_true, Bool.not_false, Bool.false_eq_true, List.take_length, exit_bl, exit_int, exit_non, exit_str, decide_true, decide_false, F_Book_plans, B_Book_plans, fld_held]
  rw [exit_in (by rw [D.inB]; exact smL_in _ h), List.take_length]
theorem jc {f : XE'} {g : XJ} {a b : List Nat} {r : Rho} {m : Mu} (h : f r m = .ok (.str (S b)) m) (hl : a.length + b.length ≤ 100000) : xjCons f g (S a) r m = g (S (a ++ b)) r m := by
  show ((f r m).bind fun d m1 => match d with
    | .str y => if (S a ++ y).length ≤ sizeLine then g (S a ++ y) r m1 else .stuck
    | _ => .stuck) = _
  rw [h]
  show (if (S a ++ S b).length ≤ sizeLine then g (S a ++ S b) r m else .stuck) = _
  rw [SX.S_cat, S_len', List.length_append, if_pos (le_line hl)]
theorem jK {s : String} {r : Rho} {m : Mu} : xC (.str (Str.ofString s)) r m = .ok (.str (S (K s))) m := by
  rw [K_S]
  rfl
theorem jF {f : XE'} {r : Rho} {m : Mu} {d : D} {b : List Nat} (h : f r m = .ok d m) (hf : fmtD d m = .ok (.str (S b)) m) : xFmt f r m = .ok (.str (S b)) m := by
  show (f r m).bind fmtD = _
  rw [h]
  exact hf
theorem jN {g : XJ} {r : Rho} {m : Mu} {b : List Nat} (h : g (S []) r m = .ok (S b) m) : xJoin g r m = .ok (wD b) m := by
  show (g Str.empty r m).bind _ = _
  rw [show g Str.empty r m = .ok (S b) m from h]
  rfl
theorem fmt_num {r : Nat} (h : r < 10) (m : Mu) : fmtD (.int (r : Nat)) m = .ok (.str (S [48 + r])) m := by
  have := str_num h m
  unfold strF at this
  unfold fmtD
  exact this
theorem fmt_w {l : List Nat} (h : l.length ≤ 100000) (m : Mu) : fmtD (.str (S l)) m = .ok (.str (S l)) m := by
  show (if (S l).length ≤ sizeLine then _ else _) = _
  rw [S_len', if_pos (le_line h)]
theorem kl2 : (K "Book of ").length = 8 ∧ (K " plans").length = 6 ∧ (K "plan ").length = 5 ∧ (K " base ").length = 6 := by decide +kernel
def brep (n : Nat) : List Nat := K "Book of " ++ [48 + n] ++ K " plans"
/-! ### plan(name) -/
end J

/-! # GM: the text of a book -/
namespace J
open PySem PySem.Spec PyProof.Rows L2 DS
open SX (S)
def Mt.head (p : Mt) : List Nat := K "plan " ++ p.nm ++ K " " ++ p.goal.text ++ K " base " ++ [48 + p.base]
def Mt.lines (p : Mt) : List (List Nat) := p.head :: p.rounds.map rline
def Mt.text (p : Mt) : List Nat := TL.joinL [10] p.lines
structure MtS (p : Mt) : Prop where
  nm : p.nm.length ≤ 8
  goal : p.goal.text.length ≤ 6
  base : p.base ≤ 4
  len : p.rounds.length ≤ 5
  ok : ∀ r ∈ p.rounds, (rline r).length ≤ 168
theorem Mates.small {ms : List Mt} {many : Nat} (h : Mates ms many) (hy : many ≤ 5) {p : Mt} (hp : p ∈ ms) : MtS p := by
  obtain ⟨i, hi⟩ := List.getElem?_of_mem hp
  have q := h.ok i p hi
  exact ⟨name_len (h.nmok p hp), q.goal.len, q.base, Nat.le_trans q.len hy, fun r hr => (q.ok r hr).line_len⟩
theorem MtS.head_len {p : Mt} (h : MtS p) : p.head.length ≤ 100 := by
  obtain ⟨_, _, k3, k4⟩ := kl2
  have := h.nm
  have := h.goal
  unfold Mt.head
  simp only [List.length_append, k3, k4, kl.2.2.2.2.1, List.length_cons, List.length_nil]
  omega
theorem lines_len {p : Mt} (h : MtS p) : ∀ l ∈ p.lines, l.length ≤ 168 := fun l hl => by
  unfold Mt.lines at hl
  rw [List.mem_cons] at hl
  rcases hl with rfl | hl
  · have := h.head_len; omega
  · obtain ⟨r, hr, rfl⟩ := List.mem_map.mp hl
    exact h.ok r hr
theorem lines_num {p : Mt} (h : MtS p) : p.lines.length ≤ 6 := by
  unfold Mt.lines
  rw [List.length_cons, List.length_map]
  have := h.len
  omega
theorem joinL_ne {sep : List Nat} {q : List (List Nat)} (hq : q ≠ []) : ∀ (r : List (List Nat)) (a : List Nat), TL.joinL sep ((a :: r) ++ q) = TL.joinL sep (a :: r) ++ (sep ++ TL.joinL sep q)
  | [], a => joinL_cons hq
  | b :: r, a => by
    have e1 : TL.joinL sep (a :: ((b :: r) ++ q)) = a ++ (sep ++ TL.joinL sep ((b :: r) ++ q)) := joinL_cons (by simp)
    have e2 : TL.joinL sep (a :: b :: r) = a ++ (sep ++ TL.joinL sep (b :: r)) := rfl
    show TL.joinL sep (a :: ((b :: r) ++ q)) = _
    rw [e1, e2, joinL_ne hq r b]
    simp only [List.append_assoc]
theorem joinL_flat {sep : List Nat} : ∀ {ls : List (List (List Nat))}, (∀ l ∈ ls, l ≠ []) → TL.joinL sep (ls.map (TL.joinL sep)) = TL.joinL sep ls.flatten
  | [], _ => rfl
  | [l], _ => by simp [TL.joinL]
  | l :: l' :: r, h => by
    have ih := joinL_flat (sep := sep) (ls := l' :: r) fun x hx => h x (List.mem_cons_of_mem _ hx)
    have hl := h l (List.mem_cons_self ..)
    have hl' := h l' (by simp)
    obtain ⟨a, q, rfl⟩ := List.exists_cons_of_ne_nil hl
    have hne : (l' :: r).flatten ≠ [] := fun e => by
      rw [List.flatten_cons, List.append_eq_nil_iff] at e
      exact hl' e.1
    have e0 : ((a :: q) :: l' :: r).flatten = (a :: q) ++ (l' :: r).flatten := rfl
    rw [e0, joinL_ne hne q a, ← ih]
    exact joinL_cons (by simp)
def btext (ms : List Mt) : List Nat := TL.joinL [10] (ms.map Mt.lines).flatten
end J

/-! # GN: the law's own text of a book -/
namespace J
open PySem PySem.Spec PyProof.Rows L2 DS
open SX (S)
theorem flat_take {ms : List Mt} {k : Nat} {p : Mt} (h : ms[k]? = some p) : ((ms.take (k + 1)).map Mt.lines).flatten = ((ms.take k).map Mt.lines).flatten ++ p.lines := by
  have e : ms.take (k + 1) = ms.take k ++ [p] := by rw [List.take_succ, h]; rfl
  rw [e, List.map_append, List.flatten_append]
  simp
theorem flat_len {ms : List Mt} (h : ∀ p ∈ ms, MtS p) : (ms.map Mt.lines).flatten.length ≤ 6 * ms.length := by
  induction ms with
  | nil => simp
  | cons p r ih =>
    have h1 := lines_num (h p (List.mem_cons_self ..))
    have h2 := ih fun q hq => h q (List.mem_cons_of_mem _ hq)
    rw [List.map_cons, List.flatten_cons, List.length_append, List.length_cons]
    omega
end J

/-! # GO: reprs of drawn books -/
namespace J
open PySem PySem.Spec PyProof.Rows L2 DS
open SX (S)
theorem Dc.Ok.small {c : Dc} (h : c.Ok) : ∀ x ∈ c.line, x < 128 := fun x hx => by
  have hrs := h.rs
  have hs3 := h.s3
  have kw : ∀ w ∈ [K "call", K "on", K "of", K "clear"], ∀ x ∈ w, x < 128 := by decide +kernel
  have kw2 : ∀ b, ∀ x ∈ K (wrd b), x < 128 := by decide +kernel
  have kw3 : ∀ b, ∀ x ∈ K (sde b), x < 128 := by decide +kernel
  rcases mem_joinL hx with q | ⟨w, hw, q⟩
  · simp at q; omega
  · cases c with
    | call r s g =>
      change r < s at hrs
      change s ≤ 3 at hs3
      simp only [Dc.words, List.mem_cons, List.not_mem_nil, or_false] at hw
      rcases hw with rfl | rfl | rfl | rfl | rfl | rfl
      · exact kw _ (by simp) x q
      · exact name_small (h.nm _ _ _ rfl) x q
      · exact kw _ (by simp) x q
      · simp at q; omega
      · exact kw _ (by simp) x q
      · simp at q; omega
    | clear r s =>
      change r < s at hrs
      change s ≤ 3 at hs3
      simp only [Dc.words, List.mem_cons, List.not_mem_nil, or_false] at hw
      rcases hw with rfl | rfl | rfl | rfl
      · exact kw _ (by simp) x q
      · simp at q; omega
      · exact kw _ (by simp) x q
      · simp at q; omega
    | act w' r s sd f =>
      change r < s at hrs
      change s ≤ 3 at hs3
      have hf := h.fr _ _ _ _ _ rfl
      simp only [Dc.words, List.mem_cons, List.not_mem_nil, or_false] at hw
      rcases hw with rfl | rfl | rfl | rfl | rfl | rfl
      · exact kw2 _ x q
      · simp at q; omega
      · exact kw _ (by simp) x q
      · simp at q; omega
      · exact kw3 _ x q
      · simp at q; omega
theorem DR.small {lower tags : List (List Nat)} {r : List Dc} (h : DR lower tags r) : ∀ x ∈ rline r, x < 128 := fun x hx => by
  rcases mem_joinL hx with q | ⟨l, hl, q⟩
  · simp at q; omega
  · obtain ⟨c, hc, rfl⟩ := List.mem_map.mp hl
    exact (h.ok c hc).small x q
theorem Go.Ok.small {g : Go} (h : g.Ok) : ∀ x ∈ g.text, x < 128 := by
  cases g with
  | all => decide +kernel
  | before => decide +kernel
  | last n =>
    have : n = 1 ∨ n = 2 ∨ n = 3 ∨ n = 4 := by have := h.1; have := h.2; omega
    rcases this with rfl | rfl | rfl | rfl <;> decide +kernel
theorem shw_w {l : List Nat} {w : Nat} (h : ∀ x ∈ l, x < 128) (hl : l.length ≤ w) : Shw (wP l) 0 w := by
  refine ⟨rfl, Nat.le_refl _, rfl, ?_, ?_, ?_⟩
  · show (l.all fun c => decide (c < 16 ^ 8)) = true
    rw [List.all_eq_true]
    intro c hc
    have := h c hc
    rw [decide_eq_true_eq]
    omega
  · show (S l).cps.size ≤ w
    simpa using hl
  · exact strOk_S h
theorem Shw.cons' {p : PyData} {ps : List PyData} {k w v : Nat} (h : Shw p k w) (g : ShwL ps k v) : ShwL (p :: ps) k (w + 1 + v) := ShwL.cons h g
theorem Shw.up {p : PyData} {k k' w w' : Nat} (h : Shw p k w) (hk : k ≤ k') (hw : w ≤ w') : Shw p k' w' := ⟨h.sh, Nat.le_trans h.dp hk, h.nd, h.lv, Nat.le_trans h.wt hw, h.ly⟩
theorem shw_int {n : Nat} (h : n < 10) : Shw (.int (n : Nat)) 0 8 := by
  have : n = 0 ∨ n = 1 ∨ n = 2 ∨ n = 3 ∨ n = 4 ∨ n = 5 ∨ n = 6 ∨ n = 7 ∨ n = 8 ∨ n = 9 := by omega
  rcases this with rfl | rfl | rfl | rfl | rfl | rfl | rfl | rfl | rfl | rfl <;> exact ⟨rfl, Nat.le_refl _, rfl, rfl, by decide +kernel, rfl⟩
def Mt.pP (p : Mt) : PyData := .tuple [wP p.nm, wP p.goal.text, .int p.base, .tuple (p.rounds.map fun r => wP (rline r))]
theorem toP_parts (p : Mt) : toP p.parts = some p.pP := by
  have e : toPs ((p.rounds.map rline).map wD) = some ((p.rounds.map rline).map wP) := toPs_w _
  rw [List.map_map, List.map_map] at e
  show toP (.tup [wD p.nm, wD p.goal.text, .int p.base, .tup (p.rounds.map (wD ∘ rline))]) = _
  have e' : toP (.tup (p.rounds.map (wD ∘ rline))) = some (.tuple (p.rounds.map (wP ∘ rline))) := by rw [toP, e]; rfl
  rw [toP, toPs, toPs, toPs, toPs, e', toPs]
  rfl
theorem toPs_parts : ∀ ms : List Mt, toPs (ms.map Mt.parts) = some (ms.map Mt.pP)
  | [] => rfl
  | p :: r => by rw [List.map_cons, toPs, toP_parts, toPs_parts r]; rfl
theorem shw_parts {tags : List (List Nat)} {many i : Nat} {p : Mt} (h : MtOk tags many i p) (hn : nameL p.nm = true) (hy : many ≤ 5) : Shw p.pP 2 1000 := by
  have h5 := h.len
  have a1 := shw_w (w := 8) (name_small hn) (name_len hn)
  have a2 := shw_w (w := 6) h.goal.small h.goal.len
  have a3 := shw_int (n := p.base) (by have := h.base; omega)
  have a4 : Shw (.tuple (p.rounds.map fun r => wP (rline r))) 1 (169 * (p.rounds.map fun r => wP (rline r)).length) := .tup (ShwL.all fun q hq => by
    obtain ⟨r, hr, rfl⟩ := List.mem_map.mp hq
    exact shw_w (h.ok r hr).small (h.ok r hr).line_len)
  rw [List.length_map] at a4
  have a5 : ShwL [wP p.nm, wP p.goal.text, .int p.base, .tuple (p.rounds.map fun r => wP (rline r))] 1 _ := (a1.up (Nat.zero_le 1) (Nat.le_refl _)).cons' ((a2.up (Nat.zero_le 1) (Nat.le_refl _)).cons' ((a3.up (Nat.zero_le 1) (Nat.le_refl _)).cons' (a4.cons' (ShwL.nil (w := 0)))))
  exact (Shw.tup a5).up (Nat.le_refl _) (by omega)
theorem repr_ex {d : D} {p : PyData} {k w : Nat} (hd : ∀ m, dere m d = d) (e : toP d = some p) (h : Shw p k w) (hk : k ≤ 60) (hw : w ≤ 400000) : ∃ z : Str, ∀ m, reprF [d] m = .ok (.str z) m := ⟨p.shown, fun m => repr_of (by rw [hd]; exact e) h hk hw⟩
theorem repr_sok {d : D} {p : PyData} {k w : Nat} (hd : ∀ m, dere m d = d) (e : toP d = some p) (h : Shw p k w) (hk : k ≤ 60) (hw : w ≤ 400000) : ∃ z : Str, Sok z ∧ ∀ m, reprF [d] m = .ok (.str z) m := ⟨p.shown, shown_sok p h.ly, fun m => repr_of (by rw [hd]; exact e) h hk hw⟩
theorem Mates.shw {ms : List Mt} {many : Nat} (h : Mates ms many) (hy : many ≤ 5) : ∀ p ∈ ms, Shw p.pP 2 1000 := fun p hp => by
  obtain ⟨i, hi⟩ := List.getElem?_of_mem hp
  exact shw_parts (h.ok i p hi) (h.nmok p hp) hy
theorem Mates.shw_held {ms : List Mt} {many : Nat} (h : Mates ms many) (hl : ms.length ≤ 4) (hy : many ≤ 5) : Shw (.tuple (ms.map Mt.pP)) 3 4004 := by
  have := Shw.tup (ShwL.all (ps := ms.map Mt.pP) fun q hq => by
    obtain ⟨p, hp, rfl⟩ := List.mem_map.mp hq
    exact h.shw hy p hp)
  rw [List.length_map] at this
  exact this.up (Nat.le_refl _) (by omega)
theorem toP_held (ms : List Mt) : toP (.tup (ms.map Mt.parts)) = some (.tuple (ms.map Mt.pP)) := by rw [toP, toPs_parts]; rfl
end J

/-! # GU: the turns of a law over a store that holds more -/
namespace J
open PySem PySem.Spec PyProof.Rows L2 DS
open SX (S)
theorem lc_allB {B : Mu} {i : Nat} {te : XE'} {r0 : Rho} {xs : List D} (hl : xs.length ≤ 1000) (h : ∀ x ∈ xs, ∀ c ν, ∃ ν', te (r0.set i (some x)) (B ++ c :: ν) = .ok (.bl true) (B ++ c :: ν')) : lcD (gNm i) xYes te r0 xs B = .ok (.lst (xs.map fun _ => .bl true)) B := by
  have at0 : ∀ (c : Cell) (ν : Mu), (B ++ c :: ν)[B.length]? = some c := fun c ν => by simp
  have st0 : ∀ (c d : Cell) (ν : Mu), (B ++ c :: ν).set B.length d = B ++ d :: ν := fun c d ν => by simp
  have go : ∀ (ys : List D) (acc : List D) (ν : Mu), (∀ y ∈ ys, y ∈ xs) → acc.length + ys.length ≤ 1000 → (∀ a ∈ acc, a = .bl true) → ∃ ν', lcF (gNm i) xYes te B.length r0 ys (B ++ .lst acc :: ν) = .ok () (B ++ .lst (acc ++ ys.map fun _ => .bl true) :: ν') := fun ys => by
    induction ys with
    | nil => intro acc ν _ _ _; exact ⟨ν, by simp [lcF]⟩
    | cons y ys ih =>
      intro acc ν hm hl ha
      rw [List.length_cons] at hl
      obtain ⟨ν1, e1⟩ := h y (hm y (List.mem_cons_self ..)) (.lst acc) ν
      have e : pushD B.length (.bl true) (B ++ .lst acc :: ν1) = .ok () (B ++ .lst (acc ++ [.bl true]) :: ν1) := by
        unfold pushD
        simp only [at0]
        rw [if_pos ⟨rfl, by unfold sizeLine; omega⟩, st0]
      obtain ⟨ν2, e2⟩ := ih (acc ++ [.bl true]) ν1 (fun z hz => hm z (List.mem_cons_of_mem _ hz)) (by rw [List.length_append]; simp; omega) (fun a h => by
        rw [List.mem_append, List.mem_singleton] at h
        exact h.elim (ha a) id)
      refine ⟨ν2, ?_⟩
      rw [lcF]
      simp only [gNm, Out.ne, Out.bind, xYes, if_true, e1, e]
      rw [e2]
      simp
  obtain ⟨ν', e⟩ := go xs [] [] (fun _ h => h) (by simpa using hl) (fun a h => by cases h)
  unfold lcD
  rw [e]
  show lcEnd B.length _ = _
  unfold lcEnd
  simp only [at0, List.nil_append]
  congr 1
  simp
theorem drawnB {ns : List Int} {N i : Nat} {right : Fn} {rest : XA} {es : List D} {B : Mu} {r0 : Rho} (h0 : r0[0]? = some (some (.fix (ns.map .int)))) (hi : 0 < i) (hil : i < r0.length) (hN : N ≤ 90) (hr : ∀ x m, rest (r0.set i (some x)) m = .ok es m)
    (h : ∀ (n : Nat) (μ ν : Mu), Cup n μ → μ = B ++ ν → B.length < n → ∃ μ', right (.loc n :: es) μ = .ok (.bl true) μ' ∧ Sip n μ μ') :
    lcD (gNm i) xYes (xCall right (xaCons (xCall F__law_purse (xaCons (xCall F__law_cell (xaCons (xVar 0) (xaCons (xVar i) xaNil))) xaNil)) rest)) r0 (rngL 0 N) B = .ok (.lst ((rngL 0 N).map fun _ => .bl true)) B := by
  refine lc_allB (by simp [rngL]; omega) fun x hx c ν => ?_
  obtain ⟨k, hk, rfl⟩ : ∃ k : Nat, k < N ∧ x = .int k := by
    unfold rngL at hx
    obtain ⟨k, hk, rfl⟩ := List.mem_map.mp hx
    exact ⟨k, List.mem_range.mp hk, by rw [Int.zero_add]⟩
  obtain ⟨v, e0⟩ := cell_ok ns k (by omega) (B ++ c :: ν)
  obtain ⟨c1, c2, c3, e1⟩ := purse_ok v (B ++ c :: ν)
  have hc : Cup (B ++ c :: ν).length ((B ++ c :: ν) ++ [cupC c1 c2 c3]) := ⟨c1, c2, c3, by simp⟩
  obtain ⟨m2, e2, s2⟩ := h _ _ (c :: (ν ++ [cupC c1 c2 c3])) hc (by simp) (by simp)
  obtain ⟨a, b, d, rfl⟩ := s2
  refine ⟨ν ++ [cupC a b d], ?_⟩
  have g0 : (r0.set i (some (.int (k : Nat))))[0]? = some (some (.fix (ns.map .int))) := by rw [List.getElem?_set_ne (by omega)]; exact h0
  have gi : (r0.set i (some (.int (k : Nat))))[i]? = some (some (.int (k : Nat))) := List.getElem?_set_self hil
  rw [w_call (wa_cons (w_call (wa_1 (w_call (wa_2 (w_var g0) (w_var gi)) e0)) e1) (hr _ _)) e2]
  congr 1
  simp
theorem turns {ns : List Int} {k : Nat} {r : Rho} {m : Mu} (h0 : r[0]? = some (some (.fix (ns.map .int)))) (hk : k ≤ 80) : xiRng1 (xaCons (xCall maxF (xaCons (xC (.int 2)) (xaCons (xCall minF (xaCons (xCall lenD (xaCons (xVar 0) xaNil)) (xaCons (xC (.int (k : Nat))) xaNil))) xaNil))) xaNil) r m = .ok (rngL 0 (max 2 (min ns.length k))) m :=
  wi_rng1 (w_call (wa_2 w_c (w_call (wa_2 (w_call (wa_1 (w_var h0)) (len_fix ns m)) w_c) (min_ok ns.length k m))) (max_ok 2 (min ns.length k) m)) (by omega)
end J

/-! # EA: what _law_error and _law_caught answer (made by mkea.py) -/
namespace J
open PySem PySem.Spec PyProof.Rows L2 DS
theorem isx {k : Hx} {c d : Str} {b : Bool} {fs : List (Str × D)} {m : Mu} (hk : k.c = c) (h : (decide (c ∈ exT.nm) && (decide (d ∈ exT.nm) && (exT.own c d == b))) = true) : isiX k exT exBs [.exn k fs, .glo d] m = .ok (.bl b) m := by
  simp only [Bool.and_eq_true, decide_eq_true_eq, beq_iff_eq] at h
  unfold isiX
  simp only [hk, h.1, h.2.1, h.2.2, true_and, if_true]
theorem isy {k : Hx} {c : Str} {d : String} {b : Bool} {fs : List (Str × D)} {m : Mu} (hk : k.c = c) (h : (decide (c ∈ exT.nm) && (decide (d ∈ exBs) && (exT.blt c d == b))) = true) : isiX k exT exBs [.exn k fs, .ty d] m = .ok (.bl b) m := by
  simp only [Bool.and_eq_true, decide_eq_true_eq, beq_iff_eq] at h
  unfold isiX
  simp only [hk, h.1, h.2.1, h.2.2, true_and, if_true]
theorem isn {k : Hx} {d : Str} {fs : List (Str × D)} {m : Mu} (h : k.c ∉ exT.nm) : isiX k exT exBs [.exn k fs, .glo d] m = .stuck := by
  unfold isiX
  simp only [h, false_and, and_false, if_false]
def getX (f : Str) (fs : List (Str × D)) (m : Mu) : Out D := match fs.lookup f with
  | some v => .ok v m
  | none => .stuck
theorem xef {k : Hx} {c f : Str} {fs : List (Str × D)} {r : Rho} {m : Mu} (hk : k.c = c) (h : decide (c ∈ exT.nm) = true) : xExF k exT f (xVar 0) (some (.exn k fs) :: r) m = getX f fs m := by
  show (match (D.exn k fs) with
    | .exn k' gs => if k' = k ∧ k'.c ∈ exT.nm then (match gs.lookup f with
      | some v => Out.ok v m
      | none => .stuck) else .stuck
    | _ => .stuck) = _
  simp only [hk, of_decide_eq_true h, and_self, if_true]
  rfl
theorem repr_or (d : D) (m : Mu) : (∃ z, reprF [d] m = .ok (.str z) m) ∨ reprF [d] m = .stuck := by
  unfold reprF
  simp only
  split
  · split
    · exact .inl ⟨_, rfl⟩
    · exact .inr rfl
  · exact .inr rfl
def errR (c : Str) (d : D) (m : Mu) : Out D := match reprF [d] m with
  | .ok (.str z) _ => .ok (.lst [.str c, .str z]) m
  | _ => .stuck
def errG (c f : Str) (fs : List (Str × D)) (m : Mu) : Out D := match fs.lookup f with
  | some v => errR c v m
  | none => .stuck
def errB (c : Str) (fs : List (Str × D)) (m : Mu) : Out D := match fs.lookup ("index" : Str), fs.lookup ("shown" : Str) with
  | some a, some b => errR c (.lst [a, b]) m
  | _, _ => .stuck
theorem err_at {c f : Str} {v : D} {z : Str} {m : Mu} (h : reprF [v] m = .ok (.str z) m) : errG c f [(f, v)] m = .ok (.lst [.str c, .str z]) m := by
  unfold errG errR
  rw [List.lookup_cons, beq_self_eq_true]
  simp only [h]
theorem XL : (∀ {a b c d e f : D} {m : Mu}, addD (.lst [a, b, c]) (.lst [d, e, f]) m = .ok (.lst [a, b, c, d, e, f]) m) ∧ (∀ {a b c d e f g h i : D} {m : Mu}, addD (.lst [a, b, c, d, e, f]) (.lst [g, h, i]) m = .ok (.lst [a, b, c, d, e, f, g, h, i]) m) ∧
  (∀ {a b c d e f g h i j k l : D} {m : Mu}, addD (.lst [a, b, c, d, e, f, g, h, i]) (.lst [j, k, l]) m = .ok (.lst [a, b, c, d, e, f, g, h, i, j, k, l]) m) ∧ (∀ {a b c d e f g h i j k l : D} {m : Mu}, addD (.lst [a, b, c, d, e, f]) (.lst [g, h, i, j, k, l]) m = .ok (.lst [a, b, c, d, e, f, g, h, i, j, k, l]) m) := by
  refine ⟨?_, ?_, ?_, ?_⟩ <;> intros <;> rfl
theorem xln {f : XA} {r : Rho} {m : Mu} (h : f r m = .stuck) : xLst f r m = .stuck := by
  show (f r m).bind _ = _
  rw [h]
  rfl

theorem er_InvalidText {k : Hx} (hk : k.c = "InvalidText") {fs : List (Str × D)} {m : Mu} : F__law_error k [.exn k fs] m = errG "InvalidText" "given" fs m := by
  have c1 : ∀ m, lcntF [.lst [.bl true, .bl false, .bl false, .bl false, .bl false, .bl false, .bl false, .bl false, .bl false, .bl false, .bl false, .bl false], .bl true] m = .ok (.int 1) m := fun _ => rfl
  have c2 : ∀ m, neD (.lst [.bl true, .bl false, .bl false]) (.lst [.bl true, .bl false, .bl false]) m = .ok (.bl false) m := fun _ => rfl
  have c3 : ∀ m, lixF [.lst [.bl true, .bl false, .bl false, .bl false, .bl false, .bl false, .bl false, .bl false, .bl false, .bl false, .bl false, .bl false], .bl true] m = .ok (.int 0) m := fun _ => rfl
  have c4 : ∀ m, ixD (.lst [.str "InvalidText", .str "InvalidCount", .str "InvalidPlace", .str "InvalidClaim", .str "NotABook", .str "InvalidPlans", .str "InvalidPieces", .str "UnknownPlan", .str "TooLong", .str "IsOver", .str "NothingToUndo", .str "Broken"]) (.int 0) m = .ok (.str "InvalidText") m := fun _ => rfl
  have d1 : decide (((0 : Nat) : Int) < 7) = true := rfl
  have d2 : decide ((7 : Int) < 0) = false := rfl
  have d3 : ((0 : Int) == 7) = false := rfl
  have d4 : decide ((0 : Int) < 5) = true := rfl
  have d5 : ((0 : Int) == 8) = false := rfl
  have d6 : ((0 : Int) == 11) = false := rfl
  have d7 : decide ((0 : Int) < 7) = true := rfl
  have d8 : ((1 : Int) == 1) = true := rfl
  simp only [FA, SL, Nat.reduceSub, Nat.reduceAdd, AP, PAR, AB, LS, OI, EQ, IX, TD, eqK, if_true, if_false, Bool.not_true, Bool.not_false, Bool.false_eq_true, List.take_length, exit_bl, exit_int, exit_non, exit_str, decide_true, decide_false, F__law_error, B__law_error, XL, c1, c2, c3, c4, d1, d2, d3, d4, d5, d6, d7, d8, xef (f := "given") hk (by decide +kernel), isx (d := "InvalidText") (b := true) hk (by decide +kernel), isx (d := "InvalidCount") (b := false) hk (by decide +kernel), isx (d := "InvalidPlace") (b := false) hk (by decide +kernel), isx (d := "InvalidClaim") (b := false) hk (by decide +kernel), isx (d := "NotABook") (b := false) hk (by decide +kernel), isx (d := "InvalidPlans") (b := false) hk (by decide +kernel), isx (d := "InvalidPieces") (b := false) hk (by decide +kernel), isx (d := "UnknownPlan") (b := false) hk (by decide +kernel), isx (d := "TooLong") (b := false) hk (by decide +kernel), isx (d := "IsOver") (b := false) hk (by decide +kernel), isx (d := "NothingToUndo") (b := false) hk (by decide +kernel), isx (d := "Broken") (b := false) hk (by decide +kernel), isx (d := "NotRight") (b := true) hk (by decide +kernel), isx (d := "NotThere") (b := false) hk (by decide +kernel), isx (d := "CannotBe") (b := false) hk (by decide +kernel), isy (d := "ValueError") (b := true) hk (by decide +kernel), isy (d := "LookupError") (b := false) hk (by decide +kernel), isy (d := "ArithmeticError") (b := false) hk (by decide +kernel)]
  unfold getX errG
  cases h1 : fs.lookup ("given" : Str) with
  | none => rfl
  | some a =>
    simp only [FA, SL, Nat.reduceSub, Nat.reduceAdd, AP, PAR, AB, LS, OI, EQ, IX, TD, eqK, if_true, if_false, Bool.not_true, Bool.not_false, Bool.false_eq_true, List.take_length, exit_bl, exit_int, exit_non, exit_str, decide_true, decide_false]
    rcases repr_or a m with ⟨z, e⟩ | e
    · simp only [FA, SL, Nat.reduceSub, Nat.reduceAdd, AP, PAR, AB, LS, OI, EQ, IX, TD, eqK, if_true, if_false, Bool.not_true, Bool.not_false, Bool.false_eq_true, List.take_length, exit_bl, exit_int, exit_non, exit_str, decide_true, decide_false, errR, e]
      rw [exit_in rfl, List.take_length]
    · simp only [FA, SL, Nat.reduceSub, Nat.reduceAdd, AP, PAR, AB, LS, OI, EQ, IX, TD, eqK, if_true, if_false, Bool.not_true, Bool.not_false, Bool.false_eq_true, List.take_length, exit_bl, exit_int, exit_non, exit_str, decide_true, decide_false, errR, e]
      rfl
theorem er_InvalidCount {k : Hx} (hk : k.c = "InvalidCount") {fs : List (Str × D)} {m : Mu} : F__law_error k [.exn k fs] m = errG "InvalidCount" "given" fs m := by
  have c1 : ∀ m, lcntF [.lst [.bl false, .bl true, .bl false, .bl false, .bl false, .bl false, .bl false, .bl false, .bl false, .bl false, .bl false, .bl false], .bl true] m = .ok (.int 1) m := fun _ => rfl
  have c2 : ∀ m, neD (.lst [.bl true, .bl false, .bl false]) (.lst [.bl true, .bl false, .bl false]) m = .ok (.bl false) m := fun _ => rfl
  have c3 : ∀ m, lixF [.lst [.bl false, .bl true, .bl false, .bl false, .bl false, .bl false, .bl false, .bl false, .bl false, .bl false, .bl false, .bl false], .bl true] m = .ok (.int 1) m := fun _ => rfl
  have c4 : ∀ m, ixD (.lst [.str "InvalidText", .str "InvalidCount", .str "InvalidPlace", .str "InvalidClaim", .str "NotABook", .str "InvalidPlans", .str "InvalidPieces", .str "UnknownPlan", .str "TooLong", .str "IsOver", .str "NothingToUndo", .str "Broken"]) (.int 1) m = .ok (.str "InvalidCount") m := fun _ => rfl
  have d1 : decide (((1 : Nat) : Int) < 7) = true := rfl
  have d2 : decide ((7 : Int) < 1) = false := rfl
  have d3 : ((1 : Int) == 7) = false := rfl
  have d4 : decide ((1 : Int) < 5) = true := rfl
  have d5 : ((1 : Int) == 8) = false := rfl
  have d6 : ((1 : Int) == 11) = false := rfl
  have d7 : decide ((1 : Int) < 7) = true := rfl
  have d8 : ((1 : Int) == 1) = true := rfl
  simp only [FA, SL, Nat.reduceSub, Nat.reduceAdd, AP, PAR, AB, LS, OI, EQ, IX, TD, eqK, if_true, if_false, Bool.not_true, Bool.not_false, Bool.false_eq_true, List.take_length, exit_bl, exit_int, exit_non, exit_str, decide_true, decide_false, F__law_error, B__law_error, XL, c1, c2, c3, c4, d1, d2, d3, d4, d5, d6, d7, d8, xef (f := "given") hk (by decide +kernel), isx (d := "InvalidText") (b := false) hk (by decide +kernel), isx (d := "InvalidCount") (b := true) hk (by decide +kernel), isx (d := "InvalidPlace") (b := false) hk (by decide +kernel), isx (d := "InvalidClaim") (b := false) hk (by decide +kernel), isx (d := "NotABook") (b := false) hk (by decide +kernel), isx (d := "InvalidPlans") (b := false) hk (by decide +kernel), isx (d := "InvalidPieces") (b := false) hk (by decide +kernel), isx (d := "UnknownPlan") (b := false) hk (by decide +kernel), isx (d := "TooLong") (b := false) hk (by decide +kernel), isx (d := "IsOver") (b := false) hk (by decide +kernel), isx (d := "NothingToUndo") (b := false) hk (by decide +kernel), isx (d := "Broken") (b := false) hk (by decide +kernel), isx (d := "NotRight") (b := true) hk (by decide +kernel), isx (d := "NotThere") (b := false) hk (by decide +kernel), isx (d := "CannotBe") (b := false) hk (by decide +kernel), isy (d := "ValueError") (b := true) hk (by decide +kernel), isy (d := "LookupError") (b := false) hk (by decide +kernel), isy (d := "ArithmeticError") (b := false) hk (by decide +kernel)]
  unfold getX errG
  cases h1 : fs.lookup ("given" : Str) with
  | none => rfl
  | some a =>
    simp only [FA, SL, Nat.reduceSub, Nat.reduceAdd, AP, PAR, AB, LS, OI, EQ, IX, TD, eqK, if_true, if_false, Bool.not_true, Bool.not_false, Bool.false_eq_true, List.take_length, exit_bl, exit_int, exit_non, exit_str, decide_true, decide_false]
    rcases repr_or a m with ⟨z, e⟩ | e
    · simp only [FA, SL, Nat.reduceSub, Nat.reduceAdd, AP, PAR, AB, LS, OI, EQ, IX, TD, eqK, if_true, if_false, Bool.not_true, Bool.not_false, Bool.false_eq_true, List.take_length, exit_bl, exit_int, exit_non, exit_str, decide_true, decide_false, errR, e]
      rw [exit_in rfl, List.take_length]
    · simp only [FA, SL, Nat.reduceSub, Nat.reduceAdd, AP, PAR, AB, LS, OI, EQ, IX, TD, eqK, if_true, if_false, Bool.not_true, Bool.not_false, Bool.false_eq_true, List.take_length, exit_bl, exit_int, exit_non, exit_str, decide_true, decide_false, errR, e]
      rfl
theorem er_InvalidPlace {k : Hx} (hk : k.c = "InvalidPlace") {fs : List (Str × D)} {m : Mu} : F__law_error k [.exn k fs] m = errG "InvalidPlace" "given" fs m := by
  have c1 : ∀ m, lcntF [.lst [.bl false, .bl false, .bl true, .bl false, .bl false, .bl false, .bl false, .bl false, .bl false, .bl false, .bl false, .bl false], .bl true] m = .ok (.int 1) m := fun _ => rfl
  have c2 : ∀ m, neD (.lst [.bl true, .bl false, .bl false]) (.lst [.bl true, .bl false, .bl false]) m = .ok (.bl false) m := fun _ => rfl
  have c3 : ∀ m, lixF [.lst [.bl false, .bl false, .bl true, .bl false, .bl false, .bl false, .bl false, .bl false, .bl false, .bl false, .bl false, .bl false], .bl true] m = .ok (.int 2) m := fun _ => rfl
  have c4 : ∀ m, ixD (.lst [.str "InvalidText", .str "InvalidCount", .str "InvalidPlace", .str "InvalidClaim", .str "NotABook", .str "InvalidPlans", .str "InvalidPieces", .str "UnknownPlan", .str "TooLong", .str "IsOver", .str "NothingToUndo", .str "Broken"]) (.int 2) m = .ok (.str "InvalidPlace") m := fun _ => rfl
  have d1 : decide (((2 : Nat) : Int) < 7) = true := rfl
  have d2 : decide ((7 : Int) < 2) = false := rfl
  have d3 : ((2 : Int) == 7) = false := rfl
  have d4 : decide ((2 : Int) < 5) = true := rfl
  have d5 : ((2 : Int) == 8) = false := rfl
  have d6 : ((2 : Int) == 11) = false := rfl
  have d7 : decide ((2 : Int) < 7) = true := rfl
  have d8 : ((1 : Int) == 1) = true := rfl
  simp only [FA, SL, Nat.reduceSub, Nat.reduceAdd, AP, PAR, AB, LS, OI, EQ, IX, TD, eqK, if_true, if_false, Bool.not_true, Bool.not_false, Bool.false_eq_true, List.take_length, exit_bl, exit_int, exit_non, exit_str, decide_true, decide_false, F__law_error, B__law_error, XL, c1, c2, c3, c4, d1, d2, d3, d4, d5, d6, d7, d8, xef (f := "given") hk (by decide +kernel), isx (d := "InvalidText") (b := false) hk (by decide +kernel), isx (d := "InvalidCount") (b := false) hk (by decide +kernel), isx (d := "InvalidPlace") (b := true) hk (by decide +kernel), isx (d := "InvalidClaim") (b := false) hk (by decide +kernel), isx (d := "NotABook") (b := false) hk (by decide +kernel), isx (d := "InvalidPlans") (b := false) hk (by decide +kernel), isx (d := "InvalidPieces") (b := false) hk (by decide +kernel), isx (d := "UnknownPlan") (b := false) hk (by decide +kernel), isx (d := "TooLong") (b := false) hk (by decide +kernel), isx (d := "IsOver") (b := false) hk (by decide +kernel), isx (d := "NothingToUndo") (b := false) hk (by decide +kernel), isx (d := "Broken") (b := false) hk (by decide +kernel), isx (d := "NotRight") (b := true) hk (by decide +kernel), isx (d := "NotThere") (b := false) hk (by decide +kernel), isx (d := "CannotBe") (b := false) hk (by decide +kernel), isy (d := "ValueError") (b := true) hk (by decide +kernel), isy (d := "LookupError") (b := false) hk (by decide +kernel), isy (d := "ArithmeticError") (b := false) hk (by decide +kernel)]
  unfold getX errG
  cases h1 : fs.lookup ("given" : Str) with
  | none => rfl
  | some a =>
    simp only [FA, SL, Nat.reduceSub, Nat.reduceAdd, AP, PAR, AB, LS, OI, EQ, IX, TD, eqK, if_true, if_false, Bool.not_true, Bool.not_false, Bool.false_eq_true, List.take_length, exit_bl, exit_int, exit_non, exit_str, decide_true, decide_false]
    rcases repr_or a m with ⟨z, e⟩ | e
    · simp only [FA, SL, Nat.reduceSub, Nat.reduceAdd, AP, PAR, AB, LS, OI, EQ, IX, TD, eqK, if_true, if_false, Bool.not_true, Bool.not_false, Bool.false_eq_true, List.take_length, exit_bl, exit_int, exit_non, exit_str, decide_true, decide_false, errR, e]
      rw [exit_in rfl, List.take_length]
    · simp only [FA, SL, Nat.reduceSub, Nat.reduceAdd, AP, PAR, AB, LS, OI, EQ, IX, TD, eqK, if_true, if_false, Bool.not_true, Bool.not_false, Bool.false_eq_true, List.take_length, exit_bl, exit_int, exit_non, exit_str, decide_true, decide_false, errR, e]
      rfl
theorem er_InvalidClaim {k : Hx} (hk : k.c = "InvalidClaim") {fs : List (Str × D)} {m : Mu} : F__law_error k [.exn k fs] m = errG "InvalidClaim" "given" fs m := by
  have c1 : ∀ m, lcntF [.lst [.bl false, .bl false, .bl false, .bl true, .bl false, .bl false, .bl false, .bl false, .bl false, .bl false, .bl false, .bl false], .bl true] m = .ok (.int 1) m := fun _ => rfl
  have c2 : ∀ m, neD (.lst [.bl true, .bl false, .bl false]) (.lst [.bl true, .bl false, .bl false]) m = .ok (.bl false) m := fun _ => rfl
  have c3 : ∀ m, lixF [.lst [.bl false, .bl false, .bl false, .bl true, .bl false, .bl false, .bl false, .bl false, .bl false, .bl false, .bl false, .bl false], .bl true] m = .ok (.int 3) m := fun _ => rfl
  have c4 : ∀ m, ixD (.lst [.str "InvalidText", .str "InvalidCount", .str "InvalidPlace", .str "InvalidClaim", .str "NotABook", .str "InvalidPlans", .str "InvalidPieces", .str "UnknownPlan", .str "TooLong", .str "IsOver", .str "NothingToUndo", .str "Broken"]) (.int 3) m = .ok (.str "InvalidClaim") m := fun _ => rfl
  have d1 : decide (((3 : Nat) : Int) < 7) = true := rfl
  have d2 : decide ((7 : Int) < 3) = false := rfl
  have d3 : ((3 : Int) == 7) = false := rfl
  have d4 : decide ((3 : Int) < 5) = true := rfl
  have d5 : ((3 : Int) == 8) = false := rfl
  have d6 : ((3 : Int) == 11) = false := rfl
  have d7 : decide ((3 : Int) < 7) = true := rfl
  have d8 : ((1 : Int) == 1) = true := rfl
  simp only [FA, SL, Nat.reduceSub, Nat.reduceAdd, AP, PAR, AB, LS, OI, EQ, IX, TD, eqK, if_true, if_false, Bool.not_true, Bool.not_false, Bool.false_eq_true, List.take_length, exit_bl, exit_int, exit_non, exit_str, decide_true, decide_false, F__law_error, B__law_error, XL, c1, c2, c3, c4, d1, d2, d3, d4, d5, d6, d7, d8, xef (f := "given") hk (by decide +kernel), isx (d := "InvalidText") (b := false) hk (by decide +kernel), isx (d := "InvalidCount") (b := false) hk (by decide +kernel), isx (d := "InvalidPlace") (b := false) hk (by decide +kernel), isx (d := "InvalidClaim") (b := true) hk (by decide +kernel), isx (d := "NotABook") (b := false) hk (by decide +kernel), isx (d := "InvalidPlans") (b := false) hk (by decide +kernel), isx (d := "InvalidPieces") (b := false) hk (by decide +kernel), isx (d := "UnknownPlan") (b := false) hk (by decide +kernel), isx (d := "TooLong") (b := false) hk (by decide +kernel), isx (d := "IsOver") (b := false) hk (by decide +kernel), isx (d := "NothingToUndo") (b := false) hk (by decide +kernel), isx (d := "Broken") (b := false) hk (by decide +kernel), isx (d := "NotRight") (b := true) hk (by decide +kernel), isx (d := "NotThere") (b := false) hk (by decide +kernel), isx (d := "CannotBe") (b := false) hk (by decide +kernel), isy (d := "ValueError") (b := true) hk (by decide +kernel), isy (d := "LookupError") (b := false) hk (by decide +kernel), isy (d := "ArithmeticError") (b := false) hk (by decide +kernel)]
  unfold getX errG
  cases h1 : fs.lookup ("given" : Str) with
  | none => rfl
  | some a =>
    simp only [FA, SL, Nat.reduceSub, Nat.reduceAdd, AP, PAR, AB, LS, OI, EQ, IX, TD, eqK, if_true, if_false, Bool.not_true, Bool.not_false, Bool.false_eq_true, List.take_length, exit_bl, exit_int, exit_non, exit_str, decide_true, decide_false]
    rcases repr_or a m with ⟨z, e⟩ | e
    · simp only [FA, SL, Nat.reduceSub, Nat.reduceAdd, AP, PAR, AB, LS, OI, EQ, IX, TD, eqK, if_true, if_false, Bool.not_true, Bool.not_false, Bool.false_eq_true, List.take_length, exit_bl, exit_int, exit_non, exit_str, decide_true, decide_false, errR, e]
      rw [exit_in rfl, List.take_length]
    · simp only [FA, SL, Nat.reduceSub, Nat.reduceAdd, AP, PAR, AB, LS, OI, EQ, IX, TD, eqK, if_true, if_false, Bool.not_true, Bool.not_false, Bool.false_eq_true, List.take_length, exit_bl, exit_int, exit_non, exit_str, decide_true, decide_false, errR, e]
      rfl
theorem er_NotABook {k : Hx} (hk : k.c = "NotABook") {fs : List (Str × D)} {m : Mu} : F__law_error k [.exn k fs] m = errG "NotABook" "given" fs m := by
  have c1 : ∀ m, lcntF [.lst [.bl false, .bl false, .bl false, .bl false, .bl true, .bl false, .bl false, .bl false, .bl false, .bl false, .bl false, .bl false], .bl true] m = .ok (.int 1) m := fun _ => rfl
  have c2 : ∀ m, neD (.lst [.bl true, .bl false, .bl false]) (.lst [.bl true, .bl false, .bl false]) m = .ok (.bl false) m := fun _ => rfl
  have c3 : ∀ m, lixF [.lst [.bl false, .bl false, .bl false, .bl false, .bl true, .bl false, .bl false, .bl false, .bl false, .bl false, .bl false, .bl false], .bl true] m = .ok (.int 4) m := fun _ => rfl
  have c4 : ∀ m, ixD (.lst [.str "InvalidText", .str "InvalidCount", .str "InvalidPlace", .str "InvalidClaim", .str "NotABook", .str "InvalidPlans", .str "InvalidPieces", .str "UnknownPlan", .str "TooLong", .str "IsOver", .str "NothingToUndo", .str "Broken"]) (.int 4) m = .ok (.str "NotABook") m := fun _ => rfl
  have d1 : decide (((4 : Nat) : Int) < 7) = true := rfl
  have d2 : decide ((7 : Int) < 4) = false := rfl
  have d3 : ((4 : Int) == 7) = false := rfl
  have d4 : decide ((4 : Int) < 5) = true := rfl
  have d5 : ((4 : Int) == 8) = false := rfl
  have d6 : ((4 : Int) == 11) = false := rfl
  have d7 : decide ((4 : Int) < 7) = true := rfl
  have d8 : ((1 : Int) == 1) = true := rfl
  simp only [FA, SL, Nat.reduceSub, Nat.reduceAdd, AP, PAR, AB, LS, OI, EQ, IX, TD, eqK, if_true, if_false, Bool.not_true, Bool.not_false, Bool.false_eq_true, List.take_length, exit_bl, exit_int, exit_non, exit_str, decide_true, decide_false, F__law_error, B__law_error, XL, c1, c2, c3, c4, d1, d2, d3, d4, d5, d6, d7, d8, xef (f := "given") hk (by decide +kernel), isx (d := "InvalidText") (b := false) hk (by decide +kernel), isx (d := "InvalidCount") (b := false) hk (by decide +kernel), isx (d := "InvalidPlace") (b := false) hk (by decide +kernel), isx (d := "InvalidClaim") (b := false) hk (by decide +kernel), isx (d := "NotABook") (b := true) hk (by decide +kernel), isx (d := "InvalidPlans") (b := false) hk (by decide +kernel), isx (d := "InvalidPieces") (b := false) hk (by decide +kernel), isx (d := "UnknownPlan") (b := false) hk (by decide +kernel), isx (d := "TooLong") (b := false) hk (by decide +kernel), isx (d := "IsOver") (b := false) hk (by decide +kernel), isx (d := "NothingToUndo") (b := false) hk (by decide +kernel), isx (d := "Broken") (b := false) hk (by decide +kernel), isx (d := "NotRight") (b := true) hk (by decide +kernel), isx (d := "NotThere") (b := false) hk (by decide +kernel), isx (d := "CannotBe") (b := false) hk (by decide +kernel), isy (d := "ValueError") (b := true) hk (by decide +kernel), isy (d := "LookupError") (b := false) hk (by decide +kernel), isy (d := "ArithmeticError") (b := false) hk (by decide +kernel)]
  unfold getX errG
  cases h1 : fs.lookup ("given" : Str) with
  | none => rfl
  | some a =>
    simp only [FA, SL, Nat.reduceSub, Nat.reduceAdd, AP, PAR, AB, LS, OI, EQ, IX, TD, eqK, if_true, if_false, Bool.not_true, Bool.not_false, Bool.false_eq_true, List.take_length, exit_bl, exit_int, exit_non, exit_str, decide_true, decide_false]
    rcases repr_or a m with ⟨z, e⟩ | e
    · simp only [FA, SL, Nat.reduceSub, Nat.reduceAdd, AP, PAR, AB, LS, OI, EQ, IX, TD, eqK, if_true, if_false, Bool.not_true, Bool.not_false, Bool.false_eq_true, List.take_length, exit_bl, exit_int, exit_non, exit_str, decide_true, decide_false, errR, e]
      rw [exit_in rfl, List.take_length]
    · simp only [FA, SL, Nat.reduceSub, Nat.reduceAdd, AP, PAR, AB, LS, OI, EQ, IX, TD, eqK, if_true, if_false, Bool.not_true, Bool.not_false, Bool.false_eq_true, List.take_length, exit_bl, exit_int, exit_non, exit_str, decide_true, decide_false, errR, e]
      rfl
theorem er_InvalidPlans {k : Hx} (hk : k.c = "InvalidPlans") {fs : List (Str × D)} {m : Mu} : F__law_error k [.exn k fs] m = errG "InvalidPlans" "index" fs m := by
  have c1 : ∀ m, lcntF [.lst [.bl false, .bl false, .bl false, .bl false, .bl false, .bl true, .bl false, .bl false, .bl false, .bl false, .bl false, .bl false], .bl true] m = .ok (.int 1) m := fun _ => rfl
  have c2 : ∀ m, neD (.lst [.bl true, .bl false, .bl false]) (.lst [.bl true, .bl false, .bl false]) m = .ok (.bl false) m := fun _ => rfl
  have c3 : ∀ m, lixF [.lst [.bl false, .bl false, .bl false, .bl false, .bl false, .bl true, .bl false, .bl false, .bl false, .bl false, .bl false, .bl false], .bl true] m = .ok (.int 5) m := fun _ => rfl
  have c4 : ∀ m, ixD (.lst [.str "InvalidText", .str "InvalidCount", .str "InvalidPlace", .str "InvalidClaim", .str "NotABook", .str "InvalidPlans", .str "InvalidPieces", .str "UnknownPlan", .str "TooLong", .str "IsOver", .str "NothingToUndo", .str "Broken"]) (.int 5) m = .ok (.str "InvalidPlans") m := fun _ => rfl
  have d1 : decide (((5 : Nat) : Int) < 7) = true := rfl
  have d2 : decide ((7 : Int) < 5) = false := rfl
  have d3 : ((5 : Int) == 7) = false := rfl
  have d4 : decide ((5 : Int) < 5) = false := rfl
  have d5 : ((5 : Int) == 8) = false := rfl
  have d6 : ((5 : Int) == 11) = false := rfl
  have d7 : decide ((5 : Int) < 7) = true := rfl
  have d8 : ((1 : Int) == 1) = true := rfl
  simp only [FA, SL, Nat.reduceSub, Nat.reduceAdd, AP, PAR, AB, LS, OI, EQ, IX, TD, eqK, if_true, if_false, Bool.not_true, Bool.not_false, Bool.false_eq_true, List.take_length, exit_bl, exit_int, exit_non, exit_str, decide_true, decide_false, F__law_error, B__law_error, XL, c1, c2, c3, c4, d1, d2, d3, d4, d5, d6, d7, d8, xef (f := "index") hk (by decide +kernel), isx (d := "InvalidText") (b := false) hk (by decide +kernel), isx (d := "InvalidCount") (b := false) hk (by decide +kernel), isx (d := "InvalidPlace") (b := false) hk (by decide +kernel), isx (d := "InvalidClaim") (b := false) hk (by decide +kernel), isx (d := "NotABook") (b := false) hk (by decide +kernel), isx (d := "InvalidPlans") (b := true) hk (by decide +kernel), isx (d := "InvalidPieces") (b := false) hk (by decide +kernel), isx (d := "UnknownPlan") (b := false) hk (by decide +kernel), isx (d := "TooLong") (b := false) hk (by decide +kernel), isx (d := "IsOver") (b := false) hk (by decide +kernel), isx (d := "NothingToUndo") (b := false) hk (by decide +kernel), isx (d := "Broken") (b := false) hk (by decide +kernel), isx (d := "NotRight") (b := true) hk (by decide +kernel), isx (d := "NotThere") (b := false) hk (by decide +kernel), isx (d := "CannotBe") (b := false) hk (by decide +kernel), isy (d := "ValueError") (b := true) hk (by decide +kernel), isy (d := "LookupError") (b := false) hk (by decide +kernel), isy (d := "ArithmeticError") (b := false) hk (by decide +kernel)]
  unfold getX errG
  cases h1 : fs.lookup ("index" : Str) with
  | none => rfl
  | some a =>
    simp only [FA, SL, Nat.reduceSub, Nat.reduceAdd, AP, PAR, AB, LS, OI, EQ, IX, TD, eqK, if_true, if_false, Bool.not_true, Bool.not_false, Bool.false_eq_true, List.take_length, exit_bl, exit_int, exit_non, exit_str, decide_true, decide_false]
    rcases repr_or a m with ⟨z, e⟩ | e
    · simp only [FA, SL, Nat.reduceSub, Nat.reduceAdd, AP, PAR, AB, LS, OI, EQ, IX, TD, eqK, if_true, if_false, Bool.not_true, Bool.not_false, Bool.false_eq_true, List.take_length, exit_bl, exit_int, exit_non, exit_str, decide_true, decide_false, errR, e]
      rw [exit_in rfl, List.take_length]
    · simp only [FA, SL, Nat.reduceSub, Nat.reduceAdd, AP, PAR, AB, LS, OI, EQ, IX, TD, eqK, if_true, if_false, Bool.not_true, Bool.not_false, Bool.false_eq_true, List.take_length, exit_bl, exit_int, exit_non, exit_str, decide_true, decide_false, errR, e]
      rfl
theorem er_InvalidPieces {k : Hx} (hk : k.c = "InvalidPieces") {fs : List (Str × D)} {m : Mu} : F__law_error k [.exn k fs] m = errG "InvalidPieces" "index" fs m := by
  have c1 : ∀ m, lcntF [.lst [.bl false, .bl false, .bl false, .bl false, .bl false, .bl false, .bl true, .bl false, .bl false, .bl false, .bl false, .bl false], .bl true] m = .ok (.int 1) m := fun _ => rfl
  have c2 : ∀ m, neD (.lst [.bl true, .bl false, .bl false]) (.lst [.bl true, .bl false, .bl false]) m = .ok (.bl false) m := fun _ => rfl
  have c3 : ∀ m, lixF [.lst [.bl false, .bl false, .bl false, .bl false, .bl false, .bl false, .bl true, .bl false, .bl false, .bl false, .bl false, .bl false], .bl true] m = .ok (.int 6) m := fun _ => rfl
  have c4 : ∀ m, ixD (.lst [.str "InvalidText", .str "InvalidCount", .str "InvalidPlace", .str "InvalidClaim", .str "NotABook", .str "InvalidPlans", .str "InvalidPieces", .str "UnknownPlan", .str "TooLong", .str "IsOver", .str "NothingToUndo", .str "Broken"]) (.int 6) m = .ok (.str "InvalidPieces") m := fun _ => rfl
  have d1 : decide (((6 : Nat) : Int) < 7) = true := rfl
  have d2 : decide ((7 : Int) < 6) = false := rfl
  have d3 : ((6 : Int) == 7) = false := rfl
  have d4 : decide ((6 : Int) < 5) = false := rfl
  have d5 : ((6 : Int) == 8) = false := rfl
  have d6 : ((6 : Int) == 11) = false := rfl
  have d7 : decide ((6 : Int) < 7) = true := rfl
  have d8 : ((1 : Int) == 1) = true := rfl
  simp only [FA, SL, Nat.reduceSub, Nat.reduceAdd, AP, PAR, AB, LS, OI, EQ, IX, TD, eqK, if_true, if_false, Bool.not_true, Bool.not_false, Bool.false_eq_true, List.take_length, exit_bl, exit_int, exit_non, exit_str, decide_true, decide_false, F__law_error, B__law_error, XL, c1, c2, c3, c4, d1, d2, d3, d4, d5, d6, d7, d8, xef (f := "index") hk (by decide +kernel), isx (d := "InvalidText") (b := false) hk (by decide +kernel), isx (d := "InvalidCount") (b := false) hk (by decide +kernel), isx (d := "InvalidPlace") (b := false) hk (by decide +kernel), isx (d := "InvalidClaim") (b := false) hk (by decide +kernel), isx (d := "NotABook") (b := false) hk (by decide +kernel), isx (d := "InvalidPlans") (b := false) hk (by decide +kernel), isx (d := "InvalidPieces") (b := true) hk (by decide +kernel), isx (d := "UnknownPlan") (b := false) hk (by decide +kernel), isx (d := "TooLong") (b := false) hk (by decide +kernel), isx (d := "IsOver") (b := false) hk (by decide +kernel), isx (d := "NothingToUndo") (b := false) hk (by decide +kernel), isx (d := "Broken") (b := false) hk (by decide +kernel), isx (d := "NotRight") (b := true) hk (by decide +kernel), isx (d := "NotThere") (b := false) hk (by decide +kernel), isx (d := "CannotBe") (b := false) hk (by decide +kernel), isy (d := "ValueError") (b := true) hk (by decide +kernel), isy (d := "LookupError") (b := false) hk (by decide +kernel), isy (d := "ArithmeticError") (b := false) hk (by decide +kernel)]
  unfold getX errG
  cases h1 : fs.lookup ("index" : Str) with
  | none => rfl
  | some a =>
    simp only [FA, SL, Nat.reduceSub, Nat.reduceAdd, AP, PAR, AB, LS, OI, EQ, IX, TD, eqK, if_true, if_false, Bool.not_true, Bool.not_false, Bool.false_eq_true, List.take_length, exit_bl, exit_int, exit_non, exit_str, decide_true, decide_false]
    rcases repr_or a m with ⟨z, e⟩ | e
    · simp only [FA, SL, Nat.reduceSub, Nat.reduceAdd, AP, PAR, AB, LS, OI, EQ, IX, TD, eqK, if_true, if_false, Bool.not_true, Bool.not_false, Bool.false_eq_true, List.take_length, exit_bl, exit_int, exit_non, exit_str, decide_true, decide_false, errR, e]
      rw [exit_in rfl, List.take_length]
    · simp only [FA, SL, Nat.reduceSub, Nat.reduceAdd, AP, PAR, AB, LS, OI, EQ, IX, TD, eqK, if_true, if_false, Bool.not_true, Bool.not_false, Bool.false_eq_true, List.take_length, exit_bl, exit_int, exit_non, exit_str, decide_true, decide_false, errR, e]
      rfl
theorem er_UnknownPlan {k : Hx} (hk : k.c = "UnknownPlan") {fs : List (Str × D)} {m : Mu} : F__law_error k [.exn k fs] m = errG "UnknownPlan" "given" fs m := by
  have c1 : ∀ m, lcntF [.lst [.bl false, .bl false, .bl false, .bl false, .bl false, .bl false, .bl false, .bl true, .bl false, .bl false, .bl false, .bl false], .bl true] m = .ok (.int 1) m := fun _ => rfl
  have c2 : ∀ m, neD (.lst [.bl false, .bl true, .bl false]) (.lst [.bl false, .bl true, .bl false]) m = .ok (.bl false) m := fun _ => rfl
  have c3 : ∀ m, lixF [.lst [.bl false, .bl false, .bl false, .bl false, .bl false, .bl false, .bl false, .bl true, .bl false, .bl false, .bl false, .bl false], .bl true] m = .ok (.int 7) m := fun _ => rfl
  have c4 : ∀ m, ixD (.lst [.str "InvalidText", .str "InvalidCount", .str "InvalidPlace", .str "InvalidClaim", .str "NotABook", .str "InvalidPlans", .str "InvalidPieces", .str "UnknownPlan", .str "TooLong", .str "IsOver", .str "NothingToUndo", .str "Broken"]) (.int 7) m = .ok (.str "UnknownPlan") m := fun _ => rfl
  have d1 : decide (((7 : Nat) : Int) < 7) = false := rfl
  have d2 : decide ((7 : Int) < 7) = false := rfl
  have d3 : ((7 : Int) == 7) = true := rfl
  have d4 : decide ((7 : Int) < 5) = false := rfl
  have d5 : ((7 : Int) == 8) = false := rfl
  have d6 : ((7 : Int) == 11) = false := rfl
  have d7 : decide ((7 : Int) < 7) = false := rfl
  have d8 : ((1 : Int) == 1) = true := rfl
  simp only [FA, SL, Nat.reduceSub, Nat.reduceAdd, AP, PAR, AB, LS, OI, EQ, IX, TD, eqK, if_true, if_false, Bool.not_true, Bool.not_false, Bool.false_eq_true, List.take_length, exit_bl, exit_int, exit_non, exit_str, decide_true, decide_false, F__law_error, B__law_error, XL, c1, c2, c3, c4, d1, d2, d3, d4, d5, d6, d7, d8, xef (f := "given") hk (by decide +kernel), isx (d := "InvalidText") (b := false) hk (by decide +kernel), isx (d := "InvalidCount") (b := false) hk (by decide +kernel), isx (d := "InvalidPlace") (b := false) hk (by decide +kernel), isx (d := "InvalidClaim") (b := false) hk (by decide +kernel), isx (d := "NotABook") (b := false) hk (by decide +kernel), isx (d := "InvalidPlans") (b := false) hk (by decide +kernel), isx (d := "InvalidPieces") (b := false) hk (by decide +kernel), isx (d := "UnknownPlan") (b := true) hk (by decide +kernel), isx (d := "TooLong") (b := false) hk (by decide +kernel), isx (d := "IsOver") (b := false) hk (by decide +kernel), isx (d := "NothingToUndo") (b := false) hk (by decide +kernel), isx (d := "Broken") (b := false) hk (by decide +kernel), isx (d := "NotRight") (b := false) hk (by decide +kernel), isx (d := "NotThere") (b := true) hk (by decide +kernel), isx (d := "CannotBe") (b := false) hk (by decide +kernel), isy (d := "ValueError") (b := false) hk (by decide +kernel), isy (d := "LookupError") (b := true) hk (by decide +kernel), isy (d := "ArithmeticError") (b := false) hk (by decide +kernel)]
  unfold getX errG
  cases h1 : fs.lookup ("given" : Str) with
  | none => rfl
  | some a =>
    simp only [FA, SL, Nat.reduceSub, Nat.reduceAdd, AP, PAR, AB, LS, OI, EQ, IX, TD, eqK, if_true, if_false, Bool.not_true, Bool.not_false, Bool.false_eq_true, List.take_length, exit_bl, exit_int, exit_non, exit_str, decide_true, decide_false]
    rcases repr_or a m with ⟨z, e⟩ | e
    · simp only [FA, SL, Nat.reduceSub, Nat.reduceAdd, AP, PAR, AB, LS, OI, EQ, IX, TD, eqK, if_true, if_false, Bool.not_true, Bool.not_false, Bool.false_eq_true, List.take_length, exit_bl, exit_int, exit_non, exit_str, decide_true, decide_false, errR, e]
      rw [exit_in rfl, List.take_length]
    · simp only [FA, SL, Nat.reduceSub, Nat.reduceAdd, AP, PAR, AB, LS, OI, EQ, IX, TD, eqK, if_true, if_false, Bool.not_true, Bool.not_false, Bool.false_eq_true, List.take_length, exit_bl, exit_int, exit_non, exit_str, decide_true, decide_false, errR, e]
      rfl
theorem er_TooLong {k : Hx} (hk : k.c = "TooLong") {fs : List (Str × D)} {m : Mu} : F__law_error k [.exn k fs] m = errG "TooLong" "most" fs m := by
  have c1 : ∀ m, lcntF [.lst [.bl false, .bl false, .bl false, .bl false, .bl false, .bl false, .bl false, .bl false, .bl true, .bl false, .bl false, .bl false], .bl true] m = .ok (.int 1) m := fun _ => rfl
  have c2 : ∀ m, neD (.lst [.bl false, .bl false, .bl true]) (.lst [.bl false, .bl false, .bl true]) m = .ok (.bl false) m := fun _ => rfl
  have c3 : ∀ m, lixF [.lst [.bl false, .bl false, .bl false, .bl false, .bl false, .bl false, .bl false, .bl false, .bl true, .bl false, .bl false, .bl false], .bl true] m = .ok (.int 8) m := fun _ => rfl
  have c4 : ∀ m, ixD (.lst [.str "InvalidText", .str "InvalidCount", .str "InvalidPlace", .str "InvalidClaim", .str "NotABook", .str "InvalidPlans", .str "InvalidPieces", .str "UnknownPlan", .str "TooLong", .str "IsOver", .str "NothingToUndo", .str "Broken"]) (.int 8) m = .ok (.str "TooLong") m := fun _ => rfl
  have d1 : decide (((8 : Nat) : Int) < 7) = false := rfl
  have d2 : decide ((7 : Int) < 8) = true := rfl
  have d3 : ((8 : Int) == 7) = false := rfl
  have d4 : decide ((8 : Int) < 5) = false := rfl
  have d5 : ((8 : Int) == 8) = true := rfl
  have d6 : ((8 : Int) == 11) = false := rfl
  have d7 : decide ((8 : Int) < 7) = false := rfl
  have d8 : ((1 : Int) == 1) = true := rfl
  simp only [FA, SL, Nat.reduceSub, Nat.reduceAdd, AP, PAR, AB, LS, OI, EQ, IX, TD, eqK, if_true, if_false, Bool.not_true, Bool.not_false, Bool.false_eq_true, List.take_length, exit_bl, exit_int, exit_non, exit_str, decide_true, decide_false, F__law_error, B__law_error, XL, c1, c2, c3, c4, d1, d2, d3, d4, d5, d6, d7, d8, xef (f := "most") hk (by decide +kernel), isx (d := "InvalidText") (b := false) hk (by decide +kernel), isx (d := "InvalidCount") (b := false) hk (by decide +kernel), isx (d := "InvalidPlace") (b := false) hk (by decide +kernel), isx (d := "InvalidClaim") (b := false) hk (by decide +kernel), isx (d := "NotABook") (b := false) hk (by decide +kernel), isx (d := "InvalidPlans") (b := false) hk (by decide +kernel), isx (d := "InvalidPieces") (b := false) hk (by decide +kernel), isx (d := "UnknownPlan") (b := false) hk (by decide +kernel), isx (d := "TooLong") (b := true) hk (by decide +kernel), isx (d := "IsOver") (b := false) hk (by decide +kernel), isx (d := "NothingToUndo") (b := false) hk (by decide +kernel), isx (d := "Broken") (b := false) hk (by decide +kernel), isx (d := "NotRight") (b := false) hk (by decide +kernel), isx (d := "NotThere") (b := false) hk (by decide +kernel), isx (d := "CannotBe") (b := true) hk (by decide +kernel), isy (d := "ValueError") (b := false) hk (by decide +kernel), isy (d := "LookupError") (b := false) hk (by decide +kernel), isy (d := "ArithmeticError") (b := true) hk (by decide +kernel)]
  unfold getX errG
  cases h1 : fs.lookup ("most" : Str) with
  | none => rfl
  | some a =>
    simp only [FA, SL, Nat.reduceSub, Nat.reduceAdd, AP, PAR, AB, LS, OI, EQ, IX, TD, eqK, if_true, if_false, Bool.not_true, Bool.not_false, Bool.false_eq_true, List.take_length, exit_bl, exit_int, exit_non, exit_str, decide_true, decide_false]
    rcases repr_or a m with ⟨z, e⟩ | e
    · simp only [FA, SL, Nat.reduceSub, Nat.reduceAdd, AP, PAR, AB, LS, OI, EQ, IX, TD, eqK, if_true, if_false, Bool.not_true, Bool.not_false, Bool.false_eq_true, List.take_length, exit_bl, exit_int, exit_non, exit_str, decide_true, decide_false, errR, e]
      rw [exit_in rfl, List.take_length]
    · simp only [FA, SL, Nat.reduceSub, Nat.reduceAdd, AP, PAR, AB, LS, OI, EQ, IX, TD, eqK, if_true, if_false, Bool.not_true, Bool.not_false, Bool.false_eq_true, List.take_length, exit_bl, exit_int, exit_non, exit_str, decide_true, decide_false, errR, e]
      rfl
theorem er_IsOver {k : Hx} (hk : k.c = "IsOver") {fs : List (Str × D)} {m : Mu} : F__law_error k [.exn k fs] m = .ok (.lst [.str "IsOver", .str ""]) m := by
  have c1 : ∀ m, lcntF [.lst [.bl false, .bl false, .bl false, .bl false, .bl false, .bl false, .bl false, .bl false, .bl false, .bl true, .bl false, .bl false], .bl true] m = .ok (.int 1) m := fun _ => rfl
  have c2 : ∀ m, neD (.lst [.bl false, .bl false, .bl true]) (.lst [.bl false, .bl false, .bl true]) m = .ok (.bl false) m := fun _ => rfl
  have c3 : ∀ m, lixF [.lst [.bl false, .bl false, .bl false, .bl false, .bl false, .bl false, .bl false, .bl false, .bl false, .bl true, .bl false, .bl false], .bl true] m = .ok (.int 9) m := fun _ => rfl
  have c4 : ∀ m, ixD (.lst [.str "InvalidText", .str "InvalidCount", .str "InvalidPlace", .str "InvalidClaim", .str "NotABook", .str "InvalidPlans", .str "InvalidPieces", .str "UnknownPlan", .str "TooLong", .str "IsOver", .str "NothingToUndo", .str "Broken"]) (.int 9) m = .ok (.str "IsOver") m := fun _ => rfl
  have d1 : decide (((9 : Nat) : Int) < 7) = false := rfl
  have d2 : decide ((7 : Int) < 9) = true := rfl
  have d3 : ((9 : Int) == 7) = false := rfl
  have d4 : decide ((9 : Int) < 5) = false := rfl
  have d5 : ((9 : Int) == 8) = false := rfl
  have d6 : ((9 : Int) == 11) = false := rfl
  have d7 : decide ((9 : Int) < 7) = false := rfl
  have d8 : ((1 : Int) == 1) = true := rfl
  simp only [FA, SL, Nat.reduceSub, Nat.reduceAdd, AP, PAR, AB, LS, OI, EQ, IX, TD, eqK, if_true, if_false, Bool.not_true, Bool.not_false, Bool.false_eq_true, List.take_length, exit_bl, exit_int, exit_non, exit_str, decide_true, decide_false, F__law_error, B__law_error, XL, c1, c2, c3, c4, d1, d2, d3, d4, d5, d6, d7, d8, isx (d := "InvalidText") (b := false) hk (by decide +kernel), isx (d := "InvalidCount") (b := false) hk (by decide +kernel), isx (d := "InvalidPlace") (b := false) hk (by decide +kernel), isx (d := "InvalidClaim") (b := false) hk (by decide +kernel), isx (d := "NotABook") (b := false) hk (by decide +kernel), isx (d := "InvalidPlans") (b := false) hk (by decide +kernel), isx (d := "InvalidPieces") (b := false) hk (by decide +kernel), isx (d := "UnknownPlan") (b := false) hk (by decide +kernel), isx (d := "TooLong") (b := false) hk (by decide +kernel), isx (d := "IsOver") (b := true) hk (by decide +kernel), isx (d := "NothingToUndo") (b := false) hk (by decide +kernel), isx (d := "Broken") (b := false) hk (by decide +kernel), isx (d := "NotRight") (b := false) hk (by decide +kernel), isx (d := "NotThere") (b := false) hk (by decide +kernel), isx (d := "CannotBe") (b := true) hk (by decide +kernel), isy (d := "ValueError") (b := false) hk (by decide +kernel), isy (d := "LookupError") (b := false) hk (by decide +kernel), isy (d := "ArithmeticError") (b := true) hk (by decide +kernel)]
  rw [exit_in rfl, List.take_length]
theorem er_NothingToUndo {k : Hx} (hk : k.c = "NothingToUndo") {fs : List (Str × D)} {m : Mu} : F__law_error k [.exn k fs] m = .ok (.lst [.str "NothingToUndo", .str ""]) m := by
  have c1 : ∀ m, lcntF [.lst [.bl false, .bl false, .bl false, .bl false, .bl false, .bl false, .bl false, .bl false, .bl false, .bl false, .bl true, .bl false], .bl true] m = .ok (.int 1) m := fun _ => rfl
  have c2 : ∀ m, neD (.lst [.bl false, .bl false, .bl true]) (.lst [.bl false, .bl false, .bl true]) m = .ok (.bl false) m := fun _ => rfl
  have c3 : ∀ m, lixF [.lst [.bl false, .bl false, .bl false, .bl false, .bl false, .bl false, .bl false, .bl false, .bl false, .bl false, .bl true, .bl false], .bl true] m = .ok (.int 10) m := fun _ => rfl
  have c4 : ∀ m, ixD (.lst [.str "InvalidText", .str "InvalidCount", .str "InvalidPlace", .str "InvalidClaim", .str "NotABook", .str "InvalidPlans", .str "InvalidPieces", .str "UnknownPlan", .str "TooLong", .str "IsOver", .str "NothingToUndo", .str "Broken"]) (.int 10) m = .ok (.str "NothingToUndo") m := fun _ => rfl
  have d1 : decide (((10 : Nat) : Int) < 7) = false := rfl
  have d2 : decide ((7 : Int) < 10) = true := rfl
  have d3 : ((10 : Int) == 7) = false := rfl
  have d4 : decide ((10 : Int) < 5) = false := rfl
  have d5 : ((10 : Int) == 8) = false := rfl
  have d6 : ((10 : Int) == 11) = false := rfl
  have d7 : decide ((10 : Int) < 7) = false := rfl
  have d8 : ((1 : Int) == 1) = true := rfl
  simp only [FA, SL, Nat.reduceSub, Nat.reduceAdd, AP, PAR, AB, LS, OI, EQ, IX, TD, eqK, if_true, if_false, Bool.not_true, Bool.not_false, Bool.false_eq_true, List.take_length, exit_bl, exit_int, exit_non, exit_str, decide_true, decide_false, F__law_error, B__law_error, XL, c1, c2, c3, c4, d1, d2, d3, d4, d5, d6, d7, d8, isx (d := "InvalidText") (b := false) hk (by decide +kernel), isx (d := "InvalidCount") (b := false) hk (by decide +kernel), isx (d := "InvalidPlace") (b := false) hk (by decide +kernel), isx (d := "InvalidClaim") (b := false) hk (by decide +kernel), isx (d := "NotABook") (b := false) hk (by decide +kernel), isx (d := "InvalidPlans") (b := false) hk (by decide +kernel), isx (d := "InvalidPieces") (b := false) hk (by decide +kernel), isx (d := "UnknownPlan") (b := false) hk (by decide +kernel), isx (d := "TooLong") (b := false) hk (by decide +kernel), isx (d := "IsOver") (b := false) hk (by decide +kernel), isx (d := "NothingToUndo") (b := true) hk (by decide +kernel), isx (d := "Broken") (b := false) hk (by decide +kernel), isx (d := "NotRight") (b := false) hk (by decide +kernel), isx (d := "NotThere") (b := false) hk (by decide +kernel), isx (d := "CannotBe") (b := true) hk (by decide +kernel), isy (d := "ValueError") (b := false) hk (by decide +kernel), isy (d := "LookupError") (b := false) hk (by decide +kernel), isy (d := "ArithmeticError") (b := true) hk (by decide +kernel)]
  rw [exit_in rfl, List.take_length]
theorem er_Broken {k : Hx} (hk : k.c = "Broken") {fs : List (Str × D)} {m : Mu} : F__law_error k [.exn k fs] m = errB "Broken" fs m := by
  have c1 : ∀ m, lcntF [.lst [.bl false, .bl false, .bl false, .bl false, .bl false, .bl false, .bl false, .bl false, .bl false, .bl false, .bl false, .bl true], .bl true] m = .ok (.int 1) m := fun _ => rfl
  have c2 : ∀ m, neD (.lst [.bl false, .bl false, .bl true]) (.lst [.bl false, .bl false, .bl true]) m = .ok (.bl false) m := fun _ => rfl
  have c3 : ∀ m, lixF [.lst [.bl false, .bl false, .bl false, .bl false, .bl false, .bl false, .bl false, .bl false, .bl false, .bl false, .bl false, .bl true], .bl true] m = .ok (.int 11) m := fun _ => rfl
  have c4 : ∀ m, ixD (.lst [.str "InvalidText", .str "InvalidCount", .str "InvalidPlace", .str "InvalidClaim", .str "NotABook", .str "InvalidPlans", .str "InvalidPieces", .str "UnknownPlan", .str "TooLong", .str "IsOver", .str "NothingToUndo", .str "Broken"]) (.int 11) m = .ok (.str "Broken") m := fun _ => rfl
  have d1 : decide (((11 : Nat) : Int) < 7) = false := rfl
  have d2 : decide ((7 : Int) < 11) = true := rfl
  have d3 : ((11 : Int) == 7) = false := rfl
  have d4 : decide ((11 : Int) < 5) = false := rfl
  have d5 : ((11 : Int) == 8) = false := rfl
  have d6 : ((11 : Int) == 11) = true := rfl
  have d7 : decide ((11 : Int) < 7) = false := rfl
  have d8 : ((1 : Int) == 1) = true := rfl
  simp only [FA, SL, Nat.reduceSub, Nat.reduceAdd, AP, PAR, AB, LS, OI, EQ, IX, TD, eqK, if_true, if_false, Bool.not_true, Bool.not_false, Bool.false_eq_true, List.take_length, exit_bl, exit_int, exit_non, exit_str, decide_true, decide_false, F__law_error, B__law_error, XL, c1, c2, c3, c4, d1, d2, d3, d4, d5, d6, d7, d8, xef (f := "index") hk (by decide +kernel), xef (f := "shown") hk (by decide +kernel), isx (d := "InvalidText") (b := false) hk (by decide +kernel), isx (d := "InvalidCount") (b := false) hk (by decide +kernel), isx (d := "InvalidPlace") (b := false) hk (by decide +kernel), isx (d := "InvalidClaim") (b := false) hk (by decide +kernel), isx (d := "NotABook") (b := false) hk (by decide +kernel), isx (d := "InvalidPlans") (b := false) hk (by decide +kernel), isx (d := "InvalidPieces") (b := false) hk (by decide +kernel), isx (d := "UnknownPlan") (b := false) hk (by decide +kernel), isx (d := "TooLong") (b := false) hk (by decide +kernel), isx (d := "IsOver") (b := false) hk (by decide +kernel), isx (d := "NothingToUndo") (b := false) hk (by decide +kernel), isx (d := "Broken") (b := true) hk (by decide +kernel), isx (d := "NotRight") (b := false) hk (by decide +kernel), isx (d := "NotThere") (b := false) hk (by decide +kernel), isx (d := "CannotBe") (b := true) hk (by decide +kernel), isy (d := "ValueError") (b := false) hk (by decide +kernel), isy (d := "LookupError") (b := false) hk (by decide +kernel), isy (d := "ArithmeticError") (b := true) hk (by decide +kernel)]
  unfold getX errB
  cases h1 : fs.lookup ("index" : Str) with
  | none => rfl
  | some a =>
    cases h2 : fs.lookup ("shown" : Str) with
    | none =>
      simp only [FA, SL, Nat.reduceSub, Nat.reduceAdd, AP, PAR, AB, LS, OI, EQ, IX, TD, eqK, if_true, if_false, Bool.not_true, Bool.not_false, Bool.false_eq_true, List.take_length, exit_bl, exit_int, exit_non, exit_str, decide_true, decide_false, h2]
      rfl
    | some b =>
      simp only [FA, SL, Nat.reduceSub, Nat.reduceAdd, AP, PAR, AB, LS, OI, EQ, IX, TD, eqK, if_true, if_false, Bool.not_true, Bool.not_false, Bool.false_eq_true, List.take_length, exit_bl, exit_int, exit_non, exit_str, decide_true, decide_false, h2]
      rcases repr_or (.lst [a, b]) m with ⟨z, e⟩ | e
      · simp only [FA, SL, Nat.reduceSub, Nat.reduceAdd, AP, PAR, AB, LS, OI, EQ, IX, TD, eqK, if_true, if_false, Bool.not_true, Bool.not_false, Bool.false_eq_true, List.take_length, exit_bl, exit_int, exit_non, exit_str, decide_true, decide_false, errR, e]
        rw [exit_in rfl, List.take_length]
      · simp only [FA, SL, Nat.reduceSub, Nat.reduceAdd, AP, PAR, AB, LS, OI, EQ, IX, TD, eqK, if_true, if_false, Bool.not_true, Bool.not_false, Bool.false_eq_true, List.take_length, exit_bl, exit_int, exit_non, exit_str, decide_true, decide_false, errR, e]
        rfl
theorem er_NotRight {k : Hx} (hk : k.c = "NotRight") {fs : List (Str × D)} {m : Mu} : F__law_error k [.exn k fs] m = .ok (.lst [.str "odd", .str ""]) m := by
  have c1 : ∀ m, lcntF [.lst [.bl false, .bl false, .bl false, .bl false, .bl false, .bl false, .bl false, .bl false, .bl false, .bl false, .bl false, .bl false], .bl true] m = .ok (.int 0) m := fun _ => rfl
  have d8 : ((0 : Int) == 1) = false := rfl
  simp only [FA, SL, Nat.reduceSub, Nat.reduceAdd, AP, PAR, AB, LS, OI, EQ, IX, TD, eqK, if_true, if_false, Bool.not_true, Bool.not_false, Bool.false_eq_true, List.take_length, exit_bl, exit_int, exit_non, exit_str, decide_true, decide_false, F__law_error, B__law_error, XL, c1, d8, isx (d := "InvalidText") (b := false) hk (by decide +kernel), isx (d := "InvalidCount") (b := false) hk (by decide +kernel), isx (d := "InvalidPlace") (b := false) hk (by decide +kernel), isx (d := "InvalidClaim") (b := false) hk (by decide +kernel), isx (d := "NotABook") (b := false) hk (by decide +kernel), isx (d := "InvalidPlans") (b := false) hk (by decide +kernel), isx (d := "InvalidPieces") (b := false) hk (by decide +kernel), isx (d := "UnknownPlan") (b := false) hk (by decide +kernel), isx (d := "TooLong") (b := false) hk (by decide +kernel), isx (d := "IsOver") (b := false) hk (by decide +kernel), isx (d := "NothingToUndo") (b := false) hk (by decide +kernel), isx (d := "Broken") (b := false) hk (by decide +kernel), isx (d := "NotRight") (b := true) hk (by decide +kernel), isx (d := "NotThere") (b := false) hk (by decide +kernel), isx (d := "CannotBe") (b := false) hk (by decide +kernel), isy (d := "ValueError") (b := true) hk (by decide +kernel), isy (d := "LookupError") (b := false) hk (by decide +kernel), isy (d := "ArithmeticError") (b := false) hk (by decide +kernel)]
  rw [exit_in rfl, List.take_length]
theorem er_NotThere {k : Hx} (hk : k.c = "NotThere") {fs : List (Str × D)} {m : Mu} : F__law_error k [.exn k fs] m = .ok (.lst [.str "odd", .str ""]) m := by
  have c1 : ∀ m, lcntF [.lst [.bl false, .bl false, .bl false, .bl false, .bl false, .bl false, .bl false, .bl false, .bl false, .bl false, .bl false, .bl false], .bl true] m = .ok (.int 0) m := fun _ => rfl
  have d8 : ((0 : Int) == 1) = false := rfl
  simp only [FA, SL, Nat.reduceSub, Nat.reduceAdd, AP, PAR, AB, LS, OI, EQ, IX, TD, eqK, if_true, if_false, Bool.not_true, Bool.not_false, Bool.false_eq_true, List.take_length, exit_bl, exit_int, exit_non, exit_str, decide_true, decide_false, F__law_error, B__law_error, XL, c1, d8, isx (d := "InvalidText") (b := false) hk (by decide +kernel), isx (d := "InvalidCount") (b := false) hk (by decide +kernel), isx (d := "InvalidPlace") (b := false) hk (by decide +kernel), isx (d := "InvalidClaim") (b := false) hk (by decide +kernel), isx (d := "NotABook") (b := false) hk (by decide +kernel), isx (d := "InvalidPlans") (b := false) hk (by decide +kernel), isx (d := "InvalidPieces") (b := false) hk (by decide +kernel), isx (d := "UnknownPlan") (b := false) hk (by decide +kernel), isx (d := "TooLong") (b := false) hk (by decide +kernel), isx (d := "IsOver") (b := false) hk (by decide +kernel), isx (d := "NothingToUndo") (b := false) hk (by decide +kernel), isx (d := "Broken") (b := false) hk (by decide +kernel), isx (d := "NotRight") (b := false) hk (by decide +kernel), isx (d := "NotThere") (b := true) hk (by decide +kernel), isx (d := "CannotBe") (b := false) hk (by decide +kernel), isy (d := "ValueError") (b := false) hk (by decide +kernel), isy (d := "LookupError") (b := true) hk (by decide +kernel), isy (d := "ArithmeticError") (b := false) hk (by decide +kernel)]
  rw [exit_in rfl, List.take_length]
theorem er_CannotBe {k : Hx} (hk : k.c = "CannotBe") {fs : List (Str × D)} {m : Mu} : F__law_error k [.exn k fs] m = .ok (.lst [.str "odd", .str ""]) m := by
  have c1 : ∀ m, lcntF [.lst [.bl false, .bl false, .bl false, .bl false, .bl false, .bl false, .bl false, .bl false, .bl false, .bl false, .bl false, .bl false], .bl true] m = .ok (.int 0) m := fun _ => rfl
  have d8 : ((0 : Int) == 1) = false := rfl
  simp only [FA, SL, Nat.reduceSub, Nat.reduceAdd, AP, PAR, AB, LS, OI, EQ, IX, TD, eqK, if_true, if_false, Bool.not_true, Bool.not_false, Bool.false_eq_true, List.take_length, exit_bl, exit_int, exit_non, exit_str, decide_true, decide_false, F__law_error, B__law_error, XL, c1, d8, isx (d := "InvalidText") (b := false) hk (by decide +kernel), isx (d := "InvalidCount") (b := false) hk (by decide +kernel), isx (d := "InvalidPlace") (b := false) hk (by decide +kernel), isx (d := "InvalidClaim") (b := false) hk (by decide +kernel), isx (d := "NotABook") (b := false) hk (by decide +kernel), isx (d := "InvalidPlans") (b := false) hk (by decide +kernel), isx (d := "InvalidPieces") (b := false) hk (by decide +kernel), isx (d := "UnknownPlan") (b := false) hk (by decide +kernel), isx (d := "TooLong") (b := false) hk (by decide +kernel), isx (d := "IsOver") (b := false) hk (by decide +kernel), isx (d := "NothingToUndo") (b := false) hk (by decide +kernel), isx (d := "Broken") (b := false) hk (by decide +kernel), isx (d := "NotRight") (b := false) hk (by decide +kernel), isx (d := "NotThere") (b := false) hk (by decide +kernel), isx (d := "CannotBe") (b := true) hk (by decide +kernel), isy (d := "ValueError") (b := false) hk (by decide +kernel), isy (d := "LookupError") (b := false) hk (by decide +kernel), isy (d := "ArithmeticError") (b := true) hk (by decide +kernel)]
  rw [exit_in rfl, List.take_length]
theorem er_none {k : Hx} (hk : k.c ∉ exT.nm) {fs : List (Str × D)} {m : Mu} : F__law_error k [.exn k fs] m = .stuck := by
  simp only [FA, SL, Nat.reduceSub, Nat.reduceAdd, AP, PAR, AB, LS, OI, EQ, IX, TD, eqK, if_true, if_false, Bool.not_true, Bool.not_false, Bool.false_eq_true, List.take_length, exit_bl, exit_int, exit_non, exit_str, decide_true, decide_false, F__law_error, B__law_error, isn hk]
  rfl
theorem er_iv (k k' : Hx) (fs : List (Str × D)) (m : Mu) (h : k.c = k'.c) : F__law_error k [.exn k fs] m = F__law_error k' [.exn k' fs] m := by
  by_cases hk : k.c ∈ exT.nm
  · have hn : exT.nm = (["NotRight", "InvalidText", "InvalidCount", "InvalidPlace", "InvalidClaim", "NotABook", "InvalidPlans", "InvalidPieces", "NotThere", "UnknownPlan", "CannotBe", "TooLong", "IsOver", "NothingToUndo", "Broken"] : List Str) := rfl
    rw [hn] at hk
    simp only [List.mem_cons, List.not_mem_nil, or_false] at hk
    rcases hk with hk | hk | hk | hk | hk | hk | hk | hk | hk | hk | hk | hk | hk | hk | hk
    · rw [er_NotRight hk, er_NotRight (h.symm.trans hk)]
    · rw [er_InvalidText hk, er_InvalidText (h.symm.trans hk)]
    · rw [er_InvalidCount hk, er_InvalidCount (h.symm.trans hk)]
    · rw [er_InvalidPlace hk, er_InvalidPlace (h.symm.trans hk)]
    · rw [er_InvalidClaim hk, er_InvalidClaim (h.symm.trans hk)]
    · rw [er_NotABook hk, er_NotABook (h.symm.trans hk)]
    · rw [er_InvalidPlans hk, er_InvalidPlans (h.symm.trans hk)]
    · rw [er_InvalidPieces hk, er_InvalidPieces (h.symm.trans hk)]
    · rw [er_NotThere hk, er_NotThere (h.symm.trans hk)]
    · rw [er_UnknownPlan hk, er_UnknownPlan (h.symm.trans hk)]
    · rw [er_CannotBe hk, er_CannotBe (h.symm.trans hk)]
    · rw [er_TooLong hk, er_TooLong (h.symm.trans hk)]
    · rw [er_IsOver hk, er_IsOver (h.symm.trans hk)]
    · rw [er_NothingToUndo hk, er_NothingToUndo (h.symm.trans hk)]
    · rw [er_Broken hk, er_Broken (h.symm.trans hk)]
  · rw [er_none hk, er_none (by rw [← h]; exact hk)]
theorem iv__law_caught : IvE 2 (fun k => (sRet (xCallX (F__law_error k) (xaCons (xVar 2) xaNil)))) := by
  intro k k' fs r m h
  have e := fun r' k0 (q : r'[2]? = some (some (D.exn k0 fs))) => show sRet (xCallX (F__law_error k0) (xaCons (xVar 2) xaNil)) r' m = ((F__law_error k0 [.exn k0 fs] m).ne.stm r' fun d m1 => .ret d m1) by
    show ((((xVar 2 r' m).bind fun x m1 => (Out.ok [] m1).bind fun xs m2 => Out.ok (x :: xs) m2).bind (F__law_error k0)).ne.stm r' fun d m1 => SO.ret d m1) = _
    unfold xVar
    rw [q]
    rfl
  by_cases hl : 2 < r.length
  · show (sRet (xCallX (F__law_error k) (xaCons (xVar 2) xaNil)) _ m).un 2 = (sRet (xCallX (F__law_error k') (xaCons (xVar 2) xaNil)) _ m).un 2
    rw [e _ k (List.getElem?_set_self hl), e _ k' (List.getElem?_set_self hl), er_iv k k' fs m h]
    cases F__law_error k' [.exn k' fs] m <;> rfl
  · have q : ∀ d : D, r.set 2 (some d) = r := fun d => List.set_eq_of_length_le (by omega)
    have z : ∀ G : Fn, sRet (xCallX G (xaCons (xVar 2) xaNil)) r m = .stuck := fun G => by
      show ((((xVar 2 r m).bind fun x m1 => (Out.ok [] m1).bind fun xs m2 => Out.ok (x :: xs) m2).bind G).ne.stm r fun d m1 => SO.ret d m1) = _
      unfold xVar
      rw [List.getElem?_eq_none (by omega)]
      rfl
    show (sRet (xCallX (F__law_error k) (xaCons (xVar 2) xaNil)) _ m).un 2 = (sRet (xCallX (F__law_error k') (xaCons (xVar 2) xaNil)) _ m).un 2
    rw [q, q, z, z]

end J

/-! # EB: what is raised is caught; books that are none -/
namespace J
open PySem PySem.Spec PyProof.Rows L2 DS
open SX (S)
theorem lam_told {i : Nat} {me : Str} {μ m1 : Mu} {fb : XE'} {r : Rho} {d : D} {z : Str} (ht : μ[i]? = some (.tab me)) (h : fb r μ = .ok d m1) (hr : reprF [d] m1 = .ok (.str z) m1) (hm : m1.take μ.length = μ) :
    xLam i me exT 3 (some 1) L__law_caught R__law_caught fb r μ = .ok (.lst [.str "told", .str z]) μ := by
  unfold xLam
  rw [ht]
  simp only [if_true]
  unfold lamG
  rw [h]
  simp only
  have e : R__law_caught (upJ (some 1) (List.replicate 3 none) d) m1 = .ret (.lst [.str "told", .str z]) m1 := by
    show R__law_caught [none, some d, none] m1 = _
    simp only [FA, SL, Nat.reduceSub, Nat.reduceAdd, AP, PAR, AB, LS, OI, EQ, IX, TD, eqK, if_true, if_false, Bool.not_true, Bool.not_false, Bool.false_eq_true, List.take_length, exit_bl, exit_int, exit_non, exit_str, decide_true, decide_false, R__law_caught, hr]
  rw [e]
  simp only
  rw [exit_in rfl, hm]
theorem lam_err {i : Nat} {me : Str} {μ m1 : Mu} {fb : XE'} {r : Rho} {c : Str} {fs : List (Str × D)} {z : Str} (ht : μ[i]? = some (.tab me)) (h : fb r μ = .exc c fs m1) (hm : m1.take μ.length = μ)
    (hc : (decide (c ∈ exT.nm) && (["NotRight", "NotThere", "CannotBe"] : List Str).any (exT.own c)) = true) (he : F__law_error ⟨0, none, c⟩ [.exn ⟨0, none, c⟩ fs] m1 = .ok (.lst [.str c, .str z]) m1) :
    xLam i me exT 3 (some 1) L__law_caught R__law_caught fb r μ = .ok (.lst [.str c, .str z]) μ := by
  unfold xLam
  rw [ht]
  simp only [if_true]
  unfold lamG
  rw [h]
  simp only
  rw [Bool.and_eq_true, decide_eq_true_eq] at hc
  have e : tryH exT c fs (List.replicate 3 none) m1 L__law_caught = .ret (.lst [.str c, .str z]) m1 := by
    unfold L__law_caught tryH
    rw [if_pos hc.1, if_pos hc.2]
    show (sRet (xCallX (F__law_error ⟨0, none, c⟩) (xaCons (xVar 2) xaNil)) [none, none, some (.exn ⟨0, none, c⟩ fs)] m1).un 2 = _
    show (((F__law_error ⟨0, none, c⟩ [.exn ⟨0, none, c⟩ fs] m1).ne.stm _ fun d m1 => SO.ret d m1)).un 2 = _
    rw [he]
    rfl
  rw [e]
  simp only
  rw [exit_in rfl, hm]
/-- an index, a text, a number that an error keeps -/
theorem lam_X {i : Nat} {me : Str} {μ m1 : Mu} {fb : XE'} {r : Rho} {c f : Str} {v : D} {z : Str} (ht : μ[i]? = some (.tab me)) (h : fb r μ = .exc c [(f, v)] m1) (hm : m1.take μ.length = μ)
    (hc : (decide (c ∈ exT.nm) && (["NotRight", "NotThere", "CannotBe"] : List Str).any (exT.own c)) = true) (he : ∀ m fs, F__law_error ⟨0, none, c⟩ [.exn ⟨0, none, c⟩ fs] m = errG c f fs m) (hr : reprF [v] m1 = .ok (.str z) m1) :
    xLam i me exT 3 (some 1) L__law_caught R__law_caught fb r μ = .ok (.lst [.str c, .str z]) μ := lam_err ht h hm hc (by rw [he]; exact err_at hr)
theorem lam_plans {i : Nat} {me : Str} {μ m1 : Mu} {fb : XE'} {r : Rho} {v : D} {z : Str} (ht : μ[i]? = some (.tab me)) (h : fb r μ = .exc "InvalidPlans" [("index", v)] m1) (hm : m1.take μ.length = μ) (hr : reprF [v] m1 = .ok (.str z) m1) :
    xLam i me exT 3 (some 1) L__law_caught R__law_caught fb r μ = .ok (.lst [.str "InvalidPlans", .str z]) μ := lam_X ht h hm (by decide +kernel) (fun m fs => er_InvalidPlans rfl) hr
theorem repr_nat {n : Nat} (h : n < 10) (m : Mu) : reprF [.int (n : Nat)] m = .ok (.str (S [48 + n])) m := by
  have : n = 0 ∨ n = 1 ∨ n = 2 ∨ n = 3 ∨ n = 4 ∨ n = 5 ∨ n = 6 ∨ n = 7 ∨ n = 8 ∨ n = 9 := by omega
  rcases this with rfl | rfl | rfl | rfl | rfl | rfl | rfl | rfl | rfl | rfl <;> rfl
theorem repr_non (m : Mu) : reprF [.non] m = .ok (.str "None") m := rfl
theorem RS : (∀ {cn f : Str} {a : XE'} {r : Rho} {m : Mu}, sRaise cn f a r m = (a r m).stm r fun d m1 => .exc cn [(f, d)] r m1) ∧ (∀ {n : Nat} {f : Str} {d : D}, D.inF n [(f, d)] = (d.inB n && true)) ∧ (∀ {n : Nat} {i : Int}, D.inB n (.int i) = true) ∧ (∀ {n : Nat}, D.inB n .non = true) ∧ (∀ {n : Nat} {z : Str}, D.inB n (.str z) = true) ∧
  (∀ {α β : Type} {c : Str} {fs : List (Str × D)} {m : Mu} {k : α → Mu → Out β}, Out.bind (.exc c fs m : Out α) k = .exc c fs m) := by
  refine ⟨?_, ?_, ?_, ?_, ?_, ?_⟩ <;> intros <;> rfl
/-- no book -/
theorem book_bad {ds : List D} {k : Nat} (hs : smL ds = true) (h0 : 0 < ds.length) (hl : ds.length ≤ sizeLine) (h : badL ds = some k) (μ : Mu) : makeD "Book" F_Book_D_initD_ true [.tup ds] μ = .exc "InvalidPlans" [("index", .int (k : Nat))] (μ ++ [.ins "Book" []]) := by
  have e2 : (((ds.length : Nat) : Int) == 0) = false := by
    rw [beq_eq_false_iff_ne]
    omega
  unfold makeD
  simp only [FA, SL, Nat.reduceSub, Nat.reduceAdd, AP, PAR, AB, LS, OI, EQ, IX, TD, eqK, if_true, if_false, Bool.not_true, Bool.not_false, Bool.false_eq_true, List.take_length, exit_bl, exit_int, exit_non, exit_str, decide_true, decide_false, F_Book_D_initD_, B_Book_D_initD_, isi_tup (show Pk (.tup ds) = true from rfl), isT, e2, first_invalid_ok hs hl, h, optN, isNonD, RS, Bool.and_true]
theorem book_not {d : D} (hp : Pk d = true) (ht : isT d = false) (μ : Mu) : makeD "Book" F_Book_D_initD_ true [d] μ = .exc "InvalidPlans" [("index", .non)] (μ ++ [.ins "Book" []]) := by
  unfold makeD
  simp only [FA, SL, Nat.reduceSub, Nat.reduceAdd, AP, PAR, AB, LS, OI, EQ, IX, TD, eqK, if_true, if_false, Bool.not_true, Bool.not_false, Bool.false_eq_true, List.take_length, exit_bl, exit_int, exit_non, exit_str, decide_true, decide_false, F_Book_D_initD_, B_Book_D_initD_, isi_tup hp, ht, RS, Bool.and_true]
theorem book_nil (μ : Mu) : makeD "Book" F_Book_D_initD_ true [.tup []] μ = .exc "InvalidPlans" [("index", .non)] (μ ++ [.ins "Book" []]) := by
  have e2 : (((0 : Nat) : Int) == 0) = true := rfl
  unfold makeD
  simp only [FA, SL, Nat.reduceSub, Nat.reduceAdd, AP, PAR, AB, LS, OI, EQ, IX, TD, eqK, if_true, if_false, Bool.not_true, Bool.not_false, Bool.false_eq_true, List.take_length, exit_bl, exit_int, exit_non, exit_str, decide_true, decide_false, F_Book_D_initD_, B_Book_D_initD_, isi_tup (show Pk (.tup []) = true from rfl), isT, e2, RS, Bool.and_true]
/-- Book(..).plans -/
theorem xplans {ds : List D} {f : XE'} {r : Rho} {m : Mu} (h : f r m = .ok (bookD ds) m) (hs : smL ds = true) : xProp "Book" F_Book_plans f r m = .ok (.tup ds) m := by
  show (f r m).bind _ = _
  rw [h]
  show (match insOf m (bookD ds) with
    | some (c', _) => if c' = ("Book" : Str) then (match F_Book_plans [bookD ds] m with
      | .exc _ _ _ => Out.stuck
      | q => q) else .stuck
    | none => .stuck) = _
  rw [show insOf m (bookD ds) = some (("Book" : Str), [(("held" : Str), .tup ds), (("parsed" : Str), .dct (ds.map fun d => (S (nameOf d), progD d)))]) from rfl, plans_ok hs]
  rfl
theorem xplans_exc {f : XE'} {r : Rho} {m m1 : Mu} {c : Str} {fs : List (Str × D)} (h : f r m = .exc c fs m1) : xProp "Book" F_Book_plans f r m = .exc c fs m1 := by
  show (f r m).bind _ = _
  rw [h]
  rfl
/-! ### texts put together -/
theorem cat2 {f g : XE'} {r : Rho} {m : Mu} {a b : List Nat} (ha : f r m = .ok (wD a) m) (hb : g r m = .ok (wD b) m) (hl : a.length + b.length ≤ 100000) : xOp addD f g r m = .ok (wD (a ++ b)) m := by
  show (f r m).bind _ = _
  rw [ha]
  show (g r m).bind _ = _
  rw [hb]
  exact add_str hl m
theorem catK {s : String} {r : Rho} {m : Mu} : xC (.str (Str.ofString s)) r m = .ok (wD (K s)) m := jK
end J

/-! # K04: clauses by digits -/
namespace J
open PySem PySem.Spec PyProof.Rows L2 DS
open SX (S)
def upP (l : List Nat) : D := .tup [.str "up", .str "all", .int 1, .tup [wD l]]
def lowP : D := .tup [.str "low", .str "before", .int 2, .tup [.str "clear 0 of 1"]]
def fitD (l : List Nat) : List D := [upP l, lowP]
def okL (l : List Nat) : Bool := (stands [K "up", K "low"] [K "up"] (roundL l)).isSome
theorem roundD_w (l : List Nat) : roundD (wD l) = roundL l := rfl
theorem bad_fit (l : List Nat) : badL (fitD l) = if okL l then none else some 0 := by
  have a0 : cA (fitD l) 0 = !(roundL l).isSome := by
    have h1 : planD (upP l) = (roundL l).isSome := by
      have : planD (upP l) = (nameD (.str "up") && ((goalD (.str "all")).isSome && (btw (.int 1) 1 4 && (decide (0 < 1) && (decide (1 ≤ 5) && ((roundD (wD l)).isSome && true)))))) := rfl
      rw [this, roundD_w, show nameD (.str "up") = true by decide +kernel, show (goalD (.str "all")).isSome = true by decide +kernel]
      simp [btw]
    show (decide (0 = 4) || (!planD (upP l) || decide (nameOf (upP l) ∈ ([] : List (List Nat))))) = _
    rw [h1]
    simp
  have a1 : cA (fitD l) 1 = false := by
    show (decide (1 = 4) || (!planD lowP || decide (nameOf lowP ∈ [TL.tl ("up" : Str)]))) = _
    decide +kernel
  have nm : (fitD l).map nameOf = [K "up", K "low"] := by
    show [TL.tl ("up" : Str), TL.tl ("low" : Str)] = _
    decide +kernel
  have b0 : cB (fitD l) 0 = !okL l := by
    unfold cB
    rw [nm]
    show ((stands [K "up", K "low"] [K "up"] (roundD (wD l))).isNone || false) = _
    rw [roundD_w]
    unfold okL
    cases stands [K "up", K "low"] [K "up"] (roundL l) <;> rfl
  have b1 : cB (fitD l) 1 = false := by
    unfold cB
    rw [nm]
    show ((stD [K "up", K "low"] [K "up", K "low"] (.str "clear 0 of 1")).isNone || false) = _
    decide +kernel
  unfold badL
  show (match [0, 1].find? (cA (fitD l)) with
    | some k => some k
    | none => [0, 1].find? (cB (fitD l))) = _
  simp only [List.find?_cons, a0, a1, b0, b1, List.find?_nil]
  cases h : roundL l with
  | none =>
    have : okL l = false := by unfold okL; rw [h]; rfl
    simp [this]
  | some cs =>
    simp only [Option.isSome_some, Bool.not_true]
    cases okL l <;> simp
theorem fit_sm {l : List Nat} (h : l.length + 2 ≤ 100000) : smL (fitD l) = true := by
  have h1 : sm (wD l) = true := by
    show decide ((S l).length + 2 ≤ sizeLine) = true
    rw [S_len', decide_eq_true_eq]
    exact le_line h
  have h2 : sm lowP = true := by decide +kernel
  show ((sm (.str "up") && (sm (.str "all") && (sm (.int 1) && ((sm (wD l) && true) && true)))) && (sm lowP && true)) = true
  rw [h1, h2, show sm (.str "up") = true by decide +kernel, show sm (.str "all") = true by decide +kernel]
  rfl
def upQ (l : List Nat) : PyData := .tuple [wP (K "up"), wP (K "all"), .int 1, .tuple [wP l]]
def lowQ : PyData := .tuple [wP (K "low"), wP (K "before"), .int 2, .tuple [wP (K "clear 0 of 1")]]
theorem fit_toP (l : List Nat) : toP (.tup (fitD l)) = some (.tuple [upQ l, lowQ]) := by
  unfold fitD upP lowP
  rw [K_S, K_S, K_S, K_S, K_S]
  rfl
theorem fit_shw {l : List Nat} (h : ∀ x ∈ l, x < 128) (hl : l.length ≤ 100) : Shw (.tuple [upQ l, lowQ]) 3 1000 := by
  have w : ∀ s : String, (∀ x ∈ K s, x < 128) → (K s).length ≤ 20 → Shw (wP (K s)) 1 20 := fun s a b => (shw_w a b).up (by decide) (Nat.le_refl _)
  have i : ∀ n : Nat, n < 10 → Shw (.int (n : Nat)) 1 8 := fun n hn => (shw_int hn).up (by decide) (Nat.le_refl _)
  have a0 : Shw (.tuple [wP l]) 1 101 := Shw.tup ((shw_w h hl).cons' (ShwL.nil (w := 0)))
  have a1 : Shw (upQ l) 2 400 := (Shw.tup ((w "up" (by decide +kernel) (by decide)).cons' ((w "all" (by decide +kernel) (by decide)).cons' ((i 1 (by decide)).cons' (a0.cons' (ShwL.nil (w := 0))))))).up (by decide) (by decide)
  have a2 : Shw (.tuple [wP (K "clear 0 of 1")]) 1 21 := Shw.tup ((shw_w (w := 20) (by decide +kernel) (by decide)).cons' (ShwL.nil (w := 0)))
  have a3 : Shw lowQ 2 400 := (Shw.tup ((w "low" (by decide +kernel) (by decide)).cons' ((w "before" (by decide +kernel) (by decide)).cons' ((i 2 (by decide)).cons' (a2.cons' (ShwL.nil (w := 0))))))).up (by decide) (by decide)
  exact (Shw.tup (a1.cons' (a3.cons' (ShwL.nil (w := 0))))).up (by decide) (by decide)
theorem fits_ok {l : List Nat} {μ : Mu} (ht : μ[0]? = some (.tab "_law_fits")) (h : ∀ x ∈ l, x < 128) (hl : l.length ≤ 100) : F__law_fits [wD l, .bl (okL l)] μ = .ok (.bl true) μ := by
  obtain ⟨z, hs, hz⟩ := repr_sok (d := .tup (fitD l)) (fun _ => rfl) (fit_toP l) (fit_shw h hl) (by decide) (by decide)
  have hz' : ∀ m, reprF [.tup [.tup [.str "up", .str "all", .int 1, .tup [.str (S l)]], .tup [.str "low", .str "before", .int 2, .tup [.str "clear 0 of 1"]]]] m = .ok (.str z) m := hz
  have hsm := fit_sm (l := l) (by omega)
  cases hk : okL l with
  | true =>
    have hb := bad_fit l
    rw [hk] at hb
    have hg : Good (fitD l) := ⟨hsm, by simp [fitD], hb⟩
    have e1 : xLam 0 "_law_fits" exT 3 (some 1) L__law_caught R__law_caught (xProp "Book" F_Book_plans (xMake "Book" F_Book_D_initD_ true (xaCons (xVar 2) xaNil))) [some (.str (S l)), some (.bl true), some (.tup [.tup [.str "up", .str "all", .int 1, .tup [.str (S l)]], .tup [.str "low", .str "before", .int 2, .tup [.str "clear 0 of 1"]]]), some (.lst [.str "told", .str z])] μ = .ok (.lst [.str "told", .str z]) μ :=
      lam_told ht (xplans (ds := fitD l) (book_ok hg μ) hsm) (hz _) (List.take_length)
    have e2 := eq_pair (Sok.lit "told") hs (Sok.lit "told") hs μ
    simp only [FA, SL, Nat.reduceSub, Nat.reduceAdd, AP, PAR, AB, LS, OI, EQ, IX, TD, eqK, if_true, if_false, Bool.not_true, Bool.not_false, Bool.false_eq_true, List.take_length, exit_bl, exit_int, exit_non, exit_str, decide_true, decide_false, F__law_fits, B__law_fits, wD, hz', e1, e2, beq_self_eq_true, Bool.and_true]
  | false =>
    have hb := bad_fit l
    rw [hk] at hb
    have e1 : xLam 0 "_law_fits" exT 3 (some 1) L__law_caught R__law_caught (xProp "Book" F_Book_plans (xMake "Book" F_Book_D_initD_ true (xaCons (xVar 2) xaNil))) [some (.str (S l)), some (.bl false), some (.tup [.tup [.str "up", .str "all", .int 1, .tup [.str (S l)]], .tup [.str "low", .str "before", .int 2, .tup [.str "clear 0 of 1"]]]), some (.lst [.str "InvalidPlans", .str "0"])] μ = .ok (.lst [.str "InvalidPlans", .str "0"]) μ :=
      lam_plans ht (xplans_exc (book_bad hsm (by simp [fitD]) (by simp [fitD]; decide) hb μ)) (by rw [List.take_left']; rfl) rfl
    have e2 := eq_pair (Sok.lit "InvalidPlans") (Sok.lit "0") (Sok.lit "InvalidPlans") (Sok.lit "0") μ
    simp only [FA, SL, Nat.reduceSub, Nat.reduceAdd, AP, PAR, AB, LS, OI, EQ, IX, TD, eqK, if_true, if_false, Bool.not_true, Bool.not_false, Bool.false_eq_true, List.take_length, exit_bl, exit_int, exit_non, exit_str, decide_true, decide_false, F__law_fits, B__law_fits, wD, hz', e1, e2, beq_self_eq_true, Bool.and_true]
/-! ### the texts -/
def endL (o b : Nat) : List Nat := [48 + o] ++ K " of " ++ [48 + b]
def actL (w : Bool) (o b : Nat) (s : Bool) (f : Nat) : List Nat := K (wrd w) ++ K " " ++ endL o b ++ K " " ++ K (sde s) ++ K " " ++ [48 + f]
def clsOk (o b : Nat) : Bool := decide (0 < b) && decide (b < 4) && decide (o < b)
theorem act_ok : ∀ w s : Bool, ∀ o : Fin 10, ∀ b : Fin 10, ∀ f : Fin 10, okL (actL w o b s f) = (clsOk o b && decide (0 < f.val ∧ f.val < 5)) := by decide +kernel
theorem clear_ok : ∀ o : Fin 10, ∀ b : Fin 10, okL (K "clear " ++ endL o b) = clsOk o b ∧ okL (K "call low on " ++ endL o b) = clsOk o b ∧ okL (K "call up on " ++ endL o b) = (clsOk o b && decide (1 < b.val)) := by decide +kernel
end J

/-! # K04b: k04, the walk over the digits -/
namespace J
open PySem PySem.Spec PyProof.Rows L2 DS
open SX (S)
theorem dlt (a b : Nat) : decide (((a : Nat) : Int) < ((b : Nat) : Int)) = decide (a < b) := by simp [Int.ofNat_lt]
theorem small_end {o b : Nat} (ho : o < 10) (hb : b < 10) : (∀ x ∈ endL o b, x < 128) ∧ (endL o b).length = 6 := by
  have k : ∀ x ∈ K " of ", x < 128 := by decide +kernel
  refine ⟨fun x hx => ?_, rfl⟩
  unfold endL at hx
  simp only [List.mem_append, List.mem_cons, List.not_mem_nil, or_false] at hx
  rcases hx with (rfl | hx) | rfl
  · omega
  · exact k x hx
  · omega
theorem small_act {w s : Bool} {o b f : Nat} (ho : o < 10) (hb : b < 10) (hf : f < 10) : (∀ x ∈ actL w o b s f, x < 128) ∧ (actL w o b s f).length ≤ 100 := by
  have k1 : ∀ w, ∀ x ∈ K (wrd w), x < 128 := by decide +kernel
  have k2 : ∀ w, ∀ x ∈ K (sde w), x < 128 := by decide +kernel
  have k3 : ∀ x ∈ K " ", x < 128 := by decide +kernel
  obtain ⟨h1, h2⟩ := small_end ho hb
  refine ⟨fun x hx => ?_, ?_⟩
  · unfold actL at hx
    simp only [List.mem_append, List.mem_cons, List.not_mem_nil, or_false] at hx
    rcases hx with (((((hx | hx) | hx) | hx) | hx) | hx) | rfl
    · exact k1 _ x hx
    · exact k3 x hx
    · exact h1 x hx
    · exact k3 x hx
    · exact k2 _ x hx
    · exact k3 x hx
    · omega
  · have l1 := kl.2.2.2.2.2.1 w
    have l2 := kl.2.2.2.2.2.2 s
    have l3 := kl.2.2.2.2.1
    unfold actL
    simp only [List.length_append, h2, l1, l3, List.length_cons, List.length_nil]
    omega
theorem small_pre {s : String} {l : List Nat} (hs : ∀ x ∈ K s, x < 128) (hl : (K s).length ≤ 20) (h : (∀ x ∈ l, x < 128) ∧ l.length = 6) : (∀ x ∈ K s ++ l, x < 128) ∧ (K s ++ l).length ≤ 100 := by
  refine ⟨fun x hx => ?_, ?_⟩
  · rw [List.mem_append] at hx
    exact hx.elim (hs x) (h.1 x)
  · rw [List.length_append, h.2]
    omega
abbrev tAct (i : Nat) : XE' := xOp addD (xOp addD (xOp addD (xOp addD (xOp addD (xOp addD (xVar 3) (xC (.str " "))) (xVar 7)) (xC (.str " "))) (xVar 4)) (xC (.str " "))) (xCall strF (xaCons (xVar i) xaNil))
theorem num_x {i k : Nat} {r : Rho} {m : Mu} (h : r[i]? = some (some (.int (k : Nat)))) (hk : k < 10) : xCall strF (xaCons (xVar i) xaNil) r m = .ok (wD [48 + k]) m := by
  show ((xVar i r m).bind _).bind _ = _
  unfold xVar
  rw [h]
  exact str_num hk m
theorem var_x {i : Nat} {d : D} {r : Rho} {m : Mu} (h : r[i]? = some (some d)) : xVar i r m = .ok d m := by
  unfold xVar
  rw [h]
theorem act_x {w s : Bool} {o b k i : Nat} {r : Rho} {m : Mu} (h3 : r[3]? = some (some (wD (K (wrd w))))) (h4 : r[4]? = some (some (wD (K (sde s))))) (h7 : r[7]? = some (some (wD (endL o b)))) (hi : r[i]? = some (some (.int (k : Nat)))) (hk : k < 10) : tAct i r m = .ok (wD (actL w o b s k)) m := by
  have l1 := kl.2.2.2.2.2.1 w
  have l2 := kl.2.2.2.2.2.2 s
  have l3 := kl.2.2.2.2.1
  have l4 : (endL o b).length = 6 := rfl
  refine cat2 (cat2 (cat2 (cat2 (cat2 (cat2 (var_x h3) catK ?_) (var_x h7) ?_) catK ?_) (var_x h4) ?_) catK ?_) (num_x hi hk) ?_ <;>
  · simp only [List.length_append, l1, l3, l4, List.length_cons, List.length_nil]
    omega
theorem fits_x {f g : XE'} {l : List Nat} {v : Bool} {r : Rho} {μ : Mu} (ht : μ[0]? = some (.tab "_law_fits")) (h : (∀ x ∈ l, x < 128) ∧ l.length ≤ 100) (hf : f r μ = .ok (wD l) μ) (hg : g r μ = .ok (.bl v) μ) (hv : okL l = v) : xNotT (xTest (xCall F__law_fits (xaCons f (xaCons g xaNil)))) r μ = .ok false μ := by
  subst hv
  have e := fits_ok ht h.1 h.2
  simp only [FA, SL, Nat.reduceSub, Nat.reduceAdd, AP, PAR, AB, LS, OI, EQ, IX, TD, eqK, if_true, if_false, Bool.not_true, Bool.not_false, Bool.false_eq_true, List.take_length, exit_bl, exit_int, exit_non, exit_str, decide_true, decide_false, hf, hg, e]
abbrev body2 : XS := (sSeq (sPar 7 8 (xaCons (xOp addD (xOp addD (xCall strF (xaCons (xVar 6) xaNil)) (xC (.str " of "))) (xCall strF (xaCons (xVar 5) xaNil))) (xaCons (xAnd (xChain ltD ltD (xC (.int 0)) (xVar 5) (xC (.int 4))) (xOp ltD (xVar 6) (xVar 5))) xaNil)))
  (sSeq (sIf (xNotT (xTest (xCall F__law_fits (xaCons (tAct 2) (xaCons (xVar 8) xaNil))))) (sRet (xC (.bl false))) sNil)
  (sSeq (sIf (xOrT (xNotT (xTest (xCall F__law_fits (xaCons (xOp addD (xC (.str "clear ")) (xVar 7)) (xaCons (xVar 8) xaNil))))) (xNotT (xTest (xCall F__law_fits (xaCons (xOp addD (xC (.str "call low on ")) (xVar 7)) (xaCons (xVar 8) xaNil)))))) (sRet (xC (.bl false))) sNil)
  (sIf (xNotT (xTest (xCall F__law_fits (xaCons (xOp addD (xC (.str "call up on ")) (xVar 7)) (xaCons (xAnd (xVar 8) (xOp gtD (xVar 5) (xC (.int 1)))) xaNil))))) (sRet (xC (.bl false))) sNil))))
theorem body2_ok {μ : Mu} (ht : μ[0]? = some (.tab "_law_fits")) {w s : Bool} {f o b : Nat} (hf : 0 < f ∧ f < 5) (ho : o < 10) (hb : b < 10) (a0 a1 a7 a8 a9 a10 : Option D) :
    body2 [a0, a1, some (.int (f : Nat)), some (wD (K (wrd w))), some (wD (K (sde s))), some (.int (b : Nat)), some (.int (o : Nat)), a7, a8, a9, a10] μ = .next [a0, a1, some (.int (f : Nat)), some (wD (K (wrd w))), some (wD (K (sde s))), some (.int (b : Nat)), some (.int (o : Nat)), some (wD (endL o b)), some (.bl (clsOk o b)), a9, a10] μ := by
  have e1 : ∀ r : Rho, r[6]? = some (some (.int (o : Nat))) → r[5]? = some (some (.int (b : Nat))) → xOp addD (xOp addD (xCall strF (xaCons (xVar 6) xaNil)) (xC (.str " of "))) (xCall strF (xaCons (xVar 5) xaNil)) r μ = .ok (wD (endL o b)) μ := fun r h6 h5 =>
    cat2 (cat2 (num_x h6 ho) catK (Nat.le_of_ble_eq_true rfl)) (num_x h5 hb) (Nat.le_of_ble_eq_true rfl)
  have e2 : ∀ r : Rho, r[6]? = some (some (.int (o : Nat))) → r[5]? = some (some (.int (b : Nat))) → xAnd (xChain ltD ltD (xC (.int 0)) (xVar 5) (xC (.int 4))) (xOp ltD (xVar 6) (xVar 5)) r μ = .ok (.bl (clsOk o b)) μ := fun r h6 h5 => by
    have d1 : decide ((0 : Int) < (b : Nat)) = decide (0 < b) := dlt 0 b
    have d2 : decide (((b : Nat) : Int) < 4) = decide (b < 4) := dlt b 4
    have d3 : decide (((o : Nat) : Int) < (b : Nat)) = decide (o < b) := dlt o b
    unfold clsOk
    simp only [FA, SL, Nat.reduceSub, Nat.reduceAdd, AP, PAR, AB, LS, OI, EQ, IX, TD, eqK, if_true, if_false, Bool.not_true, Bool.not_false, Bool.false_eq_true, List.take_length, exit_bl, exit_int, exit_non, exit_str, decide_true, decide_false, h6, h5, d1, d2, d3]
    by_cases q1 : 0 < b
    · by_cases q2 : b < 4
      · simp only [FA, SL, Nat.reduceSub, Nat.reduceAdd, AP, PAR, AB, LS, OI, EQ, IX, TD, eqK, if_true, if_false, Bool.not_true, Bool.not_false, Bool.false_eq_true, List.take_length, exit_bl, exit_int, exit_non, exit_str, decide_true, decide_false, q1, q2]; simp
      · simp only [FA, SL, Nat.reduceSub, Nat.reduceAdd, AP, PAR, AB, LS, OI, EQ, IX, TD, eqK, if_true, if_false, Bool.not_true, Bool.not_false, Bool.false_eq_true, List.take_length, exit_bl, exit_int, exit_non, exit_str, decide_true, decide_false, q1, q2]; simp
    · simp only [FA, SL, Nat.reduceSub, Nat.reduceAdd, AP, PAR, AB, LS, OI, EQ, IX, TD, eqK, if_true, if_false, Bool.not_true, Bool.not_false, Bool.false_eq_true, List.take_length, exit_bl, exit_int, exit_non, exit_str, decide_true, decide_false, q1]; simp
  obtain ⟨c1, c2, c3⟩ := clear_ok ⟨o, ho⟩ ⟨b, hb⟩
  have c4 := act_ok w s ⟨o, ho⟩ ⟨b, hb⟩ ⟨f, by omega⟩
  simp only at c1 c2 c3 c4
  rw [decide_eq_true hf, Bool.and_true] at c4
  obtain ⟨r, hr⟩ : ∃ r : Rho, r = [a0, a1, some (.int (f : Nat)), some (wD (K (wrd w))), some (wD (K (sde s))), some (.int (b : Nat)), some (.int (o : Nat)), some (wD (endL o b)), some (.bl (clsOk o b)), a9, a10] := ⟨_, rfl⟩
  have hse := small_end ho hb
  have kl1 : (K "clear ").length = 6 ∧ (K "call low on ").length = 12 ∧ (K "call up on ").length = 11 := by decide +kernel
  have g1 : xNotT (xTest (xCall F__law_fits (xaCons (tAct 2) (xaCons (xVar 8) xaNil)))) r μ = .ok false μ := by
    rw [hr]
    exact fits_x ht (small_act ho hb (show f < 10 by omega)) (act_x rfl rfl rfl rfl (by omega)) (var_x rfl) c4
  have pre : ∀ t : String, (K t).length ≤ 20 → xOp addD (xC (.str (Str.ofString t))) (xVar 7) r μ = .ok (wD (K t ++ endL o b)) μ := fun t h => by
    rw [hr]
    refine cat2 catK (var_x rfl) ?_
    rw [hse.2]
    omega
  have g2 : xNotT (xTest (xCall F__law_fits (xaCons (xOp addD (xC (.str "clear ")) (xVar 7)) (xaCons (xVar 8) xaNil)))) r μ = .ok false μ :=
    fits_x ht (small_pre (by decide +kernel) (by rw [kl1.1]; decide) hse) (pre "clear " (by rw [kl1.1]; decide)) (by rw [hr]; exact var_x rfl) c1
  have g3 : xNotT (xTest (xCall F__law_fits (xaCons (xOp addD (xC (.str "call low on ")) (xVar 7)) (xaCons (xVar 8) xaNil)))) r μ = .ok false μ :=
    fits_x ht (small_pre (by decide +kernel) (by rw [kl1.2.1]; decide) hse) (pre "call low on " (by rw [kl1.2.1]; decide)) (by rw [hr]; exact var_x rfl) c2
  have g4 : xNotT (xTest (xCall F__law_fits (xaCons (xOp addD (xC (.str "call up on ")) (xVar 7)) (xaCons (xAnd (xVar 8) (xOp gtD (xVar 5) (xC (.int 1)))) xaNil)))) r μ = .ok false μ :=
    fits_x ht (small_pre (by decide +kernel) (by rw [kl1.2.2]; decide) hse) (pre "call up on " (by rw [kl1.2.2]; decide)) (by
      have d : decide ((1 : Int) < (b : Nat)) = decide (1 < b) := dlt 1 b
      rw [hr]
      show (((Out.ok (D.bl (clsOk o b)) μ).bind asB).bind fun k m1 => if k then (Out.ok (D.bl (decide ((1 : Int) < (b : Nat)))) m1) else Out.ok (D.bl false) m1) = _
      rw [d]
      show (if clsOk o b = true then Out.ok (D.bl (decide (1 < b))) μ else Out.ok (D.bl false) μ) = Out.ok (D.bl (clsOk o b && decide (1 < b))) μ
      cases clsOk o b <;> simp) c3
  subst hr
  refine s_seq (s_par (wa_2 (e1 _ rfl rfl) (e2 _ rfl rfl))) ?_
  refine s_seq (s_no g1) (s_seq (s_no (w_or0 g2 g3)) (s_no g4))
abbrev body3 : XS := (sIf (xNotT (xTest (xCall F__law_fits (xaCons (tAct 10) (xaCons (xChain ltD ltD (xC (.int 0)) (xVar 10) (xC (.int 5))) xaNil))))) (sRet (xC (.bl false))) sNil)
theorem body3_ok {μ : Mu} (ht : μ[0]? = some (.tab "_law_fits")) {w s : Bool} {f o b : Nat} (hc : clsOk o b = true) (hf : f < 10) (ho : o < 10) (hb : b < 10) {r : Rho} (h3 : r[3]? = some (some (wD (K (wrd w))))) (h4 : r[4]? = some (some (wD (K (sde s))))) (h7 : r[7]? = some (some (wD (endL o b)))) (h10 : r[10]? = some (some (.int (f : Nat)))) : body3 r μ = .next r μ := by
  have c4 := act_ok w s ⟨o, ho⟩ ⟨b, hb⟩ ⟨f, hf⟩
  simp only at c4
  rw [hc, Bool.true_and] at c4
  refine s_no (fits_x ht (small_act ho hb hf) (act_x h3 h4 h7 h10 hf) ?_ c4)
  have := v_chain (r := r) (m := μ) (o := ltD) (o' := ltD) (f := xC (.int 0)) (g := xVar 10) (h := xC (.int 5)) w_c (w_var h10) w_c (show _ = Out.ok (D.bl (decide ((0 : Int) < (f : Nat)))) μ from rfl) (show _ = Out.ok (D.bl (decide (((f : Nat) : Int) < 5))) μ from rfl)
  rw [this, show decide ((0 : Int) < (f : Nat)) = decide (0 < f) from dlt 0 f, show decide (((f : Nat) : Int) < 5) = decide (f < 5) from dlt f 5, Bool.decide_and]
theorem right_ok {n : Nat} {μ : Mu} (ht : μ[0]? = some (.tab "_law_fits")) (hn : 0 < n) (h : Cup n μ) : ∃ μ', F__law_right [.loc n] μ = .ok (.bl true) μ' ∧ Sip n μ μ' := by
  have tabs : ∀ {μ' : Mu}, Sip n μ μ' → μ'[0]? = some (.tab "_law_fits") := fun {μ'} s => by
    obtain ⟨a, b, c, rfl⟩ := s
    rw [List.getElem?_set_ne (by omega)]
    exact ht
  obtain ⟨q, μ1, e1, hq, s1⟩ := draw_ok (top := 5) h (by decide) (by decide)
  obtain ⟨f, μ2, e2, hf, s2⟩ := draw_ok (top := 4) (s1.cup h) (by decide) (by decide)
  have h2 := s2.cup (s1.cup h)
  obtain ⟨wd, μ3, e3, hw, s3⟩ := pick_w (ws := [K "join", K "take"]) h2 (by decide) (by decide)
  obtain ⟨sd, μ4, e4, hs, s4⟩ := pick_w (ws := [K "left", K "right"]) (s3.cup h2) (by decide) (by decide)
  obtain ⟨w, rfl⟩ : ∃ w : Bool, wd = K (wrd w) := by
    simp only [List.mem_cons, List.not_mem_nil, or_false] at hw
    rcases hw with rfl | rfl
    · exact ⟨false, rfl⟩
    · exact ⟨true, rfl⟩
  obtain ⟨s, rfl⟩ : ∃ s : Bool, sd = K (sde s) := by
    simp only [List.mem_cons, List.not_mem_nil, or_false] at hs
    rcases hs with rfl | rfl
    · exact ⟨false, rfl⟩
    · exact ⟨true, rfl⟩
  have S4 := s1.trans (s2.trans (s3.trans s4))
  have h4 := S4.cup h
  have t4 := tabs S4
  let dg : List Nat := [0, 1, 2, 3, 4, 5 + q]
  have hdg : ∀ x ∈ dg, x < 10 := fun x hx => by
    simp only [dg, List.mem_cons, List.not_mem_nil, or_false] at hx
    omega
  let dsD : D := .lst [.int 0, .int 1, .int 2, .int 3, .int 4, .int ((5 + q : Nat) : Int)]
  let fD : D := .int ((1 + f : Nat) : Int)
  have c1 : F__law_draw [.loc n, .int 5] μ = .ok (.int (q : Nat)) μ1 := e1
  have c2 : F__law_draw [.loc n, .int 4] μ1 = .ok (.int (f : Nat)) μ2 := e2
  have c3 : F__law_pick [.loc n, .lst [.str "join", .str "take"]] μ2 = .ok (wD (K (wrd w))) μ3 := by rw [K_S, K_S]; exact e3
  have c4 : F__law_pick [.loc n, .lst [.str "left", .str "right"]] μ3 = .ok (wD (K (sde s))) μ4 := by rw [K_S, K_S]; exact e4
  have ad : ∀ (a b : Nat) (m : Mu), addD (.int (a : Nat)) (.int (b : Nat)) m = .ok (.int ((a + b : Nat) : Int)) m := fun a b m => by
    show Out.ok (D.int ((a : Int) + b)) m = _
    rw [Int.natCast_add]
  have in1 : ∀ b : Nat, b < 10 → ∀ a6 a7 a8, ∃ r', loopF (gNm 6) body2 (dg.map nD) [some (.loc n), some dsD, some fD, some (wD (K (wrd w))), some (wD (K (sde s))), some (.int (b : Nat)), a6, a7, a8, none, none] μ4 = .next r' μ4 ∧ ∃ a6 a7 a8, r' = [some (.loc n), some dsD, some fD, some (wD (K (wrd w))), some (wD (K (sde s))), some (.int (b : Nat)), a6, a7, a8, none, none] := fun b hb a6 a7 a8 => by
    refine loop_keep (fun r => ∃ a6 a7 a8, r = [some (.loc n), some dsD, some fD, some (wD (K (wrd w))), some (wD (K (sde s))), some (.int (b : Nat)), a6, a7, a8, none, none]) ⟨a6, a7, a8, rfl⟩ fun x hx r hr => ?_
    obtain ⟨a6, a7, a8, rfl⟩ := hr
    obtain ⟨o, ho, rfl⟩ := List.mem_map.mp hx
    exact ⟨_, _, rfl, body2_ok t4 (f := 1 + f) (by omega) (hdg o ho) hb _ _ a7 a8 _ _, _, _, _, rfl⟩
  have out1 : ∃ r', loopF (gNm 5) (sFor (xiSeq (xVar 1)) (gNm 6) body2) (dg.map nD) [some (.loc n), some dsD, some fD, some (wD (K (wrd w))), some (wD (K (sde s))), none, none, none, none, none, none] μ4 = .next r' μ4 ∧ ∃ a5 a6 a7 a8, r' = [some (.loc n), some dsD, some fD, some (wD (K (wrd w))), some (wD (K (sde s))), a5, a6, a7, a8, none, none] := by
    refine loop_keep (fun r => ∃ a5 a6 a7 a8, r = [some (.loc n), some dsD, some fD, some (wD (K (wrd w))), some (wD (K (sde s))), a5, a6, a7, a8, none, none]) ⟨_, _, _, _, rfl⟩ fun x hx r hr => ?_
    obtain ⟨a5, a6, a7, a8, rfl⟩ := hr
    obtain ⟨b, hb, rfl⟩ := List.mem_map.mp hx
    obtain ⟨r', e, b6, b7, b8, rfl⟩ := in1 b (hdg b hb) a6 a7 a8
    exact ⟨_, _, rfl, s_for (wi_seq (w_var rfl) rfl) e, _, _, _, _, rfl⟩
  obtain ⟨r5, eo, a5, a6, a7, a8, rfl⟩ := out1
  obtain ⟨lb, μ5, e5, hb5, s5⟩ := draw_ok (top := 3) h4 (by decide) (by decide)
  have c5 : F__law_draw [.loc n, .int 3] μ4 = .ok (.int (lb : Nat)) μ5 := e5
  have h5 := s5.cup h4
  obtain ⟨lo, μ6, e6, ho6, s6⟩ := draw_ok (top := 1 + lb) h5 (by omega) (by omega)
  have c6 : F__law_draw [.loc n, .int ((1 + lb : Nat) : Int)] μ5 = .ok (.int (lo : Nat)) μ6 := e6
  have S6 := S4.trans (s5.trans s6)
  have t6 := tabs S6
  have hcl : clsOk lo (1 + lb) = true := by
    unfold clsOk
    rw [decide_eq_true (show 0 < 1 + lb by omega), decide_eq_true (show 1 + lb < 4 by omega), decide_eq_true ho6]
    rfl
  let q1 : Option D := some (.loc n)
  have l1 : ∀ w' s' : Bool, ∀ a5 a6 a8 a10, ∃ r', loopF (gNm 10) body3 (rngL 0 10) [some (.loc n), some dsD, some fD, some (wD (K (wrd w'))), some (wD (K (sde s'))), a5, a6, some (wD (endL lo (1 + lb))), a8, some (.int ((1 + lb : Nat) : Int)), a10] μ6 = .next r' μ6 ∧ ∃ a10, r' = [some (.loc n), some dsD, some fD, some (wD (K (wrd w'))), some (wD (K (sde s'))), a5, a6, some (wD (endL lo (1 + lb))), a8, some (.int ((1 + lb : Nat) : Int)), a10] := fun w' s' a5 a6 a8 a10 => by
    refine loop_keep (fun r => ∃ a10, r = [some (.loc n), some dsD, some fD, some (wD (K (wrd w'))), some (wD (K (sde s'))), a5, a6, some (wD (endL lo (1 + lb))), a8, some (.int ((1 + lb : Nat) : Int)), a10]) ⟨a10, rfl⟩ fun x hx r hr => ?_
    obtain ⟨a10, rfl⟩ := hr
    obtain ⟨k, hk, rfl⟩ : ∃ k : Nat, k < 10 ∧ x = .int k := by
      unfold rngL at hx
      obtain ⟨k, hk, rfl⟩ := List.mem_map.mp hx
      exact ⟨k, List.mem_range.mp hk, by rw [Int.zero_add]⟩
    exact ⟨_, _, rfl, body3_ok t6 hcl hk (by omega) (by omega) (w := w') (s := s') rfl rfl rfl rfl, _, rfl⟩
  have l2 : ∀ w' : Bool, ∀ a4 a5 a6 a8 a10, ∃ r', loopF (gNm 4) (sFor (xiRng1 (xaCons (xC (.int 10)) xaNil)) (gNm 10) body3) [.str "left", .str "right"] [some (.loc n), some dsD, some fD, some (wD (K (wrd w'))), a4, a5, a6, some (wD (endL lo (1 + lb))), a8, some (.int ((1 + lb : Nat) : Int)), a10] μ6 = .next r' μ6 ∧ ∃ a4 a10, r' = [some (.loc n), some dsD, some fD, some (wD (K (wrd w'))), a4, a5, a6, some (wD (endL lo (1 + lb))), a8, some (.int ((1 + lb : Nat) : Int)), a10] := fun w' a4 a5 a6 a8 a10 => by
    refine loop_keep (fun r => ∃ a4 a10, r = [some (.loc n), some dsD, some fD, some (wD (K (wrd w'))), a4, a5, a6, some (wD (endL lo (1 + lb))), a8, some (.int ((1 + lb : Nat) : Int)), a10]) ⟨a4, a10, rfl⟩ fun x hx r hr => ?_
    obtain ⟨a4, a10, rfl⟩ := hr
    obtain ⟨s', rfl⟩ : ∃ s' : Bool, x = wD (K (sde s')) := by
      rw [K_S, K_S] at hx
      simp only [List.mem_cons, List.not_mem_nil, or_false] at hx
      rcases hx with rfl | rfl
      · exact ⟨false, rfl⟩
      · exact ⟨true, rfl⟩
    obtain ⟨r', e, b10, rfl⟩ := l1 w' s' a5 a6 a8 a10
    exact ⟨_, _, rfl, s_for (wi_rng1 (k := 10) w_c (by decide)) e, _, _, rfl⟩
  have l3 : ∀ a3 a4 a5 a6 a8 a10, ∃ r', loopF (gNm 3) (sFor (xiSeq (xLst (xaCons (xC (.str "left")) (xaCons (xC (.str "right")) xaNil)))) (gNm 4) (sFor (xiRng1 (xaCons (xC (.int 10)) xaNil)) (gNm 10) body3)) [.str "join", .str "take"] [some (.loc n), some dsD, some fD, a3, a4, a5, a6, some (wD (endL lo (1 + lb))), a8, some (.int ((1 + lb : Nat) : Int)), a10] μ6 = .next r' μ6 ∧ True := fun a3 a4 a5 a6 a8 a10 => by
    obtain ⟨r', e, _⟩ := loop_keep (g := gNm 3) (body := sFor (xiSeq (xLst (xaCons (xC (.str "left")) (xaCons (xC (.str "right")) xaNil)))) (gNm 4) (sFor (xiRng1 (xaCons (xC (.int 10)) xaNil)) (gNm 10) body3)) (μ := μ6) (xs := [.str "join", .str "take"]) (fun r => ∃ a3 a4 a10, r = [some (.loc n), some dsD, some fD, a3, a4, a5, a6, some (wD (endL lo (1 + lb))), a8, some (.int ((1 + lb : Nat) : Int)), a10]) (r := [some (.loc n), some dsD, some fD, a3, a4, a5, a6, some (wD (endL lo (1 + lb))), a8, some (.int ((1 + lb : Nat) : Int)), a10]) ⟨a3, a4, a10, rfl⟩ fun x hx r hr => by
      obtain ⟨a3, a4, a10, rfl⟩ := hr
      obtain ⟨w', rfl⟩ : ∃ w' : Bool, x = wD (K (wrd w')) := by
        rw [K_S, K_S] at hx
        simp only [List.mem_cons, List.not_mem_nil, or_false] at hx
        rcases hx with rfl | rfl
        · exact ⟨false, rfl⟩
        · exact ⟨true, rfl⟩
      obtain ⟨r', e, b4, b10, rfl⟩ := l2 w' a4 a5 a6 a8 a10
      exact ⟨_, _, rfl, s_for (wi_seq (w_lst (wa_2 w_c w_c)) rfl) e, _, _, _, rfl⟩
    exact ⟨r', e, trivial⟩
  obtain ⟨r9, e9, _⟩ := l3 (some (wD (K (wrd w)))) (some (wD (K (sde s)))) a5 a6 a8 none
  refine ⟨μ6, f_ret' (m1 := μ6) ?_ rfl (S6.take rfl), S6⟩
  refine s_seq (s_par (wa_2 (w_lst (wa_cons w_c (wa_cons w_c (wa_cons w_c (wa_cons w_c (wa_cons w_c (wa_1 (w_op w_c (w_call (wa_2 (w_var rfl) w_c) c1) (ad 5 q _))))))))) (w_op w_c (w_call (wa_2 (w_var rfl) w_c) c2) (ad 1 f _)))) ?_
  refine s_seq (s_par (wa_2 (w_call (wa_2 (w_var rfl) (w_lst (wa_2 w_c w_c))) c3) (w_call (wa_2 (w_var rfl) (w_lst (wa_2 w_c w_c))) c4))) ?_
  refine s_seq (s_for (wi_seq (w_var rfl) rfl) eo) ?_
  refine s_seq (s_asg (w_op w_c (w_call (wa_2 (w_var rfl) w_c) c5) (ad 1 lb _))) ?_
  refine s_seq (s_asg (d := wD (endL lo (1 + lb))) (w_op (x := wD ([48 + lo] ++ K " of ")) (y := wD [48 + (1 + lb)]) (m2 := μ6) (w_op (x := wD [48 + lo]) (y := wD (K " of ")) (m2 := μ6) (w_call (wa_1 (w_call (wa_2 (w_var rfl) (w_var rfl)) c6)) (str_num (show lo < 10 by omega) _)) catK (add_str (Nat.le_of_ble_eq_true rfl) _)) (num_x rfl (by omega)) (add_str (Nat.le_of_ble_eq_true rfl) _))) ?_
  refine s_seq (s_for (wi_seq (w_lst (wa_2 w_c w_c)) rfl) e9) ?_
  exact s_ret w_c
theorem law_true (ns : List Int) (hl : ns.length ≤ 63) : ∃ m', F_law [.fix (ns.map .int)] (mu0 ["_law_fits"]) = .ok (.bl true) m' := by
  have e := drawnB (ns := ns) (N := max 2 (min ns.length 3)) (i := 1) (right := F__law_right) (rest := xaNil) (es := []) (B := mu0 ["_law_fits"]) (r0 := [some (.fix (ns.map .int)), none]) rfl (by decide) (Nat.le_of_ble_eq_true rfl) (by omega) (fun _ _ => rfl) fun n μ ν hc hm hn => right_ok (by rw [hm]; rfl) (by omega) hc
  exact ⟨_, f_ret' (s_ret (w_call (wa_1 (w_lc (turns (k := 3) rfl (by decide)) e)) (allT_ok _ _))) rfl rfl⟩
end J

namespace J
open PySem PySem.Spec PyProof.Rows L2 DS
def topS (i : Nat) : Stmt := PySem.Challenge.pw_joinrounds_k04_clauses_by_digits.main.body.getD i (.Pass ⟨0, 0, 0, 0⟩)
def clsS (st : Stmt) (j : Nat) : Stmt := match st with
  | .ClassDef _ _ _ body _ _ _ _ _ _ _ => body.getD j (.Pass ⟨0, 0, 0, 0⟩)
  | _ => .Pass ⟨0, 0, 0, 0⟩
abbrev s__law_error : Stmt := topS 53
abbrev N__law_error : List Str := ["_law_e", "_law_sorts", "_law_bases", "_law_own", "_law_at", "_law_words"]
abbrev P__law_error : List Str := ["_law_e"]
def d__law_error : He.DefD := ⟨("_law_error", none), "_law_error", "_law_error", defArgs s__law_error, defBody s__law_error, defScope s__law_error, [], []⟩
abbrev s__law_caught : Stmt := topS 54
abbrev N__law_caught : List Str := ["_law_act", "_law_back", "_law_e"]
abbrev P__law_caught : List Str := ["_law_act"]
def d__law_caught : He.DefD := ⟨("_law_caught", none), "_law_caught", "_law_caught", defArgs s__law_caught, defBody s__law_caught, defScope s__law_caught, [], []⟩
abbrev s_Book_plans : Stmt := clsS (topS 47) 2
abbrev N_Book_plans : List Str := ["self"]
abbrev P_Book_plans : List Str := ["self"]
def p_Book_plans : PrD := ⟨"Book", "plans", "Book.plans", defArgs s_Book_plans, defBody s_Book_plans, defScope s_Book_plans⟩
abbrev s_meet : Stmt := topS 37
abbrev N_meet : List Str := ["one", "other"]
abbrev P_meet : List Str := ["one", "other"]
def d_meet : He.DefD := ⟨("meet", none), "meet", "meet", defArgs s_meet, defBody s_meet, defScope s_meet, [], []⟩
abbrev s_Clause_D_initD_ : Stmt := clsS (topS 32) 0
abbrev N_Clause_D_initD_ : List Str := ["self", "word", "rest", "step", "side", "far", "goal"]
abbrev P_Clause_D_initD_ : List Str := ["self", "word", "rest", "step", "side", "far", "goal"]
def d_Clause_D_initD_ : He.DefD := ⟨("Clause", some "__init__"), "__init__", "Clause.__init__", defArgs s_Clause_D_initD_, defBody s_Clause_D_initD_, defScope s_Clause_D_initD_, [.non, .non, .non], []⟩
abbrev s_is_integer : Stmt := topS 20
abbrev N_is_integer : List Str := ["value"]
abbrev P_is_integer : List Str := ["value"]
def d_is_integer : He.DefD := ⟨("is_integer", none), "is_integer", "is_integer", defArgs s_is_integer, defBody s_is_integer, defScope s_is_integer, [], []⟩
abbrev s_is_between : Stmt := topS 21
abbrev N_is_between : List Str := ["value", "least", "most"]
abbrev P_is_between : List Str := ["value", "least", "most"]
def d_is_between : He.DefD := ⟨("is_between", none), "is_between", "is_between", defArgs s_is_between, defBody s_is_between, defScope s_is_between, [], []⟩
abbrev s_digit_of : Stmt := topS 33
abbrev N_digit_of : List Str := ["word"]
abbrev P_digit_of : List Str := ["word"]
def d_digit_of : He.DefD := ⟨("digit_of", none), "digit_of", "digit_of", defArgs s_digit_of, defBody s_digit_of, defScope s_digit_of, [], []⟩
abbrev s_class_of : Stmt := topS 34
abbrev N_class_of : List Str := ["words", "rest", "step"]
abbrev P_class_of : List Str := ["words"]
def d_class_of : He.DefD := ⟨("class_of", none), "class_of", "class_of", defArgs s_class_of, defBody s_class_of, defScope s_class_of, [], []⟩
abbrev s_is_name : Stmt := topS 22
abbrev N_is_name : List Str := ["value", "sign"]
abbrev P_is_name : List Str := ["value"]
def d_is_name : He.DefD := ⟨("is_name", none), "is_name", "is_name", defArgs s_is_name, defBody s_is_name, defScope s_is_name, [], []⟩
abbrev s_read_call : Stmt := topS 35
abbrev N_read_call : List Str := ["words", "found", "rest", "step"]
abbrev P_read_call : List Str := ["words"]
def d_read_call : He.DefD := ⟨("read_call", none), "read_call", "read_call", defArgs s_read_call, defBody s_read_call, defScope s_read_call, [], []⟩
abbrev s_read_clause : Stmt := topS 36
abbrev N_read_clause : List Str := ["text", "words", "found", "rest", "step", "far"]
abbrev P_read_clause : List Str := ["text"]
def d_read_clause : He.DefD := ⟨("read_clause", none), "read_clause", "read_clause", defArgs s_read_clause, defBody s_read_clause, defScope s_read_clause, [], []⟩
abbrev s_read_clauses : Stmt := topS 38
abbrev N_read_clauses : List Str := ["text", "found", "calls", "at", "clause", "part", "other"]
abbrev P_read_clauses : List Str := ["text"]
def d_read_clauses : He.DefD := ⟨("read_clauses", none), "read_clauses", "read_clauses", defArgs s_read_clauses, defBody s_read_clauses, defScope s_read_clauses, [], []⟩
abbrev s_read_round : Stmt := topS 39
abbrev N_read_round : List Str := ["text", "names", "above", "found", "clause"]
abbrev P_read_round : List Str := ["text", "names", "above"]
def d_read_round : He.DefD := ⟨("read_round", none), "read_round", "read_round", defArgs s_read_round, defBody s_read_round, defScope s_read_round, [], []⟩
abbrev s_read_goal : Stmt := topS 41
abbrev N_read_goal : List Str := ["text", "many"]
abbrev P_read_goal : List Str := ["text"]
def d_read_goal : He.DefD := ⟨("read_goal", none), "read_goal", "read_goal", defArgs s_read_goal, defBody s_read_goal, defScope s_read_goal, [], []⟩
abbrev s_is_plan : Stmt := topS 42
abbrev N_is_plan : List Str := ["value", "name", "goal", "base", "rounds", "text"]
abbrev P_is_plan : List Str := ["value"]
def d_is_plan : He.DefD := ⟨("is_plan", none), "is_plan", "is_plan", defArgs s_is_plan, defBody s_is_plan, defScope s_is_plan, [], []⟩
abbrev s_first_invalid : Stmt := topS 43
abbrev N_first_invalid : List Str := ["plans", "names", "index", "plan", "text"]
abbrev P_first_invalid : List Str := ["plans"]
def d_first_invalid : He.DefD := ⟨("first_invalid", none), "first_invalid", "first_invalid", defArgs s_first_invalid, defBody s_first_invalid, defScope s_first_invalid, [], []⟩
abbrev s_Book_D_initD_ : Stmt := clsS (topS 47) 0
abbrev N_Book_D_initD_ : List Str := ["self", "plans", "index", "plan", "text"]
abbrev P_Book_D_initD_ : List Str := ["self", "plans"]
def d_Book_D_initD_ : He.DefD := ⟨("Book", some "__init__"), "__init__", "Book.__init__", defArgs s_Book_D_initD_, defBody s_Book_D_initD_, defScope s_Book_D_initD_, [], []⟩
abbrev s__law_fits : Stmt := topS 55
abbrev N__law_fits : List Str := ["_law_line", "_law_fine", "_law_told", "_law_due"]
abbrev P__law_fits : List Str := ["_law_line", "_law_fine"]
def d__law_fits : He.DefD := ⟨("_law_fits", none), "_law_fits", "_law_fits", defArgs s__law_fits, defBody s__law_fits, defScope s__law_fits, [], []⟩
abbrev s__law_draw : Stmt := topS 51
abbrev N__law_draw : List Str := ["_law_purse_here", "_law_many", "_law_mixed", "_law_digit"]
abbrev P__law_draw : List Str := ["_law_purse_here", "_law_many"]
def d__law_draw : He.DefD := ⟨("_law_draw", none), "_law_draw", "_law_draw", defArgs s__law_draw, defBody s__law_draw, defScope s__law_draw, [], []⟩
abbrev s__law_pick : Stmt := topS 52
abbrev N__law_pick : List Str := ["_law_purse_here", "_law_menu"]
abbrev P__law_pick : List Str := ["_law_purse_here", "_law_menu"]
def d__law_pick : He.DefD := ⟨("_law_pick", none), "_law_pick", "_law_pick", defArgs s__law_pick, defBody s__law_pick, defScope s__law_pick, [], []⟩
abbrev s__law_right : Stmt := topS 56
abbrev N__law_right : List Str := ["_law_purse_here", "_law_digits", "_law_wide", "_law_word", "_law_side", "_law_by", "_law_over", "_law_ends", "_law_fine", "_law_last_by", "_law_far"]
abbrev P__law_right : List Str := ["_law_purse_here"]
def d__law_right : He.DefD := ⟨("_law_right", none), "_law_right", "_law_right", defArgs s__law_right, defBody s__law_right, defScope s__law_right, [], []⟩
abbrev s__law_purse : Stmt := topS 50
abbrev N__law_purse : List Str := ["_law_number", "_law_great"]
abbrev P__law_purse : List Str := ["_law_number"]
def d__law_purse : He.DefD := ⟨("_law_purse", none), "_law_purse", "_law_purse", defArgs s__law_purse, defBody s__law_purse, defScope s__law_purse, [], []⟩
abbrev s__law_cell : Stmt := topS 49
abbrev N__law_cell : List Str := ["_law_script", "_law_k", "_law_mixed", "_law_number"]
abbrev P__law_cell : List Str := ["_law_script", "_law_k"]
def d__law_cell : He.DefD := ⟨("_law_cell", none), "_law_cell", "_law_cell", defArgs s__law_cell, defBody s__law_cell, defScope s__law_cell, [], []⟩
abbrev s_law : Stmt := topS 57
abbrev N_law : List Str := ["_law_script", "_law_k"]
abbrev P_law : List Str := ["_law_script"]
def d_law : He.DefD := ⟨("law", none), "law", "law", defArgs s_law, defBody s_law, defScope s_law, [], []⟩
abbrev s_InvalidPlans_D_initD_ : Stmt := clsS (topS 8) 0
def xi_InvalidPlans : XiD := ⟨"InvalidPlans", "index", "ValueError", "InvalidPlans.__init__", defArgs s_InvalidPlans_D_initD_, defBody s_InvalidPlans_D_initD_, defScope s_InvalidPlans_D_initD_⟩
def fa0 : List He.Fa := [.glo "InvalidText", .free "isinstance", .glo "InvalidCount", .glo "InvalidPlace", .glo "InvalidClaim", .glo "NotABook", .glo "InvalidPlans", .glo "InvalidPieces"]
def fa1 : List He.Fa := [.glo "UnknownPlan", .glo "TooLong", .glo "IsOver", .glo "NothingToUndo", .glo "Broken", .glo "NotRight", .glo "NotThere", .glo "CannotBe"]
def fa2 : List He.Fa := [.free "ValueError", .free "LookupError", .free "ArithmeticError", .free "repr", .glo "_law_error", .cls "Book", .noat "Book" "held", .cls "Clause"]
def fa3 : List He.Fa := [.noat "Clause" "step", .noat "Clause" "rest", .noat "Clause" "word", .noat "Clause" "side", .noat "Clause" "far", .noat "Clause" "goal", .free "int", .free "bool"]
def fa4 : List He.Fa := [.glo "is_integer", .free "len", .str "DIGITS" "0123456789", .glo "digit_of", .int "MOST_CLASSES" 3, .glo "is_between", .free "str", .str "LETTERS" "abcdefghijklmnopqrstuvwxyz"]
def fa5 : List He.Fa := [.free "all", .glo "class_of", .glo "is_name", .mkr "Clause", .glo "Clause", .glo "read_call", .int "MOST_FAR" 4, .str "GAP" "; "]
def fa6 : List He.Fa := [.glo "read_clause", .int "MOST_CLAUSES" 3, .free "any", .free "enumerate", .glo "meet", .glo "read_clauses", .int "MOST_LAST" 4, .free "tuple"]
def fa7 : List He.Fa := [.glo "read_goal", .int "MOST_BASE" 4, .int "MOST_ROUNDS" 5, .int "MOST_PLANS" 4, .glo "is_plan", .glo "read_round", .free "super", .glo "first_invalid"]
def fa8 : List He.Fa := [.noat "Book" "parsed", .mkr "Book", .glo "Book", .glo "_law_caught", .free "divmod", .glo "_law_draw", .glo "_law_pick", .glo "_law_fits"]
def fa9 : List He.Fa := [.free "range", .free "abs", .free "min", .free "max", .glo "_law_cell", .glo "_law_purse", .glo "_law_right", .glo "law"]
def fa : List He.Fa := fa0 ++ (fa1 ++ (fa2 ++ (fa3 ++ (fa4 ++ (fa5 ++ (fa6 ++ (fa7 ++ (fa8 ++ (fa9)))))))))
def fn0 : List He.DefD := [d__law_error, d__law_caught, d_meet, d_Clause_D_initD_, d_is_integer, d_is_between, d_digit_of, d_class_of]
def fn1 : List He.DefD := [d_is_name, d_read_call, d_read_clause, d_read_clauses, d_read_round, d_read_goal, d_is_plan, d_first_invalid]
def fn2 : List He.DefD := [d_Book_D_initD_, d__law_fits, d__law_draw, d__law_pick, d__law_right, d__law_purse, d__law_cell, d_law]
def fn : List He.DefD := fn0 ++ (fn1 ++ (fn2))
def pr0 : List PrD := [p_Book_plans]
def pr : List PrD := pr0
def xf : List (PySem.W.Frag → Bool) := [xtB exT exFs exBs]
def xi : List XiD := [xi_InvalidPlans]
def tb : List Str := ["_law_fits"]
def tl : Tl := ⟨fa, fn, pr, cs, xf, xi, tb, (PySem.Challenge.pw_joinrounds_k04_clauses_by_digits.main.file : Str)⟩
theorem bt_isinstance : bootBuiltins ("isinstance" : Str) = some (.builtin "isinstance") := by decide +kernel
theorem bt_ValueError : bootBuiltins ("ValueError" : Str) = some (.type "ValueError") := by decide +kernel
theorem bt_LookupError : bootBuiltins ("LookupError" : Str) = some (.type "LookupError") := by decide +kernel
theorem bt_ArithmeticError : bootBuiltins ("ArithmeticError" : Str) = some (.type "ArithmeticError") := by decide +kernel
theorem bt_repr : bootBuiltins ("repr" : Str) = some (.builtin "repr") := by decide +kernel
theorem bt_int : bootBuiltins ("int" : Str) = some (.type "int") := by decide +kernel
theorem bt_bool : bootBuiltins ("bool" : Str) = some (.type "bool") := by decide +kernel
theorem bt_len : bootBuiltins ("len" : Str) = some (.builtin "len") := by decide +kernel
theorem bt_str : bootBuiltins ("str" : Str) = some (.type "str") := by decide +kernel
theorem bt_all : bootBuiltins ("all" : Str) = some (.builtin "all") := by decide +kernel
theorem bt_any : bootBuiltins ("any" : Str) = some (.builtin "any") := by decide +kernel
theorem bt_tuple : bootBuiltins ("tuple" : Str) = some (.type "tuple") := by decide +kernel
theorem bt_divmod : bootBuiltins ("divmod" : Str) = some (.builtin "divmod") := by decide +kernel
theorem bt_abs : bootBuiltins ("abs" : Str) = some (.builtin "abs") := by decide +kernel
theorem bt_min : bootBuiltins ("min" : Str) = some (.builtin "min") := by decide +kernel
theorem bt_max : bootBuiltins ("max" : Str) = some (.builtin "max") := by decide +kernel
theorem tbm (i : Nat) {x : Str} (h : tl.tb[i]? = some x := by rfl) : x ∈ tl.tb := List.mem_of_getElem? h
theorem ini_InvalidPlans : ∃ ar p0 p1 p2 p3 p4 q0 q1 q2 q3, Ini1 xi_InvalidPlans ar p0 p1 p2 p3 p4 q0 q1 q2 q3 := ⟨_, _, _, _, _, _, _, _, _, _, ⟨rfl, rfl, rfl, rfl, rfl, rfl, rfl, by decide +kernel, rfl, rfl, by decide +kernel, by decide +kernel, by decide +kernel, fun _ _ _ _ => rfl, fun _ _ _ _ => rfl, fun _ _ _ _ => ⟨_, rfl⟩, fun _ _ _ _ _ _ _ _ _ _ _ => .of_eq rfl⟩⟩
theorem mx_InvalidPlans {b : Base} (T : Tx tl b) : MkX1 b "InvalidPlans" "index" := by
  obtain ⟨_, _, _, _, _, _, _, _, _, _, I⟩ := ini_InvalidPlans
  exact mkX1_of T (T.xi 0 (d := xi_InvalidPlans)) base_V (T.free 62) I
theorem sc__law_error : FnScope N__law_error P__law_error (defScope s__law_error) := ⟨rfl, rfl, rfl, by decide +kernel, rfl, by decide +kernel, by decide +kernel⟩
theorem k__law_error {b : Base} (T : Tx tl b) : ∃ fd, FunD b.K "_law_error" "_law_error" (defArgs s__law_error) (defBody s__law_error) (defScope s__law_error) [] [] (He.ga b.K "_law_error") fd ∧ Binds b.K fd P__law_error [] := by
  obtain ⟨fd, F⟩ := T.s.c.def_ 0 (d := d__law_error) rfl
  exact ⟨fd, F, F.bindsN fun _ _ _ _ _ _ us hl => match us, hl with | [_], _ => rfl⟩
set_option maxHeartbeats 4000000 in
theorem e__law_error {b : Base} (T : Tx tl b) (k : Hx) (ob : Obj) : DSs (b.hotAt N__law_error (defScope s__law_error) 0 k ob) (wOf fun _ _ _ => False) (defBody s__law_error) (B__law_error k) := by
  have sc := sc__law_error
  exact (dss_cons (ds_asg [1] (de_lst (da_cons (de_callB (b_isiX (xtB_ok (T.x 0)) rfl) (T.free 1) bt_isinstance (da_cons (de_var 0) (da_cons (de_glo (T.glo 0)) da_nil))) (da_cons (de_callB (b_isiX (xtB_ok (T.x 0)) rfl) (T.free 1) bt_isinstance (da_cons (de_var 0) (da_cons (de_glo (T.glo 2)) da_nil))) (da_cons (de_callB (b_isiX (xtB_ok (T.x 0)) rfl) (T.free 1) bt_isinstance (da_cons (de_var 0) (da_cons (de_glo (T.glo 3)) da_nil))) da_nil)))) (dg_name 1 sc.nd))
  (dss_cons (ds_asg [1] (de_op op_addD (de_var 1) (de_lst (da_cons (de_callB (b_isiX (xtB_ok (T.x 0)) rfl) (T.free 1) bt_isinstance (da_cons (de_var 0) (da_cons (de_glo (T.glo 4)) da_nil))) (da_cons (de_callB (b_isiX (xtB_ok (T.x 0)) rfl) (T.free 1) bt_isinstance (da_cons (de_var 0) (da_cons (de_glo (T.glo 5)) da_nil))) (da_cons (de_callB (b_isiX (xtB_ok (T.x 0)) rfl) (T.free 1) bt_isinstance (da_cons (de_var 0) (da_cons (de_glo (T.glo 6)) da_nil))) da_nil))))) (dg_name 1 sc.nd))
  (dss_cons (ds_asg [1] (de_op op_addD (de_var 1) (de_lst (da_cons (de_callB (b_isiX (xtB_ok (T.x 0)) rfl) (T.free 1) bt_isinstance (da_cons (de_var 0) (da_cons (de_glo (T.glo 7)) da_nil))) (da_cons (de_callB (b_isiX (xtB_ok (T.x 0)) rfl) (T.free 1) bt_isinstance (da_cons (de_var 0) (da_cons (de_glo (T.glo 8)) da_nil))) (da_cons (de_callB (b_isiX (xtB_ok (T.x 0)) rfl) (T.free 1) bt_isinstance (da_cons (de_var 0) (da_cons (de_glo (T.glo 9)) da_nil))) da_nil))))) (dg_name 1 sc.nd))
  (dss_cons (ds_asg [1] (de_op op_addD (de_var 1) (de_lst (da_cons (de_callB (b_isiX (xtB_ok (T.x 0)) rfl) (T.free 1) bt_isinstance (da_cons (de_var 0) (da_cons (de_glo (T.glo 10)) da_nil))) (da_cons (de_callB (b_isiX (xtB_ok (T.x 0)) rfl) (T.free 1) bt_isinstance (da_cons (de_var 0) (da_cons (de_glo (T.glo 11)) da_nil))) (da_cons (de_callB (b_isiX (xtB_ok (T.x 0)) rfl) (T.free 1) bt_isinstance (da_cons (de_var 0) (da_cons (de_glo (T.glo 12)) da_nil))) da_nil))))) (dg_name 1 sc.nd))
  (dss_cons (ds_asg [2] (de_lst (da_cons (de_callB (b_isiX (xtB_ok (T.x 0)) rfl) (T.free 1) bt_isinstance (da_cons (de_var 0) (da_cons (de_glo (T.glo 13)) da_nil))) (da_cons (de_callB (b_isiX (xtB_ok (T.x 0)) rfl) (T.free 1) bt_isinstance (da_cons (de_var 0) (da_cons (de_glo (T.glo 14)) da_nil))) (da_cons (de_callB (b_isiX (xtB_ok (T.x 0)) rfl) (T.free 1) bt_isinstance (da_cons (de_var 0) (da_cons (de_glo (T.glo 15)) da_nil))) da_nil)))) (dg_name 2 sc.nd))
  (dss_cons (ds_asg [3] (de_lst (da_cons (de_callB (b_isiX (xtB_ok (T.x 0)) rfl) (T.free 1) bt_isinstance (da_cons (de_var 0) (da_cons (de_ty (T.free 16) bt_ValueError) da_nil))) (da_cons (de_callB (b_isiX (xtB_ok (T.x 0)) rfl) (T.free 1) bt_isinstance (da_cons (de_var 0) (da_cons (de_ty (T.free 17) bt_LookupError) da_nil))) (da_cons (de_callB (b_isiX (xtB_ok (T.x 0)) rfl) (T.free 1) bt_isinstance (da_cons (de_var 0) (da_cons (de_ty (T.free 18) bt_ArithmeticError) da_nil))) da_nil)))) (dg_name 3 sc.nd))
  (dss_cons (ds_if (dt_w (dw_or (dt_cmp op_neD' (de_bm PySem.F.plainAttrs_list PySem.F.slot_list_count PySem.F.type_list_count m_lcnt (de_var 1) (da_cons de_bl da_nil)) de_int) (dw_or1 (dt_cmp op_neD' (de_var 3) (de_var 2))))) (dss_one (ds_ret (de_lst (da_cons de_str (da_cons de_str da_nil))))) dss_nil)
  (dss_cons (ds_asg [4] (de_bm PySem.F.plainAttrs_list PySem.F.slot_list_index PySem.F.type_list_index m_lix (de_var 1) (da_cons de_bl da_nil)) (dg_name 4 sc.nd))
  (dss_cons (ds_if (dt_cmp op_neD' (de_var 2) (de_lst (da_cons (de_cmp op_ltD (de_var 4) de_int) (da_cons (de_cmp op_eqD' (de_var 4) de_int) (da_cons (de_cmp op_gtD (de_var 4) de_int) da_nil))))) (dss_one (ds_ret (de_lst (da_cons de_str (da_cons de_str da_nil))))) dss_nil)
  (dss_cons (ds_asg [5] (de_lst (da_cons de_str (da_cons de_str (da_cons de_str (da_cons de_str (da_cons de_str (da_cons de_str da_nil))))))) (dg_name 5 sc.nd))
  (dss_cons (ds_asg [5] (de_op op_addD (de_var 5) (de_lst (da_cons de_str (da_cons de_str (da_cons de_str (da_cons de_str (da_cons de_str (da_cons de_str da_nil)))))))) (dg_name 5 sc.nd))
  (dss_cons (ds_if (dt_w (dw_or (dt_cmp op_ltD (de_var 4) de_int) (dw_or1 (dt_cmp op_eqD' (de_var 4) de_int)))) (dss_one (ds_ret (de_lst (da_cons (de_ix (de_var 5) (de_var 4)) (da_cons (de_callB (b_repr rfl) (T.free 19) bt_repr (da_cons (de_xf (xtB_ok (T.x 0)) rfl (de_var 0)) da_nil)) da_nil))))) dss_nil)
  (dss_cons (ds_if (dt_cmp op_ltD (de_var 4) de_int) (dss_one (ds_ret (de_lst (da_cons (de_ix (de_var 5) (de_var 4)) (da_cons (de_callB (b_repr rfl) (T.free 19) bt_repr (da_cons (de_xf (xtB_ok (T.x 0)) rfl (de_var 0)) da_nil)) da_nil))))) dss_nil)
  (dss_cons (ds_if (dt_cmp op_eqD' (de_var 4) de_int) (dss_one (ds_ret (de_lst (da_cons (de_ix (de_var 5) (de_var 4)) (da_cons (de_callB (b_repr rfl) (T.free 19) bt_repr (da_cons (de_xf (xtB_ok (T.x 0)) rfl (de_var 0)) da_nil)) da_nil))))) dss_nil)
  (dss_one (ds_ret (de_lst (da_cons (de_ix (de_var 5) (de_var 4)) (da_cons (de_if (dt_cmp op_eqD' (de_var 4) de_int) (de_callB (b_repr rfl) (T.free 19) bt_repr (da_cons (de_lst (da_cons (de_xf (xtB_ok (T.x 0)) rfl (de_var 0)) (da_cons (de_xf (xtB_ok (T.x 0)) rfl (de_var 0)) da_nil))) da_nil)) de_str) da_nil)))))))))))))))))))
theorem ok__law_error {b : Base} (T : Tx tl b) : ∃ fd, FnX b 1 (He.ga b.K "_law_error") fd P__law_error F__law_error ∧ PySem.W.keepIn b.K (.ref (He.ga b.K "_law_error")) = true ∧ Binds b.K fd P__law_error [] ∧ True := by
  obtain ⟨fd, F, B⟩ := k__law_error T
  exact ⟨fd, fnX_ok false F sc__law_error (fun k ob => e__law_error T k ob), F.kp, B, trivial⟩
theorem sc__law_caught : FnScope N__law_caught P__law_caught (defScope s__law_caught) := ⟨rfl, rfl, rfl, by decide +kernel, rfl, by decide +kernel, by decide +kernel⟩
theorem k__law_caught {b : Base} (T : Tx tl b) : ∃ fd, FunD b.K "_law_caught" "_law_caught" (defArgs s__law_caught) (defBody s__law_caught) (defScope s__law_caught) [] [] (He.ga b.K "_law_caught") fd ∧ Binds b.K fd P__law_caught [] := by
  obtain ⟨fd, F⟩ := T.s.c.def_ 1 (d := d__law_caught) rfl
  exact ⟨fd, F, F.bindsN fun _ _ _ _ _ _ us hl => match us, hl with | [_], _ => rfl⟩
set_option maxHeartbeats 4000000 in
theorem ok__law_caught {b : Base} (T : Tx tl b) : Catch b "_law_caught" "_law_act" (He.ga b.K "_law_caught") N__law_caught 1 exT (some 1) L__law_caught R__law_caught := by
  obtain ⟨fdh0, h0⟩ := ok__law_error T
  have sc := sc__law_caught
  obtain ⟨fd, F, B⟩ := k__law_caught T
  exact ⟨fd, _, _, _, _, _, _, _, _, _, F, B, sc, (cal_asg sc.nd), (.named (ct_tup3 (xtB_ok (T.x 0)) (T.glo 13) (T.glo 14) (T.glo 15)) sc.nd rfl rfl (fun k ob => (dss_one (ds_ret (de_callX h0.1 (T.glo 20) h0.2.1 h0.2.2.1 rfl (da_cons (de_var 2) da_nil))))) iv__law_caught .nil), (dss_one (ds_ret (de_lst (da_cons de_str (da_cons (de_callB (b_repr rfl) (T.free 19) bt_repr (da_cons (de_var 1) da_nil)) da_nil))))), by first | exact .inl rfl | exact .inr (.inl rfl), rfl⟩
theorem sc_Book_plans : FnScope N_Book_plans P_Book_plans (defScope s_Book_plans) := ⟨rfl, rfl, rfl, by decide +kernel, rfl, by decide +kernel, by decide +kernel⟩
theorem k_Book_plans {b : Base} (T : Tx tl b) : ∃ fd, FunD b.K "plans" "Book.plans" (defArgs s_Book_plans) (defBody s_Book_plans) (defScope s_Book_plans) [] [] (gtA b.K "Book" "plans") fd ∧ Binds b.K fd P_Book_plans [] ∧ PropOf b.K (He.ga b.K "Book") "plans" (prA b.K "Book" "plans") (gtA b.K "Book" "plans") := by
  obtain ⟨p, fd, F⟩ := T.prp 0 (d := p_Book_plans)
  exact ⟨fd, F, F.bindsN fun _ _ _ _ _ _ us hl => match us, hl with | [_], _ => rfl, p⟩
set_option maxHeartbeats 4000000 in
theorem e_Book_plans {b : Base} (T : Tx tl b) (E : XK) : DSs (b.at N_Book_plans (defScope s_Book_plans) 0 false) (wOf E) (defBody s_Book_plans) B_Book_plans := by
  have sc := sc_Book_plans
  exact (dss_one (ds_ret (de_fld (T.cls 21) (T.noat 22) (de_var 0))))
theorem ok_Book_plans {b : Base} (T : Tx tl b) : ∃ fd, b.Ok 1 (gtA b.K "Book" "plans") fd P_Book_plans F_Book_plans ∧ PySem.W.keepIn b.K (.ref (gtA b.K "Book" "plans")) = true ∧ Binds b.K fd P_Book_plans [] ∧ PropOf b.K (He.ga b.K "Book") "plans" (prA b.K "Book" "plans") (gtA b.K "Book" "plans") := by
  obtain ⟨fd, F, B, p⟩ := k_Book_plans T
  exact ⟨fd, fn_ok false F sc_Book_plans (fun E => e_Book_plans T E), F.kp, B, p⟩
theorem sc_meet : FnScope N_meet P_meet (defScope s_meet) := ⟨rfl, rfl, rfl, by decide +kernel, rfl, by decide +kernel, by decide +kernel⟩
theorem k_meet {b : Base} (T : Tx tl b) : ∃ fd, FunD b.K "meet" "meet" (defArgs s_meet) (defBody s_meet) (defScope s_meet) [] [] (He.ga b.K "meet") fd ∧ Binds b.K fd P_meet [] := by
  obtain ⟨fd, F⟩ := T.s.c.def_ 2 (d := d_meet) rfl
  exact ⟨fd, F, F.bindsN fun _ _ _ _ _ _ us hl => match us, hl with | [_, _], _ => rfl⟩
set_option maxHeartbeats 4000000 in
theorem e_meet {b : Base} (T : Tx tl b) (E : XK) : DSs (b.at N_meet (defScope s_meet) 0 false) (wOf E) (defBody s_meet) B_meet := by
  have sc := sc_meet
  exact (dss_one (ds_ret (de_or (de_cmp op_neD' (de_fld (T.cls 23) (T.noat 24) (de_var 0)) (de_fld (T.cls 23) (T.noat 24) (de_var 1))) (de_one (de_cmp op_eqD' (de_fld (T.cls 23) (T.noat 25) (de_var 0)) (de_fld (T.cls 23) (T.noat 25) (de_var 1)))))))
theorem ok_meet {b : Base} (T : Tx tl b) : ∃ fd, b.Ok 1 (He.ga b.K "meet") fd P_meet F_meet ∧ PySem.W.keepIn b.K (.ref (He.ga b.K "meet")) = true ∧ Binds b.K fd P_meet [] ∧ FunD b.K "meet" "meet" (defArgs s_meet) (defBody s_meet) (defScope s_meet) [] [] (He.ga b.K "meet") fd := by
  obtain ⟨fd, F, B⟩ := k_meet T
  exact ⟨fd, fn_ok false F sc_meet (fun E => e_meet T E), F.kp, B, F⟩
theorem sc_Clause_D_initD_ : FnScope N_Clause_D_initD_ P_Clause_D_initD_ (defScope s_Clause_D_initD_) := ⟨rfl, rfl, rfl, by decide +kernel, rfl, by decide +kernel, by decide +kernel⟩
theorem k_Clause_D_initD_ {b : Base} (T : Tx tl b) : ∃ fd, FunD b.K "__init__" "Clause.__init__" (defArgs s_Clause_D_initD_) (defBody s_Clause_D_initD_) (defScope s_Clause_D_initD_) [.non, .non, .non] [] (He.ma b.K (He.ga b.K "Clause") "__init__") fd := by
  obtain ⟨fd, F⟩ := T.s.c.def_ 3 (d := d_Clause_D_initD_) rfl
  exact ⟨fd, F⟩
set_option maxHeartbeats 4000000 in
theorem e_Clause_D_initD_ {b : Base} (T : Tx tl b) (E : XK) : DSs (b.at N_Clause_D_initD_ (defScope s_Clause_D_initD_) 0 false) (wOf E) (defBody s_Clause_D_initD_) B_Clause_D_initD_ := by
  have sc := sc_Clause_D_initD_
  exact (dss_cons (ds_fld (T.cls 23) (T.noat 26) (de_var 0) (de_var 1))
  (dss_cons (ds_fld (T.cls 23) (T.noat 25) (de_var 0) (de_var 2))
  (dss_cons (ds_fld (T.cls 23) (T.noat 24) (de_var 0) (de_var 3))
  (dss_cons (ds_fld (T.cls 23) (T.noat 27) (de_var 0) (de_var 4))
  (dss_cons (ds_fld (T.cls 23) (T.noat 28) (de_var 0) (de_var 5))
  (dss_one (ds_fld (T.cls 23) (T.noat 29) (de_var 0) (de_var 6))))))))
theorem ok_Clause_D_initD_ {b : Base} (T : Tx tl b) : ∃ fd, b.Ok 1 (He.ma b.K (He.ga b.K "Clause") "__init__") fd P_Clause_D_initD_ F_Clause_D_initD_ ∧ PySem.W.keepIn b.K (.ref (He.ma b.K (He.ga b.K "Clause") "__init__")) = true ∧ True ∧ FunD b.K "__init__" "Clause.__init__" (defArgs s_Clause_D_initD_) (defBody s_Clause_D_initD_) (defScope s_Clause_D_initD_) [.non, .non, .non] [] (He.ma b.K (He.ga b.K "Clause") "__init__") fd := by
  obtain ⟨fd, F⟩ := k_Clause_D_initD_ T
  exact ⟨fd, fn_ok false F sc_Clause_D_initD_ (fun E => e_Clause_D_initD_ T E), F.kp, trivial, F⟩
theorem kbn_Clause_D_initD__3 {b : Base} (T : Tx tl b) (fd : FuncData) (F : FunD b.K "__init__" "Clause.__init__" (defArgs s_Clause_D_initD_) (defBody s_Clause_D_initD_) (defScope s_Clause_D_initD_) [.non, .non, .non] [] (He.ma b.K (He.ga b.K "Clause") "__init__") fd) : ∃ its : List Value, KBn b.K fd P_Clause_D_initD_ 4 ["goal"] (fun us ws => us ++ (its.take 2 ++ ws)) (fun vs zs => vs ++ (([.non, .non, .non] : List V).take 2 ++ zs)) := F.kbindsD 4 ["goal"] (fun us its ws => us ++ (its.take 2 ++ ws)) (by simp) (fun r1 r2 r3 => r1.append ((r2.take 2).append r3)) (fun T kV doc pm an cdv ct us its ws h1 h2 h3 => by
    match us, its, ws, h1, h2, h3 with
    | [_, _, _, _], [_, _, _], [_], _, _, _ => exact ⟨_, rfl, rfl⟩)
theorem bd_Clause_D_initD__3 {b : Base} (T : Tx tl b) (fd : FuncData) (F : FunD b.K "__init__" "Clause.__init__" (defArgs s_Clause_D_initD_) (defBody s_Clause_D_initD_) (defScope s_Clause_D_initD_) [.non, .non, .non] [] (He.ma b.K (He.ga b.K "Clause") "__init__") fd) : ∃ ds, Vals (([.non, .non, .non] : List V).drop 0) ds ∧ Binds b.K fd P_Clause_D_initD_ ds := F.binds1 4 0 (by simp) rfl (fun T kV doc pm an cdv ct us its h1 h2 => by
    match us, its, h1, h2 with
    | [_, _, _, _], [_, _, _], _, _ => exact ⟨_, rfl, rfl⟩)
theorem bd_Clause_D_initD__4 {b : Base} (T : Tx tl b) (fd : FuncData) (F : FunD b.K "__init__" "Clause.__init__" (defArgs s_Clause_D_initD_) (defBody s_Clause_D_initD_) (defScope s_Clause_D_initD_) [.non, .non, .non] [] (He.ma b.K (He.ga b.K "Clause") "__init__") fd) : ∃ ds, Vals (([.non, .non, .non] : List V).drop 1) ds ∧ Binds b.K fd P_Clause_D_initD_ ds := F.binds1 5 1 (by simp) rfl (fun T kV doc pm an cdv ct us its h1 h2 => by
    match us, its, h1, h2 with
    | [_, _, _, _, _], [_, _, _], _, _ => exact ⟨_, rfl, rfl⟩)
theorem bd_Clause_D_initD__5 {b : Base} (T : Tx tl b) (fd : FuncData) (F : FunD b.K "__init__" "Clause.__init__" (defArgs s_Clause_D_initD_) (defBody s_Clause_D_initD_) (defScope s_Clause_D_initD_) [.non, .non, .non] [] (He.ma b.K (He.ga b.K "Clause") "__init__") fd) : ∃ ds, Vals (([.non, .non, .non] : List V).drop 2) ds ∧ Binds b.K fd P_Clause_D_initD_ ds := F.binds1 6 2 (by simp) rfl (fun T kV doc pm an cdv ct us its h1 h2 => by
    match us, its, h1, h2 with
    | [_, _, _, _, _, _], [_, _, _], _, _ => exact ⟨_, rfl, rfl⟩)
theorem bd_Clause_D_initD__6 {b : Base} (T : Tx tl b) (fd : FuncData) (F : FunD b.K "__init__" "Clause.__init__" (defArgs s_Clause_D_initD_) (defBody s_Clause_D_initD_) (defScope s_Clause_D_initD_) [.non, .non, .non] [] (He.ma b.K (He.ga b.K "Clause") "__init__") fd) : ∃ ds, Vals (([.non, .non, .non] : List V).drop 3) ds ∧ Binds b.K fd P_Clause_D_initD_ ds := F.binds1 7 3 (by simp) rfl (fun T kV doc pm an cdv ct us its h1 h2 => by
    match us, its, h1, h2 with
    | [_, _, _, _, _, _, _], [_, _, _], _, _ => exact ⟨_, rfl, rfl⟩)
theorem sc_is_integer : FnScope N_is_integer P_is_integer (defScope s_is_integer) := ⟨rfl, rfl, rfl, by decide +kernel, rfl, by decide +kernel, by decide +kernel⟩
theorem k_is_integer {b : Base} (T : Tx tl b) : ∃ fd, FunD b.K "is_integer" "is_integer" (defArgs s_is_integer) (defBody s_is_integer) (defScope s_is_integer) [] [] (He.ga b.K "is_integer") fd ∧ Binds b.K fd P_is_integer [] := by
  obtain ⟨fd, F⟩ := T.s.c.def_ 4 (d := d_is_integer) rfl
  exact ⟨fd, F, F.bindsN fun _ _ _ _ _ _ us hl => match us, hl with | [_], _ => rfl⟩
set_option maxHeartbeats 4000000 in
theorem e_is_integer {b : Base} (T : Tx tl b) (E : XK) : DSs (b.at N_is_integer (defScope s_is_integer) 0 false) (wOf E) (defBody s_is_integer) B_is_integer := by
  have sc := sc_is_integer
  exact (dss_one (ds_ret (de_and (de_callB (b_isi T.s.isi) (T.free 1) bt_isinstance (da_cons (de_var 0) (da_cons (de_ty (T.free 30) bt_int) da_nil))) (de_one (de_not (de_callB (b_isi T.s.isi) (T.free 1) bt_isinstance (da_cons (de_var 0) (da_cons (de_ty (T.free 31) bt_bool) da_nil))))))))
theorem ok_is_integer {b : Base} (T : Tx tl b) : ∃ fd, b.Ok 1 (He.ga b.K "is_integer") fd P_is_integer F_is_integer ∧ PySem.W.keepIn b.K (.ref (He.ga b.K "is_integer")) = true ∧ Binds b.K fd P_is_integer [] ∧ FunD b.K "is_integer" "is_integer" (defArgs s_is_integer) (defBody s_is_integer) (defScope s_is_integer) [] [] (He.ga b.K "is_integer") fd := by
  obtain ⟨fd, F, B⟩ := k_is_integer T
  exact ⟨fd, fn_ok false F sc_is_integer (fun E => e_is_integer T E), F.kp, B, F⟩
theorem sc_is_between : FnScope N_is_between P_is_between (defScope s_is_between) := ⟨rfl, rfl, rfl, by decide +kernel, rfl, by decide +kernel, by decide +kernel⟩
theorem k_is_between {b : Base} (T : Tx tl b) : ∃ fd, FunD b.K "is_between" "is_between" (defArgs s_is_between) (defBody s_is_between) (defScope s_is_between) [] [] (He.ga b.K "is_between") fd ∧ Binds b.K fd P_is_between [] := by
  obtain ⟨fd, F⟩ := T.s.c.def_ 5 (d := d_is_between) rfl
  exact ⟨fd, F, F.bindsN fun _ _ _ _ _ _ us hl => match us, hl with | [_, _, _], _ => rfl⟩
set_option maxHeartbeats 4000000 in
theorem e_is_between {b : Base} (T : Tx tl b) (E : XK) : DSs (b.at N_is_between (defScope s_is_between) 1 false) (wOf E) (defBody s_is_between) B_is_between := by
  obtain ⟨fdh0, h0⟩ := ok_is_integer T
  have sc := sc_is_between
  exact (dss_one (ds_ret (de_and (de_call h0.1 (T.glo 32) h0.2.1 h0.2.2.1 (da_cons (de_var 0) da_nil)) (de_one (de_chain op_leD op_leD (de_var 1) (de_var 0) (de_var 2))))))
theorem ok_is_between {b : Base} (T : Tx tl b) : ∃ fd, b.Ok 2 (He.ga b.K "is_between") fd P_is_between F_is_between ∧ PySem.W.keepIn b.K (.ref (He.ga b.K "is_between")) = true ∧ Binds b.K fd P_is_between [] ∧ FunD b.K "is_between" "is_between" (defArgs s_is_between) (defBody s_is_between) (defScope s_is_between) [] [] (He.ga b.K "is_between") fd := by
  obtain ⟨fd, F, B⟩ := k_is_between T
  exact ⟨fd, fn_ok false F sc_is_between (fun E => e_is_between T E), F.kp, B, F⟩
theorem sc_digit_of : FnScope N_digit_of P_digit_of (defScope s_digit_of) := ⟨rfl, rfl, rfl, by decide +kernel, rfl, by decide +kernel, by decide +kernel⟩
theorem k_digit_of {b : Base} (T : Tx tl b) : ∃ fd, FunD b.K "digit_of" "digit_of" (defArgs s_digit_of) (defBody s_digit_of) (defScope s_digit_of) [] [] (He.ga b.K "digit_of") fd ∧ Binds b.K fd P_digit_of [] := by
  obtain ⟨fd, F⟩ := T.s.c.def_ 6 (d := d_digit_of) rfl
  exact ⟨fd, F, F.bindsN fun _ _ _ _ _ _ us hl => match us, hl with | [_], _ => rfl⟩
set_option maxHeartbeats 4000000 in
theorem e_digit_of {b : Base} (T : Tx tl b) (E : XK) : DSs (b.at N_digit_of (defScope s_digit_of) 0 false) (wOf E) (defBody s_digit_of) B_digit_of := by
  have sc := sc_digit_of
  exact (dss_one (ds_ret (de_if (dt_w (dw_and (dt_cmp op_eqD' (de_callB b_len (T.free 33) bt_len (da_cons (de_var 0) da_nil)) de_int) (dw_and1 (dt_cmp op_inD (de_var 0) (de_gstr (T.str 34)))))) (de_callT b_int (T.free 30) bt_int (da_cons (de_var 0) da_nil)) de_non)))
theorem ok_digit_of {b : Base} (T : Tx tl b) : ∃ fd, b.Ok 1 (He.ga b.K "digit_of") fd P_digit_of F_digit_of ∧ PySem.W.keepIn b.K (.ref (He.ga b.K "digit_of")) = true ∧ Binds b.K fd P_digit_of [] ∧ FunD b.K "digit_of" "digit_of" (defArgs s_digit_of) (defBody s_digit_of) (defScope s_digit_of) [] [] (He.ga b.K "digit_of") fd := by
  obtain ⟨fd, F, B⟩ := k_digit_of T
  exact ⟨fd, fn_ok false F sc_digit_of (fun E => e_digit_of T E), F.kp, B, F⟩
theorem sc_class_of : FnScope N_class_of P_class_of (defScope s_class_of) := ⟨rfl, rfl, rfl, by decide +kernel, rfl, by decide +kernel, by decide +kernel⟩
theorem k_class_of {b : Base} (T : Tx tl b) : ∃ fd, FunD b.K "class_of" "class_of" (defArgs s_class_of) (defBody s_class_of) (defScope s_class_of) [] [] (He.ga b.K "class_of") fd ∧ Binds b.K fd P_class_of [] := by
  obtain ⟨fd, F⟩ := T.s.c.def_ 7 (d := d_class_of) rfl
  exact ⟨fd, F, F.bindsN fun _ _ _ _ _ _ us hl => match us, hl with | [_], _ => rfl⟩
set_option maxHeartbeats 4000000 in
theorem e_class_of {b : Base} (T : Tx tl b) (E : XK) : DSs (b.at N_class_of (defScope s_class_of) 2 false) (wOf E) (defBody s_class_of) B_class_of := by
  obtain ⟨fdh0, h0⟩ := ok_digit_of T
  obtain ⟨fdh1, h1⟩ := ok_is_between T
  have sc := sc_class_of
  exact (dss_cons (ds_if (dt_w (dw_or (dt_cmp op_neD' (de_callB b_len (T.free 33) bt_len (da_cons (de_var 0) da_nil)) de_int) (dw_or1 (dt_cmp op_neD' (de_ix (de_var 0) de_int) de_str)))) (dss_one (ds_ret de_non)) dss_nil)
  (dss_cons (ds_par 1 2 sc.nd (da_cons (de_call h0.1 (T.glo 35) h0.2.1 h0.2.2.1 (da_cons (de_ix (de_var 0) de_int) da_nil)) (da_cons (de_call h0.1 (T.glo 35) h0.2.1 h0.2.2.1 (da_cons (de_ix (de_var 0) de_int) da_nil)) da_nil)))
  (dss_cons (ds_if (dt_w (dw_or (dt_not (dt_val (de_call h1.1 (T.glo 37) h1.2.1 h1.2.2.1 (da_cons (de_var 2) (da_cons de_int (da_cons (de_gint (T.int 36)) da_nil)))))) (dw_or1 (dt_not (dt_val (de_call h1.1 (T.glo 37) h1.2.1 h1.2.2.1 (da_cons (de_var 1) (da_cons de_int (da_cons (de_op op_subD (de_var 2) de_int) da_nil))))))))) (dss_one (ds_ret de_non)) dss_nil)
  (dss_one (ds_ret (de_tup (da_cons (de_var 1) (da_cons (de_var 2) da_nil))))))))
theorem ok_class_of {b : Base} (T : Tx tl b) : ∃ fd, b.Ok 3 (He.ga b.K "class_of") fd P_class_of F_class_of ∧ PySem.W.keepIn b.K (.ref (He.ga b.K "class_of")) = true ∧ Binds b.K fd P_class_of [] ∧ FunD b.K "class_of" "class_of" (defArgs s_class_of) (defBody s_class_of) (defScope s_class_of) [] [] (He.ga b.K "class_of") fd := by
  obtain ⟨fd, F, B⟩ := k_class_of T
  exact ⟨fd, fn_ok false F sc_class_of (fun E => e_class_of T E), F.kp, B, F⟩
theorem sc_is_name : FnScope N_is_name P_is_name (defScope s_is_name) := ⟨rfl, rfl, rfl, by decide +kernel, rfl, by decide +kernel, by decide +kernel⟩
theorem k_is_name {b : Base} (T : Tx tl b) : ∃ fd, FunD b.K "is_name" "is_name" (defArgs s_is_name) (defBody s_is_name) (defScope s_is_name) [] [] (He.ga b.K "is_name") fd ∧ Binds b.K fd P_is_name [] := by
  obtain ⟨fd, F⟩ := T.s.c.def_ 8 (d := d_is_name) rfl
  exact ⟨fd, F, F.bindsN fun _ _ _ _ _ _ us hl => match us, hl with | [_], _ => rfl⟩
set_option maxHeartbeats 4000000 in
theorem e_is_name {b : Base} (T : Tx tl b) (E : XK) : DSs (b.at N_is_name (defScope s_is_name) 0 false) (wOf E) (defBody s_is_name) B_is_name := by
  have sc := sc_is_name
  exact (dss_cons (ds_if (dt_w (dw_or (dt_not (dt_val (de_callB (b_isi T.s.isi) (T.free 1) bt_isinstance (da_cons (de_var 0) (da_cons (de_ty (T.free 38) bt_str) da_nil))))) (dw_or (dt_not (dt_chain op_ltD op_ltD de_int (de_callB b_len (T.free 33) bt_len (da_cons (de_var 0) da_nil)) de_int)) (dw_or1 (dt_cmp op_ninD (de_ix (de_var 0) de_int) (de_gstr (T.str 39))))))) (dss_one (ds_ret de_bl)) dss_nil)
  (dss_one (ds_ret (de_callB b_all (T.free 40) bt_all (da_cons (de_lc [("sign", 1)] sc.nd (show blkC N_is_name (defScope s_is_name) _ _ = true by decide +kernel) (di_seq (de_var 0)) (dg_name 1 sc.nd) dts_nil (de_or (de_cmp op_inD (de_var 1) (de_gstr (T.str 39))) (de_one (de_cmp op_inD (de_var 1) (de_gstr (T.str 34)))))) da_nil)))))
theorem ok_is_name {b : Base} (T : Tx tl b) : ∃ fd, b.Ok 1 (He.ga b.K "is_name") fd P_is_name F_is_name ∧ PySem.W.keepIn b.K (.ref (He.ga b.K "is_name")) = true ∧ Binds b.K fd P_is_name [] ∧ FunD b.K "is_name" "is_name" (defArgs s_is_name) (defBody s_is_name) (defScope s_is_name) [] [] (He.ga b.K "is_name") fd := by
  obtain ⟨fd, F, B⟩ := k_is_name T
  exact ⟨fd, fn_ok false F sc_is_name (fun E => e_is_name T E), F.kp, B, F⟩
theorem sc_read_call : FnScope N_read_call P_read_call (defScope s_read_call) := ⟨rfl, rfl, rfl, by decide +kernel, rfl, by decide +kernel, by decide +kernel⟩
theorem k_read_call {b : Base} (T : Tx tl b) : ∃ fd, FunD b.K "read_call" "read_call" (defArgs s_read_call) (defBody s_read_call) (defScope s_read_call) [] [] (He.ga b.K "read_call") fd ∧ Binds b.K fd P_read_call [] := by
  obtain ⟨fd, F⟩ := T.s.c.def_ 9 (d := d_read_call) rfl
  exact ⟨fd, F, F.bindsN fun _ _ _ _ _ _ us hl => match us, hl with | [_], _ => rfl⟩
set_option maxHeartbeats 4000000 in
theorem e_read_call {b : Base} (T : Tx tl b) (E : XK) : DSs (b.at N_read_call (defScope s_read_call) 3 false) (wOf E) (defBody s_read_call) B_read_call := by
  obtain ⟨fdh0, h0⟩ := ok_class_of T
  obtain ⟨fdh1, h1⟩ := ok_is_name T
  obtain ⟨fdh2, h2⟩ := ok_Clause_D_initD_ T
  have sc := sc_read_call
  exact (dss_cons (ds_asg [1] (de_call h0.1 (T.glo 41) h0.2.1 h0.2.2.1 (da_cons (de_sl (de_var 0) (do_some de_int) do_none) da_nil)) (dg_name 1 sc.nd))
  (dss_cons (ds_if (dt_w (dw_or (dt_cmp op_isD (de_var 1) de_non) (dw_or (dt_cmp op_neD' (de_ix (de_var 0) de_int) de_str) (dw_or1 (dt_not (dt_val (de_call h1.1 (T.glo 42) h1.2.1 h1.2.2.1 (da_cons (de_ix (de_var 0) de_int) da_nil)))))))) (dss_one (ds_ret de_non)) dss_nil)
  (dss_cons (ds_asg [2, 3] (de_var 1) (dg_tup 2 (dgs_cons (Plain.of E) (dg_name 2 sc.nd) (dgs_cons (Plain.of E) (dg_name 3 sc.nd) dgs_nil))))
  (dss_one (ds_ret (de_makeK [.non, .non] h2.1 (T.mkr 43) (T.glo 44) (kbn_Clause_D_initD__3 T _ h2.2.2.2).choose_spec (fun _ _ _ => rfl) (fun _ _ => non_rp 2) (da_cons de_str (da_cons (de_var 2) (da_cons (de_var 3) da_nil))) (dk_cons (de_ix (de_var 0) de_int) dk_nil)))))))
theorem ok_read_call {b : Base} (T : Tx tl b) : ∃ fd, b.Ok 4 (He.ga b.K "read_call") fd P_read_call F_read_call ∧ PySem.W.keepIn b.K (.ref (He.ga b.K "read_call")) = true ∧ Binds b.K fd P_read_call [] ∧ FunD b.K "read_call" "read_call" (defArgs s_read_call) (defBody s_read_call) (defScope s_read_call) [] [] (He.ga b.K "read_call") fd := by
  obtain ⟨fd, F, B⟩ := k_read_call T
  exact ⟨fd, fn_ok false F sc_read_call (fun E => e_read_call T E), F.kp, B, F⟩
theorem sc_read_clause : FnScope N_read_clause P_read_clause (defScope s_read_clause) := ⟨rfl, rfl, rfl, by decide +kernel, rfl, by decide +kernel, by decide +kernel⟩
theorem k_read_clause {b : Base} (T : Tx tl b) : ∃ fd, FunD b.K "read_clause" "read_clause" (defArgs s_read_clause) (defBody s_read_clause) (defScope s_read_clause) [] [] (He.ga b.K "read_clause") fd ∧ Binds b.K fd P_read_clause [] := by
  obtain ⟨fd, F⟩ := T.s.c.def_ 10 (d := d_read_clause) rfl
  exact ⟨fd, F, F.bindsN fun _ _ _ _ _ _ us hl => match us, hl with | [_], _ => rfl⟩
set_option maxHeartbeats 4000000 in
theorem e_read_clause {b : Base} (T : Tx tl b) (E : XK) : DSs (b.at N_read_clause (defScope s_read_clause) 4 false) (wOf E) (defBody s_read_clause) B_read_clause := by
  obtain ⟨fdh0, h0⟩ := ok_read_call T
  obtain ⟨fdh1, h1⟩ := ok_class_of T
  obtain ⟨fdh2, h2⟩ := ok_Clause_D_initD_ T
  obtain ⟨fdh3, h3⟩ := ok_digit_of T
  obtain ⟨fdh4, h4⟩ := ok_is_between T
  have sc := sc_read_clause
  exact (dss_cons (ds_asg [1] (de_bm PySem.F.plainAttrs_str PySem.F.slot_str_split PySem.F.type_str_split m_split (de_var 0) (da_cons de_str da_nil)) (dg_name 1 sc.nd))
  (dss_cons (ds_if (dt_cmp op_eqD' (de_ix (de_var 1) de_int) de_str) (dss_one (ds_ret (de_call h0.1 (T.glo 45) h0.2.1 h0.2.2.1 (da_cons (de_var 1) da_nil)))) dss_nil)
  (dss_cons (ds_asg [2] (de_call h1.1 (T.glo 41) h1.2.1 h1.2.2.1 (da_cons (de_sl (de_var 1) (do_some de_int) (do_some de_int)) da_nil)) (dg_name 2 sc.nd))
  (dss_cons (ds_if (dt_cmp op_isD (de_var 2) de_non) (dss_one (ds_ret de_non)) dss_nil)
  (dss_cons (ds_asg [3, 4] (de_var 2) (dg_tup 2 (dgs_cons (Plain.of E) (dg_name 3 sc.nd) (dgs_cons (Plain.of E) (dg_name 4 sc.nd) dgs_nil))))
  (dss_cons (ds_if (dt_cmp op_eqD' (de_ix (de_var 1) de_int) de_str) (dss_one (ds_ret (de_if (dt_cmp op_eqD' (de_callB b_len (T.free 33) bt_len (da_cons (de_var 1) da_nil)) de_int) (de_makeD [.non, .non, .non] h2.1 (T.mkr 43) (T.glo 44) (bd_Clause_D_initD__3 T _ h2.2.2.2) (fun _ _ => non_rp 3) (da_cons de_str (da_cons (de_var 3) (da_cons (de_var 4) da_nil)))) de_non))) dss_nil)
  (dss_cons (ds_if (dt_w (dw_or (dt_cmp op_ninD (de_ix (de_var 1) de_int) (de_tup (da_cons de_str (da_cons de_str da_nil)))) (dw_or (dt_cmp op_neD' (de_callB b_len (T.free 33) bt_len (da_cons (de_var 1) da_nil)) de_int) (dw_or1 (dt_cmp op_ninD (de_ix (de_var 1) de_int) (de_tup (da_cons de_str (da_cons de_str da_nil)))))))) (dss_one (ds_ret de_non)) dss_nil)
  (dss_cons (ds_asg [5] (de_call h3.1 (T.glo 35) h3.2.1 h3.2.2.1 (da_cons (de_ix (de_var 1) de_int) da_nil)) (dg_name 5 sc.nd))
  (dss_one (ds_ret (de_if (dt_val (de_call h4.1 (T.glo 37) h4.2.1 h4.2.2.1 (da_cons (de_var 5) (da_cons de_int (da_cons (de_gint (T.int 46)) da_nil))))) (de_makeD [.non] h2.1 (T.mkr 43) (T.glo 44) (bd_Clause_D_initD__5 T _ h2.2.2.2) (fun _ _ => non_rp 1) (da_cons (de_ix (de_var 1) de_int) (da_cons (de_var 3) (da_cons (de_var 4) (da_cons (de_ix (de_var 1) de_int) (da_cons (de_var 5) da_nil)))))) de_non)))))))))))
theorem ok_read_clause {b : Base} (T : Tx tl b) : ∃ fd, b.Ok 5 (He.ga b.K "read_clause") fd P_read_clause F_read_clause ∧ PySem.W.keepIn b.K (.ref (He.ga b.K "read_clause")) = true ∧ Binds b.K fd P_read_clause [] ∧ FunD b.K "read_clause" "read_clause" (defArgs s_read_clause) (defBody s_read_clause) (defScope s_read_clause) [] [] (He.ga b.K "read_clause") fd := by
  obtain ⟨fd, F, B⟩ := k_read_clause T
  exact ⟨fd, fn_ok false F sc_read_clause (fun E => e_read_clause T E), F.kp, B, F⟩
theorem sc_read_clauses : FnScope N_read_clauses P_read_clauses (defScope s_read_clauses) := ⟨rfl, rfl, rfl, by decide +kernel, rfl, by decide +kernel, by decide +kernel⟩
theorem k_read_clauses {b : Base} (T : Tx tl b) : ∃ fd, FunD b.K "read_clauses" "read_clauses" (defArgs s_read_clauses) (defBody s_read_clauses) (defScope s_read_clauses) [] [] (He.ga b.K "read_clauses") fd ∧ Binds b.K fd P_read_clauses [] := by
  obtain ⟨fd, F⟩ := T.s.c.def_ 11 (d := d_read_clauses) rfl
  exact ⟨fd, F, F.bindsN fun _ _ _ _ _ _ us hl => match us, hl with | [_], _ => rfl⟩
set_option maxHeartbeats 4000000 in
theorem e_read_clauses {b : Base} (T : Tx tl b) (E : XK) : DSs (b.at N_read_clauses (defScope s_read_clauses) 5 false) (wOf E) (defBody s_read_clauses) B_read_clauses := by
  obtain ⟨fdh0, h0⟩ := ok_read_clause T
  obtain ⟨fdh1, h1⟩ := ok_meet T
  have sc := sc_read_clauses
  exact (dss_cons (ds_if (dt_not (dt_val (de_callB (b_isi T.s.isi) (T.free 1) bt_isinstance (da_cons (de_var 0) (da_cons (de_ty (T.free 38) bt_str) da_nil))))) (dss_one (ds_ret de_non)) dss_nil)
  (dss_cons (ds_lc 1 [("part", 5)] sc.nd (show blkC N_read_clauses (defScope s_read_clauses) _ _ = true by decide +kernel) (di_seq (de_bm PySem.F.plainAttrs_str PySem.F.slot_str_split PySem.F.type_str_split m_split (de_var 0) (da_cons (de_gstr (T.str 47)) da_nil))) (dg_name 5 sc.nd) dts_nil (de_call h0.1 (T.glo 48) h0.2.1 h0.2.2.1 (da_cons (de_var 5) da_nil)))
  (dss_cons (ds_if (dt_w (dw_or (dt_cmp op_gtD (de_callB b_len (T.free 33) bt_len (da_cons (de_var 1) da_nil)) (de_gint (T.int 49))) (dw_or1 (dt_val (de_callB b_any (T.free 50) bt_any (da_cons (de_lc [("clause", 4)] sc.nd (show blkC N_read_clauses (defScope s_read_clauses) _ _ = true by decide +kernel) (di_seq (de_var 1)) (dg_name 4 sc.nd) dts_nil (de_cmp op_isD (de_var 4) de_non)) da_nil)))))) (dss_one (ds_ret de_non)) dss_nil)
  (dss_cons (ds_lc 2 [("clause", 4)] sc.nd (show blkC N_read_clauses (defScope s_read_clauses) _ _ = true by decide +kernel) (di_seq (de_var 1)) (dg_name 4 sc.nd) (dts_one (dt_cmp op_eqD' (de_fld (T.cls 23) (T.noat 26) (de_var 4)) de_str)) (de_var 4))
  (dss_cons (ds_if (dt_chain op_ltD op_ltD de_int (de_callB b_len (T.free 33) bt_len (da_cons (de_var 2) da_nil)) (de_callB b_len (T.free 33) bt_len (da_cons (de_var 1) da_nil))) (dss_one (ds_ret de_non)) dss_nil)
  (dss_cons (ds_for [3, 4] (di_enum' (T.free 51) (da_cons (de_var 1) da_nil)) (dg_tup 2 (dgs_cons (Plain.of E) (dg_name 3 sc.nd) (dgs_cons (Plain.of E) (dg_name 4 sc.nd) dgs_nil)))
  (dss_one (ds_if (dt_val (de_callB b_any (T.free 50) bt_any (da_cons (de_lc [("other", 6)] sc.nd (show blkC N_read_clauses (defScope s_read_clauses) _ _ = true by decide +kernel) (di_seq (de_sl (de_var 1) do_none (do_some (de_var 3)))) (dg_name 6 sc.nd) dts_nil (de_call h1.1 (T.glo 52) h1.2.1 h1.2.2.1 (da_cons (de_var 4) (da_cons (de_var 6) da_nil)))) da_nil))) (dss_one (ds_ret de_non)) dss_nil)))
  (dss_one (ds_ret (de_var 1)))))))))
theorem ok_read_clauses {b : Base} (T : Tx tl b) : ∃ fd, b.Ok 6 (He.ga b.K "read_clauses") fd P_read_clauses F_read_clauses ∧ PySem.W.keepIn b.K (.ref (He.ga b.K "read_clauses")) = true ∧ Binds b.K fd P_read_clauses [] ∧ FunD b.K "read_clauses" "read_clauses" (defArgs s_read_clauses) (defBody s_read_clauses) (defScope s_read_clauses) [] [] (He.ga b.K "read_clauses") fd := by
  obtain ⟨fd, F, B⟩ := k_read_clauses T
  exact ⟨fd, fn_ok false F sc_read_clauses (fun E => e_read_clauses T E), F.kp, B, F⟩
theorem sc_read_round : FnScope N_read_round P_read_round (defScope s_read_round) := ⟨rfl, rfl, rfl, by decide +kernel, rfl, by decide +kernel, by decide +kernel⟩
theorem k_read_round {b : Base} (T : Tx tl b) : ∃ fd, FunD b.K "read_round" "read_round" (defArgs s_read_round) (defBody s_read_round) (defScope s_read_round) [] [] (He.ga b.K "read_round") fd ∧ Binds b.K fd P_read_round [] := by
  obtain ⟨fd, F⟩ := T.s.c.def_ 12 (d := d_read_round) rfl
  exact ⟨fd, F, F.bindsN fun _ _ _ _ _ _ us hl => match us, hl with | [_, _, _], _ => rfl⟩
set_option maxHeartbeats 4000000 in
theorem e_read_round {b : Base} (T : Tx tl b) (E : XK) : DSs (b.at N_read_round (defScope s_read_round) 6 false) (wOf E) (defBody s_read_round) B_read_round := by
  obtain ⟨fdh0, h0⟩ := ok_read_clauses T
  have sc := sc_read_round
  exact (dss_cons (ds_asg [3] (de_call h0.1 (T.glo 53) h0.2.1 h0.2.2.1 (da_cons (de_var 0) da_nil)) (dg_name 3 sc.nd))
  (dss_cons (ds_if (dt_cmp op_isD (de_var 3) de_non) (dss_one (ds_ret de_non)) dss_nil)
  (dss_cons (ds_for [4] (di_seq (de_var 3)) (dg_name 4 sc.nd)
  (dss_one (ds_if (dt_w (dw_and (dt_cmp op_eqD' (de_fld (T.cls 23) (T.noat 26) (de_var 4)) de_str) (dw_and1 (dt_w (dw_or (dt_cmp op_ninD (de_fld (T.cls 23) (T.noat 29) (de_var 4)) (de_var 1)) (dw_or1 (dt_w (dw_and (dt_cmp op_eqD' (de_fld (T.cls 23) (T.noat 24) (de_var 4)) de_int) (dw_and1 (dt_cmp op_inD (de_fld (T.cls 23) (T.noat 29) (de_var 4)) (de_var 2))))))))))) (dss_one (ds_ret de_non)) dss_nil)))
  (dss_one (ds_ret (de_var 3))))))
theorem ok_read_round {b : Base} (T : Tx tl b) : ∃ fd, b.Ok 7 (He.ga b.K "read_round") fd P_read_round F_read_round ∧ PySem.W.keepIn b.K (.ref (He.ga b.K "read_round")) = true ∧ Binds b.K fd P_read_round [] ∧ FunD b.K "read_round" "read_round" (defArgs s_read_round) (defBody s_read_round) (defScope s_read_round) [] [] (He.ga b.K "read_round") fd := by
  obtain ⟨fd, F, B⟩ := k_read_round T
  exact ⟨fd, fn_ok false F sc_read_round (fun E => e_read_round T E), F.kp, B, F⟩
theorem sc_read_goal : FnScope N_read_goal P_read_goal (defScope s_read_goal) := ⟨rfl, rfl, rfl, by decide +kernel, rfl, by decide +kernel, by decide +kernel⟩
theorem k_read_goal {b : Base} (T : Tx tl b) : ∃ fd, FunD b.K "read_goal" "read_goal" (defArgs s_read_goal) (defBody s_read_goal) (defScope s_read_goal) [] [] (He.ga b.K "read_goal") fd ∧ Binds b.K fd P_read_goal [] := by
  obtain ⟨fd, F⟩ := T.s.c.def_ 13 (d := d_read_goal) rfl
  exact ⟨fd, F, F.bindsN fun _ _ _ _ _ _ us hl => match us, hl with | [_], _ => rfl⟩
set_option maxHeartbeats 4000000 in
theorem e_read_goal {b : Base} (T : Tx tl b) (E : XK) : DSs (b.at N_read_goal (defScope s_read_goal) 2 false) (wOf E) (defBody s_read_goal) B_read_goal := by
  obtain ⟨fdh0, h0⟩ := ok_digit_of T
  obtain ⟨fdh1, h1⟩ := ok_is_between T
  have sc := sc_read_goal
  exact (dss_cons (ds_if (dt_not (dt_val (de_callB (b_isi T.s.isi) (T.free 1) bt_isinstance (da_cons (de_var 0) (da_cons (de_ty (T.free 38) bt_str) da_nil))))) (dss_one (ds_ret de_non)) dss_nil)
  (dss_cons (ds_if (dt_cmp op_inD (de_var 0) (de_tup (da_cons de_str (da_cons de_str da_nil)))) (dss_one (ds_ret (de_tup (da_cons (de_var 0) (da_cons de_non da_nil))))) dss_nil)
  (dss_cons (ds_asg [1] (de_if (dt_cmp op_eqD' (de_sl (de_var 0) do_none (do_some de_int)) de_str) (de_call h0.1 (T.glo 35) h0.2.1 h0.2.2.1 (da_cons (de_sl (de_var 0) (do_some de_int) do_none) da_nil)) de_non) (dg_name 1 sc.nd))
  (dss_one (ds_ret (de_if (dt_val (de_call h1.1 (T.glo 37) h1.2.1 h1.2.2.1 (da_cons (de_var 1) (da_cons de_int (da_cons (de_gint (T.int 54)) da_nil))))) (de_tup (da_cons de_str (da_cons (de_var 1) da_nil))) de_non))))))
theorem ok_read_goal {b : Base} (T : Tx tl b) : ∃ fd, b.Ok 3 (He.ga b.K "read_goal") fd P_read_goal F_read_goal ∧ PySem.W.keepIn b.K (.ref (He.ga b.K "read_goal")) = true ∧ Binds b.K fd P_read_goal [] ∧ FunD b.K "read_goal" "read_goal" (defArgs s_read_goal) (defBody s_read_goal) (defScope s_read_goal) [] [] (He.ga b.K "read_goal") fd := by
  obtain ⟨fd, F, B⟩ := k_read_goal T
  exact ⟨fd, fn_ok false F sc_read_goal (fun E => e_read_goal T E), F.kp, B, F⟩
theorem sc_is_plan : FnScope N_is_plan P_is_plan (defScope s_is_plan) := ⟨rfl, rfl, rfl, by decide +kernel, rfl, by decide +kernel, by decide +kernel⟩
theorem k_is_plan {b : Base} (T : Tx tl b) : ∃ fd, FunD b.K "is_plan" "is_plan" (defArgs s_is_plan) (defBody s_is_plan) (defScope s_is_plan) [] [] (He.ga b.K "is_plan") fd ∧ Binds b.K fd P_is_plan [] := by
  obtain ⟨fd, F⟩ := T.s.c.def_ 14 (d := d_is_plan) rfl
  exact ⟨fd, F, F.bindsN fun _ _ _ _ _ _ us hl => match us, hl with | [_], _ => rfl⟩
set_option maxHeartbeats 4000000 in
theorem e_is_plan {b : Base} (T : Tx tl b) (E : XK) : DSs (b.at N_is_plan (defScope s_is_plan) 6 false) (wOf E) (defBody s_is_plan) B_is_plan := by
  obtain ⟨fdh0, h0⟩ := ok_is_name T
  obtain ⟨fdh1, h1⟩ := ok_read_goal T
  obtain ⟨fdh2, h2⟩ := ok_is_between T
  obtain ⟨fdh3, h3⟩ := ok_read_clauses T
  have sc := sc_is_plan
  exact (dss_cons (ds_if (dt_w (dw_or (dt_not (dt_val (de_callB (b_isi T.s.isi) (T.free 1) bt_isinstance (da_cons (de_var 0) (da_cons (de_ty (T.free 55) bt_tuple) da_nil))))) (dw_or1 (dt_cmp op_neD' (de_callB b_len (T.free 33) bt_len (da_cons (de_var 0) da_nil)) de_int)))) (dss_one (ds_ret de_bl)) dss_nil)
  (dss_cons (ds_asg [1, 2, 3, 4] (de_var 0) (dg_tup 4 (dgs_cons (Plain.of E) (dg_name 1 sc.nd) (dgs_cons (Plain.of E) (dg_name 2 sc.nd) (dgs_cons (Plain.of E) (dg_name 3 sc.nd) (dgs_cons (Plain.of E) (dg_name 4 sc.nd) dgs_nil))))))
  (dss_cons (ds_if (dt_w (dw_or (dt_not (dt_val (de_call h0.1 (T.glo 42) h0.2.1 h0.2.2.1 (da_cons (de_var 1) da_nil)))) (dw_or (dt_cmp op_isD (de_call h1.1 (T.glo 56) h1.2.1 h1.2.2.1 (da_cons (de_var 2) da_nil)) de_non) (dw_or1 (dt_not (dt_val (de_call h2.1 (T.glo 37) h2.2.1 h2.2.2.1 (da_cons (de_var 3) (da_cons de_int (da_cons (de_gint (T.int 57)) da_nil)))))))))) (dss_one (ds_ret de_bl)) dss_nil)
  (dss_cons (ds_if (dt_w (dw_or (dt_not (dt_val (de_callB (b_isi T.s.isi) (T.free 1) bt_isinstance (da_cons (de_var 4) (da_cons (de_ty (T.free 55) bt_tuple) da_nil))))) (dw_or1 (dt_not (dt_chain op_ltD op_leD de_int (de_callB b_len (T.free 33) bt_len (da_cons (de_var 4) da_nil)) (de_gint (T.int 58))))))) (dss_one (ds_ret de_bl)) dss_nil)
  (dss_one (ds_ret (de_callB b_all (T.free 40) bt_all (da_cons (de_lc [("text", 5)] sc.nd (show blkC N_is_plan (defScope s_is_plan) _ _ = true by decide +kernel) (di_seq (de_var 4)) (dg_name 5 sc.nd) dts_nil (de_cmp op_isntD (de_call h3.1 (T.glo 53) h3.2.1 h3.2.2.1 (da_cons (de_var 5) da_nil)) de_non)) da_nil))))))))
theorem ok_is_plan {b : Base} (T : Tx tl b) : ∃ fd, b.Ok 7 (He.ga b.K "is_plan") fd P_is_plan F_is_plan ∧ PySem.W.keepIn b.K (.ref (He.ga b.K "is_plan")) = true ∧ Binds b.K fd P_is_plan [] ∧ FunD b.K "is_plan" "is_plan" (defArgs s_is_plan) (defBody s_is_plan) (defScope s_is_plan) [] [] (He.ga b.K "is_plan") fd := by
  obtain ⟨fd, F, B⟩ := k_is_plan T
  exact ⟨fd, fn_ok false F sc_is_plan (fun E => e_is_plan T E), F.kp, B, F⟩
theorem sc_first_invalid : FnScope N_first_invalid P_first_invalid (defScope s_first_invalid) := ⟨rfl, rfl, rfl, by decide +kernel, rfl, by decide +kernel, by decide +kernel⟩
theorem k_first_invalid {b : Base} (T : Tx tl b) : ∃ fd, FunD b.K "first_invalid" "first_invalid" (defArgs s_first_invalid) (defBody s_first_invalid) (defScope s_first_invalid) [] [] (He.ga b.K "first_invalid") fd ∧ Binds b.K fd P_first_invalid [] := by
  obtain ⟨fd, F⟩ := T.s.c.def_ 15 (d := d_first_invalid) rfl
  exact ⟨fd, F, F.bindsN fun _ _ _ _ _ _ us hl => match us, hl with | [_], _ => rfl⟩
set_option maxHeartbeats 4000000 in
theorem e_first_invalid {b : Base} (T : Tx tl b) (E : XK) : DSs (b.at N_first_invalid (defScope s_first_invalid) 7 false) (wOf E) (defBody s_first_invalid) B_first_invalid := by
  obtain ⟨fdh0, h0⟩ := ok_is_plan T
  obtain ⟨fdh1, h1⟩ := ok_read_round T
  have sc := sc_first_invalid
  exact (dss_cons (ds_asg [1] (de_new da_nil) (dg_name 1 sc.nd))
  (dss_cons (ds_for [2, 3] (di_enum' (T.free 51) (da_cons (de_var 0) da_nil)) (dg_tup 2 (dgs_cons (Plain.of E) (dg_name 2 sc.nd) (dgs_cons (Plain.of E) (dg_name 3 sc.nd) dgs_nil)))
  (dss_cons (ds_if (dt_w (dw_or (dt_cmp op_eqD' (de_var 2) (de_gint (T.int 59))) (dw_or (dt_not (dt_val (de_call h0.1 (T.glo 60) h0.2.1 h0.2.2.1 (da_cons (de_var 3) da_nil)))) (dw_or1 (dt_cmp op_inD (de_ix (de_var 3) de_int) (de_var 1)))))) (dss_one (ds_ret (de_var 2))) dss_nil)
  (dss_one (ds_expr (de_bm PySem.F.plainAttrs_list PySem.F.slot_list_append PySem.F.type_list_append m_append (de_var 1) (da_cons (de_ix (de_var 3) de_int) da_nil))))))
  (dss_cons (ds_for [2, 3] (di_enum' (T.free 51) (da_cons (de_var 0) da_nil)) (dg_tup 2 (dgs_cons (Plain.of E) (dg_name 2 sc.nd) (dgs_cons (Plain.of E) (dg_name 3 sc.nd) dgs_nil)))
  (dss_one (ds_if (dt_val (de_callB b_any (T.free 50) bt_any (da_cons (de_lc [("text", 4)] sc.nd (show blkC N_first_invalid (defScope s_first_invalid) _ _ = true by decide +kernel) (di_seq (de_ix (de_var 3) de_int)) (dg_name 4 sc.nd) dts_nil (de_cmp op_isD (de_call h1.1 (T.glo 61) h1.2.1 h1.2.2.1 (da_cons (de_var 4) (da_cons (de_var 1) (da_cons (de_sl (de_var 1) do_none (do_some (de_op op_addD (de_var 2) de_int))) da_nil)))) de_non)) da_nil))) (dss_one (ds_ret (de_var 2))) dss_nil)))
  (dss_one (ds_ret de_non)))))
theorem ok_first_invalid {b : Base} (T : Tx tl b) : ∃ fd, b.Ok 8 (He.ga b.K "first_invalid") fd P_first_invalid F_first_invalid ∧ PySem.W.keepIn b.K (.ref (He.ga b.K "first_invalid")) = true ∧ Binds b.K fd P_first_invalid [] ∧ FunD b.K "first_invalid" "first_invalid" (defArgs s_first_invalid) (defBody s_first_invalid) (defScope s_first_invalid) [] [] (He.ga b.K "first_invalid") fd := by
  obtain ⟨fd, F, B⟩ := k_first_invalid T
  exact ⟨fd, fn_ok false F sc_first_invalid (fun E => e_first_invalid T E), F.kp, B, F⟩
theorem sc_Book_D_initD_ : FnScope N_Book_D_initD_ P_Book_D_initD_ (defScope s_Book_D_initD_) := ⟨rfl, rfl, rfl, by decide +kernel, rfl, by decide +kernel, by decide +kernel⟩
theorem k_Book_D_initD_ {b : Base} (T : Tx tl b) : ∃ fd, FunD b.K "__init__" "Book.__init__" (defArgs s_Book_D_initD_) (defBody s_Book_D_initD_) (defScope s_Book_D_initD_) [] [] (He.ma b.K (He.ga b.K "Book") "__init__") fd ∧ Binds b.K fd P_Book_D_initD_ [] := by
  obtain ⟨fd, F⟩ := T.s.c.def_ 16 (d := d_Book_D_initD_) rfl
  exact ⟨fd, F, F.bindsN fun _ _ _ _ _ _ us hl => match us, hl with | [_, _], _ => rfl⟩
set_option maxHeartbeats 4000000 in
theorem e_Book_D_initD_ {b : Base} (T : Tx tl b) (E : XK) : DSs (b.at N_Book_D_initD_ (defScope s_Book_D_initD_) 8 false) (wOf E) (defBody s_Book_D_initD_) B_Book_D_initD_ := by
  obtain ⟨fdh0, h0⟩ := ok_first_invalid T
  obtain ⟨fdh1, h1⟩ := ok_read_clauses T
  have sc := sc_Book_D_initD_
  exact (dss_cons (ds_if (dt_w (dw_or (dt_not (dt_val (de_callB (b_isi T.s.isi) (T.free 1) bt_isinstance (da_cons (de_var 1) (da_cons (de_ty (T.free 55) bt_tuple) da_nil))))) (dw_or1 (dt_cmp op_eqD' (de_callB b_len (T.free 33) bt_len (da_cons (de_var 1) da_nil)) de_int)))) (dss_one (ds_raise1 (mx_InvalidPlans T) (T.free 62) (T.glo 6) de_non)) dss_nil)
  (dss_cons (ds_asg [2] (de_call h0.1 (T.glo 63) h0.2.1 h0.2.2.1 (da_cons (de_var 1) da_nil)) (dg_name 2 sc.nd))
  (dss_cons (ds_if (dt_cmp op_isntD (de_var 2) de_non) (dss_one (ds_raise1 (mx_InvalidPlans T) (T.free 62) (T.glo 6) (de_var 2))) dss_nil)
  (dss_cons (ds_fld (T.cls 21) (T.noat 22) (de_var 0) (de_var 1))
  (dss_one (ds_fld (T.cls 21) (T.noat 64) (de_var 0) (de_dc [("plan", 3)] sc.nd (show blkC N_Book_D_initD_ (defScope s_Book_D_initD_) _ _ = true by decide +kernel) (di_seq (de_var 1)) (dg_name 3 sc.nd) (de_ix (de_var 3) de_int) (de_lc [("text", 4)] sc.nd (show blkC N_Book_D_initD_ (relS _ (defScope s_Book_D_initD_)) _ _ = true by decide +kernel) (di_seq (de_ix (de_var 3) de_int)) (dg_name 4 sc.nd) dts_nil (de_call h1.1 (T.glo 53) h1.2.1 h1.2.2.1 (da_cons (de_var 4) da_nil))))))))))
theorem ok_Book_D_initD_ {b : Base} (T : Tx tl b) : ∃ fd, b.Ok 9 (He.ma b.K (He.ga b.K "Book") "__init__") fd P_Book_D_initD_ F_Book_D_initD_ ∧ PySem.W.keepIn b.K (.ref (He.ma b.K (He.ga b.K "Book") "__init__")) = true ∧ Binds b.K fd P_Book_D_initD_ [] ∧ FunD b.K "__init__" "Book.__init__" (defArgs s_Book_D_initD_) (defBody s_Book_D_initD_) (defScope s_Book_D_initD_) [] [] (He.ma b.K (He.ga b.K "Book") "__init__") fd := by
  obtain ⟨fd, F, B⟩ := k_Book_D_initD_ T
  exact ⟨fd, fn_ok false F sc_Book_D_initD_ (fun E => e_Book_D_initD_ T E), F.kp, B, F⟩
theorem sc__law_fits : FnScope N__law_fits P__law_fits (defScope s__law_fits) := ⟨rfl, rfl, rfl, by decide +kernel, rfl, by decide +kernel, by decide +kernel⟩
theorem k__law_fits {b : Base} (T : Tx tl b) : ∃ fd, FunD b.K "_law_fits" "_law_fits" (defArgs s__law_fits) (defBody s__law_fits) (defScope s__law_fits) [] [] (He.ga b.K "_law_fits") fd ∧ Binds b.K fd P__law_fits [] := by
  obtain ⟨fd, F⟩ := T.s.c.def_ 17 (d := d__law_fits) rfl
  exact ⟨fd, F, F.bindsN fun _ _ _ _ _ _ us hl => match us, hl with | [_, _], _ => rfl⟩
set_option maxHeartbeats 4000000 in
theorem e__law_fits {b : Base} (T : Tx tl b) (E : XK) : DSs (b.atL N__law_fits (defScope s__law_fits) 12 "_law_fits") (wOf E) (defBody s__law_fits) B__law_fits := by
  have h0 := ok__law_caught T
  obtain ⟨fdh1, h1⟩ := ok_Book_D_initD_ T
  obtain ⟨fdh2, h2⟩ := ok_Book_plans T
  have sc := sc__law_fits
  exact (dss_cons (ds_asg [2] (de_tup (da_cons (de_tup (da_cons de_str (da_cons de_str (da_cons de_int (da_cons (de_tup (da_cons (de_var 0) da_nil)) da_nil))))) (da_cons (de_tup (da_cons de_str (da_cons de_str (da_cons de_int (da_cons (de_tup (da_cons de_str da_nil)) da_nil))))) da_nil))) (dg_name 2 sc.nd))
  (dss_cons (ds_asg [3] (de_if (dt_val (de_var 1)) (de_lst (da_cons de_str (da_cons (de_callB (b_repr rfl) (T.free 19) bt_repr (da_cons (de_var 2) da_nil)) da_nil))) (de_lst (da_cons de_str (da_cons de_str da_nil)))) (dg_name 3 sc.nd))
  (dss_one (ds_ret (de_cmp op_eqD' (de_lamC (kg := 1) (kb := 10) (i := 0) h0 rfl rfl (T.tab _ (tbm 0)) (T.glo 67) (fun E => (de_prop h2.1 (T.cls 21) h2.2.2.2 h2.2.2.1 (de_make h1.1 (T.mkr 65) (T.glo 66) h1.2.2.1 (da_cons (de_var 2) da_nil)))) (show LamX.lamSB (defScope s__law_fits) _ = true by decide +kernel)) (de_var 3))))))
theorem ok__law_fits {b : Base} (T : Tx tl b) : ∃ fd, FnG b 13 (He.ga b.K "_law_fits") fd P__law_fits F__law_fits ∧ PySem.W.keepIn b.K (.ref (He.ga b.K "_law_fits")) = true ∧ Binds b.K fd P__law_fits [] ∧ True := by
  obtain ⟨fd, F, B⟩ := k__law_fits T
  exact ⟨fd, fnG_okL false F (T.s.tb _ (tbm 0)) sc__law_fits (fun E => e__law_fits T E), F.kp, B, trivial⟩
theorem sc__law_draw : FnScope N__law_draw P__law_draw (defScope s__law_draw) := ⟨rfl, rfl, rfl, by decide +kernel, rfl, by decide +kernel, by decide +kernel⟩
theorem k__law_draw {b : Base} (T : Tx tl b) : ∃ fd, FunD b.K "_law_draw" "_law_draw" (defArgs s__law_draw) (defBody s__law_draw) (defScope s__law_draw) [] [] (He.ga b.K "_law_draw") fd ∧ Binds b.K fd P__law_draw [] := by
  obtain ⟨fd, F⟩ := T.s.c.def_ 18 (d := d__law_draw) rfl
  exact ⟨fd, F, F.bindsN fun _ _ _ _ _ _ us hl => match us, hl with | [_, _], _ => rfl⟩
set_option maxHeartbeats 4000000 in
theorem e__law_draw {b : Base} (T : Tx tl b) (E : XK) : DSs (b.at N__law_draw (defScope s__law_draw) 0 true) (wOf E) (defBody s__law_draw) B__law_draw := by
  have sc := sc__law_draw
  exact (dss_cons (ds_asg [] (de_op op_addD (de_ix (de_var 0) de_int) de_int) (dg_sub (de_var 0) de_int))
  (dss_cons (ds_asg [2] (de_callT b_int (T.free 30) bt_int (da_cons (de_ix (de_var 0) de_int) da_nil)) (dg_name 2 sc.nd))
  (dss_cons (ds_asg [] (de_op op_modD (de_callT b_int (T.free 30) bt_int (da_cons (de_op op_addD (de_op op_addD (de_op op_mulD (de_var 2) (de_op op_addD (de_op op_modD (de_callT b_int (T.free 30) bt_int (da_cons (de_var 2) da_nil)) de_int) de_int)) (de_op op_mulD de_int (de_ix (de_var 0) de_int))) de_int) da_nil)) de_int) (dg_sub (de_var 0) de_int))
  (dss_cons (ds_if (dt_cmp op_gtD (de_ix (de_var 0) de_int) de_int) (dss_cons (ds_asg [3] (de_callB b_divmod (T.free 68) bt_divmod (da_cons (de_ix (de_var 0) de_int) (da_cons (de_var 1) da_nil))) (dg_tup 2 (dgs_cons (Plain.of E) (dg_sub (de_var 0) de_int) (dgs_cons (Plain.of E) (dg_name 3 sc.nd) dgs_nil))))
  (dss_one (ds_ret (de_var 3)))) dss_nil)
  (dss_one (ds_ret (de_op op_modD (de_callT b_int (T.free 30) bt_int (da_cons (de_op op_divD (de_ix (de_var 0) de_int) de_int) da_nil)) (de_var 1))))))))
theorem ok__law_draw {b : Base} (T : Tx tl b) : ∃ fd, FnG b 1 (He.ga b.K "_law_draw") fd P__law_draw F__law_draw ∧ PySem.W.keepIn b.K (.ref (He.ga b.K "_law_draw")) = true ∧ Binds b.K fd P__law_draw [] ∧ True := by
  obtain ⟨fd, F, B⟩ := k__law_draw T
  exact ⟨fd, fnG_ok false F sc__law_draw (fun E => e__law_draw T E), F.kp, B, trivial⟩
theorem sc__law_pick : FnScope N__law_pick P__law_pick (defScope s__law_pick) := ⟨rfl, rfl, rfl, by decide +kernel, rfl, by decide +kernel, by decide +kernel⟩
theorem k__law_pick {b : Base} (T : Tx tl b) : ∃ fd, FunD b.K "_law_pick" "_law_pick" (defArgs s__law_pick) (defBody s__law_pick) (defScope s__law_pick) [] [] (He.ga b.K "_law_pick") fd ∧ Binds b.K fd P__law_pick [] := by
  obtain ⟨fd, F⟩ := T.s.c.def_ 19 (d := d__law_pick) rfl
  exact ⟨fd, F, F.bindsN fun _ _ _ _ _ _ us hl => match us, hl with | [_, _], _ => rfl⟩
set_option maxHeartbeats 4000000 in
theorem e__law_pick {b : Base} (T : Tx tl b) (E : XK) : DSs (b.at N__law_pick (defScope s__law_pick) 1 true) (wOf E) (defBody s__law_pick) B__law_pick := by
  obtain ⟨fdh0, h0⟩ := ok__law_draw T
  have sc := sc__law_pick
  exact (dss_one (ds_ret (de_ix (de_var 1) (de_callG h0.1 (T.glo 69) h0.2.1 h0.2.2.1 (da_cons (de_var 0) (da_cons (de_callB b_len (T.free 33) bt_len (da_cons (de_var 1) da_nil)) da_nil))))))
theorem ok__law_pick {b : Base} (T : Tx tl b) : ∃ fd, FnG b 2 (He.ga b.K "_law_pick") fd P__law_pick F__law_pick ∧ PySem.W.keepIn b.K (.ref (He.ga b.K "_law_pick")) = true ∧ Binds b.K fd P__law_pick [] ∧ True := by
  obtain ⟨fd, F, B⟩ := k__law_pick T
  exact ⟨fd, fnG_ok false F sc__law_pick (fun E => e__law_pick T E), F.kp, B, trivial⟩
theorem sc__law_right : FnScope N__law_right P__law_right (defScope s__law_right) := ⟨rfl, rfl, rfl, by decide +kernel, rfl, by decide +kernel, by decide +kernel⟩
theorem k__law_right {b : Base} (T : Tx tl b) : ∃ fd, FunD b.K "_law_right" "_law_right" (defArgs s__law_right) (defBody s__law_right) (defScope s__law_right) [] [] (He.ga b.K "_law_right") fd ∧ Binds b.K fd P__law_right [] := by
  obtain ⟨fd, F⟩ := T.s.c.def_ 20 (d := d__law_right) rfl
  exact ⟨fd, F, F.bindsN fun _ _ _ _ _ _ us hl => match us, hl with | [_], _ => rfl⟩
set_option maxHeartbeats 4000000 in
theorem e__law_right {b : Base} (T : Tx tl b) (E : XK) : DSs (b.at N__law_right (defScope s__law_right) 13 true) (wOf E) (defBody s__law_right) B__law_right := by
  obtain ⟨fdh0, h0⟩ := ok__law_draw T
  obtain ⟨fdh1, h1⟩ := ok__law_pick T
  obtain ⟨fdh2, h2⟩ := ok__law_fits T
  have sc := sc__law_right
  exact (dss_cons (ds_par 1 2 sc.nd (da_cons (de_lst (da_cons de_int (da_cons de_int (da_cons de_int (da_cons de_int (da_cons de_int (da_cons (de_op op_addD de_int (de_callG h0.1 (T.glo 69) h0.2.1 h0.2.2.1 (da_cons (de_var 0) (da_cons de_int da_nil)))) da_nil))))))) (da_cons (de_op op_addD de_int (de_callG h0.1 (T.glo 69) h0.2.1 h0.2.2.1 (da_cons (de_var 0) (da_cons de_int da_nil)))) da_nil)))
  (dss_cons (ds_par 3 4 sc.nd (da_cons (de_callG h1.1 (T.glo 70) h1.2.1 h1.2.2.1 (da_cons (de_var 0) (da_cons (de_lst (da_cons de_str (da_cons de_str da_nil))) da_nil))) (da_cons (de_callG h1.1 (T.glo 70) h1.2.1 h1.2.2.1 (da_cons (de_var 0) (da_cons (de_lst (da_cons de_str (da_cons de_str da_nil))) da_nil))) da_nil)))
  (dss_cons (ds_for [5] (di_seq (de_var 1)) (dg_name 5 sc.nd)
  (dss_one (ds_for [6] (di_seq (de_var 1)) (dg_name 6 sc.nd)
  (dss_cons (ds_par 7 8 sc.nd (da_cons (de_op op_addD (de_op op_addD (de_callT b_str (T.free 38) bt_str (da_cons (de_var 6) da_nil)) de_str) (de_callT b_str (T.free 38) bt_str (da_cons (de_var 5) da_nil))) (da_cons (de_and (de_chain op_ltD op_ltD de_int (de_var 5) de_int) (de_one (de_cmp op_ltD (de_var 6) (de_var 5)))) da_nil)))
  (dss_cons (ds_if (dt_not (dt_val (de_callG h2.1 (T.glo 71) h2.2.1 h2.2.2.1 (da_cons (de_op op_addD (de_op op_addD (de_op op_addD (de_op op_addD (de_op op_addD (de_op op_addD (de_var 3) de_str) (de_var 7)) de_str) (de_var 4)) de_str) (de_callT b_str (T.free 38) bt_str (da_cons (de_var 2) da_nil))) (da_cons (de_var 8) da_nil))))) (dss_one (ds_ret de_bl)) dss_nil)
  (dss_cons (ds_if (dt_w (dw_or (dt_not (dt_val (de_callG h2.1 (T.glo 71) h2.2.1 h2.2.2.1 (da_cons (de_op op_addD de_str (de_var 7)) (da_cons (de_var 8) da_nil))))) (dw_or1 (dt_not (dt_val (de_callG h2.1 (T.glo 71) h2.2.1 h2.2.2.1 (da_cons (de_op op_addD de_str (de_var 7)) (da_cons (de_var 8) da_nil)))))))) (dss_one (ds_ret de_bl)) dss_nil)
  (dss_one (ds_if (dt_not (dt_val (de_callG h2.1 (T.glo 71) h2.2.1 h2.2.2.1 (da_cons (de_op op_addD de_str (de_var 7)) (da_cons (de_and (de_var 8) (de_one (de_cmp op_gtD (de_var 5) de_int))) da_nil))))) (dss_one (ds_ret de_bl)) dss_nil))))))))
  (dss_cons (ds_asg [9] (de_op op_addD de_int (de_callG h0.1 (T.glo 69) h0.2.1 h0.2.2.1 (da_cons (de_var 0) (da_cons de_int da_nil)))) (dg_name 9 sc.nd))
  (dss_cons (ds_asg [7] (de_op op_addD (de_op op_addD (de_callT b_str (T.free 38) bt_str (da_cons (de_callG h0.1 (T.glo 69) h0.2.1 h0.2.2.1 (da_cons (de_var 0) (da_cons (de_var 9) da_nil))) da_nil)) de_str) (de_callT b_str (T.free 38) bt_str (da_cons (de_var 9) da_nil))) (dg_name 7 sc.nd))
  (dss_cons (ds_for [3] (di_seq (de_lst (da_cons de_str (da_cons de_str da_nil)))) (dg_name 3 sc.nd)
  (dss_one (ds_for [4] (di_seq (de_lst (da_cons de_str (da_cons de_str da_nil)))) (dg_name 4 sc.nd)
  (dss_one (ds_for [10] (di_range1 (T.free 72) (da_cons de_int da_nil)) (dg_name 10 sc.nd)
  (dss_one (ds_if (dt_not (dt_val (de_callG h2.1 (T.glo 71) h2.2.1 h2.2.2.1 (da_cons (de_op op_addD (de_op op_addD (de_op op_addD (de_op op_addD (de_op op_addD (de_op op_addD (de_var 3) de_str) (de_var 7)) de_str) (de_var 4)) de_str) (de_callT b_str (T.free 38) bt_str (da_cons (de_var 10) da_nil))) (da_cons (de_chain op_ltD op_ltD de_int (de_var 10) de_int) da_nil))))) (dss_one (ds_ret de_bl)) dss_nil)))))))
  (dss_one (ds_ret de_bl))))))))
theorem ok__law_right {b : Base} (T : Tx tl b) : ∃ fd, FnG b 14 (He.ga b.K "_law_right") fd P__law_right F__law_right ∧ PySem.W.keepIn b.K (.ref (He.ga b.K "_law_right")) = true ∧ Binds b.K fd P__law_right [] ∧ True := by
  obtain ⟨fd, F, B⟩ := k__law_right T
  exact ⟨fd, fnG_ok false F sc__law_right (fun E => e__law_right T E), F.kp, B, trivial⟩
theorem sc__law_purse : FnScope N__law_purse P__law_purse (defScope s__law_purse) := ⟨rfl, rfl, rfl, by decide +kernel, rfl, by decide +kernel, by decide +kernel⟩
theorem k__law_purse {b : Base} (T : Tx tl b) : ∃ fd, FunD b.K "_law_purse" "_law_purse" (defArgs s__law_purse) (defBody s__law_purse) (defScope s__law_purse) [] [] (He.ga b.K "_law_purse") fd ∧ Binds b.K fd P__law_purse [] := by
  obtain ⟨fd, F⟩ := T.s.c.def_ 21 (d := d__law_purse) rfl
  exact ⟨fd, F, F.bindsN fun _ _ _ _ _ _ us hl => match us, hl with | [_], _ => rfl⟩
set_option maxHeartbeats 4000000 in
theorem e__law_purse {b : Base} (T : Tx tl b) (E : XK) : DSs (b.at N__law_purse (defScope s__law_purse) 0 true) (wOf E) (defBody s__law_purse) B__law_purse := by
  have sc := sc__law_purse
  exact (dss_cons (ds_asg [1] (de_callB b_abs (T.free 73) bt_abs (da_cons (de_var 0) da_nil)) (dg_name 1 sc.nd))
  (dss_one (ds_ret (de_new (da_cons (de_op op_modD (de_callT b_int (T.free 30) bt_int (da_cons (de_var 1) da_nil)) de_int) (da_cons (de_if (dt_w (dw_or (dt_cmp op_ltD (de_var 0) de_int) (dw_or1 (dt_cmp op_geD (de_var 1) (de_op op_powD de_int de_int))))) (de_var 1) de_int) (da_cons de_int da_nil)))))))
theorem ok__law_purse {b : Base} (T : Tx tl b) : ∃ fd, FnG b 1 (He.ga b.K "_law_purse") fd P__law_purse F__law_purse ∧ PySem.W.keepIn b.K (.ref (He.ga b.K "_law_purse")) = true ∧ Binds b.K fd P__law_purse [] ∧ True := by
  obtain ⟨fd, F, B⟩ := k__law_purse T
  exact ⟨fd, fnG_ok true F sc__law_purse (fun E => e__law_purse T E), F.kp, B, trivial⟩
theorem sc__law_cell : FnScope N__law_cell P__law_cell (defScope s__law_cell) := ⟨rfl, rfl, rfl, by decide +kernel, rfl, by decide +kernel, by decide +kernel⟩
theorem k__law_cell {b : Base} (T : Tx tl b) : ∃ fd, FunD b.K "_law_cell" "_law_cell" (defArgs s__law_cell) (defBody s__law_cell) (defScope s__law_cell) [] [] (He.ga b.K "_law_cell") fd ∧ Binds b.K fd P__law_cell [] := by
  obtain ⟨fd, F⟩ := T.s.c.def_ 22 (d := d__law_cell) rfl
  exact ⟨fd, F, F.bindsN fun _ _ _ _ _ _ us hl => match us, hl with | [_, _], _ => rfl⟩
set_option maxHeartbeats 4000000 in
theorem e__law_cell {b : Base} (T : Tx tl b) (E : XK) : DSs (b.at N__law_cell (defScope s__law_cell) 0 true) (wOf E) (defBody s__law_cell) B__law_cell := by
  have sc := sc__law_cell
  exact (dss_cons (ds_if (dt_cmp op_ltD (de_var 1) (de_callB b_len (T.free 33) bt_len (da_cons (de_var 0) da_nil))) (dss_one (ds_ret (de_ix (de_var 0) (de_var 1)))) dss_nil)
  (dss_cons (ds_asg [2] (de_op op_mulD (de_op op_mulD de_int (de_op op_addD (de_var 1) de_int)) (de_op op_addD (de_var 1) de_int)) (dg_name 2 sc.nd))
  (dss_cons (ds_for [3] (di_seq (de_sl (de_var 0) do_none (do_some de_int))) (dg_name 3 sc.nd)
  (dss_one (ds_asg [2] (de_op op_modD (de_callT b_int (T.free 30) bt_int (da_cons (de_op op_addD (de_op op_mulD (de_var 2) de_int) (de_var 3)) da_nil)) de_int) (dg_name 2 sc.nd))))
  (dss_one (ds_ret (de_var 2))))))
theorem ok__law_cell {b : Base} (T : Tx tl b) : ∃ fd, FnG b 1 (He.ga b.K "_law_cell") fd P__law_cell F__law_cell ∧ PySem.W.keepIn b.K (.ref (He.ga b.K "_law_cell")) = true ∧ Binds b.K fd P__law_cell [] ∧ True := by
  obtain ⟨fd, F, B⟩ := k__law_cell T
  exact ⟨fd, fnG_ok false F sc__law_cell (fun E => e__law_cell T E), F.kp, B, trivial⟩
theorem sc_law : FnScope N_law P_law (defScope s_law) := ⟨rfl, rfl, rfl, by decide +kernel, rfl, by decide +kernel, by decide +kernel⟩
theorem k_law {b : Base} (T : Tx tl b) : ∃ fd, FunD b.K "law" "law" (defArgs s_law) (defBody s_law) (defScope s_law) [] [] (He.ga b.K "law") fd ∧ Binds b.K fd P_law [] := by
  obtain ⟨fd, F⟩ := T.s.c.def_ 23 (d := d_law) rfl
  exact ⟨fd, F, F.bindsN fun _ _ _ _ _ _ us hl => match us, hl with | [_], _ => rfl⟩
set_option maxHeartbeats 4000000 in
theorem e_law {b : Base} (T : Tx tl b) (E : XK) : DSs (b.at N_law (defScope s_law) 14 true) (wOf E) (defBody s_law) B_law := by
  obtain ⟨fdh0, h0⟩ := ok__law_right T
  obtain ⟨fdh1, h1⟩ := ok__law_purse T
  obtain ⟨fdh2, h2⟩ := ok__law_cell T
  have sc := sc_law
  exact (dss_one (ds_ret (de_callB b_all (T.free 40) bt_all (da_cons (de_lc [("_law_k", 1)] sc.nd (show blkC N_law (defScope s_law) _ _ = true by decide +kernel) (di_range1 (T.free 72) (da_cons (de_callB b_max (T.free 75) bt_max (da_cons de_int (da_cons (de_callB b_min (T.free 74) bt_min (da_cons (de_callB b_len (T.free 33) bt_len (da_cons (de_var 0) da_nil)) (da_cons de_int da_nil))) da_nil))) da_nil)) (dg_name 1 sc.nd) dts_nil (de_callG h0.1 (T.glo 78) h0.2.1 h0.2.2.1 (da_cons (de_callG h1.1 (T.glo 77) h1.2.1 h1.2.2.1 (da_cons (de_callG h2.1 (T.glo 76) h2.2.1 h2.2.2.1 (da_cons (de_var 0) (da_cons (de_var 1) da_nil))) da_nil)) da_nil))) da_nil))))
theorem ok_law {b : Base} (T : Tx tl b) (fd : FuncData) (F : FunD b.K "law" "law" (defArgs s_law) (defBody s_law) (defScope s_law) [] [] (He.ga b.K "law") fd) : (∀ (s : Shared) (u : Value), BindsTo s fd ⟨[u], []⟩ [("_law_script", u)]) ∧ FnG b 15 (He.ga b.K "law") fd P_law F_law := by
  have B := FunD.bindsA (ps := P_law) F fun _ _ _ _ _ _ us hl => match us, hl with | [_], _ => rfl
  exact ⟨fun s u => B s [u] rfl, fnG_ok false F sc_law (fun E => e_law T E)⟩
def nmL0 : List PySem.Str := ["_wall", "NotRight", "InvalidText", "InvalidCount", "InvalidPlace", "InvalidClaim", "NotABook", "InvalidPlans", "InvalidPieces", "NotThere"]
def nmL1 : List PySem.Str := ["UnknownPlan", "CannotBe", "TooLong", "IsOver", "NothingToUndo", "Broken", "LETTERS", "DIGITS", "is_integer", "is_between"]
def nmL2 : List PySem.Str := ["is_name", "MOST_PLANS", "MOST_ROUNDS", "MOST_CLAUSES", "MOST_CLASSES", "MOST_FAR", "MOST_LAST", "MOST_BASE", "GAP", "Clause"]
def nmL3 : List PySem.Str := ["digit_of", "class_of", "read_call", "read_clause", "meet", "read_clauses", "read_round", "read_goal", "is_plan", "first_invalid"]
def nmL4 : List PySem.Str := ["read_head", "read_plans", "text_of", "Book", "_law_cell", "_law_purse", "_law_draw", "_law_pick", "_law_error", "_law_caught"]
def nmL5 : List PySem.Str := ["_law_fits", "_law_right"]
def nmL : List PySem.Str := nmL0 ++ (nmL1 ++ (nmL2 ++ (nmL3 ++ (nmL4 ++ (nmL5)))))
abbrev R : PySem.W.OpenRow := PySem.W.OpenLaw.row PySem.Challenge.rw_joinrounds_k04_clauses_by_digits
abbrev hk : PySem.W.Hook := hookM 1500 tl
def ob (s : PySem.W.SharedT) : AlM := obsMG 1500 tl (HandSHeadRun.getT s)
theorem ob_eq (s : PySem.W.SharedT) : ob s = hk.obs s.abs := obsMG_eq (HandSHeadRun.getT_eq s)
set_option maxHeartbeats 0 in
theorem run (w : World) : HandSHeadRun.RunEq R (PySem.W.view R.prog [57]) hk ob 20000 nmL w := by
  intro os
  kernel_rfl
end J
open PySem PySem.W PySem.Calls PyProof.Rows in
set_option maxHeartbeats 0 in
theorem PySem.Challenge.cw_joinrounds_k04_clauses_by_digits_holds : PySem.Challenge.rw_joinrounds_k04_clauses_by_digits.Holds := by
  w_on; o_law
  refine HandSHeadRun.head_any (r := OpenLaw.row PySem.Challenge.rw_joinrounds_k04_clauses_by_digits) (q := view (OpenLaw.row PySem.Challenge.rw_joinrounds_k04_clauses_by_digits).prog [57]) (H := J.hk) (ob := J.ob) (M := 20000) (loose := J.nmL) (d := HandSHeadRun.topDef (OpenLaw.row PySem.Challenge.rw_joinrounds_k04_clauses_by_digits).prog 57) (kwd := []) J.ob_eq
    (by kernel_rfl) (fun s => by kernel_rfl) J.run (by kernel_rfl) (by kernel_rfl) (by kernel_rfl) (by rfl) (by first | assumption | decide +kernel) (by decide +kernel) ⟨rfl, rfl, rfl, rfl, rfl, by decide +kernel⟩ ?hw ?hc
  case hw => w_witness2
  case hc =>
    exact DS.walkT (l := PySem.Challenge.rw_joinrounds_k04_clauses_by_digits) (n := 63) (k := 15) (L := J.tl) (G := J.F_law) rfl (by decide) (by kernel_rfl) (by kernel_rfl) ⟨rfl, by decide, by decide⟩ (by decide +kernel) (by decide +kernel) (fun K c => c.c.def_ 23 (d := J.d_law) rfl) (fun b _ T fd F => J.ok_law T fd F) ⟨79, rfl⟩ J.law_true
