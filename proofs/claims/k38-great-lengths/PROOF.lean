import PyProof.Rows.All
import Wide.All
import OpenK.AllK
import Wide.FinOn
import KE.KStateDown
import HandS.ForMost
import HandS.ForExc
import HandS.HotCalls
import HandS.Lambda
import KE.KNestM
import HandS.CallSlots
import HandS.HeadHook2
import PyProof.ReprRoads
import HandS.TupAny
import HandS.IsInst
import HandS.Property
import HandS.RaiseMore
import HandS.Style
import HandS.NoneIn
import HandS.FStr
import HandS.Star
import HandS.DictComp
import HandS.MakeKw
import HandS.HeadEnd
import KE.KExcSuper
import KE.KExcInit
import HandS.Head0
import HandS.Head1
import HandS.Head2
import HandS.ClsMeth
import KE.GoesEnum
import HandS.Iter
import HandS.Conv
import HandS.SortInts
import KE.KCallOwn
import HandS.ExcInit
import HandS.ExcOwn
import HandS.TryMany
import HandS.ExcField
import HandS.ExcIs
import KE.KExcIs
import OpenK.KOps
import HandS.Records
import HandS.SetFor
import HandS.Strs
import HandS.Text
import HandS.Deep
import HandS.SetBool
import KE.KIndexOf
import HandS.TupMul
import PyProof.EqKinds
import PyProof.FactsAll.dict
import HandS.List
import PyProof.TupleOfStr
import PyProof.StrBlock2
import PyProof.Rows.StrMul
import PyProof.ReprNest
import HandS.HeadHook3
import KE.KEqDeep
import HandS.Codes
import PySem.Challenge.RW_joinrounds_k38_whole_great_lengths
set_option Elab.async false
set_option linter.all false
set_option maxRecDepth 100000
/-! # DS: a data semantics over the hand layer. D: plain trees; Mu: the few objects that change; a def is a plain function. -/
namespace DS
open PySem PySem.Spec PyProof.Rows L2

/-- the exception that a suite handles: its place, its dict, its class -/
structure Hx where
  x : Addr
  dd : Option Addr
  c : Str
deriving DecidableEq
inductive D where
  | non | bl (b : Bool) | int (i : Int) | str (x : Str)
  | tup (xs : List D) | lst (xs : List D) | fix (xs : List D)
  | obj (c : Str) (fs : List (Str × D))
  | dct (kvs : List (Str × D))
  | loc (n : Nat) | glo (x : Str) | ty (n : String)
  | exn (k : Hx) (fs : List (Str × D))
  | nst (xs : List Str) | odc

inductive Cell where
  | lst (xs : List D) | ins (c : Str) (fs : List (Str × D)) | dct (fs : List (Str × D)) | dead | tab (q : Str) | opn (xs : List D) (h : D) (ls : List D) | dtt (kvs : List (List Key × D))
abbrev Mu := List Cell
abbrev Rho := List (Option D)

inductive Out (α : Type) where
  | ok (a : α) (m : Mu) | exc (c : Str) (fs : List (Str × D)) (m : Mu) | stuck
def Out.bind {α β : Type} : Out α → (α → Mu → Out β) → Out β
  | .ok a m, k => k a m
  | .exc c fs m, _ => .exc c fs m
  | .stuck, _ => .stuck

/-! ### locations below a bound -/
mutual
def D.inB (n : Nat) : D → Bool
  | .loc m => decide (m < n)
  | .tup xs => D.inL n xs
  | .lst xs => D.inL n xs
  | .fix xs => D.inL n xs
  | .obj _ fs => D.inF n fs
  | .dct fs => D.inF n fs
  | .exn _ fs => D.inF n fs
  | _ => true
def D.inL (n : Nat) : List D → Bool
  | [] => true
  | x :: r => D.inB n x && D.inL n r
def D.inF (n : Nat) : List (Str × D) → Bool
  | [] => true
  | (_, x) :: r => D.inB n x && D.inF n r
end
def Cell.inB (n : Nat) : Cell → Bool
  | .lst xs => D.inL n xs
  | .ins _ fs => D.inF n fs
  | .dct fs => D.inF n fs
  | .dead => true
  | .tab _ => true
  | .opn xs h ls => D.inL n xs && (D.inB n h && D.inL n ls)
  | .dtt kvs => D.inL n (kvs.map (·.2))

/-! ### which value stands for which tree -/
mutual
inductive Rp (K : PySem.W.Frag) (F : Hp) (al : List Addr) : D → V → Prop
  | non : Rp K F al .non .non
  | bl (b : Bool) : Rp K F al (.bl b) (.bl b)
  | int (i : Int) : Rp K F al (.int i) (.int i)
  | str (x : Str) : Rp K F al (.str x) (.str x)
  | tup {a : Addr} {vs : List V} {ds : List D} : SqT K F a vs → RpL K F al ds vs → Rp K F al (.tup ds) (.ref a)
  | lst {a : Addr} {vs : List V} {ds : List D} : F a = some (.lst vs) → RpL K F al ds vs → Rp K F al (.lst ds) (.ref a)
  | fix {a : Addr} {vs : List V} {ds : List D} : SqL K F a vs → RpL K F al ds vs → Rp K F al (.fix ds) (.ref a)
  | obj {a dx : Addr} {c : Str} {fs : List (Str × V)} {gs : List (Str × D)} : F a = some (.ins (He.ga K c) dx fs) → RpF K F al gs fs → Rp K F al (.obj c gs) (.ref a)
  | dct {a : Addr} {fs : List (Str × V)} {gs : List (Str × D)} : F a = some (.dK (fs.map fun p => (Sum.inr p.1, p.2))) → RpF K F al gs fs → Rp K F al (.dct gs) (.ref a)
  | loc {n : Nat} {a : Addr} : al[n]? = some a → Rp K F al (.loc n) (.ref a)
  | glo (x : Str) : Rp K F al (.glo x) (.ref (He.ga K x))
  | ty (n : String) : Rp K F al (.ty n) (.ty n)
  | exn {k : Hx} {fs : List (Str × V)} {gs : List (Str × D)} : (fs = [] ∧ k.dd = none ∨ ∃ y, k.dd = some y ∧ F y = some (.xd fs)) → RpF K F al gs fs → Rp K F al (.exn k gs) (.ref k.x)
  | nst {a : Addr} {o : Obj} {xs : List Str} : F a = some (.frz o (.tup (xs.map V.str))) → o.dict = none → Rp K F al (.nst xs) (.ref a)
  | odc {a : Addr} {kvs : List (Key × V)} : F a = some (.dK kvs) → Rp K F al .odc (.ref a)
inductive RpL (K : PySem.W.Frag) (F : Hp) (al : List Addr) : List D → List V → Prop
  | nil : RpL K F al [] []
  | cons {d : D} {v : V} {ds : List D} {vs : List V} : Rp K F al d v → RpL K F al ds vs → RpL K F al (d :: ds) (v :: vs)
inductive RpF (K : PySem.W.Frag) (F : Hp) (al : List Addr) : List (Str × D) → List (Str × V) → Prop
  | nil : RpF K F al [] []
  | cons {x : Str} {d : D} {v : V} {ds : List (Str × D)} {vs : List (Str × V)} : Rp K F al d v → RpF K F al ds vs → RpF K F al ((x, d) :: ds) ((x, v) :: vs)
end

/-- more is known -/
structure Le (F : Hp) (al : List Addr) (F' : Hp) (al' : List Addr) : Prop where
  f : ∀ (a : Addr) (o : HO), F a = some o → F' a = some o
  a : ∀ (n : Nat) (a : Addr), al[n]? = some a → al'[n]? = some a
theorem Le.refl {F : Hp} {al : List Addr} : Le F al F al := ⟨fun _ _ h => h, fun _ _ h => h⟩
theorem Le.trans {F F1 F2 : Hp} {al al1 al2 : List Addr} (a : Le F al F1 al1) (b : Le F1 al1 F2 al2) : Le F al F2 al2 :=
  ⟨fun x o h => b.f x o (a.f x o h), fun n x h => b.a n x (a.a n x h)⟩
theorem rd_up {F F' : Hp} (h : ∀ a o, F a = some o → F' a = some o) {a : Addr} {u : HO} (r : Rd F a u) : Rd F' a u := by
  rcases r with r | ⟨o, r⟩
  · exact .inl (h _ _ r)
  · exact .inr ⟨o, h _ _ r⟩
theorem sqt_up {K : PySem.W.Frag} {F F' : Hp} (h : ∀ a o, F a = some o → F' a = some o) {a : Addr} {xs : List V} (r : SqT K F a xs) : SqT K F' a xs := by
  rcases r with r | r
  · exact .inl (rd_up h r)
  · exact .inr r
theorem sql_up {K : PySem.W.Frag} {F F' : Hp} (h : ∀ a o, F a = some o → F' a = some o) {a : Addr} {xs : List V} (r : SqL K F a xs) : SqL K F' a xs := by
  rcases r with r | r
  · exact .inl (rd_up h r)
  · exact .inr r
section
variable {K : PySem.W.Frag} {F F' : Hp} {al al' : List Addr}
mutual
theorem Rp.up (e : Le F al F' al') : ∀ {d : D} {v : V}, Rp K F al d v → Rp K F' al' d v
  | _, _, .non => .non
  | _, _, .bl b => .bl b
  | _, _, .int i => .int i
  | _, _, .str x => .str x
  | _, _, .tup s r => .tup (sqt_up e.f s) (RpL.up e r)
  | _, _, .lst s r => .lst (e.f _ _ s) (RpL.up e r)
  | _, _, .fix s r => .fix (sql_up e.f s) (RpL.up e r)
  | _, _, .obj s r => .obj (e.f _ _ s) (RpF.up e r)
  | _, _, .dct s r => .dct (e.f _ _ s) (RpF.up e r)
  | _, _, .loc s => .loc (e.a _ _ s)
  | _, _, .glo x => .glo x
  | _, _, .ty n => .ty n
  | _, _, .exn s r => .exn (s.imp id fun ⟨y, a, b⟩ => ⟨y, a, e.f _ _ b⟩) (RpF.up e r)
  | _, _, .nst s h => .nst (e.f _ _ s) h
  | _, _, .odc s => .odc (e.f _ _ s)
theorem RpL.up (e : Le F al F' al') : ∀ {d : List D} {v : List V}, RpL K F al d v → RpL K F' al' d v
  | _, _, .nil => .nil
  | _, _, .cons r q => .cons (Rp.up e r) (RpL.up e q)
theorem RpF.up (e : Le F al F' al') : ∀ {d : List (Str × D)} {v : List (Str × V)}, RpF K F al d v → RpF K F' al' d v
  | _, _, .nil => .nil
  | _, _, .cons r q => .cons (Rp.up e r) (RpF.up e q)
end
mutual
theorem Rp.cut {n : Nat} : ∀ {d : D} {v : V}, Rp K F al d v → d.inB n = true → Rp K F (al.take n) d v
  | _, _, .non, _ => .non
  | _, _, .bl b, _ => .bl b
  | _, _, .int i, _ => .int i
  | _, _, .str x, _ => .str x
  | _, _, .tup s r, h => .tup s (RpL.cut r (by rw [D.inB] at h; exact h))
  | _, _, .lst s r, h => .lst s (RpL.cut r (by rw [D.inB] at h; exact h))
  | _, _, .fix s r, h => .fix s (RpL.cut r (by rw [D.inB] at h; exact h))
  | _, _, .obj s r, h => .obj s (RpF.cut r (by rw [D.inB] at h; exact h))
  | _, _, .dct s r, h => .dct s (RpF.cut r (by rw [D.inB] at h; exact h))
  | _, _, .loc s, h => .loc (by
      rw [D.inB] at h
      rw [List.getElem?_take_of_lt (of_decide_eq_true h)]
      exact s)
  | _, _, .glo x, _ => .glo x
  | _, _, .ty n, _ => .ty n
  | _, _, .exn s r, h => .exn s (RpF.cut r (by rw [D.inB] at h; exact h))
  | _, _, .nst s h, _ => .nst s h
  | _, _, .odc s, _ => .odc s
theorem RpL.cut {n : Nat} : ∀ {d : List D} {v : List V}, RpL K F al d v → D.inL n d = true → RpL K F (al.take n) d v
  | _, _, .nil, _ => .nil
  | _, _, .cons r q, h => by
    rw [D.inL, Bool.and_eq_true] at h
    exact .cons (Rp.cut r h.1) (RpL.cut q h.2)
theorem RpF.cut {n : Nat} : ∀ {d : List (Str × D)} {v : List (Str × V)}, RpF K F al d v → D.inF n d = true → RpF K F (al.take n) d v
  | _, _, .nil, _ => .nil
  | _, _, .cons r q, h => by
    rw [D.inF, Bool.and_eq_true] at h
    exact .cons (Rp.cut r h.1) (RpF.cut q h.2)
end
theorem RpL.len : ∀ {d : List D} {v : List V}, RpL K F al d v → d.length = v.length
  | _, _, .nil => rfl
  | _, _, .cons _ q => by rw [List.length_cons, List.length_cons, RpL.len q]
theorem RpL.get : ∀ {ds : List D} {vs : List V} {i : Nat} {d : D}, RpL K F al ds vs → ds[i]? = some d → ∃ v, vs[i]? = some v ∧ Rp K F al d v
  | _, _, 0, _, .cons r _, e => by
    cases e
    exact ⟨_, rfl, r⟩
  | _, _, i + 1, d, .cons _ q, e => by
    obtain ⟨v, h1, h2⟩ := RpL.get (i := i) (d := d) q (by simpa using e)
    exact ⟨v, by simpa using h1, h2⟩
theorem RpL.append : ∀ {ds es : List D} {vs ws : List V}, RpL K F al ds vs → RpL K F al es ws → RpL K F al (ds ++ es) (vs ++ ws)
  | _, _, _, _, .nil, s => s
  | _, _, _, _, .cons r t, s => .cons r (RpL.append t s)
theorem RpL.set {d : D} {v : V} (r : Rp K F al d v) : ∀ {ds : List D} {vs : List V} (i : Nat), RpL K F al ds vs → RpL K F al (ds.set i d) (vs.set i v)
  | _, _, _, .nil => .nil
  | _, _, 0, .cons _ t => .cons r t
  | _, _, i + 1, .cons q t => .cons q (RpL.set r i t)
theorem RpL.take : ∀ {ds : List D} {vs : List V} (n : Nat), RpL K F al ds vs → RpL K F al (ds.take n) (vs.take n)
  | _, _, 0, _ => .nil
  | _, _, _ + 1, .nil => .nil
  | _, _, n + 1, .cons r t => .cons r (RpL.take n t)
theorem RpL.drop : ∀ {ds : List D} {vs : List V} (n : Nat), RpL K F al ds vs → RpL K F al (ds.drop n) (vs.drop n)
  | _, _, 0, r => r
  | _, _, _ + 1, .nil => .nil
  | _, _, n + 1, .cons _ t => RpL.drop n t
theorem RpL.snoc {ds : List D} {vs : List V} {d : D} {v : V} (a : RpL K F al ds vs) (b : Rp K F al d v) : RpL K F al (ds ++ [d]) (vs ++ [v]) := a.append (.cons b .nil)
theorem RpF.look {x : Str} : ∀ {ds : List (Str × D)} {vs : List (Str × V)}, RpF K F al ds vs →
    (ds.lookup x = none → vs.lookup x = none) ∧ ∀ d, ds.lookup x = some d → ∃ v, vs.lookup x = some v ∧ Rp K F al d v
  | _, _, .nil => ⟨fun _ => rfl, (fun _ h => nomatch h)⟩
  | _, _, .cons (x := y) r q => by
    have ih := RpF.look (x := x) q
    simp only [List.lookup_cons]
    cases h : (x == y) with
    | true => exact ⟨(fun z => nomatch z), fun d e => ⟨_, rfl, by cases e; exact r⟩⟩
    | false => exact ih
theorem RpF.len : ∀ {d : List (Str × D)} {v : List (Str × V)}, RpF K F al d v → d.length = v.length
  | _, _, .nil => rfl
  | _, _, .cons _ q => by rw [List.length_cons, List.length_cons, RpF.len q]
end
end DS

namespace DS
open PySem PySem.Spec PyProof.Rows L2

/-- the code object of the def x, and its table -/
def tabP (K : PySem.W.Frag) (x : Str) : Addr := match PySem.W.tabIn K x with
  | some (_, P) => P
  | none => 0
def tabC (K : PySem.W.Frag) (x : Str) : Addr := match PySem.W.tabIn K x with
  | some (c, _) => c
  | none => 0
def lamQ (x : Str) : Str := x ++ ".<locals>." ++ "<lambda>"
/-! ### the store -/
def CellOk (K : PySem.W.Frag) (F : Hp) (al : List Addr) (H : Hp) (a : Addr) : Cell → Prop
  | .lst ds => F a = none ∧ ∃ vs, H a = some (.lst vs) ∧ RpL K F al ds vs
  | .ins c gs => F a = none ∧ ∃ dx fs, H a = some (.ins (He.ga K c) dx fs) ∧ RpF K F al gs fs
  | .dct gs => F a = none ∧ ∃ fs, H a = some (.dK (fs.map fun p => (Sum.inr p.1, p.2))) ∧ RpF K F al gs fs
  | .dead => ∃ o, F a = some o
  | .tab x => (F a = none ∧ a = tabP K x) ∧ ∃ ps : Array Value, H a = some (.tbl ps) ∧ TriplesOk ps.toList ∧ ∀ (pos : Pos) (cv : Value), codeAmong pos ps.toList = some cv → ∃ c, cv = .ref c ∧ F c = some (LamX.CodeO c (lamQ x))
  | .opn xs h ls => F a = none ∧ ∃ (vs : List V) (p q : Addr) (hv : V) (ws : List V), H a = some (.lst (vs ++ [.ref p])) ∧ RpL K F al xs vs ∧ F p = some (.lst [hv, .ref q]) ∧ Rp K F al h hv ∧ (F q = none ∧ q ∉ al) ∧ H q = some (.lst ws) ∧ RpL K F al ls ws
  | .dtt gs => F a = none ∧ ∃ ks : List (List Key × V), H a = some (.dT ks) ∧ ks.map (·.1) = gs.map (·.1) ∧ RpL K F al (gs.map (·.2)) (ks.map (·.2))
structure Wd (K : PySem.W.Frag) (F : Hp) (al : List Addr) (m : Mu) (H : Hp) : Prop where
  sub : ∀ (a : Addr) (o : HO), F a = some o → H a = some o
  len : al.length = m.length
  nd : al.Nodup
  cell : ∀ (n : Nat) (a : Addr) (c : Cell), al[n]? = some a → m[n]? = some c → CellOk K F al H a c
  gen : ∀ (n : Nat) (c : Cell), m[n]? = some c → c.inB n = true
  tr : ∀ a ∈ al, H a ≠ none
  nt : ∀ (a : Addr) (ps : Array Value), F a ≠ some (.tbl ps)

/-- what is wanted behind a piece of code, by its outcome -/
def Post {δ ν : Type} (K : PySem.W.Frag) (R : Hp → List Addr → δ → ν → Prop) (W : XK) (F : Hp) (al : List Addr) (Q : ν → Hp → Prop) : Out δ → Prop
  | .ok d m => ∀ v H' F' al', Le F al F' al' → Wd K F' al' m H' → R F' al' d v → Q v H'
  | .exc c fs m => ∀ dd H' F' al' gs, Le F al F' al' → Wd K F' al' m H' → RpF K F' al' fs gs → (gs = [] ∧ dd = none ∨ ∃ x, dd = some x ∧ F' x = some (.xd gs)) → W (.ref (He.ga K c)) dd H'
  | .stuck => False
/-- one step more -/
theorem Post.step {δ ν δ' ν' : Type} {K : PySem.W.Frag} {R : Hp → List Addr → δ → ν → Prop} {R' : Hp → List Addr → δ' → ν' → Prop} {W : XK} {F : Hp} {al : List Addr} {Q : ν → Hp → Prop} {Q' : ν' → Hp → Prop} {o : Out δ} {k : δ → Mu → Out δ'}
    (h : Post K R' W F al Q' (o.bind k))
    (hk : ∀ d m v H1 F1 al1, Le F al F1 al1 → Wd K F1 al1 m H1 → R F1 al1 d v → Post K R' W F1 al1 Q' (k d m) → Q v H1) : Post K R W F al Q o := by
  have up : ∀ {F1 al1} {o : Out δ'}, Le F al F1 al1 → Post K R' W F al Q' o → Post K R' W F1 al1 Q' o := fun {F1 al1 o} e p => by
    cases o with
    | ok d m => exact fun v H' F' al' e' => p v H' F' al' (e.trans e')
    | exc c fs m => exact fun dd H' F' al' gs e' => p dd H' F' al' gs (e.trans e')
    | stuck => exact p
  cases o with
  | ok d m => exact fun v H' F' al' e w r => hk d m v H' F' al' e w r (up e h)
  | exc c fs m => exact h
  | stuck => exact h
theorem Post.up {δ ν : Type} {K : PySem.W.Frag} {R : Hp → List Addr → δ → ν → Prop} {W : XK} {F F1 : Hp} {al al1 : List Addr} {Q : ν → Hp → Prop} {o : Out δ} (e : Le F al F1 al1) (p : Post K R W F al Q o) : Post K R W F1 al1 Q o := by
  cases o with
  | ok d m => exact fun v H' F' al' e' => p v H' F' al' (e.trans e')
  | exc c fs m => exact fun dd H' F' al' gs e' => p dd H' F' al' gs (e.trans e')
  | stuck => exact p
theorem Post.imp {δ ν : Type} {K : PySem.W.Frag} {R : Hp → List Addr → δ → ν → Prop} {W W' : XK} {F : Hp} {al : List Addr} {Q Q' : ν → Hp → Prop} {o : Out δ} (p : Post K R W F al Q o) (hQ : ∀ v H, Q v H → Q' v H) (hW : ∀ c d H, W c d H → W' c d H) : Post K R W' F al Q' o := by
  cases o with
  | ok d m => exact fun v H' F' al' a b c => hQ _ _ (p v H' F' al' a b c)
  | exc c fs m => exact fun dd H' F' al' gs a b c d => hW _ _ _ (p dd H' F' al' gs a b c d)
  | stuck => exact p

/-- names' values -/
structure EnvOk (K : PySem.W.Frag) (F : Hp) (al : List Addr) (r : Rho) (σ : L2.St) : Prop where
  len : r.length = σ.length
  get : ∀ (i : Nat) (d : D), r[i]? = some (some d) → ∃ v, σ[i]? = some (some v) ∧ Rp K F al d v
theorem EnvOk.up {K : PySem.W.Frag} {F F' : Hp} {al al' : List Addr} {r : Rho} {σ : L2.St} (e : Le F al F' al') (h : EnvOk K F al r σ) : EnvOk K F' al' r σ :=
  ⟨h.len, fun i d q => let ⟨v, a, b⟩ := h.get i d q; ⟨v, a, b.up e⟩⟩
theorem EnvOk.set {K : PySem.W.Frag} {F : Hp} {al : List Addr} {r : Rho} {σ : L2.St} {d : D} {v : V} (h : EnvOk K F al r σ) (i : Nat) (q : Rp K F al d v) : EnvOk K F al (r.set i (some d)) (σ.set i (some v)) := by
  refine ⟨by rw [List.length_set, List.length_set]; exact h.len, fun j e hj => ?_⟩
  by_cases hij : j = i
  · subst hij
    have hl : j < r.length := by
      have := (List.getElem?_eq_some_iff.mp hj).1
      rw [List.length_set] at this
      exact this
    rw [List.getElem?_set_self hl] at hj
    cases hj
    exact ⟨v, List.getElem?_set_self (by rw [← h.len]; exact hl), q⟩
  · rw [List.getElem?_set_ne (Ne.symm hij)] at hj
    obtain ⟨w, a, b⟩ := h.get j e hj
    exact ⟨w, by rw [List.getElem?_set_ne (Ne.symm hij)]; exact a, b⟩

/-! ### contexts by their static part -/
structure SC where
  P : Program
  w : World
  K : PySem.W.Frag
  mg : Str → Option Value
  base : Heap
  N : List Str
  sc : Scope
  k : Nat
  fnB : Str → Bool
  gd : Bool
  calm : Bool := true
  hx : Option (Hx × Obj) := none
  df : Bool := true
  me : Option Str := none
  j : Nat := 0
/-- room for j frames, one by one -/
structure RoomJ (j : Nat) (A : Around) : Prop where
  dp : A.depth + j + 5 < recursionLimit
  un : A.units + 6 * j + 200 < cLine
structure Dyn where
  A : Around
  s_0 : Shared
  H_0 : Hp
  env : Env
  outer : List Env
  stack : List Env
  ex : List Addr
  fn : Str → Bool
  pn : List (Addr × Obj)
  xe : Value → Shared → Prop
def SC.cx (c : SC) (y : Dyn) : Cx where
  prog := c.P
  w := c.w
  K := c.K
  mg := c.mg
  base := c.base
  A := y.A
  N := c.N
  s_0 := y.s_0
  H_0 := y.H_0
  env := y.env
  outer := y.outer
  stack := y.stack
  ex := y.ex
  fn := y.fn
  calm := c.calm
  pn := y.pn
  xe := y.xe
structure OkD (c : SC) (W : WX) (y : Dyn) : Prop where
  scope : y.env.scope = c.sc
  room : L2H.RoomH c.k y.A
  hd : c.calm = true → y.A.handled = none
  takes : Takes (c.cx y) W
  fn : ∀ x, c.fnB x = true → y.fn x = true
  gd : c.gd = true → y.A.guards = some []
  own : PassesOwn (model c.P c.w) y.A y.env y.xe
  pin : ∀ k ob, c.hx = some (k, ob) → (k.x, ob) ∈ y.pn ∧ ob.cls = .ref (He.ga c.K k.c) ∧ ob.dict = k.dd ∧ ∃ vs, ob.data = .fields vs
  df : c.df = true → y.stack = y.env :: y.outer ∧ y.env.frame = some y.env.locals ∧ y.ex = []
  me : ∀ x, c.me = some x → y.env.code = .ref (tabC c.K x) ∧ y.env.qual = x ++ ".<locals>."
  rj : 0 < c.j → RoomJ c.j y.A
theorem OkD.rm {c : SC} {W : WX} {y : Dyn} (hy : OkD c W y) (hc : c.calm = true) {k : Nat} (hk : k ≤ c.k) : Room k y.A :=
  ⟨hy.hd hc, by have := hy.room.dp; omega, by have := hy.room.un; omega⟩
theorem OkD.un64 {c : SC} {W : WX} {y : Dyn} (hy : OkD c W y) : y.A.units + 64 < cLine := by have := hy.room.un; omega
abbrev atS (W : WX) (σ : L2.St) : XK := fun c d H => W c d σ H

abbrev XE' := Rho → Mu → Out D
abbrev XT := Rho → Mu → Out Bool
abbrev XA := Rho → Mu → Out (List D)
abbrev RD (K : PySem.W.Frag) : Hp → List Addr → D → V → Prop := fun F al d v => Rp K F al d v
abbrev RL (K : PySem.W.Frag) : Hp → List Addr → List D → List V → Prop := fun F al d v => RpL K F al d v
abbrev RB : Hp → List Addr → Bool → Bool → Prop := fun _ _ a b => a = b

/-- an expression, a test, an argument list -/
def DE (c : SC) (W : WX) (e : Expr) (f : XE') : Prop := ∃ t : TE, (∀ y, OkD c W y → PE (c.cx y) e t) ∧
  ∀ r m σ H F al Q, EnvOk c.K F al r σ → Wd c.K F al m H → Post c.K (RD c.K) (atS W σ) F al Q (f r m) → t σ H Q
def DT (c : SC) (W : WX) (e : Expr) (f : XT) : Prop := ∃ t : TT, (∀ y, OkD c W y → PT (c.cx y) e t) ∧
  ∀ r m σ H F al Q, EnvOk c.K F al r σ → Wd c.K F al m H → Post c.K RB (atS W σ) F al Q (f r m) → t σ H Q
def DW (c : SC) (W : WX) (e : Expr) (f : XT) : Prop := ∃ t : TT, (∀ y, OkD c W y → PW (c.cx y) e t) ∧
  ∀ r m σ H F al Q, EnvOk c.K F al r σ → Wd c.K F al m H → Post c.K RB (atS W σ) F al Q (f r m) → t σ H Q
def DA (c : SC) (W : WX) (es : List Expr) (f : XA) : Prop := (∃ t : TA, (∀ y, OkD c W y → PA (c.cx y) es t) ∧
  ∀ r m σ H F al Q, EnvOk c.K F al r σ → Wd c.K F al m H → Post c.K (RL c.K) (atS W σ) F al Q (f r m) → t σ H Q) ∧ ∀ r m ds m', f r m = .ok ds m' → ds.length = es.length

/-! ### statements -/
inductive SO where
  | next (r : Rho) (m : Mu) | ret (d : D) (m : Mu) | brk (r : Rho) (m : Mu) | cont (r : Rho) (m : Mu) | exc (c : Str) (fs : List (Str × D)) (r : Rho) (m : Mu) | stuck
abbrev XS := Rho → Mu → SO
def PostS (K : PySem.W.Frag) (W : WX) (F : Hp) (al : List Addr) (E : Ends) : SO → Prop
  | .next r m => ∀ σ' H' F' al', Le F al F' al' → Wd K F' al' m H' → EnvOk K F' al' r σ' → E.nx σ' H'
  | .brk r m => ∀ σ' H' F' al', Le F al F' al' → Wd K F' al' m H' → EnvOk K F' al' r σ' → E.bk σ' H'
  | .cont r m => ∀ σ' H' F' al', Le F al F' al' → Wd K F' al' m H' → EnvOk K F' al' r σ' → E.ct σ' H'
  | .ret d m => ∀ v H' F' al', Le F al F' al' → Wd K F' al' m H' → Rp K F' al' d v → E.rt v H'
  | .exc c fs r m => ∀ dd σ' H' F' al' gs, Le F al F' al' → Wd K F' al' m H' → EnvOk K F' al' r σ' → RpF K F' al' fs gs → (gs = [] ∧ dd = none ∨ ∃ x, dd = some x ∧ F' x = some (.xd gs)) → W (.ref (He.ga K c)) dd σ' H'
  | .stuck => False
theorem PostS.up {K : PySem.W.Frag} {W : WX} {F F1 : Hp} {al al1 : List Addr} {E : Ends} {o : SO} (e : Le F al F1 al1) (p : PostS K W F al E o) : PostS K W F1 al1 E o := by
  cases o with
  | next r m => exact fun σ' H' F' al' e' => p σ' H' F' al' (e.trans e')
  | brk r m => exact fun σ' H' F' al' e' => p σ' H' F' al' (e.trans e')
  | cont r m => exact fun σ' H' F' al' e' => p σ' H' F' al' (e.trans e')
  | ret d m => exact fun v H' F' al' e' => p v H' F' al' (e.trans e')
  | exc c fs r m => exact fun dd σ' H' F' al' gs e' => p dd σ' H' F' al' gs (e.trans e')
  | stuck => exact p
def DSt (c : SC) (W : WX) (st : Stmt) (f : XS) : Prop := ∃ t : TS, (∀ y, OkD c W y → PS (c.cx y) st t) ∧
  ∀ r m σ H F al E, EnvOk c.K F al r σ → Wd c.K F al m H → PostS c.K W F al E (f r m) → t E σ H
def DSs (c : SC) (W : WX) (st : List Stmt) (f : XS) : Prop := ∃ t : TS, (∀ y, OkD c W y → PSs (c.cx y) st t) ∧
  ∀ r m σ H F al E, EnvOk c.K F al r σ → Wd c.K F al m H → PostS c.K W F al E (f r m) → t E σ H
/-- an expression's outcome, then a statement -/
def Out.stm {α : Type} (r : Rho) : Out α → (α → Mu → SO) → SO
  | .ok a m, k => k a m
  | .exc c fs m, _ => .exc c fs r m
  | .stuck, _ => .stuck
theorem PostS.step {δ ν : Type} {K : PySem.W.Frag} {R : Hp → List Addr → δ → ν → Prop} {W : WX} {F : Hp} {al : List Addr} {E : Ends} {Q : ν → Hp → Prop} {o : Out δ} {k : δ → Mu → SO} {r : Rho} {σ : L2.St}
    (he : EnvOk K F al r σ) (h : PostS K W F al E (o.stm r k))
    (hk : ∀ d m v H1 F1 al1, Le F al F1 al1 → Wd K F1 al1 m H1 → R F1 al1 d v → PostS K W F1 al1 E (k d m) → Q v H1) : Post K R (atS W σ) F al Q o := by
  cases o with
  | ok d m => exact fun v H' F' al' e w q => hk d m v H' F' al' e w q (h.up e)
  | exc c fs m => exact fun dd H' F' al' gs e w q z => h dd σ H' F' al' gs e w (he.up e) q z
  | stuck => exact h
end DS

namespace DS
open PySem PySem.Spec PyProof.Rows L2

/-! ### the store's laws -/
section
variable {K : PySem.W.Frag} {F : Hp} {al : List Addr} {m : Mu} {H : Hp}
theorem ext_new {p : Addr} {o : HO} (h : F p = none) : Le F al (upd F p o) al :=
  ⟨fun a u e => by rw [upd_ne (ne_of_none e h)]; exact e, fun _ _ e => e⟩
theorem nt_upd {F : Hp} {p : Addr} {o : HO} (h : ∀ a ps, F a ≠ some (.tbl ps)) (ho : ∀ ps, o ≠ .tbl ps) (a : Addr) (ps : Array Value) : upd F p o a ≠ some (.tbl ps) := by
  by_cases e : a = p
  · rw [e, upd_same]
    exact fun z => ho ps (Option.some.inj z)
  · rw [upd_ne e]
    exact h a ps
theorem Wd.fnone (w : Wd K F al m H) {p : Addr} (h : H p = none) : F p = none := by
  cases q : F p with
  | none => rfl
  | some o => rw [w.sub p o q] at h; cases h
theorem CellOk.upTo {F' H' : Hp} {al' : List Addr} {a : Addr} {c : Cell} (e : Le F al F' al') (hF : F a = none → F' a = none) (hH : H a ≠ none → H' a = H a) (hq : ∀ q, q ∉ al → F q = none → H q ≠ none → F' q = none ∧ H' q = H q ∧ q ∉ al') (h : CellOk K F al H a c) : CellOk K F' al' H' a c := by
  cases c with
  | lst ds =>
    obtain ⟨z, vs, h1, h2⟩ := h
    exact ⟨hF z, vs, by rw [hH (by rw [h1]; simp)]; exact h1, h2.up e⟩
  | ins c gs =>
    obtain ⟨z, dx, fs, h1, h2⟩ := h
    exact ⟨hF z, dx, fs, by rw [hH (by rw [h1]; simp)]; exact h1, h2.up e⟩
  | dct gs =>
    obtain ⟨z, fs, h1, h2⟩ := h
    exact ⟨hF z, fs, by rw [hH (by rw [h1]; simp)]; exact h1, h2.up e⟩
  | dead => exact let ⟨o, z⟩ := h; ⟨o, e.f _ _ z⟩
  | dtt gs =>
    obtain ⟨z, ks, h1, hk, h2⟩ := h
    exact ⟨hF z, ks, by rw [hH (by rw [h1]; simp)]; exact h1, hk, h2.up e⟩
  | opn xs h0 ls =>
    obtain ⟨z, vs, p, q, hv, ws, h1, h2, h3, h4, h5, h6, h7⟩ := h
    obtain ⟨q1, q2, q3⟩ := hq q h5.2 h5.1 (by rw [h6]; simp)
    exact ⟨hF z, vs, p, q, hv, ws, by rw [hH (by rw [h1]; simp)]; exact h1, h2.up e, e.f _ _ h3, h4.up e, ⟨q1, q3⟩, by rw [q2]; exact h6, h7.up e⟩
  | tab q =>
    obtain ⟨z, ps, h1, h2, h3⟩ := h
    exact ⟨⟨hF z.1, z.2⟩, ps, by rw [hH (by rw [h1]; simp)]; exact h1, h2, fun pos cv hc => let ⟨c, e1, e2⟩ := h3 pos cv hc; ⟨c, e1, e.f _ _ e2⟩⟩
/-- a new object that stays as it is -/
theorem Wd.new {p : Addr} {o : HO} (w : Wd K F al m H) (h : H p = none) (ho : ∀ ps, o ≠ .tbl ps := by intro ps h; cases h) : Wd K (upd F p o) al m (upd H p o) := by
  have hf := w.fnone h
  have ne : ∀ a, H a ≠ none → a ≠ p := fun a ha e => ha (by rw [e]; exact h)
  refine ⟨fun a u e => ?_, w.len, w.nd, fun n a c h1 h2 => ?_, w.gen, fun a ha => ?_, nt_upd w.nt ho⟩
  · by_cases ha : a = p
    · subst ha; rw [upd_same] at e; rw [upd_same]; exact e
    · rw [upd_ne ha] at e; rw [upd_ne ha]; exact w.sub a u e
  · have hne := ne a (w.tr a (List.mem_of_getElem? h1))
    exact (w.cell n a c h1 h2).upTo (ext_new hf) (fun z => by rw [upd_ne hne]; exact z) (fun _ => upd_ne hne) fun q q1 q2 q3 => ⟨by rw [upd_ne (ne q q3)]; exact q2, upd_ne (ne q q3), q1⟩
  · rw [upd_ne (ne a (w.tr a ha))]; exact w.tr a ha
/-- something new that nobody looks at -/
theorem Wd.junk {p : Addr} {o : HO} (w : Wd K F al m H) (h : H p = none) : Wd K F al m (upd H p o) := by
  have ne : ∀ a, H a ≠ none → a ≠ p := fun a ha e => ha (by rw [e]; exact h)
  refine ⟨fun a u e => ?_, w.len, w.nd, fun n a c h1 h2 => ?_, w.gen, fun a ha => ?_, w.nt⟩
  · have := w.sub a u e
    rw [upd_ne (ne a (by rw [this]; simp))]; exact this
  · have hne := ne a (w.tr a (List.mem_of_getElem? h1))
    exact (w.cell n a c h1 h2).upTo Le.refl (fun z => z) (fun _ => upd_ne hne) fun q q1 q2 q3 => ⟨q2, upd_ne (ne q q3), q1⟩
  · rw [upd_ne (ne a (w.tr a ha))]; exact w.tr a ha
theorem Le.snoc {p : Addr} : Le F al F (al ++ [p]) :=
  ⟨fun _ _ e => e, fun n a e => by
    rw [List.getElem?_append_left (List.getElem?_eq_some_iff.mp e).1]; exact e⟩
/-- a new object that will change -/
theorem Wd.newCell {p : Addr} {o : HO} {c : Cell} (w : Wd K F al m H) (h : H p = none) (hc : CellOk K F (al ++ [p]) (upd H p o) p c) (hg : c.inB m.length = true) : Wd K F (al ++ [p]) (m ++ [c]) (upd H p o) := by
  have ne : ∀ a, H a ≠ none → a ≠ p := fun a ha e => ha (by rw [e]; exact h)
  have hp : p ∉ al := fun z => w.tr p z h
  refine ⟨fun a u e => ?_, by simp [w.len], ?_, fun n a c' h1 h2 => ?_, fun n c' h2 => ?_, fun a ha => ?_, w.nt⟩
  · have := w.sub a u e
    rw [upd_ne (ne a (by rw [this]; simp))]; exact this
  · exact List.nodup_append.mpr ⟨w.nd, by simp, fun a ha b hb => by
      rw [List.mem_singleton] at hb; subst hb; rintro rfl; exact hp ha⟩
  · by_cases hn : n < al.length
    · rw [List.getElem?_append_left hn] at h1
      rw [List.getElem?_append_left (by rw [← w.len]; exact hn)] at h2
      have hne := ne a (w.tr a (List.mem_of_getElem? h1))
      exact (w.cell n a c' h1 h2).upTo Le.snoc (fun z => z) (fun _ => upd_ne hne) fun q q1 q2 q3 => ⟨q2, upd_ne (ne q q3), fun z => (List.mem_append.mp z).elim q1 fun z => ne q q3 (List.mem_singleton.mp z)⟩
    · have hl := (List.getElem?_eq_some_iff.mp h1).1
      rw [List.length_append, List.length_singleton] at hl
      have e : n = al.length := by omega
      subst e
      rw [List.getElem?_append_right (Nat.le_refl _), Nat.sub_self] at h1
      rw [w.len, List.getElem?_append_right (Nat.le_refl _), Nat.sub_self] at h2
      cases h1; cases h2
      exact hc
  · by_cases hn : n < m.length
    · rw [List.getElem?_append_left hn] at h2
      exact w.gen n c' h2
    · have hl := (List.getElem?_eq_some_iff.mp h2).1
      rw [List.length_append, List.length_singleton] at hl
      have e : n = m.length := by omega
      subst e
      rw [List.getElem?_append_right (Nat.le_refl _), Nat.sub_self] at h2
      cases h2
      exact hg
  · by_cases e : a = p
    · subst e; rw [upd_same]; simp
    · rw [upd_ne e]
      rcases List.mem_append.mp ha with z | z
      · exact w.tr a z
      · exact absurd (List.mem_singleton.mp z) e
/-- an object changes -/
theorem Wd.write {n : Nat} {a : Addr} {o : HO} {c : Cell} (w : Wd K F al m H) (h1 : al[n]? = some a) (hf : F a = none) (hc : CellOk K F al (upd H a o) a c) (hg : c.inB n = true) : Wd K F al (m.set n c) (upd H a o) := by
  have inj : ∀ {k b}, al[k]? = some b → k ≠ n → b ≠ a := fun {k b} hb hk e => by
    subst e
    obtain ⟨l1, e1⟩ := List.getElem?_eq_some_iff.mp h1
    obtain ⟨l2, e2⟩ := List.getElem?_eq_some_iff.mp hb
    exact hk ((List.getElem_inj w.nd).mp (e2.trans e1.symm))
  refine ⟨fun b u e => ?_, by rw [List.length_set]; exact w.len, w.nd, fun k b c' h3 h4 => ?_, fun k c' h4 => ?_, fun b hb => ?_, w.nt⟩
  · have hb : b ≠ a := fun z => by rw [z, hf] at e; cases e
    rw [upd_ne hb]; exact w.sub b u e
  · by_cases hk : k = n
    · subst hk
      rw [h1] at h3; cases h3
      rw [List.getElem?_set_self (by rw [← w.len]; exact (List.getElem?_eq_some_iff.mp h1).1)] at h4
      cases h4
      exact hc
    · rw [List.getElem?_set_ne (Ne.symm hk)] at h4
      exact (w.cell k b c' h3 h4).upTo Le.refl (fun z => z) (fun _ => upd_ne (inj h3 hk)) fun q q1 q2 q3 => ⟨q2, upd_ne (fun (z : q = a) => q1 (by rw [z]; exact List.mem_of_getElem? h1)), q1⟩
  · by_cases hk : k = n
    · subst hk
      rw [List.getElem?_set_self (by rw [← w.len]; exact (List.getElem?_eq_some_iff.mp h1).1)] at h4
      cases h4
      exact hg
    · rw [List.getElem?_set_ne (Ne.symm hk)] at h4
      exact w.gen k c' h4
  · by_cases e : b = a
    · subst e; rw [upd_same]; simp
    · rw [upd_ne e]; exact w.tr b hb
end

/-! ### lists, tuples, as they lie -/
def lstOf (m : Mu) : D → Option (List D)
  | .lst xs => some xs
  | .fix xs => some xs
  | .loc n => match m[n]? with
    | some (.lst xs) => some xs
    | _ => none
  | _ => none
/-- .. as an object that stands by itself -/
def ownOf (m : Mu) : D → Option (List D)
  | .lst xs => some xs
  | .loc n => match m[n]? with
    | some (.lst xs) => some xs
    | _ => none
  | _ => none
section
variable {K : PySem.W.Frag} {F : Hp} {al : List Addr} {m : Mu} {H : Hp} {d : D} {v : V} {xs : List D}
theorem ownOf_ok (w : Wd K F al m H) (r : Rp K F al d v) (h : ownOf m d = some xs) : ∃ a vs, v = .ref a ∧ H a = some (.lst vs) ∧ RpL K F al xs vs := by
  cases r with
  | lst s q => cases h; exact ⟨_, _, rfl, w.sub _ _ s, q⟩
  | @loc n a s =>
    unfold ownOf at h
    cases e : m[n]? with
    | none => simp [e] at h
    | some c =>
      cases c with
      | lst ys =>
        simp [e] at h
        subst h
        obtain ⟨_, vs, h1, h2⟩ := w.cell n a _ s e
        exact ⟨a, vs, rfl, h1, h2⟩
      | ins c gs => simp [e] at h
      | dct gs => simp [e] at h
      | dead => simp [e] at h
      | tab q => simp [e] at h
      | opn _ _ _ => simp [e] at h
      | dtt _ => simp [e] at h
  | _ => simp [ownOf] at h
theorem lstOf_ok (w : Wd K F al m H) (r : Rp K F al d v) (h : lstOf m d = some xs) : ∃ a vs, v = .ref a ∧ SqL K H a vs ∧ RpL K F al xs vs := by
  cases r with
  | lst s q => cases h; exact ⟨_, _, rfl, .of (w.sub _ _ s), q⟩
  | fix s q => cases h; exact ⟨_, _, rfl, sql_up w.sub s, q⟩
  | @loc n a s =>
    unfold lstOf at h
    cases e : m[n]? with
    | none => simp [e] at h
    | some c =>
      cases c with
      | lst ys =>
        simp [e] at h
        subst h
        obtain ⟨_, vs, h1, h2⟩ := w.cell n a _ s e
        exact ⟨a, vs, rfl, .of h1, h2⟩
      | ins c gs => simp [e] at h
      | dct gs => simp [e] at h
      | dead => simp [e] at h
      | tab q => simp [e] at h
      | opn _ _ _ => simp [e] at h
      | dtt _ => simp [e] at h
  | _ => simp [lstOf] at h
end

/-! ### names and constants -/
section
variable {c : SC} {W : WX} {pos : Pos}
def xVar (i : Nat) : XE' := fun r m => match r[i]? with
  | some (some d) => .ok d m
  | _ => .stuck
def xC (d : D) : XE' := fun _ m => .ok d m
theorem OkD.vis {y : Dyn} {x : Str} (hy : OkD c W y) (h : Vis c.sc x) : Vis (c.cx y).env.scope x := by
  have e : (c.cx y).env.scope = c.sc := hy.scope
  rw [e]; exact h
theorem OkD.loc {y : Dyn} {x : Str} (hy : OkD c W y) (h : L2.Loc c.sc x) : L2.Loc (c.cx y).env.scope x := by
  have e : (c.cx y).env.scope = c.sc := hy.scope
  rw [e]; exact h
theorem OkD.gl {y : Dyn} {x : Str} (hy : OkD c W y) (h : c.sc.names.lookup x = some .globalImplicit) : Gl (c.cx y) x := by
  have e : (c.cx y).env.scope = c.sc := hy.scope
  show (c.cx y).env.scope.names.lookup x = _
  rw [e]; exact h
theorem de_var (i : Nat) {x : Str} (hN : c.N[i]? = some x := by rfl) (hv : Vis c.sc x := by first | exact .inl rfl | exact .inr (.inl rfl) | exact .inr (.inr rfl)) (hd : (x == ("__debug__" : Str)) = false := by decide) (hcd : (x == ("__classdict__" : Str)) = false := by decide) : DE c W (.Name x pos) (xVar i) := by
  refine ⟨tVar i, fun y hy => pe_var hN (hy.vis hv) hd hcd, fun r m σ H F al Q he hw p => ?_⟩
  unfold xVar at p
  cases q : r[i]? with
  | none => simp only [q] at p; exact p.elim
  | some o =>
    cases o with
    | none => simp only [q] at p; exact p.elim
    | some d =>
      simp only [q] at p
      obtain ⟨v, h1, h2⟩ := he.get i d q
      exact ⟨v, h1, p v H F al Le.refl hw h2⟩
theorem de_int {i : Int} {j : Nat} : DE c W (.Constant (.int i) j pos) (xC (.int i)) :=
  ⟨_, fun _ _ => pe_int, fun _ _ _ H F al Q _ hw p => p _ H F al Le.refl hw (.int i)⟩
theorem de_bl {b : Bool} {j : Nat} : DE c W (.Constant (.bool b) j pos) (xC (.bl b)) :=
  ⟨_, fun _ _ => pe_bl, fun _ _ _ H F al Q _ hw p => p _ H F al Le.refl hw (.bl b)⟩
theorem de_non {j : Nat} : DE c W (.Constant .none j pos) (xC .non) :=
  ⟨_, fun _ _ => pe_non, fun _ _ _ H F al Q _ hw p => p _ H F al Le.refl hw .non⟩
theorem de_str {x : Str} {j : Nat} : DE c W (.Constant (.str x) j pos) (xC (.str x)) :=
  ⟨_, fun _ _ => pe_str, fun _ _ _ H F al Q _ hw p => p _ H F al Le.refl hw (.str x)⟩
theorem de_gint {x : Str} {i : Int} (hm : ∃ t, c.mg x = some (.int i t)) (hg : c.sc.names.lookup x = some .globalImplicit := by rfl) (hd : (x == ("__debug__" : Str)) = false := by decide) : DE c W (.Name x pos) (xC (.int i)) := by
  obtain ⟨t, hm⟩ := hm
  exact ⟨_, fun y hy => pe_glob (hy.gl hg) hm (show RelV (.int i) _ from ⟨t, rfl⟩) hd, fun _ _ _ H F al Q _ hw p => p _ H F al Le.refl hw (.int i)⟩
theorem de_gstr {x z : Str} (hm : ∃ t, c.mg x = some (.str z t)) (hg : c.sc.names.lookup x = some .globalImplicit := by rfl) (hd : (x == ("__debug__" : Str)) = false := by decide) : DE c W (.Name x pos) (xC (.str z)) := by
  obtain ⟨t, hm⟩ := hm
  exact ⟨_, fun y hy => pe_glob (hy.gl hg) hm (show RelV (.str z) _ from ⟨t, rfl⟩) hd, fun _ _ _ H F al Q _ hw p => p _ H F al Le.refl hw (.str z)⟩

/-! ### operators -/
def OpD (c : SC) (f : Value → Value → Sem Value) (g : D → D → Mu → Out D) : Prop := ∃ r : R2, (∀ W y, OkD c W y → OpR (c.cx y) f r) ∧
  ∀ (W : XK) d e m x y H F al Q, Wd c.K F al m H → Rp c.K F al d x → Rp c.K F al e y → Post c.K (RD c.K) W F al Q (g d e m) → r x y H Q
def xOp (g : D → D → Mu → Out D) (a b : XE') : XE' := fun r m => (a r m).bind fun x m1 => (b r m1).bind fun y m2 => g x y m2
variable {a b e : Expr} {fa fb fe : XE'} {g : D → D → Mu → Out D}
theorem de_op {op : Operator} (ho : OpD c (binaryOp op) g) (ha : DE c W a fa) (hb : DE c W b fb) : DE c W (.BinOp a op b pos) (xOp g fa fb) := by
  obtain ⟨r, h1, h2⟩ := ho
  obtain ⟨ta, a1, a2⟩ := ha
  obtain ⟨tb, b1, b2⟩ := hb
  refine ⟨tOp r ta tb, fun y hy => pe_op (h1 W y hy) (a1 y hy) (b1 y hy), fun ρ m σ H F al Q he hw p => ?_⟩
  exact a2 ρ m σ H F al _ he hw (Post.step p fun x m1 v H1 F1 al1 e1 w1 q1 p1 => b2 ρ m1 σ H1 F1 al1 _ (he.up e1) w1
    (Post.step p1 fun z m2 u H2 F2 al2 e2 w2 q2 p2 => h2 _ x z m2 v u H2 F2 al2 Q w2 (q1.up e2) q2 p2))
theorem de_cmp {op : CmpOp} (ho : OpD c (compareOp op) g) (ha : DE c W a fa) (hb : DE c W b fb) (hm : behindInMarks op b = false := by rfl) : DE c W (.Compare a [op] [b] pos) (xOp g fa fb) := by
  obtain ⟨r, h1, h2⟩ := ho
  obtain ⟨ta, a1, a2⟩ := ha
  obtain ⟨tb, b1, b2⟩ := hb
  refine ⟨tOp r ta tb, fun y hy => pe_cmpR (h1 W y hy) (a1 y hy) (b1 y hy) hm, fun ρ m σ H F al Q he hw p => ?_⟩
  exact a2 ρ m σ H F al _ he hw (Post.step p fun x m1 v H1 F1 al1 e1 w1 q1 p1 => b2 ρ m1 σ H1 F1 al1 _ (he.up e1) w1
    (Post.step p1 fun z m2 u H2 F2 al2 e2 w2 q2 p2 => h2 _ x z m2 v u H2 F2 al2 Q w2 (q1.up e2) q2 p2))
def asB : D → Mu → Out Bool
  | .bl b, m => .ok b m
  | _, _ => .stuck
def xTest (f : XE') : XT := fun r m => (f r m).bind asB
theorem Post.asB {K : PySem.W.Frag} {W : XK} {F : Hp} {al : List Addr} {Q : Bool → Hp → Prop} {d : D} {v : V} {m : Mu} {H : Hp} (w : Wd K F al m H) (r : Rp K F al d v) (p : Post K RB W F al Q (DS.asB d m)) : ∃ k, v = .bl k ∧ Q k H := by
  cases r with
  | bl b => exact ⟨b, rfl, p b H F al Le.refl w rfl⟩
  | _ => exact p.elim
theorem dt_cmp {op : CmpOp} (ho : OpD c (compareOp op) g) (ha : DE c W a fa) (hb : DE c W b fb) (hm : behindInMarks op b = false := by rfl) : DT c W (.Compare a [op] [b] pos) (xTest (xOp g fa fb)) := by
  obtain ⟨r, h1, h2⟩ := ho
  obtain ⟨ta, a1, a2⟩ := ha
  obtain ⟨tb, b1, b2⟩ := hb
  refine ⟨tTest (tOp r ta tb), fun y hy => pt_cmpR (h1 W y hy) (a1 y hy) (b1 y hy) hm, fun ρ m σ H F al Q he hw p => ?_⟩
  have p' : Post c.K RB (atS W σ) F al Q ((fa ρ m).bind fun x m1 => (fb ρ m1).bind fun y m2 => (g x y m2).bind asB) := by
    have e : xTest (xOp g fa fb) ρ m = ((fa ρ m).bind fun x m1 => (fb ρ m1).bind fun y m2 => (g x y m2).bind asB) := by
      unfold xTest xOp
      cases fa ρ m with
      | ok x m1 =>
        show Out.bind (Out.bind (fb ρ m1) _) _ = Out.bind (fb ρ m1) _
        cases fb ρ m1 <;> rfl
      | exc _ _ _ => rfl
      | stuck => rfl
    rw [← e]; exact p
  exact a2 ρ m σ H F al _ he hw (Post.step p' fun x m1 v H1 F1 al1 e1 w1 q1 p1 => b2 ρ m1 σ H1 F1 al1 _ (he.up e1) w1
    (Post.step p1 fun z m2 u H2 F2 al2 e2 w2 q2 p2 => h2 _ x z m2 v u H2 F2 al2 _ w2 (q1.up e2) q2 (Post.step p2 fun d m3 v3 H3 F3 al3 e3 w3 q3 p3 => Post.asB w3 q3 p3)))
/-- an expression whose value is a bool, as a test -/
theorem dt_val (h : DE c W e fe) (he : ∀ env whole, isTrue e env whole = (do let v ← whole; standAt e.pos; holding [v] (truthy v)) := by intro _ _; rfl) : DT c W e (xTest fe) := by
  obtain ⟨t, h1, h2⟩ := h
  refine ⟨tB t, fun y hy => pt_val (h1 y hy) (he _), fun ρ m σ H F al Q ho hw p => ?_⟩
  exact h2 ρ m σ H F al _ ho hw (Post.step p fun d m3 v3 H3 F3 al3 e3 w3 q3 p3 => Post.asB w3 q3 p3)
/-! ### and, or, not -/
variable {ta tb : XT} {rest : List Expr}
def xAndT (a b : XT) : XT := fun r m => (a r m).bind fun k m1 => if k then b r m1 else .ok false m1
def xOrT (a b : XT) : XT := fun r m => (a r m).bind fun k m1 => if k then .ok true m1 else b r m1
def xNotT (a : XT) : XT := fun r m => (a r m).bind fun k m1 => .ok (!k) m1
theorem dw_and1 (ha : DT c W a ta) : DW c W (.BoolOp .And [a] pos) ta := by
  obtain ⟨t, h1, h2⟩ := ha
  exact ⟨t, fun y hy => pw_and1 (h1 y hy), h2⟩
theorem dw_or1 (ha : DT c W a ta) : DW c W (.BoolOp .Or [a] pos) ta := by
  obtain ⟨t, h1, h2⟩ := ha
  exact ⟨t, fun y hy => pw_or1 (h1 y hy), h2⟩
theorem dw_and (ha : DT c W a ta) (hb : DW c W (.BoolOp .And (b :: rest) pos) tb) : DW c W (.BoolOp .And (a :: b :: rest) pos) (xAndT ta tb) := by
  obtain ⟨t, a1, a2⟩ := ha
  obtain ⟨u, b1, b2⟩ := hb
  refine ⟨tAnd t u, fun y hy => pw_and (a1 y hy) (b1 y hy), fun ρ m σ H F al Q he hw p => ?_⟩
  refine a2 ρ m σ H F al _ he hw (Post.step p fun k m1 k' H1 F1 al1 e1 w1 q1 p1 => ?_)
  cases q1
  cases k with
  | true => exact b2 ρ m1 σ H1 F1 al1 _ (he.up e1) w1 p1
  | false => exact p1 false H1 F1 al1 Le.refl w1 rfl
theorem dw_or (ha : DT c W a ta) (hb : DW c W (.BoolOp .Or (b :: rest) pos) tb) : DW c W (.BoolOp .Or (a :: b :: rest) pos) (xOrT ta tb) := by
  obtain ⟨t, a1, a2⟩ := ha
  obtain ⟨u, b1, b2⟩ := hb
  refine ⟨tOr t u, fun y hy => pw_or (a1 y hy) (b1 y hy), fun ρ m σ H F al Q he hw p => ?_⟩
  refine a2 ρ m σ H F al _ he hw (Post.step p fun k m1 k' H1 F1 al1 e1 w1 q1 p1 => ?_)
  cases q1
  cases k with
  | true => exact p1 true H1 F1 al1 Le.refl w1 rfl
  | false => exact b2 ρ m1 σ H1 F1 al1 _ (he.up e1) w1 p1
theorem dt_w (h : DW c W e ta) : DT c W e ta := by
  obtain ⟨t, a1, a2⟩ := h
  exact ⟨t, fun y hy => (a1 y hy).pt, a2⟩
theorem dt_not (ha : DT c W a ta) : DT c W (.UnaryOp .Not a pos) (xNotT ta) := by
  obtain ⟨t, a1, a2⟩ := ha
  refine ⟨tNot t, fun y hy => pt_not (a1 y hy), fun ρ m σ H F al Q he hw p => ?_⟩
  refine a2 ρ m σ H F al _ he hw (Post.step p fun k m1 k' H1 F1 al1 e1 w1 q1 p1 => ?_)
  cases q1
  exact p1 _ H1 F1 al1 Le.refl w1 rfl
/-! as values -/
def xAnd (a b : XE') : XE' := fun r m => ((a r m).bind asB).bind fun k m1 => if k then b r m1 else .ok (.bl false) m1
def xOr (a b : XE') : XE' := fun r m => ((a r m).bind asB).bind fun k m1 => if k then .ok (.bl true) m1 else b r m1
def xNot (a : XE') : XE' := fun r m => ((a r m).bind asB).bind fun k m1 => .ok (.bl (!k)) m1
theorem Post.assoc {δ δ' δ2 : Type} {ν2 : Type} {K : PySem.W.Frag} {R : Hp → List Addr → δ2 → ν2 → Prop} {W : XK} {F : Hp} {al : List Addr} {Q : ν2 → Hp → Prop} {o : Out δ} {k : δ → Mu → Out δ'} {l : δ' → Mu → Out δ2} (p : Post K R W F al Q ((o.bind k).bind l)) : Post K R W F al Q (o.bind fun d m => (k d m).bind l) := by
  cases o <;> exact p
theorem Post.asB2 {δ ν : Type} {K : PySem.W.Frag} {R : Hp → List Addr → δ → ν → Prop} {W : XK} {F : Hp} {al : List Addr} {Q : ν → Hp → Prop} {d : D} {v : V} {m : Mu} {l : Bool → Mu → Out δ} (r : Rp K F al d v) (p : Post K R W F al Q ((DS.asB d m).bind l)) : ∃ k, v = .bl k ∧ Post K R W F al Q (l k m) := by
  cases r with
  | bl b => exact ⟨b, rfl, p⟩
  | _ => exact p.elim
theorem de_one {op : BoolOp} (ha : DE c W a fa) : DE c W (.BoolOp op [a] pos) fa := by
  obtain ⟨t, a1, a2⟩ := ha
  exact ⟨t, fun y hy => pe_one (a1 y hy), a2⟩
theorem de_and (ha : DE c W a fa) (hb : DE c W (.BoolOp .And (b :: rest) pos) fb) : DE c W (.BoolOp .And (a :: b :: rest) pos) (xAnd fa fb) := by
  obtain ⟨t, a1, a2⟩ := ha
  obtain ⟨u, b1, b2⟩ := hb
  refine ⟨_, fun y hy => pe_and (a1 y hy) (b1 y hy), fun ρ m σ H F al Q he hw p => ?_⟩
  refine a2 ρ m σ H F al _ he hw (Post.step p.assoc fun d m1 v H1 F1 al1 e1 w1 q1 p1 => ?_)
  obtain ⟨k, rfl, p2⟩ := Post.asB2 q1 p1
  refine ⟨k, rfl, ?_⟩
  cases k with
  | true => exact b2 ρ m1 σ H1 F1 al1 _ (he.up e1) w1 p2
  | false => exact p2 _ H1 F1 al1 Le.refl w1 (.bl false)
theorem de_or (ha : DE c W a fa) (hb : DE c W (.BoolOp .Or (b :: rest) pos) fb) : DE c W (.BoolOp .Or (a :: b :: rest) pos) (xOr fa fb) := by
  obtain ⟨t, a1, a2⟩ := ha
  obtain ⟨u, b1, b2⟩ := hb
  refine ⟨_, fun y hy => pe_or (a1 y hy) (b1 y hy), fun ρ m σ H F al Q he hw p => ?_⟩
  refine a2 ρ m σ H F al _ he hw (Post.step p.assoc fun d m1 v H1 F1 al1 e1 w1 q1 p1 => ?_)
  obtain ⟨k, rfl, p2⟩ := Post.asB2 q1 p1
  refine ⟨k, rfl, ?_⟩
  cases k with
  | true => exact p2 _ H1 F1 al1 Le.refl w1 (.bl true)
  | false => exact b2 ρ m1 σ H1 F1 al1 _ (he.up e1) w1 p2
theorem de_not (ha : DE c W a fa) : DE c W (.UnaryOp .Not a pos) (xNot fa) := by
  obtain ⟨t, a1, a2⟩ := ha
  refine ⟨_, fun y hy => pe_not (a1 y hy), fun ρ m σ H F al Q he hw p => ?_⟩
  refine a2 ρ m σ H F al _ he hw (Post.step p.assoc fun d m1 v H1 F1 al1 e1 w1 q1 p1 => ?_)
  obtain ⟨k, rfl, p2⟩ := Post.asB2 q1 p1
  exact ⟨k, rfl, p2 _ H1 F1 al1 Le.refl w1 (.bl _)⟩
def xIf (t : XT) (a b : XE') : XE' := fun r m => (t r m).bind fun k m1 => if k then a r m1 else b r m1
theorem de_if (ht : DT c W e ta) (ha : DE c W a fa) (hb : DE c W b fb) : DE c W (.IfExp e a b pos) (xIf ta fa fb) := by
  obtain ⟨t, t1, t2⟩ := ht
  obtain ⟨u, a1, a2⟩ := ha
  obtain ⟨v, b1, b2⟩ := hb
  refine ⟨_, fun y hy => pe_ifExp (t1 y hy) (a1 y hy) (b1 y hy), fun ρ m σ H F al Q he hw p => ?_⟩
  refine t2 ρ m σ H F al _ he hw (Post.step p fun k m1 k' H1 F1 al1 e1 w1 q1 p1 => ?_)
  cases q1
  cases k with
  | true => exact a2 ρ m1 σ H1 F1 al1 _ (he.up e1) w1 p1
  | false => exact b2 ρ m1 σ H1 F1 al1 _ (he.up e1) w1 p1
/-! a < b < c -/
def xChain (g g' : D → D → Mu → Out D) (a b k : XE') : XE' := fun r m => (a r m).bind fun x m1 => (b r m1).bind fun y m2 => ((g x y m2).bind asB).bind fun q m3 => if q then (k r m3).bind fun z m4 => g' y z m4 else .ok (.bl false) m3
theorem de_chain {op op' : CmpOp} {g' : D → D → Mu → Out D} {d : Expr} {fd : XE'} (ho : OpD c (compareOp op) g) (ho' : OpD c (compareOp op') g') (ha : DE c W a fa) (hb : DE c W b fb) (hd : DE c W d fd) (hm : lastMarks [op, op'] [b, d] = false := by with_unfolding_all rfl) : DE c W (.Compare a [op, op'] [b, d] pos) (xChain g g' fa fb fd) := by
  obtain ⟨r, r1, r2⟩ := ho
  obtain ⟨r', r1', r2'⟩ := ho'
  obtain ⟨t, a1, a2⟩ := ha
  obtain ⟨u, b1, b2⟩ := hb
  obtain ⟨v, d1, d2⟩ := hd
  refine ⟨tChain r r' t u v, fun y hy => pe_chain (r1 W y hy) (r1' W y hy) (a1 y hy) (b1 y hy) (d1 y hy) hm, fun ρ m σ H F al Q he hw p => ?_⟩
  refine a2 ρ m σ H F al _ he hw (Post.step p fun x m1 vx H1 F1 al1 e1 w1 q1 p1 => ?_)
  refine b2 ρ m1 σ H1 F1 al1 _ (he.up e1) w1 (Post.step p1 fun y m2 vy H2 F2 al2 e2 w2 q2 p2 => ?_)
  refine r2 _ x y m2 vx vy H2 F2 al2 _ w2 (q1.up e2) q2 (Post.step p2.assoc fun z m3 vz H3 F3 al3 e3 w3 q3 p3 => ?_)
  obtain ⟨k, rfl, p4⟩ := Post.asB2 q3 p3
  refine ⟨k, rfl, ?_⟩
  cases k with
  | true =>
    show v σ H3 _
    exact d2 ρ m3 σ H3 F3 al3 _ (((he.up e1).up e2).up e3) w3 (Post.step p4 fun z m4 vz H4 F4 al4 e4 w4 q4 p5 => r2' _ y z m4 vy vz H4 F4 al4 Q w4 ((q2.up e3).up e4) q4 p5)
  | false => exact p4 _ H3 F3 al3 Le.refl w3 (.bl false)
theorem dt_chain {op op' : CmpOp} {g' : D → D → Mu → Out D} {d : Expr} {fd : XE'} (ho : OpD c (compareOp op) g) (ho' : OpD c (compareOp op') g') (ha : DE c W a fa) (hb : DE c W b fb) (hd : DE c W d fd) (hm : lastMarks [op, op'] [b, d] = false := by with_unfolding_all rfl) : DT c W (.Compare a [op, op'] [b, d] pos) (xTest (xChain g g' fa fb fd)) := by
  obtain ⟨r, r1, r2⟩ := ho
  obtain ⟨r', r1', r2'⟩ := ho'
  obtain ⟨t, a1, a2⟩ := ha
  obtain ⟨u, b1, b2⟩ := hb
  obtain ⟨v, d1, d2⟩ := hd
  refine ⟨_, fun y hy => pt_chain (r1 W y hy) (r1' W y hy) (a1 y hy) (b1 y hy) (d1 y hy) hm, fun ρ m σ H F al Q he hw p => ?_⟩
  refine a2 ρ m σ H F al _ he hw (Post.step p.assoc fun x m1 vx H1 F1 al1 e1 w1 q1 p1 => ?_)
  refine b2 ρ m1 σ H1 F1 al1 _ (he.up e1) w1 (Post.step p1.assoc fun y m2 vy H2 F2 al2 e2 w2 q2 p2 => ?_)
  refine r2 _ x y m2 vx vy H2 F2 al2 _ w2 (q1.up e2) q2 (Post.step p2.assoc.assoc fun z m3 vz H3 F3 al3 e3 w3 q3 p3 => ?_)
  obtain ⟨k, rfl, p4⟩ := Post.asB2 q3 p3
  refine ⟨k, rfl, ?_⟩
  cases k with
  | true =>
    show v σ H3 _
    exact d2 ρ m3 σ H3 F3 al3 _ (((he.up e1).up e2).up e3) w3 (Post.step p4.assoc fun z m4 vz H4 F4 al4 e4 w4 q4 p5 => r2' _ y z m4 vy vz H4 F4 al4 _ w4 ((q2.up e3).up e4) q4
      (Post.step p5 fun z m5 vz H5 F5 al5 e5 w5 q5 p6 => Post.asB w5 q5 p6))
  | false => exact ⟨false, rfl, p4 _ H3 F3 al3 Le.refl w3 rfl⟩
/-! ### argument lists, displays -/
variable {es : List Expr} {fr : XA}
def xaNil : XA := fun _ m => .ok [] m
def xaCons (a : XE') (r : XA) : XA := fun ρ m => (a ρ m).bind fun x m1 => (r ρ m1).bind fun xs m2 => .ok (x :: xs) m2
theorem da_nil : DA c W [] xaNil := ⟨⟨tNil, fun _ _ => pa_nil, fun _ _ _ H F al Q _ hw p => p [] H F al Le.refl hw .nil⟩, fun r m ds m' h => by cases h; rfl⟩
theorem da_cons (ha : DE c W e fe) (hr : DA c W es fr) (hs : ∀ env, starEach (e :: es) env = (false, eval e env) :: starEach es env := by intro _; rfl) : DA c W (e :: es) (xaCons fe fr) := by
  obtain ⟨t, a1, a2⟩ := ha
  obtain ⟨⟨u, b1, b2⟩, hl⟩ := hr
  refine ⟨⟨tCons t u, fun y hy => pa_cons (a1 y hy) (b1 y hy) (hs _), fun ρ m σ H F al Q he hw p => ?_⟩, fun r m ds m' h => ?_⟩
  · refine a2 ρ m σ H F al _ he hw (Post.step p fun x m1 v H1 F1 al1 e1 w1 q1 p1 => ?_)
    refine b2 ρ m1 σ H1 F1 al1 _ (he.up e1) w1 (Post.step p1 fun xs m2 vs H2 F2 al2 e2 w2 q2 p2 => ?_)
    exact p2 _ H2 F2 al2 Le.refl w2 (.cons (q1.up e2) q2)
  · unfold xaCons at h
    cases h1 : fe r m with
    | ok x m1 =>
      rw [h1] at h
      have h' : Out.bind (fr r m1) (fun xs m2 => .ok (x :: xs) m2) = .ok ds m' := h
      cases h2 : fr r m1 with
      | ok xs m2 =>
        rw [h2] at h'
        cases h'
        rw [List.length_cons, hl _ _ _ _ h2, List.length_cons]
      | exc _ _ _ => rw [h2] at h'; cases h'
      | stuck => rw [h2] at h'; cases h'
    | exc _ _ _ => rw [h1] at h; cases h
    | stuck => rw [h1] at h; cases h
def xTup (a : XA) : XE' := fun r m => (a r m).bind fun ds m1 => .ok (.tup ds) m1
def xLst (a : XA) : XE' := fun r m => (a r m).bind fun ds m1 => .ok (.lst ds) m1
/-- a list that will change -/
def xNew (a : XA) : XE' := fun r m => (a r m).bind fun ds m1 => if D.inL m1.length ds then .ok (.loc m1.length) (m1 ++ [.lst ds]) else .stuck
/-- the length of what an argument list gives is known -/
theorem Post.lenA {K : PySem.W.Frag} {ν : Type} {R : Hp → List Addr → D → ν → Prop} {W : XK} {F : Hp} {al : List Addr} {Q : ν → Hp → Prop} {n : Nat} {o : Out (List D)} {k : List D → Mu → Out D} (p : Post K R W F al Q (o.bind k)) (hl : ∀ ds m', o = .ok ds m' → ds.length = n) :
    Post K R W F al Q (o.bind fun ds m => if ds.length = n then k ds m else .stuck) := by
  cases o with
  | ok ds m =>
    show Post K R W F al Q (if ds.length = n then k ds m else .stuck)
    rw [if_pos (hl ds m rfl)]; exact p
  | exc _ _ _ => exact p
  | stuck => exact p
theorem small_line {n : Nat} (h : n ≤ 100000) : n ≤ sizeLine := Nat.le_trans h (by rw [sizeLine_eq]; decide)
theorem de_tup {k : Nat} (h : DA c W es fr) (hz : es.length ≤ 100000 := by decide) : DE c W (.Tuple es k pos) (xTup fr) := by
  obtain ⟨⟨t, a1, a2⟩, hl⟩ := h
  refine ⟨tTup t, fun y hy => pe_tup (a1 y hy), fun ρ m σ H F al Q he hw p => ?_⟩
  refine a2 ρ m σ H F al _ he hw (Post.step (p.lenA fun ds m' e => hl ρ m ds m' e) fun xs m1 vs H1 F1 al1 e1 w1 q1 p1 => ?_)
  by_cases hn : xs.length = es.length
  · rw [if_pos hn] at p1
    refine ⟨by rw [← q1.len, hn]; exact small_line hz, fun q hq => p1 _ _ (upd F1 q (.tup vs)) al1 (ext_new (w1.fnone hq)) (w1.new hq) (.tup (.of upd_same) (q1.up (ext_new (w1.fnone hq))))⟩
  · rw [if_neg hn] at p1; exact p1.elim
theorem de_lst (h : DA c W es fr) (hz : es.length ≤ 100000 := by decide) : DE c W (.List es pos) (xLst fr) := by
  obtain ⟨⟨t, a1, a2⟩, hl⟩ := h
  refine ⟨tLst t, fun y hy => pe_lst (a1 y hy), fun ρ m σ H F al Q he hw p => ?_⟩
  refine a2 ρ m σ H F al _ he hw (Post.step (p.lenA fun ds m' e => hl ρ m ds m' e) fun xs m1 vs H1 F1 al1 e1 w1 q1 p1 => ?_)
  by_cases hn : xs.length = es.length
  · rw [if_pos hn] at p1
    refine ⟨by rw [← q1.len, hn]; exact small_line hz, fun q hq => p1 _ _ (upd F1 q (.lst vs)) al1 (ext_new (w1.fnone hq)) (w1.new hq) (.lst upd_same (q1.up (ext_new (w1.fnone hq))))⟩
  · rw [if_neg hn] at p1; exact p1.elim
theorem de_new (h : DA c W es fr) (hz : es.length ≤ 100000 := by decide) : DE c W (.List es pos) (xNew fr) := by
  obtain ⟨⟨t, a1, a2⟩, hl⟩ := h
  refine ⟨tLst t, fun y hy => pe_lst (a1 y hy), fun ρ m σ H F al Q he hw p => ?_⟩
  refine a2 ρ m σ H F al _ he hw (Post.step (p.lenA fun ds m' e => hl ρ m ds m' e) fun xs m1 vs H1 F1 al1 e1 w1 q1 p1 => ?_)
  by_cases hn : xs.length = es.length
  · rw [if_pos hn] at p1
    by_cases hb : D.inL m1.length xs = true
    · rw [if_pos hb] at p1
      refine ⟨by rw [← q1.len, hn]; exact small_line hz, fun q hq => p1 _ _ F1 (al1 ++ [q]) Le.snoc (w1.newCell hq ⟨w1.fnone hq, vs, upd_same, q1.up Le.snoc⟩ hb) (.loc (by rw [← w1.len, List.getElem?_append_right (Nat.le_refl _), Nat.sub_self]; rfl))⟩
    · rw [if_neg hb] at p1; exact p1.elim
  · rw [if_neg hn] at p1; exact p1.elim
end
end DS

namespace DS
open PySem PySem.Spec PyProof.Rows L2
section
variable {c : SC} {W : WX} {pos : Pos}

/-! ### operators on data -/
def addD (d e : D) (m : Mu) : Out D := match d, e with
  | .int i, .int j => .ok (.int (i + j)) m
  | .str x, .str y => if x.length + y.length ≤ sizeLine then .ok (.str (x ++ y)) m else .stuck
  | .tup xs, .tup ys => if xs.length + ys.length ≤ sizeLine then .ok (.tup (xs ++ ys)) m else .stuck
  | d, e => match ownOf m d, ownOf m e with
    | some xs, some ys => if xs.length + ys.length ≤ sizeLine then .ok (.lst (xs ++ ys)) m else .stuck
    | _, _ => .stuck
theorem op_addD : OpD c (binaryOp .Add) addD := by
  refine ⟨fun x y H Q => ((rI0 (fun i j => .int (i + j)) x y H Q ∨ ∃ i j, x = .str i ∧ y = .str j ∧ i.length + j.length ≤ sizeLine ∧ Q (.str (i ++ j)) H) ∨ rCatA c.K x y H Q) ∨ rCat x y H Q, fun W y hy => ((op_add.or op_add_str).or op_catA).or op_cat, fun W d e m x y H F al Q hw r1 r2 p => ?_⟩
  have lists : ∀ xs ys, ownOf m d = some xs → ownOf m e = some ys → Post c.K (RD c.K) W F al Q (if xs.length + ys.length ≤ sizeLine then .ok (.lst (xs ++ ys)) m else .stuck) → rCat x y H Q := fun xs ys h1 h2 p => by
    obtain ⟨a, vs, rfl, ha, qa⟩ := ownOf_ok hw r1 h1
    obtain ⟨b, ws, rfl, hb, qb⟩ := ownOf_ok hw r2 h2
    by_cases hl : xs.length + ys.length ≤ sizeLine
    · rw [if_pos hl] at p
      exact ⟨a, b, vs, ws, rfl, rfl, ha, hb, by rw [← qa.len, ← qb.len]; exact hl, fun q hq => p _ _ (upd F q _) al (ext_new (hw.fnone hq)) (hw.new hq) (.lst upd_same ((qa.append qb).up (ext_new (hw.fnone hq))))⟩
    · rw [if_neg hl] at p; exact p.elim
  unfold addD at p
  split at p
  · cases r1; cases r2
    exact .inl (.inl (.inl ⟨_, _, rfl, rfl, p _ H F al Le.refl hw (.int _)⟩))
  · cases r1; cases r2
    split at p
    · rename_i hl
      exact .inl (.inl (.inr ⟨_, _, rfl, rfl, hl, p _ H F al Le.refl hw (.str _)⟩))
    · exact p.elim
  · rename_i xs ys
    cases r1 with
    | @tup a vs _ s1 q1 =>
    cases r2 with
    | @tup b ws _ s2 q2 =>
    split at p
    · rename_i hl
      refine .inl (.inr ⟨a, b, vs, ws, rfl, rfl, sqt_up hw.sub s1, sqt_up hw.sub s2, by rw [← q1.len, ← q2.len]; exact hl, fun z => ?_, fun z z' => ?_, fun _ _ q hq => ?_⟩)
      · subst z
        cases q1
        exact p _ H F al Le.refl hw (.tup s2 q2)
      · subst z'
        cases q2
        rw [List.append_nil] at p
        exact p _ H F al Le.refl hw (.tup s1 q1)
      · exact p _ _ (upd F q _) al (ext_new (hw.fnone hq)) (hw.new hq) (.tup (.of upd_same) ((q1.append q2).up (ext_new (hw.fnone hq))))
    · exact p.elim
  · split at p
    · rename_i h1 h2
      exact .inr (lists _ _ h1 h2 p)
    · exact p.elim
/-- two ints -/
def intD (C : Int → Int → Bool) (g : Int → Int → Int) (d e : D) (m : Mu) : Out D := match d, e with
  | .int i, .int j => if C i j then .ok (.int (g i j)) m else .stuck
  | _, _ => .stuck
theorem opd_int {f : Value → Value → Sem Value} {C : Int → Int → Prop} {B : Int → Int → Bool} {g : Int → Int → Int} (h : ∀ X : Cx, OpR X f (rI C fun i j => .int (g i j))) (hB : ∀ i j, B i j = true → C i j) : OpD c f (intD B g) := by
  refine ⟨_, fun W y hy => h _, fun W d e m x y H F al Q hw r1 r2 p => ?_⟩
  unfold intD at p
  split at p
  · cases r1; cases r2
    split at p
    · rename_i hb
      exact ⟨_, _, rfl, rfl, hB _ _ hb, p _ H F al Le.refl hw (.int _)⟩
    · exact p.elim
  · exact p.elim
def subD (d e : D) (m : Mu) : Out D := match d, e with
  | .int i, .int j => .ok (.int (i - j)) m
  | _, _ => .stuck
theorem op_subD : OpD c (binaryOp .Sub) subD := by
  refine ⟨_, fun W y hy => op_sub, fun W d e m x y H F al Q hw r1 r2 p => ?_⟩
  unfold subD at p
  split at p
  · cases r1; cases r2
    exact ⟨_, _, rfl, rfl, p _ H F al Le.refl hw (.int _)⟩
  · exact p.elim
def mulOk (i j : Int) : Bool := decide (-(2 ^ 64) < i ∧ i < 2 ^ 64) || decide (-(2 ^ 64) < j ∧ j < 2 ^ 64)
def mulD (d e : D) (m : Mu) : Out D := match d, e with
  | .int i, .int j => if mulOk i j then .ok (.int (i * j)) m else .stuck
  | d, .int k => match ownOf m d with
    | some xs => if 0 ≤ k ∧ k < 100000 ∧ xs.length * k.toNat ≤ sizeLine then .ok (.lst (List.replicate k.toNat xs).flatten) m else .stuck
    | none => .stuck
  | _, _ => .stuck
theorem RpL.rep {K : PySem.W.Frag} {F : Hp} {al : List Addr} {xs : List D} {vs : List V} (h : RpL K F al xs vs) : ∀ k : Nat, RpL K F al (List.replicate k xs).flatten (List.replicate k vs).flatten
  | 0 => .nil
  | k + 1 => by
    rw [List.replicate_succ, List.replicate_succ, List.flatten_cons, List.flatten_cons]
    exact h.append (RpL.rep h k)
theorem op_mulD : OpD c (binaryOp .Mult) mulD := by
  refine ⟨_, fun W y hy => op_mul.or op_rep, fun W d e m x y H F al Q hw r1 r2 p => ?_⟩
  unfold mulD at p
  split at p
  · cases r1; cases r2
    split at p
    · rename_i hb
      refine .inl ⟨_, _, rfl, rfl, ?_, p _ H F al Le.refl hw (.int _)⟩
      unfold mulOk at hb
      rw [Bool.or_eq_true, decide_eq_true_eq, decide_eq_true_eq] at hb
      exact hb
    · exact p.elim
  · cases r2
    split at p
    · rename_i xs h1
      obtain ⟨a, vs, rfl, ha, qa⟩ := ownOf_ok hw r1 h1
      split at p
      · rename_i k _ hk
        obtain ⟨k0, k1, k2⟩ := hk
        refine .inr ⟨a, _, vs, rfl, rfl, ha, by omega, by omega, by rw [← qa.len]; exact k2, fun q hq => p _ _ (upd F q _) al (ext_new (hw.fnone hq)) (hw.new hq) (.lst upd_same ((qa.rep _).up (ext_new (hw.fnone hq))))⟩
      · exact p.elim
    · exact p.elim
  · exact p.elim
def modD : D → D → Mu → Out D := intD (fun _ j => decide (0 < j)) fun i j => i % j
theorem op_modD : OpD c (binaryOp .Mod) modD := opd_int (fun _ => op_mod) fun _ _ h => of_decide_eq_true h
def divD : D → D → Mu → Out D := intD (fun _ j => decide (0 < j ∧ j < 1073741824)) fun i j => i / j
theorem op_divD : OpD c (binaryOp .FloorDiv) divD := opd_int (fun _ => op_fdiv) fun i j h => (of_decide_eq_true h : 0 < j ∧ j < 1073741824)
def powD : D → D → Mu → Out D := intD (fun i j => decide (0 ≤ j ∧ j ≤ 1000000 ∧ i.natAbs < 2 ^ 64)) fun i j => i ^ j.toNat
theorem op_powD : OpD c (binaryOp .Pow) powD := opd_int (fun _ => op_pow) fun i j h => (of_decide_eq_true h : 0 ≤ j ∧ j ≤ 1000000 ∧ i.natAbs < 2 ^ 64)
/-- comparisons of ints -/
def cmpD (g : Int → Int → Bool) (d e : D) (m : Mu) : Out D := match d, e with
  | .int i, .int j => .ok (.bl (g i j)) m
  | _, _ => .stuck
theorem opd_cmp {f : Value → Value → Sem Value} {g : Int → Int → Bool} (h : ∀ X : Cx, OpR X f (rI0 fun i j => .bl (g i j))) : OpD c f (cmpD g) := by
  refine ⟨_, fun W y hy => h _, fun W d e m x y H F al Q hw r1 r2 p => ?_⟩
  unfold cmpD at p
  split at p
  · cases r1; cases r2
    exact ⟨_, _, rfl, rfl, p _ H F al Le.refl hw (.bl _)⟩
  · exact p.elim
def ltD : D → D → Mu → Out D := cmpD fun i j => decide (i < j)
def leD : D → D → Mu → Out D := cmpD fun i j => decide (i ≤ j)
def gtD : D → D → Mu → Out D := cmpD fun i j => decide (j < i)
def geD : D → D → Mu → Out D := cmpD fun i j => decide (j ≤ i)
theorem op_ltD : OpD c (compareOp .Lt) ltD := opd_cmp fun _ => op_lt
theorem op_leD : OpD c (compareOp .LtE) leD := opd_cmp fun _ => op_le
theorem op_gtD : OpD c (compareOp .Gt) gtD := opd_cmp fun _ => op_gt
theorem op_geD : OpD c (compareOp .GtE) geD := opd_cmp fun _ => op_ge
/-- is None -/
def isNonD : D → Bool
  | .non => true
  | _ => false
theorem Rp.isNon {K : PySem.W.Frag} {F : Hp} {al : List Addr} {d : D} {v : V} (r : Rp K F al d v) : decide (v = .non) = isNonD d := by
  cases r <;> first | rfl | exact decide_eq_false (fun z => nomatch z)
def isD (d e : D) (m : Mu) : Out D := match e with
  | .non => .ok (.bl (isNonD d)) m
  | _ => .stuck
def isntD (d e : D) (m : Mu) : Out D := match e with
  | .non => .ok (.bl (!isNonD d)) m
  | _ => .stuck
theorem op_isD : OpD c (compareOp .Is) isD := by
  refine ⟨_, fun W y hy => op_isN, fun W d e m x y H F al Q hw r1 r2 p => ?_⟩
  unfold isD at p
  split at p
  · cases r2
    refine ⟨rfl, ?_⟩
    rw [r1.isNon]
    exact p _ H F al Le.refl hw (.bl _)
  · exact p.elim
theorem op_isntD : OpD c (compareOp .IsNot) isntD := by
  refine ⟨_, fun W y hy => op_notN, fun W d e m x y H F al Q hw r1 r2 p => ?_⟩
  unfold isntD at p
  split at p
  · cases r2
    refine ⟨rfl, ?_⟩
    rw [r1.isNon]
    exact p _ H F al Le.refl hw (.bl _)
  · exact p.elim

/-! ### == of data -/
mutual
def toP : D → Option PyData
  | .non => some .none
  | .bl b => some (.bool b)
  | .int i => some (.int i)
  | .str x => some (.str x)
  | .tup xs => (toPs xs).map .tuple
  | .lst xs => (toPs xs).map .list
  | .fix xs => (toPs xs).map .list
  | _ => none
def toPs : List D → Option (List PyData)
  | [] => some []
  | x :: r => match toP x, toPs r with
    | some p, some ps => some (p :: ps)
    | _, _ => none
end
section
variable {K : PySem.W.Frag} {F : Hp} {al : List Addr} {H : Hp}
mutual
theorem Rp.dp (sub : ∀ (a : Addr) (o : HO), F a = some o → H a = some o) : ∀ {d : D} {v : V} {p : PyData}, Rp K F al d v → toP d = some p → Dp K H v p
  | _, _, _, .non, h => by rw [toP] at h; cases h; exact .non
  | _, _, _, .bl b, h => by rw [toP] at h; cases h; exact .bl b
  | _, _, _, .int i, h => by rw [toP] at h; cases h; exact .int i
  | _, _, _, .str x, h => by rw [toP] at h; cases h; exact .str x
  | _, _, _, .tup (ds := ds) s q, h => by
    rw [toP] at h
    cases e : toPs ds with
    | none => rw [e] at h; cases h
    | some ps => rw [e] at h; cases h; exact .tup (sqt_up sub s) (RpL.dp sub q e)
  | _, _, _, .lst (ds := ds) s q, h => by
    rw [toP] at h
    cases e : toPs ds with
    | none => rw [e] at h; cases h
    | some ps => rw [e] at h; cases h; exact .lst (.of (sub _ _ s)) (RpL.dp sub q e)
  | _, _, _, .fix (ds := ds) s q, h => by
    rw [toP] at h
    cases e : toPs ds with
    | none => rw [e] at h; cases h
    | some ps => rw [e] at h; cases h; exact .lst (sql_up sub s) (RpL.dp sub q e)
  | _, _, _, .obj _ _, h => by rw [toP] at h <;> first | cases h | (intros; exact D.noConfusion)
  | _, _, _, .dct _ _, h => by rw [toP] at h <;> first | cases h | (intros; exact D.noConfusion)
  | _, _, _, .loc _, h => by rw [toP] at h <;> first | cases h | (intros; exact D.noConfusion)
  | _, _, _, .glo _, h => by rw [toP] at h <;> first | cases h | (intros; exact D.noConfusion)
  | _, _, _, .ty _, h => by rw [toP] at h <;> first | cases h | (intros; exact D.noConfusion)
  | _, _, _, .exn _ _, h => by rw [toP] at h <;> first | cases h | (intros; exact D.noConfusion)
  | _, _, _, .nst _ _, h => by rw [toP] at h <;> first | cases h | (intros; exact D.noConfusion)
  | _, _, _, .odc _, h => by rw [toP] at h <;> first | cases h | (intros; exact D.noConfusion)
theorem RpL.dp (sub : ∀ (a : Addr) (o : HO), F a = some o → H a = some o) : ∀ {d : List D} {v : List V} {p : List PyData}, RpL K F al d v → toPs d = some p → DpAll K H v p
  | _, _, _, .nil, h => by rw [toPs] at h; cases h; exact .nil
  | _, _, _, .cons (d := d) (ds := ds) r q, h => by
    rw [toPs] at h
    cases e1 : toP d with
    | none => rw [e1] at h; cases h
    | some p =>
      cases e2 : toPs ds with
      | none => rw [e1, e2] at h; cases h
      | some ps => rw [e1, e2] at h; cases h; exact .cons (Rp.dp sub r e1) (RpL.dp sub q e2)
end
end
/-- a list that stands in the store, as data -/
def dere (m : Mu) : D → D
  | .loc n => match m[n]? with
    | some (.lst xs) => .fix xs
    | _ => .loc n
  | d => d
theorem dere_dp {K : PySem.W.Frag} {F : Hp} {al : List Addr} {m : Mu} {H : Hp} {d : D} {v : V} {p : PyData} (w : Wd K F al m H) (r : Rp K F al d v) (h : toP (dere m d) = some p) : Dp K H v p := by
  cases d with
  | loc n =>
    unfold dere at h
    cases r with
    | @loc _ a s =>
    cases e : m[n]? with
    | none => simp only [e] at h; rw [toP] at h <;> first | cases h | (intros; exact D.noConfusion)
    | some cl =>
      cases cl with
      | lst xs =>
        simp only [e] at h
        obtain ⟨_, vs, h1, h2⟩ := w.cell n a _ s e
        rw [toP] at h
        cases e2 : toPs xs with
        | none => rw [e2] at h; cases h
        | some ps => rw [e2] at h; cases h; exact .lst (.of h1) (RpL.dp w.sub h2 e2)
      | ins _ _ => simp only [e] at h; rw [toP] at h <;> first | cases h | (intros; exact D.noConfusion)
      | dct _ => simp only [e] at h; rw [toP] at h <;> first | cases h | (intros; exact D.noConfusion)
      | dead => simp only [e] at h; rw [toP] at h <;> first | cases h | (intros; exact D.noConfusion)
      | tab q => simp only [e] at h; rw [toP] at h <;> first | cases h | (intros; exact D.noConfusion)
      | opn _ _ _ => simp only [e] at h; rw [toP] at h <;> first | cases h | (intros; exact D.noConfusion)
      | dtt _ => simp only [e] at h; rw [toP] at h <;> first | cases h | (intros; exact D.noConfusion)
  | _ => exact r.dp w.sub h
def eqB (m : Mu) (d e : D) : Option Bool := match toP (dere m d), toP (dere m e) with
  | some p, some q => if SeqAt.shaped p && SeqAt.shaped q then some (PyData.eqv p q) else none
  | _, _ => none
def eqD (d e : D) (m : Mu) : Out D := match d, e with
  | .str x, .str y => .ok (.bl (x == y)) m
  | d, e => match eqB m d e with
    | some b => .ok (.bl b) m
    | none => .stuck
def neD (d e : D) (m : Mu) : Out D := match d, e with
  | .str x, .str y => .ok (.bl (!(x == y))) m
  | d, e => match eqB m d e with
    | some b => .ok (.bl (!b)) m
    | none => .stuck
theorem eqB_ok {K : PySem.W.Frag} {F : Hp} {al : List Addr} {m : Mu} {H : Hp} {d e : D} {x y : V} {b : Bool} (w : Wd K F al m H) (r1 : Rp K F al d x) (r2 : Rp K F al e y) (h : eqB m d e = some b) :
    ∃ p q, Dp K H x p ∧ Dp K H y q ∧ SeqAt.shaped p = true ∧ SeqAt.shaped q = true ∧ b = PyData.eqv p q := by
  unfold eqB at h
  split at h
  · rename_i p q h1 h2
    split at h
    · rename_i hs
      rw [Bool.and_eq_true] at hs
      cases h
      exact ⟨p, q, dere_dp w r1 h1, dere_dp w r2 h2, hs.1, hs.2, rfl⟩
    · cases h
  · cases h
theorem op_eqD' : OpD c (compareOp .Eq) eqD := by
  refine ⟨fun x y H Q => rEq x y H Q ∨ rEqD c.K x y H Q, fun W y hy => (op_eq (X := c.cx y)).or (op_eqD (X := c.cx y) hy.un64), fun W d e m x y H F al Q hw r1 r2 p => ?_⟩
  have gen : Post c.K (RD c.K) W F al Q (match eqB m d e with
    | some b => .ok (.bl b) m
    | none => .stuck) → rEq x y H Q ∨ rEqD c.K x y H Q := fun p => by
    split at p
    · rename_i b h
      obtain ⟨p1, q1, a1, a2, a3, a4, rfl⟩ := eqB_ok hw r1 r2 h
      exact .inr ⟨p1, q1, a1, a2, a3, a4, p _ H F al Le.refl hw (.bl _)⟩
    · exact p.elim
  unfold eqD at p
  split at p
  · cases r1; cases r2
    refine .inl ⟨rfl, ?_⟩
    rw [dec_str]
    exact p _ H F al Le.refl hw (.bl _)
  · exact gen p
theorem op_neD' : OpD c (compareOp .NotEq) neD := by
  refine ⟨fun x y H Q => rNe x y H Q ∨ rNeD c.K x y H Q, fun W y hy => (op_ne (X := c.cx y)).or (op_neD (X := c.cx y) hy.un64), fun W d e m x y H F al Q hw r1 r2 p => ?_⟩
  have gen : Post c.K (RD c.K) W F al Q (match eqB m d e with
    | some b => .ok (.bl (!b)) m
    | none => .stuck) → rNe x y H Q ∨ rNeD c.K x y H Q := fun p => by
    split at p
    · rename_i b h
      obtain ⟨p1, q1, a1, a2, a3, a4, rfl⟩ := eqB_ok hw r1 r2 h
      exact .inr ⟨p1, q1, a1, a2, a3, a4, p _ H F al Le.refl hw (.bl _)⟩
    · exact p.elim
  unfold neD at p
  split at p
  · cases r1; cases r2
    refine .inl ⟨rfl, ?_⟩
    rw [dec_str]
    exact p _ H F al Le.refl hw (.bl _)
  · exact gen p

/-! ### in -/
def flatD : D → Bool
  | .non => true
  | .bl _ => true
  | .int _ => true
  | .str _ => true
  | _ => false
def eqF : D → D → Bool
  | .non, .non => true
  | .bl a, .bl b => a == b
  | .bl a, .int b => (if a = true then (1 : Int) else 0) == b
  | .int a, .bl b => a == if b = true then (1 : Int) else 0
  | .int a, .int b => a == b
  | .str a, .str b => a == b
  | _, _ => false
section
variable {K : PySem.W.Frag} {F : Hp} {al : List Addr}
theorem Rp.flat {d : D} {v : V} (r : Rp K F al d v) : flatD d = true → flatV v = true := by
  intro h
  cases r <;> first | rfl | cases h
theorem Rp.eqF {d e : D} {x y : V} (r1 : Rp K F al d x) (r2 : Rp K F al e y) (h1 : flatD d = true) (h2 : flatD e = true) : eqV x y = DS.eqF d e := by
  cases r1 <;> cases h1 <;> cases r2 <;> cases h2 <;> rfl
theorem RpL.flat : ∀ {ds : List D} {vs : List V}, RpL K F al ds vs → ds.all flatD = true → vs.all flatV = true
  | _, _, .nil, _ => rfl
  | _, _, .cons r q, h => by
    rw [List.all_cons, Bool.and_eq_true] at h ⊢
    exact ⟨r.flat h.1, RpL.flat q h.2⟩
theorem RpL.inF {d : D} {v : V} (r : Rp K F al d v) (hd : flatD d = true) : ∀ {ds : List D} {vs : List V}, RpL K F al ds vs → ds.all flatD = true → inV v vs = ds.any fun e => DS.eqF e d
  | _, _, .nil, _ => rfl
  | _, _, .cons r' q, h => by
    rw [List.all_cons, Bool.and_eq_true] at h
    have ih := RpL.inF r hd q h.2
    unfold inV at ih ⊢
    rw [List.any_cons, List.any_cons, ih, Rp.eqF r' r h.1 hd]
end
def inB (m : Mu) (d e : D) : Option Bool := match d, e with
  | .str x, .str y => some (!(Builtin.Str.occurrences y x 0 y.length 1).isEmpty)
  | d, .tup xs => if flatD d && xs.all flatD then some (xs.any fun y => eqF y d) else none
  | d, e => match lstOf m e with
    | some xs => if flatD d && xs.all flatD then some (xs.any fun y => eqF y d) else none
    | none => none
def inD (d e : D) (m : Mu) : Out D := match inB m d e with
  | some b => .ok (.bl b) m
  | none => .stuck
def ninD (d e : D) (m : Mu) : Out D := match inB m d e with
  | some b => .ok (.bl (!b)) m
  | none => .stuck
theorem inB_ok {K : PySem.W.Frag} {F : Hp} {al : List Addr} {m : Mu} {H : Hp} {d e : D} {x y : V} {b : Bool} (w : Wd K F al m H) (r1 : Rp K F al d x) (r2 : Rp K F al e y) (h : inB m d e = some b) :
    (∃ i j, x = .str i ∧ y = .str j ∧ b = (!(Builtin.Str.occurrences j i 0 j.length 1).isEmpty)) ∨ ∃ p xs, y = .ref p ∧ (SqL K H p xs ∨ SqT K H p xs) ∧ flatV x = true ∧ xs.all flatV = true ∧ b = inV x xs := by
  unfold inB at h
  split at h
  · cases r1; cases r2; cases h
    exact .inl ⟨_, _, rfl, rfl, rfl⟩
  · cases r2 with
    | @tup a vs _ s q =>
    split at h
    · rename_i hf
      rw [Bool.and_eq_true] at hf
      cases h
      exact .inr ⟨a, vs, rfl, .inr (sqt_up w.sub s), r1.flat hf.1, q.flat hf.2, (q.inF r1 hf.1 hf.2).symm⟩
    · cases h
  · split at h
    · rename_i hl
      split at h
      · rename_i hf
        rw [Bool.and_eq_true] at hf
        cases h
        obtain ⟨a, vs, rfl, s, q⟩ := lstOf_ok w r2 hl
        exact .inr ⟨a, vs, rfl, .inl s, r1.flat hf.1, q.flat hf.2, (q.inF r1 hf.1 hf.2).symm⟩
      · cases h
    · cases h
theorem op_inD : OpD c (compareOp .In) inD := by
  refine ⟨fun x y H Q => (∃ i j, x = .str i ∧ y = .str j ∧ Q (.bl (!(Builtin.Str.occurrences j i 0 j.length 1).isEmpty)) H) ∨ rIn c.K false x y H Q, fun W y hy => op_in_str.or op_in_seq, fun W d e m x y H F al Q hw r1 r2 p => ?_⟩
  unfold inD at p
  split at p
  · rename_i b h
    rcases inB_ok hw r1 r2 h with ⟨i, j, rfl, rfl, rfl⟩ | ⟨q, xs, rfl, h1, h2, h3, rfl⟩
    · exact .inl ⟨i, j, rfl, rfl, p _ H F al Le.refl hw (.bl _)⟩
    · exact .inr ⟨q, xs, rfl, h1, h2, h3, p _ H F al Le.refl hw (.bl _)⟩
  · exact p.elim
theorem op_ninD : OpD c (compareOp .NotIn) ninD := by
  refine ⟨fun x y H Q => (∃ i j, x = .str i ∧ y = .str j ∧ Q (.bl (!(!(Builtin.Str.occurrences j i 0 j.length 1).isEmpty))) H) ∨ rIn c.K true x y H Q, fun W y hy => op_notin_str.or op_notIn_seq, fun W d e m x y H F al Q hw r1 r2 p => ?_⟩
  unfold ninD at p
  split at p
  · rename_i b h
    rcases inB_ok hw r1 r2 h with ⟨i, j, rfl, rfl, rfl⟩ | ⟨q, xs, rfl, h1, h2, h3, rfl⟩
    · exact .inl ⟨i, j, rfl, rfl, p _ H F al Le.refl hw (.bl _)⟩
    · exact .inr ⟨q, xs, rfl, h1, h2, h3, p _ H F al Le.refl hw (.bl _)⟩
  · exact p.elim
end
end DS

namespace DS
open PySem PySem.Spec PyProof.Rows L2
section
variable {K : PySem.W.Frag} {F F' : Hp} {al al' : List Addr} {m : Mu} {H : Hp}
/-! ### leaving a def: what was new in the store is fixed or forgotten -/
theorem Le.cut {n : Nat} (e : Le F al F' al') (h : al.length ≤ n) : Le F al F' (al'.take n) :=
  ⟨e.f, fun k a q => by
    rw [List.getElem?_take_of_lt (Nat.lt_of_lt_of_le (List.getElem?_eq_some_iff.mp q).1 h)]
    exact e.a k a q⟩
mutual
theorem D.inB_mono {n k : Nat} (h : n ≤ k) : ∀ d : D, d.inB n = true → d.inB k = true
  | .loc j, e => by rw [D.inB] at e ⊢; exact decide_eq_true (Nat.lt_of_lt_of_le (of_decide_eq_true e) h)
  | .tup xs, e => by rw [D.inB] at e ⊢; exact D.inL_mono h xs e
  | .lst xs, e => by rw [D.inB] at e ⊢; exact D.inL_mono h xs e
  | .fix xs, e => by rw [D.inB] at e ⊢; exact D.inL_mono h xs e
  | .obj _ fs, e => by rw [D.inB] at e ⊢; exact D.inF_mono h fs e
  | .dct fs, e => by rw [D.inB] at e ⊢; exact D.inF_mono h fs e
  | .exn _ fs, e => by rw [D.inB] at e ⊢; exact D.inF_mono h fs e
  | .non, _ => by simp only [D.inB]
  | .bl _, _ => by simp only [D.inB]
  | .int _, _ => by simp only [D.inB]
  | .str _, _ => by simp only [D.inB]
  | .glo _, _ => by simp only [D.inB]
  | .ty _, _ => by simp only [D.inB]
  | .nst _, _ => by simp only [D.inB]
  | .odc, _ => by simp only [D.inB]
theorem D.inL_mono {n k : Nat} (h : n ≤ k) : ∀ d : List D, D.inL n d = true → D.inL k d = true
  | [], _ => by rw [D.inL]
  | x :: r, e => by
    rw [D.inL, Bool.and_eq_true] at e ⊢
    exact ⟨D.inB_mono h x e.1, D.inL_mono h r e.2⟩
theorem D.inF_mono {n k : Nat} (h : n ≤ k) : ∀ d : List (Str × D), D.inF n d = true → D.inF k d = true
  | [], _ => by rw [D.inF]
  | (_, x) :: r, e => by
    rw [D.inF, Bool.and_eq_true] at e ⊢
    exact ⟨D.inB_mono h x e.1, D.inF_mono h r e.2⟩
end
theorem Cell.inB_mono {n k : Nat} (h : n ≤ k) {c : Cell} (e : c.inB n = true) : c.inB k = true := by
  cases c with
  | lst xs => exact D.inL_mono h xs e
  | ins _ fs => exact D.inF_mono h fs e
  | dct fs => exact D.inF_mono h fs e
  | dead => rfl
  | tab _ => rfl
  | dtt kvs => exact D.inL_mono h (kvs.map fun p : List Key × D => p.2) e
  | opn xs h0 ls =>
    have e' : (D.inL n xs && (D.inB n h0 && D.inL n ls)) = true := e
    rw [Bool.and_eq_true, Bool.and_eq_true] at e'
    show (D.inL k xs && (D.inB k h0 && D.inL k ls)) = true
    rw [D.inL_mono h xs e'.1, D.inB_mono h h0 e'.2.1, D.inL_mono h ls e'.2.2]
    rfl
theorem CellOk.cut {n : Nat} {a : Addr} {c : Cell} (h : CellOk K F al H a c) (e : c.inB n = true) : CellOk K F (al.take n) H a c := by
  cases c with
  | lst xs => obtain ⟨z, vs, h1, h2⟩ := h; exact ⟨z, vs, h1, h2.cut e⟩
  | ins _ gs => obtain ⟨z, dx, fs, h1, h2⟩ := h; exact ⟨z, dx, fs, h1, h2.cut e⟩
  | dct gs => obtain ⟨z, fs, h1, h2⟩ := h; exact ⟨z, fs, h1, h2.cut e⟩
  | dead => exact h
  | tab _ => exact h
  | dtt kvs => obtain ⟨z, ks, h1, hk, h2⟩ := h; exact ⟨z, ks, h1, hk, h2.cut e⟩
  | opn xs h0 ls =>
    have e' : (D.inL n xs && (D.inB n h0 && D.inL n ls)) = true := e
    rw [Bool.and_eq_true, Bool.and_eq_true] at e'
    obtain ⟨z, vs, p, q, hv, ws, h1, h2, h3, h4, h5, h6, h7⟩ := h
    exact ⟨z, vs, p, q, hv, ws, h1, h2.cut e'.1, h3, h4.cut e'.2.1, ⟨h5.1, fun z => h5.2 (List.mem_of_mem_take z)⟩, h6, h7.cut e'.2.2⟩
theorem Wd.cut (w : Wd K F al m H) (n : Nat) : Wd K F (al.take n) (m.take n) H := by
  refine ⟨w.sub, by rw [List.length_take, List.length_take, w.len], w.nd.sublist (List.take_sublist _ _), fun k a c h1 h2 => ?_, fun k c h2 => ?_, fun a ha => w.tr a (List.mem_of_mem_take ha), w.nt⟩
  · have hk : k < n := by
      have := (List.getElem?_eq_some_iff.mp h2).1
      rw [List.length_take] at this
      omega
    rw [List.getElem?_take_of_lt hk] at h1 h2
    exact (w.cell k a c h1 h2).cut (Cell.inB_mono (Nat.le_of_lt hk) (w.gen k c h2))
  · have hk : k < n := by
      have := (List.getElem?_eq_some_iff.mp h2).1
      rw [List.length_take] at this
      omega
    rw [List.getElem?_take_of_lt hk] at h2
    exact w.gen k c h2
theorem Wd.inj (w : Wd K F al m H) {i j : Nat} {a : Addr} (h1 : al[i]? = some a) (h2 : al[j]? = some a) : i = j := by
  obtain ⟨l1, e1⟩ := List.getElem?_eq_some_iff.mp h1
  obtain ⟨l2, e2⟩ := List.getElem?_eq_some_iff.mp h2
  exact (List.getElem_inj w.nd).mp (e1.trans e2.symm)
/-- the object at n is fixed, what is above k (k ≤ n) forgotten -/
theorem Wd.frz {n k : Nat} {a : Addr} {o : HO} (w : Wd K F al m H) (h1 : al[n]? = some a) (ho : H a = some o) (hf : F a = none) (hk : k ≤ n) (hto : ∀ ps, o ≠ .tbl ps := by intro ps h; cases h) : Wd K (upd F a o) (al.take k) (m.take k) H := by
  have w' := w.cut k
  refine ⟨fun b u e => ?_, w'.len, w'.nd, fun j b c h2 h3 => ?_, w'.gen, w'.tr, nt_upd w.nt hto⟩
  · by_cases hb : b = a
    · subst hb; rw [upd_same] at e; rw [← e]; exact ho
    · rw [upd_ne hb] at e; exact w.sub b u e
  · have hj : j < k := by
      have := (List.getElem?_eq_some_iff.mp h2).1
      rw [List.length_take] at this
      omega
    have hb : b ≠ a := fun z => by
      subst z
      rw [List.getElem?_take_of_lt hj] at h2
      have := w.inj h2 h1
      omega
    rw [List.getElem?_take_of_lt hj] at h2
    have hj3 : j < k := hj
    rw [List.getElem?_take_of_lt hj3] at h3
    exact ((w.cell j b c h2 h3).upTo (ext_new hf) (fun z => by rw [upd_ne hb]; exact z) (fun _ => rfl) fun q q1 q2 q3 => ⟨by rw [upd_ne (fun (z : q = a) => q1 (by rw [z]; exact List.mem_of_getElem? h1))]; exact q2, rfl, q1⟩).cut (Cell.inB_mono (Nat.le_of_lt hj) (w.gen j c h3))
/-- the object at n is fixed, its place stays empty -/
theorem Wd.fix {n : Nat} {a : Addr} {o : HO} (w : Wd K F al m H) (h1 : al[n]? = some a) (ho : H a = some o) (hf : F a = none) (hto : ∀ ps, o ≠ .tbl ps := by intro ps h; cases h) : Wd K (upd F a o) al (m.set n .dead) H := by
  refine ⟨fun b u e => ?_, by rw [List.length_set]; exact w.len, w.nd, fun j b c h2 h3 => ?_, fun j c h3 => ?_, w.tr, nt_upd w.nt hto⟩
  · by_cases hb : b = a
    · subst hb; rw [upd_same] at e; rw [← e]; exact ho
    · rw [upd_ne hb] at e; exact w.sub b u e
  · by_cases hj : j = n
    · subst hj
      rw [List.getElem?_set_self (by rw [← w.len]; exact (List.getElem?_eq_some_iff.mp h1).1)] at h3
      cases h3
      have e : b = a := Option.some.inj (h2.symm.trans h1)
      subst e
      exact ⟨o, upd_same⟩
    · rw [List.getElem?_set_ne (Ne.symm hj)] at h3
      have hb : b ≠ a := fun z => by
        subst z
        exact hj (w.inj h2 h1)
      exact (w.cell j b c h2 h3).upTo (ext_new hf) (fun z => by rw [upd_ne hb]; exact z) (fun _ => rfl) fun q q1 q2 q3 => ⟨by rw [upd_ne (fun (z : q = a) => q1 (by rw [z]; exact List.mem_of_getElem? h1))]; exact q2, rfl, q1⟩
  · by_cases hj : j = n
    · subst hj
      rw [List.getElem?_set_self (by rw [← w.len]; exact (List.getElem?_eq_some_iff.mp h1).1)] at h3
      cases h3
      rfl
    · rw [List.getElem?_set_ne (Ne.symm hj)] at h3
      exact w.gen j c h3
def exitD (n0 : Nat) (d : D) (m : Mu) : Out D := if d.inB n0 then .ok d (m.take n0) else match d with
  | .loc n => match m[n]? with
    | some (.lst xs) => if D.inL n0 xs then .ok (.lst xs) (m.take n0) else .stuck
    | some (.ins c gs) => if D.inF n0 gs then .ok (.obj c gs) (m.take n0) else .stuck
    | _ => .stuck
  | _ => .stuck
theorem exit_ok {W : XK} {F0 : Hp} {al0 : List Addr} {Q : VK} {n0 : Nat} {d : D} {v : V} (w : Wd K F al m H) (e : Le F0 al0 F al) (h0 : al0.length = n0) (r : Rp K F al d v) (p : Post K (RD K) W F0 al0 Q (exitD n0 d m)) : Q v H := by
  unfold exitD at p
  split at p
  · rename_i hb
    exact p v H F (al.take n0) (e.cut (Nat.le_of_eq h0)) (w.cut n0) (r.cut hb)
  · rename_i hb
    split at p
    · rename_i n
      have hn : n0 ≤ n := by
        rw [D.inB, decide_eq_true_eq] at hb
        omega
      cases r with
      | @loc _ a s =>
      split at p
      · rename_i xs hc
        obtain ⟨hf, vs, h1, h2⟩ := w.cell n a _ s hc
        split at p
        · rename_i hi
          exact p _ H (upd F a (.lst vs)) (al.take n0) ((e.trans (ext_new hf)).cut (Nat.le_of_eq h0)) (w.frz s h1 hf hn) (.lst upd_same ((h2.cut hi).up (ext_new hf)))
        · exact p.elim
      · rename_i cn gs hc
        obtain ⟨hf, dx, fs, h1, h2⟩ := w.cell n a _ s hc
        split at p
        · rename_i hi
          exact p _ H (upd F a _) (al.take n0) ((e.trans (ext_new hf)).cut (Nat.le_of_eq h0)) (w.frz s h1 hf hn) (.obj upd_same ((h2.cut hi).up (ext_new hf)))
        · exact p.elim
      · exact p.elim
    · exact p.elim
end

/-! ### defs -/
abbrev Fn := List D → Mu → Out D
def spOf (K : PySem.W.Frag) (n : Nat) (G : Fn) : Sp := fun vs H Q E => ∃ ds m F al, ds.length = n ∧ RpL K F al ds vs ∧ Wd K F al m H ∧ Post K (RD K) E F al Q (G ds m)
def rho0 (n : Nat) (ds : List D) : Rho := ds.map some ++ List.replicate (n - ds.length) none
def fnOf (n : Nat) (keep : Bool) (g : XS) : Fn := fun ds m => match g (rho0 n ds) m with
  | .next _ m' => .ok .non (m'.take m.length)
  | .ret d m' => if keep then .ok d m' else exitD m.length d m'
  | .exc c fs _ m' => if D.inF m.length fs then .exc c fs (m'.take m.length) else .stuck
  | _ => .stuck
theorem env0_ok {K : PySem.W.Frag} {F : Hp} {al : List Addr} {N : List Str} {ds : List D} {vs : List V} (h : RpL K F al ds vs) : EnvOk K F al (rho0 N.length ds) (L2.start N vs) := by
  have hl := h.len
  refine ⟨by unfold rho0 L2.start; simp [hl], fun i d e => ?_⟩
  unfold rho0 at e
  by_cases hi : i < ds.length
  · rw [List.getElem?_append_left (by simpa using hi), List.getElem?_map] at e
    cases q : ds[i]? with
    | none => rw [q] at e; cases e
    | some d' =>
      rw [q] at e
      cases e
      obtain ⟨v, h1, h2⟩ := h.get q
      refine ⟨v, ?_, h2⟩
      unfold L2.start
      rw [List.getElem?_append_left (by simpa [← hl] using hi), List.getElem?_map, h1]
      rfl
  · rw [List.getElem?_append_right (by simpa using hi), List.getElem?_replicate] at e
    split at e <;> cases e
abbrev wOf (E : XK) : WX := fun cls d _ H => E cls d H
/-- a def's static context -/
structure Base where
  P : Program
  w : World
  K : PySem.W.Frag
  mg : Str → Option Value
  base : Heap
abbrev Base.at (b : Base) (N : List Str) (sc : Scope) (k : Nat) (gd : Bool) : SC := ⟨b.P, b.w, b.K, b.mg, b.base, N, sc, k, fun _ => true, gd, true, none, true, none, 0⟩
abbrev Base.Ok (b : Base) (k : Nat) (f : Addr) (fd : FuncData) (ps : List Str) (G : Fn) : Prop := FnOk b.P b.w b.K b.mg b.base (L2.CX b.P b.w) k f fd ps (spOf b.K ps.length G)
theorem fn_body {b : Base} {N ps : List Str} {sc : Scope} {k : Nat} {body : List Stmt} {g : XS} {keep : Bool} {E : XK} {Q : VK} {y : Dyn} {vs : List V} {H : Hp} (h : DSs (b.at N sc k false) (wOf E) body g) (hy : OkD (b.at N sc k false) (wOf E) y) (hsp : spOf b.K ps.length (fnOf N.length keep g) vs H Q E) :
    ∃ t, PSs ((b.at N sc k false).cx y) body t ∧ t { nx := fun _ H' => Q .non H', rt := Q } (L2.start N vs) H := by
  obtain ⟨t, h1, h2⟩ := h
  obtain ⟨ds, m, F, al, hl, r, w, p⟩ := hsp
  refine ⟨t, h1 y hy, h2 (rho0 N.length ds) m (L2.start N vs) H F al _ (env0_ok r) w ?_⟩
  unfold fnOf at p
  cases q : g (rho0 N.length ds) m with
  | next r' m' =>
    rw [q] at p
    exact fun σ' H' F' al' e w' _ => p _ H' F' (al'.take m.length) (e.cut (Nat.le_of_eq w.len)) (w'.cut _) .non
  | ret d m' =>
    rw [q] at p
    intro v H' F' al' e w' rv
    cases keep with
    | true => exact p v H' F' al' e w' rv
    | false => exact exit_ok w' e w.len rv p
  | exc c fs r' m' =>
    rw [q] at p
    intro dd σ' H' F' al' gs e w' _ hg hd
    have p' : Post b.K (RD b.K) E F al Q (if D.inF m.length fs = true then .exc c fs (m'.take m.length) else .stuck) := p
    split at p'
    · rename_i hi
      exact p' dd H' F' (al'.take m.length) gs (e.cut (Nat.le_of_eq w.len)) (w'.cut _) (hg.cut hi) hd
    · exact p'.elim
  | brk _ _ => rw [q] at p; exact p.elim
  | cont _ _ => rw [q] at p; exact p.elim
  | stuck => rw [q] at p; exact p.elim
theorem RpL.lenV {K : PySem.W.Frag} {n : Nat} {G : Fn} {vs : List V} {H : Hp} {Q : VK} {E : XK} (h : spOf K n G vs H Q E) : vs.length = n := by
  obtain ⟨ds, m, F, al, hl, r, _⟩ := h
  rw [← r.len]; exact hl
theorem fn_ok {b : Base} {x qual : Str} {params : Arguments} {body : List Stmt} {scope : Scope} {dvs : List V} {kws : List (Str × V)} {f : Addr} {fd : FuncData} {N ps : List Str} {k : Nat} {g : XS} (keep : Bool) (D : FunD b.K x qual params body scope dvs kws f fd) (S : FnScope N ps scope)
    (h : ∀ E : XK, DSs (b.at N scope k false) (wOf E) body g) : b.Ok (k + 1) f fd ps (fnOf N.length keep g) := by
  refine D.ok S (fun vs H Q E hsp => RpL.lenV hsp) (fun cdv A outer s H vs Q E hr hsp => ?_)
  let y : Dyn := { A := A.deeper (envOfC qual scope s.heap.objs.size f cdv), s_0 := s, H_0 := H, env := envOfC qual scope s.heap.objs.size f cdv, outer := outer, stack := envOfC qual scope s.heap.objs.size f cdv :: outer, ex := [], fn := fun _ => true, pn := [], xe := (cxOf (L2.CX b.P b.w) b.P b.w b.K b.mg b.base N qual scope f cdv A outer s H E).xe }
  have ht : Takes ((b.at N scope k false).cx y) (wOf E) := takes_of (X := (b.at N scope k false).cx y) (E := E) rfl rfl rfl rfl
  have hy : OkD (b.at N scope k false) (wOf E) y := ⟨rfl, L2H.roomH_of hr, fun _ => hr.hd, ht, fun _ _ => rfl, (fun z => nomatch z), passes_of (X := (b.at N scope k false).cx y) rfl, (fun _ _ z => nomatch z), (fun _ => ⟨rfl, rfl, rfl⟩), (fun _ z => nomatch z), fun z => absurd z (Nat.lt_irrefl 0)⟩
  exact fn_body (h E) hy hsp
end DS

namespace DS
open PySem PySem.Spec PyProof.Rows L2
section
variable {c : SC} {W : WX} {pos : Pos} {a b e : Expr} {fa fb fe : XE'}
/-! ### o[i] -/
section
variable {K : PySem.W.Frag} {F : Hp} {al : List Addr}
theorem RpL.atI {ds : List D} {vs : List V} {i : Int} {d : D} (h : RpL K F al ds vs) (e : atI ds i = some d) : ∃ v, L2.atI vs i = some v ∧ Rp K F al d v := by
  unfold L2.atI at e ⊢
  rw [← h.len]
  cases q : ixN ds.length i with
  | none => rw [q] at e; cases e
  | some j =>
    rw [q] at e
    exact h.get e
end
def ixD (d e : D) (m : Mu) : Out D := match e with
  | .int i => (match d with
    | .tup xs => (match L2.atI xs i with
      | some v => .ok v m
      | none => .stuck)
    | .str z => if z.length ≤ sizeLine then (match L2.atI z.cps.toList i with
      | some k => .ok (.str ⟨#[k]⟩) m
      | none => .stuck) else .stuck
    | d => (match lstOf m d with
      | some xs => (match L2.atI xs i with
        | some v => .ok v m
        | none => .stuck)
      | none => .stuck))
  | _ => .stuck
theorem ix_ok {W : XK} {d e : D} {m : Mu} {x y : V} {H F : Hp} {al : List Addr} {Q : VK} {K : PySem.W.Frag} (hw : Wd K F al m H) (r1 : Rp K F al d x) (r2 : Rp K F al e y) (p : Post K (RD K) W F al Q (ixD d e m)) : rIx K x y H Q := by
  unfold ixD at p
  split at p
  · cases r2
    split at p
    · cases r1 with
      | @tup q vs _ s r =>
      split at p
      · rename_i v h
        obtain ⟨u, h1, h2⟩ := r.atI h
        exact .inr (.inl ⟨q, vs, _, u, rfl, rfl, sqt_up hw.sub s, h1, p _ H F al Le.refl hw h2⟩)
      · exact p.elim
    · cases r1
      split at p
      · rename_i hz
        split at p
        · rename_i k h
          exact .inr (.inr ⟨_, _, k, rfl, rfl, hz, h, p _ H F al Le.refl hw (.str _)⟩)
        · exact p.elim
      · exact p.elim
    · split at p
      · rename_i xs hx
        obtain ⟨q, vs, rfl, s, r⟩ := lstOf_ok hw r1 hx
        split at p
        · rename_i v h
          obtain ⟨u, h1, h2⟩ := r.atI h
          exact .inl ⟨q, vs, _, u, rfl, rfl, s, h1, p _ H F al Le.refl hw h2⟩
        · exact p.elim
      · exact p.elim
  · exact p.elim
theorem de_ix (ha : DE c W a fa) (hb : DE c W b fb) (hs : PlainIx b := by exact fun _ _ => rfl) : DE c W (.Subscript a b pos) (xOp ixD fa fb) := by
  obtain ⟨t, a1, a2⟩ := ha
  obtain ⟨u, b1, b2⟩ := hb
  refine ⟨tOp (rIx c.K) t u, fun y hy => pe_ix (X := c.cx y) ix_seq (a1 y hy) (b1 y hy) hs, fun ρ m σ H F al Q he hw p => ?_⟩
  exact a2 ρ m σ H F al _ he hw (Post.step p fun x m1 v H1 F1 al1 e1 w1 q1 p1 => b2 ρ m1 σ H1 F1 al1 _ (he.up e1) w1
    (Post.step p1 fun z m2 u H2 F2 al2 e2 w2 q2 p2 => ix_ok w2 (q1.up e2) q2 p2))
/-! ### o[i:j] -/
def cutD (xs : List D) (lo hi : Option Int) : List D := (xs.drop (HT.sIx xs.length 0 lo)).take (HT.sIx xs.length xs.length hi - HT.sIx xs.length 0 lo)
abbrev XO := Rho → Mu → Out (Option Int)
def DO (c : SC) (W : WX) (e : Option Expr) (f : XO) : Prop := ∃ t : TO, (∀ y, OkD c W y → PO (c.cx y) e t) ∧
  ∀ r m σ H F al Q, EnvOk c.K F al r σ → Wd c.K F al m H → Post c.K (fun _ _ (x y : Option Int) => x = y) (atS W σ) F al Q (f r m) → t σ H Q
def xoN : XO := fun _ m => .ok none m
def asI : D → Mu → Out (Option Int)
  | .int i, m => .ok (some i) m
  | _, _ => .stuck
def xoS (a : XE') : XO := fun r m => (a r m).bind asI
theorem do_none : DO c W none xoN := ⟨_, fun _ _ => po_none, fun _ _ _ H F al Q _ hw p => p none H F al Le.refl hw rfl⟩
theorem do_some (ha : DE c W e fe) : DO c W (some e) (xoS fe) := by
  obtain ⟨t, a1, a2⟩ := ha
  refine ⟨_, fun y hy => po_some (a1 y hy), fun ρ m σ H F al Q he hw p => ?_⟩
  refine a2 ρ m σ H F al _ he hw (Post.step p fun x m1 v H1 F1 al1 e1 w1 q1 p1 => ?_)
  cases q1 with
  | int i => exact ⟨i, rfl, p1 _ H1 F1 al1 Le.refl w1 rfl⟩
  | _ => exact p1.elim
def slD (d : D) (lo hi : Option Int) (m : Mu) : Out D := match d with
  | .tup xs => .ok (.tup (cutD xs lo hi)) m
  | .str z => if z.length ≤ sizeLine then .ok (.str (cutS z lo hi)) m else .stuck
  | d => match lstOf m d with
    | some xs => .ok (.lst (cutD xs lo hi)) m
    | none => .stuck
theorem cut_rp {K : PySem.W.Frag} {F : Hp} {al : List Addr} {xs : List D} {vs : List V} (h : RpL K F al xs vs) (lo hi : Option Int) : RpL K F al (cutD xs lo hi) (cutV vs lo hi) := by
  unfold cutD cutV
  rw [h.len]
  exact (h.drop _).take _
theorem SlR.or {X : Cx} {r r' : V → Option Int → Option Int → Hp → VK → Prop} (h : SlR X r) (h' : SlR X r') : SlR X fun x lo hi H Q => r x lo hi H Q ∨ r' x lo hi H Q :=
  fun pins s σ H x v vl vu lo hi sl Q I rx is p1 p2 q => q.elim (fun q => h pins s σ H x v vl vu lo hi sl Q I rx is p1 p2 q) fun q => h' pins s σ H x v vl vu lo hi sl Q I rx is p1 p2 q
def xSl (a : XE') (lo hi : XO) : XE' := fun r m => (a r m).bind fun d m1 => (lo r m1).bind fun l m2 => (hi r m2).bind fun h m3 => slD d l h m3
theorem de_sl {lo hi : Option Expr} {fl fh : XO} {p2 : Pos} (ha : DE c W a fa) (hl : DO c W lo fl) (hh : DO c W hi fh) : DE c W (.Subscript a (.Slice lo hi none p2) pos) (xSl fa fl fh) := by
  obtain ⟨t, a1, a2⟩ := ha
  obtain ⟨tl, l1, l2⟩ := hl
  obtain ⟨th, h1, h2⟩ := hh
  refine ⟨tSl (fun x lo hi H Q => (rSlL c.K x lo hi H Q ∨ rSlA c.K x lo hi H Q) ∨ rSlS x lo hi H Q) t tl th, fun y hy => pe_slice (X := c.cx y) ((sl_list.or sl_tupA).or sl_str) (a1 y hy) (l1 y hy) (h1 y hy), fun ρ m σ H F al Q he hw p => ?_⟩
  refine a2 ρ m σ H F al _ he hw (Post.step p fun x m1 v H1 F1 al1 e1 w1 q1 p1 => ?_)
  refine l2 ρ m1 σ H1 F1 al1 _ (he.up e1) w1 (Post.step p1 fun l m2 l' H2 F2 al2 e2 w2 q2 p2 => ?_)
  cases q2
  refine h2 ρ m2 σ H2 F2 al2 _ ((he.up e1).up e2) w2 (Post.step p2 fun h m3 h' H3 F3 al3 e3 w3 q3 p3 => ?_)
  cases q3
  have q1 := (q1.up e2).up e3
  unfold slD at p3
  split at p3
  · cases q1 with
    | @tup q vs _ s r =>
    refine .inl (.inr ⟨q, vs, rfl, sqt_up w3.sub s, fun z => ?_, fun _ n hn => p3 _ _ (upd F3 n _) al3 (ext_new (w3.fnone hn)) (w3.new hn) (.tup (.of upd_same) ((cut_rp r l h).up (ext_new (w3.fnone hn))))⟩)
    have ec : cutV vs l h = vs := by
      unfold cutV
      rw [z.1, z.2, Nat.sub_zero, List.drop_zero, List.take_length]
    have := cut_rp r l h
    rw [ec] at this
    exact p3 _ H3 F3 al3 Le.refl w3 (.tup s this)
  · cases q1
    split at p3
    · rename_i hz
      exact .inr ⟨_, rfl, hz, p3 _ H3 F3 al3 Le.refl w3 (.str _)⟩
    · exact p3.elim
  · split at p3
    · rename_i xs hx
      obtain ⟨q, vs, rfl, s, r⟩ := lstOf_ok w3 q1 hx
      exact .inl (.inl ⟨q, vs, rfl, s, fun n hn => p3 _ _ (upd F3 n _) al3 (ext_new (w3.fnone hn)) (w3.new hn) (.lst upd_same ((cut_rp r l h).up (ext_new (w3.fnone hn))))⟩)
    · exact p3.elim
/-! ### o.f -/
def insOf (m : Mu) : D → Option (Str × List (Str × D))
  | .obj c gs => some (c, gs)
  | .loc n => match m[n]? with
    | some (.ins c gs) => some (c, gs)
    | _ => none
  | _ => none
theorem insOf_ok {K : PySem.W.Frag} {F : Hp} {al : List Addr} {m : Mu} {H : Hp} {d : D} {v : V} {cn : Str} {gs : List (Str × D)} (w : Wd K F al m H) (r : Rp K F al d v) (h : insOf m d = some (cn, gs)) :
    ∃ q dx fs, v = .ref q ∧ H q = some (.ins (He.ga K cn) dx fs) ∧ RpF K F al gs fs := by
  cases r with
  | obj s q => cases h; exact ⟨_, _, _, rfl, w.sub _ _ s, q⟩
  | @loc n a s =>
    unfold insOf at h
    cases e : m[n]? with
    | none => simp [e] at h
    | some cl =>
      cases cl with
      | ins c' gs' =>
        simp [e] at h
        obtain ⟨rfl, rfl⟩ := h
        obtain ⟨_, dx, fs, h1, h2⟩ := w.cell n a _ s e
        exact ⟨a, dx, fs, rfl, h1, h2⟩
      | lst _ => simp [e] at h
      | dct _ => simp [e] at h
      | dead => simp [e] at h
      | tab q => simp [e] at h
      | opn _ _ _ => simp [e] at h
      | dtt _ => simp [e] at h
  | _ => simp [insOf] at h
def fldD (cn f : Str) (d : D) (m : Mu) : Out D := match insOf m d with
  | some (c', gs) => if c' = cn then (match gs.lookup f with
    | some v => .ok v m
    | none => .stuck) else .stuck
  | none => .stuck
def xFld (cn f : Str) (a : XE') : XE' := fun r m => (a r m).bind (fldD cn f)
theorem de_fld {cn f : Str} (hc : Cls c.K (He.ga c.K cn)) (hn : NoAttr c.K (He.ga c.K cn) f) (ha : DE c W a fa) (hb : ∀ env, attributeBase a f env (eval a env) = eval a env := by intro _; rfl) : DE c W (.Attribute a f pos) (xFld cn f fa) := by
  obtain ⟨t, a1, a2⟩ := ha
  refine ⟨tFld c.K t f, fun y hy => pe_fld (a1 y hy) (hb _), fun ρ m σ H F al Q he hw p => ?_⟩
  refine a2 ρ m σ H F al _ he hw (Post.step p fun x m1 v H1 F1 al1 e1 w1 q1 p1 => ?_)
  unfold fldD at p1
  split at p1
  · rename_i c' gs hi
    split at p1
    · rename_i hc'
      subst hc'
      obtain ⟨q, dx, fs, rfl, h1, h2⟩ := insOf_ok w1 q1 hi
      split at p1
      · rename_i d hd
        obtain ⟨u, h3, h4⟩ := (h2.look (x := f)).2 d hd
        exact ⟨q, _, dx, fs, u, rfl, h1, hc, hn, h3, p1 _ H1 F1 al1 Le.refl w1 h4⟩
      · exact p1.elim
    · exact p1.elim
  · exact p1.elim
/-! ### calls -/
variable {es : List Expr} {fr : XA} {x : Str} {p0 apos : Pos} {k : Nat} {f : Addr} {fd : FuncData} {ps : List Str} {G : Fn}
abbrev FOk (c : SC) (k : Nat) (f : Addr) (fd : FuncData) (ps : List Str) (G : Fn) : Prop := FnOk c.P c.w c.K c.mg c.base (L2.CX c.P c.w) k f fd ps (spOf c.K ps.length G)
def xCall (G : Fn) (a : XA) : XE' := fun r m => (a r m).bind G
theorem de_call (hF : FOk c k f fd ps G) (hm : c.mg x = some (.ref f)) (hk : PySem.W.keepIn c.K (.ref f) = true) (hb : Binds c.K fd ps []) (ha : DA c W (e :: es) fr) (hr : k ≤ c.k := by first | exact Nat.le_of_ble_eq_true rfl | exact Nat.le_refl _ | exact Nat.le_add_right _ _) (hcm : c.calm = true := by rfl) (hl : (e :: es).length = ps.length := by rfl) (hg : c.sc.names.lookup x = some .globalImplicit := by rfl)
    (hdb : (x == ("__debug__" : Str)) = false := by decide) (hs : ∀ env, starEach (e :: es) env = (false, eval e env) :: starEach es env := by intro _; rfl) (hpl : ∀ env, (backTo pos (starEach es env)).any (·.1) = false := by intro _; rfl) : DE c W (.Call (.Name x p0) (e :: es) [] pos) (xCall G fr) := by
  obtain ⟨⟨t, a1, a2⟩, hlen⟩ := ha
  refine ⟨tCallSD (spOf c.K ps.length G) [] (WE W) t, fun y hy => pe_callSD (X := c.cx y) hF (hy.rm hcm hr) (hy.gl hg) hm hk hb .nil (fun σ => passAt hy.takes σ) (a1 y hy) hdb (hs _) (hpl _), fun ρ m σ H F al Q he hw p => ?_⟩
  refine a2 ρ m σ H F al _ he hw (Post.step (p.lenA fun ds m' e => hlen ρ m ds m' e) fun ds m1 vs H1 F1 al1 e1 w1 q1 p1 => ?_)
  split at p1
  · rename_i hn
    exact ⟨ds, m1, F1, al1, hn.trans hl, by rw [List.append_nil]; exact q1, w1, p1⟩
  · exact p1.elim
/-- nothing of the caller's names is asked where an error is wanted -/
def Plain (W : WX) : Prop := ∀ cls d σ σ' H, W cls d σ H → W cls d σ' H
theorem Plain.of (E : XK) : Plain (wOf E) := fun _ _ _ _ _ h => h
abbrev allS (W : WX) : XK := fun cls d H => ∀ σ, W cls d σ H
/-! ### calls whose errors are wanted at the caller's names -/
section
variable {X : Cx} {CX : CXT} {k : Nat} {f C : Addr} {fd : FuncData} {ps : List Str} {sp : Sp} {E : L2.St → XK} {m : Str} {pos apos : Pos} {e o : Expr} {es : List Expr} {ta : TE} {t : TA}
def tMethS (C : Addr) (m : Str) (sp : Sp) (E : L2.St → XK) (ta : TE) (t : TA) : TE := fun σ H Q => ta σ H fun w H1 => ∃ a dx fs, w = .ref a ∧ H1 a = some (.ins C dx fs) ∧ fs.lookup m = none ∧ t σ H1 fun vs H2 => sp (w :: vs) H2 Q (E σ)
theorem pe_methS {pl : Sem Bool} (ho : PE X o ta) (hC : Cls X.K C) (hM : Meth X.K C m f) (F : FnOk X.prog X.w X.K X.mg X.base CX k f fd ps sp) (hr : Room k X.A) (hb : Binds X.K fd ps []) (hx : ∀ σ, PassesAt CX X σ (E σ)) (ha : PA X (e :: es) t)
    (hst : starEach (e :: es) X.env = (false, eval e X.env) :: starEach es X.env) (hpl : (backTo pos (starEach es X.env)).any (·.1) = false)
    (ht : eval (.Call (.Attribute o m apos) (e :: es) [] pos) X.env = (do
      let ov ← eval o X.env
      standAt apos.atName
      let (f, first) ← holding [ov] (getMethod ov m pl)
      callWith pos f first (backTo pos (starEach (e :: es) X.env)) (backToKw pos (keywordEach [] X.env)))) : PE X (.Call (.Attribute o m apos) (e :: es) [] pos) (tMethS C m sp E ta t) :=
  ⟨fun pins s σ H Q I h => PySem.W.methodCall_KW (pl := pl) (thn (ho.run pins s σ H _ I h) fun u s1 ⟨w, H1, I1, rw', a, dx, fs, ew, ea, hl, q⟩ => by
    subst ew
    obtain rfl : u = Value.ref a := rw'
    refine getmeth_ok I1 ea hC hM hl (PySem.W.callWith_K (first := [.ref a]) (h₀ := X.base) I.ok.mod.kin hM.kp (thn (ha.run pos pins s1 σ H1 _ I1 q) fun us s2 ⟨vs, H2, I2, r, q2⟩ => ⟨I2.kIn, ?_⟩) hst hpl)
    exact run_fnS (us := .ref a :: us) (vs := .ref a :: vs) F hr hb (hx σ) I2 (.cons rfl r) q2) ht⟩
/-- a new object: B tells how the values are bound -/
theorem run_mkS {pins : List (Addr × Obj)} {σ : L2.St} {H : Hp} {s : Shared} {Q : VK} {us : List Value} {kw : List (Str × Value)} {B : Addr → List Value} {Bv : Addr → List V} (M : Mk X.K C f) (F : FnOk X.prog X.w X.K X.mg X.base CX k f fd ps sp) (hr : Room (k + 1) X.A)
    (hb : ∀ (s : Shared) (x : Addr), X.K.In s.heap → BindsTo s fd ⟨.ref x :: us, kw⟩ (ps.zip (B x))) (hx : PassesAt CX X σ (E σ)) (I : Inv X pins σ H s) (r : ∀ x, Vals (Bv x) (B x))
    (h : ∀ x dx, H x = none → H dx = none → dx ≠ x → sp (Bv x) (upd (upd H dx (.own x)) x (.ins C dx [])) (fun v H2 => v = .non ∧ Q (.ref x) H2) (E σ)) : wpAny (model X.prog X.w) X.A (call (.ref C) us kw) (EP X pins σ Q) X.xe s := by
  have J := Inv.made (C := C) I
  have n1 : H (s.heap.objs.size + 1) = none := I.hok.fresh (Nat.le_succ _)
  have n2 : H s.heap.objs.size = none := I.hok.fresh (Nat.le_refl _)
  refine wpAny_call (make_map (f := f) I.kIn M.makes M.init (beq_iff_eq.mp M.fn) (codeAny_mono (F.run _ X.stack _ _ ⟨Value.ref (s.heap.objs.size + 1) :: us, kw⟩ _ _ _ (E σ) (hr.make C us kw) (J.env0.make C us kw) (hb _ _ J.kIn) (r _)
    (h _ _ n1 n2 (Nat.ne_of_lt (Nat.lt_succ_self _)))) fun y s' q => ?_))
  rcases y with e | (_ | _ | _ | u)
  · exact hx pins _ _ e s' J q
  · exact False.elim q
  · exact False.elim q
  · exact False.elim q
  · obtain ⟨v, H', J3, rv, ev, q3⟩ := J.after q
    subst ev
    exact ⟨rv, ⟨V.ref (s.heap.objs.size + 1), H', J3, rfl, q3⟩⟩
end
/-- o.m(e, ..) -/
def xMeth (cn m : Str) (G : Fn) (o : XE') (a : XA) : XE' := fun r mu => (o r mu).bind fun d m1 => match insOf m1 d with
  | some (c', gs) => if c' = cn ∧ gs.lookup m = none then (a r m1).bind fun ds m2 => G (d :: ds) m2 else .stuck
  | none => .stuck
theorem de_meth {o : Expr} {fo : XE'} {cn m : Str} (hF : FOk c k f fd ps G) (hc : Cls c.K (He.ga c.K cn)) (hm : Meth c.K (He.ga c.K cn) m f) (hb : Binds c.K fd ps []) (ho : DE c W o fo) (ha : DA c W (e :: es) fr) (hr : k ≤ c.k := by first | exact Nat.le_of_ble_eq_true rfl | exact Nat.le_refl _ | exact Nat.le_add_right _ _) (hcm : c.calm = true := by rfl) (hl : (e :: es).length + 1 = ps.length := by rfl)
    (hs : ∀ env, starEach (e :: es) env = (false, eval e env) :: starEach es env := by intro _; rfl) (hpl : ∀ env, (backTo pos (starEach es env)).any (·.1) = false := by intro _; rfl)
    (ht : ∀ env, ∃ pl : Sem Bool, eval (.Call (.Attribute o m apos) (e :: es) [] pos) env = (do
      let ov ← eval o env
      standAt apos.atName
      let (f, first) ← holding [ov] (getMethod ov m pl)
      callWith pos f first (backTo pos (starEach (e :: es) env)) (backToKw pos (keywordEach [] env))) := by intro _; exact ⟨_, rfl⟩) : DE c W (.Call (.Attribute o m apos) (e :: es) [] pos) (xMeth cn m G fo fr) := by
  obtain ⟨to, o1, o2⟩ := ho
  obtain ⟨⟨t, a1, a2⟩, hlen⟩ := ha
  refine ⟨tMethS (He.ga c.K cn) m (spOf c.K ps.length G) (WE W) to t, fun y hy => ?_, fun ρ mu σ H F al Q he hw p => ?_⟩
  · obtain ⟨pl, ht⟩ := ht (c.cx y).env
    exact pe_methS (X := c.cx y) (pl := pl) (o1 y hy) hc hm hF (hy.rm hcm hr) hb (fun σ => passAt hy.takes σ) (a1 y hy) (hs _) (hpl _) ht
  · refine o2 ρ mu σ H F al _ he hw (Post.step p fun d m1 v H1 F1 al1 e1 w1 q1 p1 => ?_)
    split at p1
    · rename_i c' gs hi
      obtain ⟨q, dx, fs, rfl, h1, h2⟩ := insOf_ok w1 q1 hi
      split at p1
      · rename_i hcl
        obtain ⟨rfl, hlk⟩ := hcl
        refine ⟨q, dx, fs, rfl, h1, (h2.look (x := m)).1 hlk, a2 ρ m1 σ H1 F1 al1 _ (he.up e1) w1 (Post.step (p1.lenA fun ds m' e => hlen ρ m1 ds m' e) fun ds m2 vs H2 F2 al2 e2 w2 q2 p2 => ?_)⟩
        split at p2
        · rename_i hn
          exact ⟨d :: ds, m2, F2, al2, by rw [List.length_cons, hn]; exact hl, .cons (q1.up e2) q2, w2, p2⟩
        · exact p2.elim
      · exact p1.elim
    · exact p1.elim
/-- o.p, a property -/
def xProp (cn : Str) (G : Fn) (o : XE') : XE' := fun r mu => (o r mu).bind fun d m1 => match insOf m1 d with
  | some (c', _) => if c' = cn then (match G [d] m1 with
    | .exc _ _ _ => .stuck
    | q => q) else .stuck
  | none => .stuck
/-- C(e, ..): a new object -/
def madeD (cn : Str) (frz : Bool) (n : Nat) (d : D) (m2 : Mu) : Out D := match d with
  | .non => (match m2[n]? with
    | some (.ins c' gs) => if c' = cn then (if frz then .ok (.obj cn gs) (m2.take n) else .ok (.loc n) m2) else .stuck
    | _ => .stuck)
  | _ => .stuck
def makeD (cn : Str) (G : Fn) (frz : Bool) (ds : List D) (m1 : Mu) : Out D := (G (.loc m1.length :: ds) (m1 ++ [.ins cn []])).bind (madeD cn frz m1.length)
def xMake (cn : Str) (G : Fn) (frz : Bool) (a : XA) : XE' := fun r m => (a r m).bind (makeD cn G frz)
theorem make_ok {K : PySem.W.Frag} {E : XK} {F : Hp} {al : List Addr} {m : Mu} {H : Hp} {Q : VK} {cn : Str} {n : Nat} {frz : Bool} {ds : List D} {vs : List V} (hl : ds.length + 1 = n) (w : Wd K F al m H) (r : RpL K F al ds vs) (p : Post K (RD K) E F al Q (makeD cn G frz ds m)) (x dx : Addr) (hx : H x = none) (hdx : H dx = none) (hne : dx ≠ x) :
    spOf K n G (.ref x :: vs) (upd (upd H dx (.own x)) x (.ins (He.ga K cn) dx [])) (fun v H2 => v = .non ∧ Q (.ref x) H2) E := by
  have w1 : Wd K F al m (upd H dx (.own x)) := w.junk hdx
  have hx1 : upd H dx (.own x) x = none := by rw [upd_ne (Ne.symm hne)]; exact hx
  have w2 : Wd K F (al ++ [x]) (m ++ [.ins cn []]) (upd (upd H dx (.own x)) x (.ins (He.ga K cn) dx [])) := w1.newCell hx1 ⟨w.fnone hx, dx, [], upd_same, .nil⟩ rfl
  have hlast : (al ++ [x])[m.length]? = some x := by rw [← w.len, List.getElem?_append_right (Nat.le_refl _), Nat.sub_self]; rfl
  refine ⟨.loc m.length :: ds, m ++ [.ins cn []], F, al ++ [x], by rw [List.length_cons]; exact hl, .cons (.loc hlast) (r.up Le.snoc), w2, ?_⟩
  unfold makeD at p
  cases e : G (.loc m.length :: ds) (m ++ [.ins cn []]) with
  | stuck => rw [e] at p; exact p.elim
  | exc c' fs' m' =>
    rw [e] at p
    exact fun dd H' F' al' gs e' => p dd H' F' al' gs (Le.snoc.trans e')
  | ok d m2 =>
    rw [e] at p
    intro v H2 F2 al2 e2 w3 q3
    have e3 : Le F al F2 al2 := Le.snoc.trans e2
    have hx2 : al2[m.length]? = some x := e2.a _ _ hlast
    have p3 : Post K (RD K) E F al Q (madeD cn frz m.length d m2) := p
    unfold madeD at p3
    cases q3 with
    | non =>
      refine ⟨rfl, ?_⟩
      simp only at p3
      split at p3
      · rename_i c' gs hcell
        split at p3
        · rename_i hc
          subst hc
          obtain ⟨hf, dx', fs, h1, h2⟩ := w3.cell _ _ _ hx2 hcell
          cases frz with
          | true =>
            have hg : D.inF m.length gs = true := w3.gen _ _ hcell
            exact p3 _ H2 (upd F2 x (.ins (He.ga K c') dx' fs)) (al2.take m.length) ((e3.trans (ext_new hf)).cut (Nat.le_of_eq w.len)) (w3.frz hx2 h1 hf (Nat.le_refl _)) (.obj upd_same ((h2.cut hg).up (ext_new hf)))
          | false => exact p3 _ H2 F2 al2 e3 w3 (.loc hx2)
        · exact p3.elim
      · exact p3.elim
    | _ => exact p3.elim
def tMakeS (C : Addr) (sp : Sp) (dvs : List V) (n : Nat) (E : L2.St → XK) (t : TA) : TE := fun σ H Q => t σ H fun vs H1 => vs.length + dvs.length + 1 = n ∧ ∀ x dx, H1 x = none → H1 dx = none → dx ≠ x → sp (.ref x :: (vs ++ dvs)) (upd (upd H1 dx (.own x)) x (.ins C dx [])) (fun v H2 => v = .non ∧ Q (.ref x) H2) (E σ)
theorem pe_makeS {X : Cx} {CX : CXT} {f C : Addr} {sp : Sp} {E : L2.St → XK} {p : Pos} {t : TA} {ds : List Value} {dvs : List V} (M : Mk X.K C f) (F : FnOk X.prog X.w X.K X.mg X.base CX k f fd ps sp) (hr : Room (k + 1) X.A) (hg : Gl X x) (hm : X.mg x = some (.ref C)) (hb : Binds X.K fd ps ds) (hd : Vals dvs ds) (hx : ∀ σ, PassesAt CX X σ (E σ)) (ha : PA X (e :: es) t)
    (hdb : (x == ("__debug__" : Str)) = false) (he : starEach (e :: es) X.env = (false, eval e X.env) :: starEach es X.env) (hpl : (backTo pos (starEach es X.env)).any (·.1) = false) : PE X (.Call (.Name x p) (e :: es) [] pos) (tMakeS C sp dvs ps.length E t) := by
  refine ⟨fun pins s σ H Q I h => wpAny_Call_Name_kw (ld_glob I hg hm ?_ hdb)⟩
  refine PySem.W.callWith_K (h₀ := X.base) I.ok.mod.kin M.kp (thn (ha.run pos pins s σ H _ I h) fun us s1 ⟨vs, H1, I1, r, hn, q⟩ => ⟨I1.kIn, ?_⟩) he hpl
  refine run_mkS (B := fun z => .ref z :: us ++ ds) (Bv := fun z => .ref z :: (vs ++ dvs)) M F hr (fun s2 z kI => hb s2 (.ref z :: us) kI ?_) (hx σ) I1 (fun z => .cons rfl (r.append hd)) q
  have l1 := r.length
  have l2 := hd.length
  show (us ++ ds).length + 1 = ps.length
  rw [List.length_append]
  omega
theorem de_make {cn : Str} {frz : Bool} (hF : FOk c k f fd ps G) (hM : Mk c.K (He.ga c.K cn) f) (hm : c.mg x = some (.ref (He.ga c.K cn))) (hb : Binds c.K fd ps []) (ha : DA c W (e :: es) fr) (hr : k + 1 ≤ c.k := by first | exact Nat.le_of_ble_eq_true rfl | exact Nat.le_refl _ | exact Nat.le_add_right _ _) (hcm : c.calm = true := by rfl) (hl : (e :: es).length + 1 = ps.length := by rfl) (hg : c.sc.names.lookup x = some .globalImplicit := by rfl)
    (hdb : (x == ("__debug__" : Str)) = false := by decide) (hs : ∀ env, starEach (e :: es) env = (false, eval e env) :: starEach es env := by intro _; rfl) (hpl : ∀ env, (backTo pos (starEach es env)).any (·.1) = false := by intro _; rfl) : DE c W (.Call (.Name x p0) (e :: es) [] pos) (xMake cn G frz fr) := by
  obtain ⟨⟨t, a1, a2⟩, hlen⟩ := ha
  refine ⟨tMakeS (He.ga c.K cn) (spOf c.K ps.length G) [] ps.length (WE W) t, fun y hy => pe_makeS (X := c.cx y) hM hF (hy.rm hcm hr) (hy.gl hg) hm hb .nil (fun σ => passAt hy.takes σ) (a1 y hy) hdb (hs _) (hpl _), fun ρ m σ H F al Q he hw p => ?_⟩
  refine a2 ρ m σ H F al _ he hw (Post.step (p.lenA fun ds m' e => hlen ρ m ds m' e) fun ds m1 vs H1 F1 al1 e1 w1 q1 p1 => ?_)
  split at p1
  · rename_i hn
    refine ⟨by rw [← q1.len, hn]; exact hl, fun x dx hx hdx hne => ?_⟩
    rw [List.append_nil]
    exact make_ok (by rw [hn]; exact hl) w1 q1 p1 x dx hx hdx hne
  · exact p1.elim
end
end DS

namespace DS
open PySem PySem.Spec PyProof.Rows L2
section
variable {c : SC} {W : WX} {pos : Pos} {a b e : Expr} {fa fb fe : XE'} {ft : XT} {st : Stmt} {rest sa sb : List Stmt} {g u v : XS}
/-! ### blocks, small statements -/
def sNil : XS := fun r m => .next r m
def sSeq (f g : XS) : XS := fun r m => match f r m with
  | .next r' m' => g r' m'
  | o => o
theorem dss_nil : DSs c W [] sNil := ⟨tNext, fun _ _ => pss_nil, fun r m σ H F al E he hw p => p σ H F al Le.refl hw he⟩
theorem dss_one (h : DSt c W st g) : DSs c W [st] g := by
  obtain ⟨t, h1, h2⟩ := h
  exact ⟨t, fun y hy => pss_one (h1 y hy), h2⟩
theorem dss_cons (h : DSt c W st g) (h' : DSs c W rest u) : DSs c W (st :: rest) (sSeq g u) := by
  obtain ⟨t, h1, h2⟩ := h
  obtain ⟨t', h1', h2'⟩ := h'
  refine ⟨tSeq t t', fun y hy => pss_cons (h1 y hy) (h1' y hy), fun r m σ H F al E he hw p => ?_⟩
  refine h2 r m σ H F al { E with nx := t' E } he hw ?_
  unfold sSeq at p
  cases q : g r m with
  | next r' m' =>
    rw [q] at p
    exact fun σ' H' F' al' e w' he' => h2' r' m' σ' H' F' al' E he' w' (p.up e)
  | brk r' m' => rw [q] at p; exact p
  | cont r' m' => rw [q] at p; exact p
  | ret d m' => rw [q] at p; exact p
  | exc _ _ _ _ => rw [q] at p; exact p
  | stuck => rw [q] at p; exact p
def sNever : XS := fun _ _ => .stuck
theorem ds_never : DSt c W st sNever := ⟨tNever, fun _ _ => ps_never, fun r m σ H F al E he hw p => p.elim⟩
def sExpr (f : XE') : XS := fun r m => (f r m).stm r fun _ m1 => .next r m1
theorem ds_expr (h : DE c W e fe) (hs : ∀ env, swapsWith e none pos.line env = pure false := by intro _; rfl) : DSt c W (.Expr e pos) (sExpr fe) := by
  obtain ⟨t, h1, h2⟩ := h
  refine ⟨tDrop t, fun y hy => ps_expr (h1 y hy) (hs _), fun r m σ H F al E he hw p => ?_⟩
  exact h2 r m σ H F al _ he hw (PostS.step he p fun d m1 v H1 F1 al1 e1 w1 q1 p1 => p1 σ H1 F1 al1 Le.refl w1 (he.up e1))
def sRet (f : XE') : XS := fun r m => (f r m).stm r fun d m1 => .ret d m1
theorem ds_ret (h : DE c W e fe) : DSt c W (.Return (some e) pos) (sRet fe) := by
  obtain ⟨t, h1, h2⟩ := h
  refine ⟨tRet t, fun y hy => ps_ret (h1 y hy), fun r m σ H F al E he hw p => ?_⟩
  exact h2 r m σ H F al _ he hw (PostS.step he p fun d m1 v H1 F1 al1 e1 w1 q1 p1 => p1 v H1 F1 al1 Le.refl w1 q1)
def sIf (t : XT) (f g : XS) : XS := fun r m => (t r m).stm r fun k m1 => if k then f r m1 else g r m1
theorem ds_if (ht : DT c W e ft) (ha : DSs c W sa u) (hb : DSs c W sb v) : DSt c W (.If e sa sb pos) (sIf ft u v) := by
  obtain ⟨t, t1, t2⟩ := ht
  obtain ⟨ta, a1, a2⟩ := ha
  obtain ⟨tb, b1, b2⟩ := hb
  refine ⟨tIfS t ta tb, fun y hy => ps_if (t1 y hy) (a1 y hy) (b1 y hy), fun r m σ H F al E he hw p => ?_⟩
  refine t2 r m σ H F al _ he hw (PostS.step he p fun k m1 k' H1 F1 al1 e1 w1 q1 p1 => ?_)
  cases q1
  cases k with
  | true => exact a2 r m1 σ H1 F1 al1 E (he.up e1) w1 p1
  | false => exact b2 r m1 σ H1 F1 al1 E (he.up e1) w1 p1

/-! ### targets -/
abbrev XG := D → Rho → Mu → Out Rho
abbrev XGs := List D → Rho → Mu → Out Rho
/-- names' values, all but the slots vs as before -/
abbrev RE (K : PySem.W.Frag) (vs : List Nat) (σ : L2.St) : Hp → List Addr → Rho → L2.St → Prop := fun F al r σ' => EnvOk K F al r σ' ∧ wipe σ' vs = wipe σ vs
def DG (c : SC) (W : WX) (vs : List Nat) (tg : Expr) (g : XG) : Prop := ∃ t : TG, (∀ y, OkD c W y → PG (c.cx y) tg t) ∧
  ∀ d x r m σ H F al Q, EnvOk c.K F al r σ → Wd c.K F al m H → Rp c.K F al d x → Post c.K (RE c.K vs σ) (atS W σ) F al Q (g d r m) → t x σ H Q
def DGs (c : SC) (W : WX) (vs : List Nat) (tg : List Expr) (g : XGs) : Prop := ∃ t : TGs, (∀ y, OkD c W y → PGs (c.cx y) tg t) ∧
  ∀ ds xs r m σ H F al Q, EnvOk c.K F al r σ → Wd c.K F al m H → RpL c.K F al ds xs → Post c.K (RE c.K vs σ) (atS W σ) F al Q (g ds r m) → t xs σ H Q
theorem wipe_set {i : Nat} {x : Option V} : ∀ {vs : List Nat} {σ : L2.St}, i ∈ vs → wipe (σ.set i x) vs = wipe σ vs
  | [], _, h => by simp at h
  | v :: vs, σ, h => by
    unfold wipe
    rcases List.mem_cons.mp h with e | h
    · subst e
      by_cases hi : i ∈ vs
      · rw [wipe_set hi]
      · have wn : ∀ (vs : List Nat) (σ : L2.St), i ∉ vs → (wipe (σ.set i x) vs) = (wipe σ vs).set i x := fun vs => by
          induction vs with
          | nil => intro σ _; rfl
          | cons w ws ih =>
            intro σ hn
            have h1 : i ≠ w := fun z => hn (by simp [z])
            have h2 : i ∉ ws := fun z => hn (by simp [z])
            show (wipe (σ.set i x) ws).set w none = ((wipe σ ws).set w none).set i x
            rw [ih σ h2, List.set_comm _ _ h1]
        rw [wn vs σ hi, List.set_set]
    · rw [wipe_set h]
def gNm (i : Nat) : XG := fun d r m => .ok (r.set i (some d)) m
theorem dg_name (i : Nat) {x : Str} {vs : List Nat} (hN : c.N.Nodup) (hi : c.N[i]? = some x := by rfl) (hx : L2.Loc c.sc x := by first | exact .inl rfl | exact .inr rfl) (hf : c.fnB x = true ∨ c.sc.names.lookup x = some .local := by first | exact .inr rfl | exact .inl rfl) (hv : i ∈ vs := by simp) : DG c W vs (.Name x pos) (gNm i) := by
  refine ⟨gName i, fun y hy => pg_name hN hi (hy.loc hx) ?_, fun d v r m σ H F al Q he hw q p => ?_⟩
  · rcases hf with z | z
    · exact .inl (hy.fn x z)
    · refine .inr ?_
      have e : (c.cx y).env.scope = c.sc := hy.scope
      rw [e]; exact z
  · exact p _ H F al Le.refl hw ⟨he.set i q, wipe_set hv⟩
def gsNil : XGs := fun ds r m => match ds with
  | [] => .ok r m
  | _ => .stuck
def gsCons (g : XG) (gs : XGs) : XGs := fun ds r m => match ds with
  | d :: ds => (g d r m).bind fun r1 m1 => gs ds r1 m1
  | [] => .stuck
theorem dgs_nil {vs : List Nat} : DGs c W vs [] gsNil := by
  refine ⟨gNil, fun y hy => pgs_nil, fun ds xs r m σ H F al Q he hw q p => ?_⟩
  cases q with
  | nil => exact ⟨rfl, p σ H F al Le.refl hw ⟨he, rfl⟩⟩
  | cons _ _ => exact p.elim
theorem dgs_cons {vs : List Nat} {g : XG} {gs : XGs} {es : List Expr} (hW : Plain W) (h : DG c W vs e g) (h' : DGs c W vs es gs) (hs : ∀ env, (assignEach (e :: es) env).map (·.2) = assign e env :: (assignEach es env).map (·.2) := by intro _; rfl) : DGs c W vs (e :: es) (gsCons g gs) := by
  obtain ⟨t, h1, h2⟩ := h
  obtain ⟨t', h1', h2'⟩ := h'
  refine ⟨gCons t t', fun y hy => pgs_cons (h1 y hy) (h1' y hy) (hs _), fun ds xs r m σ H F al Q he hw q p => ?_⟩
  cases q with
  | nil => exact p.elim
  | @cons d v ds vs' q1 q2 =>
    refine ⟨v, vs', rfl, h2 d v r m σ H F al _ he hw q1 (Post.step p fun r1 m1 σ1 H1 F1 al1 e1 w1 qe p1 => ?_)⟩
    refine h2' ds vs' r1 m1 σ1 H1 F1 al1 _ qe.1 w1 (q2.up e1) ?_
    cases o : gs ds r1 m1 with
    | ok r2 m2 => rw [o] at p1; exact fun σ2 H2 F2 al2 e2 w2 q2 => p1 σ2 H2 F2 al2 e2 w2 ⟨q2.1, q2.2.trans qe.2⟩
    | exc cc fs m2 => rw [o] at p1; exact fun dd H' F' al' gs' e' w' r' z => hW _ _ _ _ _ (p1 dd H' F' al' gs' e' w' r' z)
    | stuck => rw [o] at p1; exact p1
def gTp (n : Nat) (g : XGs) : XG := fun d r m => match d with
  | .tup ds => if ds.length = n then g ds r m else .stuck
  | .lst ds => if ds.length = n then g ds r m else .stuck
  | _ => .stuck
theorem PG.or {X : Cx} {tg : Expr} {t t' : TG} (h : PG X tg t) (h' : PG X tg t') : PG X tg (fun v σ H Q => t v σ H Q ∨ t' v σ H Q) :=
  ⟨fun pins s σ H v u Q I r q => q.elim (fun q => h.run pins s σ H v u Q I r q) fun q => h'.run pins s σ H v u Q I r q⟩
theorem dg_tup {vs : List Nat} {es : List Expr} {gs : XGs} {k : Nat} (n : Nat) (h : DGs c W vs es gs) (hn : ∀ env, (assignEach es env).length = n := by intro _; rfl) (hst : ∀ env, (assignEach es env).findIdx? (·.1) = none := by intro _; rfl) (hcm : c.calm = true := by rfl) : DG c W vs (.Tuple es k pos) (gTp n gs) := by
  obtain ⟨t, h1, h2⟩ := h
  refine ⟨fun v σ H Q => gTup c.K n t v σ H Q ∨ gLst c.K n t v σ H Q, fun y hy => PG.or (pg_tup (X := c.cx y) hcm (h1 y hy) (hn _) (hst _)) (pg_lst (X := c.cx y) hcm (h1 y hy) (hn _) (hst _)), fun d x r m σ H F al Q he hw q p => ?_⟩
  unfold gTp at p
  split at p
  · cases q with
    | @tup q' xs _ s q =>
    split at p
    · rename_i hl
      exact .inl ⟨q', xs, rfl, sqt_up hw.sub s, by rw [← q.len]; exact hl, h2 _ _ r m σ H F al Q he hw q p⟩
    · exact p.elim
  · cases q with
    | @lst q' xs _ s q =>
    split at p
    · rename_i hl
      exact .inr ⟨q', xs, rfl, .of (hw.sub _ _ s), by rw [← q.len]; exact hl, h2 _ _ r m σ H F al Q he hw q p⟩
    · exact p.elim
  · exact p.elim
/-- o[i] = .. -/
def setD (o i d : D) (m : Mu) : Out Unit := match o, i with
  | .loc n, .int k => (match m[n]? with
    | some (.lst xs) => (match ixN xs.length k with
      | some j => if d.inB n then .ok () (m.set n (.lst (xs.set j d))) else .stuck
      | none => .stuck)
    | _ => .stuck)
  | _, _ => .stuck
theorem inL_set {n : Nat} {d : D} (hd : d.inB n = true) : ∀ {xs : List D} {j : Nat}, D.inL n xs = true → D.inL n (xs.set j d) = true
  | [], _, _ => by rw [List.set_nil, D.inL]
  | x :: r, 0, h => by
    rw [D.inL, Bool.and_eq_true] at h
    show D.inL n (d :: r) = true
    rw [D.inL, hd, h.2]; rfl
  | x :: r, j + 1, h => by
    rw [D.inL, Bool.and_eq_true] at h
    show D.inL n (x :: r.set j d) = true
    rw [D.inL, h.1, inL_set hd h.2]; rfl
theorem inL_append {n : Nat} : ∀ {xs ys : List D}, D.inL n xs = true → D.inL n ys = true → D.inL n (xs ++ ys) = true
  | [], _, _, h => h
  | x :: r, _, h, h' => by
    rw [D.inL, Bool.and_eq_true] at h
    show D.inL n (x :: (r ++ _)) = true
    rw [D.inL, h.1, inL_append h.2 h']; rfl
def gSb (o i : XE') : XG := fun d r m => (o r m).bind fun ov m1 => (i r m1).bind fun iv m2 => (setD ov iv d m2).bind fun _ m3 => .ok r m3
theorem dg_sub {vs : List Nat} {o i : Expr} {fo fi : XE'} (ho : DE c W o fo) (hi : DE c W i fi) (ha : ∀ env v, assign (.Subscript o i pos) env v = (do
      let ov ← holding [v] (eval o env)
      let iv ← holding [v, ov] (eval i env)
      standAt pos
      holding [v, ov, iv] (setItem ov iv v)
      release [v, ov, iv] []) := by intro _ _; rfl) : DG c W vs (.Subscript o i pos) (gSb fo fi) := by
  obtain ⟨t, h1, h2⟩ := ho
  obtain ⟨t', h1', h2'⟩ := hi
  refine ⟨gSub t t' rSetL, fun y hy => pg_sub (h1 y hy) (h1' y hy) set_list (ha _), fun d x r m σ H F al Q he hw q p => ?_⟩
  refine h2 r m σ H F al _ he hw (Post.step p fun ov m1 ox H1 F1 al1 e1 w1 q1 p1 => ?_)
  refine h2' r m1 σ H1 F1 al1 _ (he.up e1) w1 (Post.step p1 fun iv m2 ix H2 F2 al2 e2 w2 q2 p2 => ?_)
  have he2 := (he.up e1).up e2
  have q := (q.up e1).up e2
  have q1 := q1.up e2
  unfold setD at p2
  cases q1 with
  | @loc n ad s =>
    cases q2 with
    | int kk =>
      simp only at p2
      cases hc : m2[n]? with
      | none => rw [hc] at p2; exact p2.elim
      | some cl =>
        cases cl with
        | lst xs =>
          rw [hc] at p2
          simp only at p2
          cases hj : ixN xs.length kk with
          | none => rw [hj] at p2; exact p2.elim
          | some j =>
            rw [hj] at p2
            simp only at p2
            obtain ⟨hf, ys, h3, h4⟩ := w2.cell n ad _ s hc
            by_cases hb : d.inB n = true
            · rw [if_pos hb] at p2
              have hg : D.inL n xs = true := w2.gen _ _ hc
              exact ⟨ad, ys, kk, j, rfl, rfl, h3, by rw [← h4.len]; exact hj, p2 σ _ F2 al2 Le.refl (w2.write s hf ⟨hf, _, upd_same, h4.set q j⟩ (inL_set hb hg)) ⟨he2, rfl⟩⟩
            · rw [if_neg hb] at p2; exact p2.elim
        | ins _ _ => rw [hc] at p2; exact p2.elim
        | dct _ => rw [hc] at p2; exact p2.elim
        | dead => rw [hc] at p2; exact p2.elim
        | tab _ => rw [hc] at p2; exact p2.elim
        | opn _ _ _ => rw [hc] at p2; exact p2.elim
        | dtt _ => rw [hc] at p2; exact p2.elim
    | _ => exact p2.elim
  | _ => exact p2.elim
def sAsg (f : XE') (g : XG) : XS := fun r m => (f r m).stm r fun d m1 => (g d r m1).stm r fun r' m2 => .next r' m2
theorem ds_asg {tg : Expr} {g : XG} (vs : List Nat) (h : DE c W e fe) (hg : DG c W vs tg g) (hs : ∀ env, env.scope = c.sc → swapsWithSole [tg] e pos.line env = pure false := by (intro env h; rfl)) (hw : ∀ env, env.scope = c.sc → swappedStores [tg] e env = pure none := by (intro env h; rfl))
    (ha : ∀ env, (assignEach [tg] env).map (·.2) = [assign tg env] := by intro _; rfl) : DSt c W (.Assign [tg] e pos) (sAsg fe g) := by
  obtain ⟨t, h1, h2⟩ := h
  obtain ⟨t', h1', h2'⟩ := hg
  refine ⟨tAsg t t', fun y hy => ps_asg (h1 y hy) (h1' y hy) (hs _ hy.scope) (hw _ hy.scope) (ha _), fun r m σ H F al E he hw p => ?_⟩
  refine h2 r m σ H F al _ he hw (PostS.step he p fun d m1 x H1 F1 al1 e1 w1 q1 p1 => ?_)
  refine h2' d x r m1 σ H1 F1 al1 _ (he.up e1) w1 q1 (PostS.step (he.up e1) p1 fun r' m2 σ2 H2 F2 al2 e2 w2 q2 p2 => ?_)
  exact p2 σ2 H2 F2 al2 Le.refl w2 q2.1
def sPar (i j : Nat) (a : XA) : XS := fun r m => (a r m).stm r fun ds m1 => match ds with
  | [x, y] => .next ((r.set i (some x)).set j (some y)) m1
  | _ => .stuck
theorem ds_par (i j : Nat) {x y : Str} {fr : XA} {px py pt : Pos} {kt k2 : Nat} {pt2 : Pos} (hN : c.N.Nodup) (h : DA c W [a, b] fr) (hi : c.N[i]? = some x := by rfl) (hj : c.N[j]? = some y := by rfl) (hij : i ≠ j := by decide) (hx : c.sc.names.lookup x = some .local := by rfl) (hy : c.sc.names.lookup y = some .local := by rfl)
    (hsw : ∀ env, env.scope = c.sc → swappedStores [.Tuple [.Name x px, .Name y py] kt pt] (.Tuple [a, b] k2 pt2) env = pure (some [x, y]) := by (intro env h; cases env; cases h; rfl))
    (hs : ∀ env, env.scope = c.sc → swapsWithSole [.Tuple [.Name x px, .Name y py] kt pt] (.Tuple [a, b] k2 pt2) pos.line env = pure false := by (intro env h; rfl)) (hcm : c.calm = true := by rfl) : DSt c W (.Assign [.Tuple [.Name x px, .Name y py] kt pt] (.Tuple [a, b] k2 pt2) pos) (sPar i j fr) := by
  obtain ⟨⟨t, h1, h2⟩, hl⟩ := h
  refine ⟨tPar i j t, fun z hz => ?_, fun r m σ H F al E he hw p => ?_⟩
  · have e : (c.cx z).env.scope = c.sc := hz.scope
    exact ps_par (X := c.cx z) hcm hN hi hj hij (by rw [e]; exact hx) (by rw [e]; exact hy) (h1 z hz) (hsw _ hz.scope) (hs _ hz.scope)
  · refine h2 r m σ H F al _ he hw (PostS.step he p fun ds m1 vs H1 F1 al1 e1 w1 q1 p1 => ?_)
    split at p1
    · cases q1 with
      | cons qa q =>
        cases q with
        | cons qb q =>
          cases q
          exact ⟨_, _, rfl, p1 _ H1 F1 al1 Le.refl w1 (((he.up e1).set i qa).set j qb)⟩
    · exact p1.elim
def sPar3 (i j l : Nat) (a : XA) : XS := fun r m => (a r m).stm r fun ds m1 => match ds with
  | [x, y, z] => .next (((r.set i (some x)).set j (some y)).set l (some z)) m1
  | _ => .stuck
end
end DS

namespace DS
open PySem PySem.Spec PyProof.Rows L2
section
variable {c : SC} {W : WX} {pos : Pos} {a b d e : Expr} {fa fb fe : XE'} {ft : XT} {st : Stmt} {sts : List Stmt} {g u v : XS}
theorem ds_par3 (i j l : Nat) {x y z : Str} {fr : XA} {px py pz pt : Pos} {kt k2 : Nat} {pt2 : Pos} (hN : c.N.Nodup) (h : DA c W [a, b, d] fr) (hi : c.N[i]? = some x := by rfl) (hj : c.N[j]? = some y := by rfl) (hl : c.N[l]? = some z := by rfl) (hij : i ≠ j := by decide) (hil : i ≠ l := by decide) (hjl : j ≠ l := by decide)
    (hx : c.sc.names.lookup x = some .local := by rfl) (hy : c.sc.names.lookup y = some .local := by rfl) (hz : c.sc.names.lookup z = some .local := by rfl)
    (hsw : ∀ env, env.scope = c.sc → swappedStores [.Tuple [.Name x px, .Name y py, .Name z pz] kt pt] (.Tuple [a, b, d] k2 pt2) env = pure (some [x, y, z]) := by (intro env h; cases env; cases h; rfl))
    (hs : ∀ env, env.scope = c.sc → swapsWithSole [.Tuple [.Name x px, .Name y py, .Name z pz] kt pt] (.Tuple [a, b, d] k2 pt2) pos.line env = pure false := by (intro env h; rfl)) (hcm : c.calm = true := by rfl) : DSt c W (.Assign [.Tuple [.Name x px, .Name y py, .Name z pz] kt pt] (.Tuple [a, b, d] k2 pt2) pos) (sPar3 i j l fr) := by
  obtain ⟨⟨t, h1, h2⟩, hln⟩ := h
  refine ⟨tPar3 i j l t, fun q hq => ?_, fun r m σ H F al E he hw p => ?_⟩
  · have e : (c.cx q).env.scope = c.sc := hq.scope
    exact ps_par3 (X := c.cx q) hcm hN hi hj hl hij hil hjl (by rw [e]; exact hx) (by rw [e]; exact hy) (by rw [e]; exact hz) (h1 q hq) (hsw _ hq.scope) (hs _ hq.scope)
  · refine h2 r m σ H F al _ he hw (PostS.step he p fun ds m1 vs H1 F1 al1 e1 w1 q1 p1 => ?_)
    split at p1
    · cases q1 with
      | cons qa q =>
        cases q with
        | cons qb q =>
          cases q with
          | cons qc q =>
            cases q
            exact ⟨_, _, _, rfl, p1 _ H1 F1 al1 Le.refl w1 ((((he.up e1).set i qa).set j qb).set l qc)⟩
    · exact p1.elim
/-! ### o.f = e -/
def putD (f : Str) (d : D) : List (Str × D) → List (Str × D)
  | [] => [(f, d)]
  | (x, y) :: r => if x = f then (x, d) :: r else (x, y) :: putD f d r
theorem put_rp {K : PySem.W.Frag} {F : Hp} {al : List Addr} {f : Str} {q : D} {w : V} (h : Rp K F al q w) : ∀ {gs : List (Str × D)} {fs : List (Str × V)}, RpF K F al gs fs → RpF K F al (putD f q gs) (putF f w fs)
  | _, _, .nil => .cons h .nil
  | _, _, .cons (x := x) r t => by
    unfold putD putF
    by_cases e : x = f
    · rw [if_pos e, if_pos e]; exact .cons h t
    · rw [if_neg e, if_neg e]; exact .cons r (put_rp h t)
theorem put_in {n : Nat} {f : Str} {q : D} (h : q.inB n = true) : ∀ {gs : List (Str × D)}, D.inF n gs = true → D.inF n (putD f q gs) = true
  | [], _ => by unfold putD; rw [D.inF, h, D.inF]; rfl
  | (x, y) :: r, t => by
    rw [D.inF, Bool.and_eq_true] at t
    unfold putD
    split
    · rw [D.inF, h, t.2]; rfl
    · rw [D.inF, t.1, put_in h t.2]; rfl
def putC (cn f : Str) (o q : D) (m : Mu) : Out Unit := match o with
  | .loc n => (match m[n]? with
    | some (.ins c' gs) => if c' = cn ∧ gs.length < 1000 ∧ q.inB n = true then .ok () (m.set n (.ins cn (putD f q gs))) else .stuck
    | _ => .stuck)
  | _ => .stuck
def sFl (cn f : Str) (o v : XE') : XS := fun r m => (v r m).stm r fun q m1 => (o r m1).stm r fun od m2 => (putC cn f od q m2).stm r fun _ m3 => .next r m3
theorem ds_fld {cn f : Str} {o val : Expr} {fo fv : XE'} {pos' : Pos} (hc : Cls c.K (He.ga c.K cn)) (hn : NoAttr c.K (He.ga c.K cn) f) (ho : DE c W o fo) (hv : DE c W val fv) (hs : ∀ env, env.scope = c.sc → swapsWith val (some (.Attribute o f pos')) pos.line env = pure false := by (intro env h; rfl)) : DSt c W (.Assign [.Attribute o f pos'] val pos) (sFl cn f fo fv) := by
  obtain ⟨t, h1, h2⟩ := ho
  obtain ⟨t', h1', h2'⟩ := hv
  refine ⟨sFld c.K t t' f, fun y hy => ps_fld (X := c.cx y) (h1 y hy) (h1' y hy) (hs _ hy.scope), fun r m σ H F al E he hw p => ?_⟩
  refine h2' r m σ H F al _ he hw (PostS.step he p fun q m1 x H1 F1 al1 e1 w1 q1 p1 => ?_)
  refine h2 r m1 σ H1 F1 al1 _ (he.up e1) w1 (PostS.step (he.up e1) p1 fun od m2 ox H2 F2 al2 e2 w2 q2 p2 => ?_)
  have q1 := q1.up e2
  unfold putC at p2
  cases q2 with
  | @loc n ad s =>
    simp only at p2
    cases hcl : m2[n]? with
    | none => rw [hcl] at p2; exact p2.elim
    | some cl =>
      cases cl with
      | ins c' gs =>
        rw [hcl] at p2
        simp only at p2
        obtain ⟨hf, dx, fs, h3, h4⟩ := w2.cell n ad _ s hcl
        by_cases hb : c' = cn ∧ gs.length < 1000 ∧ q.inB n = true
        · rw [if_pos hb] at p2
          obtain ⟨rfl, hl, hq⟩ := hb
          have hg : D.inF n gs = true := w2.gen _ _ hcl
          exact ⟨ad, _, dx, fs, rfl, h3, hc, hn, by rw [← h4.len]; exact hl, p2 σ _ F2 al2 Le.refl (w2.write s hf ⟨hf, dx, _, upd_same, put_rp q1 h4⟩ (put_in hq hg)) ((he.up e1).up e2)⟩
        · rw [if_neg hb] at p2; exact p2.elim
      | lst _ => rw [hcl] at p2; exact p2.elim
      | dct _ => rw [hcl] at p2; exact p2.elim
      | dead => rw [hcl] at p2; exact p2.elim
      | tab _ => rw [hcl] at p2; exact p2.elim
      | opn _ _ _ => rw [hcl] at p2; exact p2.elim
      | dtt _ => rw [hcl] at p2; exact p2.elim
  | _ => exact p2.elim
/-! ### x += e, o.f += e (ints) -/
def sAug (i : Nat) (f : XE') : XS := fun r m => match r[i]? with
  | some (some x) => (f r m).stm r fun y m1 => (match x, y with
    | .int p, .int q => .next (r.set i (some (.int (p + q)))) m1
    | _, _ => .stuck)
  | _ => .stuck
theorem ds_aug (i : Nat) {x : Str} {pos' : Pos} (hN : c.N.Nodup) (h : DE c W e fe) (hi : c.N[i]? = some x := by rfl) (hx : L2.Loc c.sc x := by first | exact .inl rfl | exact .inr rfl) (hf : c.fnB x = true ∨ c.sc.names.lookup x = some .local := by first | exact .inr rfl | exact .inl rfl) : DSt c W (.AugAssign (.Name x pos') .Add e pos) (sAug i fe) := by
  obtain ⟨t, h1, h2⟩ := h
  refine ⟨tAug i t (ipI fun i j => i + j), fun y hy => ps_aug hN hi (hy.loc hx) (h1 y hy) ip_add ?_, fun r m σ H F al E he hw p => ?_⟩
  · rcases hf with z | z
    · exact .inl (hy.fn x z)
    · refine .inr ?_
      have e : (c.cx y).env.scope = c.sc := hy.scope
      rw [e]; exact z
  · unfold sAug at p
    split at p
    · rename_i q hq
      obtain ⟨w, hv, rq⟩ := he.get i q hq
      refine ⟨w, hv, h2 r m σ H F al _ he hw (PostS.step he p fun z m1 x H1 F1 al1 e1 w1 q1 p1 => ?_)⟩
      split at p1
      · cases rq; cases q1
        exact ⟨_, _, rfl, rfl, p1 _ H1 F1 al1 Le.refl w1 ((he.up e1).set i (.int _))⟩
      · exact p1.elim
    · exact p.elim
/-! ### what is walked -/
structure Yld (K : PySem.W.Frag) (J : It) (xs : List D) (F : Hp) (al : List Addr) : Prop where
  go : ∀ (H : Hp) (F' : Hp) (al' : List Addr) (m : Mu) (i : Nat) (d : D), Le F al F' al' → Wd K F' al' m H → xs[i]? = some d →
    J.go i H ∧ ∀ x H', J.yld i H x H' → ∃ F2, Le F' al' F2 al' ∧ Wd K F2 al' m H' ∧ Rp K F2 al' d x
  stop : ∀ (H : Hp) (F' : Hp) (al' : List Addr) (m : Mu) (i : Nat), Le F al F' al' → Wd K F' al' m H → xs.length ≤ i → J.stop i H
def DI (c : SC) (W : WX) (tg iter : Expr) (f : XA) : Prop := ∃ wi : TI, (∀ y, OkD c W y → PI (c.cx y) tg iter wi) ∧
  ∀ r m σ H F al R, EnvOk c.K F al r σ → Wd c.K F al m H → Post c.K (fun F al xs J => Yld c.K J xs F al) (atS W σ) F al R (f r m) → wi σ H R
theorem PI.or {X : Cx} {tg it : Expr} {w w' : TI} (h : PI X tg it w) (h' : PI X tg it w') : PI X tg it (fun σ H R => w σ H R ∨ w' σ H R) :=
  ⟨fun pins s σ H R I q => q.elim (fun q => h.run pins s σ H R I q) fun q => h'.run pins s σ H R I q⟩
theorem SqL.fix {K : PySem.W.Frag} {F F' H : Hp} {al al' : List Addr} {m : Mu} {q : Addr} {vs : List V} (s : SqL K F q vs) (e : Le F al F' al') (w : Wd K F' al' m H) : SqL K H q vs := sql_up w.sub (sql_up e.f s)
theorem SqT.fix {K : PySem.W.Frag} {F F' H : Hp} {al al' : List Addr} {m : Mu} {q : Addr} {vs : List V} (s : SqT K F q vs) (e : Le F al F' al') (w : Wd K F' al' m H) : SqT K H q vs := sqt_up w.sub (sqt_up e.f s)
theorem yld_list {K : PySem.W.Frag} {F : Hp} {al : List Addr} {q : Addr} {vs : List V} {xs : List D} (s : SqL K F q vs) (r : RpL K F al xs vs) : Yld K (Itl K q) xs F al := by
  refine ⟨fun H F' al' m i d e w hd => ?_, fun H F' al' m i e w hi => ⟨vs, SqL.fix s e w, by rw [← r.len]; exact hi⟩⟩
  obtain ⟨x, h1, h2⟩ := r.get hd
  refine ⟨⟨vs, x, SqL.fix s e w, h1⟩, fun y H' hy => ?_⟩
  obtain ⟨rfl, hy⟩ := hy
  have := (hy vs (SqL.fix s e w)).symm.trans h1
  cases this
  exact ⟨F', Le.refl, w, h2.up e⟩
theorem yld_tup {K : PySem.W.Frag} {F : Hp} {al : List Addr} {q : Addr} {vs : List V} {xs : List D} (s : SqT K F q vs) (r : RpL K F al xs vs) : Yld K (Itt K q) xs F al := by
  refine ⟨fun H F' al' m i d e w hd => ?_, fun H F' al' m i e w hi => ⟨vs, SqT.fix s e w, by rw [← r.len]; exact hi⟩⟩
  obtain ⟨x, h1, h2⟩ := r.get hd
  refine ⟨⟨vs, x, SqT.fix s e w, h1⟩, fun y H' hy => ?_⟩
  obtain ⟨rfl, hy⟩ := hy
  have := (hy vs (SqT.fix s e w)).symm.trans h1
  cases this
  exact ⟨F', Le.refl, w, h2.up e⟩
/-- a list or a tuple that stands still, a text -/
def seqD : D → Mu → Out (List D)
  | .lst xs, m => .ok xs m
  | .fix xs, m => .ok xs m
  | .tup xs, m => .ok xs m
  | .str z, m => .ok (z.cps.toList.map fun k => .str ⟨#[k]⟩) m
  | _, _ => .stuck
def xiSeq (f : XE') : XA := fun r m => (f r m).bind seqD
theorem yld_str {K : PySem.W.Frag} {F : Hp} {al : List Addr} {z : Str} : Yld K (Its z) (z.cps.toList.map fun k => .str ⟨#[k]⟩) F al := by
  refine ⟨fun H F' al' m i d e w hd => ?_, fun H F' al' m i e w hi => ?_⟩
  · rw [List.getElem?_map] at hd
    cases hk : z.cps.toList[i]? with
    | none => rw [hk] at hd; cases hd
    | some k =>
      rw [hk] at hd
      cases hd
      have hk' : z.cps[i]? = some k := by rw [← Array.getElem?_toList]; exact hk
      refine ⟨(Array.getElem?_eq_some_iff.mp hk').1, fun x H' hy => ?_⟩
      obtain ⟨rfl, c', h1, rfl⟩ := hy
      rw [hk'] at h1
      cases h1
      exact ⟨F', Le.refl, w, .str _⟩
  · rw [List.length_map, Array.length_toList] at hi
    exact hi
theorem di_seq {tg : Expr} (h : DE c W e fe) : DI c W tg e (xiSeq fe) := by
  obtain ⟨t, h1, h2⟩ := h
  refine ⟨fun σ H R => (iList c.K t σ H R ∨ iTup c.K t σ H R) ∨ iStr t σ H R, fun y hy => PI.or (PI.or (pi_list (X := c.cx y) (h1 y hy)) (pi_tup (X := c.cx y) (h1 y hy))) (pi_str (h1 y hy)), fun r m σ H F al R he hw p => ?_⟩
  unfold xiSeq at p
  cases q : fe r m with
  | stuck => rw [q] at p; exact p.elim
  | exc cc fs m1 =>
    refine .inr (h2 r m σ H F al _ he hw ?_)
    rw [q] at p ⊢
    exact p
  | ok d m1 =>
    cases d with
    | str z =>
      refine .inr (h2 r m σ H F al _ he hw ?_)
      rw [q] at p ⊢
      intro x H1 F1 al1 e1 w1 q1
      cases q1
      exact ⟨z, rfl, p _ H1 F1 al1 e1 w1 yld_str⟩
    | tup xs =>
      refine .inl (.inr (h2 r m σ H F al _ he hw ?_))
      rw [q] at p ⊢
      intro x H1 F1 al1 e1 w1 q1
      cases q1 with
      | @tup q' vs _ s q2 => exact ⟨q', rfl, ⟨vs, sqt_up w1.sub s⟩, p _ H1 F1 al1 e1 w1 (yld_tup s q2)⟩
    | lst xs =>
      refine .inl (.inl (h2 r m σ H F al _ he hw ?_))
      rw [q] at p ⊢
      intro x H1 F1 al1 e1 w1 q1
      cases q1 with
      | @lst q' vs _ s q2 => exact ⟨q', rfl, ⟨vs, .of (w1.sub _ _ s)⟩, p _ H1 F1 al1 e1 w1 (yld_list (.of s) q2)⟩
    | fix xs =>
      refine .inl (.inl (h2 r m σ H F al _ he hw ?_))
      rw [q] at p ⊢
      intro x H1 F1 al1 e1 w1 q1
      cases q1 with
      | @fix q' vs _ s q2 => exact ⟨q', rfl, ⟨vs, sql_up w1.sub s⟩, p _ H1 F1 al1 e1 w1 (yld_list s q2)⟩
    | _ => rw [q] at p; exact p.elim
/-! range -/
def rngL (lo : Int) (n : Nat) : List D := (List.range n).map fun (i : Nat) => .int (lo + (i : Int))
theorem yld_rng {K : PySem.W.Frag} {F : Hp} {al : List Addr} {lo : Int} {n : Nat} : Yld K (Itr lo n) (rngL lo n) F al := by
  refine ⟨fun H F' al' m i d e w hd => ?_, fun H F' al' m i e w hi => ?_⟩
  · unfold rngL at hd
    rw [List.getElem?_map] at hd
    cases hk : (List.range n)[i]? with
    | none => rw [hk] at hd; cases hd
    | some k =>
      rw [hk] at hd
      cases hd
      obtain ⟨h1, h2⟩ := List.getElem?_eq_some_iff.mp hk
      rw [List.length_range] at h1
      rw [List.getElem_range] at h2
      subst h2
      refine ⟨h1, fun x H' hy => ?_⟩
      obtain ⟨rfl, rfl⟩ := hy
      exact ⟨F', Le.refl, w, .int _⟩
  · unfold rngL at hi
    rw [List.length_map, List.length_range] at hi
    exact hi
def rngD1 (ds : List D) (m : Mu) : Out (List D) := match ds with
  | [.int j] => if -(2 ^ 62) ≤ j ∧ j < 2 ^ 62 then .ok (rngL 0 j.toNat) m else .stuck
  | _ => .stuck
def rngD2 (ds : List D) (m : Mu) : Out (List D) := match ds with
  | [.int i, .int j] => if -(2 ^ 62) ≤ i ∧ i < 2 ^ 62 ∧ -(2 ^ 62) ≤ j ∧ j < 2 ^ 62 then .ok (rngL i (j - i).toNat) m else .stuck
  | _ => .stuck
def xiRng1 (f : XA) : XA := fun r m => (f r m).bind rngD1
def xiRng2 (f : XA) : XA := fun r m => (f r m).bind rngD2
theorem di_range1 {tg : Expr} {fr : XA} {p0 : Pos} (hm : c.mg "range" = none) (h : DA c W [a] fr) (hg : c.sc.names.lookup ("range" : Str) = some .globalImplicit := by rfl) (hs : ∀ env, starEach [a] env = [(false, eval a env)] := by intro _; rfl) : DI c W tg (.Call (.Name "range" p0) [a] [] pos) (xiRng1 fr) := by
  obtain ⟨⟨t, h1, h2⟩, _⟩ := h
  refine ⟨iRng1 t, fun y hy => pi_range1 (hy.gl hg) hm (h1 y hy) (hs _), fun r m σ H F al R he hw p => ?_⟩
  refine h2 r m σ H F al _ he hw (Post.step p fun ds m1 vs H1 F1 al1 e1 w1 q1 p1 => ?_)
  unfold rngD1 at p1
  split at p1
  · cases q1 with
    | cons qa q =>
      cases q; cases qa
      split at p1
      · rename_i hb
        exact ⟨_, rfl, hb.1, hb.2, p1 _ H1 F1 al1 Le.refl w1 yld_rng⟩
      · exact p1.elim
  · exact p1.elim
/-! enumerate of a list -/
def enumL : Nat → List D → List D
  | _, [] => []
  | i, x :: r => .tup [.int i, x] :: enumL (i + 1) r
theorem enumL_get : ∀ (xs : List D) (k i : Nat), (enumL k xs)[i]? = xs[i]?.map fun x => .tup [.int ((k + i : Nat) : Int), x]
  | [], _, _ => by simp [enumL]
  | x :: r, k, 0 => by simp [enumL]
  | x :: r, k, i + 1 => by
    rw [enumL, List.getElem?_cons_succ, List.getElem?_cons_succ, enumL_get r (k + 1) i, Nat.add_right_comm, Nat.add_assoc]
theorem enumL_len : ∀ (xs : List D) (k : Nat), (enumL k xs).length = xs.length
  | [], _ => rfl
  | _ :: r, k => by rw [enumL, List.length_cons, List.length_cons, enumL_len r]
theorem yld_enum {K : PySem.W.Frag} {F : Hp} {al : List Addr} {q : Addr} {vs : List V} {xs : List D} (s : SqL K F q vs) (r : RpL K F al xs vs) : Yld K (Ite K q) (enumL 0 xs) F al := by
  refine ⟨fun H F' al' m i d e w hd => ?_, fun H F' al' m i e w hi => ⟨vs, SqL.fix s e w, by rw [← r.len, ← enumL_len xs 0]; exact hi⟩⟩
  rw [enumL_get] at hd
  cases hx : xs[i]? with
  | none => rw [hx] at hd; cases hd
  | some z =>
    rw [hx] at hd
    cases hd
    obtain ⟨x, h1, h2⟩ := r.get hx
    refine ⟨⟨vs, x, SqL.fix s e w, h1⟩, fun y H' hy => ?_⟩
    obtain ⟨T, x', rfl, hT, rfl, hy⟩ := hy
    have := (hy vs (SqL.fix s e w)).symm.trans h1
    cases this
    have hf := w.fnone hT
    refine ⟨upd F' T _, ext_new hf, w.new hT, .tup (.of upd_same) (.cons ?_ (.cons ((h2.up e).up (ext_new hf)) .nil))⟩
    rw [Nat.zero_add]
    exact .int _
def enumD (ds : List D) (m : Mu) : Out (List D) := match ds with
  | [.lst xs] => .ok (enumL 0 xs) m
  | [.fix xs] => .ok (enumL 0 xs) m
  | _ => .stuck
def xiEnum (f : XA) : XA := fun r m => (f r m).bind enumD
/-! zip of two lists -/
def zipL : List D → List D → List D
  | x :: r, y :: s => .tup [x, y] :: zipL r s
  | _, _ => []
def zipD (ds : List D) (m : Mu) : Out (List D) := match ds with
  | [.lst xs, .lst ys] => .ok (zipL xs ys) m
  | _ => .stuck
def xiZip (f : XA) : XA := fun r m => (f r m).bind zipD
/-! ### for -/
def loopF (g : XG) (body : XS) : List D → Rho → Mu → SO
  | [], r, m => .next r m
  | x :: xs, r, m => (g x r m).stm r fun r1 m1 => match body r1 m1 with
    | .next r2 m2 => loopF g body xs r2 m2
    | .cont r2 m2 => loopF g body xs r2 m2
    | .brk r2 m2 => .next r2 m2
    | o => o
def sFor (f : XA) (g : XG) (body : XS) : XS := fun r m => (f r m).stm r fun xs m1 => loopF g body xs r m1
theorem ds_for {tg it : Expr} {fi : XA} {gt : XG} (vs : List Nat) (hi : DI c W tg it fi) (hg : DG c W vs tg gt) (hb : DSs c W sts g) (hs : ∀ env x, foldedSetIterable it env x = pure x := by intro _ _; rfl) (hcm : c.calm = true := by rfl) : DSt c W (.For tg it sts [] pos) (sFor fi gt g) := by
  obtain ⟨wi, i1, i2⟩ := hi
  obtain ⟨tg', g1, g2⟩ := hg
  obtain ⟨tb, b1, b2⟩ := hb
  refine ⟨tFor wi tg' tb, fun y hy => ps_for hy.own hcm (i1 y hy) (g1 y hy) (b1 y hy) (hs _), fun r m σ H F al E he hw p => ?_⟩
  refine i2 r m σ H F al _ he hw (PostS.step he p fun xs m1 J H1 F1 al1 e1 w1 q1 p1 => ?_)
  refine ⟨fun i k σ' H' => ∃ r' m' F' al', k = xs.length - i ∧ i ≤ xs.length ∧ Le F1 al1 F' al' ∧ Wd c.K F' al' m' H' ∧ EnvOk c.K F' al' r' σ' ∧ PostS c.K W F' al' E (loopF gt g (xs.drop i) r' m'),
    ⟨xs.length, r, m1, F1, al1, rfl, Nat.zero_le _, Le.refl, w1, he.up e1, p1⟩, ?_⟩
  rintro i k σ' H' ⟨r', m', F', al', rfl, hi, e', w', he', p'⟩
  by_cases hlt : i < xs.length
  · have hd : xs[i]? = some xs[i] := List.getElem?_eq_getElem hlt
    obtain ⟨hgo, hyl⟩ := q1.go H' F' al' m' i xs[i] e' w' hd
    refine .inr ⟨hgo, fun σ2 H2 => ∃ r2 m2 F2 al2, Le F1 al1 F2 al2 ∧ Wd c.K F2 al2 m2 H2 ∧ EnvOk c.K F2 al2 r2 σ2 ∧ PostS c.K W F2 al2 E (loopF gt g (xs.drop (i + 1)) r2 m2), fun σ2 H2 ⟨r2, m2, F2, al2, z1, z2, z3, z4⟩ => ⟨xs.length - (i + 1), by omega, r2, m2, F2, al2, rfl, hlt, z1, z2, z3, z4⟩, fun x H2 hy => ?_⟩
    obtain ⟨F2, e2, w2, q2⟩ := hyl x H2 hy
    rw [List.drop_eq_getElem_cons hlt] at p'
    refine g2 xs[i] x r' m' σ' H2 F2 al' _ (he'.up e2) w2 q2 (PostS.step (he'.up e2) (p'.up e2) fun r3 m3 σ3 H3 F3 al3 e3 w3 q3 p3 => ?_)
    refine b2 r3 m3 σ3 H3 F3 al3 _ q3.1 w3 ?_
    have up3 := (e'.trans e2).trans e3
    cases o : g r3 m3 with
    | next r4 m4 => rw [o] at p3; exact fun σ4 H4 F4 al4 e4 w4 he4 => ⟨r4, m4, F4, al4, up3.trans e4, w4, he4, p3.up e4⟩
    | cont r4 m4 => rw [o] at p3; exact fun σ4 H4 F4 al4 e4 w4 he4 => ⟨r4, m4, F4, al4, up3.trans e4, w4, he4, p3.up e4⟩
    | brk r4 m4 => rw [o] at p3; exact p3
    | ret d m4 => rw [o] at p3; exact p3
    | exc _ _ _ _ => rw [o] at p3; exact p3
    | stuck => rw [o] at p3; exact p3
  · have ei : i = xs.length := by omega
    subst ei
    rw [List.drop_length] at p'
    exact .inl ⟨q1.stop H' F' al' m' _ e' w' (Nat.le_refl _), p' σ' H' F' al' Le.refl w' he'⟩
/-! ### while -/
def loopW (t : XT) (body : XS) : Nat → Rho → Mu → SO
  | 0, _, _ => .stuck
  | n + 1, r, m => (t r m).stm r fun k m1 => if k then (match body r m1 with
    | .next r2 m2 => loopW t body n r2 m2
    | .cont r2 m2 => loopW t body n r2 m2
    | .brk r2 m2 => .next r2 m2
    | o => o) else .next r m1
end
end DS

namespace DS
open PySem PySem.Spec PyProof.Rows L2
/-! ### list comprehensions -/
def wipeR (r : Rho) : List Nat → Rho
  | [] => r
  | v :: vs => (wipeR r vs).set v none
theorem EnvOk.unset {K : PySem.W.Frag} {F : Hp} {al : List Addr} {r : Rho} {σ : L2.St} (h : EnvOk K F al r σ) (i : Nat) : EnvOk K F al (r.set i none) (σ.set i none) := by
  refine ⟨by rw [List.length_set, List.length_set]; exact h.len, fun j e hj => ?_⟩
  by_cases hij : j = i
  · subst hij
    have hl : j < r.length := by
      have := (List.getElem?_eq_some_iff.mp hj).1
      rw [List.length_set] at this
      exact this
    rw [List.getElem?_set_self hl] at hj
    cases hj
  · rw [List.getElem?_set_ne (Ne.symm hij)] at hj
    obtain ⟨w, a, b⟩ := h.get j e hj
    exact ⟨w, by rw [List.getElem?_set_ne (Ne.symm hij)]; exact a, b⟩
theorem EnvOk.wipe {K : PySem.W.Frag} {F : Hp} {al : List Addr} {r : Rho} {σ : L2.St} (h : EnvOk K F al r σ) : ∀ vs : List Nat, EnvOk K F al (wipeR r vs) (L2.wipe σ vs)
  | [] => h
  | v :: vs => (EnvOk.wipe h vs).unset v
def noW : WX := fun _ _ _ _ => False
def Out.ne {α : Type} : Out α → Out α
  | .exc _ _ _ => .stuck
  | o => o
theorem Post.stepN {δ ν δ' ν' : Type} {K : PySem.W.Frag} {R : Hp → List Addr → δ → ν → Prop} {R' : Hp → List Addr → δ' → ν' → Prop} {W W' : XK} {F0 F : Hp} {al0 al : List Addr} {Q : ν → Hp → Prop} {Q' : ν' → Hp → Prop} {o : Out δ} {k : δ → Mu → Out δ'}
    (h : Post K R' W' F0 al0 Q' (o.ne.bind k)) (hk : ∀ d m v H1 F1 al1, Le F al F1 al1 → Wd K F1 al1 m H1 → R F1 al1 d v → Post K R' W' F0 al0 Q' (k d m) → Q v H1) : Post K R W F al Q o := by
  cases o with
  | ok d m => exact fun v H' F' al' e w r => hk d m v H' F' al' e w r h
  | exc c fs m => exact h.elim
  | stuck => exact h.elim
def pushD (n : Nat) (d : D) (m : Mu) : Out Unit := match m[n]? with
  | some (.lst acc) => if d.inB n = true ∧ acc.length < sizeLine then .ok () (m.set n (.lst (acc ++ [d]))) else .stuck
  | _ => .stuck
def lcF (g : XG) (tt : XT) (te : XE') (n : Nat) (r0 : Rho) : List D → Mu → Out Unit
  | [], m => .ok () m
  | x :: xs, m => (g x r0 m).ne.bind fun r1 m1 => (tt r1 m1).ne.bind fun b m2 => if b then (te r1 m2).ne.bind fun d m3 => (pushD n d m3).bind fun _ m4 => lcF g tt te n r0 xs m4 else lcF g tt te n r0 xs m2
def lcEnd (n : Nat) (m : Mu) : Out D := match m[n]? with
  | some (.lst acc) => .ok (.lst acc) (m.take n)
  | _ => .stuck
def lcD (g : XG) (tt : XT) (te : XE') (r0 : Rho) (xs : List D) (m : Mu) : Out D := (lcF g tt te m.length r0 xs (m ++ [.lst []])).bind fun _ m2 => lcEnd m.length m2
def xLc (f : XA) (vs : List Nat) (g : XG) (tt : XT) (te : XE') : XE' := fun r m => (f r m).bind fun xs m1 => lcD g tt te (wipeR r vs) xs m1
def SC.blk (c : SC) (scope : Scope) : SC := { c with sc := relS scope c.sc, fnB := fun x => scope.names.lookup x == some .cell, hx := none, df := false, me := none }
def blkD (y : Dyn) (s : Shared) (H : Hp) (scope : Scope) (cenv : Env) (fp : List Addr) : Dyn := { A := y.A, s_0 := s, H_0 := H, env := cenv, outer := y.stack, stack := y.stack, ex := fp, fn := fun x => scope.names.lookup x == some .cell, pn := [], xe := fun _ _ => False }
theorem OkD.blk {c : SC} {W : WX} {y : Dyn} (hy : OkD c W y) (s : Shared) (H : Hp) (scope : Scope) (C : Addr) (cl : List (Str × Addr)) (fp : List Addr) : OkD (c.blk scope) noW (blkD y s H scope (compEnvC scope cl C y.env) fp) := by
  refine ⟨?_, hy.room, hy.hd, ?_, fun x h => h, hy.gd, PassesOwn.never, (fun _ _ z => nomatch z), (fun z => Bool.noConfusion (show false = true from z)), (fun _ z => nomatch z), hy.rj⟩
  · show relS scope y.env.scope = relS scope c.sc
    rw [hy.scope]
  · rintro u s' ⟨a, B, sI, pins, σ, H, cls, d, e, I, nb, up, sky, na, os, ag, w⟩
    exact w.elim
def xYes : XT := fun _ m => .ok true m
def DTs (c : SC) (W : WX) (ifs : List Expr) (f : XT) : Prop := ∃ t : TT, (∀ y, OkD c W y → PTs (c.cx y) ifs t) ∧
  ∀ r m σ H F al Q, EnvOk c.K F al r σ → Wd c.K F al m H → Post c.K RB (atS W σ) F al Q (f r m) → t σ H Q
section
variable {c : SC} {W : WX} {pos : Pos} {a b d e : Expr} {fa fb fe : XE'} {ft : XT}
theorem dts_nil : DTs c W [] xYes := ⟨tYes, fun _ _ => pts_nil, fun r m σ H F al Q he hw p => p true H F al Le.refl hw rfl⟩
theorem dts_one (h : DT c W e ft) : DTs c W [e] ft := by
  obtain ⟨t, h1, h2⟩ := h
  exact ⟨t, fun y hy => pts_one (h1 y hy), h2⟩
theorem lc_read {elt tg : Expr} {ifs : List Expr} {scope : Scope} {vs : List Nat} {gt : XG} {tt : XT} {te : XE'} {tg' : TG} {t2 : TT} {t3 : TE} {J : It} {xs : List D} {r : Rho} {m1 : Mu} {σ : L2.St} {H1 F1 : Hp} {al1 : List Addr} {Q : VK} {W' : XK}
    (g2 : ∀ d x r m σ H F al Q, EnvOk c.K F al r σ → Wd c.K F al m H → Rp c.K F al d x → Post c.K (RE c.K vs σ) (atS noW σ) F al Q (gt d r m) → tg' x σ H Q)
    (h2 : ∀ r m σ H F al Q, EnvOk c.K F al r σ → Wd c.K F al m H → Post c.K RB (atS noW σ) F al Q (tt r m) → t2 σ H Q)
    (h3 : ∀ r m σ H F al Q, EnvOk c.K F al r σ → Wd c.K F al m H → Post c.K (RD c.K) (atS noW σ) F al Q (te r m) → t3 σ H Q)
    (he : EnvOk c.K F1 al1 r σ) (w1 : Wd c.K F1 al1 m1 H1) (q1 : Yld c.K J xs F1 al1) (p : Post c.K (RD c.K) W' F1 al1 Q (lcD gt tt te (wipeR r vs) xs m1)) :
    ∀ D', H1 D' = none → ∃ Wv : Nat → Nat → Hp → Prop, (∃ k, Wv 0 k (upd H1 D' (.lst []))) ∧ ∀ i k H, Wv i k H →
      (J.stop i H ∧ Q (.ref D') H) ∨ (J.go i H ∧ ∃ Nx : Hp → Prop, (∀ H', Nx H' → ∃ k', k' < k ∧ Wv (i + 1) k' H') ∧ ∀ x H', J.yld i H x H' → tg' x (wipe σ vs) H' fun σ2 H2 => wipe σ2 vs = wipe σ vs ∧ t2 σ2 H2 fun b H3 =>
        if b = true then t3 σ2 H3 fun y H4 => ∃ acc, H4 D' = some (.lst acc) ∧ acc.length < sizeLine ∧ Nx (upd H4 D' (.lst (acc ++ [y]))) else Nx H3) := by
  intro D' hD
  have hlast : (al1 ++ [D'])[m1.length]? = some D' := by rw [← w1.len, List.getElem?_append_right (Nat.le_refl _), Nat.sub_self]; rfl
  have w0 : Wd c.K F1 (al1 ++ [D']) (m1 ++ [.lst []]) (upd H1 D' (.lst [])) := w1.newCell hD ⟨w1.fnone hD, [], upd_same, .nil⟩ rfl
  refine ⟨fun i k H' => ∃ m' F' al', k = xs.length - i ∧ i ≤ xs.length ∧ Le F1 (al1 ++ [D']) F' al' ∧ Wd c.K F' al' m' H' ∧ Post c.K (RD c.K) W' F1 al1 Q ((lcF gt tt te m1.length (wipeR r vs) (xs.drop i) m').bind fun _ m2 => lcEnd m1.length m2),
    ⟨xs.length, _, F1, al1 ++ [D'], rfl, Nat.zero_le _, Le.refl, w0, p⟩, ?_⟩
  rintro i k H' ⟨m', F', al', rfl, hi, e', w', p'⟩
  have e1' : Le F1 al1 F' al' := Le.snoc.trans e'
  by_cases hlt : i < xs.length
  · have hd : xs[i]? = some xs[i] := List.getElem?_eq_getElem hlt
    obtain ⟨hgo, hyl⟩ := q1.go H' F' al' m' i xs[i] e1' w' hd
    refine .inr ⟨hgo, fun H2 => ∃ m2 F2 al2, Le F1 (al1 ++ [D']) F2 al2 ∧ Wd c.K F2 al2 m2 H2 ∧ Post c.K (RD c.K) W' F1 al1 Q ((lcF gt tt te m1.length (wipeR r vs) (xs.drop (i + 1)) m2).bind fun _ m2 => lcEnd m1.length m2), fun H2 ⟨m2, F2, al2, z1, z2, z3⟩ => ⟨xs.length - (i + 1), by omega, m2, F2, al2, rfl, hlt, z1, z2, z3⟩, fun x H2 hy => ?_⟩
    obtain ⟨F2, e2, w2, q2⟩ := hyl x H2 hy
    rw [List.drop_eq_getElem_cons hlt, lcF] at p'
    have he2 : EnvOk c.K F2 al' (wipeR r vs) (wipe σ vs) := ((he.up e1').up e2).wipe vs
    refine g2 xs[i] x _ m' _ H2 F2 al' _ he2 w2 q2 (Post.stepN p'.assoc fun r3 m3 σ3 H3 F3 al3 e3 w3 q3 p3 => ?_)
    refine ⟨?_, h2 r3 m3 σ3 H3 F3 al3 _ q3.1 w3 (Post.stepN p3.assoc fun b m4 b' H4 F4 al4 e4 w4 q4 p4 => ?_)⟩
    · rw [q3.2]
      have wz : ∀ (ws : List Nat) (σ : L2.St), wipe (wipe σ ws) ws = wipe σ ws := fun ws σ => by
        apply List.ext_getElem?
        intro n
        have hl : ∀ (us : List Nat) (τ : L2.St), n ∈ us → n < τ.length → (wipe τ us)[n]? = some none := fun us => by
          induction us with
          | nil => intro τ h _; simp at h
          | cons u us ih =>
            intro τ h hn
            unfold L2.wipe
            by_cases hu : n = u
            · subst hu
              rw [List.getElem?_set_self (by rw [wipe_length]; exact hn)]
            · rw [List.getElem?_set_ne (Ne.symm hu)]
              exact ih τ ((List.mem_cons.mp h).resolve_left hu) hn
        have hr : ∀ (us : List Nat) (τ : L2.St), n ∉ us → (wipe τ us)[n]? = τ[n]? := fun us => by
          induction us with
          | nil => intro τ _; rfl
          | cons u us ih =>
            intro τ h
            unfold L2.wipe
            rw [List.getElem?_set_ne (fun z => h (by simp [z]))]
            exact ih τ fun z => h (by simp [z])
        by_cases hn : n ∈ ws
        · by_cases hlen : n < σ.length
          · rw [hl ws _ hn (by rw [wipe_length]; exact hlen), hl ws _ hn hlen]
          · rw [List.getElem?_eq_none_iff.mpr (by rw [wipe_length, wipe_length]; omega), List.getElem?_eq_none_iff.mpr (by rw [wipe_length]; omega)]
        · rw [hr ws _ hn]
      exact wz vs σ
    · cases q4
      have up4 : Le F1 (al1 ++ [D']) F4 al4 := ((e'.trans e2).trans e3).trans e4
      cases b with
      | false => exact ⟨m4, F4, al4, up4, w4, p4⟩
      | true =>
        show t3 σ3 H4 _
        have p4 : Post c.K (RD c.K) W' F1 al1 Q (((te r3 m4).ne.bind fun d m5 => (pushD m1.length d m5).bind fun _ m6 => lcF gt tt te m1.length (wipeR r vs) (xs.drop (i + 1)) m6).bind fun _ m2 => lcEnd m1.length m2) := p4
        refine h3 r3 m4 σ3 H4 F4 al4 _ (q3.1.up e4) w4 (Post.stepN p4.assoc fun q m5 y H5 F5 al5 e5 w5 q5 p5 => ?_)
        have up5 := up4.trans e5
        have hx5 : al5[m1.length]? = some D' := up5.a _ _ hlast
        unfold pushD at p5
        cases hc : m5[m1.length]? with
        | none => rw [hc] at p5; exact p5.elim
        | some cl =>
          cases cl with
          | ins _ _ => rw [hc] at p5; exact p5.elim
          | dct _ => rw [hc] at p5; exact p5.elim
          | dead => rw [hc] at p5; exact p5.elim
          | tab _ => rw [hc] at p5; exact p5.elim
          | opn _ _ _ => rw [hc] at p5; exact p5.elim
          | dtt _ => rw [hc] at p5; exact p5.elim
          | lst acc =>
            rw [hc] at p5
            simp only at p5
            obtain ⟨hf, ws, h4, h5⟩ := w5.cell _ _ _ hx5 hc
            by_cases hb : q.inB m1.length = true ∧ acc.length < sizeLine
            · rw [if_pos hb] at p5
              have hg : D.inL m1.length acc = true := w5.gen _ _ hc
              refine ⟨ws, h4, by rw [← h5.len]; exact hb.2, _, F5, al5, up5, w5.write (c := .lst (acc ++ [q])) hx5 hf ⟨hf, _, upd_same, h5.snoc q5⟩ (inL_append hg (by rw [D.inL, hb.1, D.inL]; rfl)), p5⟩
            · rw [if_neg hb] at p5; exact p5.elim
  · have ei : i = xs.length := by omega
    subst ei
    rw [List.drop_length, lcF] at p'
    refine .inl ⟨q1.stop H' F' al' m' _ e1' w' (Nat.le_refl _), ?_⟩
    have hx2 : al'[m1.length]? = some D' := e'.a _ _ hlast
    have p' : Post c.K (RD c.K) W' F1 al1 Q (lcEnd m1.length m') := p'
    unfold lcEnd at p'
    split at p'
    · rename_i acc hc
      obtain ⟨hf, ws, h4, h5⟩ := w'.cell _ _ _ hx2 hc
      have hg : D.inL m1.length acc = true := w'.gen _ _ hc
      exact p' _ H' (upd F' D' (.lst ws)) (al'.take m1.length) ((e1'.trans (ext_new hf)).cut (Nat.le_of_eq w1.len)) (w'.frz hx2 h4 hf (Nat.le_refl _)) (.lst upd_same ((h5.cut hg).up (ext_new hf)))
    · exact p'.elim
theorem de_lc {elt tg it : Expr} {ifs : List Expr} {scope : Scope} (own : List (Str × Nat)) {fi : XA} {gt : XG} {tt : XT} {te : XE'} (hN : c.N.Nodup) (ok : blkC c.N c.sc scope own = true) (hi : DI c W tg it fi) (hg : DG (c.blk scope) noW (own.map (·.2)) tg gt) (ht : DTs (c.blk scope) noW ifs tt) (he : DE (c.blk scope) noW elt te)
    (hs : ∀ env x, foldedSetIterable it env x = pure x := by intro _ _; rfl) (hcm : c.calm = true := by rfl) : DE c W (.ListComp elt [⟨tg, it, ifs, 0⟩] scope pos) (xLc fi (own.map (·.2)) gt tt te) := by
  obtain ⟨wi, i1, i2⟩ := hi
  obtain ⟨tg', g1, g2⟩ := hg
  obtain ⟨t2, t1, t2'⟩ := ht
  obtain ⟨t3, e1, e2⟩ := he
  refine ⟨tLc wi tg' t2 t3 (own.map (·.2)), fun y hy => pe_lc (X := c.cx y) hcm hN (i1 y hy) (by
      have z : (c.cx y).env.scope = c.sc := hy.scope
      rw [z]; exact blkOk_by ok) (fun s H C cl fp => g1 _ (hy.blk s H scope C cl fp)) (fun s H C cl fp => t1 _ (hy.blk s H scope C cl fp)) (fun s H C cl fp => e1 _ (hy.blk s H scope C cl fp)) (hs _), fun r m σ H F al Q he hw p => ?_⟩
  refine i2 r m σ H F al _ he hw (Post.step p fun xs m1 J H1 F1 al1 e3 w1 q1 p1 => ?_)
  exact lc_read (c := c) (elt := elt) (tg := tg) (ifs := ifs) (scope := scope) g2 t2' e2 (he.up e3) w1 q1 p1
theorem ds_lc (i : Nat) {y0 : Str} {py spos : Pos} {elt tg it : Expr} {ifs : List Expr} {scope : Scope} (own : List (Str × Nat)) {fi : XA} {gt : XG} {tt : XT} {te : XE'} (hN : c.N.Nodup) (ok : blkC c.N c.sc scope own = true) (hi : DI c W tg it fi) (hg : DG (c.blk scope) noW (own.map (·.2)) tg gt) (ht : DTs (c.blk scope) noW ifs tt) (he : DE (c.blk scope) noW elt te)
    (hy : c.N[i]? = some y0 := by rfl) (hyl : c.sc.names.lookup y0 = some .local := by rfl) (hk : c.sc.kind = .function := by rfl) (hl : (py.line == pos.line) = true := by rfl) (hn : (scope.names.any fun (n, k) => n == y0 && (k == .local || k == .cell)) = false := by decide +kernel)
    (hs : ∀ env x, foldedSetIterable it env x = pure x := by intro _ _; rfl) (hcm : c.calm = true := by rfl) : DSt c W (.Assign [.Name y0 py] (.ListComp elt [⟨tg, it, ifs, 0⟩] scope pos) spos) (sAsg (xLc fi (own.map (·.2)) gt tt te) (gNm i)) := by
  obtain ⟨wi, i1, i2⟩ := hi
  obtain ⟨tg', g1, g2⟩ := hg
  obtain ⟨t2, t1, t2'⟩ := ht
  obtain ⟨t3, e1, e2⟩ := he
  refine ⟨tAsg (tLc wi tg' t2 t3 (own.map (·.2))) (gName i), fun y hz => ?_, fun r m σ H F al E he hw p => ?_⟩
  · have z : (c.cx y).env.scope = c.sc := hz.scope
    exact ps_setLc (X := c.cx y) hcm hN hy (by rw [z]; exact hyl) (sw_true (by rw [z]; exact hk) (by rw [z]; exact hyl) hl hn) (i1 y hz) (by rw [z]; exact blkOk_by ok) (fun s H C cl fp => g1 _ (hz.blk s H scope C cl fp)) (fun s H C cl fp => t1 _ (hz.blk s H scope C cl fp)) (fun s H C cl fp => e1 _ (hz.blk s H scope C cl fp)) (hs _)
  · have p' : PostS c.K W F al E ((fi r m).stm r fun xs m1 => (lcD gt tt te (wipeR r (own.map (·.2))) xs m1).stm r fun d m2 => .next (r.set i (some d)) m2) := by
      have q : sAsg (xLc fi (own.map (·.2)) gt tt te) (gNm i) r m = ((fi r m).stm r fun xs m1 => (lcD gt tt te (wipeR r (own.map (·.2))) xs m1).stm r fun d m2 => .next (r.set i (some d)) m2) := by
        unfold sAsg xLc
        cases fi r m <;> rfl
      rw [← q]; exact p
    refine i2 r m σ H F al _ he hw (PostS.step he p' fun xs m1 J H1 F1 al1 e3 w1 q1 p1 => ?_)
    refine lc_read (c := c) (elt := elt) (tg := tg) (ifs := ifs) (scope := scope) (W' := atS W σ) (Q := fun x H1 => gName i x σ H1 E.nx) g2 t2' e2 (he.up e3) w1 q1 (PostS.step (he.up e3) p1 fun d m2 x H2 F2 al2 e4 w2 q2 p2 => ?_)
    exact p2 _ H2 F2 al2 Le.refl w2 (((he.up e3).up e4).set i q2)
end
end DS

namespace DS
open PySem PySem.Spec PyProof.Rows L2
section
variable {c : SC} {W : WX} {pos : Pos} {a b d e o : Expr} {fa fb fe fo : XE'} {ft : XT} {es : List Expr} {fr : XA} {x : Str} {p0 apos : Pos}
/-! ### built-ins called by name -/
def CallD (c : SC) (f : Value) (g : Fn) : Prop := ∃ r, (∀ W y, OkD c W y → CallR (c.cx y) f r) ∧
  ∀ (W : XK) ds m vs H F al Q, Wd c.K F al m H → RpL c.K F al ds vs → Post c.K (RD c.K) W F al Q (g ds m) → r vs H Q
theorem CallR.or {X : Cx} {f : Value} {r r' : List V → Hp → VK → Prop} (h : CallR X f r) (h' : CallR X f r') : CallR X f (fun vs H Q => r vs H Q ∨ r' vs H Q) :=
  fun pins s σ H vs us Q I rv q => q.elim (fun q => h pins s σ H vs us Q I rv q) fun q => h' pins s σ H vs us Q I rv q
theorem de_callB {id : String} {g : Fn} (hc : CallD c (.builtin id) g) (hm : c.mg x = none) (hv : bootBuiltins x = some (.builtin id)) (ha : DA c W (e :: es) fr) (hg : c.sc.names.lookup x = some .globalImplicit := by rfl) (hn : x ≠ "__name__" := by decide) (hdb : (x == ("__debug__" : Str)) = false := by decide)
    (hs : ∀ env, starEach (e :: es) env = (false, eval e env) :: starEach es env := by intro _; rfl) (hpl : ∀ env, (backTo pos (starEach es env)).any (·.1) = false := by intro _; rfl) : DE c W (.Call (.Name x p0) (e :: es) [] pos) (xCall g fr) := by
  obtain ⟨r, h1, h2⟩ := hc
  obtain ⟨⟨t, a1, a2⟩, _⟩ := ha
  refine ⟨tCB r t, fun y hy => pe_callB (h1 W y hy) (hy.gl hg) hm hv (a1 y hy) hn hdb (hs _) (hpl _), fun ρ m σ H F al Q he hw p => ?_⟩
  exact a2 ρ m σ H F al _ he hw (Post.step p fun ds m1 vs H1 F1 al1 e1 w1 q1 p1 => h2 _ ds m1 vs H1 F1 al1 Q w1 q1 p1)
theorem de_callT {T : String} {g : Fn} (hc : CallD c (.type T) g) (hm : c.mg x = none) (hv : bootBuiltins x = some (.type T)) (ha : DA c W (e :: es) fr) (hg : c.sc.names.lookup x = some .globalImplicit := by rfl) (hn : x ≠ "__name__" := by decide) (hdb : (x == ("__debug__" : Str)) = false := by decide)
    (hs : ∀ env, starEach (e :: es) env = (false, eval e env) :: starEach es env := by intro _; rfl) (hpl : ∀ env, (backTo pos (starEach es env)).any (·.1) = false := by intro _; rfl) : DE c W (.Call (.Name x p0) (e :: es) [] pos) (xCall g fr) := by
  obtain ⟨r, h1, h2⟩ := hc
  obtain ⟨⟨t, a1, a2⟩, _⟩ := ha
  refine ⟨tCB r t, fun y hy => pe_callTy (h1 W y hy) (hy.gl hg) hm hv (a1 y hy) hn hdb (hs _) (hpl _), fun ρ m σ H F al Q he hw p => ?_⟩
  exact a2 ρ m σ H F al _ he hw (Post.step p fun ds m1 vs H1 F1 al1 e1 w1 q1 p1 => h2 _ ds m1 vs H1 F1 al1 Q w1 q1 p1)
/-! len -/
def lenD (ds : List D) (m : Mu) : Out D := match ds with
  | [.str z] => if z.length ≤ sizeLine then .ok (.int z.length) m else .stuck
  | [.tup xs] => .ok (.int xs.length) m
  | [d] => (match lstOf m d with
    | some xs => .ok (.int xs.length) m
    | none => .stuck)
  | _ => .stuck
theorem b_len : CallD c (.builtin "len") lenD := by
  refine ⟨fun xs H Q => ∃ x n, xs = [x] ∧ LenV c.K x H n ∧ Q (.int n) H, fun W y hy => call_len (X := c.cx y), fun W ds m vs H F al Q hw r p => ?_⟩
  unfold lenD at p
  split at p
  · cases r with
    | cons q r =>
    cases r; cases q
    split at p
    · rename_i hz
      exact ⟨_, _, rfl, ⟨hz, rfl⟩, p _ H F al Le.refl hw (.int _)⟩
    · exact p.elim
  · cases r with
    | cons q r =>
    cases r
    cases q with
    | @tup q' ws _ s q => exact ⟨_, _, rfl, .inr ⟨ws, sqt_up hw.sub s, rfl⟩, by rw [← q.len]; exact p _ H F al Le.refl hw (.int _)⟩
  · cases r with
    | cons q r =>
    cases r
    split at p
    · rename_i xs hx
      obtain ⟨q', ws, rfl, s, q⟩ := lstOf_ok hw q hx
      exact ⟨_, _, rfl, .inl ⟨ws, s, rfl⟩, by rw [← q.len]; exact p _ H F al Le.refl hw (.int _)⟩
    · exact p.elim
  · exact p.elim
/-! int, str, abs, max, min of two -/
def intF (ds : List D) (m : Mu) : Out D := match ds with
  | [.int i] => .ok (.int i) m
  | [.str z] => (match PySem.intText? z with
    | some n => if z.length ≤ 640 then .ok (.int n) m else .stuck
    | none => .stuck)
  | _ => .stuck
theorem b_int : CallD c (.type "int") intF := by
  refine ⟨_, fun W y hy => CallR.or call_int1 call_int_str, fun W ds m vs H F al Q hw r p => ?_⟩
  unfold intF at p
  split at p
  · cases r with
    | cons q r =>
    cases r; cases q
    exact .inl (.inl ⟨_, rfl, p _ H F al Le.refl hw (.int _)⟩)
  · cases r with
    | cons q r =>
    cases r; cases q
    split at p
    · rename_i n hn
      split at p
      · rename_i hz
        exact .inr ⟨_, n, rfl, hn, hz, p _ H F al Le.refl hw (.int _)⟩
      · exact p.elim
    · exact p.elim
  · exact p.elim
def strF (ds : List D) (m : Mu) : Out D := match ds with
  | [.int i] => if i.natAbs.log2 < 1920 then .ok (.str (toString i)) m else .stuck
  | _ => .stuck
theorem b_str : CallD c (.type "str") strF := by
  refine ⟨_, fun W y hy => call_str_int, fun W ds m vs H F al Q hw r p => ?_⟩
  unfold strF at p
  split at p
  · cases r with
    | cons q r =>
    cases r; cases q
    split at p
    · rename_i hz
      exact ⟨_, rfl, hz, p _ H F al Le.refl hw (.str _)⟩
    · exact p.elim
  · exact p.elim
def absF (ds : List D) (m : Mu) : Out D := match ds with
  | [.int i] => .ok (.int (if i < 0 then -i else i)) m
  | _ => .stuck
theorem b_abs : CallD c (.builtin "abs") absF := by
  refine ⟨_, fun W y hy => call_abs, fun W ds m vs H F al Q hw r p => ?_⟩
  unfold absF at p
  split at p
  · cases r with
    | cons q r =>
    cases r; cases q
    exact ⟨_, rfl, p _ H F al Le.refl hw (.int _)⟩
  · exact p.elim
/-- the ints of a list -/
def intsL : List D → Option (List Int)
  | [] => some []
  | .int i :: r => (intsL r).map (i :: ·)
  | _ => none
theorem ints_rp {K : PySem.W.Frag} {F : Hp} {al : List Addr} : ∀ {ds : List D} {vs : List V} {ns : List Int}, RpL K F al ds vs → intsL ds = some ns → vs = ns.map V.int
  | _, _, _, .nil, h => by cases h; rfl
  | _, _, _, .cons (d := d) (ds := ds) r q, h => by
    cases d with
    | int i =>
      unfold intsL at h
      cases e : intsL ds with
      | none => rw [e] at h; cases h
      | some ns =>
        rw [e] at h
        cases h
        cases r
        rw [ints_rp q e]; rfl
    | _ => cases h
def maxL : Int → List Int → Int
  | i, [] => i
  | i, j :: r => maxL (if j > i then j else i) r
theorem maxL_ge : ∀ (r : List Int) (i : Int), i ≤ maxL i r ∧ ∀ y ∈ r, y ≤ maxL i r
  | [], i => ⟨Int.le_refl _, fun y h => by simp at h⟩
  | j :: r, i => by
    obtain ⟨h1, h2⟩ := maxL_ge r (if j > i then j else i)
    unfold maxL
    refine ⟨?_, fun y hy => ?_⟩
    · split at h1 <;> (split <;> omega)
    · rcases List.mem_cons.mp hy with rfl | hy
      · split at h1 <;> (split <;> omega)
      · exact h2 y hy
theorem maxL_mem : ∀ (r : List Int) (i : Int), maxL i r = i ∨ maxL i r ∈ r
  | [], i => .inl rfl
  | j :: r, i => by
    unfold maxL
    rcases maxL_mem r (if j > i then j else i) with h | h
    · rw [h]
      split
      · exact .inr (by simp)
      · exact .inl rfl
    · exact .inr (List.mem_cons_of_mem _ h)
def maxF (ds : List D) (m : Mu) : Out D := match ds with
  | [.int i, .int j] => .ok (.int (if j > i then j else i)) m
  | [d] => (match lstOf m d with
    | some xs => (match intsL xs with
      | some (i :: r) => .ok (.int (maxL i r)) m
      | _ => .stuck)
    | none => .stuck)
  | _ => .stuck
theorem b_max (hcm : c.calm = true := by rfl) : CallD c (.builtin "max") maxF := by
  refine ⟨fun xs H Q => (∃ i j, xs = [.int i, .int j] ∧ Q (.int (if j > i then j else i)) H) ∨ rMax c.K xs H Q, fun W y hy => CallR.or (call_max2 (X := c.cx y) hcm) (cr_max (X := c.cx y) hcm), fun W ds m vs H F al Q hw r p => ?_⟩
  unfold maxF at p
  split at p
  · cases r with
    | cons q r =>
    cases r with
    | cons q' r =>
    cases r; cases q; cases q'
    exact .inl ⟨_, _, rfl, p _ H F al Le.refl hw (.int _)⟩
  · cases r with
    | cons q r =>
    cases r
    split at p
    · rename_i xs hx
      obtain ⟨q', ws, rfl, s, q⟩ := lstOf_ok hw q hx
      split at p
      · rename_i i r hi
        have ew := ints_rp q hi
        subst ew
        refine .inr ⟨q', i :: r, rfl, s, by simp, fun k hk hle => ?_⟩
        have e : k = maxL i r := by
          obtain ⟨h1, h2⟩ := maxL_ge r i
          have h3 : k ≤ maxL i r := by
            rcases List.mem_cons.mp hk with rfl | hk
            · exact h1
            · exact h2 k hk
          have h4 : maxL i r ≤ k := by
            rcases maxL_mem r i with h | h
            · rw [h]; exact hle i (by simp)
            · exact hle _ (List.mem_cons_of_mem _ h)
          omega
        rw [e]
        exact p _ H F al Le.refl hw (.int _)
      · exact p.elim
    · exact p.elim
  · exact p.elim
def minF (ds : List D) (m : Mu) : Out D := match ds with
  | [.int i, .int j] => .ok (.int (if j < i then j else i)) m
  | _ => .stuck
theorem b_min (hcm : c.calm = true := by rfl) : CallD c (.builtin "min") minF := by
  refine ⟨_, fun W y hy => call_min2 (X := c.cx y) hcm, fun W ds m vs H F al Q hw r p => ?_⟩
  unfold minF at p
  split at p
  · cases r with
    | cons q r =>
    cases r with
    | cons q' r =>
    cases r; cases q; cases q'
    exact ⟨_, _, rfl, p _ H F al Le.refl hw (.int _)⟩
  · exact p.elim
def sumF (ds : List D) (m : Mu) : Out D := match ds with
  | [d] => (match lstOf m d with
    | some xs => (match intsL xs with
      | some ns => .ok (.int ns.sum) m
      | _ => .stuck)
    | none => .stuck)
  | _ => .stuck
theorem b_sum (hcm : c.calm = true := by rfl) : CallD c (.builtin "sum") sumF := by
  refine ⟨rSum c.K, fun W y hy => cr_sum (X := c.cx y) hcm, fun W ds m vs H F al Q hw r p => ?_⟩
  unfold sumF at p
  split at p
  · cases r with
    | cons q r =>
    cases r
    split at p
    · rename_i xs hx
      obtain ⟨q', ws, rfl, s, q⟩ := lstOf_ok hw q hx
      split at p
      · rename_i ns hi
        have ew := ints_rp q hi
        subst ew
        exact ⟨q', ns, rfl, s, p _ H F al Le.refl hw (.int _)⟩
      · exact p.elim
    · exact p.elim
  · exact p.elim
/-- the truth values of a list -/
def bsL : List D → Option (List Bool)
  | [] => some []
  | .bl i :: r => (bsL r).map (i :: ·)
  | _ => none
theorem bs_rp {K : PySem.W.Frag} {F : Hp} {al : List Addr} : ∀ {ds : List D} {vs : List V} {ns : List Bool}, RpL K F al ds vs → bsL ds = some ns → vs = ns.map V.bl
  | _, _, _, .nil, h => by cases h; rfl
  | _, _, _, .cons (d := d) (ds := ds) r q, h => by
    cases d with
    | bl i =>
      unfold bsL at h
      cases e : bsL ds with
      | none => rw [e] at h; cases h
      | some ns =>
        rw [e] at h
        cases h
        cases r
        rw [bs_rp q e]; rfl
    | _ => cases h
def allF (ds : List D) (m : Mu) : Out D := match ds with
  | [d] => (match lstOf m d with
    | some xs => (match bsL xs with
      | some ns => .ok (.bl (ns.all id)) m
      | _ => .stuck)
    | none => .stuck)
  | _ => .stuck
def anyF (ds : List D) (m : Mu) : Out D := match ds with
  | [d] => (match lstOf m d with
    | some xs => (match bsL xs with
      | some ns => .ok (.bl (ns.any id)) m
      | _ => .stuck)
    | none => .stuck)
  | _ => .stuck
theorem b_all (hcm : c.calm = true := by rfl) : CallD c (.builtin "all") allF := by
  refine ⟨rAll c.K, fun W y hy => cr_all (X := c.cx y) hcm, fun W ds m vs H F al Q hw r p => ?_⟩
  unfold allF at p
  split at p
  · cases r with
    | cons q r =>
    cases r
    split at p
    · rename_i xs hx
      obtain ⟨q', ws, rfl, s, q⟩ := lstOf_ok hw q hx
      split at p
      · rename_i ns hi
        have ew := bs_rp q hi
        subst ew
        exact ⟨q', ns, rfl, s, p _ H F al Le.refl hw (.bl _)⟩
      · exact p.elim
    · exact p.elim
  · exact p.elim
theorem b_any (hcm : c.calm = true := by rfl) : CallD c (.builtin "any") anyF := by
  refine ⟨rAny c.K, fun W y hy => cr_any (X := c.cx y) hcm, fun W ds m vs H F al Q hw r p => ?_⟩
  unfold anyF at p
  split at p
  · cases r with
    | cons q r =>
    cases r
    split at p
    · rename_i xs hx
      obtain ⟨q', ws, rfl, s, q⟩ := lstOf_ok hw q hx
      split at p
      · rename_i ns hi
        have ew := bs_rp q hi
        subst ew
        exact ⟨q', ns, rfl, s, p _ H F al Le.refl hw (.bl _)⟩
      · exact p.elim
    · exact p.elim
  · exact p.elim
/-! tuple(..), list(..), divmod -/
def tupF (ds : List D) (m : Mu) : Out D := match ds with
  | [.tup xs] => .ok (.tup xs) m
  | [d] => (match lstOf m d with
    | some xs => .ok (.tup xs) m
    | none => .stuck)
  | _ => .stuck
theorem b_tuple : CallD c (.type "tuple") tupF := by
  refine ⟨fun xs H Q => ∃ p ys, xs = [.ref p] ∧ ((SqL c.K H p ys ∧ ∀ l, H l = none → Q (.ref l) (upd H l (.tup ys))) ∨ SqT c.K H p ys ∧ Q (.ref p) H), fun W y hy => call_tuple_of (X := c.cx y), fun W ds m vs H F al Q hw r p => ?_⟩
  unfold tupF at p
  split at p
  · cases r with
    | cons q r =>
    cases r
    cases q with
    | @tup q' ws _ s q => exact ⟨q', ws, rfl, .inr ⟨sqt_up hw.sub s, p _ H F al Le.refl hw (.tup s q)⟩⟩
  · cases r with
    | cons q r =>
    cases r
    split at p
    · rename_i xs hx
      obtain ⟨q', ws, rfl, s, q⟩ := lstOf_ok hw q hx
      exact ⟨q', ws, rfl, .inl ⟨s, fun n hn => p _ _ (upd F n _) al (ext_new (hw.fnone hn)) (hw.new hn) (.tup (.of upd_same) (q.up (ext_new (hw.fnone hn))))⟩⟩
    · exact p.elim
  · exact p.elim
def seqOf (m : Mu) : D → Option (List D)
  | .tup xs => some xs
  | d => lstOf m d
theorem seqOf_ok {K : PySem.W.Frag} {F : Hp} {al : List Addr} {m : Mu} {H : Hp} {d : D} {v : V} {xs : List D} (w : Wd K F al m H) (r : Rp K F al d v) (h : seqOf m d = some xs) : ∃ a vs, v = .ref a ∧ (SqL K H a vs ∨ SqT K H a vs) ∧ RpL K F al xs vs := by
  cases r with
  | tup s q => cases h; exact ⟨_, _, rfl, .inr (sqt_up w.sub s), q⟩
  | lst s q => cases h; exact ⟨_, _, rfl, .inl (.of (w.sub _ _ s)), q⟩
  | fix s q => cases h; exact ⟨_, _, rfl, .inl (sql_up w.sub s), q⟩
  | @loc n q s =>
    obtain ⟨q', ws, e, s', q⟩ := lstOf_ok w (.loc s) (show lstOf m (.loc n) = some xs from h)
    exact ⟨q', ws, e, .inl s', q⟩
  | _ => cases h
def lstF (ds : List D) (m : Mu) : Out D := match ds with
  | [d] => (match seqOf m d with
    | some xs => .ok (.lst xs) m
    | none => .stuck)
  | _ => .stuck
/-- .. that will change -/
def newF (ds : List D) (m : Mu) : Out D := match ds with
  | [d] => (match seqOf m d with
    | some xs => if D.inL m.length xs then .ok (.loc m.length) (m ++ [.lst xs]) else .stuck
    | none => .stuck)
  | _ => .stuck
def dmF (ds : List D) (m : Mu) : Out D := match ds with
  | [.int i, .int j] => if 0 < j ∧ j < 1073741824 then .ok (.tup [.int (i / j), .int (i % j)]) m else .stuck
  | _ => .stuck
theorem b_divmod : CallD c (.builtin "divmod") dmF := by
  refine ⟨_, fun W y hy => call_divmod, fun W ds m vs H F al Q hw r p => ?_⟩
  unfold dmF at p
  split at p
  · cases r with
    | cons q r =>
    cases r with
    | cons q' r =>
    cases r; cases q; cases q'
    split at p
    · rename_i hj
      exact ⟨_, _, rfl, hj, fun n hn => p _ _ (upd F n _) al (ext_new (hw.fnone hn)) (hw.new hn) (.tup (.of upd_same) (.cons (.int _) (.cons (.int _) .nil)))⟩
    · exact p.elim
  · exact p.elim
/-! ### methods of built-in types -/
def tyD (T : String) (m : Mu) : D → Bool
  | .str _ => T == "str"
  | d => T == "list" && (lstOf m d).isSome
theorem tyD_ok {K : PySem.W.Frag} {F : Hp} {al : List Addr} {m : Mu} {H : Hp} {T : String} {d : D} {v : V} (w : Wd K F al m H) (r : Rp K F al d v) (h : tyD T m d = true) : tyV K T v H := by
  have lists : (T == "list" && (lstOf m d).isSome) = true → tyV K T v H := fun h => by
    rw [Bool.and_eq_true] at h
    obtain ⟨xs, hx⟩ := Option.isSome_iff_exists.mp h.2
    obtain ⟨q', ws, rfl, s, q⟩ := lstOf_ok w r hx
    exact .inl ⟨by simpa using h.1, ws, s⟩
  cases r with
  | str x => exact (by simpa [tyD] using h : T = "str")
  | _ => exact lists h
def MethD (c : SC) (id : String) (g : Fn) : Prop := ∃ r, (∀ W y, OkD c W y → MtR (c.cx y) id r) ∧
  ∀ (W : XK) o ds m x vs H F al Q, Wd c.K F al m H → Rp c.K F al o x → RpL c.K F al ds vs → Post c.K (RD c.K) W F al Q (g (o :: ds) m) → r x vs H Q
def xBM (T : String) (g : Fn) (o : XE') (a : XA) : XE' := fun r m => (o r m).bind fun d m1 => if tyD T m1 d then (a r m1).bind fun ds m2 => g (d :: ds) m2 else .stuck
theorem de_bm {T id : String} {name : Str} {g : Fn} (pa : PlainAttrs T) (slot : Slot T name id) (hty : typeOf (.builtin id) = pure (.type "method_descriptor")) (hm : MethD c id g) (ho : DE c W o fo) (ha : DA c W (e :: es) fr) (hb : ∀ env, attributeBase o name env (eval o env) = eval o env := by intro _; rfl)
    (hn : ∀ env, ((backTo pos (starEach (e :: es) env)).all (fun x => !x.1) && (backToKw pos (keywordEach [] env)).all (fun x => x.1.isSome) && decide ((e :: es).length + ([] : List Keyword).length + (if ([] : List Keyword).isEmpty then 0 else 1) < 30)) = true := by intro _; rfl) (hl : (apos.endLine == pos.line) = true := by rfl)
    (hs : ∀ env, starEach (e :: es) env = (false, eval e env) :: starEach es env := by intro _; rfl) (hpl : ∀ env, (backTo pos (starEach es env)).any (·.1) = false := by intro _; rfl) : DE c W (.Call (.Attribute o name apos) (e :: es) [] pos) (xBM T g fo fr) := by
  obtain ⟨r, h1, h2⟩ := hm
  obtain ⟨to, o1, o2⟩ := ho
  obtain ⟨⟨t, a1, a2⟩, _⟩ := ha
  refine ⟨tBM c.K T r to t, fun y hy => pe_bm (X := c.cx y) pa slot hty (h1 W y hy) (o1 y hy) (a1 y hy) (hb _) (hn _) hl (hs _) (hpl _), fun ρ m σ H F al Q he hw p => ?_⟩
  refine o2 ρ m σ H F al _ he hw (Post.step p fun d m1 v H1 F1 al1 e1 w1 q1 p1 => ?_)
  split at p1
  · rename_i ht
    exact ⟨tyD_ok w1 q1 ht, a2 ρ m1 σ H1 F1 al1 _ (he.up e1) w1 (Post.step p1 fun ds m2 vs H2 F2 al2 e2 w2 q2 p2 => h2 _ d ds m2 v vs H2 F2 al2 Q w2 (q1.up e2) q2 p2)⟩
  · exact p1.elim
def appF (ds : List D) (m : Mu) : Out D := match ds with
  | [.loc n, d] => (pushD n d m).bind fun _ m1 => .ok .non m1
  | _ => .stuck
theorem m_append : MethD c "list.append" appF := by
  refine ⟨rAppend, fun W y hy => mt_append, fun W o ds m x vs H F al Q hw r1 r p => ?_⟩
  unfold appF at p
  split at p
  · rename_i n d heq
    simp only [List.cons.injEq] at heq
    obtain ⟨rfl, rfl⟩ := heq
    cases r1 with
    | @loc _ ad s =>
    cases r with
    | cons q r =>
    cases r
    unfold pushD at p
    cases hc : m[n]? with
    | none => rw [hc] at p; exact p.elim
    | some cl =>
      cases cl with
      | ins _ _ => rw [hc] at p; exact p.elim
      | dct _ => rw [hc] at p; exact p.elim
      | dead => rw [hc] at p; exact p.elim
      | tab _ => rw [hc] at p; exact p.elim
      | opn _ _ _ => rw [hc] at p; exact p.elim
      | dtt _ => rw [hc] at p; exact p.elim
      | lst acc =>
        rw [hc] at p
        simp only at p
        obtain ⟨hf, ws, h4, h5⟩ := hw.cell _ _ _ s hc
        by_cases hb : d.inB n = true ∧ acc.length < sizeLine
        · rw [if_pos hb] at p
          have hg : D.inL n acc = true := hw.gen _ _ hc
          exact ⟨ad, ws, _, rfl, rfl, h4, by rw [← h5.len]; exact hb.2, p _ _ F al Le.refl (hw.write (c := .lst (acc ++ [d])) s hf ⟨hf, _, upd_same, h5.snoc q⟩ (inL_append hg (by rw [D.inL, hb.1, D.inL]; rfl))) .non⟩
        · rw [if_neg hb] at p; exact p.elim
  · exact p.elim
def popF (ds : List D) (m : Mu) : Out D := match ds with
  | [.loc n] => (match m[n]? with
    | some (.lst xs) => (match xs[xs.length - 1]? with
      | some d => .ok d (m.set n (.lst xs.dropLast))
      | none => .stuck)
    | _ => .stuck)
  | _ => .stuck
theorem RpL.dropLast {K : PySem.W.Frag} {F : Hp} {al : List Addr} : ∀ {ds : List D} {vs : List V}, RpL K F al ds vs → RpL K F al ds.dropLast vs.dropLast
  | _, _, .nil => .nil
  | _, _, .cons r .nil => .nil
  | _, _, .cons r (.cons r' q) => .cons r (RpL.dropLast (.cons r' q))
/-! texts -/
def splitF (ds : List D) (m : Mu) : Out D := match ds with
  | [.str z, .str s] => if (s.length == 0) = false ∧ z.length + 2 ≤ sizeLine then .ok (.lst ((Txt.split z s).map .str)) m else .stuck
  | _ => .stuck
theorem strs_rp {K : PySem.W.Frag} {F : Hp} {al : List Addr} : ∀ (ys : List Str), RpL K F al (ys.map .str) (ys.map V.str)
  | [] => .nil
  | y :: r => .cons (.str y) (strs_rp r)
theorem m_split : MethD c "str.split" splitF := by
  refine ⟨_, fun W y hy => mt_split, fun W o ds m x vs H F al Q hw r1 r p => ?_⟩
  unfold splitF at p
  split at p
  · rename_i z s heq
    simp only [List.cons.injEq] at heq
    obtain ⟨rfl, rfl⟩ := heq
    cases r1
    cases r with
    | cons q r =>
    cases r; cases q
    split at p
    · rename_i hb
      exact ⟨z, s, rfl, rfl, hb.1, hb.2, fun n hn => p _ _ (upd F n _) al (ext_new (hw.fnone hn)) (hw.new hn) (.lst upd_same (strs_rp _))⟩
    · exact p.elim
  · exact p.elim
def strsL : List D → Option (List Str)
  | [] => some []
  | .str i :: r => (strsL r).map (i :: ·)
  | _ => none
theorem strs_of {K : PySem.W.Frag} {F : Hp} {al : List Addr} : ∀ {ds : List D} {vs : List V} {ns : List Str}, RpL K F al ds vs → strsL ds = some ns → vs = ns.map V.str
  | _, _, _, .nil, h => by cases h; rfl
  | _, _, _, .cons (d := d) (ds := ds) r q, h => by
    cases d with
    | str i =>
      unfold strsL at h
      cases e : strsL ds with
      | none => rw [e] at h; cases h
      | some ns =>
        rw [e] at h
        cases h
        cases r
        rw [strs_of q e]; rfl
    | _ => cases h
def joinF (ds : List D) (m : Mu) : Out D := match ds with
  | [.str s, d] => (match seqOf m d with
    | some xs => (match strsL xs with
      | some ys => if (ys.map (·.length)).sum + ys.length * s.length ≤ 16777216 then .ok (.str (Txt.join s ys)) m else .stuck
      | none => .stuck)
    | none => .stuck)
  | _ => .stuck
theorem m_join : MethD c "str.join" joinF := by
  refine ⟨fun x xs H Q => ∃ a p, ∃ ys : List Str, x = .str a ∧ xs = [.ref p] ∧ (SqL c.K H p (ys.map V.str) ∨ SqT c.K H p (ys.map V.str)) ∧ (ys.map (·.length)).sum + ys.length * a.length ≤ 16777216 ∧ Q (.str (Txt.join a ys)) H, fun W y hy => mt_join (X := c.cx y), fun W o ds m x vs H F al Q hw r1 r p => ?_⟩
  unfold joinF at p
  split at p
  · rename_i s d heq
    simp only [List.cons.injEq] at heq
    obtain ⟨rfl, rfl⟩ := heq
    cases r1
    cases r with
    | cons q r =>
    cases r
    split at p
    · rename_i xs hx
      obtain ⟨q', ws, rfl, sq, q⟩ := seqOf_ok hw q hx
      split at p
      · rename_i ys hi
        have ew := strs_of q hi
        subst ew
        split at p
        · rename_i hb
          exact ⟨s, q', ys, rfl, rfl, sq, hb, p _ H F al Le.refl hw (.str _)⟩
        · exact p.elim
      · exact p.elim
    · exact p.elim
  · exact p.elim
/-! ### (*a, b) -/
def xaStar (a : XE') (r : XA) : XA := fun ρ m => (a ρ m).bind fun x m1 => match seqOf m1 x with
  | some xs => (r ρ m1).bind fun ys m2 => .ok (xs ++ ys) m2
  | none => .stuck
/-- an argument list of any length -/
def DA' (c : SC) (W : WX) (es : List Expr) (f : XA) : Prop := ∃ t : TA, (∀ y, OkD c W y → PA (c.cx y) es t) ∧
  ∀ r m σ H F al Q, EnvOk c.K F al r σ → Wd c.K F al m H → Post c.K (RL c.K) (atS W σ) F al Q (f r m) → t σ H Q
end
end DS

namespace DS
open PySem PySem.Spec PyProof.Rows L2
/-! ### defs that are called where no repr runs: the law's own -/
structure FnG (b : Base) (k : Nat) (f : Addr) (fd : FuncData) (ps : List Str) (G : Fn) : Prop where
  run : ∀ (A : Around) (out : List Env) (s : Shared) (H : Hp) (ar : Args) (us : List Value) (vs : List V) (Q : VK) (E : XK), Room k A → A.guards = some [] → Env0 b.P b.w b.K b.mg b.base A out s H → BindsTo s fd ar (ps.zip us) → Vals vs us →
    spOf b.K ps.length G vs H Q E → codeAny (model b.P b.w) A (.call (.ref f) ar) (CR (L2.CX b.P b.w) out b.P b.w H s Q E) s
theorem FnG.of {b : Base} {k : Nat} {f : Addr} {fd : FuncData} {ps : List Str} {G : Fn} (h : b.Ok k f fd ps G) : FnG b k f fd ps G :=
  ⟨fun A out s H ar us vs Q E hr _ e0 hb r hs => h.run A out s H ar us vs Q E hr e0 hb r hs⟩
theorem FnG.mono {b : Base} {j k : Nat} {f : Addr} {fd : FuncData} {ps : List Str} {G : Fn} (h : FnG b j f fd ps G) (hk : j ≤ k) : FnG b k f fd ps G :=
  ⟨fun A out s H ar us vs Q E hr hg e0 hb r hs => h.run A out s H ar us vs Q E (hr.mono hk) hg e0 hb r hs⟩
theorem fnG_body {b : Base} {N ps : List Str} {sc : Scope} {k : Nat} {body : List Stmt} {g : XS} {keep : Bool} {E : XK} {Q : VK} {y : Dyn} {vs : List V} {H : Hp} (h : DSs (b.at N sc k true) (wOf E) body g) (hy : OkD (b.at N sc k true) (wOf E) y) (hsp : spOf b.K ps.length (fnOf N.length keep g) vs H Q E) :
    ∃ t, PSs ((b.at N sc k true).cx y) body t ∧ t { nx := fun _ H' => Q .non H', rt := Q } (L2.start N vs) H := by
  obtain ⟨t, h1, h2⟩ := h
  have q : DSs (b.at N sc k false) (wOf E) body g → True := fun _ => trivial
  obtain ⟨ds, m, F, al, hl, r, w, p⟩ := hsp
  refine ⟨t, h1 y hy, h2 (rho0 N.length ds) m (L2.start N vs) H F al _ (env0_ok r) w ?_⟩
  unfold fnOf at p
  cases q : g (rho0 N.length ds) m with
  | next r' m' =>
    rw [q] at p
    exact fun σ' H' F' al' e w' _ => p _ H' F' (al'.take m.length) (e.cut (Nat.le_of_eq w.len)) (w'.cut _) .non
  | ret d m' =>
    rw [q] at p
    intro v H' F' al' e w' rv
    cases keep with
    | true => exact p v H' F' al' e w' rv
    | false => exact exit_ok w' e w.len rv p
  | exc c fs r' m' =>
    rw [q] at p
    intro dd σ' H' F' al' gs e w' _ hg hd
    have p' : Post b.K (RD b.K) E F al Q (if D.inF m.length fs = true then .exc c fs (m'.take m.length) else .stuck) := p
    split at p'
    · rename_i hi
      exact p' dd H' F' (al'.take m.length) gs (e.cut (Nat.le_of_eq w.len)) (w'.cut _) (hg.cut hi) hd
    · exact p'.elim
  | brk _ _ => rw [q] at p; exact p.elim
  | cont _ _ => rw [q] at p; exact p.elim
  | stuck => rw [q] at p; exact p.elim
theorem fnG_ok {b : Base} {x qual : Str} {params : Arguments} {body : List Stmt} {scope : Scope} {dvs : List V} {kws : List (Str × V)} {f : Addr} {fd : FuncData} {N ps : List Str} {k : Nat} {g : XS} (keep : Bool) (D : FunD b.K x qual params body scope dvs kws f fd) (S : FnScope N ps scope)
    (h : ∀ E : XK, DSs (b.at N scope k true) (wOf E) body g) : FnG b (k + 1) f fd ps (fnOf N.length keep g) := by
  refine ⟨fun A out s H ar us vs Q E hr hgd e0 hb r hsp => ?_⟩
  have hl := RpL.lenV hsp
  obtain ⟨oc, od, dV, kV, doc, pm, an, cdv, ct, osl, rfl, lk, hcd, _, _⟩ := D.ex
  have kIn : b.K.In s.heap := e0.mod.kin.keeps fun z o q => (e0.bs z o q).1
  have noLim : s.heap.NoLimit := e0.mod.nolimit.keeps fun z o q => (e0.bs z o q).1
  refine codeAny_call_function hr.depth (kIn _ _ lk) rfl S.co S.gen rfl (PySem.W.codeRec_of kIn hcd) (hb _ _ _ _ ?_)
  refine wpAny_newFunctionEnv_cells S.kind (fun z hz => ?_) fun env he s1 hx => ?_
  · obtain ⟨n, u⟩ := z
    rcases S.par n (List.of_mem_zip hz).1 with q | q
    · exact .inl q
    · exact .inr ⟨q, PySem.W.cellsFrom_some _ _ _ (.inl q)⟩
  · subst he
    refine ⟨noLim.keeps hx.toInCall.keep, codeAny_func ?_⟩
    let y : Dyn := { A := A.deeper (envOfC qual scope s.heap.objs.size f cdv), s_0 := s, H_0 := H, env := envOfC qual scope s.heap.objs.size f cdv, outer := out, stack := envOfC qual scope s.heap.objs.size f cdv :: out, ex := [], fn := fun _ => true, pn := [], xe := (cxOf (L2.CX b.P b.w) b.P b.w b.K b.mg b.base N qual scope f cdv A out s H E).xe }
    have ht : Takes ((b.at N scope k true).cx y) (wOf E) := takes_of (X := (b.at N scope k true).cx y) (E := E) rfl rfl rfl rfl
    have hy : OkD (b.at N scope k true) (wOf E) y := ⟨rfl, L2H.roomH_of (hr.deeper _), fun _ => hr.hd, ht, fun _ _ => rfl, fun _ => hgd, passes_of (X := (b.at N scope k true).cx y) rfl, (fun _ _ z => nomatch z), (fun _ => ⟨rfl, rfl, rfl⟩), (fun _ z => nomatch z), fun z => absurd z (Nat.lt_irrefl 0)⟩
    obtain ⟨t, t1, t2⟩ := fnG_body (h E) hy hsp
    have I : Inv (cxOf (L2.CX b.P b.w) b.P b.w b.K b.mg b.base N qual scope f cdv A out s H E) [] (L2.start N vs) H s1 := inv_start S hr.hd e0 hl r hx
    have t1' : PSs (cxOf (L2.CX b.P b.w) b.P b.w b.K b.mg b.base N qual scope f cdv A out s H E) body t := t1
    refine wpAny_mono (t1'.run [] s1 (L2.start N vs) H _ I t2) (fun fl s' hs => ?_) fun e s' hs => hs
    cases fl with
    | ret u =>
      obtain ⟨v, σ', H', J, rv, q⟩ := hs
      exact ⟨v, H', J.os, J.bare, J.base, J.hok, rv, q⟩
    | next =>
      obtain ⟨σ', H', J, q⟩ := hs
      exact ⟨V.non, H', J.os, J.bare, J.base, J.hok, rfl, q⟩
    | brk => obtain ⟨_, _, _, q⟩ := hs; exact q.elim
    | cont => obtain ⟨_, _, _, q⟩ := hs; exact q.elim
section
variable {c : SC} {W : WX} {pos : Pos} {a d e o : Expr} {fa fb fe fo : XE'} {ft : XT} {es : List Expr} {fr : XA} {x : Str} {p0 apos : Pos} {k : Nat} {f : Addr} {fd : FuncData} {ps : List Str} {G : Fn}
abbrev SC.toB (c : SC) : Base := ⟨c.P, c.w, c.K, c.mg, c.base⟩
theorem runG {X : Cx} {b : Base} {pins : List (Addr × Obj)} {σ : L2.St} {H : Hp} {s : Shared} {Q : VK} {E : XK} {us : List Value} {vs : List V} (e1 : X.prog = b.P) (e2 : X.w = b.w) (e3 : X.K = b.K) (e4 : X.mg = b.mg) (e5 : X.base = b.base) (hF : FnG b k f fd ps G) (hr : Room k X.A) (hg : X.A.guards = some []) (hb : Binds X.K fd ps [])
    (hx : PassesAt (L2.CX X.prog X.w) X σ E) (I : Inv X pins σ H s) (r : Vals vs us) (h : spOf X.K ps.length G vs H Q E) : wpAny (model X.prog X.w) X.A (call (.ref f) us) (EP X pins σ Q) X.xe s := by
  obtain ⟨P, w, K, mg, base⟩ := b
  simp only at e1 e2 e3 e4 e5
  subst e1 e2 e3 e4 e5
  have hl := RpL.lenV h
  have hl2 : (us ++ []).length = ps.length := by rw [List.append_nil, ← r.length]; exact hl
  have hb2 := hb s us I.kIn hl2
  rw [List.append_nil] at hb2
  refine wpAny_call (codeAny_mono (hF.run X.A X.stack s H ⟨us, []⟩ us vs Q E hr hg I.env0 hb2 r h) fun q s' hq => ?_)
  cases q with
  | error z => exact hx pins H s z s' I hq
  | ok fl =>
    cases fl with
    | ret u => exact I.after hq
    | next => exact False.elim hq
    | brk => exact False.elim hq
    | cont => exact False.elim hq
theorem de_callG (hF : FnG c.toB k f fd ps G) (hm : c.mg x = some (.ref f)) (hk : PySem.W.keepIn c.K (.ref f) = true) (hb : Binds c.K fd ps []) (ha : DA c W (e :: es) fr) (hgd : c.gd = true := by rfl) (hr : k ≤ c.k := by first | exact Nat.le_of_ble_eq_true rfl | exact Nat.le_refl _ | exact Nat.le_add_right _ _) (hcm : c.calm = true := by rfl) (hl : (e :: es).length = ps.length := by rfl) (hg : c.sc.names.lookup x = some .globalImplicit := by rfl)
    (hdb : (x == ("__debug__" : Str)) = false := by decide) (hs : ∀ env, starEach (e :: es) env = (false, eval e env) :: starEach es env := by intro _; rfl) (hpl : ∀ env, (backTo pos (starEach es env)).any (·.1) = false := by intro _; rfl) : DE c W (.Call (.Name x p0) (e :: es) [] pos) (xCall G fr) := by
  obtain ⟨⟨t, a1, a2⟩, hlen⟩ := ha
  refine ⟨fun σ H Q => t σ H fun vs H1 => spOf c.K ps.length G vs H1 Q (WE W σ), fun y hy => ⟨fun pins s σ H Q I h => ?_⟩, fun ρ m σ H F al Q he hw p => ?_⟩
  · refine wpAny_Call_Name_kw (ld_glob I (hy.gl hg) hm ?_ hdb)
    refine PySem.W.callWith_K (h₀ := c.base) I.ok.mod.kin hk (thn ((a1 y hy).run pos pins s σ H _ I h) fun us s1 ⟨vs, H1, I1, r, q⟩ => ⟨I1.kIn, ?_⟩) (hs _) (hpl _)
    exact runG (X := c.cx y) (b := c.toB) rfl rfl rfl rfl rfl hF (hy.rm hcm hr) (hy.gd hgd) hb (passAt hy.takes σ) I1 r q
  · refine a2 ρ m σ H F al _ he hw (Post.step (p.lenA fun ds m' e => hlen ρ m ds m' e) fun ds m1 vs H1 F1 al1 e1 w1 q1 p1 => ?_)
    split at p1
    · rename_i hn
      exact ⟨ds, m1, F1, al1, hn.trans hl, q1, w1, p1⟩
    · exact p1.elim
/-! ### repr -/
mutual
/-- data that repr shows: also a dict without entries -/
def toPd : D → Option PyData
  | .non => some .none
  | .bl b => some (.bool b)
  | .int i => some (.int i)
  | .str x => some (.str x)
  | .tup xs => (toPds xs).map .tuple
  | .lst xs => (toPds xs).map .list
  | .fix xs => (toPds xs).map .list
  | .dct kvs => if kvs.isEmpty then some (.dict []) else none
  | _ => none
def toPds : List D → Option (List PyData)
  | [] => some []
  | x :: r => match toPd x, toPds r with
    | some p, some ps => some (p :: ps)
    | _, _ => none
end
mutual
theorem toP_pd : ∀ {d : D} {p : PyData}, toP d = some p → toPd d = some p
  | .non, _, h => h
  | .bl _, _, h => h
  | .int _, _, h => h
  | .str _, _, h => h
  | .tup xs, _, h => by
    rw [toP] at h
    rw [toPd]
    cases e : toPs xs with
    | none => rw [e] at h; cases h
    | some ps => rw [e] at h; rw [toPs_pd e]; exact h
  | .lst xs, _, h => by
    rw [toP] at h
    rw [toPd]
    cases e : toPs xs with
    | none => rw [e] at h; cases h
    | some ps => rw [e] at h; rw [toPs_pd e]; exact h
  | .fix xs, _, h => by
    rw [toP] at h
    rw [toPd]
    cases e : toPs xs with
    | none => rw [e] at h; cases h
    | some ps => rw [e] at h; rw [toPs_pd e]; exact h
  | .obj _ _, _, h => by rw [toP] at h <;> first | cases h | (intros; exact D.noConfusion)
  | .dct _, _, h => by rw [toP] at h <;> first | cases h | (intros; exact D.noConfusion)
  | .loc _, _, h => by rw [toP] at h <;> first | cases h | (intros; exact D.noConfusion)
  | .glo _, _, h => by rw [toP] at h <;> first | cases h | (intros; exact D.noConfusion)
  | .ty _, _, h => by rw [toP] at h <;> first | cases h | (intros; exact D.noConfusion)
  | .exn _ _, _, h => by rw [toP] at h <;> first | cases h | (intros; exact D.noConfusion)
  | .nst _, _, h => by rw [toP] at h <;> first | cases h | (intros; exact D.noConfusion)
  | .odc, _, h => by rw [toP] at h <;> first | cases h | (intros; exact D.noConfusion)
theorem toPs_pd : ∀ {ds : List D} {ps : List PyData}, toPs ds = some ps → toPds ds = some ps
  | [], _, h => h
  | x :: r, _, h => by
    rw [toPs] at h
    rw [toPds]
    cases e1 : toP x with
    | none => rw [e1] at h; cases h
    | some p =>
      cases e2 : toPs r with
      | none => rw [e1, e2] at h; cases h
      | some ps => rw [e1, e2] at h; rw [toP_pd e1, toPs_pd e2]; exact h
end
/-- the dict of modules is a dict -/
def smB (K : PySem.W.Frag) : Bool := match K.lookup sysModules with
  | some o => (match o.cls with
    | .type n => n == "dict"
    | _ => false)
  | none => false
theorem smB_ne {K : PySem.W.Frag} {h : Heap} {a : Addr} {o : Obj} (hs : smB K = true) (X : K.In h) (ho : h.get? a = some o) (hc : o.cls = .type "list") : a ≠ sysModules := by
  rintro rfl
  unfold smB at hs
  split at hs
  · rename_i o' e
    have := X _ _ e
    rw [ho] at this
    cases this
    rw [hc] at hs
    exact absurd hs (by decide)
  · cases hs
mutual
inductive Dq (K : PySem.W.Frag) (H : Hp) : V → PyData → Prop
  | non : Dq K H .non .none
  | bl (b : Bool) : Dq K H (.bl b) (.bool b)
  | int (i : Int) : Dq K H (.int i) (.int i)
  | str (x : Str) : Dq K H (.str x) (.str x)
  | lst {a : Addr} {xs : List V} {ds : List PyData} : SqL K H a xs → DqAll K H xs ds → Dq K H (.ref a) (.list ds)
  | tup {a : Addr} {xs : List V} {ds : List PyData} : SqT K H a xs → DqAll K H xs ds → Dq K H (.ref a) (.tuple ds)
  | dct {a : Addr} : H a = some (.dK []) → Dq K H (.ref a) (.dict [])
inductive DqAll (K : PySem.W.Frag) (H : Hp) : List V → List PyData → Prop
  | nil : DqAll K H [] []
  | cons {v : V} {vs : List V} {d : PyData} {ds : List PyData} : Dq K H v d → DqAll K H vs ds → DqAll K H (v :: vs) (d :: ds)
end
section
variable {X : Cx} {pins : List (Addr × Obj)} {σ : L2.St} {H : Hp} {s : Shared}
mutual
theorem Dq.reads (I : Inv X pins σ H s) (hs : smB X.K = true) : ∀ {v : V} {d : PyData} {u : Value}, Dq X.K H v d → RelV v u → ∃ as, Reads s.heap u d as ∧ sysModules ∉ as
  | _, _, _, .non, r => by cases r; exact ⟨_, Reads.none, List.not_mem_nil⟩
  | _, _, _, .bl b, r => by cases r; exact ⟨_, Reads.bool b, List.not_mem_nil⟩
  | _, _, _, .int i, r => by obtain ⟨t, rfl⟩ := r; exact ⟨_, Reads.int i t, List.not_mem_nil⟩
  | _, _, _, .str x, r => by obtain ⟨t, rfl⟩ := r; exact ⟨_, Reads.str x t, List.not_mem_nil⟩
  | _, _, _, .lst h ha, r => by
    cases r
    obtain ⟨its, rv, ⟨o, n, ho, hc, _, hd⟩, _⟩ := I.list h
    obtain ⟨as, hr, hn⟩ := DqAll.reads I hs ha rv
    exact ⟨_, Reads.list ho hc hd hr, fun z => (List.mem_cons.mp z).elim (fun z => smB_ne hs I.kIn ho hc z.symm) hn⟩
  | _, _, _, .tup h ha, r => by
    cases r
    obtain ⟨its, rv, ⟨o, ho, hc, n, hd⟩, _⟩ := I.tuple h
    obtain ⟨as, hr, hn⟩ := DqAll.reads I hs ha rv
    exact ⟨_, Reads.tuple ho hc hd hr, hn⟩
  | _, _, _, .dct (a := a) e, r => by
    cases r
    obtain ⟨_, hd, vs, rel, dd⟩ := dk_of I.hok e
    cases rel
    obtain ⟨o, es, ep, ho, hx, hdt, _, hp, _⟩ := dd
    have hl := hp.length
    have he : es.toList = [] := List.length_eq_zero_iff.mp (by simpa using hl)
    have q : Reads s.heap (.ref a) (.dict []) (a :: [] ++ []) := Reads.dict ho hx.1 hdt (by rw [he]; exact .nil) (by rw [he]; exact .nil)
    refine ⟨_, q, fun z => ?_⟩
    have : sysModules = a := by simpa using z
    rw [← this] at hd
    simp at hd
theorem DqAll.reads (I : Inv X pins σ H s) (hs : smB X.K = true) : ∀ {vs : List V} {ds : List PyData} {us : List Value}, DqAll X.K H vs ds → Vals vs us → ∃ as, ReadsAll s.heap us ds as ∧ sysModules ∉ as
  | _, _, _, .nil, r => by cases r; exact ⟨_, ReadsAll.nil, List.not_mem_nil⟩
  | _, _, _, .cons h1 h2, r => by
    cases r with
    | cons r1 r2 =>
      obtain ⟨as, q1, n1⟩ := Dq.reads I hs h1 r1
      obtain ⟨bs, q2, n2⟩ := DqAll.reads I hs h2 r2
      exact ⟨_, ReadsAll.cons q1 q2, fun z => (List.mem_append.mp z).elim n1 n2⟩
end
end
section
variable {K : PySem.W.Frag} {F : Hp} {al : List Addr} {H : Hp}
mutual
theorem Rp.dq (sub : ∀ (a : Addr) (o : HO), F a = some o → H a = some o) : ∀ {d : D} {v : V} {p : PyData}, Rp K F al d v → toPd d = some p → Dq K H v p
  | _, _, _, .non, h => by rw [toPd] at h; cases h; exact .non
  | _, _, _, .bl b, h => by rw [toPd] at h; cases h; exact .bl b
  | _, _, _, .int i, h => by rw [toPd] at h; cases h; exact .int i
  | _, _, _, .str x, h => by rw [toPd] at h; cases h; exact .str x
  | _, _, _, .tup (ds := ds) s q, h => by
    rw [toPd] at h
    cases e : toPds ds with
    | none => rw [e] at h; cases h
    | some ps => rw [e] at h; cases h; exact .tup (sqt_up sub s) (RpL.dq sub q e)
  | _, _, _, .lst (ds := ds) s q, h => by
    rw [toPd] at h
    cases e : toPds ds with
    | none => rw [e] at h; cases h
    | some ps => rw [e] at h; cases h; exact .lst (.of (sub _ _ s)) (RpL.dq sub q e)
  | _, _, _, .fix (ds := ds) s q, h => by
    rw [toPd] at h
    cases e : toPds ds with
    | none => rw [e] at h; cases h
    | some ps => rw [e] at h; cases h; exact .lst (sql_up sub s) (RpL.dq sub q e)
  | _, _, _, .dct (gs := gs) s q, h => by
    rw [toPd] at h
    cases gs with
    | nil =>
      cases q
      cases h
      exact .dct (sub _ _ s)
    | cons g gs => cases h
  | _, _, _, .obj _ _, h => by rw [toPd] at h <;> first | cases h | (intros; exact D.noConfusion)
  | _, _, _, .loc _, h => by rw [toPd] at h <;> first | cases h | (intros; exact D.noConfusion)
  | _, _, _, .glo _, h => by rw [toPd] at h <;> first | cases h | (intros; exact D.noConfusion)
  | _, _, _, .ty _, h => by rw [toPd] at h <;> first | cases h | (intros; exact D.noConfusion)
  | _, _, _, .exn _ _, h => by rw [toPd] at h <;> first | cases h | (intros; exact D.noConfusion)
  | _, _, _, .nst _ _, h => by rw [toPd] at h <;> first | cases h | (intros; exact D.noConfusion)
  | _, _, _, .odc _, h => by rw [toPd] at h <;> first | cases h | (intros; exact D.noConfusion)
theorem RpL.dq (sub : ∀ (a : Addr) (o : HO), F a = some o → H a = some o) : ∀ {d : List D} {v : List V} {p : List PyData}, RpL K F al d v → toPds d = some p → DqAll K H v p
  | _, _, _, .nil, h => by rw [toPds] at h; cases h; exact .nil
  | _, _, _, .cons (d := d) (ds := ds) r q, h => by
    rw [toPds] at h
    cases e1 : toPd d with
    | none => rw [e1] at h; cases h
    | some p =>
      cases e2 : toPds ds with
      | none => rw [e1, e2] at h; cases h
      | some ps => rw [e1, e2] at h; cases h; exact .cons (Rp.dq sub r e1) (RpL.dq sub q e2)
end
theorem dere_dq {m : Mu} {d : D} {v : V} {p : PyData} (w : Wd K F al m H) (r : Rp K F al d v) (h : toPd (dere m d) = some p) : Dq K H v p := by
  cases d with
  | loc n =>
    unfold dere at h
    cases r with
    | @loc _ a s =>
    cases e : m[n]? with
    | none => simp only [e] at h; rw [toPd] at h <;> first | cases h | (intros; exact D.noConfusion)
    | some cl =>
      cases cl with
      | lst xs =>
        simp only [e] at h
        obtain ⟨_, vs, h1, h2⟩ := w.cell n a _ s e
        rw [toPd] at h
        cases e2 : toPds xs with
        | none => rw [e2] at h; cases h
        | some ps => rw [e2] at h; cases h; exact .lst (.of h1) (RpL.dq w.sub h2 e2)
      | ins _ _ => simp only [e] at h; rw [toPd] at h <;> first | cases h | (intros; exact D.noConfusion)
      | dct _ => simp only [e] at h; rw [toPd] at h <;> first | cases h | (intros; exact D.noConfusion)
      | dead => simp only [e] at h; rw [toPd] at h <;> first | cases h | (intros; exact D.noConfusion)
      | tab q => simp only [e] at h; rw [toPd] at h <;> first | cases h | (intros; exact D.noConfusion)
      | opn _ _ _ => simp only [e] at h; rw [toPd] at h <;> first | cases h | (intros; exact D.noConfusion)
      | dtt _ => simp only [e] at h; rw [toPd] at h <;> first | cases h | (intros; exact D.noConfusion)
  | _ => exact r.dq w.sub h
end
def reprF (ds : List D) (m : Mu) : Out D := match ds with
  | [d] => (match toPd (dere m d) with
    | some p => if p.showable = true ∧ p.depth ≤ 60 ∧ p.shown.length ≤ sizeLine then .ok (.str p.shown) m else .stuck
    | none => .stuck)
  | _ => .stuck
theorem b_repr (hgd : c.gd = true) (hs : smB c.K = true) : CallD c (.builtin "repr") reprF := by
  refine ⟨fun vs H Q => ∃ v p, vs = [v] ∧ Dq c.K H v p ∧ p.showable = true ∧ p.depth ≤ 60 ∧ p.shown.length ≤ sizeLine ∧ Q (.str p.shown) H, fun W y hy => ?_, fun W ds m vs H F al Q hw r p => ?_⟩
  · rintro pins s σ H vs us Q I rv ⟨v, p, rfl, hd, h1, h2, h4, q⟩
    obtain ⟨u, rfl, ru⟩ := vals1 rv
    obtain ⟨as, hr, hsm⟩ := Dq.reads I hs hd ru
    have hu : y.A.units + 64 < cLine := hy.un64
    have fin : ∀ (h' : Heap) (tk tk' : Tok), (∀ b o, s.heap.get? b = some o → h'.get? b = some o) → EP (c.cx y) pins σ Q (.str p.shown tk) { s with heap := h', toks := tk' } := fun h' tk tk' hk => ⟨.str p.shown, H, I.kept (t' := tk') hk, ⟨_, rfl⟩, q⟩
    cases hd with
    | lst _ _ =>
      obtain rfl : u = Value.ref _ := ru
      exact repr_of_reads' hr h1 (fun _ => hsm) (hy.gd hgd) (show y.A.units + _ < cLine by omega) (fun _ _ e => e) (fun h' t tk hk => fin h' t tk hk) h4
    | tup _ _ =>
      obtain rfl : u = Value.ref _ := ru
      exact repr_of_reads' hr h1 (fun _ => hsm) (hy.gd hgd) (show y.A.units + _ < cLine by omega) (fun _ _ e => e) (fun h' t tk hk => fin h' t tk hk) h4
    | dct _ =>
      obtain rfl : u = Value.ref _ := ru
      exact repr_of_reads' hr h1 (fun _ => hsm) (hy.gd hgd) (show y.A.units + _ < cLine by omega) (fun _ _ e => e) (fun h' t tk hk => fin h' t tk hk) h4
    | non =>
      obtain rfl : u = Value.none := ru
      exact PySem.P.repr_of_none (fin s.heap _ _ fun _ _ e => e)
    | bl b =>
      obtain rfl : u = Value.bool b := ru
      exact PySem.P.repr_of_bool (fin s.heap _ _ fun _ _ e => e)
    | int i =>
      obtain ⟨t, rfl⟩ := ru
      exact PySem.P.repr_of_int (by simpa [PyData.showable] using h1) (fin s.heap _ _ fun _ _ e => e)
    | str x =>
      obtain ⟨t, rfl⟩ := ru
      exact PySem.P.repr_of_str (fin s.heap _ _ fun _ _ e => e) h4
  · unfold reprF at p
    split at p
    · cases r with
      | cons q r =>
      cases r
      split at p
      · rename_i pd hp
        split at p
        · rename_i hb
          exact ⟨_, pd, rfl, dere_dq hw q hp, hb.1, hb.2.1, hb.2.2, p _ H F al Le.refl hw (.str _)⟩
        · exact p.elim
      · exact p.elim
    · exact p.elim
end
end DS

namespace DS
open PySem PySem.Spec PyProof.Rows L2
section
variable {c : SC} {W : WX} {pos : Pos} {a b d e o : Expr} {fa fb fe fo : XE'} {ft : XT} {es : List Expr} {fr : XA} {x : Str} {p0 apos : Pos} {k : Nat} {f : Addr} {fd : FuncData} {ps : List Str} {G : Fn}
/-! ### isinstance -/
/-- what the written part must tell of classes (the laws' own list cs) -/
def tyNames : List String := ["NoneType", "bool", "int", "str", "tuple", "list", "dict"]
structure Isi (K : PySem.W.Frag) (cs : List Str) : Prop where
  cl : ∀ cn ∈ cs, Cls K (He.ga K cn) ∧ PySem.W.findIn K (.ref (He.ga K cn)) "__class__" = some (some (.builtin "object.__class__")) ∧ PySem.W.mroIn K (He.ga K cn) (.type "object") = some true
  gs : PySem.W.specialIn K (.builtin "object.__class__") "__get__" = some (some (.builtin "getset_descriptor.__get__"))
  tk : PySem.W.takesIn K (.builtin "object.__class__") = some true
  ot : ∀ cn ∈ cs, ∀ n ∈ tyNames, PySem.W.kitOne K (.ref (He.ga K cn)) (.type n) = some false
  to : ∀ n ∈ tyNames, ∀ cn ∈ cs, PySem.W.kitOne K (.type n) (.ref (He.ga K cn)) = some false
  oo : ∀ cn ∈ cs, ∀ cm ∈ cs, PySem.W.kitOne K (.ref (He.ga K cn)) (.ref (He.ga K cm)) = some (decide (cn = cm))
/-- the type of data: a built-in one, a class -/
def tyOf (m : Mu) (d : D) : Option (String ⊕ Str) := match d with
  | .non => some (.inl "NoneType")
  | .bl _ => some (.inl "bool")
  | .int _ => some (.inl "int")
  | .str _ => some (.inl "str")
  | .tup _ => some (.inl "tuple")
  | .lst _ => some (.inl "list")
  | .dct _ => some (.inl "dict")
  | .odc => some (.inl "dict")
  | d => match insOf m d with
    | some (c, _) => some (.inr c)
    | none => match ownOf m d with
      | some _ => some (.inl "list")
      | none => none
def tyVal (K : PySem.W.Frag) : String ⊕ Str → Value
  | .inl n => .type n
  | .inr c => .ref (He.ga K c)
theorem sqt_ty {K : PySem.W.Frag} {H : Hp} {q : Addr} {vs : List V} (s : SqT K H q vs) : TyX K H (.ref q) (.type "tuple") := by
  rcases s with (s | ⟨o, s⟩) | ⟨o, its, n, h1, h2, h3⟩
  · exact .base (.tup s)
  · exact .fTuple s
  · exact .kTuple h1 h2
theorem tyOf_ok {K : PySem.W.Frag} {cs : List Str} {F : Hp} {al : List Addr} {m : Mu} {H : Hp} {d : D} {v : V} {t : String ⊕ Str} (I : Isi K cs) (w : Wd K F al m H) (r : Rp K F al d v) (h : tyOf m d = some t) (hc : ∀ cn, t = .inr cn → cn ∈ cs) : TyX K H v (tyVal K t) := by
  have rest : (match insOf m d with
    | some (c, _) => some (.inr c)
    | none => match ownOf m d with
      | some _ => some (.inl "list")
      | none => (none : Option (String ⊕ Str))) = some t → TyX K H v (tyVal K t) := fun h => by
    split at h
    · rename_i cn gs hi
      cases h
      obtain ⟨q, dx, fs, rfl, h1, h2⟩ := insOf_ok w r hi
      obtain ⟨c1, c2, c3⟩ := I.cl cn (hc cn rfl)
      exact .base (.ins h1 c1 c2 I.gs I.tk c3)
    · split at h
      · rename_i xs hx
        cases h
        obtain ⟨q, vs, rfl, h1, h2⟩ := ownOf_ok w r hx
        exact .base (.lst h1)
      · cases h
  cases r with
  | non => cases h; exact .base .non
  | bl b => cases h; exact .base (.bl b)
  | int i => cases h; exact .base (.int i)
  | str x => cases h; exact .base (.str x)
  | tup s _ => cases h; exact sqt_ty (sqt_up w.sub s)
  | lst s _ => cases h; exact .base (.lst (w.sub _ _ s))
  | dct s _ => cases h; exact .base (.dK (w.sub _ _ s))
  | odc s => cases h; exact .base (.dK (w.sub _ _ s))
  | _ => exact rest h
def isiB (cs : List Str) (t : String ⊕ Str) (d : D) : Option Bool := match t, d with
  | .inl a, .ty b => L2.kitB a b
  | .inr a, .ty b => if a ∈ cs ∧ b ∈ tyNames then some false else none
  | .inl a, .glo b => if a ∈ tyNames ∧ b ∈ cs then some false else none
  | .inr a, .glo b => if a ∈ cs ∧ b ∈ cs then some (decide (a = b)) else none
  | _, _ => none
def isiF (cs : List Str) (ds : List D) (m : Mu) : Out D := match ds with
  | [d, e] => (match tyOf m d with
    | some t => (match isiB cs t e with
      | some b => .ok (.bl b) m
      | none => .stuck)
    | none => .stuck)
  | _ => .stuck
theorem b_isi {cs : List Str} (I : Isi c.K cs) : CallD c (.builtin "isinstance") (isiF cs) := by
  refine ⟨rIsi c.K, fun W y hy => call_isi (X := c.cx y), fun W ds m vs H F al Q hw r p => ?_⟩
  unfold isiF at p
  split at p
  · cases r with
    | cons q r =>
    cases r with
    | cons q' r =>
    cases r
    split at p
    · rename_i t ht
      split at p
      · rename_i b hb
        unfold isiB at hb
        split at hb
        · cases q'
          exact ⟨_, _, _, _, b, rfl, .ty _, tyOf_ok I hw q ht (fun _ z => nomatch z), L2.kit_ty hb, p _ H F al Le.refl hw (.bl _)⟩
        · cases q'
          split at hb
          · rename_i hi
            cases hb
            exact ⟨_, _, _, _, false, rfl, .ty _, tyOf_ok I hw q ht (fun _ z => by cases z; exact hi.1), I.ot _ hi.1 _ hi.2, p _ H F al Le.refl hw (.bl _)⟩
          · cases hb
        · cases q'
          split at hb
          · rename_i hi
            cases hb
            exact ⟨_, _, _, _, false, rfl, .own _, tyOf_ok I hw q ht (fun _ z => nomatch z), I.to _ hi.1 _ hi.2, p _ H F al Le.refl hw (.bl _)⟩
          · cases hb
        · cases q'
          split at hb
          · rename_i hi
            cases hb
            exact ⟨_, _, _, _, _, rfl, .own _, tyOf_ok I hw q ht (fun _ z => by cases z; exact hi.1), I.oo _ hi.1 _ hi.2, p _ H F al Le.refl hw (.bl _)⟩
          · cases hb
        · cases hb
      · exact p.elim
    · exact p.elim
  · exact p.elim
/-- a built-in type's name, an own class's -/
theorem de_ty {n : String} (hm : c.mg x = none) (hv : bootBuiltins x = some (.type n)) (hg : c.sc.names.lookup x = some .globalImplicit := by rfl) (hn : x ≠ "__name__" := by decide) (hd : (x == ("__debug__" : Str)) = false := by decide) : DE c W (.Name x pos) (xC (.ty n)) :=
  ⟨_, fun y hy => pe_bltn (v := .ty n) (hy.gl hg) hm hv rfl hn hd, fun _ _ _ H F al Q _ hw p => p _ H F al Le.refl hw (.ty n)⟩
theorem de_glo (hm : c.mg x = some (.ref (He.ga c.K x))) (hg : c.sc.names.lookup x = some .globalImplicit := by rfl) (hd : (x == ("__debug__" : Str)) = false := by decide) : DE c W (.Name x pos) (xC (.glo x)) :=
  ⟨_, fun y hy => pe_glob (v := .ref (He.ga c.K x)) (hy.gl hg) hm rfl hd, fun _ _ _ H F al Q _ hw p => p _ H F al Le.refl hw (.glo x)⟩
/-! ### C(e, ..) with defaults, with keywords -/
def xMakeD (cn : Str) (G : Fn) (frz : Bool) (dds : List D) (a : XA) : XE' := fun r m => (a r m).bind fun ds m1 => makeD cn G frz (ds ++ dds) m1
theorem de_makeD {cn : Str} {frz : Bool} {dvs : List V} (dds : List D) (hF : FOk c k f fd ps G) (hM : Mk c.K (He.ga c.K cn) f) (hm : c.mg x = some (.ref (He.ga c.K cn))) (hb : ∃ ds, Vals dvs ds ∧ Binds c.K fd ps ds) (hd : ∀ F al, RpL c.K F al dds dvs) (ha : DA c W (e :: es) fr) (hr : k + 1 ≤ c.k := by first | exact Nat.le_of_ble_eq_true rfl | exact Nat.le_refl _ | exact Nat.le_add_right _ _) (hcm : c.calm = true := by rfl) (hl : (e :: es).length + dds.length + 1 = ps.length := by rfl) (hg : c.sc.names.lookup x = some .globalImplicit := by rfl)
    (hdb : (x == ("__debug__" : Str)) = false := by decide) (hs : ∀ env, starEach (e :: es) env = (false, eval e env) :: starEach es env := by intro _; rfl) (hpl : ∀ env, (backTo pos (starEach es env)).any (·.1) = false := by intro _; rfl) : DE c W (.Call (.Name x p0) (e :: es) [] pos) (xMakeD cn G frz dds fr) := by
  obtain ⟨⟨t, a1, a2⟩, hlen⟩ := ha
  obtain ⟨dsv, hv, hb⟩ := hb
  refine ⟨tMakeS (He.ga c.K cn) (spOf c.K ps.length G) dvs ps.length (WE W) t, fun y hy => pe_makeS (X := c.cx y) hM hF (hy.rm hcm hr) (hy.gl hg) hm hb hv (fun σ => passAt hy.takes σ) (a1 y hy) hdb (hs _) (hpl _), fun ρ m σ H F al Q he hw p => ?_⟩
  refine a2 ρ m σ H F al _ he hw (Post.step (p.lenA fun ds m' e => hlen ρ m ds m' e) fun ds m1 vs H1 F1 al1 e1 w1 q1 p1 => ?_)
  split at p1
  · rename_i hn
    refine ⟨?_, fun x dx hx hdx hne => make_ok (by rw [List.length_append, hn]; exact hl) w1 (q1.append (hd F1 al1)) p1 x dx hx hdx hne⟩
    rw [← q1.len, ← (hd F1 al1).len, hn]
    exact hl
  · exact p1.elim
def DK (c : SC) (W : WX) (kws : List Keyword) (f : XA) : Prop := (∃ t : TA, (∀ y, OkD c W y → PK (c.cx y) kws t) ∧
  ∀ r m σ H F al Q, EnvOk c.K F al r σ → Wd c.K F al m H → Post c.K (RL c.K) (atS W σ) F al Q (f r m) → t σ H Q) ∧ ∀ r m ds m', f r m = .ok ds m' → ds.length = kws.length
theorem dk_nil : DK c W [] xaNil := ⟨⟨tNil, fun _ _ => pk_nil, fun _ _ _ H F al Q _ hw p => p [] H F al Le.refl hw .nil⟩, fun r m ds m' h => by cases h; rfl⟩
theorem xaCons_len {n : Nat} (hl : ∀ r m ds m', fr r m = .ok ds m' → ds.length = n) : ∀ r m ds m', xaCons fe fr r m = .ok ds m' → ds.length = n + 1 := fun r m ds m' h => by
  unfold xaCons at h
  cases h1 : fe r m with
  | ok x m1 =>
    rw [h1] at h
    have h' : Out.bind (fr r m1) (fun xs m2 => .ok (x :: xs) m2) = .ok ds m' := h
    cases h2 : fr r m1 with
    | ok xs m2 =>
      rw [h2] at h'
      cases h'
      rw [List.length_cons, hl _ _ _ _ h2]
    | exc _ _ _ => rw [h2] at h'; cases h'
    | stuck => rw [h2] at h'; cases h'
  | exc _ _ _ => rw [h1] at h; cases h
  | stuck => rw [h1] at h; cases h
theorem dk_cons {nm : Option Str} {kpos : Pos} {kws : List Keyword} (ha : DE c W e fe) (hr : DK c W kws fr) : DK c W (⟨nm, e, kpos⟩ :: kws) (xaCons fe fr) := by
  obtain ⟨t, a1, a2⟩ := ha
  obtain ⟨⟨u, b1, b2⟩, hl⟩ := hr
  refine ⟨⟨tCons t u, fun y hy => pk_cons (a1 y hy) (b1 y hy), fun ρ m σ H F al Q he hw p => ?_⟩, xaCons_len hl⟩
  refine a2 ρ m σ H F al _ he hw (Post.step p fun x m1 v H1 F1 al1 e1 w1 q1 p1 => ?_)
  refine b2 ρ m1 σ H1 F1 al1 _ (he.up e1) w1 (Post.step p1 fun xs m2 vs H2 F2 al2 e2 w2 q2 p2 => ?_)
  exact p2 _ H2 F2 al2 Le.refl w2 (.cons (q1.up e2) q2)
/-- C(e, .., k = v): the values between stand by their defaults -/
def xMakeK (cn : Str) (G : Fn) (frz : Bool) (mid : List D) (a b : XA) : XE' := fun r m => (a r m).bind fun ds m1 => (b r m1).bind fun zs m2 => makeD cn G frz (ds ++ (mid ++ zs)) m2
theorem de_makeK {cn : Str} {frz : Bool} {n : Nat} {ks : List Str} {g : List Value → List Value → List Value} {gV : List V → List V → List V} {midV : List V} {kws : List Keyword} {fk : XA} (mid : List D) (hF : FOk c k f fd ps G) (hM : Mk c.K (He.ga c.K cn) f) (hm : c.mg x = some (.ref (He.ga c.K cn))) (hb : KBn c.K fd ps (n + 1) ks g gV) (hgV : ∀ x vs zs, gV (x :: vs) zs = x :: (vs ++ (midV ++ zs))) (hmid : ∀ F al, RpL c.K F al mid midV) (ha : DA c W (e :: es) fr) (hkw : DK c W kws fk)
    (hr : k + 1 ≤ c.k := by first | exact Nat.le_of_ble_eq_true rfl | exact Nat.le_refl _ | exact Nat.le_add_right _ _) (hcm : c.calm = true := by rfl) (hn : (e :: es).length = n := by rfl) (hl : n + (mid.length + kws.length) + 1 = ps.length := by rfl) (hg : c.sc.names.lookup x = some .globalImplicit := by rfl)
    (hall : ∀ env, (backToKw pos (keywordEach kws env)).all (·.1.isSome) = true := by intro _; rfl) (hks : ∀ env, (backToKw pos (keywordEach kws env)).filterMap (·.1) = ks := by intro _; rfl) (hkl : kws.length = ks.length := by rfl)
    (hdb : (x == ("__debug__" : Str)) = false := by decide) (hs : ∀ env, starEach (e :: es) env = (false, eval e env) :: starEach es env := by intro _; rfl) (hpl : ∀ env, ((backTo pos (starEach (e :: es) env)).any (·.1) || (backToKw pos (keywordEach kws env)).any (·.1.isNone)) = false := by intro _; rfl) : DE c W (.Call (.Name x p0) (e :: es) kws pos) (xMakeK cn G frz mid fr fk) := by
  obtain ⟨⟨t, a1, a2⟩, hlen⟩ := ha
  obtain ⟨⟨tk, k1, k2⟩, hlenk⟩ := hkw
  refine ⟨fun σ H Q => t σ H fun vs H1 => tk σ H1 fun zs H2 => vs.length = n ∧ zs.length = ks.length ∧ ∀ x dx, H2 x = none → H2 dx = none → dx ≠ x → spOf c.K ps.length G (gV (.ref x :: vs) zs) (upd (upd H2 dx (.own x)) x (.ins (He.ga c.K cn) dx [])) (fun v H3 => v = .non ∧ Q (.ref x) H3) (WE W σ), fun y hy => ⟨fun pins s σ H Q I h => wpAny_Call_Name_kw (ld_glob I (hy.gl hg) hm (PySem.W.callWith_KW (h₀ := c.base) I.ok.mod.kin hM.kp (hall _) (thn ((a1 y hy).run pos pins s σ H _ I h) fun us s1 ⟨vs, H1, I1, r, q⟩ => thn ((k1 y hy).run pos pins s1 σ H1 _ I1 q) fun ws s2 ⟨zs, H2, I2, rz, l1, l2, q2⟩ => ⟨I2.kIn, by
      rw [hks]
      exact run_mkS (X := c.cx y) (E := WE W) (B := fun z => g (.ref z :: us) ws) (Bv := fun z => gV (.ref z :: vs) zs) hM hF (hy.rm hcm hr) (fun s3 z kI => hb.to s3 (.ref z :: us) ws kI (congrArg Nat.succ (r.length.symm.trans l1)) (rz.length.symm.trans l2)) (passAt hy.takes σ) I2 (fun z => hb.rel (.cons rfl r) rz) q2⟩) (hpl _) (hs _)) hdb)⟩, fun ρ m σ H F al Q he hw p => ?_⟩
  refine a2 ρ m σ H F al _ he hw (Post.step (p.lenA fun ds m' e => hlen ρ m ds m' e) fun ds m1 vs H1 F1 al1 e1 w1 q1 p1 => ?_)
  split at p1
  · rename_i hn1
    refine k2 ρ m1 σ H1 F1 al1 _ (he.up e1) w1 (Post.step (p1.lenA fun ds m' e => hlenk ρ m1 ds m' e) fun zs m2 ws H2 F2 al2 e2 w2 q2 p2 => ?_)
    split at p2
    · rename_i hn2
      refine ⟨by rw [← q1.len, hn1]; exact hn, by rw [← q2.len, hn2]; exact hkl, fun x dx hx hdx hne => ?_⟩
      rw [hgV]
      exact make_ok (by rw [List.length_append, List.length_append, hn1, hn2, hn]; exact hl) w2 ((q1.up e2).append ((hmid F2 al2).append q2)) p2 x dx hx hdx hne
    · exact p2.elim
  · exact p1.elim
/-- f(k = v, ..) -/
def xCallK (G : Fn) (sh : List D → List D) (b : XA) : XE' := fun r m => (b r m).bind fun zs m2 => G (sh zs) m2
/-! ### dicts with text keys: {k: v for ..}, d[k] -/
def getF (f : Str) (gs : List (Str × D)) : Option D := gs.lookup f
def dgetD (d e : D) (m : Mu) : Out D := match d, e with
  | .dct gs, .str f => (match gs.lookup f with
    | some v => .ok v m
    | none => .stuck)
  | _, _ => .stuck
theorem valV_look {fs : List (Str × V)} {f : Str} {v : V} (h : fs.lookup f = some v) : valV (fs.map fun p => ((Sum.inr p.1 : Key), p.2)) (Sum.inr f) = some v := by
  induction fs with
  | nil => cases h
  | cons p r ih =>
    obtain ⟨g, w⟩ := p
    unfold valV at ih ⊢
    rw [List.lookup_cons] at h
    simp only [List.map_cons, List.find?_cons]
    by_cases e : f = g
    · subst e
      simp at h
      simp [h]
    · have e1 : (f == g) = false := by simpa using e
      rw [e1] at h
      have e2 : decide ((Sum.inr g : Key) = Sum.inr f) = false := decide_eq_false fun z => e (Sum.inr.inj z).symm
      rw [e2]
      exact ih h
theorem de_dget (ha : DE c W a fa) (hb : DE c W b fb) (hs : NoSl b := by exact fun _ _ => rfl) : DE c W (.Subscript a b pos) (xOp dgetD fa fb) := by
  obtain ⟨t, a1, a2⟩ := ha
  obtain ⟨u, b1, b2⟩ := hb
  refine ⟨tDGet t u, fun y hy => pe_dget (X := c.cx y) (show y.A.units + 1 < cLine by have := hy.un64; omega) (a1 y hy) (b1 y hy) hs, fun ρ m σ H F al Q he hw p => ?_⟩
  refine a2 ρ m σ H F al _ he hw (Post.step p fun z m1 v H1 F1 al1 e1 w1 q1 p1 => b2 ρ m1 σ H1 F1 al1 _ (he.up e1) w1 (Post.step p1 fun z' m2 v' H2 F2 al2 e2 w2 q2 p2 => ?_))
  have q1' := q1.up e2
  clear q1
  unfold dgetD at p2
  split at p2
  · rename_i gs f
    cases q2
    cases q1' with
    | @dct q fs _ s r =>
    split at p2
    · rename_i dv hv
      obtain ⟨u', h3, h4⟩ := (r.look (x := f)).2 dv hv
      exact ⟨q, u', rfl, .inl ⟨_, Sum.inr f, .inl (w2.sub _ _ s), rfl, (valV_look h3).symm⟩, p2 _ H2 F2 al2 Le.refl w2 h4⟩
    · exact p2.elim
  · exact p2.elim
def dputD (n : Nat) (k d : D) (m : Mu) : Out Unit := match m[n]?, k with
  | some (.dct gs), .str f => if d.inB n = true ∧ gs.length < 1000 ∧ gs.lookup f = none then .ok () (m.set n (.dct (gs ++ [(f, d)]))) else .stuck
  | _, _ => .stuck
def dcF (g : XG) (tk te : XE') (n : Nat) (r0 : Rho) : List D → Mu → Out Unit
  | [], m => .ok () m
  | x :: xs, m => (g x r0 m).ne.bind fun r1 m1 => (tk r1 m1).ne.bind fun k m2 => (te r1 m2).ne.bind fun d m3 => (dputD n k d m3).bind fun _ m4 => dcF g tk te n r0 xs m4
def dcEnd (n : Nat) (m : Mu) : Out D := match m[n]? with
  | some (.dct gs) => .ok (.dct gs) (m.take n)
  | _ => .stuck
def xDc (f : XA) (vs : List Nat) (g : XG) (tk te : XE') : XE' := fun r m => (f r m).bind fun xs m1 => (dcF g tk te m1.length (wipeR r vs) xs (m1 ++ [.dct []])).bind fun _ m2 => dcEnd m1.length m2
theorem wipe_twice (ws : List Nat) (σ : L2.St) : L2.wipe (L2.wipe σ ws) ws = L2.wipe σ ws := by
  apply List.ext_getElem?
  intro n
  have hl : ∀ (us : List Nat) (τ : L2.St), n ∈ us → n < τ.length → (L2.wipe τ us)[n]? = some none := fun us => by
    induction us with
    | nil => intro τ h _; simp at h
    | cons u us ih =>
      intro τ h hn
      unfold L2.wipe
      by_cases hu : n = u
      · subst hu
        rw [List.getElem?_set_self (by rw [wipe_length]; exact hn)]
      · rw [List.getElem?_set_ne (Ne.symm hu)]
        exact ih τ ((List.mem_cons.mp h).resolve_left hu) hn
  have hr : ∀ (us : List Nat) (τ : L2.St), n ∉ us → (L2.wipe τ us)[n]? = τ[n]? := fun us => by
    induction us with
    | nil => intro τ _; rfl
    | cons u us ih =>
      intro τ h
      unfold L2.wipe
      rw [List.getElem?_set_ne (fun z => h (by simp [z]))]
      exact ih τ fun z => h (by simp [z])
  by_cases hn : n ∈ ws
  · by_cases hlen : n < σ.length
    · rw [hl ws _ hn (by rw [wipe_length]; exact hlen), hl ws _ hn hlen]
    · rw [List.getElem?_eq_none_iff.mpr (by rw [wipe_length, wipe_length]; omega), List.getElem?_eq_none_iff.mpr (by rw [wipe_length]; omega)]
  · rw [hr ws _ hn]
theorem any_none {fs : List (Str × V)} {f : Str} (h : fs.lookup f = none) : (((fs.map fun p => ((Sum.inr p.1 : Key), p.2))).any fun kv => decide (kv.1 = Sum.inr f)) = false := by
  induction fs with
  | nil => rfl
  | cons p r ih =>
    obtain ⟨g, w⟩ := p
    rw [List.lookup_cons] at h
    by_cases e : f = g
    · subst e; simp at h
    · have e1 : (f == g) = false := by simpa using e
      rw [e1] at h
      have e2 : decide ((Sum.inr g : Key) = Sum.inr f) = false := decide_eq_false fun z => e (Sum.inr.inj z).symm
      rw [List.map_cons, List.any_cons, e2]
      exact ih h
theorem RpF.snoc {K : PySem.W.Frag} {F : Hp} {al : List Addr} {f : Str} {q : D} {w : V} (h : Rp K F al q w) : ∀ {gs : List (Str × D)} {fs : List (Str × V)}, RpF K F al gs fs → RpF K F al (gs ++ [(f, q)]) (fs ++ [(f, w)])
  | _, _, .nil => .cons h .nil
  | _, _, .cons r t => .cons r (RpF.snoc h t)
theorem inF_append {n : Nat} : ∀ {xs ys : List (Str × D)}, D.inF n xs = true → D.inF n ys = true → D.inF n (xs ++ ys) = true
  | [], _, _, h => h
  | (_, x) :: r, _, h, h' => by
    rw [D.inF, Bool.and_eq_true] at h
    show D.inF n ((_, x) :: (r ++ _)) = true
    rw [D.inF, h.1, inF_append h.2 h']; rfl
theorem de_dc {kx vx tg it : Expr} {scope : Scope} (own : List (Str × Nat)) {fi : XA} {gt : XG} {tk te : XE'} (hN : c.N.Nodup) (ok : blkC c.N c.sc scope own = true) (hi : DI c W tg it fi) (hg : DG (c.blk scope) noW (own.map (·.2)) tg gt) (hk : DE (c.blk scope) noW kx tk) (he : DE (c.blk scope) noW vx te)
    (hs : ∀ env x, foldedSetIterable it env x = pure x := by intro _ _; rfl) (hcm : c.calm = true := by rfl) : DE c W (.DictComp kx vx [⟨tg, it, [], 0⟩] scope pos) (xDc fi (own.map (·.2)) gt tk te) := by
  obtain ⟨wi, i1, i2⟩ := hi
  obtain ⟨tg', g1, g2⟩ := hg
  obtain ⟨t2, k1, k2⟩ := hk
  obtain ⟨t3, e1, e2⟩ := he
  refine ⟨tDc wi tg' tYes t2 t3 (own.map (·.2)), fun y hy => pe_dc (X := c.cx y) hcm hN (i1 y hy) (by
      have z : (c.cx y).env.scope = c.sc := hy.scope
      rw [z]; exact blkOk_by ok) (fun s H C cl fp => g1 _ (hy.blk s H scope C cl fp)) (fun s H C cl fp => pts_nil) (fun s H C cl fp => k1 _ (hy.blk s H scope C cl fp)) (fun s H C cl fp => e1 _ (hy.blk s H scope C cl fp)) (hs _), fun r m σ H F al Q he hw p => ?_⟩
  refine i2 r m σ H F al _ he hw (Post.step p fun xs m1 J H1 F1 al1 e3 w1 q1 p1 => ?_)
  have he1 := he.up e3
  intro D' hD
  have hlast : (al1 ++ [D'])[m1.length]? = some D' := by rw [← w1.len, List.getElem?_append_right (Nat.le_refl _), Nat.sub_self]; rfl
  have w0 : Wd c.K F1 (al1 ++ [D']) (m1 ++ [.dct []]) (upd H1 D' (.dK [])) := w1.newCell hD ⟨w1.fnone hD, [], upd_same, .nil⟩ rfl
  refine ⟨fun i k H' => ∃ m' F' al', k = xs.length - i ∧ i ≤ xs.length ∧ Le F1 (al1 ++ [D']) F' al' ∧ Wd c.K F' al' m' H' ∧ Post c.K (RD c.K) (atS W σ) F1 al1 Q ((dcF gt tk te m1.length (wipeR r (own.map (·.2))) (xs.drop i) m').bind fun _ m2 => dcEnd m1.length m2),
    ⟨xs.length, _, F1, al1 ++ [D'], rfl, Nat.zero_le _, Le.refl, w0, p1⟩, ?_⟩
  rintro i k H' ⟨m', F', al', rfl, hi, e', w', p'⟩
  have e1' : Le F1 al1 F' al' := Le.snoc.trans e'
  by_cases hlt : i < xs.length
  · have hd : xs[i]? = some xs[i] := List.getElem?_eq_getElem hlt
    obtain ⟨hgo, hyl⟩ := q1.go H' F' al' m' i xs[i] e1' w' hd
    refine .inr ⟨hgo, fun H2 => ∃ m2 F2 al2, Le F1 (al1 ++ [D']) F2 al2 ∧ Wd c.K F2 al2 m2 H2 ∧ Post c.K (RD c.K) (atS W σ) F1 al1 Q ((dcF gt tk te m1.length (wipeR r (own.map (·.2))) (xs.drop (i + 1)) m2).bind fun _ m2 => dcEnd m1.length m2), fun H2 ⟨m2, F2, al2, z1, z2, z3⟩ => ⟨xs.length - (i + 1), by omega, m2, F2, al2, rfl, hlt, z1, z2, z3⟩, fun x H2 hy => ?_⟩
    obtain ⟨F2, e2', w2, q2⟩ := hyl x H2 hy
    rw [List.drop_eq_getElem_cons hlt, dcF] at p'
    have he2 : EnvOk c.K F2 al' (wipeR r (own.map (·.2))) (wipe σ (own.map (·.2))) := ((he1.up e1').up e2').wipe _
    refine g2 xs[i] x _ m' _ H2 F2 al' _ he2 w2 q2 (Post.stepN p'.assoc fun r3 m3 σ3 H3 F3 al3 e3' w3 q3 p3 => ?_)
    refine ⟨q3.2.trans (wipe_twice _ _), ?_⟩
    show t2 σ3 H3 _
    refine k2 r3 m3 σ3 H3 F3 al3 _ q3.1 w3 (Post.stepN p3.assoc fun kd m4 ky H4 F4 al4 e4 w4 q4 p4 => ?_)
    refine e2 r3 m4 σ3 H4 F4 al4 _ (q3.1.up e4) w4 (Post.stepN p4.assoc fun q m5 y H5 F5 al5 e5 w5 q5 p5 => ?_)
    have up5 : Le F1 (al1 ++ [D']) F5 al5 := (((e'.trans e2').trans e3').trans e4).trans e5
    have hx5 : al5[m1.length]? = some D' := up5.a _ _ hlast
    have q4' := q4.up e5
    unfold dputD at p5
    cases hc : m5[m1.length]? with
    | none => rw [hc] at p5; exact p5.elim
    | some cl =>
      cases cl with
      | ins _ _ => rw [hc] at p5; exact p5.elim
      | lst _ => rw [hc] at p5; exact p5.elim
      | dead => rw [hc] at p5; exact p5.elim
      | tab _ => rw [hc] at p5; exact p5.elim
      | opn _ _ _ => rw [hc] at p5; exact p5.elim
      | dtt _ => rw [hc] at p5; exact p5.elim
      | dct gs =>
        rw [hc] at p5
        cases q4' with
        | str f =>
          simp only at p5
          obtain ⟨hf, fs, h4, h5⟩ := w5.cell _ _ _ hx5 hc
          by_cases hb : q.inB m1.length = true ∧ gs.length < 1000 ∧ gs.lookup f = none
          · rw [if_pos hb] at p5
            have hgn : D.inF m1.length gs = true := w5.gen _ _ hc
            have hno : fs.lookup f = none := (h5.look (x := f)).1 hb.2.2
            refine ⟨_, Sum.inr f, rfl, h4, ?_, _, F5, al5, up5, w5.write (c := .dct (gs ++ [(f, q)])) hx5 hf ⟨hf, fs ++ [(f, y)], ?_, RpF.snoc q5 h5⟩ (inF_append hgn (by rw [D.inF, hb.1, D.inF]; rfl)), p5⟩
            · rw [List.length_map, ← h5.len]
              exact Nat.lt_of_lt_of_le hb.2.1 (small_line (by decide))
            · rw [upd_same]
              unfold putK
              rw [any_none hno, if_neg (by simp), List.map_append]
              rfl
          · rw [if_neg hb] at p5; exact p5.elim
        | _ => exact p5.elim
  · have ei : i = xs.length := by omega
    subst ei
    rw [List.drop_length, dcF] at p'
    refine .inl ⟨q1.stop H' F' al' m' _ e1' w' (Nat.le_refl _), ?_⟩
    have hx2 : al'[m1.length]? = some D' := e'.a _ _ hlast
    have p' : Post c.K (RD c.K) (atS W σ) F1 al1 Q (dcEnd m1.length m') := p'
    unfold dcEnd at p'
    split at p'
    · rename_i gs hc
      obtain ⟨hf, fs, h4, h5⟩ := w'.cell _ _ _ hx2 hc
      have hgn : D.inF m1.length gs = true := w'.gen _ _ hc
      exact p' _ H' (upd F' D' _) (al'.take m1.length) ((e1'.trans (ext_new hf)).cut (Nat.le_of_eq w1.len)) (w'.frz hx2 h4 hf (Nat.le_refl _)) (.dct upd_same ((h5.cut hgn).up (ext_new hf)))
    · exact p'.elim
/-! ### small things -/
def xNeg (a : XE') : XE' := fun r m => (a r m).bind fun d m1 => match d with
  | .int i => .ok (.int (-i)) m1
  | _ => .stuck
theorem non_rp {K : PySem.W.Frag} {F : Hp} {al : List Addr} : ∀ n : Nat, RpL K F al (List.replicate n .non) (List.replicate n V.non)
  | 0 => .nil
  | n + 1 => .cons .non (non_rp n)
def xTupS (fr : XA) : XE' := fun r m => (fr r m).bind fun ds m1 => if ds.length ≤ sizeLine then .ok (.tup ds) m1 else .stuck
def xLstS (fr : XA) : XE' := fun r m => (fr r m).bind fun ds m1 => if ds.length ≤ sizeLine then .ok (.lst ds) m1 else .stuck
def sCont : XS := fun r m => .cont r m
end
end DS

/-! # XA: an own exception class whose __init__ says super().__init__() and stores its parameters -/
namespace DS
open PySem PySem.Spec PyProof.Rows L2
/-- what the written part must say of the class C: B its built-in base -/
structure XcI (K : PySem.W.Frag) (file : Str) (C fI cc cda : Addr) (B newId initId : String) (bmB : List Value) (qual : Str) (params : Arguments) (body : List Stmt) (scope : Scope) : Prop where
  fb : ExcBaseFacts B newId initId bmB
  kf : PySem.W.KxsFacts B initId
  sf : StoreFacts B bmB "object.__setattr__" "object"
  exi : PySem.W.excInitIn K C bmB newId = true
  over : PySem.W.excOver K C bmB = true
  init : PySem.W.findIn K (.ref C) "__init__" = some (some (.ref fI))
  tyI : PySem.W.typeIn K (.ref fI) = some (.type "function")
  fn : ∃ (oc : Value) (od : Option Addr) (kV doc pm : Value) (an : Option Addr) (ct : Value) (osl : Array (Option Value)), K.lookup fI = some ⟨oc, od, .func (PySem.W.ksFn "__init__" qual params body scope .none kV doc pm an (.ref cda) ct cc), osl⟩
  code : PySem.W.codeIn K (.ref cda) qual = true
  src : ∃ (ccl : Value) (cdd : Option Addr) (vs : Array Value) (ccs : Array (Option Value)) (tf : Tok), K.lookup cda = some ⟨ccl, cdd, .fields vs, ccs⟩ ∧ vs[2]? = some (.str file tf)
  cell : ∃ (cl : Value) (cld : Option Addr) (csl : Array (Option Value)), K.lookup cc = some ⟨cl, cld, .cell (some (.ref C)), csl⟩
  mro : PySem.W.mroIn K C (.ref C) = some true
  sup : PySem.W.ks_superIn K C C "__init__" = some (some (.builtin initId))
  sub : PySem.W.subIn K (.ref C) (.type B) = some true
  opq : PySem.W.nsIn K cStatics "thirdparty.any" = some none
  sa : PySem.W.findIn K (.ref C) "__setattr__" = some (some (.builtin "object.__setattr__"))
  hd : PySem.W.hasDictIn K C = true
  exb : PySem.W.subIn K (.ref C) (.type "BaseException") = some true
  tyC : PySem.W.typeIn K (.ref C) = some (.type "type")
  kp : PySem.W.keepIn K (.ref C) = true
section
open Builtin Builtin.ObjectAttr
variable {P : Program} {w : World} {A : Around} {E : Value → Shared → Prop} {K : PySem.W.Frag} {h : Heap} {g : Array GenState} {d : Drawn} {t : Nat} {os : OsState} {C fI cc cda : Addr} {B newId initId : String} {bmB : List Value} {qual : Str} {params : Arguments} {body : List Stmt} {scope : Scope}
theorem XcI.cls {file : Str} (T : XcI K file C fI cc cda B newId initId bmB qual params body scope) : ∃ cd, PySem.W.clsIn K C = some cd ∧ cd.hasDict = true := by
  obtain ⟨cd, hc, hx⟩ := PySem.W.any_some T.hd
  exact ⟨cd, hc, hx⟩
end
end DS

namespace DS
open PySem PySem.Spec PyProof.Rows L2
/-! ### the written part: facts by names -/
/-- a property's record, its getter -/
def prA (K : PySem.W.Frag) (cn m : Str) : Addr := He.ma K (He.ga K cn) m
def gtA (K : PySem.W.Frag) (cn m : Str) : Addr := match PySem.W.recIn K (prA K cn m) "property" with
  | some (.ref g :: _) => g
  | _ => 0
/-- the def of a classmethod -/
def cmA (K : PySem.W.Frag) (cn m : Str) : Addr := match PySem.W.recIn K (prA K cn m) "classmethod" with
  | some (.ref g :: _) => g
  | _ => 0
/-- a getter: class, name, and the def -/
structure PrD where
  cn : Str
  m : Str
  qual : Str
  params : Arguments
  body : List Stmt
  scope : Scope
  cm : Bool := false
def PrD.g (K : PySem.W.Frag) (d : PrD) : Addr := if d.cm then cmA K d.cn d.m else gtA K d.cn d.m
/-- C.m is a classmethod -/
def cmB (K : PySem.W.Frag) (cn m : Str) : Bool := PySem.W.readsIn K (He.ga K cn) (.type "type") && (He.eqO (PySem.W.specialIn K (.ref (He.ga K cn)) "__getattribute__") (some (some (.builtin "type.__getattribute__"))) && ((match PySem.W.findCls K (.ref (He.ga K cn)) (.type "type") m with
  | some (.get (.builtin b) (.ref p) .none (.ref C)) => b == "classmethod.__get__" && (p == prA K cn m && C == He.ga K cn)
  | _ => false) && ((match PySem.W.recIn K (prA K cn m) "classmethod" with
  | some (.ref _ :: _) => true
  | _ => false) && PySem.W.fnIn K (cmA K cn m))))
def fnAt (K : PySem.W.Frag) (a : Addr) : He.FnW := match K.lookup a with
  | some ⟨_, _, .func fd, _⟩ => some (fd.name, fd.qualname, fd.params, fd.body, fd.scope, fd.globals, fd.closure, fd.builtins)
  | _ => none
def PrD.val (d : PrD) : He.FnW := some (d.m, d.qual, d.params, .stmts d.body, d.scope, mainGlobals, [], builtinsNs)
def PrD.ok (K : PySem.W.Frag) (d : PrD) : Bool := (PySem.W.keepIn K (.ref (d.g K)) && (match K.lookup (d.g K) with
  | some ⟨_, _, .func fd, _⟩ => PySem.W.codeIn K fd.code d.qual && (He.dflB K fd.defaults [] && He.kwdB K fd.kwdefaults [])
  | _ => false)) && if d.cm then cmB K d.cn d.m else (He.eqO (PySem.W.findIn K (.ref (He.ga K d.cn)) d.m) (some (some (.ref (prA K d.cn d.m)))) && (He.eqO (PySem.W.specialIn K (.ref (prA K d.cn d.m)) "__get__") (some (some (.builtin "property.__get__"))) && (decide (PySem.W.takesIn K (.ref (prA K d.cn d.m)) = some true) &&
    (match PySem.W.recIn K (prA K d.cn d.m) "property" with
      | some (.ref _ :: _) => true
      | _ => false))))
theorem PrD.prop {K : PySem.W.Frag} {d : PrD} (c : d.ok K = true) (hc : d.cm = false) : PropOf K (He.ga K d.cn) d.m (prA K d.cn d.m) (gtA K d.cn d.m) := by
  obtain ⟨_, c⟩ := He.ba c
  rw [if_neg (by rw [hc]; decide)] at c
  obtain ⟨c1, c⟩ := He.ba c
  obtain ⟨c2, c⟩ := He.ba c
  obtain ⟨c3, c4⟩ := He.ba c
  refine ⟨He.eqO_ok c1, He.eqO_ok c2, of_decide_eq_true c3, ?_⟩
  unfold gtA
  split at c4
  · rename_i g r e
    rw [e]
    exact ⟨r, rfl⟩
  · cases c4
theorem PrD.funD {K : PySem.W.Frag} {d : PrD} (e : fnAt K (d.g K) = d.val) (c : d.ok K = true) : ∃ fd, FunD K d.m d.qual d.params d.body d.scope [] [] (d.g K) fd := by
  obtain ⟨c0, _⟩ := He.ba c
  obtain ⟨kp, c2⟩ := He.ba c0
  unfold fnAt at e
  cases q : K.lookup (d.g K) with
  | none => rw [q] at c2; cases c2
  | some o =>
    obtain ⟨oc, od, dt, osl⟩ := o
    rw [q] at c2 e
    cases dt with
    | func fd =>
      obtain ⟨n1, n2, n3, n4, n5, n6, n7, n8, n9, n10, n11, n12, n13, n14, n15⟩ := fd
      have e2 : (some (n1, n2, n3, n4, n5, n6, n7, n15) : He.FnW) = some (d.m, d.qual, d.params, .stmts d.body, d.scope, mainGlobals, [], builtinsNs) := e
      simp only [Option.some.injEq, Prod.mk.injEq] at e2
      obtain ⟨h1, h2, h3, h4, h5, h6, h7, h8⟩ := e2
      subst h1 h2 h3 h4 h5 h6 h7 h8
      have c3 : (PySem.W.codeIn K n13 d.qual && (He.dflB K n8 [] && He.kwdB K n9 [])) = true := c2
      obtain ⟨k1, k2⟩ := He.ba c3
      obtain ⟨k3, k4⟩ := He.ba k2
      exact ⟨_, ⟨oc, od, n8, n9, n10, n11, n12, n13, n14, osl, rfl, q, k1, He.dflB_ok k3, He.kwdB_ok k4⟩, kp⟩
    | _ => cases c2
def isiOk (K : PySem.W.Frag) (cs : List Str) : Bool := cs.all (fun cn => (He.Fa.cls cn).ok K && (He.eqO (PySem.W.findIn K (.ref (He.ga K cn)) "__class__") (some (some (.builtin "object.__class__"))) && decide (PySem.W.mroIn K (He.ga K cn) (.type "object") = some true))) &&
  (He.eqO (PySem.W.specialIn K (.builtin "object.__class__") "__get__") (some (some (.builtin "getset_descriptor.__get__"))) && (decide (PySem.W.takesIn K (.builtin "object.__class__") = some true) &&
  (cs.all (fun cn => tyNames.all fun n => decide (PySem.W.kitOne K (.ref (He.ga K cn)) (.type n) = some false)) && (tyNames.all (fun n => cs.all fun cn => decide (PySem.W.kitOne K (.type n) (.ref (He.ga K cn)) = some false)) &&
  cs.all (fun cn => cs.all fun cm => decide (PySem.W.kitOne K (.ref (He.ga K cn)) (.ref (He.ga K cm)) = some (decide (cn = cm))))))))
theorem isiOk_ok {K : PySem.W.Frag} {cs : List Str} (h : isiOk K cs = true) : Isi K cs := by
  obtain ⟨h1, h⟩ := He.ba h
  obtain ⟨h2, h⟩ := He.ba h
  obtain ⟨h3, h⟩ := He.ba h
  obtain ⟨h4, h⟩ := He.ba h
  obtain ⟨h5, h6⟩ := He.ba h
  refine ⟨fun cn hc => ?_, He.eqO_ok h2, of_decide_eq_true h3, fun cn hc n hn => ?_, fun n hn cn hc => ?_, fun cn hc cm hm => ?_⟩
  · obtain ⟨a1, a2⟩ := He.ba (List.all_eq_true.mp h1 cn hc)
    obtain ⟨a3, a4⟩ := He.ba a2
    exact ⟨He.cls_ok a1, He.eqO_ok a3, of_decide_eq_true a4⟩
  · exact of_decide_eq_true (List.all_eq_true.mp (List.all_eq_true.mp h4 cn hc) n hn)
  · exact of_decide_eq_true (List.all_eq_true.mp (List.all_eq_true.mp h5 n hn) cn hc)
  · exact of_decide_eq_true (List.all_eq_true.mp (List.all_eq_true.mp h6 cn hc) cm hm)
/-! ### exception classes with an own __init__ -/
def exTl (B : String) : List Value := [.type B, .type "Exception", .type "BaseException", .type "object"]
structure XiD where
  cn : Str
  f : Str
  B : String
  qual : Str
  params : Arguments
  body : List Stmt
  scope : Scope
def fdA (K : PySem.W.Frag) (a : Addr) : Option FuncData := match K.lookup a with
  | some ⟨_, _, .func fd, _⟩ => some fd
  | _ => none
abbrev FnC : Type := Option (Str × Str × Arguments × FuncBody × Scope × Addr × Addr)
def fnAtC (K : PySem.W.Frag) (a : Addr) : FnC := (fdA K a).map fun fd => (fd.name, fd.qualname, fd.params, fd.body, fd.scope, fd.globals, fd.builtins)
def XiD.val (d : XiD) : FnC := some ("__init__", d.qual, d.params, .stmts d.body, d.scope, mainGlobals, builtinsNs)
abbrev XiD.fI (d : XiD) (K : PySem.W.Frag) : Addr := He.ma K (He.ga K d.cn) "__init__"
def XiD.cc (d : XiD) (K : PySem.W.Frag) : Addr := match fdA K (d.fI K) with
  | some fd => ((fd.closure.lookup ("__class__" : Str)).getD 0)
  | none => 0
def XiD.cda (d : XiD) (K : PySem.W.Frag) : Addr := match fdA K (d.fI K) with
  | some fd => (match fd.code with
    | .ref c => c
    | _ => 0)
  | none => 0
def XiD.ok (file : Str) (d : XiD) (K : PySem.W.Frag) : Bool := PySem.W.excInitIn K (He.ga K d.cn) (exTl d.B) (d.B ++ ".__new__") && (PySem.W.excOver K (He.ga K d.cn) (exTl d.B) && (He.eqO (PySem.W.findIn K (.ref (He.ga K d.cn)) "__init__") (some (some (.ref (d.fI K)))) &&
  (decide (PySem.W.typeIn K (.ref (d.fI K)) = some (.type "function")) && ((match fdA K (d.fI K) with
    | some fd => decide (fd.closure = [(("__class__" : Str), d.cc K)]) && (decide (fd.code = .ref (d.cda K)) && (PySem.W.codeIn K fd.code d.qual && (match fd.defaults with
      | .none => true
      | _ => false)))
    | none => false) && ((match K.lookup (d.cda K) with
    | some ⟨_, _, .fields vs, _⟩ => (match (vs[2]? : Option Value) with
      | some (.str fl _) => decide (fl = file)
      | _ => false)
    | _ => false) && ((match K.lookup (d.cc K) with
    | some ⟨_, _, .cell (some (.ref D)), _⟩ => decide (D = He.ga K d.cn)
    | _ => false) && (decide (PySem.W.mroIn K (He.ga K d.cn) (.ref (He.ga K d.cn)) = some true) && (He.eqO (PySem.W.ks_superIn K (He.ga K d.cn) (He.ga K d.cn) "__init__") (some (some (.builtin (d.B ++ ".__init__")))) && (decide (PySem.W.subIn K (.ref (He.ga K d.cn)) (.type d.B) = some true) &&
  (He.eqO (PySem.W.nsIn K cStatics "thirdparty.any") (some none) && (He.eqO (PySem.W.findIn K (.ref (He.ga K d.cn)) "__setattr__") (some (some (.builtin "object.__setattr__"))) && (PySem.W.hasDictIn K (He.ga K d.cn) && (decide (PySem.W.subIn K (.ref (He.ga K d.cn)) (.type "BaseException") = some true) &&
  (decide (PySem.W.typeIn K (.ref (He.ga K d.cn)) = some (.type "type")) && (PySem.W.keepIn K (.ref (He.ga K d.cn)) && He.eqO (PySem.W.takerIn K (He.ga K d.cn) d.f) (some none))))))))))))))))
structure XiOk (file : Str) (K : PySem.W.Frag) (d : XiD) : Prop where
  ok : d.ok file K = true
  fn : fnAtC K (d.fI K) = d.val
/-! ### the Hook -/
/-- what a proof's text tells of the program -/
structure Tl where
  fa : List He.Fa
  fn : List He.DefD
  pr : List PrD
  cs : List Str
  xf : List (PySem.W.Frag → Bool)
  xi : List XiD
  tb : List Str
  file : Str
abbrev AlM : Type := He.AlD × Bool × List He.FnW × List FnC × List (Option Obj)
def tabB (x : Str) (K : PySem.W.Frag) : Bool := (PySem.W.tabIn K x).isSome && (PySem.W.codeHdIn K (tabC K x) (tabP K x) && (K.lookup (tabP K x)).isNone)
def obsM (L : Tl) (K : PySem.W.Frag) (g : Addr → Option Obj) : AlM := (He.obsD L.fa L.fn K, (L.pr.all fun d => d.ok K) && isiOk K L.cs && L.xf.all (fun f => f K) && L.xi.all (fun d => d.ok L.file K) && (L.tb.all (fun x => tabB x K) && decide ((L.tb.map (tabP K)).Nodup)), L.pr.map (fun d => fnAt K (d.g K)), L.xi.map (fun d => fnAtC K (d.fI K)), L.tb.map fun x => g (tabP K x))
def valM (L : Tl) : AlM := (He.valD L.fn, true, L.pr.map PrD.val, L.xi.map XiD.val, L.tb.map fun _ => some (PySem.W.tabObj #[]))
structure SaysM (L : Tl) (K : PySem.W.Frag) : Prop where
  c : He.SaysD L.fa L.fn K
  isi : Isi K L.cs
  xf : ∀ f ∈ L.xf, f K = true
  prp : ∀ d ∈ L.pr, d.ok K = true ∧ ∃ fd, FunD K d.m d.qual d.params d.body d.scope [] [] (d.g K) fd
  xi : ∀ d ∈ L.xi, XiOk L.file K d
  tb : ∀ x ∈ L.tb, tabB x K = true
  nd : (L.tb.map (tabP K)).Nodup
theorem map_at {α β : Type} {l : List α} {f g : α → β} (h : l.map f = l.map g) {d : α} (hd : d ∈ l) : f d = g d := List.map_inj_left.mp h d hd
theorem saysM_of {L : Tl} {K : PySem.W.Frag} {g : Addr → Option Obj} (e : obsM L K g = valM L) : SaysM L K ∧ ∀ x ∈ L.tb, g (tabP K x) = some (PySem.W.tabObj #[]) := by
  have e1 : He.obsD L.fa L.fn K = He.valD L.fn := congrArg (fun z : AlM => z.1) e
  have e2 : ((L.pr.all fun d => d.ok K) && isiOk K L.cs && L.xf.all (fun f => f K) && L.xi.all (fun d => d.ok L.file K) && (L.tb.all (fun x => tabB x K) && decide ((L.tb.map (tabP K)).Nodup))) = true := congrArg (fun z : AlM => z.2.1) e
  have e3 : (L.pr.map fun d => fnAt K (d.g K)) = L.pr.map PrD.val := congrArg (fun z : AlM => z.2.2.1) e
  have e4 : (L.xi.map fun d => fnAtC K (d.fI K)) = L.xi.map XiD.val := congrArg (fun z : AlM => z.2.2.2.1) e
  have e5 : (L.tb.map fun x => g (tabP K x)) = L.tb.map fun _ => some (PySem.W.tabObj #[]) := congrArg (fun z : AlM => z.2.2.2.2) e
  obtain ⟨h1234, h56⟩ := He.ba e2
  obtain ⟨h123, h4⟩ := He.ba h1234
  obtain ⟨h12, h3⟩ := He.ba h123
  obtain ⟨h1, h2⟩ := He.ba h12
  obtain ⟨h5, h6⟩ := He.ba h56
  refine ⟨⟨e1, isiOk_ok h2, fun f hf => List.all_eq_true.mp h3 f hf, fun d hd => ?_, fun d hd => ⟨List.all_eq_true.mp h4 d hd, map_at e4 hd⟩, fun x hx => List.all_eq_true.mp h5 x hx, of_decide_eq_true h6⟩, fun x hx => map_at e5 hx⟩
  have ok := List.all_eq_true.mp h1 d hd
  exact ⟨ok, d.funD (map_at e3 hd) ok⟩
/-- all objects but the empty tables -/
def noTab (o : Option Obj) : Bool := match o with
  | some ⟨.none, _, .fields vs, _⟩ => !vs.isEmpty
  | _ => true
def kAs (g : Addr → Option Obj) (n : Nat) : List Addr := (List.range n).filter fun a => noTab (g a)
def obsMG (n : Nat) (L : Tl) (g : Addr → Option Obj) : AlM := obsM L (He.frG g (kAs g n)) g
def hookM (n : Nat) (L : Tl) : PySem.W.Hook where
  α := AlM
  obs := fun s => obsMG n L s.heap.get?
  val := fun _ => valM L
  says := fun _ h => ∃ K : PySem.W.Frag, K.In h ∧ SaysM L K ∧ ∀ x ∈ L.tb, h.get? (tabP K x) = some (PySem.W.tabObj #[])
  of := fun _ _ e => ⟨_, He.frG_in, saysM_of e⟩
  keeps := fun _ _ _ ⟨K, hK, c, t⟩ k => ⟨K, PySem.W.Frag.In.keeps hK k, c, fun x hx => k _ _ (t x hx)⟩
/-- all that a proof of a def leans on -/
structure Tx (L : Tl) (b : Base) : Prop where
  s : SaysM L b.K
  h : ∃ h : Heap, b.K.In h ∧ h.Ns mainGlobals b.mg
  tab : ∀ x ∈ L.tb, LamX.TabB b.base b.mg (tabC b.K x) (tabP b.K x)
  fl : ((b.P.main.file : Str) == L.file) = true
  sup : (b.P.main.scope.names.lookup ("super" : Str)).isSome = false
section
variable {L : Tl} {b : Base}
theorem Tx.glo (T : Tx L b) (i : Nat) {x : Str} (h : L.fa[i]? = some (.glo x) := by rfl) : b.mg x = some (.ref (He.ga b.K x)) := let ⟨_, a, c⟩ := T.h; He.glo_ok a c (T.s.c.fact i h)
theorem Tx.free (T : Tx L b) (i : Nat) {x : Str} (h : L.fa[i]? = some (.free x) := by rfl) : b.mg x = none := let ⟨_, a, c⟩ := T.h; He.free_ok a c (T.s.c.fact i h)
theorem Tx.int (T : Tx L b) (i : Nat) {x : Str} {n : Int} (h : L.fa[i]? = some (.int x n) := by rfl) : ∃ t, b.mg x = some (.int n t) := let ⟨_, a, c⟩ := T.h; He.int_ok a c (T.s.c.fact i h)
theorem Tx.str (T : Tx L b) (i : Nat) {x z : Str} (h : L.fa[i]? = some (.str x z) := by rfl) : ∃ t, b.mg x = some (.str z t) := let ⟨_, a, c⟩ := T.h; He.str_ok a c (T.s.c.fact i h)
theorem Tx.cls (T : Tx L b) (i : Nat) {x : Str} (h : L.fa[i]? = some (.cls x) := by rfl) : Cls b.K (He.ga b.K x) := He.cls_ok (T.s.c.fact i h)
theorem Tx.noat (T : Tx L b) (i : Nat) {x f : Str} (h : L.fa[i]? = some (.noat x f) := by rfl) : NoAttr b.K (He.ga b.K x) f := He.noat_ok (T.s.c.fact i h)
theorem Tx.meth (T : Tx L b) (i : Nat) {x f : Str} (h : L.fa[i]? = some (.meth x f) := by rfl) : Meth b.K (He.ga b.K x) f (He.ma b.K (He.ga b.K x) f) := He.meth_ok (T.s.c.fact i h)
theorem Tx.x (T : Tx L b) (i : Nat) {f : PySem.W.Frag → Bool} (h : L.xf[i]? = some f := by rfl) : f b.K = true := T.s.xf f (List.mem_of_getElem? h)
theorem Tx.ns (T : Tx L b) {x : Str} {v : Value} (h : PySem.W.nsIn b.K mainGlobals x = some (some v)) : b.mg x = some v := let ⟨_, a, c⟩ := T.h; PySem.W.mg_of a c h
theorem Tx.mkr (T : Tx L b) (i : Nat) {x : Str} (h : L.fa[i]? = some (.mkr x) := by rfl) : Mk b.K (He.ga b.K x) (He.ma b.K (He.ga b.K x) "__init__") := He.mkr_ok (T.s.c.fact i h)
theorem Tx.prp (T : Tx L b) (i : Nat) {d : PrD} (h : L.pr[i]? = some d := by rfl) (hc : d.cm = false := by rfl) : PropOf b.K (He.ga b.K d.cn) d.m (prA b.K d.cn d.m) (gtA b.K d.cn d.m) ∧ ∃ fd, FunD b.K d.m d.qual d.params d.body d.scope [] [] (gtA b.K d.cn d.m) fd := by
  obtain ⟨h1, fd, h2⟩ := T.s.prp d (List.mem_of_getElem? h)
  refine ⟨d.prop h1 hc, fd, ?_⟩
  unfold PrD.g at h2
  rw [if_neg (by rw [hc]; decide)] at h2
  exact h2
theorem Tx.xi (T : Tx L b) (i : Nat) {d : XiD} (h : L.xi[i]? = some d := by rfl) : XiOk L.file b.K d := T.s.xi d (List.mem_of_getElem? h)
end
/-! ### the law is called -/
theorem ints_all {K : PySem.W.Frag} {F : Hp} {al : List Addr} : ∀ ns : List Int, RpL K F al (ns.map .int) (ns.map V.int)
  | [] => .nil
  | n :: r => .cons (.int n) (ints_all r)
theorem noCX {P : Program} {w : World} {H : Hp} {s : Shared} {u : Value} {s' : Shared} (h : L2.CX P w [] H s (fun _ _ _ => False) u s') : False := by
  obtain ⟨_, _, _, _, _, _, _, _, _, _, _, _, z⟩ := h
  exact z
end DS

namespace DS
open PySem PySem.Spec PyProof.Rows L2
set_option maxHeartbeats 1000000 in
theorem meets_enum1 {v : Value} {o : Obj} {H : Heap → Prop} (B : Begins v o H) :
    Meets (Builtin.«enumerate.__new__» ⟨[.type "enumerate", v], []⟩) (fun _ R s => H s.heap ∧
      R (.ok (.ret (.ref (s.heap.push o).objs.size))) { s with heap := (s.heap.push o).push { cls := .type "enumerate", data := .fields #[.none, .bool false, .ref s.heap.objs.size, rawInt 0, .none, .none] } }) :=
  .of_wp fun prog w A R s h => by
    obtain ⟨hp, g, d, tk, os⟩ := s; obtain ⟨h1, h⟩ := h
    have hs := sub_enumerate
    have q1 : ∀ {A' : Around} {E : Value → Shared → Prop} {Q : Value → Shared → Prop}, Q (.ref hp.objs.size) ⟨hp.push o, g, d, tk, os⟩ → wpAny (model prog w) A' (pyIter v) Q E ⟨hp, g, d, tk, os⟩ :=
      fun q => B.iter prog w _ _ ⟨hp, g, d, tk, os⟩ _ h1 q
    wp_walk using q1
    refine wpAny_stack_any fun st => wpAny_pure ?_
    split
    · rename_i c _ _ _ _ _
      cases (c == Value.type "enumerate")
      · wp_walk using q1
        exact ⟨_, rfl, h⟩
      · wp_walk using q1
        exact ⟨_, rfl, h⟩
    · wp_walk using q1
      exact ⟨_, rfl, h⟩
theorem enum1_begins {prog : Program} {w : World} {A : Around} {E : Value → Shared → Prop} {s : Shared} {v : Value} {o : Obj} {H : Heap → Prop} {Q : Value → Shared → Prop} (B : Begins v o H) (h1 : H s.heap)
    (h : ∀ h', IsEnum h' (s.heap.objs.size + 1) s.heap.objs.size 0 .none → h'.get? s.heap.objs.size = some o → (∀ b o, s.heap.get? b = some o → h'.get? b = some o) → Q (.ref (s.heap.objs.size + 1)) { s with heap := h' }) :
    wpAny (model prog w) A (call (.type "enumerate") [v]) Q E s := by
  refine callType_new F.called_enumerate (by decide) (F.typeCall_enumerate_1 _) (F.newCall_enumerate_1 _) (fun obj => F.args_object_init_2 obj _) F.entry_enumerate_new (meets_enum1 B) ⟨h1, ?_⟩
  have hz : (s.heap.push o).objs.size = s.heap.objs.size + 1 := Heap.size_push ..
  show _ ∧ _
  rw [hz]
  have he : IsEnum ((s.heap.push o).push { cls := .type "enumerate", data := .fields #[.none, .bool false, .ref s.heap.objs.size, rawInt 0, .none, .none] }) (s.heap.objs.size + 1) s.heap.objs.size 0 .none := by
    have z := Heap.get?_push_size (s.heap.push o) (o := { cls := .type "enumerate", data := .fields #[.none, .bool false, .ref s.heap.objs.size, rawInt 0, .none, .none] }) rfl
    rw [hz] at z; exact z
  exact ⟨⟨_, he, rfl⟩, h _ he (Heap.get?_push_of_some _ (Heap.get?_push_size _ B.free)) fun b o x => Heap.get?_push_of_some _ (Heap.get?_push_of_some _ x)⟩
/-- enumerate of a tuple -/
def Iet (K : PySem.W.Frag) (a : Addr) : It :=
  ⟨fun i H => ∃ xs x, SqT K H a xs ∧ xs[i]? = some x, fun i H v H' => ∃ T x, v = .ref T ∧ H T = none ∧ H' = upd H T (.tup [.int (i : Nat), x]) ∧ ∀ xs, SqT K H a xs → xs[i]? = some x, fun i H => ∃ xs, SqT K H a xs ∧ xs.length ≤ i⟩
theorem tup_ne {h : Heap} {t it : Addr} {items : Array Value} {i : Nat} (h1 : IsTup h t items) (h2 : h.IsTupleIter it t i) : t ≠ it := by
  rintro rfl
  obtain ⟨o, e, c, _⟩ := h1
  obtain ⟨o', e', c', _⟩ := h2
  rw [e] at e'
  cases e'
  rw [c] at c'
  exact absurd c' (by simp)
theorem enum_ne {h : Heap} {t e it : Addr} {items : Array Value} {i : Int} {old : Value} (h1 : IsTup h t items) (h2 : IsEnum h e it i old) : e ≠ t := by
  rintro rfl
  obtain ⟨o, q, c, _⟩ := h1
  have h2' : h.get? e = some _ := h2
  rw [q] at h2'
  cases h2'
  exact absurd c (by simp)
theorem turn_enumT {P : Program} {w : World} {K : PySem.W.Frag} {elts : List Expr} {kk : Nat} {tpos : Pos} (a e it : Addr) :
    Turn P w K (.Tuple elts kk tpos) (Iet K a) [e, it] e (fun i h => (∃ old, IsEnum h e it ((i : Nat) : Int) old) ∧ h.IsTupleIter it a i ∧ e ≠ it) where
  mem := by simp
  obj := fun i h st q hq => by
    obtain ⟨⟨old, he⟩, ⟨o, ho, hc, hd⟩, _⟩ := st
    rcases (by simpa using hq : q = e ∨ q = it) with rfl | rfl
    · exact ⟨_, he, fun v z => nomatch z⟩
    · exact ⟨o, ho, fun v z => by rw [hd] at z; cases z⟩
  keep := fun i h h' st k => let ⟨⟨old, he⟩, hi, hne⟩ := st; ⟨⟨old, k e (by simp) _ he⟩, hi.at fun o q => k it (by simp) o q, hne⟩
  item := by
    intro X hP hw hK hc i pins s σ H E I hf st hg
    subst hP hw hK
    obtain ⟨⟨old, he⟩, hit, hne⟩ := st
    obtain ⟨xs, x, hq, hx⟩ := hg
    obtain ⟨its, rv, p, hz⟩ := I.tuple hq
    obtain ⟨u, hu, ru⟩ := rv.get hx
    have n1 := tup_ne p hit
    have n2 := enum_ne p he
    have hel : e < s.heap.objs.size := Heap.lt_size he
    have hil : it < s.heap.objs.size := by obtain ⟨_, q, _⟩ := hit; exact Heap.lt_size q
    have hlt : i < its.toArray.size := by
      have := (List.getElem?_eq_some_iff.mp hu).1
      simpa using this
    refine wpAny_pyNext_enum_itemD (Draws.tuple (A := X.A.in1) (I.ok.hd hc) it a n1 its.toArray) he ⟨hit, p⟩ hlt hne (by simp [hne, n2]) fun x' h' tk hPx ho hst' hT hsz hk => ?_
    have eu : x' = u := by
      have hPx : its.toArray[i]? = some x' := hPx
      rw [List.getElem?_toArray, hu] at hPx
      cases hPx
      rfl
    subst eu
    refine ⟨_, rfl, wpAny_letOwnedTupleGo_enum (s := { s with heap := h', toks := tk + 1 }) ho fun h'' he' sb => ?_⟩
    have hT2 : h''.get? s.heap.objs.size = some { cls := .type "tuple", data := .seq #[.int i tk, x'] } := (sb.2 _ (Nat.ne_of_gt hel)).trans hT
    have new : ObjOk X.prog X.w (upd H s.heap.objs.size (.tup [.int (i : Nat), x])) h'' s.heap.objs.size (.tup [.int (i : Nat), x]) :=
      ⟨small_line (by decide : 2 ≤ 100000), [.int i tk, x'], .cons ⟨_, rfl⟩ (.cons ru .nil), ⟨_, hT2, rfl, _, rfl⟩⟩
    have I1 : Inv X pins σ (upd H s.heap.objs.size (.tup [.int (i : Nat), x])) { s with heap := h'', toks := tk + 1 } :=
      I.turnedNew (ch := [e, it]) (fun q ob hb z => (sb.2 q (fun y => hb (by simp [y]))).trans (hk q ob (fun y => hb (by simp [y])) (fun y => hb (by simp [y])) z)) hf (Nat.le_refl _) new
    refine ⟨.ref s.heap.objs.size, _, I1, rfl, ⟨_, x, rfl, I.hok.fresh (Nat.le_refl _), rfl, fun ys hy => by rw [I.tuple_inj hy hq]; exact hx⟩, ⟨⟨x', ?_⟩, hst'.1.at fun o q => (sb.2 it (Ne.symm hne)).trans q, hne⟩, fun q hq' => ?_⟩
    · have e1 : ((i + 1 : Nat) : Int) = (i : Int) + 1 := by omega
      rw [e1]; exact he'
    · have hb' : q < s.heap.objs.size := by
        rcases (by simpa using hq' : q = e ∨ q = it) with z | z
        · rw [z]; exact hel
        · rw [z]; exact hil
      rw [upd_ne (Nat.ne_of_lt hb')]
      exact (hf q hq').1
  done := by
    intro X hP hw hK hc i pins s σ H E I hf st hg
    subst hP hw hK
    obtain ⟨⟨old, he⟩, hit, hne⟩ := st
    obtain ⟨xs, hq, hx⟩ := hg
    obtain ⟨its, rv, p, hz⟩ := I.tuple hq
    obtain ⟨f0, f1, f2, f3, f4, f5⟩ := hf it (by simp)
    have hl := rv.length
    have hnone : its.toArray[i]? = none := by
      rw [List.getElem?_toArray]
      exact List.getElem?_eq_none_iff.mpr (by omega)
    have hT : s.TypeIs (.ref e) "enumerate" := ⟨_, he, rfl⟩
    unfold pyNext
    refine wpAny_bind (wpAny_attempt (wpAny_callSpecial?_slot (name := Str.ofString "__next__") hT F.slot_enumerate_next (wpAny_call_entry F.slot_enumerate_next hT F.entry_enumerate_next ?_ (F.args_enumerate_next_1 _))))
    show wpAny _ _ (field (.ref e) 2 >>= _) _ _ _
    refine wpAny_bind (wpAny_field he rfl (x := .ref it) rfl ?_)
    refine wpAny_bind (wpAny_nextOf_tuple_end (A := X.A.in1) (I.ok.hd hc) hit p hnone fun h' y hk' hy => ?_)
    obtain ⟨oy, hoy, hcy⟩ := hy
    refine wpAny_bind (wpAny_isInstance (T := "StopIteration") (b := true) ⟨oy, hoy, hcy⟩ isSubtype_stop ?_)
    exact wpAny_pure ⟨rfl, I.turned (t' := s.toks) (fun q o hb z => hk' q o hb z) f0 f1 f3 f4 f5⟩
  self := fun A i s Q E st h => let ⟨⟨_, he⟩, _⟩ := st; wpAny_pyIter_enum he h
def iEnumT (K : PySem.W.Frag) (ta : TA) : TI := fun σ H R => ta σ H fun vs H1 => ∃ a xs, vs = [.ref a] ∧ SqT K H1 a xs ∧ R (Iet K a) H1
theorem pi_enumT {X : Cx} {e : Expr} {ta : TA} {p pos tpos : Pos} {elts : List Expr} {kk : Nat} (hg : Gl X "enumerate") (hm : X.mg "enumerate" = none) (ha : PA X [e] ta) (hs : starEach [e] X.env = [(false, eval e X.env)]) :
    PI X (.Tuple elts kk tpos) (.Call (.Name "enumerate" p) [e] [] pos) (iEnumT X.K ta) := by
  refine ⟨fun pins s σ H R I h => ?_⟩
  refine Call_ (ld_blt I hg hm boot_enumerate (PyProof.Rows.callWith_type1 (thn (ha.run pos pins s σ H _ I h) fun us s1 ⟨vs, H1, I1, r1, q1⟩ => ?_) hs rfl))
  obtain ⟨a, xs, ex, hq, q⟩ := q1
  subst ex
  obtain ⟨u, rfl, ru⟩ := vals1 r1
  obtain rfl : u = Value.ref a := ru
  obtain ⟨its, rv, ht, hz⟩ := I1.tuple hq
  refine enum1_begins (begins_tuple a its.toArray) ht fun h' he hit hk => wpAny_pyIter_enum he ?_
  have I2 : Inv X pins σ H1 { s1 with heap := h' } := I1.kept (t' := s1.toks) hk
  refine ⟨s1.heap.objs.size + 1, [s1.heap.objs.size + 1, s1.heap.objs.size], _, _, H1, rfl, I2, turn_enumT a (s1.heap.objs.size + 1) s1.heap.objs.size, ⟨⟨.none, he⟩, ⟨_, hit, rfl, rfl⟩, Nat.succ_ne_self _⟩, fun y hy => ?_, q⟩
  have hle : s1.heap.objs.size ≤ y := by
    rcases (by simpa using hy : y = s1.heap.objs.size + 1 ∨ y = s1.heap.objs.size) with z | z
    · rw [z]; exact Nat.le_add_right _ _
    · rw [z]; exact Nat.le_refl _
  exact I1.fpOk hle (I1.hok.fresh hle)
theorem yld_enumT {K : PySem.W.Frag} {F : Hp} {al : List Addr} {q : Addr} {vs : List V} {xs : List D} (s : SqT K F q vs) (r : RpL K F al xs vs) : Yld K (Iet K q) (enumL 0 xs) F al := by
  refine ⟨fun H F' al' m i d e w hd => ?_, fun H F' al' m i e w hi => ⟨vs, SqT.fix s e w, by rw [← r.len, ← enumL_len xs 0]; exact hi⟩⟩
  rw [enumL_get] at hd
  cases hx : xs[i]? with
  | none => rw [hx] at hd; cases hd
  | some z =>
    rw [hx] at hd
    cases hd
    obtain ⟨x, h1, h2⟩ := r.get hx
    refine ⟨⟨vs, x, SqT.fix s e w, h1⟩, fun y H' hy => ?_⟩
    obtain ⟨T, x', rfl, hT, rfl, hy⟩ := hy
    have hz := (hy vs (SqT.fix s e w)).symm.trans h1
    cases hz
    have hf := w.fnone hT
    refine ⟨upd F' T _, ext_new hf, w.new hT, .tup (.of upd_same) (.cons ?_ (.cons ((h2.up e).up (ext_new hf)) .nil))⟩
    rw [Nat.zero_add]
    exact .int _
def enumD' (ds : List D) (m : Mu) : Out (List D) := match ds with
  | [.lst xs] => .ok (enumL 0 xs) m
  | [.tup xs] => .ok (enumL 0 xs) m
  | _ => .stuck
def xiEnum' (f : XA) : XA := fun r m => (f r m).bind enumD'
theorem di_enum' {c : SC} {W : WX} {e : Expr} {pos : Pos} {fr : XA} {p0 tpos : Pos} {elts : List Expr} {kk : Nat} (hm : c.mg "enumerate" = none) (h : DA c W [e] fr) (hg : c.sc.names.lookup ("enumerate" : Str) = some .globalImplicit := by rfl) (hs : ∀ env, starEach [e] env = [(false, eval e env)] := by intro _; rfl) : DI c W (.Tuple elts kk tpos) (.Call (.Name "enumerate" p0) [e] [] pos) (xiEnum' fr) := by
  obtain ⟨⟨t, h1, h2⟩, _⟩ := h
  refine ⟨fun σ H R => iEnum c.K t σ H R ∨ iEnumT c.K t σ H R, fun y hy => PI.or (pi_enum (hy.gl hg) hm (h1 y hy) (hs _)) (pi_enumT (hy.gl hg) hm (h1 y hy) (hs _)), fun r m σ H F al R he hw p => ?_⟩
  unfold xiEnum' at p
  have lists : ∀ q xs m1, fr r m = .ok q m1 → q = [.lst xs] → Post c.K (fun F al xs J => Yld c.K J xs F al) (atS W σ) F al R (.ok (enumL 0 xs) m1) → iEnum c.K t σ H R := fun q xs m1 e1 e2 p => by
    subst e2
    refine h2 r m σ H F al _ he hw ?_
    rw [e1]
    intro vs H1 F1 al1 ex w1 q1
    cases q1 with
    | cons qa q =>
      cases q
      cases qa with
      | @lst q' ys _ s q2 => exact ⟨q', ys, rfl, .of (w1.sub _ _ s), p _ H1 F1 al1 ex w1 (yld_enum (.of s) q2)⟩
  have tups : ∀ q xs m1, fr r m = .ok q m1 → q = [.tup xs] → Post c.K (fun F al xs J => Yld c.K J xs F al) (atS W σ) F al R (.ok (enumL 0 xs) m1) → iEnumT c.K t σ H R := fun q xs m1 e1 e2 p => by
    subst e2
    refine h2 r m σ H F al _ he hw ?_
    rw [e1]
    intro vs H1 F1 al1 ex w1 q1
    cases q1 with
    | cons qa q =>
      cases q
      cases qa with
      | @tup q' ys _ s q2 => exact ⟨q', ys, rfl, sqt_up w1.sub s, p _ H1 F1 al1 ex w1 (yld_enumT s q2)⟩
  cases o : fr r m with
  | stuck => rw [o] at p; exact p.elim
  | exc cc fs m1 =>
    refine .inl (h2 r m σ H F al _ he hw ?_)
    rw [o] at p ⊢
    exact p
  | ok ds m1 =>
    rw [o] at p
    have p : Post c.K (fun F al xs J => Yld c.K J xs F al) (atS W σ) F al R (enumD' ds m1) := p
    unfold enumD' at p
    split at p
    · exact .inl (lists _ _ _ o rfl p)
    · exact .inr (tups _ _ _ o rfl p)
    · exact p.elim
end DS

/-! # DSF: frames. A run on a small store is the run on a store with more cells ahead. -/
namespace DS
open PySem PySem.Spec PyProof.Rows L2
mutual
def D.sh (k : Nat) : D → D
  | .loc n => .loc (k + n)
  | .tup xs => .tup (D.shL k xs)
  | .lst xs => .lst (D.shL k xs)
  | .fix xs => .fix (D.shL k xs)
  | .obj c fs => .obj c (D.shF k fs)
  | .dct fs => .dct (D.shF k fs)
  | .non => .non
  | .bl b => .bl b
  | .int i => .int i
  | .str x => .str x
  | .glo x => .glo x
  | .ty x => .ty x
  | .exn h fs => .exn h (D.shF k fs)
  | .nst xs => .nst xs
  | .odc => .odc
def D.shL (k : Nat) : List D → List D
  | [] => []
  | x :: r => D.sh k x :: D.shL k r
def D.shF (k : Nat) : List (Str × D) → List (Str × D)
  | [] => []
  | (f, x) :: r => (f, D.sh k x) :: D.shF k r
end
theorem shL_map (k : Nat) : ∀ xs : List D, D.shL k xs = xs.map (D.sh k)
  | [] => rfl
  | x :: r => by rw [D.shL, List.map_cons, shL_map k r]
theorem shL_len (k : Nat) (xs : List D) : (D.shL k xs).length = xs.length := by rw [shL_map, List.length_map]
theorem shL_app (k : Nat) (xs ys : List D) : D.shL k (xs ++ ys) = D.shL k xs ++ D.shL k ys := by simp [shL_map]
theorem shL_get (k : Nat) (xs : List D) (i : Nat) : (D.shL k xs)[i]? = (xs[i]?).map (D.sh k) := by rw [shL_map, List.getElem?_map]
theorem shF_len (k : Nat) : ∀ xs : List (Str × D), (D.shF k xs).length = xs.length
  | [] => rfl
  | (_, x) :: r => by rw [D.shF, List.length_cons, List.length_cons, shF_len k r]
theorem shF_look (k : Nat) (f : Str) : ∀ xs : List (Str × D), (D.shF k xs).lookup f = (xs.lookup f).map (D.sh k)
  | [] => rfl
  | (g, x) :: r => by
    rw [D.shF, List.lookup_cons, List.lookup_cons]
    cases f == g
    · exact shF_look k f r
    · rfl
mutual
theorem inB_sh (k n : Nat) : ∀ d : D, (d.sh k).inB (k + n) = d.inB n
  | .loc m => by rw [D.sh, D.inB, D.inB]; simp
  | .tup xs => by rw [D.sh, D.inB, D.inB, inL_sh k n xs]
  | .lst xs => by rw [D.sh, D.inB, D.inB, inL_sh k n xs]
  | .fix xs => by rw [D.sh, D.inB, D.inB, inL_sh k n xs]
  | .obj c fs => by rw [D.sh, D.inB, D.inB, inF_sh k n fs]
  | .dct fs => by rw [D.sh, D.inB, D.inB, inF_sh k n fs]
  | .non => rfl
  | .bl b => rfl
  | .int i => rfl
  | .str x => rfl
  | .glo x => rfl
  | .ty x => rfl
  | .exn h fs => by rw [D.sh, D.inB, D.inB, inF_sh k n fs]
  | .nst _ => rfl
  | .odc => rfl
theorem inL_sh (k n : Nat) : ∀ d : List D, D.inL (k + n) (D.shL k d) = D.inL n d
  | [] => rfl
  | x :: r => by rw [D.shL, D.inL, D.inL, inB_sh k n x, inL_sh k n r]
theorem inF_sh (k n : Nat) : ∀ d : List (Str × D), D.inF (k + n) (D.shF k d) = D.inF n d
  | [] => rfl
  | (_, x) :: r => by rw [D.shF, D.inF, D.inF, inB_sh k n x, inF_sh k n r]
end
mutual
theorem sh_id (k : Nat) : ∀ d : D, d.inB 0 = true → d.sh k = d
  | .loc m, h => by rw [D.inB] at h; simp at h
  | .tup xs, h => by rw [D.inB] at h; rw [D.sh, shL_id k xs h]
  | .lst xs, h => by rw [D.inB] at h; rw [D.sh, shL_id k xs h]
  | .fix xs, h => by rw [D.inB] at h; rw [D.sh, shL_id k xs h]
  | .obj c fs, h => by rw [D.inB] at h; rw [D.sh, shF_id k fs h]
  | .dct fs, h => by rw [D.inB] at h; rw [D.sh, shF_id k fs h]
  | .non, _ => rfl
  | .bl b, _ => rfl
  | .int i, _ => rfl
  | .str x, _ => rfl
  | .glo x, _ => rfl
  | .ty x, _ => rfl
  | .exn q fs, h => by rw [D.inB] at h; rw [D.sh, shF_id k fs h]
  | .nst _, _ => rfl
  | .odc, _ => rfl
theorem shL_id (k : Nat) : ∀ d : List D, D.inL 0 d = true → D.shL k d = d
  | [], _ => rfl
  | x :: r, h => by
    rw [D.inL, Bool.and_eq_true] at h
    rw [D.shL, sh_id k x h.1, shL_id k r h.2]
theorem shF_id (k : Nat) : ∀ d : List (Str × D), D.inF 0 d = true → D.shF k d = d
  | [], _ => rfl
  | (_, x) :: r, h => by
    rw [D.inF, Bool.and_eq_true] at h
    rw [D.shF, sh_id k x h.1, shF_id k r h.2]
end
mutual
theorem toP_sh (k : Nat) : ∀ d : D, toP (d.sh k) = toP d
  | .loc m => by rw [D.sh]; rfl
  | .tup xs => by rw [D.sh, toP, toP, toPs_sh k xs]
  | .lst xs => by rw [D.sh, toP, toP, toPs_sh k xs]
  | .fix xs => by rw [D.sh, toP, toP, toPs_sh k xs]
  | .obj c fs => rfl
  | .dct fs => rfl
  | .non => rfl
  | .bl b => rfl
  | .int i => rfl
  | .str x => rfl
  | .glo x => rfl
  | .ty x => rfl
  | .exn h fs => rfl
  | .nst _ => rfl
  | .odc => rfl
theorem toPs_sh (k : Nat) : ∀ d : List D, toPs (D.shL k d) = toPs d
  | [] => rfl
  | x :: r => by rw [D.shL, toPs, toPs, toP_sh k x, toPs_sh k r]
end
mutual
theorem toPd_sh (k : Nat) : ∀ d : D, toPd (d.sh k) = toPd d
  | .loc m => by rw [D.sh]; rfl
  | .tup xs => by rw [D.sh, toPd, toPd, toPds_sh k xs]
  | .lst xs => by rw [D.sh, toPd, toPd, toPds_sh k xs]
  | .fix xs => by rw [D.sh, toPd, toPd, toPds_sh k xs]
  | .obj c fs => rfl
  | .dct [] => rfl
  | .dct ((_, _) :: _) => rfl
  | .non => rfl
  | .bl b => rfl
  | .int i => rfl
  | .str x => rfl
  | .glo x => rfl
  | .ty x => rfl
  | .exn h fs => rfl
  | .nst _ => rfl
  | .odc => rfl
theorem toPds_sh (k : Nat) : ∀ d : List D, toPds (D.shL k d) = toPds d
  | [] => rfl
  | x :: r => by rw [D.shL, toPds, toPds, toPd_sh k x, toPds_sh k r]
end
def Cell.sh (k : Nat) : Cell → Cell
  | .lst xs => .lst (D.shL k xs)
  | .ins c fs => .ins c (D.shF k fs)
  | .dct fs => .dct (D.shF k fs)
  | .dead => .dead
  | .tab q => .tab q
  | .opn xs h ls => .opn (D.shL k xs) (h.sh k) (D.shL k ls)
  | .dtt kvs => .dtt (kvs.map fun p => (p.1, p.2.sh k))
def shM (μ ν : Mu) : Mu := μ ++ ν.map (Cell.sh μ.length)
section
variable {μ ν : Mu}
theorem shM_len : (shM μ ν).length = μ.length + ν.length := by simp [shM]
theorem shM_get (n : Nat) : (shM μ ν)[μ.length + n]? = (ν[n]?).map (Cell.sh μ.length) := by
  rw [shM, List.getElem?_append_right (Nat.le_add_right _ _), Nat.add_sub_cancel_left, List.getElem?_map]
theorem shM_set (n : Nat) (c : Cell) : (shM μ ν).set (μ.length + n) (c.sh μ.length) = shM μ (ν.set n c) := by
  rw [shM, shM, List.set_append_right _ _ (Nat.le_add_right _ _), Nat.add_sub_cancel_left, List.map_set]
theorem shM_take (n : Nat) : (shM μ ν).take (μ.length + n) = shM μ (ν.take n) := by
  rw [shM, shM, List.take_append, List.take_of_length_le (Nat.le_add_right _ _), Nat.add_sub_cancel_left, List.map_take]
theorem shM_app (c : Cell) : shM μ ν ++ [c.sh μ.length] = shM μ (ν ++ [c]) := by simp [shM]
theorem shM_nil : shM μ [] = μ := by simp [shM]
theorem lstOf_sh (d : D) : lstOf (shM μ ν) (d.sh μ.length) = (lstOf ν d).map (D.shL μ.length) := by
  cases d <;> try rfl
  rename_i n
  rw [D.sh]
  unfold lstOf
  simp only [shM_get]
  cases ν[n]? with
  | none => rfl
  | some c => cases c <;> rfl
theorem ownOf_sh (d : D) : ownOf (shM μ ν) (d.sh μ.length) = (ownOf ν d).map (D.shL μ.length) := by
  cases d <;> try rfl
  rename_i n
  rw [D.sh]
  unfold ownOf
  simp only [shM_get]
  cases ν[n]? with
  | none => rfl
  | some c => cases c <;> rfl
theorem insOf_sh (d : D) : insOf (shM μ ν) (d.sh μ.length) = (insOf ν d).map fun p => (p.1, D.shF μ.length p.2) := by
  cases d <;> try rfl
  rename_i n
  rw [D.sh]
  unfold insOf
  simp only [shM_get]
  cases ν[n]? with
  | none => rfl
  | some c => cases c <;> rfl
theorem dere_sh (d : D) : toP (dere (shM μ ν) (d.sh μ.length)) = toP (dere ν d) := by
  cases d <;> try exact toP_sh _ _
  rename_i n
  rw [D.sh]
  unfold dere
  simp only [shM_get]
  cases ν[n]? with
  | none => rfl
  | some c =>
    cases c <;> try rfl
    exact toP_sh μ.length (.fix _)
end

/-! ### shifts of answers -/
class Shf (α : Type) where
  sh : Nat → α → α
instance : Shf D := ⟨D.sh⟩
instance : Shf Bool := ⟨fun _ b => b⟩
instance : Shf Unit := ⟨fun _ b => b⟩
instance : Shf (List D) := ⟨D.shL⟩
instance : Shf (Option Int) := ⟨fun _ b => b⟩
def shR (k : Nat) (r : Rho) : Rho := r.map (Option.map (D.sh k))
instance : Shf Rho := ⟨shR⟩
/-- o' is what o is, on the greater store -/
def FrO {α : Type} [Shf α] (μ : Mu) (o' : Out α) : Out α → Prop
  | .ok a ν => o' = .ok (Shf.sh μ.length a) (shM μ ν)
  | .exc c fs ν => o' = .exc c (D.shF μ.length fs) (shM μ ν)
  | .stuck => True
def FrS (μ : Mu) (o' : SO) : SO → Prop
  | .next r ν => o' = .next (shR μ.length r) (shM μ ν)
  | .brk r ν => o' = .brk (shR μ.length r) (shM μ ν)
  | .cont r ν => o' = .cont (shR μ.length r) (shM μ ν)
  | .ret d ν => o' = .ret (d.sh μ.length) (shM μ ν)
  | .exc c fs r ν => o' = .exc c (D.shF μ.length fs) (shR μ.length r) (shM μ ν)
  | .stuck => True
theorem FrO.bind {α β : Type} [Shf α] [Shf β] {μ : Mu} {o' o : Out α} {k' k : α → Mu → Out β} (h : FrO μ o' o) (hk : ∀ a ν, FrO μ (k' (Shf.sh μ.length a) (shM μ ν)) (k a ν)) : FrO μ (o'.bind k') (o.bind k) := by
  cases o with
  | ok a ν =>
    rw [show o' = _ from h]
    exact hk a ν
  | exc c fs ν =>
    rw [show o' = _ from h]
    rfl
  | stuck => trivial
theorem FrO.ne {α : Type} [Shf α] {μ : Mu} {o' o : Out α} (h : FrO μ o' o) : FrO μ o'.ne o.ne := by
  cases o with
  | ok a ν =>
    rw [show o' = _ from h]
    rfl
  | exc c fs ν => trivial
  | stuck => trivial
theorem FrO.stm {α : Type} [Shf α] {μ : Mu} {o' o : Out α} {r : Rho} {k' k : α → Mu → SO} (h : FrO μ o' o) (hk : ∀ a ν, FrS μ (k' (Shf.sh μ.length a) (shM μ ν)) (k a ν)) : FrS μ (o'.stm (shR μ.length r) k') (o.stm r k) := by
  cases o with
  | ok a ν =>
    rw [show o' = _ from h]
    exact hk a ν
  | exc c fs ν =>
    rw [show o' = _ from h]
    rfl
  | stuck => trivial
def FrE (f : XE') : Prop := ∀ μ r ν, FrO μ (f (shR μ.length r) (shM μ ν)) (f r ν)
def FrT (f : XT) : Prop := ∀ μ r ν, FrO μ (f (shR μ.length r) (shM μ ν)) (f r ν)
def FrA (f : XA) : Prop := ∀ μ r ν, FrO μ (f (shR μ.length r) (shM μ ν)) (f r ν)
def FrI (f : XO) : Prop := ∀ μ r ν, FrO μ (f (shR μ.length r) (shM μ ν)) (f r ν)
def FrB (f : XS) : Prop := ∀ μ r ν, FrS μ (f (shR μ.length r) (shM μ ν)) (f r ν)
def FrG (f : XG) : Prop := ∀ μ d r ν, FrO μ (f (d.sh μ.length) (shR μ.length r) (shM μ ν)) (f d r ν)
def FrGs (f : XGs) : Prop := ∀ μ d r ν, FrO μ (f (D.shL μ.length d) (shR μ.length r) (shM μ ν)) (f d r ν)
def FrF (f : Fn) : Prop := ∀ μ d ν, FrO μ (f (D.shL μ.length d) (shM μ ν)) (f d ν)
def Fr2 (g : D → D → Mu → Out D) : Prop := ∀ μ d e ν, FrO μ (g (d.sh μ.length) (e.sh μ.length) (shM μ ν)) (g d e ν)
theorem shR_get (k : Nat) (r : Rho) (i : Nat) : (shR k r)[i]? = (r[i]?).map (Option.map (D.sh k)) := by rw [shR, List.getElem?_map]
theorem shR_set (k : Nat) (r : Rho) (i : Nat) (d : D) : (shR k r).set i (some (d.sh k)) = shR k (r.set i (some d)) := by rw [shR, shR, List.map_set]; rfl
theorem shR_set0 (k : Nat) (r : Rho) (i : Nat) : (shR k r).set i none = shR k (r.set i none) := by rw [shR, shR, List.map_set]; rfl
theorem shR_wipe (k : Nat) (r : Rho) : ∀ vs, wipeR (shR k r) vs = shR k (wipeR r vs)
  | [] => rfl
  | v :: vs => by rw [wipeR, wipeR, shR_wipe k r vs, shR_set0]
theorem fr_xVar (i : Nat) : FrE (xVar i) := fun μ r ν => by
  unfold xVar
  rw [shR_get]
  cases r[i]? with
  | none => trivial
  | some o => cases o with
    | none => trivial
    | some d => rfl
theorem fr_xC (d : D) (h : d.inB 0 = true := by rfl) : FrE (xC d) := fun μ r ν => by
  show _ = _
  rw [show Shf.sh μ.length d = d.sh μ.length from rfl, sh_id _ d h]
  rfl
theorem fr_xOp {g : D → D → Mu → Out D} {a b : XE'} (hg : Fr2 g) (ha : FrE a) (hb : FrE b) : FrE (xOp g a b) := fun μ r ν =>
  (ha μ r ν).bind fun x ν1 => (hb μ r ν1).bind fun y ν2 => hg μ x y ν2
theorem fr_asB (μ : Mu) (d : D) (ν : Mu) : FrO μ (asB (d.sh μ.length) (shM μ ν)) (asB d ν) := by cases d <;> trivial
theorem fr_xTest {f : XE'} (hf : FrE f) : FrT (xTest f) := fun μ r ν => (hf μ r ν).bind fun d ν1 => fr_asB μ d ν1
theorem fr_xAndT {a b : XT} (ha : FrT a) (hb : FrT b) : FrT (xAndT a b) := fun μ r ν => (ha μ r ν).bind fun k ν1 => by
  cases k
  · exact rfl
  · exact hb μ r ν1
theorem fr_xOrT {a b : XT} (ha : FrT a) (hb : FrT b) : FrT (xOrT a b) := fun μ r ν => (ha μ r ν).bind fun k ν1 => by
  cases k
  · exact hb μ r ν1
  · exact rfl
theorem fr_xNotT {a : XT} (ha : FrT a) : FrT (xNotT a) := fun μ r ν => (ha μ r ν).bind fun k ν1 => rfl
theorem fr_xAnd {a b : XE'} (ha : FrE a) (hb : FrE b) : FrE (xAnd a b) := fun μ r ν => ((ha μ r ν).bind fun d ν1 => fr_asB μ d ν1).bind fun k ν1 => by
  cases k
  · exact rfl
  · exact hb μ r ν1
theorem fr_xOr {a b : XE'} (ha : FrE a) (hb : FrE b) : FrE (xOr a b) := fun μ r ν => ((ha μ r ν).bind fun d ν1 => fr_asB μ d ν1).bind fun k ν1 => by
  cases k
  · exact hb μ r ν1
  · exact rfl
theorem fr_xNot {a : XE'} (ha : FrE a) : FrE (xNot a) := fun μ r ν => ((ha μ r ν).bind fun d ν1 => fr_asB μ d ν1).bind fun k ν1 => rfl
theorem fr_xIf {t : XT} {a b : XE'} (ht : FrT t) (ha : FrE a) (hb : FrE b) : FrE (xIf t a b) := fun μ r ν => (ht μ r ν).bind fun k ν1 => by
  cases k
  · exact hb μ r ν1
  · exact ha μ r ν1
theorem fr_xChain {g g' : D → D → Mu → Out D} {a b k : XE'} (hg : Fr2 g) (hg' : Fr2 g') (ha : FrE a) (hb : FrE b) (hk : FrE k) : FrE (xChain g g' a b k) := fun μ r ν =>
  (ha μ r ν).bind fun x ν1 => (hb μ r ν1).bind fun y ν2 => ((hg μ x y ν2).bind fun d ν1 => fr_asB μ d ν1).bind fun q ν3 => by
    cases q
    · exact rfl
    · exact (hk μ r ν3).bind fun z ν4 => hg' μ y z ν4
theorem fr_xaNil : FrA xaNil := fun μ r ν => rfl
theorem fr_xaCons {a : XE'} {b : XA} (ha : FrE a) (hb : FrA b) : FrA (xaCons a b) := fun μ r ν => (ha μ r ν).bind fun x ν1 => (hb μ r ν1).bind fun xs ν2 => rfl
theorem fr_xTup {a : XA} (ha : FrA a) : FrE (xTup a) := fun μ r ν => (ha μ r ν).bind fun x ν1 => rfl
theorem fr_new (μ : Mu) (ds : List D) (ν : Mu) : FrO μ (if D.inL (shM μ ν).length (D.shL μ.length ds) then Out.ok (D.loc (shM μ ν).length) (shM μ ν ++ [.lst (D.shL μ.length ds)]) else .stuck) (if D.inL ν.length ds then Out.ok (D.loc ν.length) (ν ++ [.lst ds]) else .stuck) := by
  rw [shM_len, inL_sh]
  split
  · exact congrArg (Out.ok _) (shM_app (.lst ds))
  · trivial
theorem fr_xNew {a : XA} (ha : FrA a) : FrE (xNew a) := fun μ r ν => (ha μ r ν).bind fun x ν1 => fr_new μ x ν1

/-! ### operators -/
theorem fr_addD : Fr2 addD := fun μ d e ν => by
  have lists : FrO μ (match ownOf (shM μ ν) (d.sh μ.length), ownOf (shM μ ν) (e.sh μ.length) with
    | some xs, some ys => if xs.length + ys.length ≤ sizeLine then Out.ok (D.lst (xs ++ ys)) (shM μ ν) else .stuck
    | _, _ => .stuck) (match ownOf ν d, ownOf ν e with
    | some xs, some ys => if xs.length + ys.length ≤ sizeLine then .ok (.lst (xs ++ ys)) ν else .stuck
    | _, _ => .stuck) := by
    rw [ownOf_sh, ownOf_sh]
    cases ownOf ν d with
    | none => trivial
    | some xs => cases ownOf ν e with
      | none => trivial
      | some ys =>
        simp only [Option.map_some, shL_len]
        split
        · show _ = Out.ok (D.lst (D.shL μ.length (xs ++ ys))) _
          rw [shL_app]
        · trivial
  cases d <;> cases e <;> try (first | exact lists | trivial)
  · rename_i x y
    unfold addD
    simp only [D.sh]
    split
    · rfl
    · trivial
  · rename_i xs ys
    unfold addD
    simp only [D.sh, shL_len]
    split
    · show _ = Out.ok (D.tup (D.shL μ.length (xs ++ ys))) _
      rw [shL_app]
    · trivial
theorem fr_subD : Fr2 subD := fun μ d e ν => by
  cases d <;> try trivial
  cases e <;> trivial
theorem fr_cmpD {g : Int → Int → Bool} : Fr2 (cmpD g) := fun μ d e ν => by
  cases d <;> try trivial
  cases e <;> trivial
theorem fr_ltD : Fr2 ltD := fr_cmpD
theorem fr_leD : Fr2 leD := fr_cmpD
theorem fr_gtD : Fr2 gtD := fr_cmpD
theorem isNon_sh (k : Nat) (d : D) : isNonD (d.sh k) = isNonD d := by cases d <;> rfl
theorem fr_isD : Fr2 isD := fun μ d e ν => by
  cases e <;> try trivial
  show Out.ok _ _ = _
  rw [isNon_sh]
  rfl
theorem fr_isntD : Fr2 isntD := fun μ d e ν => by
  cases e <;> try trivial
  show Out.ok _ _ = _
  rw [isNon_sh]
  rfl
theorem eqB_sh {μ ν : Mu} (d e : D) : eqB (shM μ ν) (d.sh μ.length) (e.sh μ.length) = eqB ν d e := by
  unfold eqB
  rw [dere_sh, dere_sh]
theorem fr_eqD : Fr2 eqD := fun μ d e ν => by
  have gen : FrO μ (match eqB (shM μ ν) (d.sh μ.length) (e.sh μ.length) with
    | some b => Out.ok (D.bl b) (shM μ ν)
    | none => .stuck) (match eqB ν d e with
    | some b => .ok (.bl b) ν
    | none => .stuck) := by
    rw [eqB_sh]
    cases eqB ν d e <;> trivial
  cases d <;> cases e <;> first | exact gen | exact rfl
theorem fr_neD : Fr2 neD := fun μ d e ν => by
  have gen : FrO μ (match eqB (shM μ ν) (d.sh μ.length) (e.sh μ.length) with
    | some b => Out.ok (D.bl (!b)) (shM μ ν)
    | none => .stuck) (match eqB ν d e with
    | some b => .ok (.bl (!b)) ν
    | none => .stuck) := by
    rw [eqB_sh]
    cases eqB ν d e <;> trivial
  cases d <;> cases e <;> first | exact gen | exact rfl
theorem flat_sh (k : Nat) (d : D) : flatD (d.sh k) = flatD d := by cases d <;> rfl
theorem eqF_sh (k : Nat) (d e : D) : eqF (d.sh k) (e.sh k) = eqF d e := by cases d <;> cases e <;> rfl
theorem any_sh (k : Nat) (d : D) (xs : List D) : ((D.shL k xs).any fun y => eqF y (d.sh k)) = xs.any fun y => eqF y d := by
  rw [shL_map, List.any_map]
  congr 1
  funext y
  exact eqF_sh k y d
theorem all_sh (k : Nat) (xs : List D) : (D.shL k xs).all flatD = xs.all flatD := by
  rw [shL_map, List.all_map]
  congr 1
  funext y
  exact flat_sh k y
theorem inB_frame {μ ν : Mu} (d e : D) {b : Bool} (h : DS.inB ν d e = some b) : DS.inB (shM μ ν) (d.sh μ.length) (e.sh μ.length) = some b := by
  have lists : (match lstOf ν e with
    | some xs => if flatD d && xs.all flatD then some (xs.any fun y => eqF y d) else none
    | none => none) = some b → (match lstOf (shM μ ν) (e.sh μ.length) with
    | some xs => if flatD (d.sh μ.length) && xs.all flatD then some (xs.any fun y => eqF y (d.sh μ.length)) else none
    | none => none) = some b := by
    rw [lstOf_sh]
    cases lstOf ν e with
    | none => exact fun z => z
    | some xs =>
      simp only [Option.map_some]
      rw [flat_sh, any_sh, all_sh]
      exact fun z => z
  have tup : ∀ xs, (if flatD d && xs.all flatD then some (xs.any fun y => eqF y d) else none) = some b → (if flatD (d.sh μ.length) && (D.shL μ.length xs).all flatD then some ((D.shL μ.length xs).any fun y => eqF y (d.sh μ.length)) else none) = some b := fun xs => by
    rw [flat_sh, any_sh, all_sh]
    exact fun z => z
  cases e <;> cases d <;> first | exact lists h | exact tup _ h | exact h
theorem fr_inD : Fr2 inD := fun μ d e ν => by
  unfold inD
  cases h : DS.inB ν d e with
  | none => trivial
  | some b => rw [inB_frame d e h]; rfl
theorem fr_ninD : Fr2 ninD := fun μ d e ν => by
  unfold ninD
  cases h : DS.inB ν d e with
  | none => trivial
  | some b => rw [inB_frame d e h]; rfl
theorem atI_sh (k : Nat) (xs : List D) (i : Int) : L2.atI (D.shL k xs) i = (L2.atI xs i).map (D.sh k) := by
  unfold L2.atI
  rw [shL_len]
  cases L2.ixN xs.length i with
  | none => rfl
  | some j => exact shL_get _ _ _
theorem fr_ixD : Fr2 ixD := fun μ d e ν => by
  cases e <;> try (cases d <;> trivial)
  rename_i i
  have at_ : ∀ xs : List D, FrO μ (match L2.atI (D.shL μ.length xs) i with
      | some v => Out.ok v (shM μ ν)
      | none => .stuck) (match L2.atI xs i with
      | some v => .ok v ν
      | none => .stuck) := fun xs => by
    rw [atI_sh]
    cases L2.atI xs i <;> trivial
  have lists : FrO μ (match lstOf (shM μ ν) (d.sh μ.length) with
      | some xs => (match L2.atI xs i with
        | some v => Out.ok v (shM μ ν)
        | none => .stuck)
      | none => .stuck) (match lstOf ν d with
      | some xs => (match L2.atI xs i with
        | some v => .ok v ν
        | none => .stuck)
      | none => .stuck) := by
    rw [lstOf_sh]
    cases lstOf ν d with
    | none => trivial
    | some xs => exact at_ xs
  cases d <;> first | exact lists | exact at_ _ | skip
  rename_i z
  unfold ixD
  simp only [D.sh]
  split
  · cases L2.atI z.cps.toList i <;> trivial
  · trivial
theorem fr_xoN : FrI xoN := fun μ r ν => rfl
theorem fr_xoS {a : XE'} (ha : FrE a) : FrI (xoS a) := fun μ r ν => (ha μ r ν).bind fun d ν1 => by cases d <;> trivial
theorem cut_sh (k : Nat) (xs : List D) (lo hi : Option Int) : cutD (D.shL k xs) lo hi = D.shL k (cutD xs lo hi) := by
  unfold cutD
  rw [shL_len, shL_map, shL_map, List.map_take, List.map_drop]
theorem fr_slD (μ : Mu) (d : D) (lo hi : Option Int) (ν : Mu) : FrO μ (slD (d.sh μ.length) lo hi (shM μ ν)) (slD d lo hi ν) := by
  have lists : FrO μ (match lstOf (shM μ ν) (d.sh μ.length) with
    | some xs => Out.ok (D.lst (cutD xs lo hi)) (shM μ ν)
    | none => .stuck) (match lstOf ν d with
    | some xs => .ok (.lst (cutD xs lo hi)) ν
    | none => .stuck) := by
    rw [lstOf_sh]
    cases lstOf ν d with
    | none => trivial
    | some xs =>
      show Out.ok (D.lst (cutD (D.shL μ.length xs) lo hi)) _ = _
      rw [cut_sh]
      rfl
  cases d <;> try exact lists
  · unfold slD
    simp only [D.sh]
    split <;> trivial
  · rename_i xs
    show Out.ok (D.tup (cutD (D.shL μ.length xs) lo hi)) _ = _
    rw [cut_sh]
    rfl
theorem fr_xSl {a : XE'} {lo hi : XO} (ha : FrE a) (hl : FrI lo) (hh : FrI hi) : FrE (xSl a lo hi) := fun μ r ν =>
  (ha μ r ν).bind fun d ν1 => (hl μ r ν1).bind fun l ν2 => (hh μ r ν2).bind fun h ν3 => fr_slD μ d l h ν3
theorem fr_xFld (cn f : Str) {a : XE'} (ha : FrE a) : FrE (xFld cn f a) := fun μ r ν => (ha μ r ν).bind fun d ν1 => by
  show FrO μ (fldD cn f (d.sh μ.length) (shM μ ν1)) (fldD cn f d ν1)
  unfold fldD
  rw [insOf_sh]
  cases insOf ν1 d with
  | none => trivial
  | some p =>
    simp only [Option.map_some, shF_look]
    split
    · cases p.2.lookup f <;> trivial
    · trivial
theorem fr_xCall {G : Fn} {a : XA} (hG : FrF G) (ha : FrA a) : FrE (xCall G a) := fun μ r ν => (ha μ r ν).bind fun d ν1 => hG μ d ν1
theorem fr_madeD (cn : Str) (frz : Bool) (n : Nat) (μ : Mu) (d : D) (ν : Mu) : FrO μ (madeD cn frz (μ.length + n) (d.sh μ.length) (shM μ ν)) (madeD cn frz n d ν) := by
  cases d <;> try trivial
  show FrO μ (match (shM μ ν)[μ.length + n]? with
    | some (.ins c' gs) => if c' = cn then (if frz then Out.ok (D.obj cn gs) ((shM μ ν).take (μ.length + n)) else .ok (.loc (μ.length + n)) (shM μ ν)) else .stuck
    | _ => .stuck) (match ν[n]? with
    | some (.ins c' gs) => if c' = cn then (if frz then Out.ok (D.obj cn gs) (ν.take n) else .ok (.loc n) ν) else .stuck
    | _ => .stuck)
  rw [shM_get]
  cases ν[n]? with
  | none => trivial
  | some c => cases c with
    | ins c' gs =>
      simp only [Option.map_some, Cell.sh]
      split
      · cases frz
        · rfl
        · exact congrArg (Out.ok _) (shM_take n)
      · trivial
    | _ => trivial
theorem fr_makeD (cn : Str) {G : Fn} (frz : Bool) (hG : FrF G) : FrF (makeD cn G frz) := fun μ ds ν => by
  unfold makeD
  refine FrO.bind (μ := μ) ?_ fun d ν2 => ?_
  · have h := hG μ (.loc ν.length :: ds) (ν ++ [.ins cn []])
    rw [← shM_app] at h
    rw [shM_len]
    exact h
  · rw [shM_len]
    exact fr_madeD cn frz ν.length μ d ν2
theorem fr_xMakeD (cn : Str) {G : Fn} (hG : FrF G) (frz : Bool) (dds : List D) {a : XA} (ha : FrA a) (hd : D.inL 0 dds = true := by rfl) : FrE (xMakeD cn G frz dds a) := fun μ r ν => (ha μ r ν).bind fun ds ν1 => by
  have h := fr_makeD cn frz hG μ (ds ++ dds) ν1
  rw [shL_app, shL_id _ dds hd] at h
  exact h
theorem fr_xMakeK (cn : Str) {G : Fn} (hG : FrF G) (frz : Bool) (mid : List D) {a b : XA} (ha : FrA a) (hb : FrA b) (hd : D.inL 0 mid = true := by rfl) : FrE (xMakeK cn G frz mid a b) := fun μ r ν => (ha μ r ν).bind fun ds ν1 => (hb μ r ν1).bind fun zs ν2 => by
  have h := fr_makeD cn frz hG μ (ds ++ (mid ++ zs)) ν2
  rw [shL_app, shL_app, shL_id _ mid hd] at h
  exact h
/-! ### statements, targets -/
theorem fr_sNil : FrB sNil := fun μ r ν => rfl
theorem fr_sNever : FrB sNever := fun μ r ν => trivial
theorem fr_sSeq {f g : XS} (hf : FrB f) (hg : FrB g) : FrB (sSeq f g) := fun μ r ν => by
  have h := hf μ r ν
  unfold sSeq
  cases e : f r ν <;> rw [e] at h
  · rw [show f (shR μ.length r) (shM μ ν) = _ from h]
    exact hg μ _ _
  · rw [show f (shR μ.length r) (shM μ ν) = _ from h]; rfl
  · rw [show f (shR μ.length r) (shM μ ν) = _ from h]; rfl
  · rw [show f (shR μ.length r) (shM μ ν) = _ from h]; rfl
  · rw [show f (shR μ.length r) (shM μ ν) = _ from h]; rfl
  · trivial
theorem fr_sExpr {f : XE'} (hf : FrE f) : FrB (sExpr f) := fun μ r ν => (hf μ r ν).stm fun d ν1 => rfl
theorem fr_sRet {f : XE'} (hf : FrE f) : FrB (sRet f) := fun μ r ν => (hf μ r ν).stm fun d ν1 => rfl
theorem fr_sIf {t : XT} {f g : XS} (ht : FrT t) (hf : FrB f) (hg : FrB g) : FrB (sIf t f g) := fun μ r ν => (ht μ r ν).stm fun k ν1 => by
  cases k
  · exact hg μ r ν1
  · exact hf μ r ν1
theorem fr_gNm (i : Nat) : FrG (gNm i) := fun μ d r ν => by
  show Out.ok _ _ = _
  rw [shR_set]
  rfl
theorem fr_gsNil : FrGs gsNil := fun μ d r ν => by cases d <;> trivial
theorem fr_gsCons {g : XG} {gs : XGs} (hg : FrG g) (hs : FrGs gs) : FrGs (gsCons g gs) := fun μ d r ν => by
  cases d with
  | nil => trivial
  | cons d ds => exact (hg μ d r ν).bind fun r1 ν1 => hs μ ds r1 ν1
theorem fr_gTp (n : Nat) {g : XGs} (hg : FrGs g) : FrG (gTp n g) := fun μ d r ν => by
  cases d <;> try trivial
  all_goals
    unfold gTp
    simp only [D.sh, shL_len]
    split
    · exact hg μ _ r ν
    · trivial
theorem fr_sAsg {f : XE'} {g : XG} (hf : FrE f) (hg : FrG g) : FrB (sAsg f g) := fun μ r ν => (hf μ r ν).stm fun d ν1 => (hg μ d r ν1).stm fun r' ν2 => rfl
theorem fr_sPar (i j : Nat) {a : XA} (ha : FrA a) : FrB (sPar i j a) := fun μ r ν => (ha μ r ν).stm fun ds ν1 => by
  rcases ds with _ | ⟨x, _ | ⟨y, _ | ⟨z, l⟩⟩⟩ <;> try trivial
  show SO.next (((shR μ.length r).set i (some (x.sh _))).set j (some (y.sh _))) _ = _
  rw [shR_set, shR_set]
theorem put_sh (k : Nat) (f : Str) (d : D) : ∀ gs, putD f (d.sh k) (D.shF k gs) = D.shF k (putD f d gs)
  | [] => rfl
  | (x, y) :: r => by
    rw [D.shF, putD, putD]
    split
    · rfl
    · rw [put_sh k f d r]; rfl
theorem fr_putC (cn f : Str) (μ : Mu) (o q : D) (ν : Mu) : FrO μ (putC cn f (o.sh μ.length) (q.sh μ.length) (shM μ ν)) (putC cn f o q ν) := by
  cases o <;> try trivial
  rename_i n
  unfold putC
  simp only [D.sh, shM_get, inB_sh]
  cases ν[n]? with
  | none => trivial
  | some c => cases c with
    | ins c' gs =>
      simp only [Option.map_some, Cell.sh, shF_len]
      split
      · have h := shM_set (μ := μ) (ν := ν) n (.ins cn (putD f q gs))
        rw [Cell.sh, ← put_sh] at h
        exact congrArg (Out.ok _) h
      · trivial
    | _ => trivial
theorem fr_sFl (cn f : Str) {o v : XE'} (ho : FrE o) (hv : FrE v) : FrB (sFl cn f o v) := fun μ r ν => (hv μ r ν).stm fun q ν1 => (ho μ r ν1).stm fun od ν2 => (fr_putC cn f μ od q ν2).stm fun _ ν3 => rfl
theorem fr_seqD (μ : Mu) (d : D) (ν : Mu) : FrO μ (seqD (d.sh μ.length) (shM μ ν)) (seqD d ν) := by
  cases d <;> try trivial
  rename_i z
  show _ = Out.ok (D.shL _ _) _
  rw [shL_map, List.map_map]
  rfl
theorem fr_xiSeq {f : XE'} (hf : FrE f) : FrA (xiSeq f) := fun μ r ν => (hf μ r ν).bind fun d ν1 => fr_seqD μ d ν1
theorem rng_sh (k : Nat) (lo : Int) (n : Nat) : D.shL k (rngL lo n) = rngL lo n := by
  rw [shL_map, rngL, List.map_map]
  rfl
theorem fr_rngD1 (μ : Mu) (ds : List D) (ν : Mu) : FrO μ (rngD1 (D.shL μ.length ds) (shM μ ν)) (rngD1 ds ν) := by
  rcases ds with _ | ⟨x, _ | ⟨y, l⟩⟩ <;> try trivial
  · cases x <;> try trivial
    unfold rngD1
    simp only [D.shL, D.sh]
    split
    · show _ = Out.ok (D.shL _ _) _
      rw [rng_sh]
    · trivial
  · cases x <;> trivial
theorem fr_xiRng1 {f : XA} (hf : FrA f) : FrA (xiRng1 f) := fun μ r ν => (hf μ r ν).bind fun d ν1 => fr_rngD1 μ d ν1
theorem enum_sh (k : Nat) : ∀ (i : Nat) (xs : List D), enumL i (D.shL k xs) = D.shL k (enumL i xs)
  | _, [] => rfl
  | i, x :: r => by rw [D.shL, enumL, enumL, D.shL, enum_sh k (i + 1) r]; rfl
theorem fr_xiEnum' {f : XA} (hf : FrA f) : FrA (xiEnum' f) := fun μ r ν => (hf μ r ν).bind fun ds ν1 => by
  rcases ds with _ | ⟨x, _ | ⟨y, l⟩⟩ <;> try trivial
  · cases x <;> try trivial
    all_goals
      show Out.ok (enumL 0 (D.shL _ _)) _ = _
      rw [enum_sh]
      rfl
  · cases x <;> trivial
theorem fr_loopF {g : XG} {body : XS} (hg : FrG g) (hb : FrB body) (μ : Mu) : ∀ (xs : List D) (r : Rho) (ν : Mu), FrS μ (loopF g body (D.shL μ.length xs) (shR μ.length r) (shM μ ν)) (loopF g body xs r ν)
  | [], r, ν => rfl
  | x :: xs, r, ν => by
    rw [D.shL, loopF, loopF]
    refine (hg μ x r ν).stm fun r1 ν1 => ?_
    have h := hb μ r1 ν1
    show FrS μ (match body (shR μ.length r1) (shM μ ν1) with
      | .next r2 m2 => loopF g body (D.shL μ.length xs) r2 m2
      | .cont r2 m2 => loopF g body (D.shL μ.length xs) r2 m2
      | .brk r2 m2 => .next r2 m2
      | o => o) _
    cases e : body r1 ν1 <;> rw [e] at h
    · rw [show body (shR μ.length r1) (shM μ ν1) = _ from h]; exact fr_loopF hg hb μ xs _ _
    · rw [show body (shR μ.length r1) (shM μ ν1) = _ from h]; rfl
    · rw [show body (shR μ.length r1) (shM μ ν1) = _ from h]; rfl
    · rw [show body (shR μ.length r1) (shM μ ν1) = _ from h]; exact fr_loopF hg hb μ xs _ _
    · rw [show body (shR μ.length r1) (shM μ ν1) = _ from h]; rfl
    · trivial
theorem fr_sFor {f : XA} {g : XG} {body : XS} (hf : FrA f) (hg : FrG g) (hb : FrB body) : FrB (sFor f g body) := fun μ r ν => (hf μ r ν).stm fun xs ν1 => fr_loopF hg hb μ xs r ν1
/-! ### comprehensions -/
theorem fr_xYes : FrT xYes := fun μ r ν => rfl
theorem fr_pushD (n : Nat) (d : D) (μ ν : Mu) : FrO μ (pushD (μ.length + n) (d.sh μ.length) (shM μ ν)) (pushD n d ν) := by
  unfold pushD
  rw [shM_get]
  cases ν[n]? with
  | none => trivial
  | some c => cases c with
    | lst acc =>
      simp only [Option.map_some, Cell.sh, inB_sh, shL_len]
      split
      · have h := shM_set (μ := μ) (ν := ν) n (.lst (acc ++ [d]))
        rw [Cell.sh, shL_app] at h
        exact congrArg (Out.ok _) h
      · trivial
    | _ => trivial
theorem fr_lcF {g : XG} {tt : XT} {te : XE'} (hg : FrG g) (ht : FrT tt) (he : FrE te) (μ : Mu) (n : Nat) (r0 : Rho) : ∀ (xs : List D) (ν : Mu), FrO μ (lcF g tt te (μ.length + n) (shR μ.length r0) (D.shL μ.length xs) (shM μ ν)) (lcF g tt te n r0 xs ν)
  | [], ν => rfl
  | x :: xs, ν => by
    rw [D.shL, lcF, lcF]
    refine (hg μ x r0 ν).ne.bind fun r1 ν1 => (ht μ r1 ν1).ne.bind fun b ν2 => ?_
    cases b
    · exact fr_lcF hg ht he μ n r0 xs ν2
    · exact (he μ r1 ν2).ne.bind fun d ν3 => (fr_pushD n d μ ν3).bind fun _ ν4 => fr_lcF hg ht he μ n r0 xs ν4
theorem fr_lcEnd (n : Nat) (μ ν : Mu) : FrO μ (lcEnd (μ.length + n) (shM μ ν)) (lcEnd n ν) := by
  unfold lcEnd
  rw [shM_get]
  cases ν[n]? with
  | none => trivial
  | some c => cases c with
    | lst acc => exact congrArg (Out.ok _) (shM_take n)
    | _ => trivial
theorem fr_xLc {f : XA} {g : XG} {tt : XT} {te : XE'} (hf : FrA f) (vs : List Nat) (hg : FrG g) (ht : FrT tt) (he : FrE te) : FrE (xLc f vs g tt te) := fun μ r ν => (hf μ r ν).bind fun xs ν1 => by
  show FrO μ (lcD g tt te (wipeR (shR μ.length r) vs) (D.shL μ.length xs) (shM μ ν1)) (lcD g tt te (wipeR r vs) xs ν1)
  unfold lcD
  rw [shR_wipe, shM_len]
  refine FrO.bind ?_ fun _ ν2 => fr_lcEnd ν1.length μ ν2
  have h := fr_lcF hg ht he μ ν1.length (wipeR r vs) xs (ν1 ++ [.lst []])
  rw [← shM_app] at h
  exact h
theorem fr_dputD (n : Nat) (k d : D) (μ ν : Mu) : FrO μ (dputD (μ.length + n) (k.sh μ.length) (d.sh μ.length) (shM μ ν)) (dputD n k d ν) := by
  unfold dputD
  rw [shM_get]
  cases ν[n]? with
  | none => trivial
  | some c => cases c with
    | dct gs =>
      cases k <;> try trivial
      rename_i f
      simp only [Option.map_some, Cell.sh, inB_sh, shF_len, shF_look, Option.map_eq_none_iff, D.sh]
      split
      · have h := shM_set (μ := μ) (ν := ν) n (.dct (gs ++ [(f, d)]))
        have e : ∀ gs : List (Str × D), D.shF μ.length (gs ++ [(f, d)]) = D.shF μ.length gs ++ [(f, d.sh μ.length)] := fun gs => by
          induction gs with
          | nil => rfl
          | cons p r ih => rw [List.cons_append, D.shF, D.shF, ih]; rfl
        rw [Cell.sh, e] at h
        exact congrArg (Out.ok _) h
      · trivial
    | _ => trivial
theorem fr_dcF {g : XG} {tk te : XE'} (hg : FrG g) (ht : FrE tk) (he : FrE te) (μ : Mu) (n : Nat) (r0 : Rho) : ∀ (xs : List D) (ν : Mu), FrO μ (dcF g tk te (μ.length + n) (shR μ.length r0) (D.shL μ.length xs) (shM μ ν)) (dcF g tk te n r0 xs ν)
  | [], ν => rfl
  | x :: xs, ν => by
    rw [D.shL, dcF, dcF]
    exact (hg μ x r0 ν).ne.bind fun r1 ν1 => (ht μ r1 ν1).ne.bind fun k ν2 => (he μ r1 ν2).ne.bind fun d ν3 => (fr_dputD n k d μ ν3).bind fun _ ν4 => fr_dcF hg ht he μ n r0 xs ν4
theorem fr_dcEnd (n : Nat) (μ ν : Mu) : FrO μ (dcEnd (μ.length + n) (shM μ ν)) (dcEnd n ν) := by
  unfold dcEnd
  rw [shM_get]
  cases ν[n]? with
  | none => trivial
  | some c => cases c with
    | dct acc => exact congrArg (Out.ok _) (shM_take n)
    | _ => trivial
theorem fr_xDc {f : XA} {g : XG} {tk te : XE'} (hf : FrA f) (vs : List Nat) (hg : FrG g) (ht : FrE tk) (he : FrE te) : FrE (xDc f vs g tk te) := fun μ r ν => (hf μ r ν).bind fun xs ν1 => by
  show FrO μ ((dcF g tk te (shM μ ν1).length (wipeR (shR μ.length r) vs) (D.shL μ.length xs) (shM μ ν1 ++ [.dct []])).bind fun _ m2 => dcEnd (shM μ ν1).length m2) _
  rw [shR_wipe, shM_len]
  refine FrO.bind ?_ fun _ ν2 => fr_dcEnd ν1.length μ ν2
  have h := fr_dcF hg ht he μ ν1.length (wipeR r vs) xs (ν1 ++ [.dct []])
  rw [← shM_app] at h
  exact h

/-! ### built-ins -/
theorem fr_lenD : FrF lenD := fun μ ds ν => by
  rcases ds with _ | ⟨d, _ | ⟨e, l⟩⟩ <;> try trivial
  · have lists : FrO μ (match lstOf (shM μ ν) (d.sh μ.length) with
      | some xs => Out.ok (D.int xs.length) (shM μ ν)
      | none => .stuck) (match lstOf ν d with
      | some xs => .ok (.int xs.length) ν
      | none => .stuck) := by
      rw [lstOf_sh]
      cases lstOf ν d with
      | none => trivial
      | some xs => simp only [Option.map_some, shL_len]; rfl
    cases d <;> try exact lists
    · unfold lenD
      simp only [D.shL, D.sh]
      split <;> trivial
    · unfold lenD
      simp only [D.shL, D.sh, shL_len]
      rfl
  · cases d <;> trivial
theorem fr_intF : FrF intF := fun μ ds ν => by
  rcases ds with _ | ⟨d, _ | ⟨e, l⟩⟩ <;> try trivial
  · cases d <;> try trivial
    rename_i z
    unfold intF
    simp only [D.shL, D.sh]
    cases PySem.intText? z with
    | none => trivial
    | some n =>
      simp only
      split <;> trivial
  · cases d <;> trivial
theorem fr_strF : FrF strF := fun μ ds ν => by
  rcases ds with _ | ⟨d, _ | ⟨e, l⟩⟩ <;> try trivial
  · cases d <;> try trivial
    unfold strF
    simp only [D.shL, D.sh]
    split <;> trivial
  · cases d <;> trivial
theorem ints_sh (k : Nat) : ∀ xs, intsL (D.shL k xs) = intsL xs
  | [] => rfl
  | x :: r => by
    have ih := ints_sh k r
    cases x <;> try rfl
    rw [D.shL, D.sh, intsL, intsL, ih]
theorem bs_sh (k : Nat) : ∀ xs, bsL (D.shL k xs) = bsL xs
  | [] => rfl
  | x :: r => by
    have ih := bs_sh k r
    cases x <;> try rfl
    rw [D.shL, D.sh, bsL, bsL, ih]
theorem fr_lstq {α : Type} [Shf α] {μ ν : Mu} {d : D} {k : Mu → List D → Out α} (h : ∀ xs, FrO μ (k (shM μ ν) (D.shL μ.length xs)) (k ν xs)) : FrO μ (match lstOf (shM μ ν) (d.sh μ.length) with
      | some xs => k (shM μ ν) xs
      | none => .stuck) (match lstOf ν d with
      | some xs => k ν xs
      | none => .stuck) := by
  rw [lstOf_sh]
  cases lstOf ν d with
  | none => trivial
  | some xs => exact h xs
theorem fr_allF : FrF allF := fun μ ds ν => by
  rcases ds with _ | ⟨d, _ | ⟨e, l⟩⟩ <;> try trivial
  exact fr_lstq (k := fun m xs => match bsL xs with
      | some ns => .ok (D.bl (ns.all id)) m
      | _ => .stuck) fun xs => by
    show FrO μ (match bsL (D.shL μ.length xs) with
      | some ns => Out.ok (D.bl (ns.all id)) (shM μ ν)
      | _ => .stuck) _
    rw [bs_sh]
    cases bsL xs <;> trivial
theorem fr_anyF : FrF anyF := fun μ ds ν => by
  rcases ds with _ | ⟨d, _ | ⟨e, l⟩⟩ <;> try trivial
  exact fr_lstq (k := fun m xs => match bsL xs with
      | some ns => .ok (D.bl (ns.any id)) m
      | _ => .stuck) fun xs => by
    show FrO μ (match bsL (D.shL μ.length xs) with
      | some ns => Out.ok (D.bl (ns.any id)) (shM μ ν)
      | _ => .stuck) _
    rw [bs_sh]
    cases bsL xs <;> trivial
theorem fr_maxF : FrF maxF := fun μ ds ν => by
  rcases ds with _ | ⟨d, _ | ⟨e, _ | ⟨f, l⟩⟩⟩ <;> try trivial
  · have lists : FrO μ (match lstOf (shM μ ν) (d.sh μ.length) with
      | some xs => (match intsL xs with
        | some (i :: r) => Out.ok (D.int (maxL i r)) (shM μ ν)
        | _ => .stuck)
      | none => .stuck) (match lstOf ν d with
      | some xs => (match intsL xs with
        | some (i :: r) => .ok (.int (maxL i r)) ν
        | _ => .stuck)
      | none => .stuck) := by
      rw [lstOf_sh]
      cases lstOf ν d with
      | none => trivial
      | some xs =>
        simp only [Option.map_some, ints_sh]
        rcases intsL xs with _ | ⟨_ | ⟨i, r⟩⟩ <;> trivial
    cases d <;> exact lists
  · cases d <;> try trivial
    cases e <;> trivial
  · cases d <;> try trivial
    cases e <;> trivial
theorem fr_minF : FrF minF := fun μ ds ν => by
  rcases ds with _ | ⟨d, _ | ⟨e, _ | ⟨f, l⟩⟩⟩ <;> try trivial
  · cases d <;> trivial
  · cases d <;> try trivial
    cases e <;> trivial
  · cases d <;> try trivial
    cases e <;> trivial
theorem ty_sh {μ ν : Mu} (T : String) (d : D) : tyD T (shM μ ν) (d.sh μ.length) = tyD T ν d := by
  have lists : (T == "list" && (lstOf (shM μ ν) (d.sh μ.length)).isSome) = (T == "list" && (lstOf ν d).isSome) := by
    rw [lstOf_sh, Option.isSome_map]
  cases d <;> first | exact lists | rfl
theorem fr_xBM (T : String) {g : Fn} {o : XE'} {a : XA} (hg : FrF g) (ho : FrE o) (ha : FrA a) : FrE (xBM T g o a) := fun μ r ν => (ho μ r ν).bind fun d ν1 => by
  show FrO μ (if tyD T (shM μ ν1) (d.sh μ.length) then (a (shR μ.length r) (shM μ ν1)).bind fun ds m2 => g (d.sh μ.length :: ds) m2 else .stuck) _
  rw [ty_sh]
  split
  · exact (ha μ r ν1).bind fun ds ν2 => hg μ (d :: ds) ν2
  · trivial
theorem fr_appF : FrF appF := fun μ ds ν => by
  rcases ds with _ | ⟨d, _ | ⟨e, _ | ⟨f, l⟩⟩⟩ <;> try trivial
  · cases d <;> trivial
  · cases d <;> try trivial
    exact (fr_pushD _ e μ ν).bind fun _ ν1 => rfl
  · cases d <;> trivial
theorem fr_splitF : FrF splitF := fun μ ds ν => by
  rcases ds with _ | ⟨d, _ | ⟨e, _ | ⟨f, l⟩⟩⟩ <;> try trivial
  · cases d <;> trivial
  · cases d <;> try trivial
    cases e <;> try trivial
    unfold splitF
    simp only [D.shL, D.sh]
    split
    · show _ = Out.ok (D.lst (D.shL _ _)) _
      rw [shL_map, List.map_map]
      rfl
    · trivial
  · cases d <;> try trivial
    cases e <;> trivial
theorem tyOf_sh {μ ν : Mu} (d : D) : tyOf (shM μ ν) (d.sh μ.length) = tyOf ν d := by
  have gen : (match insOf (shM μ ν) (d.sh μ.length) with
    | some (c, _) => some (Sum.inr c)
    | none => match ownOf (shM μ ν) (d.sh μ.length) with
      | some _ => some (Sum.inl "list")
      | none => none) = (match insOf ν d with
    | some (c, _) => some (Sum.inr c)
    | none => match ownOf ν d with
      | some _ => some (Sum.inl "list")
      | none => none : Option (String ⊕ Str)) := by
    rw [insOf_sh, ownOf_sh]
    cases insOf ν d with
    | some p => rfl
    | none => cases ownOf ν d <;> rfl
  cases d <;> first | exact gen | rfl
theorem isiB_sh (k : Nat) (cs : List Str) (t : String ⊕ Str) (e : D) : isiB cs t (e.sh k) = isiB cs t e := by
  cases e <;> cases t <;> rfl
theorem fr_isiF (cs : List Str) : FrF (isiF cs) := fun μ ds ν => by
  rcases ds with _ | ⟨d, _ | ⟨e, _ | ⟨f, l⟩⟩⟩ <;> try trivial
  unfold isiF
  simp only [D.shL, tyOf_sh, isiB_sh]
  cases tyOf ν d with
  | none => trivial
  | some t =>
    simp only
    cases isiB cs t e <;> trivial
/-! ### defs -/
theorem fr_exitD (n : Nat) (μ : Mu) (d : D) (ν : Mu) : FrO μ (exitD (μ.length + n) (d.sh μ.length) (shM μ ν)) (exitD n d ν) := by
  unfold exitD
  rw [inB_sh]
  split
  · exact congrArg (Out.ok _) (shM_take n)
  · rename_i hb
    cases d <;> try trivial
    rename_i i
    simp only [D.sh, shM_get]
    cases ν[i]? with
    | none => trivial
    | some c => cases c with
      | lst xs =>
        simp only [Option.map_some, Cell.sh, inL_sh]
        split
        · exact congrArg (Out.ok _) (shM_take n)
        · trivial
      | ins c xs =>
        simp only [Option.map_some, Cell.sh, inF_sh]
        split
        · exact congrArg (Out.ok _) (shM_take n)
        · trivial
      | _ => trivial
theorem rho0_sh (k n : Nat) (ds : List D) : rho0 n (D.shL k ds) = shR k (rho0 n ds) := by
  unfold rho0 shR
  rw [shL_len, shL_map]
  simp
theorem fr_fnOf (n : Nat) (keep : Bool) {g : XS} (hg : FrB g) : FrF (fnOf n keep g) := fun μ ds ν => by
  unfold fnOf
  rw [rho0_sh, shM_len]
  have h := hg μ (rho0 n ds) ν
  cases e : g (rho0 n ds) ν <;> rw [e] at h
  · rw [show g (shR μ.length (rho0 n ds)) (shM μ ν) = _ from h]; exact congrArg (Out.ok _) (shM_take _)
  · rw [show g (shR μ.length (rho0 n ds)) (shM μ ν) = _ from h]
    cases keep
    · exact fr_exitD _ μ _ _
    · rfl
  · trivial
  · trivial
  · rw [show g (shR μ.length (rho0 n ds)) (shM μ ν) = _ from h]
    rename_i c fs r m
    show FrO μ (if D.inF (μ.length + ν.length) (D.shF μ.length fs) then Out.exc c (D.shF μ.length fs) ((shM μ m).take (μ.length + ν.length)) else .stuck) (if D.inF ν.length fs then .exc c fs (m.take ν.length) else .stuck)
    rw [inF_sh]
    split
    · exact congrArg (Out.exc c _) (shM_take _)
    · trivial
  · trivial

/-! ### from the empty store to any -/
mutual
def D.same : D → D → Bool
  | .non, .non => true
  | .bl a, .bl b => a == b
  | .int a, .int b => a == b
  | .str a, .str b => a == b
  | .tup a, .tup b => D.sameL a b
  | .lst a, .lst b => D.sameL a b
  | .obj c a, .obj d b => c == d && D.sameF a b
  | .dct a, .dct b => D.sameF a b
  | _, _ => false
def D.sameL : List D → List D → Bool
  | [], [] => true
  | x :: r, y :: s => D.same x y && D.sameL r s
  | _, _ => false
def D.sameF : List (Str × D) → List (Str × D) → Bool
  | [], [] => true
  | (f, x) :: r, (g, y) :: s => f == g && (D.same x y && D.sameF r s)
  | _, _ => false
end
mutual
theorem D.same_eq : ∀ a b : D, D.same a b = true → a = b := fun a b h => by
  cases a <;> cases b <;> first
    | (simp only [D.same, beq_iff_eq] at h; rw [h])
    | (simp only [D.same] at h; rw [D.sameL_eq _ _ h])
    | (simp only [D.same, Bool.and_eq_true, beq_iff_eq] at h; rw [h.1, D.sameF_eq _ _ h.2])
    | (simp only [D.same] at h; rw [D.sameF_eq _ _ h])
    | rfl
    | (exfalso; exact Bool.noConfusion h)
theorem D.sameL_eq : ∀ a b : List D, D.sameL a b = true → a = b
  | [], [], _ => rfl
  | x :: r, y :: s, h => by
    rw [D.sameL, Bool.and_eq_true] at h
    rw [D.same_eq x y h.1, D.sameL_eq r s h.2]
  | [], _ :: _, h => by simp [D.sameL] at h
  | _ :: _, [], h => by simp [D.sameL] at h
theorem D.sameF_eq : ∀ a b : List (Str × D), D.sameF a b = true → a = b
  | [], [], _ => rfl
  | (f, x) :: r, (g, y) :: s, h => by
    rw [D.sameF, Bool.and_eq_true, Bool.and_eq_true, beq_iff_eq] at h
    rw [h.1, D.same_eq x y h.2.1, D.sameF_eq r s h.2.2]
  | [], (_, _) :: _, h => by simp [D.sameF] at h
  | (_, _) :: _, [], h => by simp [D.sameF] at h
end
/-- the run from nothing ends with d, which holds no place -/
def okIs (o : Out D) (d : D) : Bool := match o with
  | .ok e [] => D.same e d && e.inB 0
  | _ => false
theorem FrF.of {G : Fn} (hG : FrF G) {ds : List D} {d : D} (hd : D.inL 0 ds = true) (h : G ds [] = .ok d []) (hb : d.inB 0 = true) (μ : Mu) : G ds μ = .ok d μ := by
  have q := hG μ ds []
  rw [shL_id _ ds hd, h, shM_nil] at q
  rw [show G ds μ = _ from q, shM_nil]
  show Out.ok (d.sh _) _ = _
  rw [sh_id _ d hb]
theorem FrF.is {G : Fn} (hG : FrF G) {ds : List D} {d : D} (hd : D.inL 0 ds = true) (h : okIs (G ds []) d = true) (μ : Mu) : G ds μ = .ok d μ := by
  unfold okIs at h
  split at h
  · rename_i e he
    rw [Bool.and_eq_true] at h
    cases D.same_eq _ _ h.1
    exact hG.of hd he h.2 μ
  · cases h
end DS

/-! # DSG: ranges with a step, lists of ranges, sorted, two-clause comprehensions. -/
namespace DS
open PySem PySem.Spec PyProof.Rows L2
variable {c : SC} {W : WX} {pos : Pos} {a b e : Expr} {fa fb : XE'} {fr : XA}
def rngC (lo st : Int) (n : Nat) : List D := (List.range n).map fun (i : Nat) => .int (lo + (i : Nat) * st)
def rgB (i j st : Int) : Bool := decide (st ≠ 0 ∧ st.natAbs < 1073741824) && (Builtin.Range.small i j st && decide (0 ≤ Builtin.Range.rangeSize i j st))
def rngD3 (ds : List D) (m : Mu) : Out (List D) := match ds with
  | [.int i, .int j, .int st] => if rgB i j st then .ok (rngC i st (Builtin.Range.rangeSize i j st).toNat) m else .stuck
  | _ => .stuck
def xiRng3 (f : XA) : XA := fun r m => (f r m).bind rngD3
/-! ### list(range(..)) -/
/-- the list, as data; or as a list that will change -/
def frzL (xs : List D) (m : Mu) : Out D := if xs.length ≤ 16777216 then .ok (.lst xs) m else .stuck
def newL (xs : List D) (m : Mu) : Out D := if D.inL m.length xs ∧ xs.length ≤ 16777216 then .ok (.loc m.length) (m ++ [.lst xs]) else .stuck
def xLstR (f : XA) : XE' := fun r m => (f r m).bind frzL
def xNewR (f : XA) : XE' := fun r m => (f r m).bind newL
/-- either of the two -/
structure LKind (k : List D → Mu → Out D) : Prop where
  ok : ∀ {c : SC} {W' : XK} {F : Hp} {al : List Addr} {Q : VK} {m : Mu} {H : Hp} {xs : List D} {vs : List V}, Wd c.K F al m H → RpL c.K F al xs vs → Post c.K (RD c.K) W' F al Q (k xs m) → xs.length ≤ 16777216 ∧ ∀ n, H n = none → Q (.ref n) (upd H n (.lst vs))
theorem rpl_ints {K : PySem.W.Frag} {F : Hp} {al : List Addr} (f : Nat → Int) (ks : List Nat) : RpL K F al (ks.map fun i => D.int (f i)) (ks.map fun i => V.int (f i)) := by
  induction ks with
  | nil => exact .nil
  | cons x r ih => exact .cons (.int _) ih
/-- list(range(i, j, st)) -/
def tLstR3 (ta : TA) : TE := fun σ H Q => ta σ H fun vs H1 => ∃ (i j st : Int) (n : Nat), vs = [.int i, .int j, .int st] ∧ RgC i j st n ∧ n ≤ 2 ^ 24 ∧ ∀ q, H1 q = none → Q (.ref q) (upd H1 q (.lst ((List.range n).map fun k => V.int (i + (k : Nat) * st))))
/-! ### sorted -/
def insI (i : Int) : List Int → List Int
  | [] => [i]
  | j :: r => if i ≤ j then i :: j :: r else j :: insI i r
def sortI : List Int → List Int
  | [] => []
  | i :: r => insI i (sortI r)
def sortF (ds : List D) (m : Mu) : Out D := match ds with
  | [d] => (match lstOf m d with
    | some xs => (match intsL xs with
      | some ns => .ok (.lst ((sortI ns).map .int)) m
      | _ => .stuck)
    | none => .stuck)
  | _ => .stuck
/-! ### comprehensions of two clauses -/
def lcF1 (g1 : XG) (tt1 : XT) (te : XE') (n : Nat) (r1 : Rho) : List D → Mu → Out Unit := lcF g1 tt1 te n r1
def lcG (g : XG) (tt : XT) (fi1 : XA) (vs1 : List Nat) (g1 : XG) (tt1 : XT) (te : XE') (n : Nat) (r0 : Rho) : List D → Mu → Out Unit
  | [], m => .ok () m
  | x :: xs, m => (g x r0 m).ne.bind fun r1 m1 => (tt r1 m1).ne.bind fun b m2 => if b then (fi1 r1 m2).ne.bind fun ys m3 => (lcF g1 tt1 te n (wipeR r1 vs1) ys m3).bind fun _ m4 => lcG g tt fi1 vs1 g1 tt1 te n r0 xs m4 else lcG g tt fi1 vs1 g1 tt1 te n r0 xs m2
def lc2D (g : XG) (tt : XT) (fi1 : XA) (vs1 : List Nat) (g1 : XG) (tt1 : XT) (te : XE') (r0 : Rho) (xs : List D) (m : Mu) : Out D := (lcG g tt fi1 vs1 g1 tt1 te m.length r0 xs (m ++ [.lst []])).bind fun _ m2 => lcEnd m.length m2
def xLc2 (f : XA) (vs : List Nat) (g : XG) (tt : XT) (fi1 : XA) (vs1 : List Nat) (g1 : XG) (tt1 : XT) (te : XE') : XE' := fun r m => (f r m).bind fun xs m1 => lc2D g tt fi1 vs1 g1 tt1 te (wipeR r vs) xs m1
/-! ### frames -/
end DS

/-! # DSI: further rules. -/
namespace DS
open PySem PySem.Spec PyProof.Rows L2
variable {c : SC} {W : WX} {pos : Pos} {a b e : Expr} {fa fb : XE'} {fr : XA}
/-! ### xs[::-1] -/
def revD (d : D) (m : Mu) : Out D := match lstOf m d with
  | some xs => .ok (.lst xs.reverse) m
  | none => .stuck
def xRev (f : XE') : XE' := fun r m => (f r m).bind revD
end DS

/-! # DSJ: global tuples, f-strings, str of an own object. -/
namespace DS
open PySem PySem.Spec PyProof.Rows L2
variable {c : SC} {W : WX} {pos : Pos} {a b e : Expr} {fa fb : XE'} {fr : XA}
/-! ### a tuple of the module -/
def flatIs : D → Value → Bool
  | .int i, .int j _ => decide (i = j)
  | .str x, .str y _ => decide (x = y)
  | .non, .none => true
  | .bl p, .bool q => decide (p = q)
  | _, _ => false
def flatsAre : List D → List Value → Bool
  | [], [] => true
  | d :: ds, v :: vs => flatIs d v && flatsAre ds vs
  | _, _ => false
def tupB (x : Str) (ds : List D) (K : PySem.W.Frag) : Bool := He.eqO (PySem.W.nsIn K mainGlobals x) (some (some (.ref (He.ga K x)))) && (match K.lookup (He.ga K x) with
  | some ⟨cl, _, .seq its _, _⟩ => decide (cl = .type "tuple") && (decide (its.size ≤ sizeLine) && flatsAre ds its.toList)
  | _ => false)
/-! ### tuple(range(..)) -/
def frzT (xs : List D) (m : Mu) : Out D := if xs.length ≤ 16777216 then .ok (.tup xs) m else .stuck
def xTupR (f : XA) : XE' := fun r m => (f r m).bind frzT
theorem frzT_ok {W' : XK} {F : Hp} {al : List Addr} {Q : VK} {m : Mu} {H : Hp} {xs : List D} {vs : List V} (w : Wd c.K F al m H) (q : RpL c.K F al xs vs) (p : Post c.K (RD c.K) W' F al Q (frzT xs m)) : xs.length ≤ 16777216 ∧ ∀ n, H n = none → Q (.ref n) (upd H n (.tup vs)) := by
  unfold frzT at p
  split at p
  · rename_i hl
    exact ⟨hl, fun n hn => p _ _ (upd F n _) al (ext_new (w.fnone hn)) (w.new hn) (.tup (.of upd_same) (q.up (ext_new (w.fnone hn))))⟩
  · exact p.elim
theorem de_tupR1 {p0 p1 pos1 : Pos} (hl : c.mg "tuple" = none) (hm : c.mg "range" = none) (h : DE c W a fa) (hgl : c.sc.names.lookup ("tuple" : Str) = some .globalImplicit := by rfl) (hg : c.sc.names.lookup ("range" : Str) = some .globalImplicit := by rfl)
    (ns : ∀ env, starEach [.Call (.Name "range" p1) [a] [] pos1] env = (false, eval (.Call (.Name "range" p1) [a] [] pos1) env) :: starEach [] env := by intro _; rfl) (hs : ∀ env, starEach [a] env = (false, eval a env) :: starEach [] env := by intro _; rfl) (hcm : c.calm = true := by rfl) :
    DE c W (.Call (.Name "tuple" p0) [.Call (.Name "range" p1) [a] [] pos1] [] pos) (xTupR (xiRng1 (xaCons fa xaNil))) := by
  obtain ⟨t, h1, h2⟩ := h
  refine ⟨tTupRg (tRg1 t), fun y hy => pe_tupRg (X := c.cx y) hcm (hy.gl hgl) hl (prg_1 (hy.gl hg) hm (h1 y hy) (hs _)) (ns _), fun r m σ H F al Q he hw p => ?_⟩
  unfold xTupR xiRng1 xaCons at p
  refine h2 r m σ H F al _ he hw (Post.step p.assoc.assoc fun d m1 v H1 F1 al1 e1 w1 q1 p1 => ?_)
  have p2 : Post c.K (RD c.K) (atS W σ) F1 al1 Q ((rngD1 [d] m1).bind frzT) := p1
  clear p1
  unfold rngD1 at p2
  split at p2
  · rename_i j e
    cases e
    cases q1
    split at p2
    · rename_i hb
      have q := frzT_ok w1 (rpl_ints (K := c.K) (F := F1) (al := al1) (fun i => 0 + (i : Int)) (List.range j.toNat)) p2
      rw [List.length_map, List.length_range] at q
      refine ⟨j, rfl, ⟨by omega, by omega, hb.1, hb.2, by omega⟩, fun n hn => ?_⟩
      have z := q.2 n hn
      unfold rgV
      rw [Int.sub_zero]
      exact z
    · exact p2.elim
  · exact p2.elim
theorem de_tupR2 {p0 p1 pos1 : Pos} (hl : c.mg "tuple" = none) (hm : c.mg "range" = none) (h : DE c W a fa) (h' : DE c W b fb) (hgl : c.sc.names.lookup ("tuple" : Str) = some .globalImplicit := by rfl) (hg : c.sc.names.lookup ("range" : Str) = some .globalImplicit := by rfl)
    (ns : ∀ env, starEach [.Call (.Name "range" p1) [a, b] [] pos1] env = (false, eval (.Call (.Name "range" p1) [a, b] [] pos1) env) :: starEach [] env := by intro _; rfl) (hs : ∀ env, starEach [a, b] env = (false, eval a env) :: starEach [b] env := by intro _; rfl) (hs2 : ∀ env, starEach [b] env = (false, eval b env) :: starEach [] env := by intro _; rfl) (hp : ∀ env, (backTo pos1 (starEach [b] env)).any (·.1) = false := by intro _; rfl) (hcm : c.calm = true := by rfl) :
    DE c W (.Call (.Name "tuple" p0) [.Call (.Name "range" p1) [a, b] [] pos1] [] pos) (xTupR (xiRng2 (xaCons fa (xaCons fb xaNil)))) := by
  obtain ⟨t, h1, h2⟩ := h
  obtain ⟨t', h3, h4⟩ := h'
  refine ⟨tTupRg (tRg2 t t'), fun y hy => pe_tupRg (X := c.cx y) hcm (hy.gl hgl) hl (prg_2 (hy.gl hg) hm (h1 y hy) (h3 y hy) (hs _) (hs2 _) (hp _)) (ns _), fun r m σ H F al Q he hw p => ?_⟩
  unfold xTupR xiRng2 xaCons at p
  refine h2 r m σ H F al _ he hw (Post.step p.assoc.assoc fun d m1 v H1 F1 al1 e1 w1 q1 p1 => ?_)
  have p3 : Post c.K (RD c.K) (atS W σ) F1 al1 Q ((fb r m1).bind fun z m2 => (rngD2 [d, z] m2).bind frzT) := by
    have z := p1.assoc
    cases hb : fb r m1 with
    | ok z' m2 => rw [hb] at z; exact z
    | exc _ _ _ => rw [hb] at z; exact z
    | stuck => rw [hb] at z; exact z
  refine h4 r m1 σ H1 F1 al1 _ (he.up e1) w1 (Post.step p3 fun d2 m2 v2 H2 F2 al2 e2 w2 q2 p2 => ?_)
  · have q1 := Rp.up e2 q1
    unfold rngD2 at p2
    split at p2
    · rename_i i j e
      cases e
      cases q1; cases q2
      split at p2
      · rename_i hb
        have q := frzT_ok w2 (rpl_ints (K := c.K) (F := F2) (al := al2) (fun n => i + (n : Int)) (List.range (j - i).toNat)) p2
        rw [List.length_map, List.length_range] at q
        exact ⟨i, j, rfl, rfl, ⟨hb.1, hb.2.1, hb.2.2.1, hb.2.2.2, by omega⟩, fun n hn => q.2 n hn⟩
      · exact p2.elim
    · exact p2.elim

/-! ### f-strings -/
def fmtD (d : D) (m : Mu) : Out D := match d with
  | .str y => if y.length ≤ sizeLine then .ok (.str y) m else .stuck
  | .int i => if i.natAbs.log2 < 1920 then .ok (.str (toString i)) m else .stuck
  | _ => .stuck
def xFmt (f : XE') : XE' := fun r m => (f r m).bind fmtD
/-- the parts of an f-string, one behind the other -/
abbrev XJ := Str → Rho → Mu → Out Str
def xjNil : XJ := fun acc _ m => .ok acc m
def xjCons (f : XE') (g : XJ) : XJ := fun acc r m => (f r m).bind fun d m1 => match d with
  | .str y => if (acc ++ y).length ≤ sizeLine then g (acc ++ y) r m1 else .stuck
  | _ => .stuck
def RS : Hp → List Addr → Str → Str → Prop := fun _ _ a b => a = b
def DJ (c : SC) (W : WX) (es : List Expr) (f : XJ) : Prop := ∃ ts : List TE, (∀ y, OkD c W y → PJ (c.cx y) es ts) ∧
  ∀ acc r m σ H F al (Q : Str → Hp → Prop), EnvOk c.K F al r σ → Wd c.K F al m H → Post c.K RS (atS W σ) F al Q (f acc r m) → tJs ts acc σ H Q
def xJoin (g : XJ) : XE' := fun r m => (g Str.empty r m).bind fun z m1 => .ok (.str z) m1
/-! ### str(o) by the class's own __str__ -/
def strO (cn : Str) (G : Fn) (ds : List D) (m : Mu) : Out D := match ds with
  | [d] => (match insOf m d with
    | some (c', _) => if c' = cn then (match G [d] m with
      | .ok (.str y) m' => .ok (.str y) m'
      | _ => .stuck) else .stuck
    | none => .stuck)
  | _ => .stuck
end DS

/-! # XB: raise C(e) -/
namespace DS
open PySem PySem.Spec PyProof.Rows L2
/-- C(v) makes an exception with the one field f -/
structure MkX1 (b : Base) (cn f : Str) : Prop where
  kp : PySem.W.keepIn b.K (.ref (He.ga b.K cn)) = true
  exb : PySem.W.subIn b.K (.ref (He.ga b.K cn)) (.type "BaseException") = some true
  tyC : PySem.W.typeIn b.K (.ref (He.ga b.K cn)) = some (.type "type")
  call : ∀ (A : Around) (E : Value → Shared → Prop) (h : Heap) (g : Array GenState) (d : Drawn) (t : Nat) (os : OsState) (mb : Str → Option Value) (v : Value) (Q : Value → Shared → Prop), b.K.In h → h.Ns mainGlobals b.mg → h.Ns builtinsNs mb → mb "super" = some (.type "super") → h.NoLimit →
    (A.under (.builtin "type.__call__" ⟨[.ref (He.ga b.K cn), v], []⟩)).depth < recursionLimit →
    (∀ h' tk' dx t', (∀ b o, h.get? b = some o → h'.get? b = some o) → h.objs.size ≤ dx → dx ≠ h.objs.size + 1 → h'.get? (h.objs.size + 1) = some (PySem.W.excObj (He.ga b.K cn) t' (some dx) .none) → h'.Ns1 dx (fun y => if y = f then some v else none) → Q (.ref (h.objs.size + 1)) ⟨h', g, d, tk', os⟩) →
    wpAny (model b.P b.w) A (call (.ref (He.ga b.K cn)) [v]) Q E ⟨h, g, d, t, os⟩
/-- C() of a class without own __init__ -/
structure MkX0 (b : Base) (cn : Str) : Prop where
  kp : PySem.W.keepIn b.K (.ref (He.ga b.K cn)) = true
  exb : PySem.W.subIn b.K (.ref (He.ga b.K cn)) (.type "BaseException") = some true
  tyC : PySem.W.typeIn b.K (.ref (He.ga b.K cn)) = some (.type "type")
  call : ∀ (A : Around) (E : Value → Shared → Prop) (s : Shared) (Q : Value → Shared → Prop), b.K.In s.heap → (∀ h' e, Heap.MadeExcOf s.heap h' e (.ref (He.ga b.K cn)) [] → Q (.ref e) { s with heap := h' }) → wpAny (model b.P b.w) A (call (.ref (He.ga b.K cn)) []) Q E s
/-- what each of the three bases must have -/
structure BaseOk (B : String) : Prop where
  fb : ExcBaseFacts B (B ++ ".__new__") (B ++ ".__init__") (exTl B)
  kf : PySem.W.KxsFacts B (B ++ ".__init__")
  sf : StoreFacts B (exTl B) "object.__setattr__" "object"
/-- __init__(self, f): super().__init__(); self.f = f -/
structure Ini1 (d : XiD) (ar : Arg) (p0 p1 p2 p3 p4 q0 q1 q2 q3 : Pos) : Prop where
  body : d.body = [.Expr (.Call (.Attribute (.Call (.Name "super" p0) [] [] p1) "__init__" p2) [] [] p3) p4, .Assign [.Attribute (.Name ar.arg q0) d.f q1] (.Name d.f q2) q3]
  hp : (d.params.posonlyargs ++ d.params.args).head? = some ar
  hks : d.scope.names.lookup ("super" : Str) = some .globalImplicit
  hkc : d.scope.names.lookup ("__class__" : Str) = some .free
  hka : d.scope.names.lookup ar.arg = some .local
  hkf : d.scope.names.lookup d.f = some .local
  hk : d.scope.kind = .function
  hcl : ∀ x ∈ d.scope.names, x.2 ≠ .cell
  hco : d.scope.isCoroutine = false
  hgen : d.scope.isGenerator = false
  hne : ar.arg ≠ d.f
  hd0 : (ar.arg == ("__debug__" : Str)) = false
  hd1 : (d.f == ("__debug__" : Str)) = false
  hi : ∀ (L fI cda cc : Addr), interactive (PySem.W.ksEnv d.qual d.scope L fI (.ref cda) cc) = false
  hsw : ∀ (L fI cda cc : Addr), swapsWith (.Name d.f q2) (some (.Attribute (.Name ar.arg q0) d.f q1)) q3.line (PySem.W.ksEnv d.qual d.scope L fI (.ref cda) cc) = pure false
  hev : ∀ (L fI cda cc : Addr), ∃ pl : Sem Bool, eval (.Call (.Attribute (.Call (.Name "super" p0) [] [] p1) "__init__" p2) [] [] p3) (PySem.W.ksEnv d.qual d.scope L fI (.ref cda) cc) = (do
      let ov ← attributeBase (.Call (.Name "super" p0) [] [] p1) "__init__" (PySem.W.ksEnv d.qual d.scope L fI (.ref cda) cc) (eval (.Call (.Name "super" p0) [] [] p1) (PySem.W.ksEnv d.qual d.scope L fI (.ref cda) cc))
      standAt p2.atName
      let (f, first) ← holding [ov] (getMethod ov "__init__" pl)
      callWith p3 f first (backTo p3 (starEach [] (PySem.W.ksEnv d.qual d.scope L fI (.ref cda) cc))) [])
  hbd : ∀ (s : Shared) (u w : Value) (body : List Stmt) (kV doc pm : Value) (an : Option Addr) (cdv ct : Value) (cc : Addr), BindsTo s (PySem.W.ksFn "__init__" d.qual d.params body d.scope .none kV doc pm an cdv ct cc) ⟨[u, w], []⟩ [(ar.arg, u), (d.f, w)]
section
variable {c : SC} {W : WX} {pos pos' p0 : Pos} {e : Expr} {fe : XE'} {x cn f : Str}
def sRaise (cn f : Str) (a : XE') : XS := fun r m => (a r m).stm r fun d m1 => .exc cn [(f, d)] r m1
def sRaise0 (cn : Str) : XS := fun r m => .exc cn [] r m
end
end DS

/-! # XC: try, any clauses -/
namespace DS
open PySem PySem.Spec PyProof.Rows L2
/-- the test of a clause: t names the classes, an exception of the class cl is met or not -/
def Tst (X : Cx) (t : Expr) (cl : Value) (yes : Bool) : Prop := ∀ (x : Addr) (pn pins : List (Addr × Obj)) (σ : L2.St) (H : Hp) (s : Shared) (Q : Bool → Shared → Prop) (E : Value → Shared → Prop), Inv (X.suite x pn) pins σ H s → PySem.W.Looks (model X.prog X.w) s.heap (typeOf (.ref x)) cl →
  (∀ G, (∀ b o, s.heap.get? b = some o → G.get? b = some o) → Q yes { s with heap := G }) → wpAny (model X.prog X.w) (X.A.mark (some (.ref x))) (eval t X.env) (fun c s1 => wpAny (model X.prog X.w) (X.A.mark (some (.ref x))) (excMatches (.ref x) c) Q E s1) E s
abbrev TSu := Addr → Obj → Value → Option Addr → TS
abbrev Hd1 := (Value → Option Bool) × Option Nat × TSu
def unS (i : Nat) (D : Ends) : Ends := { nx := fun σ H => D.nx (σ.set i none) H, rt := D.rt, bk := fun σ H => D.bk (σ.set i none) H, ct := fun σ H => D.ct (σ.set i none) H }
def wX (Wo : WX) (D : Ends) : List Hd1 → WX
  | [] => Wo
  | (tst, oi, ts) :: r => fun cl d σ H => ∃ yes, tst cl = some yes ∧ (yes = true → ∀ (x : Addr) (ob : Obj), H x = none → Zc cl d ob → (∃ vs, ob.data = .fields vs) → match oi with
      | none => ts x ob cl d D σ H
      | some i => ts x ob cl d (unS i D) (σ.set i (some (.ref x))) H) ∧ (yes = false → wX Wo D r cl d σ H)
inductive HdX (X : Cx) : List ExceptHandler → List Hd1 → Prop
  | nil : HdX X [] []
  | plain {t : Expr} {tst : Value → Option Bool} {ts : TSu} {st : Stmt} {sts : List Stmt} {pos : Pos} {hs : List ExceptHandler} {l : List Hd1} (ht : ∀ cl yes, tst cl = some yes → Tst X t cl yes)
      (hsu : ∀ (x : Addr) (ob : Obj) (cl : Value) (d : Option Addr) (pn : List (Addr × Obj)), Zc cl d ob → (∃ vs, ob.data = .fields vs) → PSs (X.suite x ((x, ob) :: pn)) (st :: sts) (ts x ob cl d)) (r : HdX X hs l) :
      HdX X (.ExceptHandler (some t) none (st :: sts) pos :: hs) ((tst, none, ts) :: l)
  | named {t : Expr} {n : Str} {i : Nat} {tst : Value → Option Bool} {ts : TSu} {st : Stmt} {sts : List Stmt} {pos : Pos} {hs : List ExceptHandler} {l : List Hd1} (ht : ∀ cl yes, tst cl = some yes → Tst X t cl yes) (hN : X.N.Nodup) (hi : X.N[i]? = some n) (hl : X.env.kindOf n = some .local)
      (hsu : ∀ (x : Addr) (ob : Obj) (cl : Value) (d : Option Addr) (pn : List (Addr × Obj)), Zc cl d ob → (∃ vs, ob.data = .fields vs) → PSs (X.suite x ((x, ob) :: pn)) (st :: sts) (ts x ob cl d)) (r : HdX X hs l) :
      HdX X (.ExceptHandler (some t) (some n) (st :: sts) pos :: hs) ((tst, some i, ts) :: l)
section
variable {X : Cx} {body : List Stmt} {h1 : ExceptHandler} {hs : List ExceptHandler} {l : List Hd1} {pos : Pos} {tb : WX → TS} {Wo : WX}
end
end DS

/-! # XD: try over data; what a suite does with the exception -/
namespace DS
open PySem PySem.Spec PyProof.Rows L2
/-! ### the table of the exception classes: own ancestors (itself too), built-in ones -/
abbrev ExT := List (Str × List Str × List String)
def ExT.own (T : ExT) (c d : Str) : Bool := match T.lookup c with
  | some (a, _) => a.contains d
  | none => false
def ExT.blt (T : ExT) (c : Str) (n : String) : Bool := match T.lookup c with
  | some (_, a) => a.contains n
  | none => false
abbrev ExT.nm (T : ExT) : List Str := T.map (·.1)
structure XtOk (K : PySem.W.Frag) (T : ExT) (fs : List Str) (bs : List String) : Prop where
  exm : ∀ c ∈ T.nm, ∀ d ∈ T.nm, PySem.W.exmOne K (.ref (He.ga K c)) (.ref (He.ga K d)) = some (T.own c d)
  kit : ∀ c ∈ T.nm, ∀ d ∈ T.nm, PySem.W.kitOne K (.ref (He.ga K c)) (.ref (He.ga K d)) = some (T.own c d)
  ktb : ∀ c ∈ T.nm, ∀ n ∈ bs, PySem.W.kitOne K (.ref (He.ga K c)) (.type n) = some (T.blt c n)
  xf : ∀ c ∈ T.nm, XfC K (He.ga K c)
  fld : ∀ c ∈ T.nm, ∀ f ∈ fs, PySem.W.findIn K (.ref (He.ga K c)) f = some none
  ha : ∀ c ∈ T.nm, PySem.W.findIn K (.ref (He.ga K c)) "__class__" = some (some (.builtin "object.__class__"))
  hm : ∀ c ∈ T.nm, PySem.W.mroIn K (He.ga K c) (.type "object") = some true
  hn : PySem.W.specialIn K (.builtin "object.__class__") "__get__" = some (some (.builtin "getset_descriptor.__get__"))
  ht : PySem.W.takesIn K (.builtin "object.__class__") = some true
def xtB (T : ExT) (fs : List Str) (bs : List String) (K : PySem.W.Frag) : Bool :=
  (T.nm.all fun c => T.nm.all fun d => decide (PySem.W.exmOne K (.ref (He.ga K c)) (.ref (He.ga K d)) = some (T.own c d))) && ((T.nm.all fun c => T.nm.all fun d => decide (PySem.W.kitOne K (.ref (He.ga K c)) (.ref (He.ga K d)) = some (T.own c d))) &&
  ((T.nm.all fun c => bs.all fun n => decide (PySem.W.kitOne K (.ref (He.ga K c)) (.type n) = some (T.blt c n))) && ((T.nm.all fun c => xfB K (He.ga K c)) && ((T.nm.all fun c => fs.all fun f => decide (PySem.W.findIn K (.ref (He.ga K c)) f = some none)) &&
  ((T.nm.all fun c => decide (PySem.W.findIn K (.ref (He.ga K c)) "__class__" = some (some (.builtin "object.__class__")))) && ((T.nm.all fun c => decide (PySem.W.mroIn K (He.ga K c) (.type "object") = some true)) &&
  (decide (PySem.W.specialIn K (.builtin "object.__class__") "__get__" = some (some (.builtin "getset_descriptor.__get__"))) && decide (PySem.W.takesIn K (.builtin "object.__class__") = some true))))))))
/-! ### the context of a suite -/
def SC.hot (c : SC) (k : Hx) (ob : Obj) : SC := { c with calm := false, hx := some (k, ob), me := none }
def hotD (y : Dyn) (x : Addr) (pn : List (Addr × Obj)) : Dyn := { y with A := y.A.mark (some (.ref x)), pn := pn, xe := fun _ _ => False }
theorem OkD.hot {c : SC} {W : WX} {y : Dyn} {k : Hx} {ob : Obj} {pn : List (Addr × Obj)} (hy : OkD c W y) (hm : (k.x, ob) ∈ pn) (h1 : ob.cls = .ref (He.ga c.K k.c)) (h2 : ob.dict = k.dd) (h3 : ∃ vs, ob.data = .fields vs) : OkD (c.hot k ob) noW (hotD y k.x pn) := by
  refine ⟨hy.scope, ⟨hy.room.dp, hy.room.un⟩, (fun z => Bool.noConfusion (show false = true from z)), ?_, hy.fn, hy.gd, PassesOwn.never, (fun k' ob' e => ?_), hy.df, (fun _ z => nomatch z), fun z => ⟨(hy.rj z).dp, (hy.rj z).un⟩⟩
  · rintro u s' ⟨a, B, sI, pins, σ, H, cls, d, e, I, nb, up, sky, na, os, ag, w⟩
    exact w.elim
  · have e' : (k, ob) = (k', ob') := Option.some.inj e
    cases e'
    exact ⟨hm, h1, h2, h3⟩
/-! ### outcomes of suites -/
def SO.ne : SO → SO
  | .exc _ _ _ _ => .stuck
  | o => o
def SO.un (i : Nat) : SO → SO
  | .next r m => .next (r.set i none) m
  | .brk r m => .brk (r.set i none) m
  | .cont r m => .cont (r.set i none) m
  | .ret d m => .ret d m
  | .exc _ _ _ _ => .stuck
  | .stuck => .stuck
abbrev HdF := List Str × Option Nat × (Hx → XS)
def tryH (T : ExT) (c : Str) (fs : List (Str × D)) (r : Rho) (m : Mu) : List HdF → SO
  | [] => .exc c fs r m
  | (cns, oi, fh) :: l => if c ∈ T.nm then (if cns.any (T.own c) then (match oi with
      | none => (fh ⟨0, none, c⟩ r m).ne
      | some i => (fh ⟨0, none, c⟩ (r.set i (some (.exn ⟨0, none, c⟩ fs))) m).un i) else tryH T c fs r m l) else .stuck
def sTry (T : ExT) (body : XS) (l : List HdF) : XS := fun r m => match body r m with
  | .exc c fs r' m' => tryH T c fs r' m' l
  | o => o
/-- the suite does not look where the exception lies -/
def IvN (fh : Hx → XS) : Prop := ∀ (k k' : Hx) (r : Rho) (m : Mu), k.c = k'.c → (fh k r m).ne = (fh k' r m).ne
def IvE (i : Nat) (fh : Hx → XS) : Prop := ∀ (k k' : Hx) (fs : List (Str × D)) (r : Rho) (m : Mu), k.c = k'.c → (fh k (r.set i (some (.exn k fs))) m).un i = (fh k' (r.set i (some (.exn k' fs))) m).un i
/-- t names the classes cns -/
def CtOk (c : SC) (T : ExT) (t : Expr) (cns : List Str) : Prop := ∃ tst : Value → Option Bool, (∀ (W : WX) (y : Dyn), OkD c W y → ∀ cl yes, tst cl = some yes → Tst (c.cx y) t cl yes) ∧ ∀ n ∈ T.nm, tst (.ref (He.ga c.K n)) = some (cns.any (T.own n))
inductive DHs (c : SC) (T : ExT) : List ExceptHandler → List HdF → Prop
  | nil : DHs c T [] []
  | plain {t : Expr} {cns : List Str} {fh : Hx → XS} {st : Stmt} {sts : List Stmt} {pos : Pos} {hs : List ExceptHandler} {l : List HdF} (ht : CtOk c T t cns) (hf : ∀ k ob, DSs (c.hot k ob) noW (st :: sts) (fh k)) (hi : IvN fh) (r : DHs c T hs l) :
      DHs c T (.ExceptHandler (some t) none (st :: sts) pos :: hs) ((cns, none, fh) :: l)
  | named {t : Expr} {cns : List Str} {n : Str} {i : Nat} {fh : Hx → XS} {st : Stmt} {sts : List Stmt} {pos : Pos} {hs : List ExceptHandler} {l : List HdF} (ht : CtOk c T t cns) (hN : c.N.Nodup) (hn : c.N[i]? = some n) (hl : c.sc.names.lookup n = some .local) (hf : ∀ k ob, DSs (c.hot k ob) noW (st :: sts) (fh k)) (hi : IvE i fh) (r : DHs c T hs l) :
      DHs c T (.ExceptHandler (some t) (some n) (st :: sts) pos :: hs) ((cns, some i, fh) :: l)
section
variable {c : SC} {W : WX} {T : ExT} {pos : Pos}
/-! ### except C, except (C, ..) -/
/-! ### e.f, isinstance(e, C) -/
def xExF (k0 : Hx) (T : ExT) (f : Str) (a : XE') : XE' := fun r m => (a r m).bind fun d m1 => match d with
  | .exn k gs => if k = k0 ∧ k.c ∈ T.nm then (match gs.lookup f with
    | some v => .ok v m1
    | none => .stuck) else .stuck
  | _ => .stuck
end
end DS

/-! # XE: isinstance of the handled exception; defs called with it -/
namespace DS
open PySem PySem.Spec PyProof.Rows L2
section
variable {c : SC} {W : WX} {T : ExT} {pos : Pos}
def isiX (k0 : Hx) (T : ExT) (bs : List String) (ds : List D) (m : Mu) : Out D := match ds with
  | [.exn k _, .glo d] => if k = k0 ∧ k.c ∈ T.nm ∧ d ∈ T.nm then .ok (.bl (T.own k.c d)) m else .stuck
  | [.exn k _, .ty n] => if k = k0 ∧ k.c ∈ T.nm ∧ n ∈ bs then .ok (.bl (T.blt k.c n)) m else .stuck
  | _ => .stuck
/-! ### a def that is called with the exception that is handled -/
/-- what it promises while ob (at k.x) is handled -/
structure FnX (b : Base) (n : Nat) (f : Addr) (fd : FuncData) (ps : List Str) (G : Hx → Fn) : Prop where
  run : ∀ (k : Hx) (ob : Obj) (A : Around) (out : List Env) (s : Shared) (H : Hp) (ar : Args) (us : List Value) (vs : List V) (Q : VK), L2H.RoomH n A → A.guards = some [] → L2H.PinOk out H s (k.x, ob) → ob.cls = .ref (He.ga b.K k.c) → ob.dict = k.dd → (∃ vs, ob.data = .fields vs) → Env0 b.P b.w b.K b.mg b.base A out s H → BindsTo s fd ar (ps.zip us) → Vals vs us →
    spOf b.K ps.length (G k) vs H Q (fun _ _ _ => False) → codeAny (model b.P b.w) A (.call (.ref f) ar) (CR (L2.CX b.P b.w) out b.P b.w H s Q (fun _ _ _ => False)) s
abbrev Base.hotAt (b : Base) (N : List Str) (sc : Scope) (n : Nat) (k : Hx) (ob : Obj) : SC := ⟨b.P, b.w, b.K, b.mg, b.base, N, sc, n, fun _ => true, true, false, some (k, ob), true, none, 0⟩
def xCallX (G : Fn) (a : XA) : XE' := fun r m => ((a r m).bind G).ne
end
end DS

/-! # XF: g(lambda: e), where g begins with try: x = a() -/
namespace DS
open PySem PySem.Spec PyProof.Rows L2
/-! ### the store behind a new code object -/
section
variable {K : PySem.W.Frag} {F H H1 : Hp} {al : List Addr} {m : Mu}
/-- the tables of a store -/
def tabsOf (K : PySem.W.Frag) : Mu → List (Addr × Str)
  | [] => []
  | .tab x :: r => (tabP K x, lamQ x) :: tabsOf K r
  | _ :: r => tabsOf K r
theorem mem_tabs {x : Str} : ∀ {m : Mu} {n : Nat}, m[n]? = some (.tab x) → (tabP K x, lamQ x) ∈ tabsOf K m
  | [], n, h => by simp at h
  | c :: r, 0, h => by
    have e : c = .tab x := Option.some.inj h
    subst e
    exact List.mem_cons_self
  | c :: r, n + 1, h => by
    have ih := mem_tabs (m := r) (n := n) (by simpa using h)
    cases c <;> first | exact ih | exact List.mem_cons_of_mem _ ih
theorem tabs_mem : ∀ {m : Mu} {p : Addr × Str}, p ∈ tabsOf K m → ∃ (n : Nat) (x : Str), m[n]? = some (Cell.tab x) ∧ p = (tabP K x, lamQ x)
  | [], p, h => nomatch h
  | c :: r, p, h => by
    have up : p ∈ tabsOf K r → ∃ (n : Nat) (x : Str), (c :: r)[n]? = some (Cell.tab x) ∧ p = (tabP K x, lamQ x) := fun z =>
      let ⟨n, x, h1, h2⟩ := tabs_mem z; ⟨n + 1, x, by simpa using h1, h2⟩
    cases c with
    | tab x =>
      rcases List.mem_cons.mp h with z | z
      · exact ⟨0, x, rfl, z⟩
      · exact up z
    | _ => exact up h
theorem Wd.tabs (w : Wd K F al m H) : LamX.Tabs (tabsOf K m) H := fun p hp => by
  obtain ⟨n, x, h1, rfl⟩ := tabs_mem hp
  have hn : n < al.length := by rw [w.len]; exact (List.getElem?_eq_some_iff.mp h1).1
  obtain ⟨⟨_, e⟩, ps, h2, h3, h4⟩ := w.cell n _ _ (List.getElem?_eq_getElem hn) h1
  refine ⟨ps, by rw [← e]; exact h2, h3, fun pos cv hc => ?_⟩
  obtain ⟨c, e1, e2⟩ := h4 pos cv hc
  exact ⟨c, e1, w.sub _ _ e2⟩
open Classical in
theorem Wd.lam (w : Wd K F al m H) (ex : LamX.ExtN H H1) (tb : LamX.Tabs (tabsOf K m) H1) : ∃ F1, Le F al F1 al ∧ Wd K F1 al m H1 ∧ ∀ c q, H1 c = some (LamX.CodeO c q) → F1 c = some (LamX.CodeO c q) := by
  let F1 : Hp := fun a => match F a with
    | some o => some o
    | none => if ∃ q, H1 a = some (LamX.CodeO a q) then H1 a else none
  have f1 : ∀ a o, F a = some o → F1 a = some o := fun a o e => by show (match F a with | some o => some o | none => _) = _; rw [e]
  have f2 : ∀ a, F a = none → F1 a = if ∃ q, H1 a = some (LamX.CodeO a q) then H1 a else none := fun a e => by show (match F a with | some o => some o | none => _) = _; rw [e]
  have up : ∀ a o, H a = some o → (∀ ps, o ≠ .tbl ps) → H1 a = some o := fun a o e n => ex a o e n
  have sub : ∀ a o, F1 a = some o → H1 a = some o := fun a o e => by
    cases q : F a with
    | some u =>
      rw [f1 a u q] at e
      cases e
      exact up a _ (w.sub a _ q) fun ps z => w.nt a ps (by rw [q, z])
    | none =>
      rw [f2 a q] at e
      split at e
      · exact e
      · cases e
  have code : ∀ c q, H1 c = some (LamX.CodeO c q) → F1 c = some (LamX.CodeO c q) := fun c q e => by
    cases z : F c with
    | some u =>
      have h := sub c u (f1 c u z)
      rw [e] at h
      cases h
      exact f1 c _ z
    | none => rw [f2 c z, if_pos ⟨q, e⟩]; exact e
  have free : ∀ a o, F a = none → H1 a = some o → (∀ c q, o ≠ LamX.CodeO c q) → F1 a = none := fun a o e h n => by
    rw [f2 a e, if_neg]
    rintro ⟨q, z⟩
    rw [h] at z
    exact n _ _ (Option.some.inj z)
  have le : Le F al F1 al := ⟨f1, fun _ _ e => e⟩
  refine ⟨F1, le, ⟨sub, w.len, w.nd, fun n a c h1 h2 => ?_, w.gen, fun a ha => ?_, fun a ps z => ?_⟩, code⟩
  · have hc := w.cell n a c h1 h2
    cases c with
    | lst ds =>
      obtain ⟨z, vs, e1, e2⟩ := hc
      have e3 := up a _ e1 fun ps z => by cases z
      exact ⟨free a _ z e3 fun c q z => (by unfold LamX.CodeO at z; cases z), vs, e3, e2.up le⟩
    | ins cn gs =>
      obtain ⟨z, dx, fs, e1, e2⟩ := hc
      have e3 := up a _ e1 fun ps z => by cases z
      exact ⟨free a _ z e3 fun c q z => (by unfold LamX.CodeO at z; cases z), dx, fs, e3, e2.up le⟩
    | dct gs =>
      obtain ⟨z, fs, e1, e2⟩ := hc
      have e3 := up a _ e1 fun ps z => by cases z
      exact ⟨free a _ z e3 fun c q z => (by unfold LamX.CodeO at z; cases z), fs, e3, e2.up le⟩
    | dead => exact let ⟨o, z⟩ := hc; ⟨o, f1 a o z⟩
    | dtt gs =>
      obtain ⟨z, ks, e1, ek, e2⟩ := hc
      have e3 := up a _ e1 fun ps z => by cases z
      exact ⟨free a _ z e3 fun c q z => (by unfold LamX.CodeO at z; cases z), ks, e3, ek, e2.up le⟩
    | opn xs h0 ls =>
      obtain ⟨z, vs, p, q, hv, ws, e1, e2, e3, e4, e5, e6, e7⟩ := hc
      have x1 := up a _ e1 fun ps z => by cases z
      have x6 := up q _ e6 fun ps z => by cases z
      exact ⟨free a _ z x1 fun c q z => (by unfold LamX.CodeO at z; cases z), vs, p, q, hv, ws, x1, e2.up le, f1 _ _ e3, e4.up le, ⟨free q _ e5.1 x6 fun c q z => (by unfold LamX.CodeO at z; cases z), e5.2⟩, x6, e7.up le⟩
    | tab x =>
      obtain ⟨⟨z, e⟩, _⟩ := hc
      obtain ⟨ps, t1, t2, t3⟩ := tb _ (mem_tabs h2)
      have t1 : H1 (tabP K x) = some (.tbl ps) := t1
      rw [← e] at t1
      refine ⟨⟨free a _ z t1 fun c q z => (by unfold LamX.CodeO at z; cases z), e⟩, ps, t1, t2, fun pos cv hc => ?_⟩
      obtain ⟨c, e1, e2⟩ := t3 pos cv hc
      exact ⟨c, e1, code c _ e2⟩
  · cases q : H a with
    | none => exact absurd q (w.tr a ha)
    | some o =>
      by_cases hq : ∃ ps, o = .tbl ps
      · obtain ⟨ps, rfl⟩ := hq
        obtain ⟨n, hn, hn'⟩ := List.mem_iff_getElem.mp ha
        have h1 : al[n]? = some a := by rw [List.getElem?_eq_getElem hn, hn']
        have hm : n < m.length := by rw [← w.len]; exact hn
        have hc := w.cell n a _ h1 (List.getElem?_eq_getElem hm)
        cases e : m[n] with
        | tab x =>
          rw [e] at hc
          obtain ⟨⟨_, e1⟩, _⟩ := hc
          obtain ⟨ps', t1, _⟩ := tb _ (mem_tabs (by rw [List.getElem?_eq_getElem hm, e]))
          have t1 : H1 (tabP K x) = some (.tbl ps') := t1
          rw [e1, t1]
          simp
        | lst _ => rw [e] at hc; obtain ⟨_, _, e1, _⟩ := hc; rw [q] at e1; cases e1
        | ins _ _ => rw [e] at hc; obtain ⟨_, _, _, e1, _⟩ := hc; rw [q] at e1; cases e1
        | dct _ => rw [e] at hc; obtain ⟨_, _, e1, _⟩ := hc; rw [q] at e1; cases e1
        | opn _ _ _ => rw [e] at hc; obtain ⟨_, _, _, _, _, _, e1, _⟩ := hc; rw [q] at e1; cases e1
        | dtt _ => rw [e] at hc; obtain ⟨_, _, e1, _⟩ := hc; rw [q] at e1; cases e1
        | dead =>
          rw [e] at hc
          obtain ⟨o, e1⟩ := hc
          rw [sub a o (f1 a o e1)]
          simp
      · rw [up a o q fun ps z => hq ⟨ps, z⟩]
        simp
  · have h := sub a _ z
    cases q : F a with
    | some u =>
      rw [f1 a u q] at z
      exact w.nt a ps (by rw [q]; exact z)
    | none =>
      rw [f2 a q] at z
      split at z
      · rename_i hq
        obtain ⟨r, hr⟩ := hq
        rw [hr] at z
        unfold LamX.CodeO at z
        cases z
      · cases z
end
/-! ### the lambda is called in the def that got it -/
section
variable {X : Cx} {pins : List (Addr × Obj)} {σ : L2.St} {H : Hp} {s : Shared}
end
/-! ### x = a(), a() -/
/-- a statement that calls a() and keeps what it gives in slot j, or nowhere -/
def upJ {α : Type} (j : Option Nat) (σ : List (Option α)) (v : α) : List (Option α) := match j with
  | some j => σ.set j (some v)
  | none => σ
def Cal (Ng : List Str) (sg : Scope) (call : Expr) (st0 : Stmt) (j : Option Nat) : Prop := ∀ (X : Cx) (te : TE), X.N = Ng → X.env.scope = sg → (∀ x, X.fn x = true) → PE X call te → PS X st0 (fun D σ H => te σ H fun v H' => D.nx (upJ j σ v) H')
/-! ### g(lambda: e) -/
def lamG (T : ExT) (n : Nat) (j : Option Nat) (l : List HdF) (rest : XS) (act : Mu → Out D) (m : Mu) : Out D :=
  match (match act m with
    | .ok d m1 => rest (upJ j (List.replicate n none) d) m1
    | .exc c fs m1 => (match tryH T c fs (List.replicate n none) m1 l with
      | .next r m2 => rest r m2
      | o => o)
    | .stuck => .stuck) with
  | .ret d m' => exitD m.length d m'
  | .next _ m' => .ok .non (m'.take m.length)
  | _ => .stuck
def xLam (i : Nat) (me : Str) (T : ExT) (n : Nat) (j : Option Nat) (l : List HdF) (rest : XS) (fb : XE') : XE' := fun r m => match m[i]? with
  | some (.tab z) => if z = me then lamG T n j l rest (fb r) m else .stuck
  | _ => .stuck
def SC.lam (c : SC) (scope : Scope) (k : Nat) : SC := { c with sc := scope, k := k, fnB := fun _ => false, calm := true, hx := none, df := true, me := none, j := 0 }
theorem EnvOk.upJ {K : PySem.W.Frag} {F : Hp} {al : List Addr} {r : Rho} {σ : L2.St} {d : D} {v : V} (h : EnvOk K F al r σ) (j : Option Nat) (q : Rp K F al d v) : EnvOk K F al (upJ j r d) (upJ j σ v) := by
  cases j with
  | none => exact h
  | some j => exact h.set j q
section
variable {c : SC} {W : WX} {T : ExT} {pos : Pos}
end
end DS

/-! # XG: defs that make lambdas; the law is called -/
namespace DS
open PySem PySem.Spec PyProof.Rows L2
abbrev Base.atL (b : Base) (N : List Str) (sc : Scope) (k : Nat) (x : Str) : SC := ⟨b.P, b.w, b.K, b.mg, b.base, N, sc, k, fun _ => true, true, true, none, true, some x, 0⟩
/-! ### the law is called -/
def mu0 (tb : List Str) : Mu := tb.map Cell.tab
theorem enterT {L : Tl} {P : Program} {w : World} {K : PySem.W.Frag} {mg mb : Str → Option Value} {k : Nat} {fa a : Addr} {fd : FuncData} {x : Str} {G : Fn} {s1 : Shared} {vs : List Value} {ns : List Int}
    (KX : K.In s1.heap) (sy : SaysM L K) (tb : ∀ z ∈ L.tb, s1.heap.get? (tabP K z) = some (PySem.W.tabObj #[])) (hns : s1.heap.Ns mainGlobals mg) (hb : s1.heap.Ns builtinsNs mb) (hbb : ∀ x : Str, x ≠ "__name__" → mb x = bootBuiltins x) (hlim : s1.heap.NoLimit) (hg : s1.gens = #[])
    (hbm : L.tb ≠ [] → ∃ (bm : Addr) (ob : Obj), mg "__builtins__" = some (.ref bm) ∧ bm ≠ builtinsNs ∧ s1.heap.get? bm = some ob ∧ ob.cls = .type "module" ∧ ob.dict = some builtinsNs ∧ ob.data = .plain)
    (ha : s1.heap.get? a = some { cls := .type "list", data := .seq vs.toArray }) (hi : IntsAre vs ns) (hl : ns.length ≤ sizeLine) (hr : Room k callerA)
    (hF : ∀ base : Heap, K.In base → base.Ns mainGlobals mg → (∀ z ∈ L.tb, LamX.TabB base mg (tabC K z) (tabP K z)) → FnG ⟨P, w, K, mg, base⟩ k fa fd [x] G) (hbd : ∀ (s : Shared) (u : Value), BindsTo s fd ⟨[u], []⟩ [(x, u)])
    (hG : ∃ m', G [.fix (ns.map .int)] (mu0 L.tb) = .ok (.bl true) m') :
    codeAny (model P w) callerA (.call (.ref fa) ⟨[.ref a], []⟩) (fun r s' => r = .ok (.ret (.bool true)) ∧ OldK s1.heap s'.heap ∧ s'.os = s1.os ∧ AllBare s'.gens) s1 := by
  have rv := vals_ints hi
  have lenV := hi.length
  obtain ⟨m', hG⟩ := hG
  let PS := L.tb.map (tabP K)
  have isT : ∀ b ∈ PS, s1.heap.get? b = some (PySem.W.tabObj #[]) := fun b hb => by
    obtain ⟨z, hz, e⟩ := List.mem_map.mp hb
    rw [← e]
    exact tb z hz
  have noK : ∀ b ∈ PS, K.lookup b = none := fun b hb => by
    obtain ⟨z, hz, e⟩ := List.mem_map.mp hb
    obtain ⟨_, h2⟩ := He.ba (sy.tb z hz)
    obtain ⟨_, h3⟩ := He.ba h2
    rw [← e]
    cases q : K.lookup (tabP K z) with
    | none => rfl
    | some o => rw [q] at h3; cases h3
  have hdC : ∀ z ∈ L.tb, PySem.W.CodeHd s1.heap (tabC K z) (tabP K z) := fun z hz => by
    obtain ⟨_, h2⟩ := He.ba (sy.tb z hz)
    obtain ⟨h3, _⟩ := He.ba h2
    exact PySem.W.codeHd_of_K KX h3
  have aT : a ∉ PS := fun z => by
    have q := isT a z
    rw [ha] at q
    have z' : Data.seq vs.toArray _ = Data.fields #[] := congrArg Obj.data (Option.some.inj q)
    cases z'
  -- HA: what is known of the script's list alone
  have core : ∀ HA : Hp, (∀ (q : Addr) (u : HO), HA q = some u → q = a ∧ ∃ o xs, u = .frz o (.lst xs)) → SqL K HA a (ns.map V.int) → HOk P w HA s1.heap → (HA a ≠ none → K.lookup a = none) →
      codeAny (model P w) callerA (.call (.ref fa) ⟨[.ref a], []⟩) (fun r s' => r = .ok (.ret (.bool true)) ∧ OldK s1.heap s'.heap ∧ s'.os = s1.os ∧ AllBare s'.gens) s1 := by
    intro HA hone hS hok hK
    let H : Hp := fun b => if b ∈ PS then some (.tbl #[]) else HA b
    have hT : ∀ b, b ∈ PS → H b = some (.tbl #[]) := fun b hb => if_pos hb
    have hN : ∀ b, b ∉ PS → H b = HA b := fun b hb => if_neg hb
    have nA : ∀ b ∈ PS, HA b = none := fun b hb => by
      cases q : HA b with
      | none => rfl
      | some u => exact absurd hb ((hone b u q).1 ▸ aT)
    have sub : ∀ b o, HA b = some o → H b = some o := fun b o e => by
      rw [hN b fun z => by rw [nA b z] at e; cases e]
      exact e
    have cases_ : ∀ {q : Addr} {u : HO}, H q = some u → (q ∈ PS ∧ u = .tbl #[]) ∨ (q = a ∧ ∃ o xs, u = .frz o (.lst xs)) := fun {q u} e => by
      by_cases hq : q ∈ PS
      · rw [hT q hq] at e
        cases e
        exact .inl ⟨hq, rfl⟩
      · rw [hN q hq] at e
        exact .inr (hone q u e)
    have hokH : HOk P w H s1.heap := fun q u e => by
      by_cases hq : q ∈ PS
      · rw [hT q hq] at e
        cases e
        exact isT q hq
      · have e' := e
        rw [hN q hq] at e'
        refine (hok q u e').stay (fun d v _ z => z) (fun d z => sub d _ z) fun d xs z => sub d _ z
    have away : ∀ {q : Addr} {o : Obj}, s1.heap.get? q = some o → (∀ vs n, o.data ≠ .seq vs n) → o.data ≠ .fields #[] → H q = none := fun {q o} e n1 n2 => by
      cases z : H q with
      | none => rfl
      | some u =>
        rcases cases_ z with ⟨h1, _⟩ | ⟨h1, _⟩
        · rw [isT q h1] at e
          cases e
          exact absurd rfl n2
        · rw [h1, ha] at e
          cases e
          exact absurd rfl (n1 _ _)
    have ns' : ∀ {q : Addr} {mm : Str → Option Value}, s1.heap.Ns q mm → (hidT s1.heap H).Ns q mm := fun {q mm} ⟨o, es, ep, e, d, r⟩ => ⟨o, es, ep, hidT_get e (away e (fun vs n z => by rw [d] at z; cases z) fun z => by rw [d] at z; cases z), d, r⟩
    have kb : K.In (hidT s1.heap H) := fun q o e => hidT_get (KX q o e) (by
      cases z : H q with
      | none => rfl
      | some u =>
        rcases cases_ z with ⟨h1, _⟩ | ⟨h1, _⟩
        · rw [noK q h1] at e
          cases e
        · by_cases hq : q ∈ PS
          · rw [noK q hq] at e; cases e
          · rw [hN q hq] at z
            subst h1
            rw [hK (by rw [z]; simp)] at e
            cases e)
    have md : Mod K mg (hidT s1.heap H) := ⟨kb, ns' hns, ⟨mb, ns' hb, hbb⟩, let ⟨mc, h1, h2⟩ := hlim; ⟨mc, ns' h1, h2⟩⟩
    have e0 : Env0 P w K mg (hidT s1.heap H) callerA [] s1 H := ⟨rfl, md, fun q o e => of_hidT e, Nat.le_of_eq (hidT_size _ _), trivial, fun q hq => (by cases hq), hokH, .of_eq hg⟩
    have TB : ∀ z ∈ L.tb, LamX.TabB (hidT s1.heap H) mg (tabC K z) (tabP K z) := fun z hz => by
      have hP : tabP K z ∈ PS := List.mem_map.mpr ⟨z, hz, rfl⟩
      refine ⟨?_, ?_, fun e => ?_⟩
      · obtain ⟨o, us, fl, tf, fg, tg, iF, tx, tt, e1, e2, e3, e4, e5⟩ := hdC z hz
        exact ⟨o, us, fl, tf, fg, tg, iF, tx, tt, hidT_get e1 (away e1 (fun vs n q => by rw [e3] at q; cases q) fun q => by rw [e3] at q; cases q; simp at e4), e2, e3, e4, e5⟩
      · obtain ⟨bm, ob, b1, b2, b3, b4, b5, b6⟩ := hbm (fun e => by rw [e] at hz; cases hz)
        refine ⟨bm, ob, b1, b2, fun q => ?_, fun q => ?_, hidT_get b3 (away b3 (fun vs n q => by rw [b6] at q; cases q) fun q => by rw [b6] at q; cases q), b4, b5, b6⟩
        · obtain ⟨o, es, ep, e, hd, _⟩ := hns
          rw [q, e] at b3
          cases b3
          rw [hd] at b6
          cases b6
        · rw [q, tb z hz] at b3
          cases b3
          cases b6
      · obtain ⟨o, es, ep, q, hd, _⟩ := hns
        rw [e, tb z hz] at q
        cases q
        cases hd
    have hsp : spOf K 1 G [.ref a] H (fun v _ => v = .bl true) fun _ _ _ => False := by
      refine ⟨[.fix (ns.map .int)], mu0 L.tb, HA, PS, rfl, .cons (.fix hS (ints_all ns)) .nil, ⟨sub, by simp [PS, mu0], sy.nd, fun n q c h1 h2 => ?_, fun n c h => ?_, fun q h => by rw [hT q h]; simp, fun q ps e => ?_⟩, ?_⟩
      · have h2' : (L.tb.map Cell.tab)[n]? = some c := h2
        have h1' : (L.tb.map (tabP K))[n]? = some q := h1
        rw [List.getElem?_map] at h1' h2'
        cases z : L.tb[n]? with
        | none => rw [z] at h1'; cases h1'
        | some y =>
          rw [z] at h1' h2'
          cases h1'
          cases h2'
          have hm : tabP K y ∈ PS := List.mem_map.mpr ⟨y, List.mem_of_getElem? z, rfl⟩
          exact ⟨⟨nA _ hm, rfl⟩, #[], hT _ hm, True.intro, fun pos cv hc => by
            have hc' : codeAmong pos [] = some cv := hc
            simp [codeAmong] at hc'⟩
      · have h' : (L.tb.map Cell.tab)[n]? = some c := h
        rw [List.getElem?_map] at h'
        cases z : L.tb[n]? with
        | none => rw [z] at h'; cases h'
        | some y => rw [z] at h'; cases h'; rfl
      · obtain ⟨_, o, xs, e'⟩ := hone q _ e
        cases e'
      · rw [hG]
        intro v H' F' al' _ _ r
        cases r
        rfl
    refine codeAny_mono ((hF _ kb (ns' hns) TB).run callerA [] s1 H ⟨[.ref a], []⟩ [.ref a] [.ref a] _ _ hr rfl e0 (hbd s1 (.ref a)) (.cons rfl .nil) hsp) fun r s' h => ?_
    rcases r with e | (_ | _ | _ | u)
    · exact (noCX h).elim
    · exact h.elim
    · exact h.elim
    · exact h.elim
    · obtain ⟨v, H', os, bare, un, hok', r', q⟩ := h
      have q' : v = .bl true := q
      subst q'
      obtain rfl : u = Value.bool true := r'
      have key : ∀ b o, b ∉ PS → s1.heap.get? b = some o → s'.heap.get? b = some o := fun b o nb e => by
        cases z : H b with
        | none => exact un.keep b o e z (by intro y; cases y) (by simp)
        | some u =>
          rcases cases_ z with ⟨h1, _⟩ | ⟨_, ob, xs, rfl⟩
          · exact absurd h1 nb
          · have z2 := un.frzs b ob _ z
            obtain ⟨e1, _⟩ := hokH b _ z
            obtain ⟨e2, _⟩ := hok' b _ z2
            rw [e] at e1
            cases e1
            exact e2
      have grown : ∀ b ∈ PS, ∃ more : Array Value, s'.heap.get? b = some (PySem.W.tabObj more) := fun b hb => by
        obtain ⟨more, z⟩ := un.tbls b #[] (hT b hb)
        exact ⟨_, hok' b _ z⟩
      refine ⟨rfl, ⟨fun b o e => ?_, fun b o e => ?_⟩, os, bare⟩
      · by_cases hb : b ∈ PS
        · obtain ⟨z, hz, ez⟩ := List.mem_map.mp hb
          obtain ⟨more, hm⟩ := grown b hb
          subst ez
          rw [tb z hz] at e
          cases e
          exact .inr (.inl ⟨((hdC z hz).tab (tb z hz)).isCodeTable, rfl, #[], more, rfl, by rw [Array.empty_append]; exact hm⟩)
        · exact .inl (key b o hb e)
      · by_cases hb : b ∈ PS
        · obtain ⟨more, hm⟩ := grown b hb
          exact ⟨_, hm⟩
        · exact ⟨o, key b o hb e⟩
  cases hk : K.lookup a with
  | some o =>
    have e := KX a o hk
    rw [ha] at e
    cases e
    exact core (fun _ => none) (fun q u z => by cases z) (.inr ⟨_, vs.toArray, _, hk, rfl, rfl, rfl, by rw [List.size_toArray, lenV]; exact hl, by simpa using rv⟩) (fun q u z => by cases z) fun z => absurd rfl z
  | none =>
    refine core (fun q => if q = a then some (.frz { cls := .type "list", data := .seq vs.toArray } (.lst (ns.map V.int))) else none) (fun q u z => ?_) (.inl (.inr ⟨{ cls := .type "list", data := .seq vs.toArray }, if_pos rfl⟩)) (fun q u z => ?_) fun _ => hk
    · by_cases hq : q = a
      · have z' := (if_pos hq).symm.trans z
        cases z'
        exact ⟨hq, _, _, rfl⟩
      · have z' := (if_neg hq).symm.trans z
        cases z'
    · by_cases hq : q = a
      · have z' := (if_pos hq).symm.trans z
        cases z'
        subst hq
        exact ⟨ha, by rw [List.length_map]; exact hl, vs, _, rv, ha⟩
      · have z' := (if_neg hq).symm.trans z
        cases z'
theorem walkT {l : PySem.W.OpenLaw} {n k : Nat} {q : Program} {loose : List Str} {XP : (Str → Option Value) → Heap → Prop} {L : Tl} {N : Nat} {d : DefRec} {x : Str} {G : Fn}
    (hn : l.most = some n) (hn2 : n ≤ sizeLine) (hdf : d.params.defaults = []) (hd : d.name = ("law" : Str)) (hr : Room k callerA) (hfl : ((l.prog.main.file : Str) == L.file) = true) (hsup : (l.prog.main.scope.names.lookup ("super" : Str)).isSome = false)
    {pa : Arguments} {bd : List Stmt} {sc : Scope} (hfun : ∀ K : PySem.W.Frag, SaysM L K → ∃ fd : FuncData, FunD K "law" "law" pa bd sc [] [] (He.ga K "law") fd)
    (hF : ∀ (b : Base), b.P = l.prog → Tx L b → ∀ fd : FuncData, FunD b.K "law" "law" pa bd sc [] [] (He.ga b.K "law") fd → (∀ (s : Shared) (u : Value), BindsTo s fd ⟨[u], []⟩ [(x, u)]) ∧ FnG b k (He.ga b.K "law") fd [x] G)
    (hfd : ∃ f : Nat, L.fa[f]? = some (.glo "law"))
    (hG : ∀ ns : List Int, ns.length ≤ n → ∃ m', G [.fix (ns.map .int)] (mu0 L.tb) = .ok (.bl true) m') :
    PySem.W.WalkO q loose XP (hookM N L).says l.row.toRowW d [] (fun f vs => PySem.call f vs) := by
  refine Att.attach_call hn hdf fun w s0 s1 mg mb f o pm cd doc a vs ns Gr Y ho hd' hcd hmg hobj hints hlen hg => ?_
  obtain ⟨K, KX, c, tb⟩ := Y
  obtain ⟨i, hi⟩ := hfd
  rw [hd] at hmg
  have e := hmg.symm.trans (He.glo_ok KX Gr.T.g (c.c.fact i hi))
  cases e
  have T : ∀ base : Heap, K.In base → base.Ns mainGlobals mg → (∀ z ∈ L.tb, LamX.TabB base mg (tabC K z) (tabP K z)) → Tx L ⟨l.prog, w, K, mg, base⟩ := fun base h1 h2 h3 => ⟨c, ⟨base, h1, h2⟩, h3, hfl, hsup⟩
  obtain ⟨fd, hfd'⟩ := hfun K c
  refine enterT (fd := fd) (x := x) KX c tb Gr.T.g Gr.T.b Gr.T.builtins Gr.T.nolimit hg (fun _ => Gr.T.bmain) hobj hints (Nat.le_trans hlen hn2) hr (fun base h1 h2 h3 => (hF ⟨l.prog, w, K, mg, base⟩ rfl (T base h1 h2 h3) fd hfd').2) ?_ (hG ns hlen)
  intro s u
  obtain ⟨oc, od, dV, kV, doc, pm, an, cdv, ct, osl, rfl, lk, hcd, _, _⟩ := hfd'.ex
  have TB : ∀ z ∈ L.tb, LamX.TabB s1.heap mg (tabC K z) (tabP K z) := fun z hz => by
    obtain ⟨_, h2⟩ := He.ba (c.tb z hz)
    obtain ⟨h3, _⟩ := He.ba h2
    refine ⟨PySem.W.codeHd_of_K KX h3, ?_, fun e => ?_⟩
    · obtain ⟨bm, ob, b1, b2, b3, b4, b5, b6⟩ := Gr.T.bmain
      refine ⟨bm, ob, b1, b2, fun q => ?_, fun q => ?_, b3, b4, b5, b6⟩
      · obtain ⟨o, es, ep, e, hd, _⟩ := Gr.T.g
        rw [q, e] at b3
        cases b3
        rw [hd] at b6
        cases b6
      · rw [q, tb z hz] at b3
        cases b3
        cases b6
    · obtain ⟨o, es, ep, q, hd, _⟩ := Gr.T.g
      rw [e, tb z hz] at q
      cases q
      cases hd
  exact (hF ⟨l.prog, w, K, mg, s1.heap⟩ rfl (T s1.heap KX Gr.T.g TB) _ hfd').1 s u
end DS

/-! # XH: pop at an index, repr and truth of own objects, keywords of methods -/
namespace DS
open PySem PySem.Spec PyProof.Rows L2
variable {c : SC} {W : WX} {pos : Pos} {a b e : Expr} {fa fb : XE'} {fr : XA}
/-! ### l.pop(i) -/
theorem RpL.eraseIdx {K : PySem.W.Frag} {F : Hp} {al : List Addr} : ∀ {ds : List D} {vs : List V} (k : Nat), RpL K F al ds vs → RpL K F al (ds.eraseIdx k) (vs.eraseIdx k)
  | _, _, _, .nil => .nil
  | _, _, 0, .cons r q => q
  | _, _, k + 1, .cons r q => .cons r (RpL.eraseIdx k q)
def popIF (ds : List D) (m : Mu) : Out D := match ds with
  | [.loc n, .int i] => (match m[n]? with
    | some (.lst xs) => if -(2 ^ 63) ≤ i ∧ i < 2 ^ 63 then (match seqIndex? i xs.length with
      | some k => (match xs[k]? with
        | some d => .ok d (m.set n (.lst (xs.eraseIdx k)))
        | none => .stuck)
      | none => .stuck) else .stuck
    | _ => .stuck)
  | _ => .stuck
/-! ### repr(o) by the class's own __repr__ -/
/-! ### truth of an own object -/
def truB (cn : Str) (K : PySem.W.Frag) : Bool := He.eqO (PySem.W.findIn K (.ref (He.ga K cn)) "__bool__") (some none) && He.eqO (PySem.W.findIn K (.ref (He.ga K cn)) "__len__") (some none)
def boolO (cn : Str) (ds : List D) (m : Mu) : Out D := match ds with
  | [d] => (match insOf m d with
    | some (c', _) => if c' = cn then .ok (.bl true) m else .stuck
    | none => .stuck)
  | _ => .stuck
/-- an own object as a test -/
def xTruO (cn : Str) (f : XE') : XT := fun r m => (f r m).bind fun d m1 => match insOf m1 d with
  | some (c', _) => if c' = cn then .ok true m1 else .stuck
  | none => .stuck
/-! ### o.m(k = v, ..), C(k = v, ..) -/
variable {o : Expr} {fo : XE'} {x : Str} {p0 apos : Pos} {k : Nat} {f : Addr} {fd : FuncData} {ps : List Str} {G : Fn}
def xMethK (cn m : Str) (G : Fn) (sh : List D → List D) (o : XE') (a : XA) : XE' := fun r mu => (o r mu).bind fun d m1 => match insOf m1 d with
  | some (c', gs) => if c' = cn ∧ gs.lookup m = none then (a r m1).bind fun zs m2 => G (d :: sh zs) m2 else .stuck
  | none => .stuck
def xMakeN (cn : Str) (G : Fn) (frz : Bool) (sh : List D → List D) (b : XA) : XE' := fun r m => (b r m).bind fun zs m2 => makeD cn G frz (sh zs) m2
/-! ### a == b by the class's own __eq__ -/
def eqO (cn : Str) (G : Fn) (d e : D) (m : Mu) : Out D := match insOf m d, insOf m e with
  | some (c1, _), some (c2, _) => if c1 = cn ∧ c2 = cn then (match G [d, e] m with
    | .ok (.bl k) m' => .ok (.bl k) m'
    | _ => .stuck) else .stuck
  | _, _ => .stuck
/-! ### a + b of lists, as a new list that will change -/
def addN (d e : D) (m : Mu) : Out D := match ownOf m d, ownOf m e with
  | some xs, some ys => if xs.length + ys.length ≤ sizeLine ∧ D.inL m.length (xs ++ ys) = true then .ok (.loc m.length) (m ++ [.lst (xs ++ ys)]) else .stuck
  | _, _ => .stuck
end DS

/-! # XI: list.index, list.count (flat items), tuple.index, order of texts -/
namespace DS
open PySem PySem.Spec PyProof.Rows L2
section
variable {c : SC} {W : WX} {pos apos : Pos}
/-! ### list.index -/
def lixF (ds : List D) (m : Mu) : Out D := match ds with
  | [l, y] => (match lstOf m l with
    | some xs => if flatD y && xs.all flatD then (match xs.findIdx? (fun z => eqF z y) with
      | some j => .ok (.int (j : Nat)) m
      | none => .stuck) else .stuck
    | none => .stuck)
  | _ => .stuck
/-! ### list.count -/
def rCntF (K : PySem.W.Frag) : V → List V → Hp → VK → Prop := fun x xs H Q => ∃ (p : Addr) (ys : List V) (y : V), x = .ref p ∧ xs = [y] ∧ SqL K H p ys ∧ flatV y = true ∧ ys.all flatV = true ∧ Q (.int (ys.countP (fun z => eqV z y) : Nat)) H
def lcntF (ds : List D) (m : Mu) : Out D := match ds with
  | [l, y] => (match lstOf m l with
    | some xs => if flatD y && xs.all flatD then .ok (.int (xs.countP (fun z => eqF z y) : Nat)) m else .stuck
    | none => .stuck)
  | _ => .stuck
/-! ### order of texts -/
def cmpS (g : List Nat → List Nat → Bool) (d e : D) (m : Mu) : Out D := match d, e with
  | .str a, .str b => .ok (.bl (g a.cps.toList b.cps.toList)) m
  | _, _ => .stuck
def ltS : D → D → Mu → Out D := cmpS fun i j => decide (i < j)
def leS : D → D → Mu → Out D := cmpS fun i j => !decide (j < i)
def gtS : D → D → Mu → Out D := cmpS fun i j => decide (j < i)
def geS : D → D → Mu → Out D := cmpS fun i j => !decide (i < j)
end
end DS

/-! # XJ: a def that calls its argument in a try, as one fact -/
namespace DS
open PySem PySem.Spec PyProof.Rows L2
def Catch (b : Base) (x a : Str) (g : Addr) (Ng : List Str) (kg : Nat) (T : ExT) (j : Option Nat) (l : List HdF) (frs : XS) : Prop :=
  ∃ (fdg : FuncData) (pg : Arguments) (sg : Scope) (h1 : ExceptHandler) (hs : List ExceptHandler) (rs : List Stmt) (st0 : Stmt) (p1 p2 tp : Pos), FunD b.K x x pg (.Try [st0] (h1 :: hs) [] [] tp :: rs) sg [] [] g fdg ∧ Binds b.K fdg [a] [] ∧ FnScope Ng [a] sg ∧
    Cal Ng sg (.Call (.Name a p1) [] [] p2) st0 j ∧ DHs (b.at Ng sg kg true) T (h1 :: hs) l ∧ DSs (b.at Ng sg kg true) (wOf fun _ _ _ => False) rs frs ∧ Vis sg a ∧ Ng[0]? = some a
section
variable {c : SC} {W : WX} {T : ExT} {pos : Pos}
end
end DS

/-! # XK: int(a truth value) -/
namespace DS
open PySem PySem.Spec PyProof.Rows L2
section
variable {c : SC} {W : WX} {pos : Pos}
def intB (ds : List D) (m : Mu) : Out D := match ds with
  | [.bl b] => .ok (.int (if b = true then 1 else 0)) m
  | _ => .stuck
end
end DS

/-! # XL: defs without arguments; dicts that are filled; x in d, x in a list of all kinds -/
namespace DS
open PySem PySem.Spec PyProof.Rows L2
section
variable {c : SC} {W : WX} {pos pos' p0 : Pos} {x : Str} {k : Nat} {f : Addr} {fd : FuncData} {ps : List Str} {G : Fn}
def xCall0 (G : Fn) : XE' := fun _ m => G [] m
/-! ### a dict, new: it will be filled; it stays as it is -/
def xNewD : XE' := fun _ m => .ok (.loc m.length) (m ++ [.dct []])
def dctOf (m : Mu) : D → Option (List (Str × D))
  | .dct gs => some gs
  | .loc n => match m[n]? with
    | some (.dct gs) => some gs
    | _ => none
  | _ => none
/-- x in d -/
def inDD (d e : D) (m : Mu) : Out D := match d with
  | .str f => (match dctOf m e with
    | some gs => .ok (.bl (gs.lookup f).isSome) m
    | none => .stuck)
  | _ => .stuck
/-! d[x] -/
variable {a b e : Expr} {fa fb fe : XE'}
def dgetL (d e : D) (m : Mu) : Out D := match e with
  | .str f => (match dctOf m d with
    | some gs => (match gs.lookup f with
      | some v => .ok v m
      | none => .stuck)
    | none => .stuck)
  | _ => .stuck
/-- d[x] = v, x new -/
def putX (o k d : D) (m : Mu) : Out Unit := match o with
  | .loc n => dputD n k d m
  | _ => .stuck
def sDP (o k v : XE') : XS := fun r m => (v r m).stm r fun d m1 => (o r m1).stm r fun od m2 => (k r m2).stm r fun kd m3 => (putX od kd d m3).stm r fun _ m4 => .next r m4
/-- x in a list of all kinds of data -/
def inX (d e : D) (m : Mu) : Out D := match toP (dere m d), toP (dere m e) with
  | some p, some (.list qs) => if SeqAt.shaped p && SeqAt.shaped (.list qs) then .ok (.bl (qs.any fun z => PyData.eqv z p)) m else .stuck
  | _, _ => .stuck
end
end DS

/-! # XM: len(set(a list of truth values)) -/
namespace DS
open PySem PySem.Spec PyProof.Rows L2 PpSet
section
variable {P : Program} {w : World} {A : Around} {E : Value → Shared → Prop} {s : Shared}
abbrev fset (w : World) : Obj := { cls := .type "set", dict := none, data := .set #[] 0 (.fresh 0 0 (!w.params.followText "set-order")) }
end
end DS

/-! # XN: len(set(a list of truth values)), the rule -/
namespace DS
open PySem PySem.Spec PyProof.Rows L2 PpSet
section
variable {c : SC} {W : WX} {pos p0 p1 pos1 : Pos} {e : Expr} {fe : XE'}
def lenSet (d : D) (m : Mu) : Out D := match lstOf m d with
  | some xs => (match bsL xs with
    | some bs => if bs.length ≤ 1000 then .ok (.int (((if true ∈ bs then 1 else 0) + (if false ∈ bs then 1 else 0) : Nat) : Int)) m else .stuck
    | none => .stuck)
  | none => .stuck
def xLenSet (f : XE') : XE' := fun r m => (f r m).bind lenSet
end
end DS

/-! # XO: frames of the new rules -/
namespace DS
open PySem PySem.Spec PyProof.Rows L2
end DS

/-! # XP: dicts of one entry; tuples of names, their index; class methods; cls(..) -/
namespace DS
open PySem PySem.Spec PyProof.Rows L2
section
variable {c : SC} {W : WX} {pos apos p0 p1 : Pos} {a b e o : Expr} {es : List Expr} {fa fb fe fo : XE'} {fr : XA} {x : Str} {k : Nat} {f : Addr} {fd : FuncData} {ps : List Str} {G : Fn}
/-! ### {"k": e}, {0: e} -/
def dct1E (key : Str) (n : Nat) (d : D) (m2 : Mu) : Out D := if d.inB n = true then (match m2[n]? with
  | some (.dct []) => .ok (.dct [(key, d)]) (m2.take n)
  | _ => .stuck) else .stuck
def xDct1 (key : Str) (f : XE') : XE' := fun r m => (f r (m ++ [.dct []])).ne.bind (dct1E key m.length)
def odc1E (n : Nat) (d : D) (m2 : Mu) : Out D := match m2[n]? with
  | some (.dct []) => .ok .odc (m2.take n)
  | _ => .stuck
def xOdc1 (f : XE') : XE' := fun r m => (f r (m ++ [.dct []])).ne.bind (odc1E m.length)
/-! ### tuples of names -/
def wkD : D → D
  | .nst xs => .tup (xs.map .str)
  | d => d
def xWk (f : XE') : XE' := fun r m => (f r m).bind fun d m1 => .ok (wkD d) m1
def tupNF (ds : List D) (m : Mu) : Out D := match ds with
  | [d] => (match lstOf m d with
    | some xs => (match strsL xs with
      | some ys => .ok (.nst ys) m
      | none => .stuck)
    | none => .stuck)
  | _ => .stuck
def nsixD (d e : D) (m : Mu) : Out D := match d, e with
  | .nst xs, .str y => if y ∈ xs then .ok (.int (xs.idxOf y : Nat)) m else .stuck
  | _, _ => .stuck
def xNsix (fo fe : XE') : XE' := fun r m => (fo r m).bind fun d m1 => match d with
  | .nst xs => (fe r m1).bind fun e m2 => nsixD (.nst xs) e m2
  | _ => .stuck
/-! ### C.m(e, ..), m a classmethod -/
section
variable {X : Cx} {CX : CXT} {k : Nat} {f C p : Addr} {mc : Value} {fd : FuncData} {ps : List Str} {sp : Sp} {E : L2.St → XK} {m : Str} {pins : List (Addr × Obj)} {σ : L2.St} {H : Hp} {s : Shared} {Q : VK} {us ws : List Value} {vs zs : List V}
end
def xCMeth (cn : Str) (G : Fn) (o : XE') (a : XA) : XE' := fun r mu => (o r mu).bind fun d m1 => match d with
  | .glo y => if y = cn then (a r m1).bind fun ds m2 => G (.glo y :: ds) m2 else .stuck
  | _ => .stuck
def xCMethK (cn : Str) (G : Fn) (sh : List D → List D) (o : XE') (a : XA) : XE' := fun r mu => (o r mu).bind fun d m1 => match d with
  | .glo y => if y = cn then (a r m1).bind fun zs m2 => G (.glo y :: sh zs) m2 else .stuck
  | _ => .stuck
/-! ### x(e, ..), x a name that holds an own class -/
def xMakeL (i : Nat) (cn : Str) (G : Fn) (frz : Bool) (a : XA) : XE' := fun r m => match r[i]? with
  | some (some (.glo y)) => if y = cn then (a r m).bind (makeD cn G frz) else .stuck
  | _ => .stuck
end
/-! ### defs that call themselves: no fuel, no promise -/
end DS

/-! # XQ: own == anything, own != anything, by the class's own __eq__ -/
namespace DS
open PySem PySem.Spec PyProof.Rows L2
section
variable {M : Model} {prog : Program} {w : World} {A : Around} {E : Value → Shared → Prop} {s : Shared} {K : PySem.W.Frag} {x C f : Addr} {ox : Obj} {od : Option Obj} {b : Value}
end
section
variable {X : Cx} {pins : List (Addr × Obj)} {σ : L2.St} {H : Hp} {s : Shared}
end
section
variable {c : SC} {k : Nat} {f : Addr} {fd : FuncData} {ps : List Str} {G : Fn}
/-- no type of the kinds that data has comes first; != is the usual one -/
def cmpB (cn : Str) (cs : List Str) (K : PySem.W.Frag) : Bool := (tyNames.all fun n => PySem.W.notFirst K (He.ga K cn) (.type n)) && (cs.all (fun c' => PySem.W.notFirst K (He.ga K cn) (.ref (He.ga K c'))) &&
  (He.eqO (PySem.W.findIn K (.ref (He.ga K cn)) "__ne__") (some (some (.builtin "object.__ne__"))) && decide (PySem.W.mroIn K (He.ga K cn) (.type "object") = some true)))
def kindB (cs : List Str) : String ⊕ Str → Bool
  | .inl n => decide (n ∈ tyNames)
  | .inr c' => decide (c' ∈ cs)
def cmpF (neg : Bool) (cn : Str) (cs : List Str) (G : Fn) (d e : D) (m : Mu) : Out D := match insOf m d, tyOf m e with
  | some (c1, _), some t => if c1 = cn ∧ kindB cs t = true then (match G [d, e] m with
    | .ok (.bl k) m' => .ok (.bl (if neg then !k else k)) m'
    | _ => .stuck) else .stuck
  | _, _ => .stuck
end
end DS

/-! # XR: a tuple repeated, upper, o.f += e -/
namespace DS
open PySem PySem.Spec PyProof.Rows L2
section
variable {c : SC} {W : WX} {pos apos p0 p1 : Pos} {a b e o : Expr} {fa fb fe fo : XE'}
def mulT (d e : D) (m : Mu) : Out D := match d, e with
  | .tup xs, .int k => if xs ≠ [] ∧ 2 ≤ k ∧ k ≤ 1000 ∧ xs.length ≤ 1000 then .ok (.tup (List.replicate k.toNat xs).flatten) m else .stuck
  | _, _ => .stuck
def upF (ds : List D) (m : Mu) : Out D := match ds with
  | [.str z] => if z.length ≤ 5592405 then .ok (.str (Txt.upper z)) m else .stuck
  | _ => .stuck
/-! o.f += e -/
def flaI (cn f : Str) (od : D) (v y : D) (m : Mu) : Out Unit := match v, y with
  | .int i, .int j => putC cn f od (.int (i + j)) m
  | _, _ => .stuck
def sFlA (cn f : Str) (o v : XE') : XS := fun r m => (o r m).stm r fun od m1 => (fldD cn f od m1).stm r fun x m1 => (v r m1).stm r fun y m2 => (flaI cn f od x y m2).stm r fun _ m3 => .next r m3
end
end DS

/-! # XS: a function that is one thing on some data, another on other data -/
namespace DS
open PySem PySem.Spec PyProof.Rows L2
def orF (F G : Fn) : Fn := fun ds m => match F ds m with
  | .stuck => G ds m
  | o => o
/-- str of a text -/
def strS (ds : List D) (m : Mu) : Out D := match ds with
  | [.str z] => .ok (.str z) m
  | _ => .stuck
end DS

/-! # XT: for over a list of the def's own (read anew at each turn) -/
namespace DS
open PySem PySem.Spec PyProof.Rows L2
def loopO (n : Nat) (g : XG) (body : XS) : Nat → Nat → Rho → Mu → SO
  | 0, _, _, _ => .stuck
  | k + 1, i, r, m => match m[n]? with
    | some (.lst xs) => (match xs[i]? with
      | none => .next r m
      | some x => (g x r m).stm r fun r1 m1 => match body r1 m1 with
        | .next r2 m2 => loopO n g body k (i + 1) r2 m2
        | .cont r2 m2 => loopO n g body k (i + 1) r2 m2
        | .brk r2 m2 => .next r2 m2
        | o => o)
    | _ => .stuck
def forO (g : XG) (body : XS) (r : Rho) (d : D) (m : Mu) : SO := match d with
  | .loc n => (match m[n]? with
    | some (.lst xs) => loopO n g body (xs.length + 1) 0 r m
    | _ => .stuck)
  | _ => .stuck
def sForO (f : XE') (g : XG) (body : XS) : XS := fun r m => (f r m).stm r fun d m1 => forO g body r d m1
section
variable {c : SC} {W : WX} {sts : List Stmt} {g : XS} {pos : Pos} {e : Expr} {fe : XE'}
end
end DS

/-! # XU: raise C() of a class without own __init__ -/
namespace DS
open PySem PySem.Spec PyProof.Rows L2
def x0B (cn : Str) (B : String) (K : PySem.W.Frag) : Bool := PySem.W.excIn K (He.ga K cn) (exTl B) (B ++ ".__new__") && (PySem.W.keepIn K (.ref (He.ga K cn)) && (decide (PySem.W.subIn K (.ref (He.ga K cn)) (.type "BaseException") = some true) && decide (PySem.W.typeIn K (.ref (He.ga K cn)) = some (.type "type"))))
end DS

/-! # XV: data == own object (the right side's own __eq__ answers) -/
namespace DS
open PySem PySem.Spec PyProof.Rows L2
open PySem.SeqAt
section
variable {prog : Program} {w : World} {A : Around} {E : Value → Shared → Prop} {s : Shared} {K : PySem.W.Frag} {x C : Addr} {ox : Obj} {od : Option Obj}
end
def refTy : List String := ["NoneType", "bool", "int", "str", "list", "tuple", "dict"]
/-- the class is below none of the kinds of data -/
def refB (cn : Str) (K : PySem.W.Frag) : Bool := refTy.all fun n => decide (PySem.W.subIn K (.ref (He.ga K cn)) (.type n) = some false)
section
variable {X : Cx} {pins : List (Addr × Obj)} {σ : L2.St} {H : Hp} {s : Shared} {A : Around} {E : Value → Shared → Prop}
end
section
variable {c : SC} {k : Nat} {f : Addr} {fd : FuncData} {ps : List Str} {G : Fn}
def eqR (cn : Str) (G : Fn) (d e : D) (m : Mu) : Out D := match tyOf m d, insOf m e with
  | some (.inl n), some (c1, _) => if c1 = cn ∧ n ∈ refTy then (match G [e, d] m with
    | .ok (.bl k) m' => .ok (.bl k) m'
    | _ => .stuck) else .stuck
  | _, _ => .stuck
end
end DS

/-! # XW: t[::-1] of a tuple -/
namespace DS
open PySem PySem.Spec PyProof.Rows L2
section
variable {prog : Program} {w : World} {A : Around} {E : Value → Shared → Prop} {s : Shared}
end
section
variable {X : Cx}
def tRevT (K : PySem.W.Frag) (te : TE) : TE := fun σ H Q => te σ H fun x H1 => ∃ a xs, x = .ref a ∧ SqT K H1 a xs ∧ ∀ p, H1 p = none → Q (.ref p) (upd H1 p (.tup xs.reverse))
end
section
variable {c : SC} {W : WX} {pos : Pos} {a : Expr} {fa : XE'}
def revDT (d : D) (m : Mu) : Out D := match d with
  | .tup xs => .ok (.tup xs.reverse) m
  | _ => .stuck
def xRevT (f : XE') : XE' := fun r m => (f r m).bind revDT
end
end DS

/-! # XY: repr(o) by the class's own __repr__ while an exception is handled -/
namespace DS
open PySem PySem.Spec PyProof.Rows L2
theorem RoomH.in1 {k : Nat} {A : Around} (r : L2H.RoomH (k + 1) A) : L2H.RoomH k A.in1 := ⟨by have := r.dp; show A.depth + 3 * k + 5 < _; omega, by have := r.un; show A.units + 1 + 16 * k + 200 < _; omega⟩
section
variable {c : SC}
end
end DS

/-! # XZ: some arguments by place, the others by name, no defaults -/
namespace DS
open PySem PySem.Spec PyProof.Rows L2
end DS

/-! # YA: a list of own lists [h, [..]]: the last one is open (`Cell.opn`), the others stand still -/
namespace DS
open PySem PySem.Spec PyProof.Rows L2
def notO : Cell → Bool
  | .opn _ _ _ => false
  | _ => true
/-- no other cell is open -/
def onlyO (n : Nat) (m : Mu) : Bool := (m.set n .dead).all notO
section
variable {K : PySem.W.Frag} {F H : Hp} {al : List Addr} {m : Mu} {n : Nat} {a : Addr}
def pairD (h : D) (ls : List D) : D := .lst [h, .lst ls]
end
section
variable {c : SC} {W : WX} {pos p0 p1 p2 p3 p4 p5 p6 p7 apos : Pos} {e : Expr} {fe : XE'} {x y : Str}
/-! ### found.append([e, []]) -/
def isList (m : Mu) (n : Nat) : Bool := match m[n]? with
  | some (.lst _) => true
  | some (.opn _ _ _) => true
  | _ => false
def closeM (n : Nat) (m : Mu) : Out (List D) := match m[n]? with
  | some (.lst xs) => .ok xs m
  | some (.opn xs h ls) => if onlyO n m then .ok (xs ++ [pairD h ls]) (m.set n (.lst (xs ++ [pairD h ls]))) else .stuck
  | _ => .stuck
def appH (n : Nat) (h : D) (m : Mu) : Out D := (closeM n m).bind fun xs m1 => if h.inB n ∧ xs.length < 100000 then .ok .non (m1.set n (.opn xs h [])) else .stuck
def xAppH (i : Nat) (f : XE') : XE' := fun r m => match r[i]? with
  | some (some (.loc n)) => if isList m n then (f r m).bind fun h m1 => appH n h m1 else .stuck
  | _ => .stuck
/-! ### found[-1][1].append(y) -/
def appL (n : Nat) (d : D) (m : Mu) : Out D := match m[n]? with
  | some (.opn xs h ls) => if d.inB n ∧ ls.length < 100000 ∧ onlyO n m = true then .ok .non (m.set n (.opn xs h (ls ++ [d]))) else .stuck
  | _ => .stuck
def xAppL (i j : Nat) : XE' := fun r m => match r[i]?, r[j]? with
  | some (some (.loc n)), some (some d) => appL n d m
  | _, _ => .stuck
/-! ### found == [] -/
def eqO0 (d e : D) (m : Mu) : Out D := match d, e with
  | .loc n, .lst [] => (match m[n]? with
    | some (.opn _ _ _) => .ok (.bl false) m
    | _ => .stuck)
  | _, _ => .stuck
def orO (F G : D → D → Mu → Out D) (d e : D) (m : Mu) : Out D := match F d e m with
  | .stuck => G d e m
  | o => o
/-! ### the name, as what stands still from now on -/
def frzV (n : Nat) (m : Mu) : Out D := (closeM n m).bind fun xs m1 => .ok (.lst xs) (m1.set n .dead)
def xFrzV (i : Nat) : XE' := fun r m => match r[i]? with
  | some (some (.loc n)) => frzV n m
  | _ => .stuck
end
end DS

/-! # YB: the head's run in three parts (less memory) -/
namespace DS
open PySem PySem.W PySem.Calls HandSHeadRun L2
def kAsR (g : Addr → Option Obj) (n : Nat) : List Addr := ((List.range n).reverse).filter fun a => noTab (g a)
def obsMR (n : Nat) (L : Tl) (g : Addr → Option Obj) : AlM := obsM L (He.frG g (kAsR g n)) g
def hookR (n : Nat) (L : Tl) : PySem.W.Hook where
  α := AlM
  obs := fun s => obsMR n L s.heap.get?
  val := fun _ => valM L
  says := fun _ h => ∃ K : PySem.W.Frag, K.In h ∧ SaysM L K ∧ ∀ x ∈ L.tb, h.get? (tabP K x) = some (PySem.W.tabObj #[])
  of := fun _ _ e => ⟨_, He.frG_in, saysM_of e⟩
  keeps := fun _ _ _ ⟨K, hK, c, t⟩ k => ⟨K, PySem.W.Frag.In.keeps hK k, c, fun x hx => k _ _ (t x hx)⟩
theorem obsMR_eq {n : Nat} {L : Tl} {g : Addr → Option Obj} {s : Shared} (h : ∀ a, g a = s.heap.get? a) : obsMR n L g = (hookR n L).obs s := by
  have e : g = s.heap.get? := funext h
  rw [e] <;> rfl
def RunA (r : OpenRow) (q : Program) (M : Nat) (loose : List PySem.Str) (w : World) : Prop := ∀ os : OsState, (endF (stepQ (denQ tabQ) r.prog w) M r.prog w os).map (fun s => (looksF r.prog (boot_heap w.params) s.abs, seenQ q loose (importedModules r.prog.main.body) (fun s => xlAt q [] s && recOk r.toRowW.records s) s.abs)) = some (true, openGood q loose)
def RunB (r : OpenRow) (M : Nat) {β : Type} (ob : SharedT → β) (v : β) (w : World) : Prop := ∀ os : OsState, (endF (stepQ (denQ tabQ) r.prog w) M r.prog w os).map ob = some v
theorem map3 {α β γ δ ε : Type} {o : Option α} {f : α → β} {g : α → γ} {h : α → δ × ε} {b : β} {c : γ} {d : δ × ε} (h1 : o.map (fun s => (f s, g s)) = some (b, c)) (h2 : o.map (fun s => (h s).1) = some d.1) (h3 : o.map (fun s => (h s).2) = some d.2) : o.map (fun s => (f s, g s, h s)) = some (b, c, d) := by
  cases o with
  | none => cases h1
  | some s =>
    injection h1 with h1
    injection h2 with h2
    injection h3 with h3
    injection h1 with h4 h5
    show some (f s, g s, h s) = _
    rw [h4, h5, show h s = d from Prod.ext h2 h3]
theorem says_eq (N : Nat) (L : Tl) : (hookR N L).says = (hookM N L).says := rfl
end DS
namespace DS
open PySem PySem.Spec PyProof.Rows L2
theorem walkR {l : PySem.W.OpenLaw} {n k : Nat} {q : Program} {loose : List Str} {XP : (Str → Option Value) → Heap → Prop} {L : Tl} {N : Nat} {d : DefRec} {x : Str} {G : Fn}
    (hn : l.most = some n) (hn2 : n ≤ sizeLine) (hdf : d.params.defaults = []) (hd : d.name = ("law" : Str)) (hr : Room k callerA) (hfl : ((l.prog.main.file : Str) == L.file) = true) (hsup : (l.prog.main.scope.names.lookup ("super" : Str)).isSome = false)
    {pa : Arguments} {bd : List Stmt} {sc : Scope} (hfun : ∀ K : PySem.W.Frag, SaysM L K → ∃ fd : FuncData, FunD K "law" "law" pa bd sc [] [] (He.ga K "law") fd)
    (hF : ∀ (b : Base), b.P = l.prog → Tx L b → ∀ fd : FuncData, FunD b.K "law" "law" pa bd sc [] [] (He.ga b.K "law") fd → (∀ (s : Shared) (u : Value), BindsTo s fd ⟨[u], []⟩ [(x, u)]) ∧ FnG b k (He.ga b.K "law") fd [x] G)
    (hfd : ∃ f : Nat, L.fa[f]? = some (.glo "law"))
    (hG : ∀ ns : List Int, ns.length ≤ n → ∃ m', G [.fix (ns.map .int)] (mu0 L.tb) = .ok (.bl true) m') :
    PySem.W.WalkO q loose XP (hookR N L).says l.row.toRowW d [] (fun f vs => PySem.call f vs) := by
  rw [says_eq]
  exact walkT hn hn2 hdf hd hr hfl hsup hfun hF hfd hG
end DS

/-! # YC: x not in [.. data of any depth ..] -/
namespace DS
open PySem PySem.Spec PyProof.Rows L2
section
variable {c : SC}
def ninX (d e : D) (m : Mu) : Out D := match toP (dere m d), toP (dere m e) with
  | some p, some (.list qs) => if SeqAt.shaped p && SeqAt.shaped (.list qs) then .ok (.bl (!qs.any fun z => PyData.eqv z p)) m else .stuck
  | _, _ => .stuck
end
end DS

/-! # YD: from here on a list stands still (a change of what stands for it, no statement) -/
namespace DS
open PySem PySem.Spec PyProof.Rows L2
section
variable {c : SC} {W : WX} {st : List Stmt} {g : XS}
def sFrz (i : Nat) (g : XS) : XS := fun r m => match r[i]? with
  | some (some (.loc n)) => (frzV n m).stm r fun d m1 => g (r.set i (some d)) m1
  | _ => .stuck
end
end DS

/-! # YE: tuple(text) -/
namespace DS
open PySem PySem.Spec PyProof.Rows L2
def tupS (ds : List D) (m : Mu) : Out D := match ds with
  | [.str z] => if z.cps.size ≤ 1000 then .ok (.tup (z.cps.toList.map fun c => .str ⟨#[c]⟩)) m else .stuck
  | _ => .stuck
end DS

/-! # YF: text * number -/
namespace DS
open PySem PySem.Spec PyProof.Rows L2
theorem op_mulStr {X : Cx} : OpR X (binaryOp .Mult) (fun x y H Q => ∃ (z : Str) (k : Int), x = .str z ∧ y = .int k ∧ z.length ≤ 100 ∧ 0 ≤ k ∧ k ≤ 100000 ∧ Q (.str (Txt.mul z k)) H) := by
  intro pins s σ H x y v u Q I rx ry h
  obtain ⟨z, k, rfl, rfl, h1, h2, h3, q⟩ := h
  obtain ⟨t, rfl⟩ := rx
  obtain ⟨t2, rfl⟩ := ry
  exact SB.mul (mulOk_of 100 100000 h1 h3 (by omega) (by decide) (by decide)) fun t' k' => ⟨.str _, H, I.kept (t' := k') (fun b o e => e), ⟨_, rfl⟩, q⟩
def mulS (d e : D) (m : Mu) : Out D := match d, e with
  | .str z, .int k => if z.length ≤ 100 ∧ 0 ≤ k ∧ k ≤ 100000 then .ok (.str (Txt.mul z k)) m else .stuck
  | _, _ => .stuck
theorem op_mulS {c : SC} : OpD c (binaryOp .Mult) mulS := by
  refine ⟨_, fun W y hy => op_mulStr (X := c.cx y), fun W d e m x z H F al Q hw r1 r2 p => ?_⟩
  unfold mulS at p
  split at p
  · cases r1
    cases r2
    split at p
    · rename_i h
      exact ⟨_, _, rfl, rfl, h.1, h.2.1, h.2.2, p _ H F al Le.refl hw (.str _)⟩
    · exact p.elim
  · exact p.elim
end DS

/-! # YG: text.find(text) -/
namespace DS
open PySem PySem.Spec PyProof.Rows L2
def findF (ds : List D) (m : Mu) : Out D := match ds with
  | [.str z, .str s] => .ok (.int (Txt.find z s)) m
  | _ => .stuck
end DS

/-! # YH: a list comprehension whose list is changed later; tuple * 1 -/
namespace DS
open PySem PySem.Spec PyProof.Rows L2
def lcEndN (n : Nat) (m : Mu) : Out D := match m[n]? with
  | some (.lst _) => .ok (.loc n) m
  | _ => .stuck
def lcDN (g : XG) (tt : XT) (te : XE') (r0 : Rho) (xs : List D) (m : Mu) : Out D := (lcF g tt te m.length r0 xs (m ++ [.lst []])).bind fun _ m2 => lcEndN m.length m2
def xLcN (f : XA) (vs : List Nat) (g : XG) (tt : XT) (te : XE') : XE' := fun r m => (f r m).bind fun xs m1 => lcDN g tt te (wipeR r vs) xs m1
section
variable {c : SC} {W : WX} {pos : Pos} {a b d e : Expr} {fa fb fe : XE'} {ft : XT}
end
/-! ### tuple * 1 -/
def rRep1 (K : PySem.W.Frag) : R2 := fun x y H Q => ∃ l xs, x = .ref l ∧ y = .int 1 ∧ SqT K H l xs ∧ Q (.ref l) H
def mulT1 (d e : D) (m : Mu) : Out D := match d, e with
  | .tup xs, .int 1 => .ok (.tup xs) m
  | _, _ => .stuck
end DS

/-! # YI: repr of a list or tuple that holds one own object -/
namespace DS
open PySem PySem.Spec PyProof.Rows L2 PySem.W PySem.Calls
section
variable {prog : Program} {w : World} {A : Around} {E : Value → Shared → Prop} {s : Shared} {K : Frag} {x C f : Addr} {h₀ : Heap} {Lq : Addr} {m : Str → Option Value} {ox : Obj} {od : Option Obj}
end
section
variable {prog : Program} {w : World}
end
section
end
section
variable {X : Cx} {CX : CXT} {C f : Addr} {fd : FuncData} {ps : List Str} {sp : Sp} {n : Nat} {E : XK}
end
end DS

/-! # YJ: repr of a list or tuple that holds one own object, as data; also while an exception is handled -/
namespace DS
open PySem PySem.Spec PyProof.Rows L2 PySem.W PySem.Calls

/-- what it promises while ob (at k.x) is handled -/
structure FnX0 (b : Base) (n : Nat) (f : Addr) (fd : FuncData) (ps : List Str) (G : Hx → Fn) : Prop where
  run : ∀ (k : Hx) (ob : Obj) (A : Around) (out : List Env) (s : Shared) (H : Hp) (ar : Args) (us : List Value) (vs : List V) (Q : VK), L2H.RoomH n A → L2H.PinOk out H s (k.x, ob) → ob.cls = .ref (He.ga b.K k.c) → ob.dict = k.dd → (∃ vs, ob.data = .fields vs) → Env0 b.P b.w b.K b.mg b.base A out s H → BindsTo s fd ar (ps.zip us) → Vals vs us →
    spOf b.K ps.length (G k) vs H Q (fun _ _ _ => False) → codeAny (model b.P b.w) A (.call (.ref f) ar) (CR (L2.CX b.P b.w) out b.P b.w H s Q (fun _ _ _ => False)) s

abbrev Base.hot0 (b : Base) (N : List Str) (sc : Scope) (n : Nat) (k : Hx) (ob : Obj) : SC := ⟨b.P, b.w, b.K, b.mg, b.base, N, sc, n, fun _ => true, false, false, some (k, ob), true, none, 0⟩
/-! ### as data -/
def oneQ (cn : Str) (G : Fn) (d : D) (m : Mu) (t : Str → Str) : Out D := match insOf m d with
  | some (c, _) => if c = cn then (match G [d] m with
    | .ok (.str y) m' => if y.length + 10 ≤ sizeLine then .ok (.str (t y)) m' else .stuck
    | _ => .stuck) else .stuck
  | none => .stuck
def reprL (cn : Str) (G : Fn) (ds : List D) (m : Mu) : Out D := match ds with
  | [.lst [d]] => oneQ cn G d m (fun y => listText [y])
  | _ => .stuck
def reprT (cn : Str) (G : Fn) (ds : List D) (m : Mu) : Out D := match ds with
  | [.tup [d]] => oneQ cn G d m (fun y => tupleText [y])
  | _ => .stuck
section
variable {c : SC}

end
end DS

/-! # YK: dicts of the module whose keys are texts and whose values are numbers (a hook that reads them, D.get(..)) -/
namespace DS
open PySem PySem.Spec PyProof.Rows L2
def kvh (e : DictEntry) : Option (Str × Int × Int) := match e.key, e.val with
  | .str x _, .int i _ => some (x, e.hash, i)
  | _, _ => none
abbrev Tb2 : Type := Str × List (Str × Int)
def kvsIn (P : Params) (kvs : List (Str × Int)) : List (Option (Str × Int × Int)) := kvs.map fun k => some (k.1, PyData.keyHash P k.1, k.2)
def dicW2 (K : PySem.W.Frag) (a : Addr) : Option (List (Option (Str × Int × Int))) := match K.lookup a with
  | some ⟨.type c, none, .dict es _, sl⟩ => (match decide (c = "dict") && (sl.isEmpty && !(a == sysModules)) with
    | true => some (es.toList.map kvh)
    | false => none)
  | _ => none
/-- the module's name x stands for a dict with these entries -/
def TabIs (K : PySem.W.Frag) (w : World) (x : Str) (kvs : List (Str × Int)) : Prop := ∃ es n, KDict K w (He.ga K x) es n ∧ es.toList.map kvh = kvsIn w.params kvs
theorem kvh_of {e : DictEntry} {x : Str} {h i : Int} (q : kvh e = some (x, h, i)) : (∃ t, e.key = .str x t) ∧ e.hash = h ∧ ∃ t, e.val = .int i t := by
  unfold kvh at q
  split at q
  · rename_i y t j u h1 h2
    cases q
    exact ⟨⟨_, h1⟩, rfl, _, h2⟩
  · cases q
theorem keysLit2 {P : Params} : ∀ {l : List DictEntry} {kvs : List (Str × Int)}, l.map kvh = kvsIn P kvs → PySem.W.KeysLit P l
  | [], _, _ => trivial
  | e :: r, [], h => by cases h
  | e :: r, k :: ks, h => by
    have h1 : kvh e :: r.map kvh = some (k.1, PyData.keyHash P k.1, k.2) :: kvsIn P ks := h
    injection h1 with h2 h3
    obtain ⟨⟨t, a⟩, b, _⟩ := kvh_of h2
    exact ⟨⟨k.1, t, a, b⟩, keysLit2 h3⟩
theorem dicW2_ok {K : PySem.W.Frag} {w : World} {x : Str} {kvs : List (Str × Int)} (h : dicW2 K (He.ga K x) = some (kvsIn w.params kvs)) : TabIs K w x kvs := by
  unfold dicW2 at h
  obtain ⟨a, ha⟩ : ∃ a, a = He.ga K x := ⟨_, rfl⟩
  unfold TabIs
  rw [← ha] at h ⊢
  cases q : K.lookup a with
  | none => rw [q] at h; cases h
  | some o =>
    obtain ⟨oc, od, dt, osl⟩ := o
    rw [q] at h
    cases oc with
    | type c =>
      cases od with
      | none =>
        cases dt with
        | dict es n =>
          have h1 : (match decide (c = "dict") && (osl.isEmpty && !(a == sysModules)) with
            | true => some (es.toList.map kvh)
            | false => none) = some (kvsIn w.params kvs) := h
          cases z : decide (c = "dict") && (osl.isEmpty && !(a == sysModules)) with
          | false => rw [z] at h1; cases h1
          | true =>
            rw [z] at h1
            obtain ⟨z1, z2⟩ := He.ba z
            obtain ⟨z3, z4⟩ := He.ba z2
            have e1 : c = "dict" := of_decide_eq_true z1
            have e2 : osl = #[] := Array.isEmpty_iff.mp z3
            have e3 : (a == sysModules) = false := by
              cases y : a == sysModules with
              | false => rfl
              | true => rw [y] at z4; cases z4
            subst e1 e2
            exact ⟨es, n, ⟨q, keysLit2 (Option.some.inj h1), e3⟩, Option.some.inj h1⟩
        | _ => cases h
      | some b => cases dt <;> cases h
    | _ => cases od <;> cases dt <;> cases h
/-! ### D.get(k) -/
def xKGet (x : Str) (kvs : List (Str × Int)) (fo fe : XE') : XE' := fun r m => (fo r m).bind fun d m1 => match d with
  | .glo y => if y = x then (fe r m1).bind fun k m2 => match k with
      | .str z => .ok (match kvs.lookup z with
        | some i => .int i
        | none => .non) m2
      | _ => .stuck
    else .stuck
  | _ => .stuck
section
variable {c : SC} {W : WX} {o e : Expr} {apos cpos : Pos} {fo fe : XE'}
end
/-! ### the hook -/
abbrev AlS : Type := AlM × List (Option (List (Option (Str × Int × Int))))
def obsS (n : Nat) (L : Tl) (ts : List Tb2) (g : Addr → Option Obj) : AlS := (obsMR n L g, ts.map fun t => dicW2 (He.frG g (kAsR g n)) (He.ga (He.frG g (kAsR g n)) t.1))
def valS (L : Tl) (ts : List Tb2) (w : World) : AlS := (valM L, ts.map fun t => some (kvsIn w.params t.2))
def hookS (n : Nat) (L : Tl) (ts : List Tb2) : PySem.W.Hook where
  α := AlS
  obs := fun s => obsS n L ts s.heap.get?
  val := fun w => valS L ts w
  says := fun w h => ∃ K : PySem.W.Frag, K.In h ∧ SaysM L K ∧ (∀ x ∈ L.tb, h.get? (tabP K x) = some (PySem.W.tabObj #[])) ∧ ∀ t ∈ ts, TabIs K w t.1 t.2
  of := fun w s e => by
    have e1 : obsMR n L s.heap.get? = valM L := congrArg (fun z : AlS => z.1) e
    have e2 : (ts.map fun t => dicW2 (He.frG s.heap.get? (kAsR s.heap.get? n)) (He.ga (He.frG s.heap.get? (kAsR s.heap.get? n)) t.1)) = ts.map fun t => some (kvsIn w.params t.2) := congrArg (fun z : AlS => z.2) e
    obtain ⟨c, t⟩ := saysM_of e1
    exact ⟨_, He.frG_in, c, t, fun t ht => dicW2_ok (map_at e2 ht)⟩
  keeps := fun _ _ _ ⟨K, hK, c, t, d⟩ k => ⟨K, PySem.W.Frag.In.keeps hK k, c, fun x hx => k _ _ (t x hx), d⟩
structure TxS (L : Tl) (ts : List Tb2) (b : Base) : Prop extends Tx L b where
  tabs : ∀ t ∈ ts, TabIs b.K b.w t.1 t.2
theorem TxS.tbl {L : Tl} {ts : List Tb2} {b : Base} (T : TxS L ts b) (i : Nat) {x : Str} {kvs : List (Str × Int)} (h : ts[i]? = some (x, kvs) := by rfl) : TabIs b.K b.w x kvs := T.tabs (x, kvs) (List.mem_of_getElem? h)
/-! ### the walk -/
/-! ### the run at both ways of a row of the text -/
/-! ### frames -/
/-! ### keyword calls where guards are known -/
section
variable {c : SC} {W : WX} {pos : Pos} {es : List Expr} {x : Str} {p0 : Pos} {k : Nat} {f : Addr} {fd : FuncData} {ps : List Str} {G : Fn}
end
end DS

namespace DS
open PySem PySem.Spec PyProof.Rows L2
variable {c : SC}
/-! ### `is` and `is not` between bools -/
def isB (d e : D) (m : Mu) : Out D := match d, e with
  | .bl a, .bl b => .ok (.bl (a == b)) m
  | _, _ => .stuck
def isntB (d e : D) (m : Mu) : Out D := match d, e with
  | .bl a, .bl b => .ok (.bl (!(a == b))) m
  | _, _ => .stuck
end DS

/-! # YN: x in a tuple of data of any depth -/
namespace DS
open PySem PySem.Spec PyProof.Rows L2
section
variable {X : Cx}
def rInT (K : PySem.W.Frag) : R2 := fun x y H Q => ∃ d ds, Dp K H x d ∧ Dp K H y (.tuple ds) ∧ SeqAt.shaped d = true ∧ SeqAt.shaped (.tuple ds) = true ∧ Q (.bl (ds.any fun z => PyData.eqv z d)) H
def rNinT (K : PySem.W.Frag) : R2 := fun x y H Q => ∃ d ds, Dp K H x d ∧ Dp K H y (.tuple ds) ∧ SeqAt.shaped d = true ∧ SeqAt.shaped (.tuple ds) = true ∧ Q (.bl (!ds.any fun z => PyData.eqv z d)) H
end
section
variable {c : SC}
/-- x in a tuple of all kinds of data -/
def inT (d e : D) (m : Mu) : Out D := match toP (dere m d), toP (dere m e) with
  | some p, some (.tuple qs) => if SeqAt.shaped p && SeqAt.shaped (.tuple qs) then .ok (.bl (qs.any fun z => PyData.eqv z p)) m else .stuck
  | _, _ => .stuck
def ninT (d e : D) (m : Mu) : Out D := match toP (dere m d), toP (dere m e) with
  | some p, some (.tuple qs) => if SeqAt.shaped p && SeqAt.shaped (.tuple qs) then .ok (.bl (!qs.any fun z => PyData.eqv z p)) m else .stuck
  | _, _ => .stuck
end
end DS

/-! # YO: dicts whose keys are tuples of texts and numbers (`Cell.dtt`); objects whose last field is something new that changes -/
namespace DS
open PySem PySem.Spec PyProof.Rows L2
def keyL : List D → Option (List Key)
  | [] => some []
  | .str x :: r => (keyL r).map fun k => .inr x :: k
  | .int i :: r => (keyL r).map fun k => .inl i :: k
  | _ => none
def dVal (gs : List (List Key × D)) (k : List Key) : Option D := (gs.find? fun p => decide (p.1 = k)).map (·.2)
def dPut (gs : List (List Key × D)) (k : List Key) (d : D) : List (List Key × D) :=
  if (gs.any fun p => decide (p.1 = k)) = true then gs.map (fun p => if p.1 = k then (p.1, d) else p) else gs ++ [(k, d)]
def dttOf (m : Mu) : D → Option (List (List Key × D))
  | .loc n => match m[n]? with
    | some (.dtt gs) => some gs
    | _ => none
  | _ => none
section
variable {K : PySem.W.Frag} {F H : Hp} {al : List Addr} {m : Mu}
theorem keyL_ok : ∀ {ds : List D} {vs : List V} {k : List Key}, RpL K F al ds vs → keyL ds = some k → vs = k.map kV
  | [], _, _, .nil, e => by cases e; rfl
  | d :: ds, _, k, .cons r q, e => by
    cases d with
    | str x =>
      cases r
      rw [keyL] at e
      obtain ⟨k', h, rfl⟩ := Option.map_eq_some_iff.mp e
      rw [keyL_ok q h]
      rfl
    | int i =>
      cases r
      rw [keyL] at e
      obtain ⟨k', h, rfl⟩ := Option.map_eq_some_iff.mp e
      rw [keyL_ok q h]
      rfl
    | _ => simp [keyL] at e
theorem dttOf_ok {d : D} {v : V} {gs : List (List Key × D)} (w : Wd K F al m H) (r : Rp K F al d v) (h : dttOf m d = some gs) :
    ∃ n a ks, d = .loc n ∧ v = .ref a ∧ al[n]? = some a ∧ m[n]? = some (.dtt gs) ∧ F a = none ∧ H a = some (.dT ks) ∧ ks.map (·.1) = gs.map (·.1) ∧ RpL K F al (gs.map (·.2)) (ks.map (·.2)) := by
  cases r with
  | @loc n a s =>
    unfold dttOf at h
    cases e : m[n]? with
    | none => simp [e] at h
    | some cl =>
      cases cl with
      | dtt ys =>
        simp [e] at h
        subst h
        obtain ⟨z, ks, h1, h2, h3⟩ := w.cell n a _ s e
        exact ⟨n, a, ks, rfl, rfl, s, e, z, h1, h2, h3⟩
      | _ => simp [e] at h
  | _ => simp [dttOf] at h
theorem dVal_rel (k : List Key) : ∀ {gs : List (List Key × D)} {ks : List (List Key × V)}, ks.map (·.1) = gs.map (·.1) → RpL K F al (gs.map (·.2)) (ks.map (·.2)) →
    (dVal gs k = none → valV ks k = none) ∧ ∀ d, dVal gs k = some d → ∃ v, valV ks k = some v ∧ Rp K F al d v
  | [], [], _, _ => ⟨fun _ => rfl, fun d e => nomatch e⟩
  | [], _ :: _, e, _ => nomatch e
  | _ :: _, [], e, _ => nomatch e
  | (a, x) :: gs, (b, y) :: ks, e, .cons r q => by
    have e1 : b = a := (List.cons.inj e).1
    have e2 : ks.map (·.1) = gs.map (·.1) := (List.cons.inj e).2
    subst e1
    have ih := dVal_rel k e2 q
    by_cases h : b = k
    · rw [valV_pos (p := (b, y)) h]
      unfold dVal
      rw [List.find?_cons, decide_eq_true h]
      exact ⟨fun z => (by cases z), fun d z => ⟨y, rfl, by cases z; exact r⟩⟩
    · rw [valV_neg (p := (b, y)) h]
      unfold dVal at ih ⊢
      rw [List.find?_cons, decide_eq_false h]
      exact ih
theorem dPut_rel {d : D} {v : V} (k : List Key) (r : Rp K F al d v) {gs : List (List Key × D)} {ks : List (List Key × V)} (e : ks.map (·.1) = gs.map (·.1)) (q : RpL K F al (gs.map (·.2)) (ks.map (·.2))) :
    (putK ks k v).map (·.1) = (dPut gs k d).map (·.1) ∧ RpL K F al ((dPut gs k d).map (·.2)) ((putK ks k v).map (·.2)) := by
  have ea : (ks.any fun p => decide (p.1 = k)) = (gs.any fun p => decide (p.1 = k)) := by
    have h1 : (ks.any fun p => decide (p.1 = k)) = (ks.map (·.1)).any fun x => decide (x = k) := by rw [List.any_map]; rfl
    have h2 : (gs.any fun p => decide (p.1 = k)) = (gs.map (·.1)).any fun x => decide (x = k) := by rw [List.any_map]; rfl
    rw [h1, h2, e]
  unfold putK dPut
  rw [ea]
  split
  · have go : ∀ {gs : List (List Key × D)} {ks : List (List Key × V)}, ks.map (·.1) = gs.map (·.1) → RpL K F al (gs.map (·.2)) (ks.map (·.2)) →
        (ks.map fun p => if p.1 = k then (p.1, v) else p).map (·.1) = (gs.map fun p => if p.1 = k then (p.1, d) else p).map (·.1) ∧ RpL K F al ((gs.map fun p => if p.1 = k then (p.1, d) else p).map (·.2)) ((ks.map fun p => if p.1 = k then (p.1, v) else p).map (·.2)) := by
      intro gs
      induction gs with
      | nil =>
        intro ks e q
        cases ks with
        | nil => exact ⟨rfl, .nil⟩
        | cons _ _ => exact nomatch e
      | cons p gs ih =>
        intro ks e q
        cases ks with
        | nil => exact nomatch e
        | cons p2 ks =>
          obtain ⟨a, x⟩ := p
          obtain ⟨b, y⟩ := p2
          have e1 : b = a := (List.cons.inj e).1
          have e2 : ks.map (·.1) = gs.map (·.1) := (List.cons.inj e).2
          subst e1
          cases q with
          | cons r0 q =>
            obtain ⟨i1, i2⟩ := ih e2 q
            simp only [List.map_cons]
            by_cases h : b = k
            · rw [if_pos h, if_pos h]
              exact ⟨by rw [i1], .cons r i2⟩
            · rw [if_neg h, if_neg h]
              exact ⟨by rw [i1], .cons r0 i2⟩
    exact go e q
  · rw [List.map_append, List.map_append, List.map_append, List.map_append, e]
    exact ⟨rfl, q.snoc r⟩
theorem dPut_in {n : Nat} {d : D} (k : List Key) (h : d.inB n = true) {gs : List (List Key × D)} (g : D.inL n (gs.map (·.2)) = true) : D.inL n ((dPut gs k d).map (·.2)) = true := by
  unfold dPut
  split
  · rename_i hk
    clear hk
    induction gs with
    | nil => rfl
    | cons p gs ih =>
      rw [List.map_cons, D.inL, Bool.and_eq_true] at g
      simp only [List.map_cons]
      rw [D.inL, ih g.2]
      split
      · rw [h]; rfl
      · rw [g.1]; rfl
  · rw [List.map_append]
    exact inL_append g (by show D.inL n [d] = true; rw [D.inL, h, D.inL]; rfl)
end
section
variable {c : SC} {W : WX} {pos p1 p2 : Pos} {e e2 : Expr} {es : List Expr} {fa : XA} {fe fv : XE'} {kt : Nat}
/-- {}: a dict whose keys will be tuples -/
def xNewT : XE' := fun _ m => .ok (.loc m.length) (m ++ [.dtt []])
theorem de_newT : DE c W (.Dict [] [] pos) xNewT := by
  refine ⟨_, fun y hy => pe_dnewT, fun ρ m σ H F al Q he hw p => fun q hq => ?_⟩
  have hlast : (al ++ [q])[m.length]? = some q := by rw [← hw.len, List.getElem?_append_right (Nat.le_refl _), Nat.sub_self]; rfl
  exact p _ (upd H q (.dT [])) F (al ++ [q]) Le.snoc (hw.newCell (c := .dtt []) hq ⟨hw.fnone hq, [], upd_same, rfl, .nil⟩ rfl) (.loc hlast)
/-- (e, ..) not in d -/
def ninK (ds : List D) (d : D) (m : Mu) : Out D := match keyL ds, dttOf m d with
  | some k, some gs => .ok (.bl (!(dVal gs k).isSome)) m
  | _, _ => .stuck
def xNinK (fa : XA) (fd : XE') : XE' := fun r m => (fa r m).bind fun ds m1 => if ds.length ≤ 100 then (fd r m1).bind (ninK ds) else .stuck
def tNinK (ta : TA) (td : TE) : TE := tDNotIn (tTup ta) td
theorem ninK_ok {ta : TA} {td : TE}
    (a2 : ∀ r m σ H F al Q, EnvOk c.K F al r σ → Wd c.K F al m H → Post c.K (RL c.K) (atS W σ) F al Q (fa r m) → ta σ H Q)
    (d2 : ∀ r m σ H F al Q, EnvOk c.K F al r σ → Wd c.K F al m H → Post c.K (RD c.K) (atS W σ) F al Q (fe r m) → td σ H Q)
    {ρ : Rho} {m : Mu} {σ : L2.St} {H : Hp} {F : Hp} {al : List Addr} {Q : VK} (he : EnvOk c.K F al ρ σ) (hw : Wd c.K F al m H) (p : Post c.K (RD c.K) (atS W σ) F al Q (xNinK fa fe ρ m)) : tNinK ta td σ H Q := by
  refine a2 ρ m σ H F al _ he hw (Post.step p fun ds m1 vs H1 F1 al1 e1 w1 q1 p1 => ?_)
  split at p1
  · rename_i hl
    refine ⟨by rw [← q1.len]; exact small_line (by omega), fun b hb => ?_⟩
    have le := ext_new (o := .tup vs) (al := al1) (w1.fnone hb)
    refine d2 ρ m1 σ _ (upd F1 b (.tup vs)) al1 _ ((he.up e1).up le) (w1.new hb) (Post.step (p1.up le) fun d m2 v H2 F2 al2 e2 w2 q2 p2 => ?_)
    unfold ninK at p2
    split at p2
    · rename_i k gs hk hg
      obtain ⟨n, a, ks, rfl, rfl, s, hm, hf, h1, h2, h3⟩ := dttOf_ok w2 q2 hg
      have hv := keyL_ok q1 hk
      subst hv
      have hb2 : H2 b = some (.tup (k.map kV)) := w2.sub _ _ (e2.f _ _ upd_same)
      refine ⟨a, _, rfl, .t h1 hb2, ?_⟩
      have hs : (valV ks k).isSome = (dVal gs k).isSome := by
        have z := dVal_rel k h2 h3
        cases q : dVal gs k with
        | none => rw [z.1 q]; rfl
        | some d => obtain ⟨v, hv, _⟩ := z.2 d q; rw [hv]; rfl
      rw [hs]
      exact p2 _ H2 F2 al2 Le.refl w2 (.bl _)
    · exact p2.elim
  · exact p1.elim
theorem dt_ninK (ha : DA c W es fa) (hd : DE c W e fe) (hm : behindInMarks .NotIn e = false := by rfl) : DT c W (.Compare (.Tuple es kt p1) [.NotIn] [e] pos) (xTest (xNinK fa fe)) := by
  obtain ⟨⟨ta, a1, a2⟩, _⟩ := ha
  obtain ⟨td, d1, d2⟩ := hd
  refine ⟨tB (tNinK ta td), fun y hy => pt_cmp (pc_dnotin (X := c.cx y) (show y.A.units + 1 < cLine by have := hy.un64; omega) (pe_tup (a1 y hy)) (d1 y hy)) hm, fun ρ m σ H F al Q he hw p => ?_⟩
  refine ninK_ok a2 d2 he hw (Post.step p fun d m1 v H1 F1 al1 e1 w1 q1 p1 => ?_)
  obtain ⟨k, rfl, q⟩ := Post.asB w1 q1 p1
  exact ⟨k, rfl, q⟩
/-- d[(e, ..)] -/
def getK (d : D) (ds : List D) (m : Mu) : Out D := if ds.length ≤ 100 then (match keyL ds, dttOf m d with
  | some k, some gs => (match dVal gs k with
    | some v => .ok v m
    | none => .stuck)
  | _, _ => .stuck) else .stuck
def xGetK (fd : XE') (fa : XA) : XE' := fun r m => (fd r m).bind fun d m1 => (fa r m1).bind (getK d)
theorem de_getK (hd : DE c W e fe) (ha : DA c W es fa) (hs : NoSl (.Tuple es kt p1) := by exact fun _ _ => rfl) : DE c W (.Subscript e (.Tuple es kt p1) pos) (xGetK fe fa) := by
  obtain ⟨⟨ta, a1, a2⟩, _⟩ := ha
  obtain ⟨td, d1, d2⟩ := hd
  refine ⟨tDGet td (tTup ta), fun y hy => pe_dget (X := c.cx y) (show y.A.units + 1 < cLine by have := hy.un64; omega) (d1 y hy) (pe_tup (a1 y hy)) hs, fun ρ m σ H F al Q he hw p => ?_⟩
  refine d2 ρ m σ H F al _ he hw (Post.step p fun d m1 v H1 F1 al1 e1 w1 q1 p1 => a2 ρ m1 σ H1 F1 al1 _ (he.up e1) w1 (Post.step p1 fun ds m2 vs H2 F2 al2 e2 w2 q2 p2 => ?_))
  have q1 := q1.up e2
  unfold getK at p2
  split at p2
  · rename_i hl
    refine ⟨by rw [← q2.len]; exact small_line (by omega), fun b hb => ?_⟩
    have le := ext_new (o := .tup vs) (al := al2) (w2.fnone hb)
    have w3 := w2.new (o := .tup vs) hb
    split at p2
    · rename_i k gs hk hg
      obtain ⟨n, a, ks, rfl, rfl, s, hm, hf, h1, h2, h3⟩ := dttOf_ok w3 (q1.up le) hg
      have hv := keyL_ok q2 hk
      subst hv
      split at p2
      · rename_i dv hdv
        obtain ⟨v, hv, rv⟩ := (dVal_rel k h2 h3).2 dv hdv
        exact ⟨a, v, rfl, by rw [← hv]; exact .t h1 upd_same, p2 _ _ _ al2 le w3 rv⟩
      · exact p2.elim
    · exact p2.elim
  · exact p2.elim
/-- d[(e, ..)] = e -/
def putKX (od : D) (ds : List D) (d : D) (m : Mu) : Out Unit := match od, keyL ds, dttOf m od with
  | .loc n, some k, some gs => if ds.length ≤ 100 ∧ gs.length < 100000 ∧ d.inB n = true then .ok () (m.set n (.dtt (dPut gs k d))) else .stuck
  | _, _, _ => .stuck
def sPutK (fd : XE') (fa : XA) (fv : XE') : XS := fun r m => (fv r m).stm r fun d m1 => (fd r m1).stm r fun od m2 => (fa r m2).stm r fun ds m3 => (putKX od ds d m3).stm r fun _ m4 => .next r m4
theorem ds_putK (hd : DE c W e fe) (ha : DA c W es fa) (hv : DE c W e2 fv) (hs : ∀ env, env.scope = c.sc → swapsWith e2 (some (.Subscript e (.Tuple es kt p1) p2)) pos.line env = pure false := by (intro env h; rfl)) :
    DSt c W (.Assign [.Subscript e (.Tuple es kt p1) p2] e2 pos) (sPutK fe fa fv) := by
  obtain ⟨⟨ta, a1, a2⟩, _⟩ := ha
  obtain ⟨td, d1, d2⟩ := hd
  obtain ⟨tv, v1, v2⟩ := hv
  refine ⟨_, fun y hy => ps_dput (X := c.cx y) (show y.A.units + 1 < cLine by have := hy.un64; omega) (d1 y hy) (pe_tup (a1 y hy)) (v1 y hy) (hs _ hy.scope), fun ρ m σ H F al E he hw p => ?_⟩
  refine v2 ρ m σ H F al _ he hw (PostS.step he p fun d m1 v H1 F1 al1 e1 w1 q1 p1 => ?_)
  refine d2 ρ m1 σ H1 F1 al1 _ (he.up e1) w1 (PostS.step (he.up e1) p1 fun od m2 ov H2 F2 al2 e2 w2 q2 p2 => ?_)
  refine a2 ρ m2 σ H2 F2 al2 _ ((he.up e1).up e2) w2 (PostS.step ((he.up e1).up e2) p2 fun ds m3 vs H3 F3 al3 e3 w3 q3 p3 => ?_)
  have qd := (q1.up e2).up e3
  have qo := q2.up e3
  have he3 := ((he.up e1).up e2).up e3
  unfold putKX at p3
  split at p3
  · rename_i n k gs hk hg
    split at p3
    · rename_i hc
      refine ⟨by rw [← q3.len]; exact small_line (by omega), fun b hb => ?_⟩
      have le := ext_new (o := .tup vs) (al := al3) (w3.fnone hb)
      have w4 := w3.new (o := .tup vs) hb
      obtain ⟨n', a, ks, hn', rfl, s, hm, hf, h1, h2, h3⟩ := dttOf_ok w4 (qo.up le) hg
      cases hn'
      have hv := keyL_ok q3 hk
      subst hv
      have hlen : ks.length = gs.length := by
        have := congrArg List.length h2
        rwa [List.length_map, List.length_map] at this
      obtain ⟨r1, r2⟩ := dPut_rel k (qd.up le) h2 h3
      have hgn : D.inL n (gs.map (·.2)) = true := w4.gen _ _ hm
      refine ⟨a, _, rfl, DPut.t h1 upd_same (by rw [hlen]; exact Nat.lt_of_lt_of_le hc.2.1 (small_line (Nat.le_refl _))), ?_⟩
      exact p3 σ _ (upd F3 b (.tup (k.map kV))) al3 le (w4.write (c := .dtt (dPut gs k d)) s hf ⟨hf, putK ks k v, upd_same, r1, r2⟩ (dPut_in k hc.2.2 hgn)) (he3.up le)
    · exact p3.elim
  · exact p3.elim
end
/-! ### C(e, ..) where __init__ ends with self.f = something new -/
section
variable {K : PySem.W.Frag} {F H : Hp} {al : List Addr} {m : Mu}
theorem CellOk.upZ {F' H' : Hp} {al' : List Addr} {b : Addr} {c : Cell} (e : Le F al F' al') (hF : F b = none → F' b = none) (hH : H b ≠ none → H' b = H b) (hn : notO c = true) (h : CellOk K F al H b c) : CellOk K F' al' H' b c := by
  cases c with
  | opn xs h0 ls => cases hn
  | lst ds =>
    obtain ⟨z, vs, h1, h2⟩ := h
    exact ⟨hF z, vs, by rw [hH (by rw [h1]; simp)]; exact h1, h2.up e⟩
  | ins c gs =>
    obtain ⟨z, dx, fs, h1, h2⟩ := h
    exact ⟨hF z, dx, fs, by rw [hH (by rw [h1]; simp)]; exact h1, h2.up e⟩
  | dct gs =>
    obtain ⟨z, fs, h1, h2⟩ := h
    exact ⟨hF z, fs, by rw [hH (by rw [h1]; simp)]; exact h1, h2.up e⟩
  | dead => exact let ⟨o, z⟩ := h; ⟨o, e.f _ _ z⟩
  | dtt gs =>
    obtain ⟨z, ks, h1, hk, h2⟩ := h
    exact ⟨hF z, ks, by rw [hH (by rw [h1]; simp)]; exact h1, hk, h2.up e⟩
  | tab q =>
    obtain ⟨z, ps, h1, h2, h3⟩ := h
    exact ⟨⟨hF z.1, z.2⟩, ps, by rw [hH (by rw [h1]; simp)]; exact h1, h2, fun pos cv hc => let ⟨c, e1, e2⟩ := h3 pos cv hc; ⟨c, e1, e.f _ _ e2⟩⟩
theorem le_take {n : Nat} : Le F (al.take n) F al := ⟨fun _ _ e => e, fun k a e => by
  have := (List.getElem?_eq_some_iff.mp e).1
  rw [List.length_take] at this
  rwa [List.getElem?_take_of_lt (by omega)] at e⟩
/-- the objects stand in another order behind n, and x is written -/
theorem CellOk.perm {H' : Hp} {al' : List Addr} {n : Nat} {x b : Addr} {c : Cell} (h : CellOk K F al H b c) (hi : c.inB n = true) (hA : al.take n = al'.take n) (hs : ∀ q, q ∉ al → q ∉ al') (hx : x ∈ al) (hH : ∀ y, y ≠ x → H' y = H y) (hb : b ≠ x) : CellOk K F al' H' b c := by
  have h' := h.cut hi
  rw [hA] at h'
  have le : Le F (al'.take n) F al' := le_take
  cases c with
  | opn xs h0 ls =>
    obtain ⟨z, vs, p, q, hv, ws, h1, h2, h3, h4, h5, h6, h7⟩ := h'
    obtain ⟨_, vs', p', q', hv', ws', g1, _, g3, _, g5, g6, _⟩ := h
    have e1 := (List.append_inj' (HO.lst.inj (Option.some.inj (h1.symm.trans g1))) rfl).2
    have e2 : p = p' := V.ref.inj (List.cons.inj e1).1
    subst e2
    have e3 := HO.lst.inj (Option.some.inj (h3.symm.trans g3))
    have e4 : q = q' := V.ref.inj (List.cons.inj (List.cons.inj e3).2).1
    subst e4
    have hq : q ≠ x := fun e => g5.2 (e ▸ hx)
    exact ⟨z, vs, p, q, hv, ws, by rw [hH _ hb]; exact h1, h2.up le, h3, h4.up le, ⟨h5.1, hs _ g5.2⟩, by rw [hH _ hq]; exact h6, h7.up le⟩
  | lst ds => exact h'.upZ le (fun z => z) (fun _ => hH _ hb) rfl
  | ins c gs => exact h'.upZ le (fun z => z) (fun _ => hH _ hb) rfl
  | dct gs => exact h'.upZ le (fun z => z) (fun _ => hH _ hb) rfl
  | dead => exact h'.upZ le (fun z => z) (fun _ => hH _ hb) rfl
  | dtt gs => exact h'.upZ le (fun z => z) (fun _ => hH _ hb) rfl
  | tab q => exact h'.upZ le (fun z => z) (fun _ => hH _ hb) rfl
/-- one more object is looked at -/
theorem Wd.addCell {q : Addr} {c : Cell} (w : Wd K F al m H) (ho : ∀ (k : Nat) (b : Addr) (c' : Cell), al[k]? = some b → m[k]? = some c' → CellOk K F (al ++ [q]) H b c') (hq : H q ≠ none) (hn : q ∉ al) (hc : CellOk K F (al ++ [q]) H q c) (hg : c.inB m.length = true) : Wd K F (al ++ [q]) (m ++ [c]) H := by
  refine ⟨w.sub, by simp [w.len], ?_, fun k b c' h1 h2 => ?_, fun k c' h2 => ?_, fun b hb => ?_, w.nt⟩
  · rw [List.nodup_append]
    exact ⟨w.nd, List.nodup_cons.mpr ⟨List.not_mem_nil, List.nodup_nil⟩, fun x hx y hy e => by
      rw [List.mem_singleton.mp hy] at e
      exact hn (e ▸ hx)⟩
  · by_cases hk : k < m.length
    · rw [List.getElem?_append_left (by rw [w.len]; exact hk)] at h1
      rw [List.getElem?_append_left hk] at h2
      exact ho k b c' h1 h2
    · have hk2 : k < (m ++ [c]).length := (List.getElem?_eq_some_iff.mp h2).1
      rw [List.length_append] at hk2
      have hk3 : k = m.length := by simp at hk2; omega
      subst hk3
      rw [List.getElem?_append_right (Nat.le_refl _), Nat.sub_self] at h2
      cases h2
      rw [← w.len, List.getElem?_append_right (Nat.le_refl _), Nat.sub_self] at h1
      cases h1
      exact hc
  · by_cases hk : k < m.length
    · rw [List.getElem?_append_left hk] at h2
      exact w.gen k c' h2
    · have hk2 : k < (m ++ [c]).length := (List.getElem?_eq_some_iff.mp h2).1
      rw [List.length_append] at hk2
      have hk3 : k = m.length := by simp at hk2; omega
      subst hk3
      rw [List.getElem?_append_right (Nat.le_refl _), Nat.sub_self] at h2
      cases h2
      exact hg
  · rcases List.mem_append.mp hb with hb | hb
    · exact w.tr b hb
    · rw [List.mem_singleton.mp hb]; exact hq
/-- something that nobody looks at is written -/
theorem Wd.free {x : Addr} {o : HO} (w : Wd K F al m H) (ho : ∀ (k : Nat) (b : Addr) (c' : Cell), al[k]? = some b → m[k]? = some c' → CellOk K F al (upd H x o) b c') (hx : x ∉ al) (hf : F x = none) : Wd K F al m (upd H x o) := by
  have ne : ∀ b ∈ al, b ≠ x := fun b hb e => hx (e ▸ hb)
  refine ⟨fun b u e => ?_, w.len, w.nd, fun k b c' h1 h2 => ?_, w.gen, fun b hb => ?_, w.nt⟩
  · have hb : b ≠ x := fun z => by rw [z, hf] at e; cases e
    rw [upd_ne hb]; exact w.sub b u e
  · exact ho k b c' h1 h2
  · rw [upd_ne (ne b hb)]; exact w.tr b hb
end
def endN (cn fld : Str) (n : Nat) (d : D) (m2 : Mu) : Out D := match d, m2[n]?, m2[n + 1]? with
  | .loc k, some (.ins c' gs), some cl => if k = n + 1 ∧ m2.length = n + 2 ∧ c' = cn ∧ gs.length < 1000 ∧ cl.inB n = true ∧ D.inF n gs = true ∧ notO cl = true then .ok (.loc (n + 1)) (m2.take n ++ [cl, .ins cn (putD fld (.loc n) gs)]) else .stuck
  | _, _, _ => .stuck
def initN (cn fld : Str) (N : Nat) (g : XS) (fe : XE') (ds : List D) (m : Mu) : Out D := match g (rho0 N (.loc m.length :: ds)) (m ++ [.ins cn []]) with
  | .next r m1 => (match r[0]? with
    | some (some (D.loc k)) => if k = m.length then (match fe r m1 with
      | .ok d m2 => endN cn fld m.length d m2
      | _ => .stuck) else .stuck
    | _ => .stuck)
  | _ => .stuck
def spN (K : PySem.W.Frag) (n : Nat) (cn fld : Str) (N : Nat) (g : XS) (fe : XE') : Sp := fun vs H Q E => ∃ (x : Addr) (us : List V) (ds : List D) (m : Mu) (F : Hp) (al : List Addr), vs = .ref x :: us ∧ ds.length + 1 = n ∧ RpL K F al ds us ∧ Wd K F (al ++ [x]) (m ++ [.ins cn []]) H ∧
  Post K (RD K) E F al (fun v H' => v = .ref x → Q .non H') (initN cn fld N g fe ds m)
theorem end_ok {K : PySem.W.Frag} {E : XK} {F F2 : Hp} {al al2 : List Addr} {m m2 : Mu} {H2 : Hp} {Q : VK} {cn fld : Str} {d : D} {v : V} {x : Addr} (hal : al.length = m.length) (le : Le F al F2 al2) (w : Wd K F2 al2 m2 H2) (hx : al2[m.length]? = some x) (r : Rp K F2 al2 d v) (p : Post K (RD K) E F al Q (endN cn fld m.length d m2)) :
    ∃ dx fs, H2 x = some (.ins (He.ga K cn) dx fs) ∧ fs.length < 1000 ∧ Q (.ref x) (upd H2 x (.ins (He.ga K cn) dx (putF fld v fs))) := by
  unfold endN at p
  split at p
  · rename_i k c' gs cl hc1 hc2
    split at p
    · rename_i hc
      obtain ⟨rfl, hl, rfl, hgl, hcl, hgi, hno⟩ := hc
      obtain ⟨hf, dx, fs, g1, g2⟩ := w.cell _ _ _ hx hc1
      cases r with
      | @loc _ q s =>
      have hl2 : al2.length = m.length + 2 := w.len.trans hl
      have e2 : al2 = al2.take m.length ++ [x, q] := by
        have h := (List.take_append_drop m.length al2).symm
        have h3 : al2.drop m.length = [x, q] := by
          rw [List.drop_eq_getElem_cons (by omega), List.drop_eq_getElem_cons (by omega), List.drop_of_length_le (by omega)]
          rw [List.getElem?_eq_getElem (by omega)] at hx s
          rw [Option.some.inj hx, Option.some.inj s]
        rw [h3] at h
        exact h
      have nd := w.nd
      rw [e2, List.nodup_append] at nd
      obtain ⟨nd1, nd2, nd3⟩ := nd
      have hxA : x ∉ al2.take m.length := fun z => nd3 x z x (List.mem_cons_self ..) rfl
      have hqA : q ∉ al2.take m.length := fun z => nd3 q z q (List.mem_cons_of_mem _ (List.mem_singleton.mpr rfl)) rfl
      have hxq : x ≠ q := fun z => (List.nodup_cons.mp nd2).1 (by rw [z]; exact List.mem_singleton.mpr rfl)
      have hlA : (al2.take m.length).length = m.length := by rw [List.length_take]; omega
      have hlM : (m2.take m.length).length = m.length := by rw [List.length_take]; omega
      have w1 := w.cut m.length
      have cq := (w.cell _ _ _ s hc2).cut hcl
      have hxH : H2 x ≠ none := by rw [g1]; simp
      have hqH : H2 q ≠ none := w.tr q (List.mem_of_getElem? s)
      have hx2 : x ∉ al2.take m.length ++ [q] := fun z => (List.mem_append.mp z).elim hxA fun z => hxq (List.mem_singleton.mp z)
      have hmx : x ∈ al2 := List.mem_of_getElem? hx
      have tk : ∀ zs : List Addr, al2.take m.length = (al2.take m.length ++ zs).take m.length := fun zs => by
        rw [List.take_append_of_le_length (by omega), List.take_take, Nat.min_self]
      have mem2 : ∀ q0, q0 ∉ al2 → q0 ∉ al2.take m.length ++ [q] := fun q0 h z => (List.mem_append.mp z).elim (fun z => h (List.mem_of_mem_take z)) fun z => h (by rw [List.mem_singleton.mp z]; exact List.mem_of_getElem? s)
      have mem3 : ∀ q0, q0 ∉ al2 → q0 ∉ al2.take m.length ++ [q] ++ [x] := fun q0 h z => (List.mem_append.mp z).elim (mem2 q0 h) fun z => h (by rw [List.mem_singleton.mp z]; exact hmx)
      have old : ∀ {al' : List Addr} {H' : Hp}, al2.take m.length = al'.take m.length → (∀ q0, q0 ∉ al2 → q0 ∉ al') → (∀ y, y ≠ x → H' y = H2 y) → ∀ (k : Nat) (b : Addr) (c' : Cell), (al2.take m.length)[k]? = some b → (m2.take m.length)[k]? = some c' → CellOk K F2 al' H' b c' := fun {al' H'} h1 h2 h3 k b c' h4 h5 => by
        have hk : k < m.length := by
          have := (List.getElem?_eq_some_iff.mp h5).1
          omega
        rw [List.getElem?_take_of_lt hk] at h4 h5
        refine (w.cell k b c' h4 h5).perm (Cell.inB_mono (Nat.le_of_lt hk) (w.gen k c' h5)) h1 h2 hmx h3 fun e => ?_
        subst e
        exact hxA (List.mem_of_getElem? (by rw [List.getElem?_take_of_lt hk]; exact h4))
      have w2 := w1.addCell (c := cl) (old (tk [q]) mem2 fun _ _ => rfl) hqH hqA (cq.upZ Le.snoc (fun z => z) (fun _ => rfl) hno) (by rw [hlM]; exact hcl)
      have hup : ∀ o : HO, ∀ y, y ≠ x → upd H2 x o y = H2 y := fun o y hy => upd_ne hy
      have pick : ∀ {al' : List Addr} {H' : Hp}, (∀ (k : Nat) (b : Addr) (c' : Cell), (al2.take m.length)[k]? = some b → (m2.take m.length)[k]? = some c' → CellOk K F2 al' H' b c') → CellOk K F2 al' H' q cl → ∀ (k : Nat) (b : Addr) (c' : Cell), (al2.take m.length ++ [q])[k]? = some b → (m2.take m.length ++ [cl])[k]? = some c' → CellOk K F2 al' H' b c' := fun {al' H'} h1 h2 k b c' h4 h5 => by
        by_cases hk : k < m.length
        · rw [List.getElem?_append_left (by omega)] at h4 h5
          exact h1 k b c' h4 h5
        · have hk2 := (List.getElem?_eq_some_iff.mp h5).1
          rw [List.length_append, hlM, List.length_singleton] at hk2
          have hk3 : k = m.length := by omega
          subst hk3
          rw [List.getElem?_append_right (by omega), hlA, Nat.sub_self] at h4
          rw [List.getElem?_append_right (by omega), hlM, Nat.sub_self] at h5
          cases h4
          cases h5
          exact h2
      have w3 := w2.free (o := .ins (He.ga K c') dx (putF fld (.ref q) fs)) (pick (old (tk [q]) mem2 (hup _)) (cq.upZ Le.snoc (fun z => z) (fun _ => upd_ne (Ne.symm hxq)) hno)) hx2 hf
      have le2 : Le F2 (al2.take m.length) F2 (al2.take m.length ++ [q] ++ [x]) := Le.snoc.trans Le.snoc
      have hq3 : (al2.take m.length ++ [q] ++ [x])[m.length]? = some q := by
        rw [List.append_assoc, List.getElem?_append_right (by omega), hlA, Nat.sub_self]
        rfl
      have hx3 : (al2.take m.length ++ [q] ++ [x])[m.length + 1]? = some x := by
        rw [List.getElem?_append_right (by rw [List.length_append, hlA]; exact Nat.le_refl _), List.length_append, hlA, List.length_singleton, Nat.sub_self]
        rfl
      have hlM2 : (m2.take m.length ++ [cl]).length = m.length + 1 := by rw [List.length_append, hlM]; rfl
      have w4 := w3.addCell (c := .ins c' (putD fld (.loc m.length) gs)) (pick (old (by rw [List.append_assoc]; exact tk _) mem3 (hup _)) (cq.upZ le2 (fun z => z) (fun _ => upd_ne (Ne.symm hxq)) hno)) (by rw [upd_same]; simp) hx2 ⟨hf, dx, _, upd_same, put_rp (.loc hq3) ((g2.cut hgi).up le2)⟩ (by
        rw [hlM2]
        refine put_in (by rw [D.inB]; exact decide_eq_true (Nat.lt_succ_self _)) (D.inF_mono (Nat.le_succ _) gs hgi))
      refine ⟨dx, fs, g1, by rw [← g2.len]; exact hgl, ?_⟩
      refine p (.ref x) _ F2 (al2.take m.length ++ [q] ++ [x]) ⟨le.f, fun k b hk => ?_⟩ ?_ (.loc hx3)
      · have hk2 := (List.getElem?_eq_some_iff.mp hk).1
        rw [List.append_assoc, List.getElem?_append_left (by omega), List.getElem?_take_of_lt (by omega)]
        exact le.a k b hk
      · rw [List.append_assoc (m2.take m.length) [cl]] at w4
        exact w4
    · exact p.elim
  · exact p.elim
section
variable {b : Base} {N ps : List Str} {sc : Scope} {k : Nat} {st : Stmt} {e : Expr} {g : XS} {fe : XE'} {cn fld self : Str} {pos p0 p1 : Pos}
theorem fn_bodyN {E : XK} {Q : VK} {y : Dyn} {vs : List V} {H : Hp} (hc : Cls b.K (He.ga b.K cn)) (hna : NoAttr b.K (He.ga b.K cn) fld) (h : DSt (b.at N sc k false) (wOf E) st g) (he : DE (b.at N sc k false) (wOf E) e fe) (hN : N[0]? = some self) (hv : Vis sc self) (hd : (self == ("__debug__" : Str)) = false) (hcd : (self == ("__classdict__" : Str)) = false)
    (hs : ∀ env, env.scope = sc → swapsWith e (some (.Attribute (.Name self p0) fld p1)) pos.line env = pure false) (hy : OkD (b.at N sc k false) (wOf E) y) (hsp : spN b.K ps.length cn fld N.length g fe vs H Q E) :
    ∃ t, PSs ((b.at N sc k false).cx y) [st, .Assign [.Attribute (.Name self p0) fld p1] e pos] t ∧ t { nx := fun _ H' => Q .non H', rt := Q } (L2.start N vs) H := by
  obtain ⟨t, h1, h2⟩ := h
  obtain ⟨u, u1, u2⟩ := he
  obtain ⟨x, us, ds, m, F, al, rfl, hl, r, w, p⟩ := hsp
  have hal : al.length = m.length := by
    have := w.len
    rw [List.length_append, List.length_append] at this
    simpa using this
  have hlast : (al ++ [x])[m.length]? = some x := by rw [← hal, List.getElem?_append_right (Nat.le_refl _), Nat.sub_self]; rfl
  refine ⟨tSeq t (sFld b.K (tVar 0) u fld), pss_cons (h1 y hy) (pss_one (ps_fld (X := (b.at N sc k false).cx y) (pe_var hN (hy.vis hv) hd hcd) (u1 y hy) (hs _ hy.scope))), ?_⟩
  refine h2 (rho0 N.length (.loc m.length :: ds)) (m ++ [.ins cn []]) (L2.start N (.ref x :: us)) H F (al ++ [x]) _ (env0_ok (.cons (.loc hlast) (r.up Le.snoc))) w ?_
  unfold initN at p
  cases q : g (rho0 N.length (.loc m.length :: ds)) (m ++ [.ins cn []]) with
  | next r1 m1 =>
    rw [q] at p
    intro σ' H1 F1 al1 e1 w1 he1
    simp only at p
    split at p
    · rename_i k0 hr0
      split at p
      · rename_i hk0
        subst hk0
        cases q2 : fe r1 m1 with
        | ok d m2 =>
          rw [q2] at p
          refine u2 r1 m1 σ' H1 F1 al1 _ he1 w1 ?_
          rw [q2]
          intro v H2 F2 al2 e2 w2 rv
          have hx2 : al2[m.length]? = some x := (e1.trans e2).a _ _ hlast
          obtain ⟨v0, hv0, rv0⟩ := (he1.up e2).get 0 _ hr0
          cases rv0 with
          | @loc _ a s =>
          have : a = x := Option.some.inj (s.symm.trans hx2)
          subst this
          obtain ⟨dx, fs, g1, g2, g3⟩ := end_ok hal (Le.snoc.trans (e1.trans e2)) w2 hx2 rv p
          exact ⟨.ref a, hv0, a, He.ga b.K cn, dx, fs, rfl, g1, hc, hna, g2, g3 rfl⟩
        | exc _ _ _ => rw [q2] at p; exact p.elim
        | stuck => rw [q2] at p; exact p.elim
      · exact p.elim
    · exact p.elim
  | ret _ _ => rw [q] at p; exact p.elim
  | exc _ _ _ _ => rw [q] at p; exact p.elim
  | brk _ _ => rw [q] at p; exact p.elim
  | cont _ _ => rw [q] at p; exact p.elim
  | stuck => rw [q] at p; exact p.elim
theorem fn_okN {x qual : Str} {params : Arguments} {scope : Scope} {dvs : List V} {kws : List (Str × V)} {f : Addr} {fd : FuncData} (hc : Cls b.K (He.ga b.K cn)) (hna : NoAttr b.K (He.ga b.K cn) fld) (D : FunD b.K x qual params [st, .Assign [.Attribute (.Name self p0) fld p1] e pos] scope dvs kws f fd) (S : FnScope N ps scope)
    (h : ∀ E : XK, DSt (b.at N scope k false) (wOf E) st g) (he : ∀ E : XK, DE (b.at N scope k false) (wOf E) e fe) (hN : N[0]? = some self := by rfl) (hv : Vis scope self := by first | exact .inl rfl | exact .inr (.inl rfl) | exact .inr (.inr rfl)) (hd : (self == ("__debug__" : Str)) = false := by decide) (hcd : (self == ("__classdict__" : Str)) = false := by decide)
    (hs : ∀ env, env.scope = scope → swapsWith e (some (.Attribute (.Name self p0) fld p1)) pos.line env = pure false := by (intro env h; rfl)) : FnOk b.P b.w b.K b.mg b.base (L2.CX b.P b.w) (k + 1) f fd ps (spN b.K ps.length cn fld N.length g fe) := by
  refine D.ok S (fun vs H Q E hsp => ?_) (fun cdv A outer s H vs Q E hr hsp => ?_)
  · obtain ⟨x, us, ds, m, F, al, rfl, hl, r, _⟩ := hsp
    rw [List.length_cons, ← r.len]
    exact hl
  let y : Dyn := { A := A.deeper (envOfC qual scope s.heap.objs.size f cdv), s_0 := s, H_0 := H, env := envOfC qual scope s.heap.objs.size f cdv, outer := outer, stack := envOfC qual scope s.heap.objs.size f cdv :: outer, ex := [], fn := fun _ => true, pn := [], xe := (cxOf (L2.CX b.P b.w) b.P b.w b.K b.mg b.base N qual scope f cdv A outer s H E).xe }
  have ht : Takes ((b.at N scope k false).cx y) (wOf E) := takes_of (X := (b.at N scope k false).cx y) (E := E) rfl rfl rfl rfl
  have hy : OkD (b.at N scope k false) (wOf E) y := ⟨rfl, L2H.roomH_of hr, fun _ => hr.hd, ht, fun _ _ => rfl, (fun z => nomatch z), passes_of (X := (b.at N scope k false).cx y) rfl, (fun _ _ z => nomatch z), (fun _ => ⟨rfl, rfl, rfl⟩), (fun _ z => nomatch z), fun z => absurd z (Nat.lt_irrefl 0)⟩
  exact fn_bodyN hc hna (h E) (he E) hN hv hd hcd hs hy hsp
end
section
variable {c : SC} {W : WX} {pos p0 : Pos} {x cn fld : Str} {k : Nat} {f : Addr} {fd : FuncData} {ps : List Str} {e : Expr} {es : List Expr} {fr : XA} {N : Nat} {g : XS} {fe : XE'}
def xMakeE (cn fld : Str) (N : Nat) (g : XS) (fe : XE') (a : XA) : XE' := fun r m => (a r m).bind (initN cn fld N g fe)
theorem de_makeE (hF : FnOk c.P c.w c.K c.mg c.base (L2.CX c.P c.w) k f fd ps (spN c.K ps.length cn fld N g fe)) (hM : Mk c.K (He.ga c.K cn) f) (hm : c.mg x = some (.ref (He.ga c.K cn))) (hb : Binds c.K fd ps []) (ha : DA c W (e :: es) fr) (hr : k + 1 ≤ c.k := by first | exact Nat.le_of_ble_eq_true rfl | exact Nat.le_refl _ | exact Nat.le_add_right _ _) (hcm : c.calm = true := by rfl) (hl : (e :: es).length + 1 = ps.length := by rfl) (hg : c.sc.names.lookup x = some .globalImplicit := by rfl)
    (hdb : (x == ("__debug__" : Str)) = false := by decide) (hs : ∀ env, starEach (e :: es) env = (false, eval e env) :: starEach es env := by intro _; rfl) (hpl : ∀ env, (backTo pos (starEach es env)).any (·.1) = false := by intro _; rfl) : DE c W (.Call (.Name x p0) (e :: es) [] pos) (xMakeE cn fld N g fe fr) := by
  obtain ⟨⟨t, a1, a2⟩, hlen⟩ := ha
  refine ⟨tMakeS (He.ga c.K cn) (spN c.K ps.length cn fld N g fe) [] ps.length (WE W) t, fun y hy => pe_makeS (X := c.cx y) hM hF (hy.rm hcm hr) (hy.gl hg) hm hb .nil (fun σ => passAt hy.takes σ) (a1 y hy) hdb (hs _) (hpl _), fun ρ m σ H F al Q he hw p => ?_⟩
  refine a2 ρ m σ H F al _ he hw (Post.step (p.lenA fun ds m' e => hlen ρ m ds m' e) fun ds m1 vs H1 F1 al1 e1 w1 q1 p1 => ?_)
  split at p1
  · rename_i hn
    refine ⟨by rw [← q1.len, hn]; exact hl, fun x dx hx hdx hne => ?_⟩
    rw [List.append_nil]
    have w2 : Wd c.K F1 al1 m1 (upd H1 dx (.own x)) := w1.junk hdx
    have hx1 : upd H1 dx (.own x) x = none := by rw [upd_ne (Ne.symm hne)]; exact hx
    have w3 : Wd c.K F1 (al1 ++ [x]) (m1 ++ [.ins cn []]) (upd (upd H1 dx (.own x)) x (.ins (He.ga c.K cn) dx [])) := w2.newCell hx1 ⟨w1.fnone hx, dx, [], upd_same, .nil⟩ rfl
    exact ⟨x, vs, ds, m1, F1, al1, rfl, by rw [hn]; exact hl, q1, w3, Post.imp p1 (fun v H' hq hv => ⟨rfl, by rw [← hv]; exact hq⟩) fun _ _ _ h => h⟩
  · exact p1.elim
end
end DS

/-! # YP: defs that call each other very deep: their room is counted frame by frame -/
namespace DS
open PySem PySem.Spec PyProof.Rows L2
theorem RoomJ.deeper {j : Nat} {A : Around} (r : RoomJ (j + 1) A) (env : Env) : RoomJ j (A.deeper env) :=
  ⟨by have := r.dp; show A.depth + 1 + j + 5 < _; omega, by have := r.un; show A.units + 3 + 6 * j + 200 < _; omega⟩
theorem RoomJ.mono {i j : Nat} {A : Around} (r : RoomJ j A) (h : i ≤ j) : RoomJ i A := ⟨by have := r.dp; omega, by have := r.un; omega⟩
theorem RoomJ.depth {j : Nat} {A : Around} (r : RoomJ j A) : A.depth < recursionLimit := by have := r.dp; omega
theorem RoomJ.hot {j k : Nat} {A : Around} (r : RoomJ j A) (h : 3 * k ≤ j) : L2H.RoomH k A := ⟨by have := r.dp; omega, by have := r.un; omega⟩
theorem roomJ_of {j k : Nat} {A : Around} (r : Room k A) (h1 : j ≤ 3 * k) (h2 : 6 * j ≤ 16 * k) : RoomJ j A := ⟨by have := r.dp; omega, by have := r.un; omega⟩
/-- a def that needs room for j frames; g: no guard stands -/
structure FnJ (b : Base) (g : Bool) (j : Nat) (f : Addr) (fd : FuncData) (ps : List Str) (G : Fn) : Prop where
  run : ∀ (A : Around) (out : List Env) (s : Shared) (H : Hp) (ar : Args) (us : List Value) (vs : List V) (Q : VK) (E : XK), A.handled = none → RoomJ j A → (g = true → A.guards = some []) → Env0 b.P b.w b.K b.mg b.base A out s H → BindsTo s fd ar (ps.zip us) → Vals vs us →
    spOf b.K ps.length G vs H Q E → codeAny (model b.P b.w) A (.call (.ref f) ar) (CR (L2.CX b.P b.w) out b.P b.w H s Q E) s
theorem FnJ.mono {b : Base} {g : Bool} {i j : Nat} {f : Addr} {fd : FuncData} {ps : List Str} {G : Fn} (h : FnJ b g i f fd ps G) (hk : i ≤ j) : FnJ b g j f fd ps G :=
  ⟨fun A out s H ar us vs Q E hh hr hg e0 hb r hs => h.run A out s H ar us vs Q E hh (hr.mono hk) hg e0 hb r hs⟩
theorem FnJ.okG {b : Base} {g : Bool} {j k : Nat} {f : Addr} {fd : FuncData} {ps : List Str} {G : Fn} (h : FnJ b g j f fd ps G) (h1 : j ≤ 3 * k) (h2 : 6 * j ≤ 16 * k) : FnG b k f fd ps G :=
  ⟨fun A out s H ar us vs Q E hr hg e0 hb r hs => h.run A out s H ar us vs Q E hr.hd (roomJ_of hr h1 h2) (fun _ => hg) e0 hb r hs⟩
theorem FnJ.ok {b : Base} {j k : Nat} {f : Addr} {fd : FuncData} {ps : List Str} {G : Fn} (h : FnJ b false j f fd ps G) (h1 : j ≤ 3 * k) (h2 : 6 * j ≤ 16 * k) : b.Ok k f fd ps G :=
  ⟨fun _ _ _ _ h => RpL.lenV h, fun A out s H ar us vs Q E hr e0 hb r hs => h.run A out s H ar us vs Q E hr.hd (roomJ_of hr h1 h2) (fun z => nomatch z) e0 hb r hs⟩
theorem stuckJ {b : Base} {g : Bool} {j : Nat} {f : Addr} {fd : FuncData} {ps : List Str} : FnJ b g j f fd ps (fun _ _ => .stuck) :=
  ⟨fun _ _ _ _ _ _ _ _ _ _ _ _ _ _ _ h => (by obtain ⟨_, _, _, _, _, _, _, z⟩ := h; exact z.elim)⟩
abbrev Base.atJ (b : Base) (N : List Str) (sc : Scope) (k : Nat) (g : Bool) (j : Nat) : SC := ⟨b.P, b.w, b.K, b.mg, b.base, N, sc, k, fun _ => true, g, true, none, true, none, j⟩
theorem fnJ_body {b : Base} {N ps : List Str} {sc : Scope} {k j : Nat} {gd : Bool} {body : List Stmt} {g : XS} {keep : Bool} {E : XK} {Q : VK} {y : Dyn} {vs : List V} {H : Hp} (h : DSs (b.atJ N sc k gd j) (wOf E) body g) (hy : OkD (b.atJ N sc k gd j) (wOf E) y) (hsp : spOf b.K ps.length (fnOf N.length keep g) vs H Q E) :
    ∃ t, PSs ((b.atJ N sc k gd j).cx y) body t ∧ t { nx := fun _ H' => Q .non H', rt := Q } (L2.start N vs) H := by
  obtain ⟨t, h1, h2⟩ := h
  obtain ⟨ds, m, F, al, hl, r, w, p⟩ := hsp
  refine ⟨t, h1 y hy, h2 (rho0 N.length ds) m (L2.start N vs) H F al _ (env0_ok r) w ?_⟩
  unfold fnOf at p
  cases q : g (rho0 N.length ds) m with
  | next r' m' =>
    rw [q] at p
    exact fun σ' H' F' al' e w' _ => p _ H' F' (al'.take m.length) (e.cut (Nat.le_of_eq w.len)) (w'.cut _) .non
  | ret d m' =>
    rw [q] at p
    intro v H' F' al' e w' rv
    cases keep with
    | true => exact p v H' F' al' e w' rv
    | false => exact exit_ok w' e w.len rv p
  | exc c fs r' m' =>
    rw [q] at p
    intro dd σ' H' F' al' gs e w' _ hg hd
    have p' : Post b.K (RD b.K) E F al Q (if D.inF m.length fs = true then .exc c fs (m'.take m.length) else .stuck) := p
    split at p'
    · rename_i hi
      exact p' dd H' F' (al'.take m.length) gs (e.cut (Nat.le_of_eq w.len)) (w'.cut _) (hg.cut hi) hd
    · exact p'.elim
  | brk _ _ => rw [q] at p; exact p.elim
  | cont _ _ => rw [q] at p; exact p.elim
  | stuck => rw [q] at p; exact p.elim
theorem fnJ_ok {b : Base} {x qual : Str} {params : Arguments} {body : List Stmt} {scope : Scope} {dvs : List V} {kws : List (Str × V)} {f : Addr} {fd : FuncData} {N ps : List Str} {k j : Nat} {gd : Bool} {g : XS} (keep : Bool) (D : FunD b.K x qual params body scope dvs kws f fd) (S : FnScope N ps scope) (hk : 3 * k ≤ j)
    (h : ∀ E : XK, DSs (b.atJ N scope k gd j) (wOf E) body g) : FnJ b gd (j + 1) f fd ps (fnOf N.length keep g) := by
  refine ⟨fun A out s H ar us vs Q E hh hr hgd e0 hb r hsp => ?_⟩
  have hl := RpL.lenV hsp
  obtain ⟨oc, od, dV, kV, doc, pm, an, cdv, ct, osl, rfl, lk, hcd, _, _⟩ := D.ex
  have kIn : b.K.In s.heap := e0.mod.kin.keeps fun z o q => (e0.bs z o q).1
  have noLim : s.heap.NoLimit := e0.mod.nolimit.keeps fun z o q => (e0.bs z o q).1
  refine codeAny_call_function hr.depth (kIn _ _ lk) rfl S.co S.gen rfl (PySem.W.codeRec_of kIn hcd) (hb _ _ _ _ ?_)
  refine wpAny_newFunctionEnv_cells S.kind (fun z hz => ?_) fun env he s1 hx => ?_
  · obtain ⟨n, u⟩ := z
    rcases S.par n (List.of_mem_zip hz).1 with q | q
    · exact .inl q
    · exact .inr ⟨q, PySem.W.cellsFrom_some _ _ _ (.inl q)⟩
  · subst he
    refine ⟨noLim.keeps hx.toInCall.keep, codeAny_func ?_⟩
    let y : Dyn := { A := A.deeper (envOfC qual scope s.heap.objs.size f cdv), s_0 := s, H_0 := H, env := envOfC qual scope s.heap.objs.size f cdv, outer := out, stack := envOfC qual scope s.heap.objs.size f cdv :: out, ex := [], fn := fun _ => true, pn := [], xe := (cxOf (L2.CX b.P b.w) b.P b.w b.K b.mg b.base N qual scope f cdv A out s H E).xe }
    have ht : Takes ((b.atJ N scope k gd j).cx y) (wOf E) := takes_of (X := (b.atJ N scope k gd j).cx y) (E := E) rfl rfl rfl rfl
    have hy : OkD (b.atJ N scope k gd j) (wOf E) y := ⟨rfl, (hr.deeper _).hot hk, fun _ => hh, ht, fun _ _ => rfl, hgd, passes_of (X := (b.atJ N scope k gd j).cx y) rfl, (fun _ _ z => nomatch z), (fun _ => ⟨rfl, rfl, rfl⟩), (fun _ z => nomatch z), fun _ => hr.deeper _⟩
    obtain ⟨t, t1, t2⟩ := fnJ_body (h E) hy hsp
    have I : Inv (cxOf (L2.CX b.P b.w) b.P b.w b.K b.mg b.base N qual scope f cdv A out s H E) [] (L2.start N vs) H s1 := inv_start S hh e0 hl r hx
    have t1' : PSs (cxOf (L2.CX b.P b.w) b.P b.w b.K b.mg b.base N qual scope f cdv A out s H E) body t := t1
    refine wpAny_mono (t1'.run [] s1 (L2.start N vs) H _ I t2) (fun fl s' hs => ?_) fun e s' hs => hs
    cases fl with
    | ret u =>
      obtain ⟨v, σ', H', J, rv, q⟩ := hs
      exact ⟨v, H', J.os, J.bare, J.base, J.hok, rv, q⟩
    | next =>
      obtain ⟨σ', H', J, q⟩ := hs
      exact ⟨V.non, H', J.os, J.bare, J.base, J.hok, rfl, q⟩
    | brk => obtain ⟨_, _, _, q⟩ := hs; exact q.elim
    | cont => obtain ⟨_, _, _, q⟩ := hs; exact q.elim
theorem runJ {X : Cx} {b : Base} {g : Bool} {j : Nat} {f : Addr} {fd : FuncData} {ps : List Str} {G : Fn} {pins : List (Addr × Obj)} {σ : L2.St} {H : Hp} {s : Shared} {Q : VK} {E : XK} {us : List Value} {vs : List V} (e1 : X.prog = b.P) (e2 : X.w = b.w) (e3 : X.K = b.K) (e4 : X.mg = b.mg) (e5 : X.base = b.base) (hF : FnJ b g j f fd ps G) (hh : X.A.handled = none) (hr : RoomJ j X.A) (hg : g = true → X.A.guards = some []) (hb : Binds X.K fd ps [])
    (hx : PassesAt (L2.CX X.prog X.w) X σ E) (I : Inv X pins σ H s) (r : Vals vs us) (h : spOf X.K ps.length G vs H Q E) : wpAny (model X.prog X.w) X.A (call (.ref f) us) (EP X pins σ Q) X.xe s := by
  obtain ⟨P, w, K, mg, base⟩ := b
  simp only at e1 e2 e3 e4 e5
  subst e1 e2 e3 e4 e5
  have hl := RpL.lenV h
  have hl2 : (us ++ []).length = ps.length := by rw [List.append_nil, ← r.length]; exact hl
  have hb2 := hb s us I.kIn hl2
  rw [List.append_nil] at hb2
  refine wpAny_call (codeAny_mono (hF.run X.A X.stack s H ⟨us, []⟩ us vs Q E hh hr hg I.env0 hb2 r h) fun q s' hq => ?_)
  cases q with
  | error z => exact hx pins H s z s' I hq
  | ok fl =>
    cases fl with
    | ret u => exact I.after hq
    | next => exact False.elim hq
    | brk => exact False.elim hq
    | cont => exact False.elim hq
section
variable {c : SC} {W : WX} {pos : Pos} {e o : Expr} {fo : XE'} {es : List Expr} {fr : XA} {x : Str} {p0 apos : Pos} {g : Bool} {j : Nat} {f : Addr} {fd : FuncData} {ps : List Str} {G : Fn}
/-- f(e, ..) for such a def -/
theorem de_callJ (hF : FnJ c.toB g j f fd ps G) (hm : c.mg x = some (.ref f)) (hk : PySem.W.keepIn c.K (.ref f) = true) (hb : Binds c.K fd ps []) (ha : DA c W (e :: es) fr) (h0 : 0 < c.j) (hr : j ≤ c.j) (hgd : g = true → c.gd = true := by first | exact fun _ => rfl | exact fun z => nomatch z) (hcm : c.calm = true := by rfl) (hl : (e :: es).length = ps.length := by rfl) (hg : c.sc.names.lookup x = some .globalImplicit := by rfl)
    (hdb : (x == ("__debug__" : Str)) = false := by decide) (hs : ∀ env, starEach (e :: es) env = (false, eval e env) :: starEach es env := by intro _; rfl) (hpl : ∀ env, (backTo pos (starEach es env)).any (·.1) = false := by intro _; rfl) : DE c W (.Call (.Name x p0) (e :: es) [] pos) (xCall G fr) := by
  obtain ⟨⟨t, a1, a2⟩, hlen⟩ := ha
  refine ⟨fun σ H Q => t σ H fun vs H1 => spOf c.K ps.length G vs H1 Q (WE W σ), fun y hy => ⟨fun pins s σ H Q I h => ?_⟩, fun ρ m σ H F al Q he hw p => ?_⟩
  · refine wpAny_Call_Name_kw (ld_glob I (hy.gl hg) hm ?_ hdb)
    refine PySem.W.callWith_K (h₀ := c.base) I.ok.mod.kin hk (thn ((a1 y hy).run pos pins s σ H _ I h) fun us s1 ⟨vs, H1, I1, r, q⟩ => ⟨I1.kIn, ?_⟩) (hs _) (hpl _)
    exact runJ (X := c.cx y) (b := c.toB) rfl rfl rfl rfl rfl hF (hy.hd hcm) ((hy.rj h0).mono hr) (fun z => hy.gd (hgd z)) hb (passAt hy.takes σ) I1 r q
  · refine a2 ρ m σ H F al _ he hw (Post.step (p.lenA fun ds m' e => hlen ρ m ds m' e) fun ds m1 vs H1 F1 al1 e1 w1 q1 p1 => ?_)
    split at p1
    · rename_i hn
      exact ⟨ds, m1, F1, al1, hn.trans hl, q1, w1, p1⟩
    · exact p1.elim
/-- o.m(e, ..) for such a def -/
theorem de_methJ {cn m : Str} (hF : FnJ c.toB g j f fd ps G) (hc : Cls c.K (He.ga c.K cn)) (hM : Meth c.K (He.ga c.K cn) m f) (hb : Binds c.K fd ps []) (ho : DE c W o fo) (ha : DA c W (e :: es) fr) (h0 : 0 < c.j) (hr : j ≤ c.j) (hgd : g = true → c.gd = true := by first | exact fun _ => rfl | exact fun z => nomatch z) (hcm : c.calm = true := by rfl) (hl : (e :: es).length + 1 = ps.length := by rfl)
    (hs : ∀ env, starEach (e :: es) env = (false, eval e env) :: starEach es env := by intro _; rfl) (hpl : ∀ env, (backTo pos (starEach es env)).any (·.1) = false := by intro _; rfl)
    (ht : ∀ env, ∃ pl : Sem Bool, eval (.Call (.Attribute o m apos) (e :: es) [] pos) env = (do
      let ov ← eval o env
      standAt apos.atName
      let (f, first) ← holding [ov] (getMethod ov m pl)
      callWith pos f first (backTo pos (starEach (e :: es) env)) (backToKw pos (keywordEach [] env))) := by intro _; exact ⟨_, rfl⟩) : DE c W (.Call (.Attribute o m apos) (e :: es) [] pos) (xMeth cn m G fo fr) := by
  obtain ⟨to, o1, o2⟩ := ho
  obtain ⟨⟨t, a1, a2⟩, hlen⟩ := ha
  refine ⟨tMethS (He.ga c.K cn) m (spOf c.K ps.length G) (WE W) to t, fun y hy => ?_, fun ρ mu σ H F al Q he hw p => ?_⟩
  · obtain ⟨pl, ht⟩ := ht (c.cx y).env
    exact ⟨fun pins s σ H Q I h => PySem.W.methodCall_KW (pl := pl) (thn ((o1 y hy).run pins s σ H _ I h) fun u s1 ⟨w, H1, I1, rw', a, dx, fs, ew, ea, hlk, q⟩ => by
      subst ew
      obtain rfl : u = Value.ref a := rw'
      refine getmeth_ok I1 ea hc hM hlk (PySem.W.callWith_K (first := [.ref a]) (h₀ := c.base) I.ok.mod.kin hM.kp (thn ((a1 y hy).run pos pins s1 σ H1 _ I1 q) fun us s2 ⟨vs, H2, I2, r, q2⟩ => ⟨I2.kIn, ?_⟩) (hs _) (hpl _))
      exact runJ (X := c.cx y) (b := c.toB) (us := .ref a :: us) (vs := .ref a :: vs) rfl rfl rfl rfl rfl hF (hy.hd hcm) ((hy.rj h0).mono hr) (fun z => hy.gd (hgd z)) hb (passAt hy.takes σ) I2 (.cons rfl r) q2) ht⟩
  · refine o2 ρ mu σ H F al _ he hw (Post.step p fun d m1 v H1 F1 al1 e1 w1 q1 p1 => ?_)
    split at p1
    · rename_i c' gs hi
      obtain ⟨q, dx, fs, rfl, h1, h2⟩ := insOf_ok w1 q1 hi
      split at p1
      · rename_i hcl
        obtain ⟨rfl, hlk⟩ := hcl
        refine ⟨q, dx, fs, rfl, h1, (h2.look (x := m)).1 hlk, a2 ρ m1 σ H1 F1 al1 _ (he.up e1) w1 (Post.step (p1.lenA fun ds m' e => hlen ρ m1 ds m' e) fun ds m2 vs H2 F2 al2 e2 w2 q2 p2 => ?_)⟩
        split at p2
        · rename_i hn
          exact ⟨d :: ds, m2, F2, al2, by rw [List.length_cons, hn]; exact hl, .cons (q1.up e2) q2, w2, p2⟩
        · exact p2.elim
      · exact p1.elim
    · exact p1.elim
end
end DS

namespace J
open PySem PySem.Spec PyProof.Rows L2 DS
def cs : List Str := ["Book", "Clause", "Counter"]
def B_places_between : XS := (sSeq (sAsg (xOp addD (xVar 1) (xOp modD (xCall intF (xaCons (xOp subD (xFld "Clause" "rest" (xVar 0)) (xVar 1)) xaNil)) (xFld "Clause" "step" (xVar 0)))) (gNm 3))
  (sRet (xIf (xTest (xOp geD (xVar 3) (xVar 2))) (xC (.int 0)) (xOp divD (xOp subD (xOp addD (xOp subD (xVar 2) (xVar 3)) (xFld "Clause" "step" (xVar 0))) (xC (.int 1))) (xFld "Clause" "step" (xVar 0))))))
def F_places_between : Fn := fnOf 4 false B_places_between
def B_deeds_at : XS := (sSeq (sIf (xTest (xOp eqD (xFld "Clause" "side" (xVar 0)) (xC (.str "left")))) (sRet (xCall F_places_between (xaCons (xVar 0) (xaCons (xFld "Clause" "far" (xVar 0)) (xaCons (xVar 1) xaNil))))) sNil)
  (sRet (xCall F_places_between (xaCons (xVar 0) (xaCons (xC (.int 0)) (xaCons (xOp subD (xVar 1) (xFld "Clause" "far" (xVar 0))) xaNil))))))
def F_deeds_at : Fn := fnOf 2 false B_deeds_at
def B_Book_program : XS := (sRet (xOp dgetD (xFld "Book" "parsed" (xVar 0)) (xVar 1)))
def F_Book_program : Fn := fnOf 2 false B_Book_program
def B_plain_joins : XS := (sSeq (sAsg (xVar 0) (gTp 2 (gsCons (gNm 2) (gsCons (gNm 3) gsNil))))
  (sSeq (sAsg (xLc (xiRng1 (xaCons (xVar 1) xaNil)) [5] (gNm 5) xYes (xIf (xTest (xOp eqD (xVar 2) (xC (.str "before")))) (xVar 5) (xOp addD (xVar 5) (xC (.int 1))))) (gNm 4))
  (sRet (xLc (xiSeq (xVar 4)) [6] (gNm 6) xYes (xCall maxF (xaCons (xC (.int 0)) (xaCons (xOp subD (xIf (xTest (xOp eqD (xVar 2) (xC (.str "last")))) (xCall minF (xaCons (xVar 6) (xaCons (xVar 3) xaNil))) (xVar 6)) (xC (.int 1))) xaNil)))))))
def F_plain_joins : Fn := fnOf 7 false B_plain_joins
def B_is_integer : XS := (sRet (xAnd (xCall (isiF cs) (xaCons (xVar 0) (xaCons (xC (.ty "int")) xaNil))) (xNot (xCall (isiF cs) (xaCons (xVar 0) (xaCons (xC (.ty "bool")) xaNil))))))
def F_is_integer : Fn := fnOf 1 false B_is_integer
def B_is_between : XS := (sRet (xAnd (xCall F_is_integer (xaCons (xVar 0) xaNil)) (xChain leD leD (xVar 1) (xVar 0) (xVar 2))))
def F_is_between : Fn := fnOf 3 false B_is_between
def B_digit_of : XS := (sRet (xIf (xAndT (xTest (xOp eqD (xCall lenD (xaCons (xVar 0) xaNil)) (xC (.int 1)))) (xTest (xOp inD (xVar 0) (xC (.str "0123456789"))))) (xCall intF (xaCons (xVar 0) xaNil)) (xC .non)))
def F_digit_of : Fn := fnOf 1 false B_digit_of
def B_read_goal : XS := (sSeq (sIf (xNotT (xTest (xCall (isiF cs) (xaCons (xVar 0) (xaCons (xC (.ty "str")) xaNil))))) (sRet (xC .non)) sNil)
  (sSeq (sIf (xTest (xOp inD (xVar 0) (xTup (xaCons (xC (.str "all")) (xaCons (xC (.str "before")) xaNil))))) (sRet (xTup (xaCons (xVar 0) (xaCons (xC .non) xaNil)))) sNil)
  (sSeq (sAsg (xIf (xTest (xOp eqD (xSl (xVar 0) xoN (xoS (xC (.int 5)))) (xC (.str "last ")))) (xCall F_digit_of (xaCons (xSl (xVar 0) (xoS (xC (.int 5))) xoN) xaNil)) (xC .non)) (gNm 1))
  (sRet (xIf (xTest (xCall F_is_between (xaCons (xVar 1) (xaCons (xC (.int 1)) (xaCons (xC (.int 4)) xaNil))))) (xTup (xaCons (xC (.str "last")) (xaCons (xVar 1) xaNil))) (xC .non))))))
def F_read_goal : Fn := fnOf 2 false B_read_goal
def B_Book_plan : XS := (sSeq (sFor (xiSeq (xFld "Book" "held" (xVar 0))) (gNm 2)
  (sIf (xAndT (xTest (xCall (isiF cs) (xaCons (xVar 1) (xaCons (xC (.ty "str")) xaNil)))) (xTest (xOp eqD (xOp ixD (xVar 2) (xC (.int 0))) (xVar 1)))) (sRet (xVar 2)) sNil))
  sNever)
def F_Book_plan : Fn := fnOf 3 false B_Book_plan
def B_Book_goal_of : XS := (sRet (xCall F_read_goal (xaCons (xOp ixD (xMeth "Book" "plan" F_Book_plan (xVar 0) (xaCons (xVar 1) xaNil)) (xC (.int 1))) xaNil)))
def F_Book_goal_of : Fn := fnOf 2 false B_Book_goal_of
def B_Counter_both (F_Counter_both F_Counter_found : Fn) : XS := (sSeq (sIf (xTest (xOp eqD (xVar 2) (xC (.int 0)))) (sRet (xTup (xaCons (xC (.int 0)) (xaCons (xC (.int 0)) xaNil)))) sNil)
  (sSeq (sIf (xTest (xNinK (xaCons (xVar 1) (xaCons (xVar 2) xaNil)) (xFld "Counter" "known" (xVar 0)))) (sPutK (xFld "Counter" "known" (xVar 0)) (xaCons (xVar 1) (xaCons (xVar 2) xaNil)) (xMeth "Counter" "found" F_Counter_found (xVar 0) (xaCons (xVar 1) (xaCons (xVar 2) xaNil)))) sNil)
  (sRet (xGetK (xFld "Counter" "known" (xVar 0)) (xaCons (xVar 1) (xaCons (xVar 2) xaNil))))))
def B_Counter_found (F_Counter_both F_Counter_found : Fn) : XS := (sSeq (sIf (xTest (xOp leD (xVar 2) (xOp ixD (xMeth "Book" "plan" F_Book_plan (xFld "Counter" "shelf" (xVar 0)) (xaCons (xVar 1) xaNil)) (xC (.int 2))))) (sSeq (sAsg (xCall F_plain_joins (xaCons (xMeth "Book" "goal_of" F_Book_goal_of (xFld "Counter" "shelf" (xVar 0)) (xaCons (xVar 1) xaNil)) (xaCons (xVar 2) xaNil))) (gNm 3))
  (sRet (xTup (xaCons (xCall sumF (xaCons (xVar 3) xaNil)) (xaCons (xCall maxF (xaCons (xVar 3) xaNil)) xaNil))))) sNil)
  (sSeq (sAsg (xTup (xaCons (xC (.int 0)) (xaCons (xC (.int 0)) xaNil))) (gTp 2 (gsCons (gNm 4) (gsCons (gNm 5) gsNil))))
  (sSeq (sFor (xiSeq (xMeth "Book" "program" F_Book_program (xFld "Counter" "shelf" (xVar 0)) (xaCons (xVar 1) xaNil))) (gNm 6)
  (sIf (xTest (xOp eqD (xFld "Clause" "word" (xOp ixD (xVar 6) (xC (.int 0)))) (xC (.str "call")))) (sSeq (sAsg (xLc (xiSeq (xVar 6)) [8] (gNm 8) xYes (xMeth "Counter" "both" F_Counter_both (xVar 0) (xaCons (xFld "Clause" "goal" (xVar 8)) (xaCons (xCall F_places_between (xaCons (xVar 8) (xaCons (xC (.int 0)) (xaCons (xVar 2) xaNil)))) xaNil)))) (gNm 7))
  (sSeq (sAug 4 (xCall sumF (xaCons (xLc (xiSeq (xVar 7)) [9] (gNm 9) xYes (xOp ixD (xVar 9) (xC (.int 0)))) xaNil)))
  (sAug 5 (xCall maxF (xaCons (xLc (xiSeq (xVar 7)) [9] (gNm 9) xYes (xOp ixD (xVar 9) (xC (.int 1)))) xaNil))))) (sSeq (sAug 4 (xCall sumF (xaCons (xLc (xiSeq (xVar 6)) [8] (gNm 8) (xTest (xOp eqD (xFld "Clause" "word" (xVar 8)) (xC (.str "join")))) (xCall F_deeds_at (xaCons (xVar 8) (xaCons (xVar 2) xaNil)))) xaNil)))
  (sAug 5 (xC (.int 1))))))
  (sRet (xTup (xaCons (xVar 4) (xaCons (xVar 5) xaNil)))))))
def G_0s (q : Fn × Fn) : Fn × Fn := (fnOf 3 false (B_Counter_both q.1 q.2), fnOf 10 false (B_Counter_found q.1 q.2))
def G_0 : Nat → Fn × Fn
  | 0 => ((fun _ _ => .stuck), (fun _ _ => .stuck))
  | n + 1 => G_0s (G_0 n)
def F_Counter_both : Fn := (G_0 250).1
def F_Counter_found : Fn := (G_0 250).2
def fuelC : Nat := 250
abbrev GC := G_0
def B_Counter_D_initD_ : XS := (sFl "Counter" "shelf" (xVar 0) (xVar 1))
def V_Counter_D_initD_ : XE' := xNewT
def B_check_size : XS := (sIf (xNotT (xTest (xCall F_is_between (xaCons (xVar 0) (xaCons (xC (.int 1)) (xaCons (xVar 1) xaNil)))))) sNever sNil)
def F_check_size : Fn := fnOf 2 false B_check_size
def B_check_plan : XS := (sExpr (xMeth "Book" "plan" F_Book_plan (xVar 0) (xaCons (xVar 1) xaNil)))
def F_check_plan : Fn := fnOf 2 false B_check_plan
def B_check_book : XS := (sIf (xNotT (xTest (xCall (isiF cs) (xaCons (xVar 0) (xaCons (xC (.glo "Book")) xaNil))))) sNever sNil)
def F_check_book : Fn := fnOf 1 false B_check_book
def B_rounds : XS := (sSeq (sExpr (xCall F_check_book (xaCons (xVar 0) xaNil)))
  (sSeq (sExpr (xCall F_check_plan (xaCons (xVar 0) (xaCons (xVar 1) xaNil))))
  (sSeq (sExpr (xCall F_check_size (xaCons (xVar 2) (xaCons (xC (.int 1000000000000)) xaNil))))
  (sRet (xOp ixD (xMeth "Counter" "both" F_Counter_both (xMakeE "Counter" "known" 2 B_Counter_D_initD_ V_Counter_D_initD_ (xaCons (xVar 0) xaNil)) (xaCons (xVar 1) (xaCons (xVar 2) xaNil))) (xC (.int 1)))))))
def F_rounds : Fn := fnOf 3 false B_rounds
def B_joins : XS := (sSeq (sExpr (xCall F_check_book (xaCons (xVar 0) xaNil)))
  (sSeq (sExpr (xCall F_check_plan (xaCons (xVar 0) (xaCons (xVar 1) xaNil))))
  (sSeq (sExpr (xCall F_check_size (xaCons (xVar 2) (xaCons (xC (.int 1000000000000)) xaNil))))
  (sRet (xOp ixD (xMeth "Counter" "both" F_Counter_both (xMakeE "Counter" "known" 2 B_Counter_D_initD_ V_Counter_D_initD_ (xaCons (xVar 0) xaNil)) (xaCons (xVar 1) (xaCons (xVar 2) xaNil))) (xC (.int 0)))))))
def F_joins : Fn := fnOf 3 false B_joins
def B__law_below : XS := (sRet (xIf (xTest (xOp leD (xVar 2) (xVar 0))) (xC (.int 0)) (xOp addD (xC (.int 1)) (xOp divD (xOp subD (xOp subD (xVar 2) (xVar 0)) (xC (.int 1))) (xVar 1)))))
def F__law_below : Fn := fnOf 3 false B__law_below
def B__law_due : XS := (sSeq (sIf (xTest (xOp eqD (xOp ixD (xVar 0) (xC (.int 0))) (xC (.str "last")))) (sRet (xTupR (xiRng2 (xaCons (xCall maxF (xaCons (xC (.int 0)) (xaCons (xOp subD (xOp addD (xVar 1) (xC (.int 1))) (xOp ixD (xVar 0) (xC (.int 1)))) xaNil))) (xaCons (xOp addD (xVar 1) (xC (.int 1))) xaNil))))) sNil)
  (sRet (xTupR (xiRng1 (xaCons (xIf (xTest (xOp eqD (xOp ixD (xVar 0) (xC (.int 0))) (xC (.str "all")))) (xOp addD (xVar 1) (xC (.int 1))) (xVar 1)) xaNil)))))
def F__law_due : Fn := fnOf 2 false B__law_due
def B__law_plain : XS := (sSeq (sAsg (xLc (xiRng1 (xaCons (xVar 1) xaNil)) [3] (gNm 3) xYes (xCall maxF (xaCons (xC (.int 0)) (xaCons (xOp subD (xCall lenD (xaCons (xCall F__law_due (xaCons (xVar 0) (xaCons (xVar 3) xaNil))) xaNil)) (xC (.int 1))) xaNil)))) (gNm 2))
  (sRet (xTup (xaCons (xCall sumF (xaCons (xVar 2) xaNil)) (xaCons (xCall maxF (xaCons (xVar 2) xaNil)) xaNil)))))
def F__law_plain : Fn := fnOf 4 false B__law_plain
def B__law_spent (F__law_spent F__law_clause_spent : Fn) : XS := (sSeq (sAsg (xOp ixD (xLc (xiSeq (xVar 0)) [4] (gNm 4) (xTest (xOp eqD (xOp ixD (xVar 4) (xC (.int 0))) (xVar 2))) (xVar 4)) (xC (.int 0))) (gNm 4))
  (sSeq (sIf (xTest (xOp leD (xVar 3) (xOp ixD (xVar 4) (xC (.int 2))))) (sRet (xCall F__law_plain (xaCons (xOp ixD (xVar 4) (xC (.int 1))) (xaCons (xVar 3) xaNil)))) sNil)
  (sSeq (sIf (xTest (xNinK (xaCons (xVar 2) (xaCons (xVar 3) xaNil)) (xVar 1))) (sSeq (sAsg (xTup (xaCons (xC (.int 0)) (xaCons (xC (.int 0)) xaNil))) (gTp 2 (gsCons (gNm 5) (gsCons (gNm 6) gsNil))))
  (sSeq (sFor (xiSeq (xOp ixD (xVar 4) (xC (.int 3)))) (gNm 7)
  (sSeq (sAsg (xLc (xiSeq (xVar 7)) [9] (gNm 9) xYes (xCall F__law_clause_spent (xaCons (xVar 0) (xaCons (xVar 1) (xaCons (xVar 9) (xaCons (xVar 3) xaNil)))))) (gNm 8))
  (sSeq (sAsg (xOp addD (xVar 5) (xCall sumF (xaCons (xLc (xiSeq (xVar 8)) [10] (gNm 10) xYes (xOp ixD (xVar 10) (xC (.int 0)))) xaNil))) (gNm 5))
  (sAsg (xOp addD (xVar 6) (xCall maxF (xaCons (xLc (xiSeq (xVar 8)) [10] (gNm 10) xYes (xOp ixD (xVar 10) (xC (.int 1)))) xaNil))) (gNm 6)))))
  (sPutK (xVar 1) (xaCons (xVar 2) (xaCons (xVar 3) xaNil)) (xTup (xaCons (xVar 5) (xaCons (xVar 6) xaNil)))))) sNil)
  (sRet (xGetK (xVar 1) (xaCons (xVar 2) (xaCons (xVar 3) xaNil)))))))
def B__law_clause_spent (F__law_spent F__law_clause_spent : Fn) : XS := (sSeq (sAsg (xVar 2) (gTp 6 (gsCons (gNm 4) (gsCons (gNm 5) (gsCons (gNm 6) (gsCons (gNm 7) (gsCons (gNm 8) (gsCons (gNm 9) gsNil))))))))
  (sSeq (sIf (xTest (xOp eqD (xVar 4) (xC (.str "call")))) (sSeq (sAsg (xCall F__law_below (xaCons (xVar 5) (xaCons (xVar 6) (xaCons (xVar 3) xaNil)))) (gNm 10))
  (sRet (xIf (xTest (xOp eqD (xVar 10) (xC (.int 0)))) (xTup (xaCons (xC (.int 0)) (xaCons (xC (.int 0)) xaNil))) (xCall F__law_spent (xaCons (xVar 0) (xaCons (xVar 1) (xaCons (xVar 9) (xaCons (xVar 10) xaNil)))))))) sNil)
  (sSeq (sIf (xTest (xOp neD (xVar 4) (xC (.str "join")))) (sRet (xTup (xaCons (xC (.int 0)) (xaCons (xC (.int 1)) xaNil)))) sNil)
  (sSeq (sIf (xTest (xOp eqD (xVar 7) (xC (.str "left")))) (sRet (xTup (xaCons (xOp subD (xCall F__law_below (xaCons (xVar 5) (xaCons (xVar 6) (xaCons (xVar 3) xaNil)))) (xCall F__law_below (xaCons (xVar 5) (xaCons (xVar 6) (xaCons (xCall minF (xaCons (xVar 8) (xaCons (xVar 3) xaNil))) xaNil))))) (xaCons (xC (.int 1)) xaNil)))) sNil)
  (sRet (xTup (xaCons (xCall F__law_below (xaCons (xVar 5) (xaCons (xVar 6) (xaCons (xCall maxF (xaCons (xC (.int 0)) (xaCons (xOp subD (xVar 3) (xVar 8)) xaNil))) xaNil)))) (xaCons (xC (.int 1)) xaNil))))))))
def G_1s (q : Fn × Fn) : Fn × Fn := (fnOf 11 false (B__law_spent q.1 q.2), fnOf 11 false (B__law_clause_spent q.1 q.2))
def G_1 : Nat → Fn × Fn
  | 0 => ((fun _ _ => .stuck), (fun _ _ => .stuck))
  | n + 1 => G_1s (G_1 n)
def F__law_spent : Fn := (G_1 250).1
def F__law_clause_spent : Fn := (G_1 250).2
abbrev GL := G_1
def B__law_sip : XS := (sSeq (sAsg (xOp addD (xOp ixD (xVar 0) (xC (.int 2))) (xC (.int 1))) (gSb (xVar 0) (xC (.int 2))))
  (sSeq (sIf (xTest (xOp gtD (xOp ixD (xVar 0) (xC (.int 0))) (xC (.int 0)))) (sSeq (sAsg (xCall dmF (xaCons (xOp ixD (xVar 0) (xC (.int 0))) (xaCons (xVar 1) xaNil))) (gTp 2 (gsCons (gSb (xVar 0) (xC (.int 0))) (gsCons (gNm 2) gsNil))))
  (sRet (xVar 2))) sNil)
  (sSeq (sAsg (xOp modD (xCall intF (xaCons (xOp addD (xOp mulD (xOp ixD (xVar 0) (xC (.int 1))) (xC (.int 48271))) (xOp mulD (xC (.int 6089)) (xOp ixD (xVar 0) (xC (.int 2))))) xaNil)) (xC (.int 2147483477))) (gSb (xVar 0) (xC (.int 1))))
  (sRet (xOp modD (xCall intF (xaCons (xOp divD (xOp ixD (xVar 0) (xC (.int 1))) (xC (.int 1024))) xaNil)) (xVar 1))))))
def F__law_sip : Fn := fnOf 3 false B__law_sip
def B__law_great : XS := (sSeq (sPar 1 2 (xaCons (xCall F__law_sip (xaCons (xVar 0) (xaCons (xC (.int 3)) xaNil))) (xaCons (xOp addD (xC (.int 1)) (xCall F__law_sip (xaCons (xVar 0) (xaCons (xC (.int 25)) xaNil)))) xaNil)))
  (sSeq (sIf (xTest (xOp eqD (xVar 1) (xC (.int 0)))) (sRet (xOp addD (xCall intF (xaCons (xOp mulS (xC (.str "7")) (xOp addD (xC (.int 2)) (xCall F__law_sip (xaCons (xVar 0) (xaCons (xC (.int 10)) xaNil))))) xaNil)) (xCall F__law_sip (xaCons (xVar 0) (xaCons (xC (.int 1000)) xaNil))))) sNil)
  (sSeq (sAsg (xC (.int 1)) (gNm 3))
  (sSeq (sFor (xiRng1 (xaCons (xVar 2) xaNil)) (gNm 4)
  (sAsg (xOp mulD (xVar 3) (xOp addD (xVar 1) (xC (.int 1)))) (gNm 3)))
  (sRet (xOp addD (xVar 3) (xCall F__law_sip (xaCons (xVar 0) (xaCons (xC (.int 3)) xaNil)))))))))
def F__law_great : Fn := fnOf 5 false B__law_great
def B_meet : XS := (sRet (xOr (xOp neD (xFld "Clause" "step" (xVar 0)) (xFld "Clause" "step" (xVar 1))) (xOp eqD (xFld "Clause" "rest" (xVar 0)) (xFld "Clause" "rest" (xVar 1)))))
def F_meet : Fn := fnOf 2 false B_meet
def B_Clause_D_initD_ : XS := (sSeq (sFl "Clause" "word" (xVar 0) (xVar 1))
  (sSeq (sFl "Clause" "rest" (xVar 0) (xVar 2))
  (sSeq (sFl "Clause" "step" (xVar 0) (xVar 3))
  (sSeq (sFl "Clause" "side" (xVar 0) (xVar 4))
  (sSeq (sFl "Clause" "far" (xVar 0) (xVar 5))
  (sFl "Clause" "goal" (xVar 0) (xVar 6)))))))
def F_Clause_D_initD_ : Fn := fnOf 7 false B_Clause_D_initD_
def B_class_of : XS := (sSeq (sIf (xOrT (xTest (xOp neD (xCall lenD (xaCons (xVar 0) xaNil)) (xC (.int 3)))) (xTest (xOp neD (xOp ixD (xVar 0) (xC (.int 1))) (xC (.str "of"))))) (sRet (xC .non)) sNil)
  (sSeq (sPar 1 2 (xaCons (xCall F_digit_of (xaCons (xOp ixD (xVar 0) (xC (.int 0))) xaNil)) (xaCons (xCall F_digit_of (xaCons (xOp ixD (xVar 0) (xC (.int 2))) xaNil)) xaNil)))
  (sSeq (sIf (xOrT (xNotT (xTest (xCall F_is_between (xaCons (xVar 2) (xaCons (xC (.int 1)) (xaCons (xC (.int 3)) xaNil)))))) (xNotT (xTest (xCall F_is_between (xaCons (xVar 1) (xaCons (xC (.int 0)) (xaCons (xOp subD (xVar 2) (xC (.int 1))) xaNil))))))) (sRet (xC .non)) sNil)
  (sRet (xTup (xaCons (xVar 1) (xaCons (xVar 2) xaNil)))))))
def F_class_of : Fn := fnOf 3 false B_class_of
def B_is_name : XS := (sSeq (sIf (xOrT (xNotT (xTest (xCall (isiF cs) (xaCons (xVar 0) (xaCons (xC (.ty "str")) xaNil))))) (xOrT (xNotT (xTest (xChain ltD ltD (xC (.int 0)) (xCall lenD (xaCons (xVar 0) xaNil)) (xC (.int 9))))) (xTest (xOp ninD (xOp ixD (xVar 0) (xC (.int 0))) (xC (.str "abcdefghijklmnopqrstuvwxyz")))))) (sRet (xC (.bl false))) sNil)
  (sRet (xCall allF (xaCons (xLc (xiSeq (xVar 0)) [1] (gNm 1) xYes (xOr (xOp inD (xVar 1) (xC (.str "abcdefghijklmnopqrstuvwxyz"))) (xOp inD (xVar 1) (xC (.str "0123456789"))))) xaNil))))
def F_is_name : Fn := fnOf 2 false B_is_name
def B_read_call : XS := (sSeq (sAsg (xCall F_class_of (xaCons (xSl (xVar 0) (xoS (xC (.int 3))) xoN) xaNil)) (gNm 1))
  (sSeq (sIf (xOrT (xTest (xOp isD (xVar 1) (xC .non))) (xOrT (xTest (xOp neD (xOp ixD (xVar 0) (xC (.int 2))) (xC (.str "on")))) (xNotT (xTest (xCall F_is_name (xaCons (xOp ixD (xVar 0) (xC (.int 1))) xaNil)))))) (sRet (xC .non)) sNil)
  (sSeq (sAsg (xVar 1) (gTp 2 (gsCons (gNm 2) (gsCons (gNm 3) gsNil))))
  (sRet (xMakeK "Clause" F_Clause_D_initD_ true [.non, .non] (xaCons (xC (.str "call")) (xaCons (xVar 2) (xaCons (xVar 3) xaNil))) (xaCons (xOp ixD (xVar 0) (xC (.int 1))) xaNil))))))
def F_read_call : Fn := fnOf 4 false B_read_call
def B_read_clause : XS := (sSeq (sAsg (xBM "str" splitF (xVar 0) (xaCons (xC (.str " ")) xaNil)) (gNm 1))
  (sSeq (sIf (xTest (xOp eqD (xOp ixD (xVar 1) (xC (.int 0))) (xC (.str "call")))) (sRet (xCall F_read_call (xaCons (xVar 1) xaNil))) sNil)
  (sSeq (sAsg (xCall F_class_of (xaCons (xSl (xVar 1) (xoS (xC (.int 1))) (xoS (xC (.int 4)))) xaNil)) (gNm 2))
  (sSeq (sIf (xTest (xOp isD (xVar 2) (xC .non))) (sRet (xC .non)) sNil)
  (sSeq (sAsg (xVar 2) (gTp 2 (gsCons (gNm 3) (gsCons (gNm 4) gsNil))))
  (sSeq (sIf (xTest (xOp eqD (xOp ixD (xVar 1) (xC (.int 0))) (xC (.str "clear")))) (sRet (xIf (xTest (xOp eqD (xCall lenD (xaCons (xVar 1) xaNil)) (xC (.int 4)))) (xMakeD "Clause" F_Clause_D_initD_ true [.non, .non, .non] (xaCons (xC (.str "clear")) (xaCons (xVar 3) (xaCons (xVar 4) xaNil)))) (xC .non))) sNil)
  (sSeq (sIf (xOrT (xTest (xOp ninD (xOp ixD (xVar 1) (xC (.int 0))) (xTup (xaCons (xC (.str "join")) (xaCons (xC (.str "take")) xaNil))))) (xOrT (xTest (xOp neD (xCall lenD (xaCons (xVar 1) xaNil)) (xC (.int 6)))) (xTest (xOp ninD (xOp ixD (xVar 1) (xC (.int 4))) (xTup (xaCons (xC (.str "left")) (xaCons (xC (.str "right")) xaNil))))))) (sRet (xC .non)) sNil)
  (sSeq (sAsg (xCall F_digit_of (xaCons (xOp ixD (xVar 1) (xC (.int 5))) xaNil)) (gNm 5))
  (sRet (xIf (xTest (xCall F_is_between (xaCons (xVar 5) (xaCons (xC (.int 1)) (xaCons (xC (.int 4)) xaNil))))) (xMakeD "Clause" F_Clause_D_initD_ true [.non] (xaCons (xOp ixD (xVar 1) (xC (.int 0))) (xaCons (xVar 3) (xaCons (xVar 4) (xaCons (xOp ixD (xVar 1) (xC (.int 4))) (xaCons (xVar 5) xaNil)))))) (xC .non)))))))))))
def F_read_clause : Fn := fnOf 6 false B_read_clause
def B_read_clauses : XS := (sSeq (sIf (xNotT (xTest (xCall (isiF cs) (xaCons (xVar 0) (xaCons (xC (.ty "str")) xaNil))))) (sRet (xC .non)) sNil)
  (sSeq (sAsg (xLc (xiSeq (xBM "str" splitF (xVar 0) (xaCons (xC (.str "; ")) xaNil))) [5] (gNm 5) xYes (xCall F_read_clause (xaCons (xVar 5) xaNil))) (gNm 1))
  (sSeq (sIf (xOrT (xTest (xOp gtD (xCall lenD (xaCons (xVar 1) xaNil)) (xC (.int 3)))) (xTest (xCall anyF (xaCons (xLc (xiSeq (xVar 1)) [4] (gNm 4) xYes (xOp isD (xVar 4) (xC .non))) xaNil)))) (sRet (xC .non)) sNil)
  (sSeq (sAsg (xLc (xiSeq (xVar 1)) [4] (gNm 4) (xTest (xOp eqD (xFld "Clause" "word" (xVar 4)) (xC (.str "call")))) (xVar 4)) (gNm 2))
  (sSeq (sIf (xTest (xChain ltD ltD (xC (.int 0)) (xCall lenD (xaCons (xVar 2) xaNil)) (xCall lenD (xaCons (xVar 1) xaNil)))) (sRet (xC .non)) sNil)
  (sSeq (sFor (xiEnum' (xaCons (xVar 1) xaNil)) (gTp 2 (gsCons (gNm 3) (gsCons (gNm 4) gsNil)))
  (sIf (xTest (xCall anyF (xaCons (xLc (xiSeq (xSl (xVar 1) xoN (xoS (xVar 3)))) [6] (gNm 6) xYes (xCall F_meet (xaCons (xVar 4) (xaCons (xVar 6) xaNil)))) xaNil))) (sRet (xC .non)) sNil))
  (sRet (xVar 1))))))))
def F_read_clauses : Fn := fnOf 7 false B_read_clauses
def B_read_round : XS := (sSeq (sAsg (xCall F_read_clauses (xaCons (xVar 0) xaNil)) (gNm 3))
  (sSeq (sIf (xTest (xOp isD (xVar 3) (xC .non))) (sRet (xC .non)) sNil)
  (sSeq (sFor (xiSeq (xVar 3)) (gNm 4)
  (sIf (xAndT (xTest (xOp eqD (xFld "Clause" "word" (xVar 4)) (xC (.str "call")))) (xOrT (xTest (xOp ninD (xFld "Clause" "goal" (xVar 4)) (xVar 1))) (xAndT (xTest (xOp eqD (xFld "Clause" "step" (xVar 4)) (xC (.int 1)))) (xTest (xOp inD (xFld "Clause" "goal" (xVar 4)) (xVar 2)))))) (sRet (xC .non)) sNil))
  (sRet (xVar 3)))))
def F_read_round : Fn := fnOf 5 false B_read_round
def B_is_plan : XS := (sSeq (sIf (xOrT (xNotT (xTest (xCall (isiF cs) (xaCons (xVar 0) (xaCons (xC (.ty "tuple")) xaNil))))) (xTest (xOp neD (xCall lenD (xaCons (xVar 0) xaNil)) (xC (.int 4))))) (sRet (xC (.bl false))) sNil)
  (sSeq (sAsg (xVar 0) (gTp 4 (gsCons (gNm 1) (gsCons (gNm 2) (gsCons (gNm 3) (gsCons (gNm 4) gsNil))))))
  (sSeq (sIf (xOrT (xNotT (xTest (xCall F_is_name (xaCons (xVar 1) xaNil)))) (xOrT (xTest (xOp isD (xCall F_read_goal (xaCons (xVar 2) xaNil)) (xC .non))) (xNotT (xTest (xCall F_is_between (xaCons (xVar 3) (xaCons (xC (.int 1)) (xaCons (xC (.int 4)) xaNil)))))))) (sRet (xC (.bl false))) sNil)
  (sSeq (sIf (xOrT (xNotT (xTest (xCall (isiF cs) (xaCons (xVar 4) (xaCons (xC (.ty "tuple")) xaNil))))) (xNotT (xTest (xChain ltD leD (xC (.int 0)) (xCall lenD (xaCons (xVar 4) xaNil)) (xC (.int 5)))))) (sRet (xC (.bl false))) sNil)
  (sRet (xCall allF (xaCons (xLc (xiSeq (xVar 4)) [5] (gNm 5) xYes (xOp isntD (xCall F_read_clauses (xaCons (xVar 5) xaNil)) (xC .non))) xaNil)))))))
def F_is_plan : Fn := fnOf 6 false B_is_plan
def B_first_invalid : XS := (sSeq (sAsg (xNew xaNil) (gNm 1))
  (sSeq (sFor (xiEnum' (xaCons (xVar 0) xaNil)) (gTp 2 (gsCons (gNm 2) (gsCons (gNm 3) gsNil)))
  (sSeq (sIf (xOrT (xTest (xOp eqD (xVar 2) (xC (.int 4)))) (xOrT (xNotT (xTest (xCall F_is_plan (xaCons (xVar 3) xaNil)))) (xTest (xOp inD (xOp ixD (xVar 3) (xC (.int 0))) (xVar 1))))) (sRet (xVar 2)) sNil)
  (sExpr (xBM "list" appF (xVar 1) (xaCons (xOp ixD (xVar 3) (xC (.int 0))) xaNil)))))
  (sSeq (sFor (xiEnum' (xaCons (xVar 0) xaNil)) (gTp 2 (gsCons (gNm 2) (gsCons (gNm 3) gsNil)))
  (sIf (xTest (xCall anyF (xaCons (xLc (xiSeq (xOp ixD (xVar 3) (xC (.int 3)))) [4] (gNm 4) xYes (xOp isD (xCall F_read_round (xaCons (xVar 4) (xaCons (xVar 1) (xaCons (xSl (xVar 1) xoN (xoS (xOp addD (xVar 2) (xC (.int 1))))) xaNil)))) (xC .non))) xaNil))) (sRet (xVar 2)) sNil))
  (sRet (xC .non)))))
def F_first_invalid : Fn := fnOf 5 false B_first_invalid
def B_Book_D_initD_ : XS := (sSeq (sIf (xOrT (xNotT (xTest (xCall (isiF cs) (xaCons (xVar 1) (xaCons (xC (.ty "tuple")) xaNil))))) (xTest (xOp eqD (xCall lenD (xaCons (xVar 1) xaNil)) (xC (.int 0))))) sNever sNil)
  (sSeq (sAsg (xCall F_first_invalid (xaCons (xVar 1) xaNil)) (gNm 2))
  (sSeq (sIf (xTest (xOp isntD (xVar 2) (xC .non))) sNever sNil)
  (sSeq (sFl "Book" "held" (xVar 0) (xVar 1))
  (sFl "Book" "parsed" (xVar 0) (xDc (xiSeq (xVar 1)) [3] (gNm 3) (xOp ixD (xVar 3) (xC (.int 0))) (xLc (xiSeq (xOp ixD (xVar 3) (xC (.int 3)))) [4] (gNm 4) xYes (xCall F_read_clauses (xaCons (xVar 4) xaNil)))))))))
def F_Book_D_initD_ : Fn := fnOf 5 false B_Book_D_initD_
def B__law_goal_text : XS := (sRet (xOp addD (xOp ixD (xVar 0) (xC (.int 0))) (xIf (xTest (xOp eqD (xOp ixD (xVar 0) (xC (.int 0))) (xC (.str "last")))) (xOp addD (xC (.str " ")) (xCall strF (xaCons (xOp ixD (xVar 0) (xC (.int 1))) xaNil))) (xC (.str "")))))
def F__law_goal_text : Fn := fnOf 1 false B__law_goal_text
def B__law_clause_text : XS := (sSeq (sAsg (xVar 0) (gTp 6 (gsCons (gNm 1) (gsCons (gNm 2) (gsCons (gNm 3) (gsCons (gNm 4) (gsCons (gNm 5) (gsCons (gNm 6) gsNil))))))))
  (sSeq (sAsg (xOp addD (xOp addD (xCall strF (xaCons (xVar 2) xaNil)) (xC (.str " of "))) (xCall strF (xaCons (xVar 3) xaNil))) (gNm 7))
  (sSeq (sIf (xTest (xOp eqD (xVar 1) (xC (.str "call")))) (sRet (xOp addD (xOp addD (xOp addD (xC (.str "call ")) (xVar 6)) (xC (.str " on "))) (xVar 7))) sNil)
  (sRet (xOp addD (xOp addD (xOp addD (xVar 1) (xC (.str " "))) (xVar 7)) (xIf (xTest (xOp eqD (xVar 1) (xC (.str "clear")))) (xC (.str "")) (xOp addD (xOp addD (xOp addD (xC (.str " ")) (xVar 4)) (xC (.str " "))) (xCall strF (xaCons (xVar 5) xaNil)))))))))
def F__law_clause_text : Fn := fnOf 8 false B__law_clause_text
def B__law_parts : XS := (sSeq (sAsg (xCall tupF (xaCons (xLc (xiSeq (xOp ixD (xVar 0) (xC (.int 3)))) [2] (gNm 2) xYes (xBM "str" joinF (xC (.str "; ")) (xaCons (xLc (xiSeq (xVar 2)) [3] (gNm 3) xYes (xCall F__law_clause_text (xaCons (xVar 3) xaNil))) xaNil))) xaNil)) (gNm 1))
  (sRet (xTup (xaCons (xOp ixD (xVar 0) (xC (.int 0))) (xaCons (xCall F__law_goal_text (xaCons (xOp ixD (xVar 0) (xC (.int 1))) xaNil)) (xaCons (xOp ixD (xVar 0) (xC (.int 2))) (xaCons (xVar 1) xaNil)))))))
def F__law_parts : Fn := fnOf 4 false B__law_parts
def B__law_vol : XS := (sRet (xMake "Book" F_Book_D_initD_ true (xaCons (xCall tupF (xaCons (xLc (xiSeq (xVar 0)) [1] (gNm 1) xYes (xCall F__law_parts (xaCons (xVar 1) xaNil))) xaNil)) xaNil)))
def F__law_vol : Fn := fnOf 2 false B__law_vol
def B__law_clause : XS := (sSeq (sPar 6 7 (xaCons (xCall F__law_sip (xaCons (xVar 0) (xaCons (xC (.int 5)) xaNil))) (xaCons (xOp ixD (xLst (xaCons (xC (.str "left")) (xaCons (xC (.str "left")) (xaCons (xC (.str "right")) xaNil)))) (xCall F__law_sip (xaCons (xVar 0) (xaCons (xC (.int 3)) xaNil)))) xaNil)))
  (sSeq (sIf (xTest (xVar 5)) (sRet (xTup (xaCons (xC (.str "call")) (xaCons (xVar 3) (xaCons (xVar 4) (xaCons (xC (.str "")) (xaCons (xC (.int 0)) (xaCons (xOp ixD (xVar 1) (xIf (xTest (xOp gtD (xVar 4) (xC (.int 1)))) (xCall F__law_sip (xaCons (xVar 0) (xaCons (xCall lenD (xaCons (xVar 1) xaNil)) xaNil))) (xOp addD (xVar 2) (xC (.int 1))))) xaNil)))))))) sNil)
  (sSeq (sAsg (xOp ixD (xLst (xaCons (xC (.str "join")) (xaCons (xC (.str "join")) (xaCons (xC (.str "join")) (xaCons (xC (.str "take")) (xaCons (xC (.str "clear")) xaNil)))))) (xVar 6)) (gNm 6))
  (sRet (xTup (xaCons (xVar 6) (xaCons (xVar 3) (xaCons (xVar 4) (xaCons (xVar 7) (xaCons (xOp ixD (xLst (xaCons (xC (.int 1)) (xaCons (xC (.int 1)) (xaCons (xC (.int 2)) (xaCons (xC (.int 2)) (xaCons (xC (.int 3)) (xaCons (xC (.int 4)) xaNil))))))) (xCall F__law_sip (xaCons (xVar 0) (xaCons (xC (.int 6)) xaNil)))) (xaCons (xC (.str "")) xaNil)))))))))))
def F__law_clause : Fn := fnOf 8 false B__law_clause
def B__law_round : XS := (sSeq (sAsg (xTup (xaCons (xOp eqD (xCall F__law_sip (xaCons (xVar 0) (xaCons (xC (.int 4)) xaNil))) (xC (.int 0))) (xaCons (xOp ixD (xLst (xaCons (xC (.int 1)) (xaCons (xC (.int 1)) (xaCons (xC (.int 2)) (xaCons (xC (.int 2)) (xaCons (xC (.int 2)) (xaCons (xC (.int 3)) xaNil))))))) (xCall F__law_sip (xaCons (xVar 0) (xaCons (xC (.int 6)) xaNil)))) xaNil))) (gTp 2 (gsCons (gNm 3) (gsCons (gNm 4) gsNil))))
  (sSeq (sAsg (xTup (xaCons (xCall F__law_sip (xaCons (xVar 0) (xaCons (xVar 4) xaNil))) (xaCons (xOp addD (xC (.int 1)) (xCall F__law_sip (xaCons (xVar 0) (xaCons (xC (.int 3)) xaNil)))) xaNil))) (gTp 2 (gsCons (gNm 5) (gsCons (gNm 6) gsNil))))
  (sSeq (sIf (xAndT (xTest (xVar 3)) (xAndT (xTest (xOp eqD (xVar 4) (xC (.int 1)))) (xTest (xOp geD (xOp addD (xVar 2) (xC (.int 1))) (xCall lenD (xaCons (xVar 1) xaNil)))))) (sAsg (xC (.int 2)) (gNm 4)) sNil)
  (sSeq (sAsg (xCall minF (xaCons (xVar 6) (xaCons (xVar 4) xaNil))) (gNm 6))
  (sRet (xLc (xiRng1 (xaCons (xVar 6) xaNil)) [7] (gNm 7) xYes (xCall F__law_clause (xaCons (xVar 0) (xaCons (xVar 1) (xaCons (xVar 2) (xaCons (xOp modD (xCall intF (xaCons (xOp addD (xVar 5) (xVar 7)) xaNil)) (xVar 4)) (xaCons (xVar 4) (xaCons (xVar 3) xaNil)))))))))))))
def F__law_round : Fn := fnOf 8 false B__law_round
def B__law_goal : XS := (sSeq (sAsg (xOp ixD (xLst (xaCons (xC (.str "all")) (xaCons (xC (.str "all")) (xaCons (xC (.str "before")) (xaCons (xC (.str "last")) xaNil))))) (xCall F__law_sip (xaCons (xVar 0) (xaCons (xC (.int 4)) xaNil)))) (gNm 1))
  (sRet (xTup (xaCons (xVar 1) (xaCons (xIf (xTest (xOp eqD (xVar 1) (xC (.str "last")))) (xOp addD (xC (.int 1)) (xCall F__law_sip (xaCons (xVar 0) (xaCons (xC (.int 4)) xaNil)))) (xC (.int 0))) xaNil)))))
def F__law_goal : Fn := fnOf 2 false B__law_goal
def B__law_plan : XS := (sSeq (sPar3 4 5 6 (xaCons (xCall F__law_goal (xaCons (xVar 0) xaNil)) (xaCons (xOp addD (xC (.int 1)) (xCall F__law_sip (xaCons (xVar 0) (xaCons (xC (.int 4)) xaNil)))) (xaCons (xOp addD (xC (.int 1)) (xCall F__law_sip (xaCons (xVar 0) (xaCons (xVar 3) xaNil)))) xaNil))))
  (sRet (xLst (xaCons (xOp ixD (xVar 1) (xVar 2)) (xaCons (xVar 4) (xaCons (xVar 5) (xaCons (xLc (xiRng1 (xaCons (xVar 6) xaNil)) [7] (gNm 7) xYes (xCall F__law_round (xaCons (xVar 0) (xaCons (xVar 1) (xaCons (xVar 2) xaNil))))) xaNil)))))))
def F__law_plan : Fn := fnOf 8 false B__law_plan
def B__law_good : XS := (sSeq (sPar3 3 4 5 (xaCons (xOp ixD (xVar 1) (xVar 2)) (xaCons (xOp addD (xC (.int 1)) (xCall F__law_sip (xaCons (xVar 0) (xaCons (xC (.int 3)) xaNil)))) (xaCons (xCall F__law_sip (xaCons (xVar 0) (xaCons (xC (.int 4)) xaNil))) xaNil))))
  (sSeq (sIf (xTest (xOp eqD (xVar 5) (xC (.int 0)))) (sRet (xLst (xaCons (xVar 3) (xaCons (xTup (xaCons (xC (.str "last")) (xaCons (xC (.int 2)) xaNil))) (xaCons (xVar 4) (xaCons (xLst (xaCons (xLst (xaCons (xTup (xaCons (xC (.str "join")) (xaCons (xC (.int 0)) (xaCons (xC (.int 1)) (xaCons (xC (.str "left")) (xaCons (xC (.int 1)) (xaCons (xC (.str "")) xaNil))))))) xaNil)) xaNil)) xaNil)))))) sNil)
  (sSeq (sIf (xTest (xOp eqD (xVar 5) (xC (.int 1)))) (sRet (xLst (xaCons (xVar 3) (xaCons (xTup (xaCons (xC (.str "last")) (xaCons (xC (.int 4)) xaNil))) (xaCons (xVar 4) (xaCons (xLst (xaCons (xLst (xaCons (xTup (xaCons (xC (.str "join")) (xaCons (xC (.int 0)) (xaCons (xC (.int 1)) (xaCons (xC (.str "left")) (xaCons (xC (.int 1)) (xaCons (xC (.str "")) xaNil))))))) xaNil)) (xaCons (xLst (xaCons (xTup (xaCons (xC (.str "join")) (xaCons (xC (.int 0)) (xaCons (xC (.int 1)) (xaCons (xC (.str "left")) (xaCons (xC (.int 2)) (xaCons (xC (.str "")) xaNil))))))) xaNil)) xaNil))) xaNil)))))) sNil)
  (sSeq (sIf (xTest (xOp eqD (xVar 5) (xC (.int 2)))) (sSeq (sAsg (xLst (xaCons (xLst (xaCons (xTup (xaCons (xC (.str "join")) (xaCons (xC (.int 1)) (xaCons (xC (.int 2)) (xaCons (xC (.str "left")) (xaCons (xC (.int 1)) (xaCons (xC (.str "")) xaNil))))))) xaNil)) (xaCons (xLst (xaCons (xTup (xaCons (xC (.str "call")) (xaCons (xC (.int 1)) (xaCons (xC (.int 2)) (xaCons (xC (.str "")) (xaCons (xC (.int 0)) (xaCons (xVar 3) xaNil))))))) xaNil)) xaNil))) (gNm 6))
  (sRet (xLst (xaCons (xVar 3) (xaCons (xTup (xaCons (xC (.str "all")) (xaCons (xC (.int 0)) xaNil))) (xaCons (xVar 4) (xaCons (xOp addD (xVar 6) (xLst (xaCons (xLst (xaCons (xTup (xaCons (xC (.str "join")) (xaCons (xC (.int 0)) (xaCons (xC (.int 2)) (xaCons (xC (.str "left")) (xaCons (xC (.int 1)) (xaCons (xC (.str "")) xaNil))))))) xaNil)) xaNil))) xaNil))))))) sNil)
  (sSeq (sAsg (xLst (xaCons (xLst (xaCons (xTup (xaCons (xC (.str "join")) (xaCons (xC (.int 1)) (xaCons (xC (.int 3)) (xaCons (xC (.str "left")) (xaCons (xC (.int 1)) (xaCons (xC (.str "")) xaNil))))))) xaNil)) (xaCons (xLst (xaCons (xTup (xaCons (xC (.str "join")) (xaCons (xC (.int 2)) (xaCons (xC (.int 3)) (xaCons (xC (.str "left")) (xaCons (xC (.int 1)) (xaCons (xC (.str "")) xaNil))))))) xaNil)) (xaCons (xLst (xaCons (xTup (xaCons (xC (.str "call")) (xaCons (xC (.int 2)) (xaCons (xC (.int 3)) (xaCons (xC (.str "")) (xaCons (xC (.int 0)) (xaCons (xVar 3) xaNil))))))) xaNil)) xaNil)))) (gNm 6))
  (sRet (xLst (xaCons (xVar 3) (xaCons (xTup (xaCons (xC (.str "all")) (xaCons (xC (.int 0)) xaNil))) (xaCons (xVar 4) (xaCons (xOp addD (xVar 6) (xLst (xaCons (xLst (xaCons (xTup (xaCons (xC (.str "join")) (xaCons (xC (.int 0)) (xaCons (xC (.int 3)) (xaCons (xC (.str "left")) (xaCons (xC (.int 1)) (xaCons (xC (.str "")) xaNil))))))) (xaCons (xTup (xaCons (xC (.str "join")) (xaCons (xC (.int 1)) (xaCons (xC (.int 3)) (xaCons (xC (.str "left")) (xaCons (xC (.int 2)) (xaCons (xC (.str "")) xaNil))))))) xaNil))) xaNil))) xaNil)))))))))))
def F__law_good : Fn := fnOf 7 false B__law_good
def B__law_labels : XS := (sSeq (sAsg (xTup (xaCons (xCall F__law_sip (xaCons (xVar 0) (xaCons (xC (.int 9)) xaNil))) (xaCons (xOp ixD (xLst (xaCons (xC (.int 1)) (xaCons (xC (.int 2)) (xaCons (xC (.int 4)) (xaCons (xC (.int 5)) xaNil))))) (xCall F__law_sip (xaCons (xVar 0) (xaCons (xC (.int 4)) xaNil)))) xaNil))) (gTp 2 (gsCons (gNm 2) (gsCons (gNm 3) gsNil))))
  (sSeq (sAsg (xLst (xaCons (xC (.str "join")) (xaCons (xC (.str "left")) (xaCons (xC (.str "on")) (xaCons (xC (.str "of")) (xaCons (xC (.str "a1")) (xaCons (xC (.str "a2")) (xaCons (xC (.str "plan")) (xaCons (xC (.str "call")) (xaCons (xC (.str "z9z9z9z9")) xaNil)))))))))) (gNm 4))
  (sRet (xLc (xiRng1 (xaCons (xVar 1) xaNil)) [5] (gNm 5) xYes (xOp ixD (xVar 4) (xOp modD (xCall intF (xaCons (xOp addD (xVar 2) (xOp mulD (xVar 3) (xVar 5))) xaNil)) (xC (.int 9))))))))
def F__law_labels : Fn := fnOf 6 false B__law_labels
def B__law_sketch : XS := (sSeq (sPar 3 4 (xaCons (xCall F__law_labels (xaCons (xVar 0) (xaCons (xVar 1) xaNil))) (xaCons (xNew xaNil) xaNil)))
  (sSeq (sFor (xiRng1 (xaCons (xVar 1) xaNil)) (gNm 5)
  (sExpr (xBM "list" appF (xVar 4) (xaCons (xIf (xTest (xOp eqD (xCall F__law_sip (xaCons (xVar 0) (xaCons (xC (.int 2)) xaNil))) (xC (.int 0)))) (xCall F__law_good (xaCons (xVar 0) (xaCons (xVar 3) (xaCons (xVar 5) xaNil)))) (xCall F__law_plan (xaCons (xVar 0) (xaCons (xVar 3) (xaCons (xVar 5) (xaCons (xVar 2) xaNil)))))) xaNil))))
  (sRet (xVar 4))))
def F__law_sketch : Fn := fnOf 6 false B__law_sketch
def B__law_right : XS := (sSeq (sAsg (xCall F__law_sketch (xaCons (xVar 0) (xaCons (xOp addD (xC (.int 1)) (xCall F__law_sip (xaCons (xVar 0) (xaCons (xC (.int 3)) xaNil)))) (xaCons (xC (.int 3)) xaNil)))) (gNm 1))
  (sSeq (sPar 2 3 (xaCons (xCall F__law_vol (xaCons (xVar 1) xaNil)) (xaCons xNewT xaNil)))
  (sSeq (sFor (xiSeq (xLst (xaCons (xCall F__law_great (xaCons (xVar 0) xaNil)) (xaCons (xCall F__law_great (xaCons (xVar 0) xaNil)) xaNil)))) (gNm 4)
  (sFor (xiSeq (xVar 1)) (gNm 5)
  (sSeq (sAsg (xCall F__law_spent (xaCons (xVar 1) (xaCons (xVar 3) (xaCons (xOp ixD (xVar 5) (xC (.int 0))) (xaCons (xVar 4) xaNil))))) (gNm 6))
  (sIf (xTest (xOp neD (xCall reprF (xaCons (xLst (xaCons (xCall F_joins (xaCons (xVar 2) (xaCons (xOp ixD (xVar 5) (xC (.int 0))) (xaCons (xVar 4) xaNil)))) (xaCons (xCall F_rounds (xaCons (xVar 2) (xaCons (xOp ixD (xVar 5) (xC (.int 0))) (xaCons (xVar 4) xaNil)))) xaNil))) xaNil)) (xCall reprF (xaCons (xLst (xaCons (xOp ixD (xVar 6) (xC (.int 0))) (xaCons (xOp ixD (xVar 6) (xC (.int 1))) xaNil))) xaNil)))) (sRet (xC (.bl false))) sNil))))
  (sRet (xC (.bl true))))))
def F__law_right : Fn := fnOf 7 false B__law_right
def B__law_cup : XS := (sSeq (sAsg (xIf (xTest (xOp ltD (xVar 1) (xCall lenD (xaCons (xVar 0) xaNil)))) (xOp ixD (xVar 0) (xVar 1)) (xOp addD (xVar 1) (xC (.int 2)))) (gNm 2))
  (sSeq (sAsg (xOp addD (xC (.int 50021)) (xOp mulD (xC (.int 8017)) (xVar 1))) (gNm 3))
  (sSeq (sFor (xiSeq (xOp addD (xSl (xVar 0) xoN (xoS (xC (.int 4)))) (xLst (xaCons (xVar 2) xaNil)))) (gNm 4)
  (sAsg (xOp modD (xCall intF (xaCons (xOp addD (xOp mulD (xVar 3) (xC (.int 26021))) (xVar 4)) xaNil)) (xC (.int 2147483477))) (gNm 3)))
  (sRet (xNew (xaCons (xIf (xOrT (xTest (xOp ltD (xVar 2) (xC (.int 0)))) (xTest (xOp geD (xVar 2) (xOp powD (xC (.int 10)) (xC (.int 18)))))) (xCall absF (xaCons (xVar 2) xaNil)) (xC (.int 0))) (xaCons (xVar 3) (xaCons (xC (.int 0)) xaNil))))))))
def F__law_cup : Fn := fnOf 5 true B__law_cup
def B_law : XS := (sRet (xCall allF (xaCons (xLc (xiRng1 (xaCons (xCall maxF (xaCons (xC (.int 2)) (xaCons (xCall minF (xaCons (xCall lenD (xaCons (xVar 0) xaNil)) (xaCons (xC (.int 4)) xaNil))) xaNil))) xaNil)) [1] (gNm 1) xYes (xCall F__law_right (xaCons (xCall F__law_cup (xaCons (xVar 0) (xaCons (xVar 1) xaNil))) xaNil))) xaNil)))
def F_law : Fn := fnOf 2 false B_law
end J
namespace J
open PySem PySem.Spec PyProof.Rows L2 DS
def topS (i : Nat) : Stmt := PySem.Challenge.pw_joinrounds_k38_whole_great_lengths.main.body.getD i (.Pass ⟨0, 0, 0, 0⟩)
def clsS (st : Stmt) (j : Nat) : Stmt := match st with
  | .ClassDef _ _ _ body _ _ _ _ _ _ _ => body.getD j (.Pass ⟨0, 0, 0, 0⟩)
  | _ => .Pass ⟨0, 0, 0, 0⟩
abbrev s_places_between : Stmt := topS 45
abbrev N_places_between : List Str := ["clause", "least", "end", "first"]
abbrev P_places_between : List Str := ["clause", "least", "end"]
def d_places_between : He.DefD := ⟨("places_between", none), "places_between", "places_between", defArgs s_places_between, defBody s_places_between, defScope s_places_between, [], []⟩
abbrev s_deeds_at : Stmt := topS 46
abbrev N_deeds_at : List Str := ["clause", "size"]
abbrev P_deeds_at : List Str := ["clause", "size"]
def d_deeds_at : He.DefD := ⟨("deeds_at", none), "deeds_at", "deeds_at", defArgs s_deeds_at, defBody s_deeds_at, defScope s_deeds_at, [], []⟩
abbrev s_Book_program : Stmt := clsS (topS 41) 5
abbrev N_Book_program : List Str := ["self", "name"]
abbrev P_Book_program : List Str := ["self", "name"]
def d_Book_program : He.DefD := ⟨("Book", some "program"), "program", "Book.program", defArgs s_Book_program, defBody s_Book_program, defScope s_Book_program, [], []⟩
abbrev s_plain_joins : Stmt := topS 47
abbrev N_plain_joins : List Str := ["goal", "size", "word", "many", "pieces", "place", "count"]
abbrev P_plain_joins : List Str := ["goal", "size"]
def d_plain_joins : He.DefD := ⟨("plain_joins", none), "plain_joins", "plain_joins", defArgs s_plain_joins, defBody s_plain_joins, defScope s_plain_joins, [], []⟩
abbrev s_is_integer : Stmt := topS 12
abbrev N_is_integer : List Str := ["value"]
abbrev P_is_integer : List Str := ["value"]
def d_is_integer : He.DefD := ⟨("is_integer", none), "is_integer", "is_integer", defArgs s_is_integer, defBody s_is_integer, defScope s_is_integer, [], []⟩
abbrev s_is_between : Stmt := topS 13
abbrev N_is_between : List Str := ["value", "least", "most"]
abbrev P_is_between : List Str := ["value", "least", "most"]
def d_is_between : He.DefD := ⟨("is_between", none), "is_between", "is_between", defArgs s_is_between, defBody s_is_between, defScope s_is_between, [], []⟩
abbrev s_digit_of : Stmt := topS 27
abbrev N_digit_of : List Str := ["word"]
abbrev P_digit_of : List Str := ["word"]
def d_digit_of : He.DefD := ⟨("digit_of", none), "digit_of", "digit_of", defArgs s_digit_of, defBody s_digit_of, defScope s_digit_of, [], []⟩
abbrev s_read_goal : Stmt := topS 35
abbrev N_read_goal : List Str := ["text", "many"]
abbrev P_read_goal : List Str := ["text"]
def d_read_goal : He.DefD := ⟨("read_goal", none), "read_goal", "read_goal", defArgs s_read_goal, defBody s_read_goal, defScope s_read_goal, [], []⟩
abbrev s_Book_plan : Stmt := clsS (topS 41) 4
abbrev N_Book_plan : List Str := ["self", "name", "row"]
abbrev P_Book_plan : List Str := ["self", "name"]
def d_Book_plan : He.DefD := ⟨("Book", some "plan"), "plan", "Book.plan", defArgs s_Book_plan, defBody s_Book_plan, defScope s_Book_plan, [], []⟩
abbrev s_Book_goal_of : Stmt := clsS (topS 41) 6
abbrev N_Book_goal_of : List Str := ["self", "name"]
abbrev P_Book_goal_of : List Str := ["self", "name"]
def d_Book_goal_of : He.DefD := ⟨("Book", some "goal_of"), "goal_of", "Book.goal_of", defArgs s_Book_goal_of, defBody s_Book_goal_of, defScope s_Book_goal_of, [], []⟩
abbrev s_Counter_both : Stmt := clsS (topS 48) 1
abbrev N_Counter_both : List Str := ["self", "name", "size"]
abbrev P_Counter_both : List Str := ["self", "name", "size"]
def d_Counter_both : He.DefD := ⟨("Counter", some "both"), "both", "Counter.both", defArgs s_Counter_both, defBody s_Counter_both, defScope s_Counter_both, [], []⟩
abbrev s_Counter_found : Stmt := clsS (topS 48) 2
abbrev N_Counter_found : List Str := ["self", "name", "size", "plain", "many", "deep", "clauses", "pairs", "clause", "pair"]
abbrev P_Counter_found : List Str := ["self", "name", "size"]
def d_Counter_found : He.DefD := ⟨("Counter", some "found"), "found", "Counter.found", defArgs s_Counter_found, defBody s_Counter_found, defScope s_Counter_found, [], []⟩
abbrev s_Counter_D_initD_ : Stmt := clsS (topS 48) 0
abbrev N_Counter_D_initD_ : List Str := ["self", "book"]
abbrev P_Counter_D_initD_ : List Str := ["self", "book"]
def d_Counter_D_initD_ : He.DefD := ⟨("Counter", some "__init__"), "__init__", "Counter.__init__", defArgs s_Counter_D_initD_, defBody s_Counter_D_initD_, defScope s_Counter_D_initD_, [], []⟩
abbrev s_check_size : Stmt := topS 15
abbrev N_check_size : List Str := ["size", "most"]
abbrev P_check_size : List Str := ["size", "most"]
def d_check_size : He.DefD := ⟨("check_size", none), "check_size", "check_size", defArgs s_check_size, defBody s_check_size, defScope s_check_size, [], []⟩
abbrev s_check_plan : Stmt := topS 43
abbrev N_check_plan : List Str := ["book", "name"]
abbrev P_check_plan : List Str := ["book", "name"]
def d_check_plan : He.DefD := ⟨("check_plan", none), "check_plan", "check_plan", defArgs s_check_plan, defBody s_check_plan, defScope s_check_plan, [], []⟩
abbrev s_check_book : Stmt := topS 42
abbrev N_check_book : List Str := ["book"]
abbrev P_check_book : List Str := ["book"]
def d_check_book : He.DefD := ⟨("check_book", none), "check_book", "check_book", defArgs s_check_book, defBody s_check_book, defScope s_check_book, [], []⟩
abbrev s_rounds : Stmt := topS 50
abbrev N_rounds : List Str := ["book", "name", "size"]
abbrev P_rounds : List Str := ["book", "name", "size"]
def d_rounds : He.DefD := ⟨("rounds", none), "rounds", "rounds", defArgs s_rounds, defBody s_rounds, defScope s_rounds, [], []⟩
abbrev s_joins : Stmt := topS 49
abbrev N_joins : List Str := ["book", "name", "size"]
abbrev P_joins : List Str := ["book", "name", "size"]
def d_joins : He.DefD := ⟨("joins", none), "joins", "joins", defArgs s_joins, defBody s_joins, defScope s_joins, [], []⟩
abbrev s__law_below : Stmt := topS 66
abbrev N__law_below : List Str := ["_law_rest", "_law_step", "_law_many"]
abbrev P__law_below : List Str := ["_law_rest", "_law_step", "_law_many"]
def d__law_below : He.DefD := ⟨("_law_below", none), "_law_below", "_law_below", defArgs s__law_below, defBody s__law_below, defScope s__law_below, [], []⟩
abbrev s__law_due : Stmt := topS 65
abbrev N__law_due : List Str := ["_law_goal_here", "_law_k"]
abbrev P__law_due : List Str := ["_law_goal_here", "_law_k"]
def d__law_due : He.DefD := ⟨("_law_due", none), "_law_due", "_law_due", defArgs s__law_due, defBody s__law_due, defScope s__law_due, [], []⟩
abbrev s__law_plain : Stmt := topS 67
abbrev N__law_plain : List Str := ["_law_goal_here", "_law_many", "_law_spent_here", "_law_k"]
abbrev P__law_plain : List Str := ["_law_goal_here", "_law_many"]
def d__law_plain : He.DefD := ⟨("_law_plain", none), "_law_plain", "_law_plain", defArgs s__law_plain, defBody s__law_plain, defScope s__law_plain, [], []⟩
abbrev s__law_spent : Stmt := topS 69
abbrev N__law_spent : List Str := ["_law_sketch_here", "_law_known", "_law_label", "_law_many", "_law_plan_here", "_law_whole", "_law_deep", "_law_each", "_law_parts_here", "_law_clause_here", "_law_part"]
abbrev P__law_spent : List Str := ["_law_sketch_here", "_law_known", "_law_label", "_law_many"]
def d__law_spent : He.DefD := ⟨("_law_spent", none), "_law_spent", "_law_spent", defArgs s__law_spent, defBody s__law_spent, defScope s__law_spent, [], []⟩
abbrev s__law_clause_spent : Stmt := topS 68
abbrev N__law_clause_spent : List Str := ["_law_sketch_here", "_law_known", "_law_clause_here", "_law_many", "_law_word", "_law_rest", "_law_step", "_law_side", "_law_far", "_law_label", "_law_inner"]
abbrev P__law_clause_spent : List Str := ["_law_sketch_here", "_law_known", "_law_clause_here", "_law_many"]
def d__law_clause_spent : He.DefD := ⟨("_law_clause_spent", none), "_law_clause_spent", "_law_clause_spent", defArgs s__law_clause_spent, defBody s__law_clause_spent, defScope s__law_clause_spent, [], []⟩
abbrev s__law_sip : Stmt := topS 53
abbrev N__law_sip : List Str := ["_law_cup_here", "_law_top", "_law_digit"]
abbrev P__law_sip : List Str := ["_law_cup_here", "_law_top"]
def d__law_sip : He.DefD := ⟨("_law_sip", none), "_law_sip", "_law_sip", defArgs s__law_sip, defBody s__law_sip, defScope s__law_sip, [], []⟩
abbrev s__law_great : Stmt := topS 70
abbrev N__law_great : List Str := ["_law_cup_here", "_law_pick", "_law_deep", "_law_many", "_law_k"]
abbrev P__law_great : List Str := ["_law_cup_here"]
def d__law_great : He.DefD := ⟨("_law_great", none), "_law_great", "_law_great", defArgs s__law_great, defBody s__law_great, defScope s__law_great, [], []⟩
abbrev s_meet : Stmt := topS 31
abbrev N_meet : List Str := ["one", "other"]
abbrev P_meet : List Str := ["one", "other"]
def d_meet : He.DefD := ⟨("meet", none), "meet", "meet", defArgs s_meet, defBody s_meet, defScope s_meet, [], []⟩
abbrev s_Clause_D_initD_ : Stmt := clsS (topS 26) 0
abbrev N_Clause_D_initD_ : List Str := ["self", "word", "rest", "step", "side", "far", "goal"]
abbrev P_Clause_D_initD_ : List Str := ["self", "word", "rest", "step", "side", "far", "goal"]
def d_Clause_D_initD_ : He.DefD := ⟨("Clause", some "__init__"), "__init__", "Clause.__init__", defArgs s_Clause_D_initD_, defBody s_Clause_D_initD_, defScope s_Clause_D_initD_, [.non, .non, .non], []⟩
abbrev s_class_of : Stmt := topS 28
abbrev N_class_of : List Str := ["words", "rest", "step"]
abbrev P_class_of : List Str := ["words"]
def d_class_of : He.DefD := ⟨("class_of", none), "class_of", "class_of", defArgs s_class_of, defBody s_class_of, defScope s_class_of, [], []⟩
abbrev s_is_name : Stmt := topS 14
abbrev N_is_name : List Str := ["value", "sign"]
abbrev P_is_name : List Str := ["value"]
def d_is_name : He.DefD := ⟨("is_name", none), "is_name", "is_name", defArgs s_is_name, defBody s_is_name, defScope s_is_name, [], []⟩
abbrev s_read_call : Stmt := topS 29
abbrev N_read_call : List Str := ["words", "found", "rest", "step"]
abbrev P_read_call : List Str := ["words"]
def d_read_call : He.DefD := ⟨("read_call", none), "read_call", "read_call", defArgs s_read_call, defBody s_read_call, defScope s_read_call, [], []⟩
abbrev s_read_clause : Stmt := topS 30
abbrev N_read_clause : List Str := ["text", "words", "found", "rest", "step", "far"]
abbrev P_read_clause : List Str := ["text"]
def d_read_clause : He.DefD := ⟨("read_clause", none), "read_clause", "read_clause", defArgs s_read_clause, defBody s_read_clause, defScope s_read_clause, [], []⟩
abbrev s_read_clauses : Stmt := topS 32
abbrev N_read_clauses : List Str := ["text", "found", "calls", "at", "clause", "part", "other"]
abbrev P_read_clauses : List Str := ["text"]
def d_read_clauses : He.DefD := ⟨("read_clauses", none), "read_clauses", "read_clauses", defArgs s_read_clauses, defBody s_read_clauses, defScope s_read_clauses, [], []⟩
abbrev s_read_round : Stmt := topS 33
abbrev N_read_round : List Str := ["text", "names", "above", "found", "clause"]
abbrev P_read_round : List Str := ["text", "names", "above"]
def d_read_round : He.DefD := ⟨("read_round", none), "read_round", "read_round", defArgs s_read_round, defBody s_read_round, defScope s_read_round, [], []⟩
abbrev s_is_plan : Stmt := topS 36
abbrev N_is_plan : List Str := ["value", "name", "goal", "base", "rounds", "text"]
abbrev P_is_plan : List Str := ["value"]
def d_is_plan : He.DefD := ⟨("is_plan", none), "is_plan", "is_plan", defArgs s_is_plan, defBody s_is_plan, defScope s_is_plan, [], []⟩
abbrev s_first_invalid : Stmt := topS 37
abbrev N_first_invalid : List Str := ["plans", "names", "index", "plan", "text"]
abbrev P_first_invalid : List Str := ["plans"]
def d_first_invalid : He.DefD := ⟨("first_invalid", none), "first_invalid", "first_invalid", defArgs s_first_invalid, defBody s_first_invalid, defScope s_first_invalid, [], []⟩
abbrev s_Book_D_initD_ : Stmt := clsS (topS 41) 0
abbrev N_Book_D_initD_ : List Str := ["self", "plans", "index", "plan", "text"]
abbrev P_Book_D_initD_ : List Str := ["self", "plans"]
def d_Book_D_initD_ : He.DefD := ⟨("Book", some "__init__"), "__init__", "Book.__init__", defArgs s_Book_D_initD_, defBody s_Book_D_initD_, defScope s_Book_D_initD_, [], []⟩
abbrev s__law_goal_text : Stmt := topS 62
abbrev N__law_goal_text : List Str := ["_law_goal_here"]
abbrev P__law_goal_text : List Str := ["_law_goal_here"]
def d__law_goal_text : He.DefD := ⟨("_law_goal_text", none), "_law_goal_text", "_law_goal_text", defArgs s__law_goal_text, defBody s__law_goal_text, defScope s__law_goal_text, [], []⟩
abbrev s__law_clause_text : Stmt := topS 61
abbrev N__law_clause_text : List Str := ["_law_clause_here", "_law_word", "_law_rest", "_law_step", "_law_side", "_law_far", "_law_label", "_law_spot"]
abbrev P__law_clause_text : List Str := ["_law_clause_here"]
def d__law_clause_text : He.DefD := ⟨("_law_clause_text", none), "_law_clause_text", "_law_clause_text", defArgs s__law_clause_text, defBody s__law_clause_text, defScope s__law_clause_text, [], []⟩
abbrev s__law_parts : Stmt := topS 63
abbrev N__law_parts : List Str := ["_law_plan_here", "_law_lines", "_law_each", "_law_clause_here"]
abbrev P__law_parts : List Str := ["_law_plan_here"]
def d__law_parts : He.DefD := ⟨("_law_parts", none), "_law_parts", "_law_parts", defArgs s__law_parts, defBody s__law_parts, defScope s__law_parts, [], []⟩
abbrev s__law_vol : Stmt := topS 64
abbrev N__law_vol : List Str := ["_law_sketch_here", "_law_plan_here"]
abbrev P__law_vol : List Str := ["_law_sketch_here"]
def d__law_vol : He.DefD := ⟨("_law_vol", none), "_law_vol", "_law_vol", defArgs s__law_vol, defBody s__law_vol, defScope s__law_vol, [], []⟩
abbrev s__law_clause : Stmt := topS 55
abbrev N__law_clause : List Str := ["_law_cup_here", "_law_labels_here", "_law_at", "_law_rest", "_law_step", "_law_calls", "_law_word", "_law_side"]
abbrev P__law_clause : List Str := ["_law_cup_here", "_law_labels_here", "_law_at", "_law_rest", "_law_step", "_law_calls"]
def d__law_clause : He.DefD := ⟨("_law_clause", none), "_law_clause", "_law_clause", defArgs s__law_clause, defBody s__law_clause, defScope s__law_clause, [], []⟩
abbrev s__law_round : Stmt := topS 56
abbrev N__law_round : List Str := ["_law_cup_here", "_law_labels_here", "_law_at", "_law_calls", "_law_step", "_law_rest", "_law_many", "_law_k"]
abbrev P__law_round : List Str := ["_law_cup_here", "_law_labels_here", "_law_at"]
def d__law_round : He.DefD := ⟨("_law_round", none), "_law_round", "_law_round", defArgs s__law_round, defBody s__law_round, defScope s__law_round, [], []⟩
abbrev s__law_goal : Stmt := topS 57
abbrev N__law_goal : List Str := ["_law_cup_here", "_law_word"]
abbrev P__law_goal : List Str := ["_law_cup_here"]
def d__law_goal : He.DefD := ⟨("_law_goal", none), "_law_goal", "_law_goal", defArgs s__law_goal, defBody s__law_goal, defScope s__law_goal, [], []⟩
abbrev s__law_plan : Stmt := topS 58
abbrev N__law_plan : List Str := ["_law_cup_here", "_law_labels_here", "_law_at", "_law_most", "_law_goal_here", "_law_base", "_law_many", "_law_k"]
abbrev P__law_plan : List Str := ["_law_cup_here", "_law_labels_here", "_law_at", "_law_most"]
def d__law_plan : He.DefD := ⟨("_law_plan", none), "_law_plan", "_law_plan", defArgs s__law_plan, defBody s__law_plan, defScope s__law_plan, [], []⟩
abbrev s__law_good : Stmt := topS 59
abbrev N__law_good : List Str := ["_law_cup_here", "_law_labels_here", "_law_at", "_law_label", "_law_base", "_law_pick", "_law_some"]
abbrev P__law_good : List Str := ["_law_cup_here", "_law_labels_here", "_law_at"]
def d__law_good : He.DefD := ⟨("_law_good", none), "_law_good", "_law_good", defArgs s__law_good, defBody s__law_good, defScope s__law_good, [], []⟩
abbrev s__law_labels : Stmt := topS 54
abbrev N__law_labels : List Str := ["_law_cup_here", "_law_span", "_law_begin", "_law_far", "_law_menu", "_law_k"]
abbrev P__law_labels : List Str := ["_law_cup_here", "_law_span"]
def d__law_labels : He.DefD := ⟨("_law_labels", none), "_law_labels", "_law_labels", defArgs s__law_labels, defBody s__law_labels, defScope s__law_labels, [], []⟩
abbrev s__law_sketch : Stmt := topS 60
abbrev N__law_sketch : List Str := ["_law_cup_here", "_law_span", "_law_most", "_law_labels_here", "_law_plans", "_law_at"]
abbrev P__law_sketch : List Str := ["_law_cup_here", "_law_span", "_law_most"]
def d__law_sketch : He.DefD := ⟨("_law_sketch", none), "_law_sketch", "_law_sketch", defArgs s__law_sketch, defBody s__law_sketch, defScope s__law_sketch, [], []⟩
abbrev s__law_right : Stmt := topS 71
abbrev N__law_right : List Str := ["_law_cup_here", "_law_sketch_here", "_law_vol_here", "_law_known", "_law_many", "_law_plan_here", "_law_due_here"]
abbrev P__law_right : List Str := ["_law_cup_here"]
def d__law_right : He.DefD := ⟨("_law_right", none), "_law_right", "_law_right", defArgs s__law_right, defBody s__law_right, defScope s__law_right, [], []⟩
abbrev s__law_cup : Stmt := topS 52
abbrev N__law_cup : List Str := ["_law_cells", "_law_turn", "_law_cell", "_law_mixed", "_law_each"]
abbrev P__law_cup : List Str := ["_law_cells", "_law_turn"]
def d__law_cup : He.DefD := ⟨("_law_cup", none), "_law_cup", "_law_cup", defArgs s__law_cup, defBody s__law_cup, defScope s__law_cup, [], []⟩
abbrev s_law : Stmt := topS 72
abbrev N_law : List Str := ["_law_cells", "_law_turn"]
abbrev P_law : List Str := ["_law_cells"]
def d_law : He.DefD := ⟨("law", none), "law", "law", defArgs s_law, defBody s_law, defScope s_law, [], []⟩
def fa0 : List He.Fa := [.cls "Clause", .noat "Clause" "rest", .free "int", .noat "Clause" "step", .noat "Clause" "side", .noat "Clause" "far", .glo "places_between", .cls "Book"]
def fa1 : List He.Fa := [.noat "Book" "parsed", .free "range", .free "min", .free "max", .free "isinstance", .free "bool", .glo "is_integer", .free "len"]
def fa2 : List He.Fa := [.str "DIGITS" "0123456789", .free "str", .glo "digit_of", .int "MOST_LAST" 4, .glo "is_between", .noat "Book" "held", .meth "Book" "plan", .glo "read_goal"]
def fa3 : List He.Fa := [.cls "Counter", .noat "Counter" "known", .meth "Counter" "found", .noat "Counter" "shelf", .meth "Book" "goal_of", .glo "plain_joins", .free "sum", .meth "Book" "program"]
def fa4 : List He.Fa := [.noat "Clause" "word", .meth "Counter" "both", .noat "Clause" "goal", .glo "deeds_at", .glo "Book", .glo "check_book", .glo "check_plan", .int "MOST_SIZE" 1000000000000]
def fa5 : List He.Fa := [.glo "check_size", .mkr "Counter", .glo "Counter", .free "tuple", .glo "_law_due", .glo "_law_plain", .glo "_law_clause_spent", .glo "_law_below"]
def fa6 : List He.Fa := [.glo "_law_spent", .free "divmod", .glo "_law_sip", .int "MOST_CLASSES" 3, .str "LETTERS" "abcdefghijklmnopqrstuvwxyz", .free "all", .glo "class_of", .glo "is_name"]
def fa7 : List He.Fa := [.mkr "Clause", .glo "Clause", .glo "read_call", .int "MOST_FAR" 4, .str "GAP" "; ", .glo "read_clause", .int "MOST_CLAUSES" 3, .free "any"]
def fa8 : List He.Fa := [.free "enumerate", .glo "meet", .glo "read_clauses", .int "MOST_BASE" 4, .int "MOST_ROUNDS" 5, .int "MOST_PLANS" 4, .glo "is_plan", .glo "read_round"]
def fa9 : List He.Fa := [.glo "first_invalid", .glo "_law_clause_text", .glo "_law_goal_text", .mkr "Book", .glo "_law_parts", .glo "_law_clause", .glo "_law_goal", .glo "_law_round"]
def fa10 : List He.Fa := [.glo "_law_labels", .glo "_law_good", .glo "_law_plan", .glo "_law_sketch", .glo "_law_vol", .glo "_law_great", .glo "joins", .glo "rounds"]
def fa11 : List He.Fa := [.free "repr", .free "abs", .glo "_law_cup", .glo "_law_right", .glo "law"]
def fa : List He.Fa := fa0 ++ (fa1 ++ (fa2 ++ (fa3 ++ (fa4 ++ (fa5 ++ (fa6 ++ (fa7 ++ (fa8 ++ (fa9 ++ (fa10 ++ (fa11)))))))))))
def fn0 : List He.DefD := [d_places_between, d_deeds_at, d_Book_program, d_plain_joins, d_is_integer, d_is_between, d_digit_of, d_read_goal]
def fn1 : List He.DefD := [d_Book_plan, d_Book_goal_of, d_Counter_both, d_Counter_found, d_Counter_D_initD_, d_check_size, d_check_plan, d_check_book]
def fn2 : List He.DefD := [d_rounds, d_joins, d__law_below, d__law_due, d__law_plain, d__law_spent, d__law_clause_spent, d__law_sip]
def fn3 : List He.DefD := [d__law_great, d_meet, d_Clause_D_initD_, d_class_of, d_is_name, d_read_call, d_read_clause, d_read_clauses]
def fn4 : List He.DefD := [d_read_round, d_is_plan, d_first_invalid, d_Book_D_initD_, d__law_goal_text, d__law_clause_text, d__law_parts, d__law_vol]
def fn5 : List He.DefD := [d__law_clause, d__law_round, d__law_goal, d__law_plan, d__law_good, d__law_labels, d__law_sketch, d__law_right]
def fn6 : List He.DefD := [d__law_cup, d_law]
def fn : List He.DefD := fn0 ++ (fn1 ++ (fn2 ++ (fn3 ++ (fn4 ++ (fn5 ++ (fn6))))))
def pr : List PrD := []
def xf : List (PySem.W.Frag → Bool) := [smB]
def xi : List XiD := []
def tb : List Str := []
def tl : Tl := ⟨fa, fn, pr, cs, xf, xi, tb, (PySem.Challenge.pw_joinrounds_k38_whole_great_lengths.main.file : Str)⟩
def nmL0 : List PySem.Str := ["_wall", "NotRight", "InvalidText", "InvalidCount", "NotABook", "InvalidPlans", "NotThere", "UnknownPlan", "LETTERS", "DIGITS"]
def nmL1 : List PySem.Str := ["is_integer", "is_between", "is_name", "check_size", "MOST_PLANS", "MOST_ROUNDS", "MOST_CLAUSES", "MOST_CLASSES", "MOST_FAR", "MOST_LAST"]
def nmL2 : List PySem.Str := ["MOST_BASE", "MOST_SIZE", "GAP", "Clause", "digit_of", "class_of", "read_call", "read_clause", "meet", "read_clauses"]
def nmL3 : List PySem.Str := ["read_round", "read_goal", "is_plan", "first_invalid", "read_head", "read_plans", "text_of", "Book", "check_book", "check_plan"]
def nmL4 : List PySem.Str := ["places_between", "deeds_at", "plain_joins", "Counter", "joins", "rounds", "_law_cup", "_law_sip", "_law_labels", "_law_clause"]
def nmL5 : List PySem.Str := ["_law_round", "_law_goal", "_law_plan", "_law_good", "_law_sketch", "_law_clause_text", "_law_goal_text", "_law_parts", "_law_vol", "_law_due"]
def nmL6 : List PySem.Str := ["_law_below", "_law_plain", "_law_clause_spent", "_law_spent", "_law_great", "_law_right"]
def nmL : List PySem.Str := nmL0 ++ (nmL1 ++ (nmL2 ++ (nmL3 ++ (nmL4 ++ (nmL5 ++ (nmL6))))))
abbrev R : PySem.W.OpenRow := PySem.W.OpenLaw.row PySem.Challenge.rw_joinrounds_k38_whole_great_lengths
abbrev hk : PySem.W.Hook := hookR 1500 tl
def ob (s : PySem.W.SharedT) : AlM := obsMR 1500 tl (HandSHeadRun.getT s)
theorem ob_eq (s : PySem.W.SharedT) : ob s = hk.obs s.abs := obsMR_eq (HandSHeadRun.getT_eq s)
set_option maxHeartbeats 0 in
theorem runA (w : World) : RunA R (PySem.W.view R.prog [72]) 20000 nmL w := by
  intro os
  kernel_rfl
set_option maxHeartbeats 0 in
theorem runB (w : World) : RunB R 20000 (fun s => (ob s).1) (valM tl).1 w := by
  intro os
  kernel_rfl
set_option maxHeartbeats 0 in
theorem runC (w : World) : RunB R 20000 (fun s => (ob s).2) (valM tl).2 w := by
  intro os
  kernel_rfl
theorem run (w : World) : HandSHeadRun.RunEq R (PySem.W.view R.prog [72]) hk ob 20000 nmL w := fun os => map3 (runA w os) (runB w os) (runC w os)
end J
namespace J
open PySem PySem.Spec PyProof.Rows L2 DS
theorem fr_B_plain_joins : FrB B_plain_joins := (fr_sSeq (fr_sAsg (fr_xVar 0) (fr_gTp 2 (fr_gsCons (fr_gNm 2) (fr_gsCons (fr_gNm 3) fr_gsNil))))
  (fr_sSeq (fr_sAsg (fr_xLc (fr_xiRng1 (fr_xaCons (fr_xVar 1) fr_xaNil)) [5] (fr_gNm 5) fr_xYes (fr_xIf (fr_xTest (fr_xOp fr_eqD (fr_xVar 2) (fr_xC (.str "before")))) (fr_xVar 5) (fr_xOp fr_addD (fr_xVar 5) (fr_xC (.int 1))))) (fr_gNm 4))
  (fr_sRet (fr_xLc (fr_xiSeq (fr_xVar 4)) [6] (fr_gNm 6) fr_xYes (fr_xCall fr_maxF (fr_xaCons (fr_xC (.int 0)) (fr_xaCons (fr_xOp fr_subD (fr_xIf (fr_xTest (fr_xOp fr_eqD (fr_xVar 2) (fr_xC (.str "last")))) (fr_xCall fr_minF (fr_xaCons (fr_xVar 6) (fr_xaCons (fr_xVar 3) fr_xaNil))) (fr_xVar 6)) (fr_xC (.int 1))) fr_xaNil)))))))
theorem fr_F_plain_joins : FrF F_plain_joins := fr_fnOf 7 false fr_B_plain_joins
theorem fr_B_is_integer : FrB B_is_integer := (fr_sRet (fr_xAnd (fr_xCall (fr_isiF cs) (fr_xaCons (fr_xVar 0) (fr_xaCons (fr_xC (.ty "int")) fr_xaNil))) (fr_xNot (fr_xCall (fr_isiF cs) (fr_xaCons (fr_xVar 0) (fr_xaCons (fr_xC (.ty "bool")) fr_xaNil))))))
theorem fr_F_is_integer : FrF F_is_integer := fr_fnOf 1 false fr_B_is_integer
theorem fr_B_is_between : FrB B_is_between := (fr_sRet (fr_xAnd (fr_xCall fr_F_is_integer (fr_xaCons (fr_xVar 0) fr_xaNil)) (fr_xChain fr_leD fr_leD (fr_xVar 1) (fr_xVar 0) (fr_xVar 2))))
theorem fr_F_is_between : FrF F_is_between := fr_fnOf 3 false fr_B_is_between
theorem fr_B_digit_of : FrB B_digit_of := (fr_sRet (fr_xIf (fr_xAndT (fr_xTest (fr_xOp fr_eqD (fr_xCall fr_lenD (fr_xaCons (fr_xVar 0) fr_xaNil)) (fr_xC (.int 1)))) (fr_xTest (fr_xOp fr_inD (fr_xVar 0) (fr_xC (.str "0123456789"))))) (fr_xCall fr_intF (fr_xaCons (fr_xVar 0) fr_xaNil)) (fr_xC .non)))
theorem fr_F_digit_of : FrF F_digit_of := fr_fnOf 1 false fr_B_digit_of
theorem fr_B_read_goal : FrB B_read_goal := (fr_sSeq (fr_sIf (fr_xNotT (fr_xTest (fr_xCall (fr_isiF cs) (fr_xaCons (fr_xVar 0) (fr_xaCons (fr_xC (.ty "str")) fr_xaNil))))) (fr_sRet (fr_xC .non)) fr_sNil)
  (fr_sSeq (fr_sIf (fr_xTest (fr_xOp fr_inD (fr_xVar 0) (fr_xTup (fr_xaCons (fr_xC (.str "all")) (fr_xaCons (fr_xC (.str "before")) fr_xaNil))))) (fr_sRet (fr_xTup (fr_xaCons (fr_xVar 0) (fr_xaCons (fr_xC .non) fr_xaNil)))) fr_sNil)
  (fr_sSeq (fr_sAsg (fr_xIf (fr_xTest (fr_xOp fr_eqD (fr_xSl (fr_xVar 0) fr_xoN (fr_xoS (fr_xC (.int 5)))) (fr_xC (.str "last ")))) (fr_xCall fr_F_digit_of (fr_xaCons (fr_xSl (fr_xVar 0) (fr_xoS (fr_xC (.int 5))) fr_xoN) fr_xaNil)) (fr_xC .non)) (fr_gNm 1))
  (fr_sRet (fr_xIf (fr_xTest (fr_xCall fr_F_is_between (fr_xaCons (fr_xVar 1) (fr_xaCons (fr_xC (.int 1)) (fr_xaCons (fr_xC (.int 4)) fr_xaNil))))) (fr_xTup (fr_xaCons (fr_xC (.str "last")) (fr_xaCons (fr_xVar 1) fr_xaNil))) (fr_xC .non))))))
theorem fr_F_read_goal : FrF F_read_goal := fr_fnOf 2 false fr_B_read_goal
theorem fr_B_meet : FrB B_meet := (fr_sRet (fr_xOr (fr_xOp fr_neD (fr_xFld "Clause" "step" (fr_xVar 0)) (fr_xFld "Clause" "step" (fr_xVar 1))) (fr_xOp fr_eqD (fr_xFld "Clause" "rest" (fr_xVar 0)) (fr_xFld "Clause" "rest" (fr_xVar 1)))))
theorem fr_F_meet : FrF F_meet := fr_fnOf 2 false fr_B_meet
theorem fr_B_Clause_D_initD_ : FrB B_Clause_D_initD_ := (fr_sSeq (fr_sFl "Clause" "word" (fr_xVar 0) (fr_xVar 1))
  (fr_sSeq (fr_sFl "Clause" "rest" (fr_xVar 0) (fr_xVar 2))
  (fr_sSeq (fr_sFl "Clause" "step" (fr_xVar 0) (fr_xVar 3))
  (fr_sSeq (fr_sFl "Clause" "side" (fr_xVar 0) (fr_xVar 4))
  (fr_sSeq (fr_sFl "Clause" "far" (fr_xVar 0) (fr_xVar 5))
  (fr_sFl "Clause" "goal" (fr_xVar 0) (fr_xVar 6)))))))
theorem fr_F_Clause_D_initD_ : FrF F_Clause_D_initD_ := fr_fnOf 7 false fr_B_Clause_D_initD_
theorem fr_B_class_of : FrB B_class_of := (fr_sSeq (fr_sIf (fr_xOrT (fr_xTest (fr_xOp fr_neD (fr_xCall fr_lenD (fr_xaCons (fr_xVar 0) fr_xaNil)) (fr_xC (.int 3)))) (fr_xTest (fr_xOp fr_neD (fr_xOp fr_ixD (fr_xVar 0) (fr_xC (.int 1))) (fr_xC (.str "of"))))) (fr_sRet (fr_xC .non)) fr_sNil)
  (fr_sSeq (fr_sPar 1 2 (fr_xaCons (fr_xCall fr_F_digit_of (fr_xaCons (fr_xOp fr_ixD (fr_xVar 0) (fr_xC (.int 0))) fr_xaNil)) (fr_xaCons (fr_xCall fr_F_digit_of (fr_xaCons (fr_xOp fr_ixD (fr_xVar 0) (fr_xC (.int 2))) fr_xaNil)) fr_xaNil)))
  (fr_sSeq (fr_sIf (fr_xOrT (fr_xNotT (fr_xTest (fr_xCall fr_F_is_between (fr_xaCons (fr_xVar 2) (fr_xaCons (fr_xC (.int 1)) (fr_xaCons (fr_xC (.int 3)) fr_xaNil)))))) (fr_xNotT (fr_xTest (fr_xCall fr_F_is_between (fr_xaCons (fr_xVar 1) (fr_xaCons (fr_xC (.int 0)) (fr_xaCons (fr_xOp fr_subD (fr_xVar 2) (fr_xC (.int 1))) fr_xaNil))))))) (fr_sRet (fr_xC .non)) fr_sNil)
  (fr_sRet (fr_xTup (fr_xaCons (fr_xVar 1) (fr_xaCons (fr_xVar 2) fr_xaNil)))))))
theorem fr_F_class_of : FrF F_class_of := fr_fnOf 3 false fr_B_class_of
theorem fr_B_is_name : FrB B_is_name := (fr_sSeq (fr_sIf (fr_xOrT (fr_xNotT (fr_xTest (fr_xCall (fr_isiF cs) (fr_xaCons (fr_xVar 0) (fr_xaCons (fr_xC (.ty "str")) fr_xaNil))))) (fr_xOrT (fr_xNotT (fr_xTest (fr_xChain fr_ltD fr_ltD (fr_xC (.int 0)) (fr_xCall fr_lenD (fr_xaCons (fr_xVar 0) fr_xaNil)) (fr_xC (.int 9))))) (fr_xTest (fr_xOp fr_ninD (fr_xOp fr_ixD (fr_xVar 0) (fr_xC (.int 0))) (fr_xC (.str "abcdefghijklmnopqrstuvwxyz")))))) (fr_sRet (fr_xC (.bl false))) fr_sNil)
  (fr_sRet (fr_xCall fr_allF (fr_xaCons (fr_xLc (fr_xiSeq (fr_xVar 0)) [1] (fr_gNm 1) fr_xYes (fr_xOr (fr_xOp fr_inD (fr_xVar 1) (fr_xC (.str "abcdefghijklmnopqrstuvwxyz"))) (fr_xOp fr_inD (fr_xVar 1) (fr_xC (.str "0123456789"))))) fr_xaNil))))
theorem fr_F_is_name : FrF F_is_name := fr_fnOf 2 false fr_B_is_name
theorem fr_B_read_call : FrB B_read_call := (fr_sSeq (fr_sAsg (fr_xCall fr_F_class_of (fr_xaCons (fr_xSl (fr_xVar 0) (fr_xoS (fr_xC (.int 3))) fr_xoN) fr_xaNil)) (fr_gNm 1))
  (fr_sSeq (fr_sIf (fr_xOrT (fr_xTest (fr_xOp fr_isD (fr_xVar 1) (fr_xC .non))) (fr_xOrT (fr_xTest (fr_xOp fr_neD (fr_xOp fr_ixD (fr_xVar 0) (fr_xC (.int 2))) (fr_xC (.str "on")))) (fr_xNotT (fr_xTest (fr_xCall fr_F_is_name (fr_xaCons (fr_xOp fr_ixD (fr_xVar 0) (fr_xC (.int 1))) fr_xaNil)))))) (fr_sRet (fr_xC .non)) fr_sNil)
  (fr_sSeq (fr_sAsg (fr_xVar 1) (fr_gTp 2 (fr_gsCons (fr_gNm 2) (fr_gsCons (fr_gNm 3) fr_gsNil))))
  (fr_sRet (fr_xMakeK "Clause" fr_F_Clause_D_initD_ true [.non, .non] (fr_xaCons (fr_xC (.str "call")) (fr_xaCons (fr_xVar 2) (fr_xaCons (fr_xVar 3) fr_xaNil))) (fr_xaCons (fr_xOp fr_ixD (fr_xVar 0) (fr_xC (.int 1))) fr_xaNil))))))
theorem fr_F_read_call : FrF F_read_call := fr_fnOf 4 false fr_B_read_call
theorem fr_B_read_clause : FrB B_read_clause := (fr_sSeq (fr_sAsg (fr_xBM "str" fr_splitF (fr_xVar 0) (fr_xaCons (fr_xC (.str " ")) fr_xaNil)) (fr_gNm 1))
  (fr_sSeq (fr_sIf (fr_xTest (fr_xOp fr_eqD (fr_xOp fr_ixD (fr_xVar 1) (fr_xC (.int 0))) (fr_xC (.str "call")))) (fr_sRet (fr_xCall fr_F_read_call (fr_xaCons (fr_xVar 1) fr_xaNil))) fr_sNil)
  (fr_sSeq (fr_sAsg (fr_xCall fr_F_class_of (fr_xaCons (fr_xSl (fr_xVar 1) (fr_xoS (fr_xC (.int 1))) (fr_xoS (fr_xC (.int 4)))) fr_xaNil)) (fr_gNm 2))
  (fr_sSeq (fr_sIf (fr_xTest (fr_xOp fr_isD (fr_xVar 2) (fr_xC .non))) (fr_sRet (fr_xC .non)) fr_sNil)
  (fr_sSeq (fr_sAsg (fr_xVar 2) (fr_gTp 2 (fr_gsCons (fr_gNm 3) (fr_gsCons (fr_gNm 4) fr_gsNil))))
  (fr_sSeq (fr_sIf (fr_xTest (fr_xOp fr_eqD (fr_xOp fr_ixD (fr_xVar 1) (fr_xC (.int 0))) (fr_xC (.str "clear")))) (fr_sRet (fr_xIf (fr_xTest (fr_xOp fr_eqD (fr_xCall fr_lenD (fr_xaCons (fr_xVar 1) fr_xaNil)) (fr_xC (.int 4)))) (fr_xMakeD "Clause" fr_F_Clause_D_initD_ true [.non, .non, .non] (fr_xaCons (fr_xC (.str "clear")) (fr_xaCons (fr_xVar 3) (fr_xaCons (fr_xVar 4) fr_xaNil)))) (fr_xC .non))) fr_sNil)
  (fr_sSeq (fr_sIf (fr_xOrT (fr_xTest (fr_xOp fr_ninD (fr_xOp fr_ixD (fr_xVar 1) (fr_xC (.int 0))) (fr_xTup (fr_xaCons (fr_xC (.str "join")) (fr_xaCons (fr_xC (.str "take")) fr_xaNil))))) (fr_xOrT (fr_xTest (fr_xOp fr_neD (fr_xCall fr_lenD (fr_xaCons (fr_xVar 1) fr_xaNil)) (fr_xC (.int 6)))) (fr_xTest (fr_xOp fr_ninD (fr_xOp fr_ixD (fr_xVar 1) (fr_xC (.int 4))) (fr_xTup (fr_xaCons (fr_xC (.str "left")) (fr_xaCons (fr_xC (.str "right")) fr_xaNil))))))) (fr_sRet (fr_xC .non)) fr_sNil)
  (fr_sSeq (fr_sAsg (fr_xCall fr_F_digit_of (fr_xaCons (fr_xOp fr_ixD (fr_xVar 1) (fr_xC (.int 5))) fr_xaNil)) (fr_gNm 5))
  (fr_sRet (fr_xIf (fr_xTest (fr_xCall fr_F_is_between (fr_xaCons (fr_xVar 5) (fr_xaCons (fr_xC (.int 1)) (fr_xaCons (fr_xC (.int 4)) fr_xaNil))))) (fr_xMakeD "Clause" fr_F_Clause_D_initD_ true [.non] (fr_xaCons (fr_xOp fr_ixD (fr_xVar 1) (fr_xC (.int 0))) (fr_xaCons (fr_xVar 3) (fr_xaCons (fr_xVar 4) (fr_xaCons (fr_xOp fr_ixD (fr_xVar 1) (fr_xC (.int 4))) (fr_xaCons (fr_xVar 5) fr_xaNil)))))) (fr_xC .non)))))))))))
theorem fr_F_read_clause : FrF F_read_clause := fr_fnOf 6 false fr_B_read_clause
theorem fr_B_read_clauses : FrB B_read_clauses := (fr_sSeq (fr_sIf (fr_xNotT (fr_xTest (fr_xCall (fr_isiF cs) (fr_xaCons (fr_xVar 0) (fr_xaCons (fr_xC (.ty "str")) fr_xaNil))))) (fr_sRet (fr_xC .non)) fr_sNil)
  (fr_sSeq (fr_sAsg (fr_xLc (fr_xiSeq (fr_xBM "str" fr_splitF (fr_xVar 0) (fr_xaCons (fr_xC (.str "; ")) fr_xaNil))) [5] (fr_gNm 5) fr_xYes (fr_xCall fr_F_read_clause (fr_xaCons (fr_xVar 5) fr_xaNil))) (fr_gNm 1))
  (fr_sSeq (fr_sIf (fr_xOrT (fr_xTest (fr_xOp fr_gtD (fr_xCall fr_lenD (fr_xaCons (fr_xVar 1) fr_xaNil)) (fr_xC (.int 3)))) (fr_xTest (fr_xCall fr_anyF (fr_xaCons (fr_xLc (fr_xiSeq (fr_xVar 1)) [4] (fr_gNm 4) fr_xYes (fr_xOp fr_isD (fr_xVar 4) (fr_xC .non))) fr_xaNil)))) (fr_sRet (fr_xC .non)) fr_sNil)
  (fr_sSeq (fr_sAsg (fr_xLc (fr_xiSeq (fr_xVar 1)) [4] (fr_gNm 4) (fr_xTest (fr_xOp fr_eqD (fr_xFld "Clause" "word" (fr_xVar 4)) (fr_xC (.str "call")))) (fr_xVar 4)) (fr_gNm 2))
  (fr_sSeq (fr_sIf (fr_xTest (fr_xChain fr_ltD fr_ltD (fr_xC (.int 0)) (fr_xCall fr_lenD (fr_xaCons (fr_xVar 2) fr_xaNil)) (fr_xCall fr_lenD (fr_xaCons (fr_xVar 1) fr_xaNil)))) (fr_sRet (fr_xC .non)) fr_sNil)
  (fr_sSeq (fr_sFor (fr_xiEnum' (fr_xaCons (fr_xVar 1) fr_xaNil)) (fr_gTp 2 (fr_gsCons (fr_gNm 3) (fr_gsCons (fr_gNm 4) fr_gsNil)))
  (fr_sIf (fr_xTest (fr_xCall fr_anyF (fr_xaCons (fr_xLc (fr_xiSeq (fr_xSl (fr_xVar 1) fr_xoN (fr_xoS (fr_xVar 3)))) [6] (fr_gNm 6) fr_xYes (fr_xCall fr_F_meet (fr_xaCons (fr_xVar 4) (fr_xaCons (fr_xVar 6) fr_xaNil)))) fr_xaNil))) (fr_sRet (fr_xC .non)) fr_sNil))
  (fr_sRet (fr_xVar 1))))))))
theorem fr_F_read_clauses : FrF F_read_clauses := fr_fnOf 7 false fr_B_read_clauses
theorem fr_B_read_round : FrB B_read_round := (fr_sSeq (fr_sAsg (fr_xCall fr_F_read_clauses (fr_xaCons (fr_xVar 0) fr_xaNil)) (fr_gNm 3))
  (fr_sSeq (fr_sIf (fr_xTest (fr_xOp fr_isD (fr_xVar 3) (fr_xC .non))) (fr_sRet (fr_xC .non)) fr_sNil)
  (fr_sSeq (fr_sFor (fr_xiSeq (fr_xVar 3)) (fr_gNm 4)
  (fr_sIf (fr_xAndT (fr_xTest (fr_xOp fr_eqD (fr_xFld "Clause" "word" (fr_xVar 4)) (fr_xC (.str "call")))) (fr_xOrT (fr_xTest (fr_xOp fr_ninD (fr_xFld "Clause" "goal" (fr_xVar 4)) (fr_xVar 1))) (fr_xAndT (fr_xTest (fr_xOp fr_eqD (fr_xFld "Clause" "step" (fr_xVar 4)) (fr_xC (.int 1)))) (fr_xTest (fr_xOp fr_inD (fr_xFld "Clause" "goal" (fr_xVar 4)) (fr_xVar 2)))))) (fr_sRet (fr_xC .non)) fr_sNil))
  (fr_sRet (fr_xVar 3)))))
theorem fr_F_read_round : FrF F_read_round := fr_fnOf 5 false fr_B_read_round
theorem fr_B_is_plan : FrB B_is_plan := (fr_sSeq (fr_sIf (fr_xOrT (fr_xNotT (fr_xTest (fr_xCall (fr_isiF cs) (fr_xaCons (fr_xVar 0) (fr_xaCons (fr_xC (.ty "tuple")) fr_xaNil))))) (fr_xTest (fr_xOp fr_neD (fr_xCall fr_lenD (fr_xaCons (fr_xVar 0) fr_xaNil)) (fr_xC (.int 4))))) (fr_sRet (fr_xC (.bl false))) fr_sNil)
  (fr_sSeq (fr_sAsg (fr_xVar 0) (fr_gTp 4 (fr_gsCons (fr_gNm 1) (fr_gsCons (fr_gNm 2) (fr_gsCons (fr_gNm 3) (fr_gsCons (fr_gNm 4) fr_gsNil))))))
  (fr_sSeq (fr_sIf (fr_xOrT (fr_xNotT (fr_xTest (fr_xCall fr_F_is_name (fr_xaCons (fr_xVar 1) fr_xaNil)))) (fr_xOrT (fr_xTest (fr_xOp fr_isD (fr_xCall fr_F_read_goal (fr_xaCons (fr_xVar 2) fr_xaNil)) (fr_xC .non))) (fr_xNotT (fr_xTest (fr_xCall fr_F_is_between (fr_xaCons (fr_xVar 3) (fr_xaCons (fr_xC (.int 1)) (fr_xaCons (fr_xC (.int 4)) fr_xaNil)))))))) (fr_sRet (fr_xC (.bl false))) fr_sNil)
  (fr_sSeq (fr_sIf (fr_xOrT (fr_xNotT (fr_xTest (fr_xCall (fr_isiF cs) (fr_xaCons (fr_xVar 4) (fr_xaCons (fr_xC (.ty "tuple")) fr_xaNil))))) (fr_xNotT (fr_xTest (fr_xChain fr_ltD fr_leD (fr_xC (.int 0)) (fr_xCall fr_lenD (fr_xaCons (fr_xVar 4) fr_xaNil)) (fr_xC (.int 5)))))) (fr_sRet (fr_xC (.bl false))) fr_sNil)
  (fr_sRet (fr_xCall fr_allF (fr_xaCons (fr_xLc (fr_xiSeq (fr_xVar 4)) [5] (fr_gNm 5) fr_xYes (fr_xOp fr_isntD (fr_xCall fr_F_read_clauses (fr_xaCons (fr_xVar 5) fr_xaNil)) (fr_xC .non))) fr_xaNil)))))))
theorem fr_F_is_plan : FrF F_is_plan := fr_fnOf 6 false fr_B_is_plan
theorem fr_B_first_invalid : FrB B_first_invalid := (fr_sSeq (fr_sAsg (fr_xNew fr_xaNil) (fr_gNm 1))
  (fr_sSeq (fr_sFor (fr_xiEnum' (fr_xaCons (fr_xVar 0) fr_xaNil)) (fr_gTp 2 (fr_gsCons (fr_gNm 2) (fr_gsCons (fr_gNm 3) fr_gsNil)))
  (fr_sSeq (fr_sIf (fr_xOrT (fr_xTest (fr_xOp fr_eqD (fr_xVar 2) (fr_xC (.int 4)))) (fr_xOrT (fr_xNotT (fr_xTest (fr_xCall fr_F_is_plan (fr_xaCons (fr_xVar 3) fr_xaNil)))) (fr_xTest (fr_xOp fr_inD (fr_xOp fr_ixD (fr_xVar 3) (fr_xC (.int 0))) (fr_xVar 1))))) (fr_sRet (fr_xVar 2)) fr_sNil)
  (fr_sExpr (fr_xBM "list" fr_appF (fr_xVar 1) (fr_xaCons (fr_xOp fr_ixD (fr_xVar 3) (fr_xC (.int 0))) fr_xaNil)))))
  (fr_sSeq (fr_sFor (fr_xiEnum' (fr_xaCons (fr_xVar 0) fr_xaNil)) (fr_gTp 2 (fr_gsCons (fr_gNm 2) (fr_gsCons (fr_gNm 3) fr_gsNil)))
  (fr_sIf (fr_xTest (fr_xCall fr_anyF (fr_xaCons (fr_xLc (fr_xiSeq (fr_xOp fr_ixD (fr_xVar 3) (fr_xC (.int 3)))) [4] (fr_gNm 4) fr_xYes (fr_xOp fr_isD (fr_xCall fr_F_read_round (fr_xaCons (fr_xVar 4) (fr_xaCons (fr_xVar 1) (fr_xaCons (fr_xSl (fr_xVar 1) fr_xoN (fr_xoS (fr_xOp fr_addD (fr_xVar 2) (fr_xC (.int 1))))) fr_xaNil)))) (fr_xC .non))) fr_xaNil))) (fr_sRet (fr_xVar 2)) fr_sNil))
  (fr_sRet (fr_xC .non)))))
theorem fr_F_first_invalid : FrF F_first_invalid := fr_fnOf 5 false fr_B_first_invalid
theorem fr_B_Book_D_initD_ : FrB B_Book_D_initD_ := (fr_sSeq (fr_sIf (fr_xOrT (fr_xNotT (fr_xTest (fr_xCall (fr_isiF cs) (fr_xaCons (fr_xVar 1) (fr_xaCons (fr_xC (.ty "tuple")) fr_xaNil))))) (fr_xTest (fr_xOp fr_eqD (fr_xCall fr_lenD (fr_xaCons (fr_xVar 1) fr_xaNil)) (fr_xC (.int 0))))) fr_sNever fr_sNil)
  (fr_sSeq (fr_sAsg (fr_xCall fr_F_first_invalid (fr_xaCons (fr_xVar 1) fr_xaNil)) (fr_gNm 2))
  (fr_sSeq (fr_sIf (fr_xTest (fr_xOp fr_isntD (fr_xVar 2) (fr_xC .non))) fr_sNever fr_sNil)
  (fr_sSeq (fr_sFl "Book" "held" (fr_xVar 0) (fr_xVar 1))
  (fr_sFl "Book" "parsed" (fr_xVar 0) (fr_xDc (fr_xiSeq (fr_xVar 1)) [3] (fr_gNm 3) (fr_xOp fr_ixD (fr_xVar 3) (fr_xC (.int 0))) (fr_xLc (fr_xiSeq (fr_xOp fr_ixD (fr_xVar 3) (fr_xC (.int 3)))) [4] (fr_gNm 4) fr_xYes (fr_xCall fr_F_read_clauses (fr_xaCons (fr_xVar 4) fr_xaNil)))))))))
theorem fr_F_Book_D_initD_ : FrF F_Book_D_initD_ := fr_fnOf 5 false fr_B_Book_D_initD_
theorem fr_B__law_goal_text : FrB B__law_goal_text := (fr_sRet (fr_xOp fr_addD (fr_xOp fr_ixD (fr_xVar 0) (fr_xC (.int 0))) (fr_xIf (fr_xTest (fr_xOp fr_eqD (fr_xOp fr_ixD (fr_xVar 0) (fr_xC (.int 0))) (fr_xC (.str "last")))) (fr_xOp fr_addD (fr_xC (.str " ")) (fr_xCall fr_strF (fr_xaCons (fr_xOp fr_ixD (fr_xVar 0) (fr_xC (.int 1))) fr_xaNil))) (fr_xC (.str "")))))
theorem fr_F__law_goal_text : FrF F__law_goal_text := fr_fnOf 1 false fr_B__law_goal_text
theorem fr_B__law_clause_text : FrB B__law_clause_text := (fr_sSeq (fr_sAsg (fr_xVar 0) (fr_gTp 6 (fr_gsCons (fr_gNm 1) (fr_gsCons (fr_gNm 2) (fr_gsCons (fr_gNm 3) (fr_gsCons (fr_gNm 4) (fr_gsCons (fr_gNm 5) (fr_gsCons (fr_gNm 6) fr_gsNil))))))))
  (fr_sSeq (fr_sAsg (fr_xOp fr_addD (fr_xOp fr_addD (fr_xCall fr_strF (fr_xaCons (fr_xVar 2) fr_xaNil)) (fr_xC (.str " of "))) (fr_xCall fr_strF (fr_xaCons (fr_xVar 3) fr_xaNil))) (fr_gNm 7))
  (fr_sSeq (fr_sIf (fr_xTest (fr_xOp fr_eqD (fr_xVar 1) (fr_xC (.str "call")))) (fr_sRet (fr_xOp fr_addD (fr_xOp fr_addD (fr_xOp fr_addD (fr_xC (.str "call ")) (fr_xVar 6)) (fr_xC (.str " on "))) (fr_xVar 7))) fr_sNil)
  (fr_sRet (fr_xOp fr_addD (fr_xOp fr_addD (fr_xOp fr_addD (fr_xVar 1) (fr_xC (.str " "))) (fr_xVar 7)) (fr_xIf (fr_xTest (fr_xOp fr_eqD (fr_xVar 1) (fr_xC (.str "clear")))) (fr_xC (.str "")) (fr_xOp fr_addD (fr_xOp fr_addD (fr_xOp fr_addD (fr_xC (.str " ")) (fr_xVar 4)) (fr_xC (.str " "))) (fr_xCall fr_strF (fr_xaCons (fr_xVar 5) fr_xaNil)))))))))
theorem fr_F__law_clause_text : FrF F__law_clause_text := fr_fnOf 8 false fr_B__law_clause_text
end J
namespace J.M
open PySem PySem.Spec PyProof.Rows L2 DS
/-! ### clauses, as drawn, as texts, as read -/
def menuS : List Str := ["join", "left", "on", "of", "a1", "a2", "plan", "call", "z9z9z9z9"]
def nmS (g : Nat) : Str := menuS.getD g ""
def wordS : Nat → Str
  | 0 => "join"
  | 1 => "take"
  | 2 => "clear"
  | _ => "call"
def sideS : Nat → Str
  | 0 => "left"
  | _ => "right"
def digS (n : Nat) : Str := ⟨#[48 + n]⟩
structure Cl where
  w : Nat
  rest : Nat
  step : Nat
  side : Nat
  far : Nat
  goal : Nat
structure Cl.Ok (c : Cl) : Prop where
  w : c.w < 4
  rest : c.rest < c.step
  step : c.step < 4
  side : c.side < 2
  far0 : 0 < c.far
  far : c.far < 5
  goal : c.goal < 9
def Cl.dat (c : Cl) : D := if c.w = 3 then .tup [.str "call", .int c.rest, .int c.step, .str "", .int 0, .str (nmS c.goal)] else .tup [.str (wordS c.w), .int c.rest, .int c.step, .str (sideS c.side), .int c.far, .str ""]
def Cl.text (c : Cl) : Str := if c.w = 3 then "call " ++ nmS c.goal ++ " on " ++ (digS c.rest ++ " of " ++ digS c.step) else wordS c.w ++ " " ++ (digS c.rest ++ " of " ++ digS c.step) ++ if c.w = 2 then ("" : Str) else " " ++ sideS c.side ++ " " ++ digS c.far
def clO (w : Str) (rest step : Nat) (side far goal : D) : D := .obj "Clause" [("word", .str w), ("rest", .int rest), ("step", .int step), ("side", side), ("far", far), ("goal", goal)]
def Cl.obj (c : Cl) : D := clO (wordS c.w) c.rest c.step (if c.w < 2 then .str (sideS c.side) else .non) (if c.w < 2 then .int c.far else .non) (if c.w = 3 then .str (nmS c.goal) else .non)
def kls : List (Nat × Nat) := [(0, 1), (0, 2), (1, 2), (0, 3), (1, 3), (2, 3)]
def chkC (c : Cl) : Bool := okIs (F__law_clause_text [c.dat] []) (.str c.text) && (okIs (F_read_clause [.str c.text] []) c.obj && ((c.text.cps.toList).all (· != 59) && decide (c.text.length < 40)))
theorem chk3_00 : ∀ g < 3, chkC ⟨3, 0, 1, 0, 0, 0 + g⟩ = true := by decide +kernel
theorem chk3_01 : ∀ g < 3, chkC ⟨3, 0, 1, 0, 0, 3 + g⟩ = true := by decide +kernel
theorem chk3_02 : ∀ g < 3, chkC ⟨3, 0, 1, 0, 0, 6 + g⟩ = true := by decide +kernel
theorem chk3_0 : ∀ g < 9, chkC ⟨3, 0, 1, 0, 0, g⟩ = true := fun g h => by
  by_cases h1 : g < 3
  · have := chk3_00 g h1
    rw [Nat.zero_add] at this
    exact this
  by_cases h2 : g < 6
  · have := chk3_01 (g - 3) (by omega)
    rw [Nat.add_sub_cancel' (by omega)] at this
    exact this
  · have := chk3_02 (g - 6) (by omega)
    rw [Nat.add_sub_cancel' (by omega)] at this
    exact this
theorem chk1_000 : ∀ f < 4, chkC ⟨0, 0, 1, 0, f + 1, 0⟩ = true := by decide +kernel
theorem chk1_001 : ∀ f < 4, chkC ⟨0, 0, 1, 1, f + 1, 0⟩ = true := by decide +kernel
theorem chk1_010 : ∀ f < 4, chkC ⟨1, 0, 1, 0, f + 1, 0⟩ = true := by decide +kernel
theorem chk1_011 : ∀ f < 4, chkC ⟨1, 0, 1, 1, f + 1, 0⟩ = true := by decide +kernel
theorem chk1_0 : ∀ w < 2, ∀ s < 2, ∀ f < 4, chkC ⟨w, 0, 1, s, f + 1, 0⟩ = true := fun w hw s hs => by
  have hw : w = 0 ∨ w = 1 := by omega
  have hs : s = 0 ∨ s = 1 := by omega
  rcases hw with rfl | rfl <;> rcases hs with rfl | rfl
  · exact chk1_000
  · exact chk1_001
  · exact chk1_010
  · exact chk1_011
theorem chk3_10 : ∀ g < 3, chkC ⟨3, 0, 2, 0, 0, 0 + g⟩ = true := by decide +kernel
theorem chk3_11 : ∀ g < 3, chkC ⟨3, 0, 2, 0, 0, 3 + g⟩ = true := by decide +kernel
theorem chk3_12 : ∀ g < 3, chkC ⟨3, 0, 2, 0, 0, 6 + g⟩ = true := by decide +kernel
theorem chk3_1 : ∀ g < 9, chkC ⟨3, 0, 2, 0, 0, g⟩ = true := fun g h => by
  by_cases h1 : g < 3
  · have := chk3_10 g h1
    rw [Nat.zero_add] at this
    exact this
  by_cases h2 : g < 6
  · have := chk3_11 (g - 3) (by omega)
    rw [Nat.add_sub_cancel' (by omega)] at this
    exact this
  · have := chk3_12 (g - 6) (by omega)
    rw [Nat.add_sub_cancel' (by omega)] at this
    exact this
theorem chk1_100 : ∀ f < 4, chkC ⟨0, 0, 2, 0, f + 1, 0⟩ = true := by decide +kernel
theorem chk1_101 : ∀ f < 4, chkC ⟨0, 0, 2, 1, f + 1, 0⟩ = true := by decide +kernel
theorem chk1_110 : ∀ f < 4, chkC ⟨1, 0, 2, 0, f + 1, 0⟩ = true := by decide +kernel
theorem chk1_111 : ∀ f < 4, chkC ⟨1, 0, 2, 1, f + 1, 0⟩ = true := by decide +kernel
theorem chk1_1 : ∀ w < 2, ∀ s < 2, ∀ f < 4, chkC ⟨w, 0, 2, s, f + 1, 0⟩ = true := fun w hw s hs => by
  have hw : w = 0 ∨ w = 1 := by omega
  have hs : s = 0 ∨ s = 1 := by omega
  rcases hw with rfl | rfl <;> rcases hs with rfl | rfl
  · exact chk1_100
  · exact chk1_101
  · exact chk1_110
  · exact chk1_111
theorem chk3_20 : ∀ g < 3, chkC ⟨3, 1, 2, 0, 0, 0 + g⟩ = true := by decide +kernel
theorem chk3_21 : ∀ g < 3, chkC ⟨3, 1, 2, 0, 0, 3 + g⟩ = true := by decide +kernel
theorem chk3_22 : ∀ g < 3, chkC ⟨3, 1, 2, 0, 0, 6 + g⟩ = true := by decide +kernel
theorem chk3_2 : ∀ g < 9, chkC ⟨3, 1, 2, 0, 0, g⟩ = true := fun g h => by
  by_cases h1 : g < 3
  · have := chk3_20 g h1
    rw [Nat.zero_add] at this
    exact this
  by_cases h2 : g < 6
  · have := chk3_21 (g - 3) (by omega)
    rw [Nat.add_sub_cancel' (by omega)] at this
    exact this
  · have := chk3_22 (g - 6) (by omega)
    rw [Nat.add_sub_cancel' (by omega)] at this
    exact this
theorem chk1_200 : ∀ f < 4, chkC ⟨0, 1, 2, 0, f + 1, 0⟩ = true := by decide +kernel
theorem chk1_201 : ∀ f < 4, chkC ⟨0, 1, 2, 1, f + 1, 0⟩ = true := by decide +kernel
theorem chk1_210 : ∀ f < 4, chkC ⟨1, 1, 2, 0, f + 1, 0⟩ = true := by decide +kernel
theorem chk1_211 : ∀ f < 4, chkC ⟨1, 1, 2, 1, f + 1, 0⟩ = true := by decide +kernel
theorem chk1_2 : ∀ w < 2, ∀ s < 2, ∀ f < 4, chkC ⟨w, 1, 2, s, f + 1, 0⟩ = true := fun w hw s hs => by
  have hw : w = 0 ∨ w = 1 := by omega
  have hs : s = 0 ∨ s = 1 := by omega
  rcases hw with rfl | rfl <;> rcases hs with rfl | rfl
  · exact chk1_200
  · exact chk1_201
  · exact chk1_210
  · exact chk1_211
theorem chk3_30 : ∀ g < 3, chkC ⟨3, 0, 3, 0, 0, 0 + g⟩ = true := by decide +kernel
theorem chk3_31 : ∀ g < 3, chkC ⟨3, 0, 3, 0, 0, 3 + g⟩ = true := by decide +kernel
theorem chk3_32 : ∀ g < 3, chkC ⟨3, 0, 3, 0, 0, 6 + g⟩ = true := by decide +kernel
theorem chk3_3 : ∀ g < 9, chkC ⟨3, 0, 3, 0, 0, g⟩ = true := fun g h => by
  by_cases h1 : g < 3
  · have := chk3_30 g h1
    rw [Nat.zero_add] at this
    exact this
  by_cases h2 : g < 6
  · have := chk3_31 (g - 3) (by omega)
    rw [Nat.add_sub_cancel' (by omega)] at this
    exact this
  · have := chk3_32 (g - 6) (by omega)
    rw [Nat.add_sub_cancel' (by omega)] at this
    exact this
theorem chk1_300 : ∀ f < 4, chkC ⟨0, 0, 3, 0, f + 1, 0⟩ = true := by decide +kernel
theorem chk1_301 : ∀ f < 4, chkC ⟨0, 0, 3, 1, f + 1, 0⟩ = true := by decide +kernel
theorem chk1_310 : ∀ f < 4, chkC ⟨1, 0, 3, 0, f + 1, 0⟩ = true := by decide +kernel
theorem chk1_311 : ∀ f < 4, chkC ⟨1, 0, 3, 1, f + 1, 0⟩ = true := by decide +kernel
theorem chk1_3 : ∀ w < 2, ∀ s < 2, ∀ f < 4, chkC ⟨w, 0, 3, s, f + 1, 0⟩ = true := fun w hw s hs => by
  have hw : w = 0 ∨ w = 1 := by omega
  have hs : s = 0 ∨ s = 1 := by omega
  rcases hw with rfl | rfl <;> rcases hs with rfl | rfl
  · exact chk1_300
  · exact chk1_301
  · exact chk1_310
  · exact chk1_311
theorem chk3_40 : ∀ g < 3, chkC ⟨3, 1, 3, 0, 0, 0 + g⟩ = true := by decide +kernel
theorem chk3_41 : ∀ g < 3, chkC ⟨3, 1, 3, 0, 0, 3 + g⟩ = true := by decide +kernel
theorem chk3_42 : ∀ g < 3, chkC ⟨3, 1, 3, 0, 0, 6 + g⟩ = true := by decide +kernel
theorem chk3_4 : ∀ g < 9, chkC ⟨3, 1, 3, 0, 0, g⟩ = true := fun g h => by
  by_cases h1 : g < 3
  · have := chk3_40 g h1
    rw [Nat.zero_add] at this
    exact this
  by_cases h2 : g < 6
  · have := chk3_41 (g - 3) (by omega)
    rw [Nat.add_sub_cancel' (by omega)] at this
    exact this
  · have := chk3_42 (g - 6) (by omega)
    rw [Nat.add_sub_cancel' (by omega)] at this
    exact this
theorem chk1_400 : ∀ f < 4, chkC ⟨0, 1, 3, 0, f + 1, 0⟩ = true := by decide +kernel
theorem chk1_401 : ∀ f < 4, chkC ⟨0, 1, 3, 1, f + 1, 0⟩ = true := by decide +kernel
theorem chk1_410 : ∀ f < 4, chkC ⟨1, 1, 3, 0, f + 1, 0⟩ = true := by decide +kernel
theorem chk1_411 : ∀ f < 4, chkC ⟨1, 1, 3, 1, f + 1, 0⟩ = true := by decide +kernel
theorem chk1_4 : ∀ w < 2, ∀ s < 2, ∀ f < 4, chkC ⟨w, 1, 3, s, f + 1, 0⟩ = true := fun w hw s hs => by
  have hw : w = 0 ∨ w = 1 := by omega
  have hs : s = 0 ∨ s = 1 := by omega
  rcases hw with rfl | rfl <;> rcases hs with rfl | rfl
  · exact chk1_400
  · exact chk1_401
  · exact chk1_410
  · exact chk1_411
theorem chk3_50 : ∀ g < 3, chkC ⟨3, 2, 3, 0, 0, 0 + g⟩ = true := by decide +kernel
theorem chk3_51 : ∀ g < 3, chkC ⟨3, 2, 3, 0, 0, 3 + g⟩ = true := by decide +kernel
theorem chk3_52 : ∀ g < 3, chkC ⟨3, 2, 3, 0, 0, 6 + g⟩ = true := by decide +kernel
theorem chk3_5 : ∀ g < 9, chkC ⟨3, 2, 3, 0, 0, g⟩ = true := fun g h => by
  by_cases h1 : g < 3
  · have := chk3_50 g h1
    rw [Nat.zero_add] at this
    exact this
  by_cases h2 : g < 6
  · have := chk3_51 (g - 3) (by omega)
    rw [Nat.add_sub_cancel' (by omega)] at this
    exact this
  · have := chk3_52 (g - 6) (by omega)
    rw [Nat.add_sub_cancel' (by omega)] at this
    exact this
theorem chk1_500 : ∀ f < 4, chkC ⟨0, 2, 3, 0, f + 1, 0⟩ = true := by decide +kernel
theorem chk1_501 : ∀ f < 4, chkC ⟨0, 2, 3, 1, f + 1, 0⟩ = true := by decide +kernel
theorem chk1_510 : ∀ f < 4, chkC ⟨1, 2, 3, 0, f + 1, 0⟩ = true := by decide +kernel
theorem chk1_511 : ∀ f < 4, chkC ⟨1, 2, 3, 1, f + 1, 0⟩ = true := by decide +kernel
theorem chk1_5 : ∀ w < 2, ∀ s < 2, ∀ f < 4, chkC ⟨w, 2, 3, s, f + 1, 0⟩ = true := fun w hw s hs => by
  have hw : w = 0 ∨ w = 1 := by omega
  have hs : s = 0 ∨ s = 1 := by omega
  rcases hw with rfl | rfl <;> rcases hs with rfl | rfl
  · exact chk1_500
  · exact chk1_501
  · exact chk1_510
  · exact chk1_511
theorem kls_cases {k : Nat × Nat} (h : k ∈ kls) : k = (0, 1) ∨ k = (0, 2) ∨ k = (1, 2) ∨ k = (0, 3) ∨ k = (1, 3) ∨ k = (2, 3) := by
  simpa only [kls, List.mem_cons, List.not_mem_nil, or_false] using h
theorem chk3 : ∀ k ∈ kls, ∀ g < 9, chkC ⟨3, k.1, k.2, 0, 0, g⟩ = true := fun k hk => by
  rcases kls_cases hk with rfl | rfl | rfl | rfl | rfl | rfl
  · exact chk3_0
  · exact chk3_1
  · exact chk3_2
  · exact chk3_3
  · exact chk3_4
  · exact chk3_5
theorem chk1 : ∀ k ∈ kls, ∀ w < 2, ∀ s < 2, ∀ f < 4, chkC ⟨w, k.1, k.2, s, f + 1, 0⟩ = true := fun k hk => by
  rcases kls_cases hk with rfl | rfl | rfl | rfl | rfl | rfl
  · exact chk1_0
  · exact chk1_1
  · exact chk1_2
  · exact chk1_3
  · exact chk1_4
  · exact chk1_5
theorem chk2 : ∀ k ∈ kls, ∀ s < 2, ∀ f < 4, okIs (F__law_clause_text [(⟨2, k.1, k.2, s, f + 1, 0⟩ : Cl).dat] []) (.str (⟨2, k.1, k.2, 0, 0, 0⟩ : Cl).text) = true := by decide +kernel
theorem chk2' : ∀ k ∈ kls, (let c : Cl := ⟨2, k.1, k.2, 0, 0, 0⟩; okIs (F_read_clause [.str c.text] []) c.obj && ((c.text.cps.toList).all (· != 59) && decide (c.text.length < 40))) = true := by decide +kernel
theorem chkN : ∀ g < 9, okIs (F_is_name [.str (nmS g)] []) (.bl true) = true := by decide +kernel
end J.M

namespace J.M
open PySem PySem.Spec PyProof.Rows L2 DS
/-! ### comprehensions and loops over answers that leave the store alone -/
/-- .. over typed things, no test -/
theorem lc_map {α : Type} {i : Nat} {te : XE'} {r0 : Rho} {μ : Mu} (e : α → D) (f : α → D) {xs : List α}
    (h2 : ∀ x ∈ xs, ∀ acc, te (r0.set i (some (e x))) (μ ++ [.lst acc]) = .ok (f x) (μ ++ [.lst acc]))
    (h3 : ∀ x ∈ xs, (f x).inB μ.length = true) (hl : xs.length ≤ sizeLine) :
    lcD (gNm i) xYes te r0 (xs.map e) μ = .ok (.lst (xs.map f)) μ := by
  have go : ∀ (ys : List α) (acc : List D), (∀ y ∈ ys, y ∈ xs) → acc.length + ys.length ≤ sizeLine → lcF (gNm i) xYes te μ.length r0 (ys.map e) (μ ++ [.lst acc]) = .ok () (μ ++ [.lst (acc ++ ys.map f)]) := fun ys => by
    induction ys with
    | nil => intro acc _ _; simp [lcF]
    | cons y ys ih =>
      intro acc hm hl
      rw [List.length_cons] at hl
      have hy := hm y (List.mem_cons_self ..)
      have e : pushD μ.length (f y) (μ ++ [.lst acc]) = .ok () (μ ++ [.lst (acc ++ [f y])]) := by
        unfold pushD
        rw [List.getElem?_append_right (Nat.le_refl _), Nat.sub_self]
        simp only [List.getElem?_cons_zero]
        rw [if_pos ⟨h3 y hy, by omega⟩, List.set_append_right _ _ (Nat.le_refl _), Nat.sub_self]
        rfl
      rw [List.map_cons, lcF]
      simp only [gNm, Out.ne, Out.bind, xYes, if_true, h2 y hy acc, e]
      rw [ih (acc ++ [f y]) (fun z hz => hm z (List.mem_cons_of_mem _ hz)) (by rw [List.length_append]; simp; omega)]
      simp
  unfold lcD
  rw [go xs [] (fun _ h => h) (by simpa using hl)]
  simp [Out.bind, lcEnd]

/-! ### the applied equations -/
theorem AP : (∀ {g : D → D → Mu → Out D} {a b : XE'} {r : Rho} {m : Mu}, xOp g a b r m = (a r m).bind fun x m1 => (b r m1).bind fun y m2 => g x y m2) ∧
  (∀ {f : XE'} {r : Rho} {m : Mu}, xTest f r m = (f r m).bind asB) ∧
  (∀ {a b : XT} {r : Rho} {m : Mu}, xAndT a b r m = (a r m).bind fun k m1 => if k then b r m1 else .ok false m1) ∧
  (∀ {a b : XT} {r : Rho} {m : Mu}, xOrT a b r m = (a r m).bind fun k m1 => if k then .ok true m1 else b r m1) ∧
  (∀ {a : XT} {r : Rho} {m : Mu}, xNotT a r m = (a r m).bind fun k m1 => .ok (!k) m1) ∧
  (∀ {a b : XE'} {r : Rho} {m : Mu}, xAnd a b r m = ((a r m).bind asB).bind fun k m1 => if k then b r m1 else .ok (.bl false) m1) ∧
  (∀ {a b : XE'} {r : Rho} {m : Mu}, xOr a b r m = ((a r m).bind asB).bind fun k m1 => if k then .ok (.bl true) m1 else b r m1) ∧
  (∀ {a : XE'} {r : Rho} {m : Mu}, xNot a r m = ((a r m).bind asB).bind fun k m1 => .ok (.bl (!k)) m1) ∧
  (∀ {t : XT} {a b : XE'} {r : Rho} {m : Mu}, xIf t a b r m = (t r m).bind fun k m1 => if k then a r m1 else b r m1) ∧
  (∀ {g g' : D → D → Mu → Out D} {a b k : XE'} {r : Rho} {m : Mu}, xChain g g' a b k r m = (a r m).bind fun x m1 => (b r m1).bind fun y m2 => ((g x y m2).bind asB).bind fun q m3 => if q then (k r m3).bind fun z m4 => g' y z m4 else .ok (.bl false) m3) ∧
  (∀ {r : Rho} {m : Mu}, xaNil r m = .ok [] m) ∧
  (∀ {a : XE'} {b : XA} {r : Rho} {m : Mu}, xaCons a b r m = (a r m).bind fun x m1 => (b r m1).bind fun xs m2 => .ok (x :: xs) m2) ∧
  (∀ {a : XA} {r : Rho} {m : Mu}, xTup a r m = (a r m).bind fun ds m1 => .ok (.tup ds) m1) ∧
  (∀ {a : XA} {r : Rho} {m : Mu}, xLst a r m = (a r m).bind fun ds m1 => .ok (.lst ds) m1) ∧
  (∀ {a : XA} {r : Rho} {m : Mu}, xNew a r m = (a r m).bind fun ds m1 => if D.inL m1.length ds then .ok (.loc m1.length) (m1 ++ [.lst ds]) else .stuck) ∧
  (∀ {d : D} {r : Rho} {m : Mu}, xC d r m = .ok d m) ∧
  (∀ {r : Rho} {m : Mu}, xYes r m = .ok true m) ∧
  (∀ {r : Rho} {m : Mu}, xoN r m = .ok none m) ∧
  (∀ {a : XE'} {r : Rho} {m : Mu}, xoS a r m = (a r m).bind asI) ∧
  (∀ {a : XE'} {lo hi : XO} {r : Rho} {m : Mu}, xSl a lo hi r m = (a r m).bind fun d m1 => (lo r m1).bind fun l m2 => (hi r m2).bind fun h m3 => slD d l h m3) ∧
  (∀ {cn f : Str} {a : XE'} {r : Rho} {m : Mu}, xFld cn f a r m = (a r m).bind (fldD cn f)) ∧
  (∀ {G : Fn} {a : XA} {r : Rho} {m : Mu}, xCall G a r m = (a r m).bind G) ∧
  (∀ {cn : Str} {G : Fn} {frz : Bool} {a : XA} {r : Rho} {m : Mu}, xMake cn G frz a r m = (a r m).bind (makeD cn G frz)) ∧
  (∀ {T : String} {g : Fn} {o : XE'} {a : XA} {r : Rho} {m : Mu}, xBM T g o a r m = (o r m).bind fun d m1 => if tyD T m1 d then (a r m1).bind fun ds m2 => g (d :: ds) m2 else .stuck) ∧
  (∀ {f : XA} {vs : List Nat} {g : XG} {tt : XT} {te : XE'} {r : Rho} {m : Mu}, xLc f vs g tt te r m = (f r m).bind fun xs m1 => lcD g tt te (wipeR r vs) xs m1) ∧
  (∀ {f : XE'} {r : Rho} {m : Mu}, xiSeq f r m = (f r m).bind seqD) ∧
  (∀ {f : XA} {r : Rho} {m : Mu}, xiRng1 f r m = (f r m).bind rngD1) ∧
  (∀ {f : XA} {r : Rho} {m : Mu}, xiRng2 f r m = (f r m).bind rngD2) ∧
  (∀ {f : XA} {r : Rho} {m : Mu}, xiEnum' f r m = (f r m).bind enumD') ∧
  (∀ {r : Rho} {m : Mu}, sNil r m = .next r m) ∧
  (∀ {f : XE'} {r : Rho} {m : Mu}, sExpr f r m = (f r m).stm r fun _ m1 => .next r m1) ∧
  (∀ {f : XE'} {r : Rho} {m : Mu}, sRet f r m = (f r m).stm r fun d m1 => .ret d m1) ∧
  (∀ {t : XT} {f g : XS} {r : Rho} {m : Mu}, sIf t f g r m = (t r m).stm r fun k m1 => if k then f r m1 else g r m1) ∧
  (∀ {f : XE'} {g : XG} {r : Rho} {m : Mu}, sAsg f g r m = (f r m).stm r fun d m1 => (g d r m1).stm r fun r' m2 => .next r' m2) ∧
  (∀ {f : XA} {g : XG} {b : XS} {r : Rho} {m : Mu}, sFor f g b r m = (f r m).stm r fun xs m1 => loopF g b xs r m1) ∧
  (∀ {i : Nat} {d : D} {r : Rho} {m : Mu}, gNm i d r m = .ok (r.set i (some d)) m) ∧
  (∀ {o i : XE'} {d : D} {r : Rho} {m : Mu}, gSb o i d r m = (o r m).bind fun ov m1 => (i r m1).bind fun iv m2 => (setD ov iv d m2).bind fun _ m3 => .ok r m3) ∧
  (∀ {n : Nat} {g : XGs} {ds : List D} {r : Rho} {m : Mu}, gTp n g (.tup ds) r m = if ds.length = n then g ds r m else .stuck) ∧
  (∀ {n : Nat} {g : XGs} {ds : List D} {r : Rho} {m : Mu}, gTp n g (.lst ds) r m = if ds.length = n then g ds r m else .stuck) ∧
  (∀ {r : Rho} {m : Mu}, gsNil [] r m = .ok r m) ∧
  (∀ {g : XG} {gs : XGs} {d : D} {ds : List D} {r : Rho} {m : Mu}, gsCons g gs (d :: ds) r m = (g d r m).bind fun r1 m1 => gs ds r1 m1) ∧
  (∀ {r : Rho} {m : Mu} {f g : XS}, sSeq f g r m = (match f r m with
  | .next r' m' => g r' m'
  | o => o)) := by
  refine ⟨?_, ?_, ?_, ?_, ?_, ?_, ?_, ?_, ?_, ?_, ?_, ?_, ?_, ?_, ?_, ?_, ?_, ?_, ?_, ?_, ?_, ?_, ?_, ?_, ?_, ?_, ?_, ?_, ?_, ?_, ?_, ?_, ?_, ?_, ?_, ?_, ?_, ?_, ?_, ?_, ?_, ?_⟩ <;> intros <;> rfl
theorem AV {i : Nat} {r : Rho} {m : Mu} : xVar i r m = (match r[i]? with
  | some (some d) => .ok d m
  | _ => .stuck) := rfl
theorem AB : (∀ {α β : Type} {a : α} {m : Mu} {k : α → Mu → Out β}, (Out.ok a m).bind k = k a m) ∧ (∀ {α : Type} {a : α} {m : Mu} {r : Rho} {k : α → Mu → SO}, (Out.ok a m).stm r k = k a m) ∧ (∀ {b : Bool} {m : Mu}, asB (.bl b) m = .ok b m) ∧ (∀ {i : Int} {m : Mu}, asI (.int i) m = .ok (some i) m) ∧
  (∀ {xs : List D} {m : Mu}, seqD (.lst xs) m = .ok xs m) ∧ (∀ {xs : List D} {m : Mu}, seqD (.fix xs) m = .ok xs m) ∧ (∀ {xs : List D} {m : Mu}, seqD (.tup xs) m = .ok xs m) := by
  refine ⟨?_, ?_, ?_, ?_, ?_, ?_, ?_⟩ <;> intros <;> rfl
theorem fn_ap {n : Nat} {keep : Bool} {g : XS} {ds : List D} {m : Mu} : fnOf n keep g ds m = (match g (rho0 n ds) m with
  | .next _ m' => .ok .non (m'.take m.length)
  | .ret d m' => if keep then .ok d m' else exitD m.length d m'
  | .exc c fs _ m' => if D.inF m.length fs then .exc c fs (m'.take m.length) else .stuck
  | _ => .stuck) := rfl
theorem exit_in {n : Nat} {d : D} {m : Mu} (h : d.inB n = true) : exitD n d m = .ok d (m.take n) := by
  unfold exitD
  rw [if_pos h]
theorem LS : (∀ {α : Type} {x : α} {l : List α}, (x :: l)[0]? = some x) ∧ (∀ {α : Type} {x : α} {l : List α} {i : Nat}, (x :: l)[i + 1]? = l[i]?) ∧ (∀ {α : Type} {x y : α} {l : List α}, (x :: l).set 0 y = y :: l) ∧ (∀ {α : Type} {x y : α} {l : List α} {i : Nat}, (x :: l).set (i + 1) y = x :: l.set i y) := by
  refine ⟨?_, ?_, ?_, ?_⟩ <;> intros <;> rfl
/-! ### clauses -/
theorem kls_mem : ∀ step < 4, ∀ rest < step, (rest, step) ∈ kls := by decide
theorem Cl.Ok.kls {c : Cl} (h : c.Ok) : (c.rest, c.step) ∈ kls := kls_mem c.step h.step c.rest h.rest
theorem Cl.dat_in (c : Cl) (n : Nat) : c.dat.inB n = true := by unfold Cl.dat; split <;> rfl
theorem Cl.obj_in (c : Cl) (n : Nat) : c.obj.inB n = true := by
  unfold Cl.obj clO
  by_cases h : c.w < 2 <;> by_cases h3 : c.w = 3 <;> simp [h, h3, D.inB, D.inF]
structure Cl.Facts (c : Cl) : Prop where
  text : okIs (F__law_clause_text [c.dat] []) (.str c.text) = true
  read : okIs (F_read_clause [.str c.text] []) c.obj = true
  free : (c.text.cps.toList).all (· != 59) = true
  len : c.text.length < 40
theorem Cl.Facts.move {c c' : Cl} (f : c.Facts) (h1 : c'.dat = c.dat) (h2 : c'.text = c.text) (h3 : c'.obj = c.obj) : c'.Facts :=
  ⟨by rw [h1, h2]; exact f.text, by rw [h2, h3]; exact f.read, by rw [h2]; exact f.free, by rw [h2]; exact f.len⟩
theorem facts_of {c : Cl} (q : chkC c = true) : c.Facts := by
  unfold chkC at q
  rw [Bool.and_eq_true, Bool.and_eq_true, Bool.and_eq_true, decide_eq_true_eq] at q
  exact ⟨q.1, q.2.1, q.2.2.1, q.2.2.2⟩
theorem Cl.Ok.facts {c : Cl} (h : c.Ok) : c.Facts := by
  have hk := h.kls
  obtain ⟨h1, h2, h3, h4, h5, h6, h7⟩ := h
  obtain ⟨w, rest, step, side, far, goal⟩ := c
  simp only at h1 h2 h3 h4 h5 h6 h7 hk
  have : w = 3 ∨ w = 2 ∨ w < 2 := by omega
  rcases this with rfl | rfl | hw
  · exact (facts_of (chk3 _ hk goal h7)).move (by simp [Cl.dat]) (by simp [Cl.text]) (by simp [Cl.obj])
  · have p := chk2 _ hk side h4 (far - 1) (by omega)
    have q := chk2' _ hk
    rw [Nat.sub_add_cancel h5] at p
    have t : ∀ a b g, (⟨2, rest, step, a, b, g⟩ : Cl).text = (⟨2, rest, step, 0, 0, 0⟩ : Cl).text := fun a b g => by simp [Cl.text]
    have d : ∀ g, (⟨2, rest, step, side, far, g⟩ : Cl).dat = (⟨2, rest, step, side, far, 0⟩ : Cl).dat := fun g => by simp [Cl.dat]
    have o : ∀ a b g, (⟨2, rest, step, a, b, g⟩ : Cl).obj = (⟨2, rest, step, 0, 0, 0⟩ : Cl).obj := fun a b g => by simp [Cl.obj]
    rw [Bool.and_eq_true, Bool.and_eq_true, decide_eq_true_eq] at q
    exact ⟨by rw [t, d]; exact p, by rw [t, o]; exact q.1, by rw [t]; exact q.2.1, by rw [t]; exact q.2.2⟩
  · have q := chk1 _ hk w hw side h4 (far - 1) (by omega)
    rw [Nat.sub_add_cancel h5] at q
    exact (facts_of q).move (by simp [Cl.dat, show w ≠ 3 by omega]) (by simp [Cl.text, show w ≠ 3 by omega]) (by simp [Cl.obj, show w ≠ 3 by omega])
theorem Cl.Ok.text {c : Cl} (h : c.Ok) (μ : Mu) : F__law_clause_text [c.dat] μ = .ok (.str c.text) μ := fr_F__law_clause_text.is (by simp [D.inL, c.dat_in]) h.facts.text μ
theorem Cl.Ok.read {c : Cl} (h : c.Ok) (μ : Mu) : F_read_clause [.str c.text] μ = .ok c.obj μ := fr_F_read_clause.is rfl h.facts.read μ

/-! ### rounds -/
abbrev Rd' := List Cl
def rText (r : List Cl) : Str := Txt.join "; " (r.map Cl.text)
structure ROk (r : List Cl) : Prop where
  len0 : 0 < r.length
  len : r.length ≤ 3
  ok : ∀ c ∈ r, c.Ok
  calls : (∀ c ∈ r, c.w = 3) ∨ (∀ c ∈ r, c.w ≠ 3)
  apart : r.Pairwise fun a b => b.step = a.step ∧ b.rest ≠ a.rest
theorem sum_len {r : List Cl} (h : ∀ c ∈ r, c.Ok) : ((r.map Cl.text).map (·.length)).sum ≤ 40 * r.length := by
  induction r with
  | nil => simp
  | cons c r ih =>
    have h1 := (h c (List.mem_cons_self ..)).facts.len
    have h2 := ih fun x hx => h x (List.mem_cons_of_mem _ hx)
    simp only [List.map_cons, List.sum_cons, List.length_cons]
    omega
theorem strs_map (l : List Str) : strsL (l.map .str) = some l := by
  induction l with
  | nil => rfl
  | cons x r ih => simp [strsL, ih]
theorem split_r {r : List Cl} (h : ROk r) : Txt.split (rText r) "; " = r.map Cl.text := by
  refine TL.split_join (s := 59) (S := [32]) (by decide +kernel) (by decide +kernel) (fun e => ?_) fun p hp => ?_
  · have h0 := h.len0
    rw [List.map_eq_nil_iff] at e
    rw [e] at h0
    exact Nat.lt_irrefl _ h0
  · obtain ⟨c, hc, rfl⟩ := List.mem_map.mp hp
    have q := (h.ok c hc).facts.free
    rw [List.all_eq_true] at q
    intro hm
    have := q _ hm
    simp at this
/-! ### operators on known data -/
theorem OI : (∀ {i j : Int} {m : Mu}, ltD (.int i) (.int j) m = .ok (.bl (decide (i < j))) m) ∧ (∀ {i j : Int} {m : Mu}, leD (.int i) (.int j) m = .ok (.bl (decide (i ≤ j))) m) ∧ (∀ {i j : Int} {m : Mu}, gtD (.int i) (.int j) m = .ok (.bl (decide (j < i))) m) ∧ (∀ {i j : Int} {m : Mu}, geD (.int i) (.int j) m = .ok (.bl (decide (j ≤ i))) m) ∧
  (∀ {i j : Int} {m : Mu}, addD (.int i) (.int j) m = .ok (.int (i + j)) m) ∧ (∀ {i j : Int} {m : Mu}, subD (.int i) (.int j) m = .ok (.int (i - j)) m) ∧
  (∀ {xs : List D} {m : Mu}, lenD [.lst xs] m = .ok (.int xs.length) m) ∧ (∀ {xs : List D} {m : Mu}, lenD [.tup xs] m = .ok (.int xs.length) m) ∧
  (∀ {xs : List D} {m : Mu}, enumD' [.lst xs] m = .ok (enumL 0 xs) m) ∧ (∀ {xs : List D} {m : Mu}, enumD' [.tup xs] m = .ok (enumL 0 xs) m) ∧
  (∀ {xs : List D} {m : Mu}, tupF [.lst xs] m = .ok (.tup xs) m) ∧ (∀ {xs : List D} {m : Mu}, tupF [.tup xs] m = .ok (.tup xs) m) ∧
  (∀ {d : D} {m : Mu}, isD d .non m = .ok (.bl (isNonD d)) m) ∧ (∀ {d : D} {m : Mu}, isntD d .non m = .ok (.bl (!isNonD d)) m) ∧
  (∀ {xs : List D} {lo hi : Option Int} {m : Mu}, slD (.lst xs) lo hi m = .ok (.lst (cutD xs lo hi)) m) ∧ (∀ {xs : List D} {lo hi : Option Int} {m : Mu}, slD (.tup xs) lo hi m = .ok (.tup (cutD xs lo hi)) m) := by
  refine ⟨?_, ?_, ?_, ?_, ?_, ?_, ?_, ?_, ?_, ?_, ?_, ?_, ?_, ?_, ?_, ?_⟩ <;> intros <;> rfl
theorem TY : (∀ {x : Str} {m : Mu}, isiF cs [.str x, .ty "str"] m = .ok (.bl true) m) ∧ (∀ {x : List D} {m : Mu}, isiF cs [.tup x, .ty "tuple"] m = .ok (.bl true) m) ∧ (∀ {x : Int} {m : Mu}, isiF cs [.int x, .ty "int"] m = .ok (.bl true) m) ∧ (∀ {x : Int} {m : Mu}, isiF cs [.int x, .ty "bool"] m = .ok (.bl false) m) ∧
  (∀ {x : Str} {m : Mu}, tyD "str" m (.str x) = true) ∧ (∀ {x : List D} {m : Mu}, tyD "list" m (.lst x) = true) := by
  refine ⟨?_, ?_, ?_, ?_, ?_, ?_⟩ <;> intros <;> rfl
theorem bs_map {α : Type} (p : α → Bool) (xs : List α) : bsL (xs.map fun x => .bl (p x)) = some (xs.map p) := by
  induction xs with
  | nil => rfl
  | cons x r ih => simp [bsL, ih]
theorem any_map {α : Type} (p : α → Bool) (xs : List α) (m : Mu) : anyF [.lst (xs.map fun x => .bl (p x))] m = .ok (.bl (xs.any p)) m := by
  unfold anyF
  simp only [lstOf, bs_map]
  congr 2
  induction xs with
  | nil => rfl
  | cons x r ih => simp_all
theorem all_map {α : Type} (p : α → Bool) (xs : List α) (m : Mu) : allF [.lst (xs.map fun x => .bl (p x))] m = .ok (.bl (xs.all p)) m := by
  unfold allF
  simp only [lstOf, bs_map]
  congr 2
  induction xs with
  | nil => rfl
  | cons x r ih => simp_all
theorem mem_enum {x : D} : ∀ {i : Nat} {xs : List D}, x ∈ enumL i xs → ∃ k y, xs[k]? = some y ∧ x = .tup [.int ((i + k : Nat) : Int), y]
  | _, [], h => by simp [enumL] at h
  | i, z :: r, h => by
    rw [enumL, List.mem_cons] at h
    rcases h with rfl | h
    · exact ⟨0, z, rfl, rfl⟩
    · obtain ⟨k, y, h1, h2⟩ := mem_enum h
      exact ⟨k + 1, y, h1, by rw [h2, show i + 1 + k = i + (k + 1) by omega]⟩
theorem loop_keep {g : XG} {body : XS} {μ : Mu} (I : Rho → Prop) : ∀ {xs : List D} {r : Rho}, I r → (∀ x ∈ xs, ∀ r, I r → ∃ r1 r2, g x r μ = .ok r1 μ ∧ body r1 μ = .next r2 μ ∧ I r2) → ∃ r', loopF g body xs r μ = .next r' μ ∧ I r'
  | [], r, h, _ => ⟨r, rfl, h⟩
  | x :: xs, r, h, hs => by
    obtain ⟨r1, r2, h1, h2, h3⟩ := hs x (List.mem_cons_self ..) r h
    obtain ⟨r', h4, h5⟩ := loop_keep I h3 fun y hy => hs y (List.mem_cons_of_mem _ hy)
    refine ⟨r', ?_, h5⟩
    rw [loopF, h1]
    simp only [AB, h2]
    exact h4
theorem cut_to (xs : List D) (k : Nat) (h : k ≤ xs.length) : cutD xs none (some (k : Int)) = xs.take k := by
  unfold DS.cutD
  rw [HT.sIx_nat, HT.sIx_none, Nat.min_eq_left h, List.drop_zero, Nat.sub_zero]
/-- a text that is joined -/
theorem join_len (y : Str) : ∀ parts : List Str, (Txt.join y parts).length ≤ (parts.map (·.length)).sum + parts.length * y.length := fun parts => by
  have hl : ∀ x : Str, x.length = (TL.tl x).length := fun x => by simp [Str.length]
  rw [TL.join_eq, hl, TL.tl_join]
  induction parts with
  | nil => simp [TL.joinL]
  | cons p r ih =>
    cases r with
    | nil => simp [TL.joinL, hl]
    | cons q r =>
      simp only [List.map_cons, TL.joinL, List.length_append, List.sum_cons, List.length_cons] at ih ⊢
      rw [hl p, hl y] at *
      have e : (r.length + 1 + 1) * (TL.tl y).length = (r.length + 1) * (TL.tl y).length + (TL.tl y).length := by rw [Nat.succ_mul]
      omega
theorem ix_at (i : Nat) (xs : List D) (x : D) (h : xs[i]? = some x) : L2.atI xs (i : Int) = some x := by
  have hl := (List.getElem?_eq_some_iff.mp h).1
  unfold L2.atI L2.ixN
  rw [if_pos (by omega), if_pos (by omega)]
  simpa using h
theorem Cl.fld_word (c : Cl) (m : Mu) : fldD "Clause" "word" c.obj m = .ok (.str (wordS c.w)) m := rfl
theorem Cl.fld_rest (c : Cl) (m : Mu) : fldD "Clause" "rest" c.obj m = .ok (.int c.rest) m := rfl
theorem Cl.fld_step (c : Cl) (m : Mu) : fldD "Clause" "step" c.obj m = .ok (.int c.step) m := rfl
theorem Cl.fld_goal (c : Cl) (m : Mu) : fldD "Clause" "goal" c.obj m = .ok (if c.w = 3 then .str (nmS c.goal) else .non) m := rfl
theorem EQ : (∀ {i j : Int} {m : Mu}, eqD (.int i) (.int j) m = .ok (.bl (i == j)) m) ∧ (∀ {i j : Int} {m : Mu}, neD (.int i) (.int j) m = .ok (.bl (!(i == j))) m) ∧ (∀ {i j : Str} {m : Mu}, eqD (.str i) (.str j) m = .ok (.bl (i == j)) m) ∧ (∀ {i j : Str} {m : Mu}, neD (.str i) (.str j) m = .ok (.bl (!(i == j))) m) := by
  refine ⟨?_, ?_, ?_, ?_⟩ <;> intros <;> rfl
theorem exit_bl {n : Nat} {b : Bool} {m : Mu} : exitD n (.bl b) m = .ok (.bl b) (m.take n) := exit_in rfl
theorem meet_ok (a b : Cl) (μ : Mu) : F_meet [a.obj, b.obj] μ = .ok (.bl (!((a.step : Int) == b.step) || ((a.rest : Int) == b.rest))) μ := by
  simp only [F_meet, B_meet, fn_ap, rho0, List.map, List.replicate, List.length, Nat.reduceSub, Nat.reduceAdd, List.cons_append, List.nil_append, AP, AV, AB, LS, Cl.fld_step, Cl.fld_rest, EQ]
  by_cases h : ((a.step : Int) == b.step) = true
  · simp only [h, Bool.not_true, Bool.false_eq_true, if_false, AB, exit_bl, List.take_length, Bool.false_or]
  · simp only [h, Bool.not_false, if_true, AB, exit_bl, List.take_length, Bool.true_or, if_false, Bool.false_eq_true]
theorem word_call (w : Nat) (h : w < 4) : (wordS w == "call") = decide (w = 3) := by
  have : w = 0 ∨ w = 1 ∨ w = 2 ∨ w = 3 := by omega
  rcases this with rfl | rfl | rfl | rfl <;> decide +kernel
theorem lc_fil {α : Type} {i : Nat} {tt : XT} {te : XE'} {r0 : Rho} {μ : Mu} (e : α → D) (b : α → Bool) (f : α → D) {xs : List α}
    (h1 : ∀ x ∈ xs, ∀ acc, tt (r0.set i (some (e x))) (μ ++ [.lst acc]) = .ok (b x) (μ ++ [.lst acc]))
    (h2 : ∀ x ∈ xs, b x = true → ∀ acc, te (r0.set i (some (e x))) (μ ++ [.lst acc]) = .ok (f x) (μ ++ [.lst acc]))
    (h3 : ∀ x ∈ xs, b x = true → (f x).inB μ.length = true) (hl : xs.length ≤ sizeLine) :
    lcD (gNm i) tt te r0 (xs.map e) μ = .ok (.lst ((xs.filter b).map f)) μ := by
  have go : ∀ (ys : List α) (acc : List D), (∀ y ∈ ys, y ∈ xs) → acc.length + ys.length ≤ sizeLine → lcF (gNm i) tt te μ.length r0 (ys.map e) (μ ++ [.lst acc]) = .ok () (μ ++ [.lst (acc ++ (ys.filter b).map f)]) := fun ys => by
    induction ys with
    | nil => intro acc _ _; simp [lcF]
    | cons y ys ih =>
      intro acc hm hl
      rw [List.length_cons] at hl
      have hy := hm y (List.mem_cons_self ..)
      rw [List.map_cons, lcF]
      simp only [gNm, Out.ne, Out.bind, h1 y hy acc]
      cases hb : b y
      · simp only [Bool.false_eq_true, if_false, List.filter_cons, hb]
        exact ih acc (fun z hz => hm z (List.mem_cons_of_mem _ hz)) (by omega)
      · have e : pushD μ.length (f y) (μ ++ [.lst acc]) = .ok () (μ ++ [.lst (acc ++ [f y])]) := by
          unfold pushD
          rw [List.getElem?_append_right (Nat.le_refl _), Nat.sub_self]
          simp only [List.getElem?_cons_zero]
          rw [if_pos ⟨h3 y hy hb, by omega⟩, List.set_append_right _ _ (Nat.le_refl _), Nat.sub_self]
          rfl
        simp only [if_true, List.filter_cons, hb, h2 y hy hb acc, e]
        rw [ih (acc ++ [f y]) (fun z hz => hm z (List.mem_cons_of_mem _ hz)) (by rw [List.length_append]; simp; omega)]
        simp
  unfold lcD
  rw [go xs [] (fun _ h => h) (by simpa using hl)]
  simp [Out.bind, lcEnd]
theorem inL_map {α : Type} (f : α → D) (n : Nat) (xs : List α) (h : ∀ x ∈ xs, (f x).inB n = true) : D.inL n (xs.map f) = true := by
  induction xs with
  | nil => rfl
  | cons x r ih => rw [List.map_cons, D.inL, h x (List.mem_cons_self ..), ih fun y hy => h y (List.mem_cons_of_mem _ hy)]; rfl
theorem rText_len {r : List Cl} (h : ROk r) : (rText r).length ≤ 200 := by
  have h1 := join_len "; " (r.map Cl.text)
  have h2 := sum_len h.ok
  have h3 := h.len
  rw [List.length_map] at h1
  have e : ("; " : Str).length = 2 := by decide +kernel
  rw [e] at h1
  show (Txt.join "; " (r.map Cl.text)).length ≤ 200
  omega
theorem any_no {α : Type} (xs : List α) : (xs.any fun _ => false) = false := by
  induction xs <;> simp_all
theorem read_clauses {r : List Cl} (h : ROk r) (μ : Mu) : F_read_clauses [.str (rText r)] μ = .ok (.lst (r.map Cl.obj)) μ := by
  have hl : r.length ≤ sizeLine := Nat.le_trans h.len (by decide)
  have hs : splitF [.str (rText r), .str "; "] μ = .ok (.lst (r.map fun c => .str c.text)) μ := by
    have := rText_len h
    unfold splitF
    simp only
    rw [if_pos ⟨by decide +kernel, by unfold sizeLine; omega⟩, split_r h, List.map_map]
    rfl
  have e1 : ∀ r0 : Rho, 5 < r0.length → lcD (gNm 5) xYes (xCall F_read_clause (xaCons (xVar 5) xaNil)) r0 (r.map fun c => .str c.text) μ = .ok (.lst (r.map Cl.obj)) μ := fun r0 h5 =>
    lc_map _ _ (fun c hc acc => by
      simp only [AP, AV, AB, List.getElem?_set_self h5]
      exact (h.ok c hc).read _) (fun c _ => c.obj_in _) hl
  have e2 : ∀ r0 : Rho, 4 < r0.length → lcD (gNm 4) xYes (xOp isD (xVar 4) (xC D.non)) r0 (r.map Cl.obj) μ = .ok (.lst (r.map fun c => .bl false)) μ := fun r0 h5 =>
    lc_map _ _ (fun c hc acc => by
      simp only [AP, AV, AB, List.getElem?_set_self h5, OI]
      rfl) (fun c _ => rfl) hl
  have e3 : ∀ r0 : Rho, 4 < r0.length → lcD (gNm 4) (xTest (xOp eqD (xFld "Clause" "word" (xVar 4)) (xC (D.str "call")))) (xVar 4) r0 (r.map Cl.obj) μ = .ok (.lst ((r.filter fun c => decide (c.w = 3)).map Cl.obj)) μ := fun r0 h5 =>
    lc_fil _ _ _ (fun c hc acc => by
      simp only [AP, AV, AB, List.getElem?_set_self h5, Cl.fld_word, EQ, word_call _ (h.ok c hc).w]) (fun c hc _ acc => by
      simp only [AP, AV, AB, List.getElem?_set_self h5]) (fun c _ _ => c.obj_in _) hl
  have e4 : ¬(0 < (r.filter fun c => decide (c.w = 3)).length ∧ (r.filter fun c => decide (c.w = 3)).length < r.length) := by
    rcases h.calls with q | q
    · rw [List.filter_eq_self.mpr fun c hc => by simpa using q c hc]
      omega
    · rw [List.filter_eq_nil_iff.mpr fun c hc => by simpa using q c hc]
      simp
  have hx : exitD μ.length (.lst (r.map Cl.obj)) μ = .ok (.lst (r.map Cl.obj)) μ := by
    rw [exit_in (by rw [D.inB]; exact inL_map _ _ _ fun c _ => c.obj_in _), List.take_length]
  have lp : ∀ (calls : D) (d5 d6 : Option D), ∃ r', loopF (gTp 2 (gsCons (gNm 3) (gsCons (gNm 4) gsNil))) (sIf (xTest (xCall anyF (xaCons (xLc (xiSeq (xSl (xVar 1) xoN (xoS (xVar 3)))) [6] (gNm 6) xYes (xCall F_meet (xaCons (xVar 4) (xaCons (xVar 6) xaNil)))) xaNil))) (sRet (xC D.non)) sNil) (enumL 0 (r.map Cl.obj)) [some (.str (rText r)), some (.lst (r.map Cl.obj)), some calls, none, none, none, none] μ = .next r' μ ∧ ∃ a b, r' = [some (.str (rText r)), some (.lst (r.map Cl.obj)), some calls, a, b, none, none] := fun calls d5 d6 => by
    refine loop_keep (fun r' => ∃ a b, r' = [some (.str (rText r)), some (.lst (r.map Cl.obj)), some calls, a, b, none, none]) ⟨none, none, rfl⟩ fun x hx ρ hρ => ?_
    obtain ⟨a, b, rfl⟩ := hρ
    obtain ⟨k, y, h1, rfl⟩ := mem_enum hx
    rw [List.getElem?_map] at h1
    cases hc : r[k]? with
    | none => rw [hc] at h1; cases h1
    | some c =>
      rw [hc] at h1
      cases h1
      have hk : k < r.length := (List.getElem?_eq_some_iff.mp hc).1
      refine ⟨[some (.str (rText r)), some (.lst (r.map Cl.obj)), some calls, some (.int ((0 + k : Nat) : Int)), some c.obj, none, none], [some (.str (rText r)), some (.lst (r.map Cl.obj)), some calls, some (.int ((0 + k : Nat) : Int)), some c.obj, none, none], by simp only [AP, AB, LS, List.length, Nat.reduceAdd, if_true], ?_, ⟨_, _, rfl⟩⟩
      have e5 : lcD (gNm 6) xYes (xCall F_meet (xaCons (xVar 4) (xaCons (xVar 6) xaNil))) [some (.str (rText r)), some (.lst (r.map Cl.obj)), some calls, some (.int ((0 + k : Nat) : Int)), some c.obj, none, none] ((r.take k).map Cl.obj) μ = .ok (.lst ((r.take k).map fun o => .bl (!((c.step : Int) == o.step) || ((c.rest : Int) == o.rest)))) μ :=
        lc_map _ _ (fun o ho acc => by simp only [AP, AV, AB, LS, meet_ok]) (fun _ _ => rfl) (by rw [List.length_take]; exact Nat.le_trans (Nat.min_le_right _ _) hl)
      simp only [AP, AV, AB, LS, OI, wipeR, Nat.zero_add] at e5 ⊢
      rw [cut_to _ _ (by rw [List.length_map]; omega), ← List.map_take, e5]
      simp only [AB, any_map]
      have hf : ((r.take k).any fun o => !((c.step : Int) == o.step) || ((c.rest : Int) == o.rest)) = false := by
        rw [List.any_eq_false]
        intro o ho
        obtain ⟨j, hj⟩ := List.getElem?_of_mem ho
        rw [List.getElem?_take] at hj
        split at hj
        · rename_i hjk
          have q := List.pairwise_iff_getElem.mp h.apart j k (by omega) hk hjk
          rw [List.getElem?_eq_getElem (by omega)] at hj hc
          cases hj
          cases hc
          have q1 := q.1
          have q2 := q.2
          simp only [Bool.or_eq_true, Bool.not_eq_true', beq_eq_false_iff_ne, beq_iff_eq, not_or]
          omega
        · cases hj
      rw [hf]
      rfl
  obtain ⟨r', l1, a, b, rfl⟩ := lp (.lst ((r.filter fun c : Cl => decide (c.w = 3)).map Cl.obj)) none none
  have e4' : (decide ((0 : Int) < ((r.filter fun c : Cl => decide (c.w = 3)).length : Int)) && decide (((r.filter fun c : Cl => decide (c.w = 3)).length : Int) < (r.length : Int))) = false := by
    rw [Bool.and_eq_false_iff, decide_eq_false_iff_not, decide_eq_false_iff_not]
    omega
  have e6 : decide ((3 : Int) < (r.length : Int)) = false := by
    rw [decide_eq_false_iff_not]
    have := h.len
    omega
  simp only [F_read_clauses, B_read_clauses, fn_ap, rho0, List.map, List.replicate, List.length, Nat.reduceSub, Nat.reduceAdd, List.cons_append, List.nil_append, AP, AV, AB, LS, wipeR, TY, hs, if_true, Bool.not_true, Bool.false_eq_true, if_false, OI, e1, e2, e3, Nat.reduceLT, any_map, List.length_map, e6, any_no]
  by_cases q : 0 < (r.filter fun c : Cl => decide (c.w = 3)).length
  · have q2 : ¬ (r.filter fun c : Cl => decide (c.w = 3)).length < r.length := fun z => e4 ⟨q, z⟩
    simp only [decide_eq_true (show (0 : Int) < ((r.filter fun c : Cl => decide (c.w = 3)).length : Int) by omega), decide_eq_false (show ¬ ((r.filter fun c : Cl => decide (c.w = 3)).length : Int) < (r.length : Int) by omega), if_true, AB, Bool.false_eq_true, if_false, OI, l1, LS, hx, Bool.and_false]
  · simp only [decide_eq_false (show ¬ (0 : Int) < ((r.filter fun c : Cl => decide (c.w = 3)).length : Int) by omega), if_true, AB, Bool.false_eq_true, if_false, OI, l1, LS, hx, Bool.and_false]

/-! ### goals, plans -/
inductive Gl where
  | all | before | last (n : Nat)
def Gl.Ok : Gl → Prop
  | .last n => 1 ≤ n ∧ n ≤ 4
  | _ => True
def Gl.dat : Gl → D
  | .all => .tup [.str "all", .int 0]
  | .before => .tup [.str "before", .int 0]
  | .last n => .tup [.str "last", .int n]
def Gl.text : Gl → Str
  | .all => "all"
  | .before => "before"
  | .last n => "last " ++ digS n
def Gl.read : Gl → D
  | .all => .tup [.str "all", .non]
  | .before => .tup [.str "before", .non]
  | .last n => .tup [.str "last", .int n]
def chkG (g : Gl) : Bool := okIs (F__law_goal_text [g.dat] []) (.str g.text) && okIs (F_read_goal [.str g.text] []) g.read
theorem chkG1 : chkG .all = true := by decide +kernel
theorem chkG2 : chkG .before = true := by decide +kernel
theorem chkG3 : ∀ n < 4, chkG (.last (n + 1)) = true := by decide +kernel
theorem Gl.Ok.chk {g : Gl} (h : g.Ok) : chkG g = true := by
  cases g with
  | all => exact chkG1
  | before => exact chkG2
  | last n =>
    have q := chkG3 (n - 1) (by have := h.1; have := h.2; omega)
    rw [Nat.sub_add_cancel h.1] at q
    exact q
theorem Gl.dat_in (g : Gl) (n : Nat) : g.dat.inB n = true := by cases g <;> rfl
theorem Gl.Ok.text {g : Gl} (h : g.Ok) (μ : Mu) : F__law_goal_text [g.dat] μ = .ok (.str g.text) μ := by
  have q := h.chk
  unfold chkG at q
  rw [Bool.and_eq_true] at q
  exact fr_F__law_goal_text.is (by simp [D.inL, g.dat_in]) q.1 μ
theorem Gl.Ok.read {g : Gl} (h : g.Ok) (μ : Mu) : F_read_goal [.str g.text] μ = .ok g.read μ := by
  have q := h.chk
  unfold chkG at q
  rw [Bool.and_eq_true] at q
  exact fr_F_read_goal.is rfl q.2 μ
theorem is_name_ok {g : Nat} (h : g < 9) (μ : Mu) : F_is_name [.str (nmS g)] μ = .ok (.bl true) μ := fr_F_is_name.is rfl (chkN g h) μ
theorem is_integer_ok (i : Int) (μ : Mu) : F_is_integer [.int i] μ = .ok (.bl true) μ := by
  simp only [F_is_integer, B_is_integer, fn_ap, rho0, List.map, List.replicate, List.length, Nat.reduceSub, Nat.reduceAdd, List.cons_append, List.nil_append, AP, AV, AB, LS, TY, if_true, Bool.not_false, exit_bl, List.take_length, Bool.false_eq_true, if_false]
theorem is_between_ok (i a b : Int) (μ : Mu) : F_is_between [.int i, .int a, .int b] μ = .ok (.bl (decide (a ≤ i) && decide (i ≤ b))) μ := by
  simp only [F_is_between, B_is_between, fn_ap, rho0, List.map, List.replicate, List.length, Nat.reduceSub, Nat.reduceAdd, List.cons_append, List.nil_append, AP, AV, AB, LS, is_integer_ok, OI, if_true, exit_bl, List.take_length, Bool.false_eq_true, if_false]
  by_cases h : a ≤ i
  · simp only [decide_eq_true h, if_true, OI, exit_bl, List.take_length, Bool.true_and, AB]
  · simp only [decide_eq_false h, Bool.false_eq_true, if_false, exit_bl, List.take_length, Bool.false_and, AB]
structure Pl where
  nm : Nat
  goal : Gl
  base : Nat
  rounds : List (List Cl)
def Pl.dat (p : Pl) : D := .lst [.str (nmS p.nm), p.goal.dat, .int p.base, .lst (p.rounds.map fun r => .lst (r.map Cl.dat))]
def Pl.parts (p : Pl) : D := .tup [.str (nmS p.nm), .str p.goal.text, .int p.base, .tup (p.rounds.map fun r => .str (rText r))]
def Pl.prog (p : Pl) : D := .lst (p.rounds.map fun r => .lst (r.map Cl.obj))
structure Pl.Ok (p : Pl) : Prop where
  nm : p.nm < 9
  goal : p.goal.Ok
  base0 : 1 ≤ p.base
  base : p.base ≤ 4
  len0 : 0 < p.rounds.length
  len : p.rounds.length ≤ 5
  ok : ∀ r ∈ p.rounds, ROk r
theorem Pl.dat_in (p : Pl) (n : Nat) : p.dat.inB n = true := by
  simp only [Pl.dat, D.inB, D.inL, Gl.dat_in, Bool.true_and, Bool.and_true]
  exact inL_map _ _ _ fun r _ => by rw [D.inB]; exact inL_map _ _ _ fun c _ => c.dat_in _
theorem Pl.parts_in (p : Pl) (n : Nat) : p.parts.inB n = true := by
  simp only [Pl.parts, D.inB, D.inL, Bool.true_and, Bool.and_true]
  exact inL_map _ _ _ fun r _ => rfl
theorem Pl.prog_in (p : Pl) (n : Nat) : p.prog.inB n = true := by
  simp only [Pl.prog, D.inB, D.inL, Bool.true_and, Bool.and_true]
  exact inL_map _ _ _ fun r _ => by rw [D.inB]; exact inL_map _ _ _ fun c _ => c.obj_in _
theorem join_ok {r : List Cl} (h : ROk r) (μ : Mu) : joinF [.str "; ", .lst (r.map fun c => .str c.text)] μ = .ok (.str (rText r)) μ := by
  have h1 := sum_len h.ok
  have h2 := h.len
  have e : ("; " : Str).length = 2 := by decide +kernel
  have q := strs_map (r.map Cl.text)
  rw [List.map_map] at q
  unfold joinF
  simp only [seqOf, lstOf]
  rw [show (r.map fun c => D.str c.text) = r.map (D.str ∘ Cl.text) from rfl, q]
  simp only
  rw [if_pos (by rw [List.length_map, e]; omega)]
  rfl
theorem IX : (∀ {x : D} {xs : List D} {m : Mu}, ixD (.lst (x :: xs)) (.int 0) m = .ok x m) ∧ (∀ {x y : D} {xs : List D} {m : Mu}, ixD (.lst (x :: y :: xs)) (.int 1) m = .ok y m) ∧ (∀ {x y z : D} {xs : List D} {m : Mu}, ixD (.lst (x :: y :: z :: xs)) (.int 2) m = .ok z m) ∧ (∀ {x y z w : D} {xs : List D} {m : Mu}, ixD (.lst (x :: y :: z :: w :: xs)) (.int 3) m = .ok w m) ∧
  (∀ {x : D} {xs : List D} {m : Mu}, ixD (.tup (x :: xs)) (.int 0) m = .ok x m) ∧ (∀ {x y : D} {xs : List D} {m : Mu}, ixD (.tup (x :: y :: xs)) (.int 1) m = .ok y m) ∧ (∀ {x y z : D} {xs : List D} {m : Mu}, ixD (.tup (x :: y :: z :: xs)) (.int 2) m = .ok z m) ∧ (∀ {x y z w : D} {xs : List D} {m : Mu}, ixD (.tup (x :: y :: z :: w :: xs)) (.int 3) m = .ok w m) := by
  have lt : ∀ {x : D} {xs : List D} {i : Nat} {y : D}, xs[i]? = some y → ∀ m, ixD (.lst xs) (.int (i : Int)) m = .ok y m := fun {x xs i y} h m => by
    unfold ixD
    simp only [lstOf, ix_at i xs y h]
  have tp : ∀ {x : D} {xs : List D} {i : Nat} {y : D}, xs[i]? = some y → ∀ m, ixD (.tup xs) (.int (i : Int)) m = .ok y m := fun {x xs i y} h m => by
    unfold ixD
    simp only [ix_at i xs y h]
  refine ⟨?_, ?_, ?_, ?_, ?_, ?_, ?_, ?_⟩ <;> intros
  · exact lt (x := .non) (i := 0) rfl _
  · exact lt (x := .non) (i := 1) rfl _
  · exact lt (x := .non) (i := 2) rfl _
  · exact lt (x := .non) (i := 3) rfl _
  · exact tp (x := .non) (i := 0) rfl _
  · exact tp (x := .non) (i := 1) rfl _
  · exact tp (x := .non) (i := 2) rfl _
  · exact tp (x := .non) (i := 3) rfl _
theorem parts_ok {p : Pl} (h : p.Ok) (μ : Mu) : F__law_parts [p.dat] μ = .ok p.parts μ := by
  have hl : p.rounds.length ≤ sizeLine := Nat.le_trans h.len (by decide)
  have e0 : ∀ (ν : Mu) (r : List Cl), ROk r → ∀ r0 : Rho, 3 < r0.length → lcD (gNm 3) xYes (xCall F__law_clause_text (xaCons (xVar 3) xaNil)) r0 (r.map Cl.dat) ν = .ok (.lst (r.map fun c => .str c.text)) ν := fun ν r hr r0 h5 =>
    lc_map _ _ (fun c hc acc => by
      simp only [AP, AV, AB, List.getElem?_set_self h5]
      exact (hr.ok c hc).text _) (fun c _ => rfl) (Nat.le_trans hr.len (by decide))
  have e1 : lcD (gNm 2) xYes (xBM "str" joinF (xC (.str "; ")) (xaCons (xLc (xiSeq (xVar 2)) [3] (gNm 3) xYes (xCall F__law_clause_text (xaCons (xVar 3) xaNil))) xaNil)) [some p.dat, none, none, none] (p.rounds.map fun r => .lst (r.map Cl.dat)) μ = .ok (.lst (p.rounds.map fun r => .str (rText r))) μ :=
    lc_map _ _ (fun r hr acc => by
      simp only [AP, AV, AB, LS, TY, if_true, wipeR, e0 _ r (h.ok r hr), List.length, Nat.reduceAdd, Nat.reduceLT, join_ok (h.ok r hr)]) (fun c _ => rfl) hl
  have hx : exitD μ.length p.parts μ = .ok p.parts μ := by rw [exit_in (p.parts_in _), List.take_length]
  unfold Pl.dat at e1 ⊢
  unfold Pl.parts at hx ⊢
  simp only [F__law_parts, B__law_parts, fn_ap, rho0, List.map, List.replicate, List.length, Nat.reduceSub, Nat.reduceAdd, List.cons_append, List.nil_append, AP, AV, AB, LS, wipeR, IX, e1, OI, h.goal.text, Bool.false_eq_true, if_false, hx]
end J.M

namespace J.M
open PySem PySem.Spec PyProof.Rows L2 DS
theorem nmS_eq : ∀ a < 9, ∀ b < 9, (nmS a == nmS b) = decide (a = b) := by decide +kernel
def nmD (a : Nat) : D := .str (nmS a)
theorem any_nm {g : Nat} (hg : g < 9) : ∀ {ns : List Nat}, (∀ n ∈ ns, n < 9) → ((ns.map nmD).any fun y => eqF y (.str (nmS g))) = decide (g ∈ ns)
  | [], _ => by simp
  | n :: ns, h => by
    rw [List.map_cons, List.any_cons, any_nm hg fun x hx => h x (List.mem_cons_of_mem _ hx)]
    show (nmS n == nmS g || _) = _
    rw [nmS_eq n (h n (List.mem_cons_self ..)) g hg]
    by_cases e : n = g
    · subst e; simp
    · by_cases e2 : g ∈ ns <;> simp [e, e2, Ne.symm e, Ne.symm (Ne.symm e)] <;> omega
theorem flat_nm (ns : List Nat) : (ns.map nmD).all flatD = true := by
  rw [List.all_map, List.all_eq_true]
  intros
  rfl
theorem in_lst {g : Nat} (hg : g < 9) {ns : List Nat} (h : ∀ n ∈ ns, n < 9) (m : Mu) : DS.inB m (.str (nmS g)) (.lst (ns.map nmD)) = some (decide (g ∈ ns)) := by
  show (if flatD (.str (nmS g)) && (ns.map nmD).all flatD then some ((ns.map nmD).any fun y => eqF y (.str (nmS g))) else none) = _
  rw [flat_nm, any_nm hg h]
  rfl
theorem in_loc {g n : Nat} (hg : g < 9) {ns : List Nat} (h : ∀ n ∈ ns, n < 9) {m : Mu} (hm : m[n]? = some (.lst (ns.map nmD))) : DS.inB m (.str (nmS g)) (.loc n) = some (decide (g ∈ ns)) := by
  show (match lstOf m (.loc n) with
    | some xs => if flatD (.str (nmS g)) && xs.all flatD then some (xs.any fun y => eqF y (.str (nmS g))) else none
    | none => none) = _
  rw [show lstOf m (.loc n) = some (ns.map nmD) by unfold lstOf; simp only [hm]]
  show (if flatD (.str (nmS g)) && (ns.map nmD).all flatD then some ((ns.map nmD).any fun y => eqF y (.str (nmS g))) else none) = _
  rw [flat_nm, any_nm hg h]
  rfl
/-- which calls may stand in the round of a plan -/
def Calls (names above : List Nat) (r : List Cl) : Prop := ∀ c ∈ r, c.w = 3 → c.goal ∈ names ∧ (c.step = 1 → c.goal ∉ above)
theorem read_round {r : List Cl} (h : ROk r) {names above : List Nat} (hn : ∀ n ∈ names, n < 9) (ha : ∀ n ∈ above, n < 9) (hc : Calls names above r) {n : Nat} {μ : Mu} (hm : μ[n]? = some (.lst (names.map nmD))) :
    F_read_round [.str (rText r), .loc n, .lst (above.map nmD)] μ = .ok (.lst (r.map Cl.obj)) μ := by
  have hx : exitD μ.length (.lst (r.map Cl.obj)) μ = .ok (.lst (r.map Cl.obj)) μ := by
    rw [exit_in (by rw [D.inB]; exact inL_map _ _ _ fun c _ => c.obj_in _), List.take_length]
  have lp : ∃ r', loopF (gNm 4) (sIf (xAndT (xTest (xOp eqD (xFld "Clause" "word" (xVar 4)) (xC (.str "call")))) (xOrT (xTest (xOp ninD (xFld "Clause" "goal" (xVar 4)) (xVar 1))) (xAndT (xTest (xOp eqD (xFld "Clause" "step" (xVar 4)) (xC (.int 1)))) (xTest (xOp inD (xFld "Clause" "goal" (xVar 4)) (xVar 2)))))) (sRet (xC .non)) sNil)
      (r.map Cl.obj) [some (.str (rText r)), some (.loc n), some (.lst (above.map nmD)), some (.lst (r.map Cl.obj)), none] μ = .next r' μ ∧ ∃ a, r' = [some (.str (rText r)), some (.loc n), some (.lst (above.map nmD)), some (.lst (r.map Cl.obj)), a] := by
    refine loop_keep (fun r' => ∃ a, r' = [some (.str (rText r)), some (.loc n), some (.lst (above.map nmD)), some (.lst (r.map Cl.obj)), a]) ⟨none, rfl⟩ fun x hx ρ hρ => ?_
    obtain ⟨a, rfl⟩ := hρ
    obtain ⟨c, hcm, rfl⟩ := List.mem_map.mp hx
    have ok := h.ok c hcm
    refine ⟨[some (.str (rText r)), some (.loc n), some (.lst (above.map nmD)), some (.lst (r.map Cl.obj)), some c.obj], [some (.str (rText r)), some (.loc n), some (.lst (above.map nmD)), some (.lst (r.map Cl.obj)), some c.obj], by simp only [AP, LS], ?_, ⟨_, rfl⟩⟩
    simp only [AP, AV, AB, LS, Cl.fld_word, Cl.fld_goal, Cl.fld_step, word_call _ ok.w, EQ]
    by_cases hw : c.w = 3
    · obtain ⟨c1, c2⟩ := hc c hcm hw
      simp only [hw, decide_true, if_true, ninD, inD, in_loc ok.goal hn hm, c1, Bool.not_true, AB, Bool.false_eq_true, if_false]
      by_cases hs : c.step = 1
      · simp only [hs, Int.natCast_one, beq_self_eq_true, if_true, in_lst ok.goal ha, c2 hs, decide_false, AB, Bool.false_eq_true, if_false]
      · have e : ((c.step : Int) == 1) = false := by simp; omega
        simp only [e, AB, Bool.false_eq_true, if_false]
    · simp only [hw, decide_false, Bool.false_eq_true, if_false, AB]
  obtain ⟨r', l1, a, rfl⟩ := lp
  simp only [F_read_round, B_read_round, fn_ap, rho0, List.map, List.replicate, List.length, Nat.reduceSub, Nat.reduceAdd, List.cons_append, List.nil_append, AP, AV, AB, LS, read_clauses h, OI, isNonD, Bool.false_eq_true, if_false, l1, hx]
theorem is_plan_ok {p : Pl} (h : p.Ok) (μ : Mu) : F_is_plan [p.parts] μ = .ok (.bl true) μ := by
  have hl : p.rounds.length ≤ sizeLine := Nat.le_trans h.len (by decide)
  have e1 : ∀ r0 : Rho, 5 < r0.length → lcD (gNm 5) xYes (xOp isntD (xCall F_read_clauses (xaCons (xVar 5) xaNil)) (xC .non)) r0 (p.rounds.map fun r => .str (rText r)) μ = .ok (.lst (p.rounds.map fun _ => .bl true)) μ := fun r0 h5 =>
    lc_map _ _ (fun r hr acc => by
      simp only [AP, AV, AB, List.getElem?_set_self h5, read_clauses (h.ok r hr), OI]
      rfl) (fun c _ => rfl) hl
  have b1 : (decide ((1 : Int) ≤ (p.base : Int)) && decide ((p.base : Int) ≤ 4)) = true := by
    have := h.base0
    have := h.base
    simp
    omega
  have b2 : decide ((0 : Int) < (p.rounds.length : Int)) = true := by
    have := h.len0
    simp
    omega
  have b3 : decide ((p.rounds.length : Int) ≤ 5) = true := by
    have := h.len
    simp
    omega
  have g1 : isNonD p.goal.read = false := by cases p.goal <;> rfl
  have al : (p.rounds.all fun _ => true) = true := by simp
  unfold Pl.parts
  simp only [F_is_plan, B_is_plan, fn_ap, rho0, List.map, List.replicate, List.length, Nat.reduceSub, Nat.reduceAdd, List.cons_append, List.nil_append, AP, AV, AB, LS, wipeR, TY, OI, Bool.not_true, Bool.false_eq_true, if_false, if_true, EQ, is_name_ok h.nm, h.goal.read, is_between_ok, List.length_map, b1, b2, b3, e1, Nat.reduceLT, all_map, g1, al, exit_bl, List.take_length, show (((4 : Nat) : Int) == 4) = true from rfl]
theorem loop_inv {g : XG} {body : XS} (I : Nat → Rho → Mu → Prop) : ∀ {xs : List D} {k : Nat} {r : Rho} {m : Mu}, I k r m → (∀ i x r m, xs[i]? = some x → I (k + i) r m → ∃ r1 m1 r2 m2, g x r m = .ok r1 m1 ∧ body r1 m1 = .next r2 m2 ∧ I (k + i + 1) r2 m2) → ∃ r' m', loopF g body xs r m = .next r' m' ∧ I (k + xs.length) r' m'
  | [], k, r, m, h, _ => ⟨r, m, rfl, h⟩
  | x :: xs, k, r, m, h, hs => by
    obtain ⟨r1, m1, r2, m2, h1, h2, h3⟩ := hs 0 x r m rfl h
    obtain ⟨r', m', h4, h5⟩ := loop_inv I (k := k + 1) h3 fun i y r m hy hi => by
      have := hs (i + 1) y r m hy (by rw [show k + (i + 1) = k + 1 + i by omega]; exact hi)
      rw [show k + (i + 1) + 1 = k + 1 + i + 1 by omega] at this
      exact this
    refine ⟨r', m', ?_, by rw [List.length_cons, show k + (xs.length + 1) = k + 1 + xs.length by omega]; exact h5⟩
    rw [loopF, h1]
    simp only [AB, h2]
    exact h4
theorem enum_get : ∀ {xs : List D} {b i : Nat}, (enumL b xs)[i]? = (xs[i]?).map fun y => .tup [.int ((b + i : Nat) : Int), y]
  | [], b, i => by simp [enumL]
  | x :: xs, b, 0 => rfl
  | x :: xs, b, i + 1 => by
    rw [enumL, List.getElem?_cons_succ, List.getElem?_cons_succ, enum_get, show b + 1 + i = b + (i + 1) by omega]
/-! ### books -/
structure SOk (sk : List Pl) : Prop where
  len0 : 0 < sk.length
  len : sk.length ≤ 4
  ok : ∀ p ∈ sk, p.Ok
  apart : (sk.map Pl.nm).Nodup
  calls : ∀ (i : Nat) (p : Pl), sk[i]? = some p → ∀ r ∈ p.rounds, Calls (sk.map Pl.nm) ((sk.map Pl.nm).take (i + 1)) r
def heldD (sk : List Pl) : D := .tup (sk.map Pl.parts)
theorem heldD_in (sk : List Pl) (n : Nat) : (heldD sk).inB n = true := by
  rw [heldD, D.inB]
  exact inL_map _ _ _ fun p _ => p.parts_in _
theorem SOk.nm {sk : List Pl} (h : SOk sk) : ∀ n ∈ sk.map Pl.nm, n < 9 := fun n hn => by
  obtain ⟨p, hp, rfl⟩ := List.mem_map.mp hn
  exact (h.ok p hp).nm
theorem first_invalid0 {sk : List Pl} (h : SOk sk) : F_first_invalid [heldD sk] [] = .ok .non [] := by
  let names := sk.map Pl.nm
  have hn : ∀ n ∈ names, n < 9 := h.nm
  have hlen : names.length = sk.length := List.length_map ..
  -- the names
  have l1 : ∃ r' m', loopF (gTp 2 (gsCons (gNm 2) (gsCons (gNm 3) gsNil))) (sSeq (sIf (xOrT (xTest (xOp eqD (xVar 2) (xC (.int 4)))) (xOrT (xNotT (xTest (xCall F_is_plan (xaCons (xVar 3) xaNil)))) (xTest (xOp inD (xOp ixD (xVar 3) (xC (.int 0))) (xVar 1))))) (sRet (xVar 2)) sNil)
      (sExpr (xBM "list" appF (xVar 1) (xaCons (xOp ixD (xVar 3) (xC (.int 0))) xaNil)))) (enumL 0 (sk.map Pl.parts)) [some (heldD sk), some (.loc 0), none, none, none] [.lst []] = .next r' m' ∧ ((∃ a b, r' = [some (heldD sk), some (.loc 0), a, b, none]) ∧ m' = [.lst ((names.take (0 + (enumL 0 (sk.map Pl.parts)).length)).map nmD)]) := by
    refine loop_inv (fun k r m => (∃ a b, r = [some (heldD sk), some (.loc 0), a, b, none]) ∧ m = [.lst ((names.take k).map nmD)]) ⟨⟨_, _, rfl⟩, rfl⟩ fun i x r m hx hi => ?_
    obtain ⟨⟨a, b, rfl⟩, rfl⟩ := hi
    rw [enum_get, List.getElem?_map] at hx
    cases hp : sk[i]? with
    | none => rw [hp] at hx; cases hx
    | some p =>
      rw [hp] at hx
      cases hx
      have hil : i < sk.length := (List.getElem?_eq_some_iff.mp hp).1
      have hpm : p ∈ sk := List.mem_of_getElem? hp
      have hnk : names[i]? = some p.nm := by
        show (sk.map Pl.nm)[i]? = _
        rw [List.getElem?_map, hp]
        rfl
      have hnot : p.nm ∉ names.take i := fun hm => by
        obtain ⟨j, hj⟩ := List.getElem?_of_mem hm
        rw [List.getElem?_take] at hj
        split at hj
        · rename_i hji
          have q := List.pairwise_iff_getElem.mp h.apart j i (by rw [List.length_map]; omega) (by rw [List.length_map]; exact hil) hji
          obtain ⟨_, a1⟩ := List.getElem?_eq_some_iff.mp hj
          obtain ⟨_, a2⟩ := List.getElem?_eq_some_iff.mp hnk
          exact q (a1.trans a2.symm)
        · cases hj
      have hlt : ∀ n ∈ names.take i, n < 9 := fun n hm => hn n (List.mem_of_mem_take hm)
      have e4 : (((0 + i : Nat) : Int) == 4) = false := by
        have := h.len
        simp
        omega
      refine ⟨[some (heldD sk), some (.loc 0), some (.int ((0 + i : Nat) : Int)), some p.parts, none], [.lst ((names.take i).map nmD)], [some (heldD sk), some (.loc 0), some (.int ((0 + i : Nat) : Int)), some p.parts, none], [.lst ((names.take (i + 1)).map nmD)], by simp only [AP, AB, LS, List.length, Nat.reduceAdd, if_true, Nat.zero_add], ?_, ⟨⟨_, _, rfl⟩, by rw [Nat.zero_add]⟩⟩
      have hix : ∀ m, ixD p.parts (.int 0) m = .ok (.str (nmS p.nm)) m := fun m => IX.2.2.2.2.1
      have hap : appF [.loc 0, .str (nmS p.nm)] [.lst ((names.take i).map nmD)] = .ok .non [.lst ((names.take (i + 1)).map nmD)] := by
        have hl4 := h.len
        have : ((names.take i).map nmD).length < sizeLine := by
          rw [List.length_map, List.length_take, hlen]
          unfold sizeLine
          omega
        show (pushD 0 (.str (nmS p.nm)) _).bind _ = _
        unfold pushD
        simp only [LS]
        rw [if_pos ⟨rfl, this⟩]
        simp only [AB, LS]
        have e : names.take (i + 1) = names.take i ++ [p.nm] := by rw [List.take_succ, hnk]; rfl
        rw [e, List.map_append]
        rfl
      simp only [AP, AV, AB, LS, EQ, e4, Bool.false_eq_true, if_false, is_plan_ok (h.ok p hpm), Bool.not_true, hix, inD, in_loc (h.ok p hpm).nm hlt (show [Cell.lst ((names.take i).map nmD)][0]? = some (.lst ((names.take i).map nmD)) from rfl), hnot, decide_false]
      rw [if_pos (show tyD "list" [Cell.lst ((names.take i).map nmD)] (.loc 0) = true from rfl), hap]
      rfl
  -- the rounds
  have l2 : ∀ a b, ∃ r', loopF (gTp 2 (gsCons (gNm 2) (gsCons (gNm 3) gsNil))) (sIf (xTest (xCall anyF (xaCons (xLc (xiSeq (xOp ixD (xVar 3) (xC (.int 3)))) [4] (gNm 4) xYes (xOp isD (xCall F_read_round (xaCons (xVar 4) (xaCons (xVar 1) (xaCons (xSl (xVar 1) xoN (xoS (xOp addD (xVar 2) (xC (.int 1))))) xaNil)))) (xC .non))) xaNil))) (sRet (xVar 2)) sNil)
      (enumL 0 (sk.map Pl.parts)) [some (heldD sk), some (.loc 0), a, b, none] [.lst (names.map nmD)] = .next r' [.lst (names.map nmD)] ∧ ∃ a b, r' = [some (heldD sk), some (.loc 0), a, b, none] := fun a b => by
    refine loop_keep (fun r => ∃ a b, r = [some (heldD sk), some (.loc 0), a, b, none]) ⟨_, _, rfl⟩ fun x hx r hr => ?_
    obtain ⟨a, b, rfl⟩ := hr
    obtain ⟨i, y, hy, rfl⟩ := mem_enum hx
    rw [List.getElem?_map] at hy
    cases hp : sk[i]? with
    | none => rw [hp] at hy; cases hy
    | some p =>
      rw [hp] at hy
      cases hy
      have hil : i < sk.length := (List.getElem?_eq_some_iff.mp hp).1
      have hpm : p ∈ sk := List.mem_of_getElem? hp
      have ok := h.ok p hpm
      refine ⟨[some (heldD sk), some (.loc 0), some (.int ((0 + i : Nat) : Int)), some p.parts, none], [some (heldD sk), some (.loc 0), some (.int ((0 + i : Nat) : Int)), some p.parts, none], by simp only [AP, AB, LS, List.length, Nat.reduceAdd, if_true, Nat.zero_add], ?_, ⟨_, _, rfl⟩⟩
      have hix : ∀ m, ixD p.parts (.int 3) m = .ok (.tup (p.rounds.map fun r => .str (rText r))) m := fun m => IX.2.2.2.2.2.2.2
      have e1 : lcD (gNm 4) xYes (xOp isD (xCall F_read_round (xaCons (xVar 4) (xaCons (xVar 1) (xaCons (xSl (xVar 1) xoN (xoS (xOp addD (xVar 2) (xC (.int 1))))) xaNil)))) (xC .non)) [some (heldD sk), some (.loc 0), some (.int ((0 + i : Nat) : Int)), some p.parts, none] (p.rounds.map fun r => .str (rText r)) [.lst (names.map nmD)] = .ok (.lst (p.rounds.map fun _ => .bl false)) [.lst (names.map nmD)] :=
        lc_map (μ := [.lst (names.map nmD)]) _ _ (fun r hr acc => by
          have hsl : slD (.loc 0) none (some (((0 + i : Nat) : Int) + 1)) ([.lst (names.map nmD)] ++ [.lst acc]) = .ok (.lst ((names.take (i + 1)).map nmD)) ([.lst (names.map nmD)] ++ [.lst acc]) := by
            show Out.ok (D.lst (DS.cutD (names.map nmD) none (some (((0 + i : Nat) : Int) + 1)))) _ = _
            rw [show (((0 + i : Nat) : Int) + 1) = ((i + 1 : Nat) : Int) by omega, cut_to _ _ (by rw [List.length_map, hlen]; omega), List.map_take]
          have hrr := read_round (μ := [.lst (names.map nmD)] ++ [.lst acc]) (n := 0) (ok.ok r hr) hn (fun n hm => hn n (List.mem_of_mem_take hm)) (h.calls i p hp r hr) rfl
          simp only [AP, AV, AB, LS, OI, hsl, hrr, isNonD]) (fun _ _ => rfl) (Nat.le_trans ok.len (by decide))
      simp only [AP, AV, AB, LS, hix, wipeR, e1, any_map, any_no, Bool.false_eq_true, if_false]
  obtain ⟨r1, m1, q1, ⟨a, b, rfl⟩, rfl⟩ := l1
  have hfull : names.take (0 + (enumL 0 (sk.map Pl.parts)).length) = names := by
    have : ∀ (b : Nat) (xs : List D), (enumL b xs).length = xs.length := fun b xs => by
      induction xs generalizing b with
      | nil => rfl
      | cons x r ih => rw [enumL, List.length_cons, List.length_cons, ih]
    rw [this, Nat.zero_add, List.length_map, List.take_of_length_le (by rw [hlen]; exact Nat.le_refl _)]
  rw [hfull] at q1
  obtain ⟨r2, q2, a2, b2, rfl⟩ := l2 a b
  simp only [F_first_invalid, B_first_invalid, fn_ap, rho0, List.map, List.replicate, List.length, Nat.reduceSub, Nat.reduceAdd, List.cons_append, List.nil_append, AP, AV, AB, LS, D.inL, if_true, wipeR, show ∀ m, enumD' [heldD sk] m = .ok (enumL 0 (sk.map Pl.parts)) m from fun _ => rfl, q1, q2, Bool.false_eq_true, if_false]
  rfl
theorem first_invalid {sk : List Pl} (h : SOk sk) (μ : Mu) : F_first_invalid [heldD sk] μ = .ok .non μ :=
  fr_F_first_invalid.of (by simp [D.inL, heldD_in]) (first_invalid0 h) rfl μ
theorem dc_map {α : Type} {i : Nat} {tk te : XE'} {r0 : Rho} {μ : Mu} (e : α → D) (kf : α → Str) (f : α → D) {xs : List α}
    (h1 : ∀ x ∈ xs, ∀ acc, tk (r0.set i (some (e x))) (μ ++ [.dct acc]) = .ok (.str (kf x)) (μ ++ [.dct acc]))
    (h2 : ∀ x ∈ xs, ∀ acc, te (r0.set i (some (e x))) (μ ++ [.dct acc]) = .ok (f x) (μ ++ [.dct acc]))
    (h3 : ∀ x ∈ xs, (f x).inB μ.length = true) (hd : xs.Pairwise fun a b => (kf a == kf b) = false) (hl : xs.length < 1000) :
    (dcF (gNm i) tk te μ.length r0 (xs.map e) (μ ++ [.dct []])).bind (fun _ m2 => dcEnd μ.length m2) = .ok (.dct (xs.map fun x => (kf x, f x))) μ := by
  have look : ∀ (y : α) (ys : List α), (∀ z ∈ ys, (kf z == kf y) = false) → (ys.map fun x => (kf x, f x)).lookup (kf y) = none := fun y ys hz => by
    induction ys with
    | nil => rfl
    | cons z r ih =>
      rw [List.map_cons, List.lookup_cons]
      have := hz z (List.mem_cons_self ..)
      rw [show (kf y == kf z) = false by rw [beq_eq_false_iff_ne] at this ⊢; exact Ne.symm this]
      exact ih fun w hw => hz w (List.mem_cons_of_mem _ hw)
  have go : ∀ (ys zs : List α), zs ++ ys = xs → dcF (gNm i) tk te μ.length r0 (ys.map e) (μ ++ [.dct (zs.map fun x => (kf x, f x))]) = .ok () (μ ++ [.dct (xs.map fun x => (kf x, f x))]) := fun ys => by
    induction ys with
    | nil => intro zs hz; rw [List.append_nil] at hz; subst hz; simp [dcF]
    | cons y ys ih =>
      intro zs hz
      have hy : y ∈ xs := by rw [← hz]; simp
      have hlen : zs.length < xs.length := by rw [← hz]; simp
      have e : dputD μ.length (.str (kf y)) (f y) (μ ++ [.dct (zs.map fun x => (kf x, f x))]) = .ok () (μ ++ [.dct ((zs ++ [y]).map fun x => (kf x, f x))]) := by
        unfold dputD
        rw [List.getElem?_append_right (Nat.le_refl _), Nat.sub_self]
        simp only [List.getElem?_cons_zero]
        rw [if_pos ⟨h3 y hy, by rw [List.length_map]; omega, look y zs fun z hz' => by
          rw [← hz] at hd
          exact (List.pairwise_append.mp hd).2.2 z hz' y (List.mem_cons_self ..)⟩, List.set_append_right _ _ (Nat.le_refl _), Nat.sub_self]
        simp
      rw [List.map_cons, dcF]
      simp only [gNm, Out.ne, Out.bind, h1 y hy, h2 y hy, e]
      exact ih (zs ++ [y]) (by rw [← hz]; simp)
  have g0 := go xs [] rfl
  rw [List.map_nil] at g0
  rw [g0]
  simp [Out.bind, dcEnd]
def bookD (sk : List Pl) : D := .obj "Book" [("held", heldD sk), ("parsed", .dct (sk.map fun p => (nmS p.nm, p.prog)))]
theorem inF_map {α : Type} (k : α → Str) (f : α → D) (n : Nat) (xs : List α) (h : ∀ x ∈ xs, (f x).inB n = true) : D.inF n (xs.map fun x => (k x, f x)) = true := by
  induction xs with
  | nil => rfl
  | cons x r ih => rw [List.map_cons, D.inF, h x (List.mem_cons_self ..), ih fun y hy => h y (List.mem_cons_of_mem _ hy)]; rfl
theorem bookD_in (sk : List Pl) (n : Nat) : (bookD sk).inB n = true := by
  simp only [bookD, D.inB, D.inF, heldD_in, Bool.true_and, Bool.and_true]
  exact inF_map _ _ _ _ fun p _ => p.prog_in _
theorem book0 {sk : List Pl} (h : SOk sk) : makeD "Book" F_Book_D_initD_ true [heldD sk] [] = .ok (bookD sk) [] := by
  have hl4 := h.len
  have e0 : ∀ (ν : Mu) (p : Pl), p.Ok → ∀ r0 : Rho, 4 < r0.length → lcD (gNm 4) xYes (xCall F_read_clauses (xaCons (xVar 4) xaNil)) r0 (p.rounds.map fun r => .str (rText r)) ν = .ok p.prog ν := fun ν p hp r0 h5 =>
    lc_map _ _ (fun r hr acc => by
      simp only [AP, AV, AB, List.getElem?_set_self h5, read_clauses (hp.ok r hr)]) (fun r _ => by rw [D.inB]; exact inL_map _ _ _ fun c _ => c.obj_in _) (Nat.le_trans hp.len (by decide))
  have e1 : (dcF (gNm 3) (xOp ixD (xVar 3) (xC (.int 0))) (xLc (xiSeq (xOp ixD (xVar 3) (xC (.int 3)))) [4] (gNm 4) xYes (xCall F_read_clauses (xaCons (xVar 4) xaNil))) 1 [some (.loc 0), some (heldD sk), some .non, none, none] (sk.map Pl.parts) ([.ins "Book" [("held", heldD sk)]] ++ [.dct []])).bind (fun _ m2 => dcEnd 1 m2) = .ok (.dct (sk.map fun p => (nmS p.nm, p.prog))) [.ins "Book" [("held", heldD sk)]] :=
    dc_map (μ := [.ins "Book" [("held", heldD sk)]]) Pl.parts (fun p => nmS p.nm) Pl.prog (fun p hp acc => by
      have hix : ∀ m, ixD p.parts (.int 0) m = .ok (.str (nmS p.nm)) m := fun m => IX.2.2.2.2.1
      simp only [AP, AV, AB, LS, hix]) (fun p hp acc => by
      have hix : ∀ m, ixD p.parts (.int 3) m = .ok (.tup (p.rounds.map fun r => .str (rText r))) m := fun m => IX.2.2.2.2.2.2.2
      simp only [AP, AV, AB, LS, hix, wipeR, e0 _ p (h.ok p hp), List.length, Nat.reduceAdd, Nat.reduceLT]) (fun p _ => p.prog_in _) (by
      have q := h.apart
      rw [List.Nodup, List.pairwise_map] at q
      exact q.imp_of_mem fun {a b} ha hb hab => by rw [nmS_eq _ (h.ok a ha).nm _ (h.ok b hb).nm]; simpa using hab) (by omega)
  have e2 : (((sk.map Pl.parts).length : Int) == 0) = false := by
    have := h.len0
    simp
    intro z
    rw [z] at this
    exact absurd this (Nat.lt_irrefl _)
  have xd : ∀ (f : XA) (vs : List Nat) (g : XG) (tk te : XE') (r : Rho) (m : Mu), xDc f vs g tk te r m = (f r m).bind fun xs m1 => (dcF g tk te m1.length (wipeR r vs) xs (m1 ++ [.dct []])).bind fun _ m2 => dcEnd m1.length m2 := fun _ _ _ _ _ _ _ => rfl
  have xf : ∀ (cn f : Str) (o v : XE') (r : Rho) (m : Mu), sFl cn f o v r m = (v r m).stm r fun q m1 => (o r m1).stm r fun od m2 => (putC cn f od q m2).stm r fun _ m3 => .next r m3 := fun _ _ _ _ _ _ => rfl
  have p1 : putC "Book" "held" (.loc 0) (heldD sk) [.ins "Book" []] = .ok () [.ins "Book" [("held", heldD sk)]] := by
    unfold putC
    simp only [LS]
    rw [if_pos ⟨trivial, by decide, heldD_in sk 0⟩]
    rfl
  have p2 : putC "Book" "parsed" (.loc 0) (.dct (sk.map fun p => (nmS p.nm, p.prog))) [.ins "Book" [("held", heldD sk)]] = .ok () [.ins "Book" [("held", heldD sk), ("parsed", .dct (sk.map fun p => (nmS p.nm, p.prog)))]] := by
    unfold putC
    simp only [LS]
    rw [if_pos ⟨trivial, by simp, by rw [D.inB]; exact inF_map _ _ _ _ fun p _ => p.prog_in _⟩]
    rfl
  have t1 : ∀ m, isiF cs [heldD sk, .ty "tuple"] m = .ok (.bl true) m := fun _ => rfl
  have t2 : ∀ m, lenD [heldD sk] m = .ok (.int ((sk.map Pl.parts).length : Int)) m := fun _ => rfl
  have t3 : ∀ m, seqD (heldD sk) m = .ok (sk.map Pl.parts) m := fun _ => rfl
  simp only [List.cons_append, List.nil_append] at e1
  unfold makeD
  simp only [F_Book_D_initD_, B_Book_D_initD_, fn_ap, rho0, List.map, List.replicate, List.length, Nat.reduceSub, Nat.reduceAdd, List.cons_append, List.nil_append, AP, AV, AB, LS, wipeR, t1, t2, t3, EQ, e2, Bool.not_true, Bool.false_eq_true, if_false, first_invalid h, OI, isNonD, xd, xf, p1, p2, e1]
  rfl
theorem book_ok {sk : List Pl} (h : SOk sk) (μ : Mu) : makeD "Book" F_Book_D_initD_ true [heldD sk] μ = .ok (bookD sk) μ :=
  (fr_makeD "Book" true fr_F_Book_D_initD_).of (by simp [D.inL, heldD_in]) (book0 h) (bookD_in sk 0) μ
def skD (sk : List Pl) : D := .lst (sk.map Pl.dat)
theorem vol_ok {sk : List Pl} (h : SOk sk) (μ : Mu) : F__law_vol [skD sk] μ = .ok (bookD sk) μ := by
  have hl : sk.length ≤ sizeLine := Nat.le_trans h.len (by decide)
  have e1 : ∀ r0 : Rho, 1 < r0.length → lcD (gNm 1) xYes (xCall F__law_parts (xaCons (xVar 1) xaNil)) r0 (sk.map Pl.dat) μ = .ok (.lst (sk.map Pl.parts)) μ := fun r0 h5 =>
    lc_map _ _ (fun p hp acc => by
      simp only [AP, AV, AB, List.getElem?_set_self h5, parts_ok (h.ok p hp)]) (fun p _ => p.parts_in _) hl
  have hx : exitD μ.length (bookD sk) μ = .ok (bookD sk) μ := by rw [exit_in (bookD_in sk _), List.take_length]
  simp only [F__law_vol, B__law_vol, fn_ap, rho0, List.map, List.replicate, List.length, Nat.reduceSub, Nat.reduceAdd, List.cons_append, List.nil_append, AP, AV, AB, LS, wipeR, show ∀ m, seqD (skD sk) m = .ok (sk.map Pl.dat) m from fun _ => rfl, e1, Nat.reduceLT, show ∀ m, tupF [.lst (sk.map Pl.parts)] m = .ok (heldD sk) m from fun _ => rfl, book_ok h, Bool.false_eq_true, if_false, hx]
end J.M

namespace J.M
open PySem PySem.Spec PyProof.Rows L2 DS
/-! ### cups -/
def cupC (a b c : Int) : Cell := .lst [.int a, .int b, .int c]
def Cup (n : Nat) (μ : Mu) : Prop := ∃ a b c, μ[n]? = some (cupC a b c)
def Sip (n : Nat) (μ μ' : Mu) : Prop := ∃ a b c, μ' = μ.set n (cupC a b c)
theorem Cup.lt {n : Nat} {μ : Mu} (h : Cup n μ) : n < μ.length := by
  obtain ⟨a, b, c, e⟩ := h
  exact (List.getElem?_eq_some_iff.mp e).1
theorem Sip.refl {n : Nat} {μ : Mu} (h : Cup n μ) : Sip n μ μ := by
  obtain ⟨a, b, c, e⟩ := h
  refine ⟨a, b, c, ?_⟩
  obtain ⟨hl, q⟩ := List.getElem?_eq_some_iff.mp e
  rw [← q, List.set_getElem_self]
theorem Sip.trans {n : Nat} {μ μ1 μ2 : Mu} (h : Sip n μ μ1) (g : Sip n μ1 μ2) : Sip n μ μ2 := by
  obtain ⟨a, b, c, rfl⟩ := h
  obtain ⟨a', b', c', rfl⟩ := g
  exact ⟨a', b', c', by rw [List.set_set]⟩
theorem Sip.cup {n : Nat} {μ μ1 : Mu} (h : Sip n μ μ1) (g : Cup n μ) : Cup n μ1 := by
  obtain ⟨a, b, c, rfl⟩ := h
  exact ⟨a, b, c, by rw [List.getElem?_set_self g.lt]⟩
theorem Sip.len {n : Nat} {μ μ1 : Mu} (h : Sip n μ μ1) : μ1.length = μ.length := by
  obtain ⟨a, b, c, rfl⟩ := h
  rw [List.length_set]
theorem Sip.app {n : Nat} {μ μ1 ν : Mu} (h : Sip n (μ ++ ν) μ1) (g : n < μ.length) : ∃ μ2, Sip n μ μ2 ∧ μ1 = μ2 ++ ν := by
  obtain ⟨a, b, c, rfl⟩ := h
  exact ⟨μ.set n (cupC a b c), ⟨a, b, c, rfl⟩, by rw [List.set_append_left _ _ g]⟩
theorem Cup.app {n : Nat} {μ : Mu} (h : Cup n μ) (ν : Mu) : Cup n (μ ++ ν) := by
  have hl := h.lt
  obtain ⟨a, b, c, e⟩ := h
  exact ⟨a, b, c, by rw [List.getElem?_append_left hl]; exact e⟩
theorem Sip.take {n k : Nat} {μ μ1 : Mu} (h : Sip n μ μ1) (hk : k = μ.length) : μ1.take k = μ1 := by
  rw [List.take_of_length_le (by rw [h.len, hk]; exact Nat.le_refl _)]
theorem ix_loc {n i : Nat} {m : Mu} {xs : List D} {x : D} (h : m[n]? = some (.lst xs)) (hx : xs[i]? = some x) : ixD (.loc n) (.int (i : Int)) m = .ok x m := by
  unfold ixD
  simp only [lstOf, h, ix_at i xs x hx]
theorem ix_lst {i : Nat} {m : Mu} {xs : List D} {x : D} (hx : xs[i]? = some x) : ixD (.lst xs) (.int (i : Int)) m = .ok x m := by
  unfold ixD
  simp only [lstOf, ix_at i xs x hx]
theorem set_cup {n : Nat} {m : Mu} {a b c v : Int} (h : m[n]? = some (cupC a b c)) : setD (.loc n) (.int 2) (.int v) m = .ok () (m.set n (cupC a b v)) ∧ setD (.loc n) (.int 1) (.int v) m = .ok () (m.set n (cupC a v c)) ∧ setD (.loc n) (.int 0) (.int v) m = .ok () (m.set n (cupC v b c)) := by
  unfold cupC at h
  refine ⟨?_, ?_, ?_⟩ <;>
  · unfold setD
    simp only [h]
    rfl
theorem exit_int {n : Nat} {b : Int} {m : Mu} : exitD n (.int b) m = .ok (.int b) (m.take n) := exit_in rfl
theorem sip_ok {n top : Nat} {μ : Mu} (h : Cup n μ) (h0 : 0 < top) (h1 : top < 1073741824) : ∃ (r : Nat) (μ' : Mu), F__law_sip [.loc n, .int top] μ = .ok (.int r) μ' ∧ r < top ∧ Sip n μ μ' := by
  have hl := h.lt
  obtain ⟨a, b, c, e⟩ := h
  have i0 : ∀ {a b c : Int} {m : Mu}, m[n]? = some (cupC a b c) → ixD (.loc n) (.int 0) m = .ok (.int a) m := fun h => ix_loc (i := 0) h rfl
  have i1 : ∀ {a b c : Int} {m : Mu}, m[n]? = some (cupC a b c) → ixD (.loc n) (.int 1) m = .ok (.int b) m := fun h => ix_loc (i := 1) h rfl
  have i2 : ∀ {a b c : Int} {m : Mu}, m[n]? = some (cupC a b c) → ixD (.loc n) (.int 2) m = .ok (.int c) m := fun h => ix_loc (i := 2) h rfl
  have gs : ∀ (x : Cell), (μ.set n x)[n]? = some x := fun x => List.getElem?_set_self hl
  have md : ∀ {i j : Int} {m : Mu}, 0 < j → modD (.int i) (.int j) m = .ok (.int (i % j)) m := fun hj => by
    unfold modD DS.intD
    simp only [decide_eq_true hj, if_true]
  have dv : ∀ {i : Int} {m : Mu}, divD (.int i) (.int 1024) m = .ok (.int (i / 1024)) m := fun {i m} => rfl
  have mu1 : ∀ {i : Int} {m : Mu}, mulD (.int i) (.int 48271) m = .ok (.int (i * 48271)) m := fun {i m} => by
    unfold mulD mulOk
    simp
  have mu2 : ∀ {i : Int} {m : Mu}, mulD (.int 6089) (.int i) m = .ok (.int (6089 * i)) m := fun {i m} => by
    unfold mulD mulOk
    simp
  have ii : ∀ {i : Int} {m : Mu}, intF [.int i] m = .ok (.int i) m := rfl
  have dm : ∀ {i : Int} {m : Mu}, dmF [.int i, .int top] m = .ok (.tup [.int (i / top), .int (i % top)]) m := fun {i m} => by
    unfold dmF
    simp only
    rw [if_pos (by omega)]
  by_cases ha : 0 < a
  · refine ⟨(a % top).toNat, μ.set n (cupC (a / top) b (c + 1)), ?_, ?_, ⟨_, _, _, rfl⟩⟩
    · have ht : ((a % (top : Int)).toNat : Int) = a % top := Int.toNat_of_nonneg (Int.emod_nonneg _ (by omega))
      simp only [F__law_sip, B__law_sip, fn_ap, rho0, List.map, List.replicate, List.length, Nat.reduceSub, Nat.reduceAdd, List.cons_append, List.nil_append, AP, AV, AB, LS, i2 e, OI, (set_cup e).1, i0 (gs _), decide_eq_true ha, if_true, dm, (set_cup (gs _)).2.2, List.set_set, Bool.false_eq_true, if_false, exit_int, ht]
      rw [List.take_of_length_le (by rw [List.length_set]; exact Nat.le_refl _)]
    · have := Int.emod_lt_of_pos a (show (0 : Int) < top by omega)
      have := Int.emod_nonneg a (show (top : Int) ≠ 0 by omega)
      omega
  · let b' := (b * 48271 + 6089 * (c + 1)) % 2147483477
    refine ⟨((b' / 1024) % top).toNat, μ.set n (cupC a b' (c + 1)), ?_, ?_, ⟨_, _, _, rfl⟩⟩
    · have ht : (((b' / 1024) % (top : Int)).toNat : Int) = (b' / 1024) % top := Int.toNat_of_nonneg (Int.emod_nonneg _ (by omega))
      simp only [F__law_sip, B__law_sip, fn_ap, rho0, List.map, List.replicate, List.length, Nat.reduceSub, Nat.reduceAdd, List.cons_append, List.nil_append, AP, AV, AB, LS, i2 e, OI, (set_cup e).1, i0 (gs _), decide_eq_false ha, if_true, i1 (gs _), i2 (gs _), mu1, mu2, ii, md (show (0 : Int) < 2147483477 by omega), (set_cup (gs _)).2.1, List.set_set, Bool.false_eq_true, if_false, exit_int, dv, md (show (0 : Int) < (top : Int) by omega), ht]
      rw [List.take_of_length_le (by rw [List.length_set]; exact Nat.le_refl _)]
    · have := Int.emod_lt_of_pos (b' / 1024) (show (0 : Int) < top by omega)
      have := Int.emod_nonneg (b' / 1024) (show (top : Int) ≠ 0 by omega)
      omega
theorem rng_get {lo : Int} {N k : Nat} (h : k < N) : (rngL lo N)[k]? = some (.int (lo + k)) := by
  unfold rngL
  rw [List.getElem?_map, List.getElem?_range h]
  rfl
theorem lc_rng {T : Type} {i n : Nat} {te : XE'} {r0 : Rho} (enc : T → D) (hin : ∀ t m, (enc t).inB m = true) (Q : Nat → T → Prop) {N : Nat} (hN : N ≤ sizeLine)
    (he : ∀ k < N, ∀ μ, Cup n μ → ∃ t μ', te (r0.set i (some (.int (k : Nat)))) μ = .ok (enc t) μ' ∧ Q k t ∧ Sip n μ μ') {μ : Mu} (h : Cup n μ) :
    ∃ (ts : List T) (μ' : Mu), lcD (gNm i) xYes te r0 (rngL 0 N) μ = .ok (.lst (ts.map enc)) μ' ∧ ts.length = N ∧ (∀ k t, ts[k]? = some t → Q k t) ∧ Sip n μ μ' := by
  have go : ∀ (j : Nat) (ts : List T) (ν : Mu), ts.length + j = N → Cup n ν → ν.length = μ.length → (∀ k t, ts[k]? = some t → Q k t) → ∃ (ts' : List T) (ν' : Mu), lcF (gNm i) xYes te μ.length r0 ((rngL 0 N).drop ts.length) (ν ++ [.lst (ts.map enc)]) = .ok () (ν' ++ [.lst (ts'.map enc)]) ∧ ts'.length = N ∧ (∀ k t, ts'[k]? = some t → Q k t) ∧ Sip n ν ν' := fun j => by
    induction j with
    | zero =>
      intro ts ν hl hc hln hq
      refine ⟨ts, ν, ?_, hl, hq, Sip.refl hc⟩
      rw [List.drop_of_length_le (by simp [rngL]; omega)]
      rfl
    | succ j ih =>
      intro ts ν hl hc hln hq
      have hk : ts.length < N := by omega
      obtain ⟨t, ν1, e1, q1, s1⟩ := he ts.length hk (ν ++ [.lst (ts.map enc)]) (hc.app _)
      obtain ⟨ν2, s2, rfl⟩ := s1.app hc.lt
      have hd : (rngL 0 N).drop ts.length = .int ((ts.length : Nat) : Int) :: (rngL 0 N).drop (ts.length + 1) := by
        have := rng_get (lo := 0) hk
        rw [List.drop_eq_getElem?_toList_append, this]
        simp
      have hp : pushD μ.length (enc t) (ν2 ++ [.lst (ts.map enc)]) = .ok () (ν2 ++ [.lst ((ts ++ [t]).map enc)]) := by
        have hl2 : ν2.length = μ.length := s2.len.trans hln
        unfold pushD
        rw [List.getElem?_append_right (by omega), ← hl2, Nat.sub_self]
        simp only [List.getElem?_cons_zero]
        rw [if_pos ⟨hin _ _, by rw [List.length_map]; omega⟩, List.set_append_right _ _ (Nat.le_refl _), Nat.sub_self]
        simp
      obtain ⟨ts', ν', e2, l2, q2, s3⟩ := ih (ts ++ [t]) ν2 (by rw [List.length_append, List.length_singleton]; omega) (s2.cup hc) (s2.len.trans hln) (fun k u hu => by
        by_cases hkk : k < ts.length
        · rw [List.getElem?_append_left hkk] at hu
          exact hq k u hu
        · rw [List.getElem?_append_right (by omega)] at hu
          have : k = ts.length := by
            by_cases e : k - ts.length = 0
            · omega
            · obtain ⟨z, ez⟩ := Nat.exists_eq_succ_of_ne_zero e
              rw [ez] at hu
              cases hu
          subst this
          rw [Nat.sub_self] at hu
          cases hu
          exact q1)
      refine ⟨ts', ν', ?_, l2, q2, s2.trans s3⟩
      rw [hd, lcF]
      simp only [gNm, Out.ne, Out.bind, xYes, if_true, e1, hp]
      rw [List.length_append, List.length_singleton] at e2
      exact e2
  obtain ⟨ts, ν, e, l, q, s⟩ := go N [] μ (by simp) h rfl (fun k t ht => by simp at ht)
  refine ⟨ts, ν, ?_, l, q, s⟩
  rw [List.length_nil, List.drop_zero, List.map_nil] at e
  unfold lcD
  rw [e]
  have hl2 : ν.length = μ.length := s.len
  simp [Out.bind, lcEnd, ← hl2]
end J.M

namespace J.M
open PySem PySem.Spec PyProof.Rows L2 DS
/-! ### drawn things -/
theorem md_ok {i j : Int} {m : Mu} (hj : 0 < j) : modD (.int i) (.int j) m = .ok (.int (i % j)) m := by
  unfold modD DS.intD
  simp only [decide_eq_true hj, if_true]
theorem mul_ok {i j : Int} {m : Mu} (h : -(2 ^ 64) < i ∧ i < 2 ^ 64) : mulD (.int i) (.int j) m = .ok (.int (i * j)) m := by
  unfold mulD mulOk
  simp only [decide_eq_true h, Bool.true_or, if_true]
theorem int_ok {i : Int} {m : Mu} : intF [.int i] m = .ok (.int i) m := rfl
theorem PAR : (∀ {i j : Nat} {a : XA} {r : Rho} {m : Mu}, sPar i j a r m = (a r m).stm r fun ds m1 => match ds with
  | [x, y] => .next ((r.set i (some x)).set j (some y)) m1
  | _ => .stuck) ∧ (∀ {i j l : Nat} {a : XA} {r : Rho} {m : Mu}, sPar3 i j l a r m = (a r m).stm r fun ds m1 => match ds with
  | [x, y, z] => .next (((r.set i (some x)).set j (some y)).set l (some z)) m1
  | _ => .stuck) := by
  refine ⟨?_, ?_⟩ <;> intros <;> rfl
theorem menu_ix {r : Nat} (h : r < 9) (m : Mu) : ixD (.lst [.str "join", .str "left", .str "on", .str "of", .str "a1", .str "a2", .str "plan", .str "call", .str "z9z9z9z9"]) (.int (r : Int)) m = .ok (nmD r) m := by
  refine ix_lst ?_
  have : r = 0 ∨ r = 1 ∨ r = 2 ∨ r = 3 ∨ r = 4 ∨ r = 5 ∨ r = 6 ∨ r = 7 ∨ r = 8 := by omega
  rcases this with rfl | rfl | rfl | rfl | rfl | rfl | rfl | rfl | rfl <;> rfl
theorem hop_ix {r : Nat} (h : r < 4) : ∃ f ∈ [1, 2, 4, 5], ∀ m, ixD (.lst [.int 1, .int 2, .int 4, .int 5]) (.int (r : Int)) m = .ok (.int ((f : Nat) : Int)) m := by
  have : r = 0 ∨ r = 1 ∨ r = 2 ∨ r = 3 := by omega
  rcases this with rfl | rfl | rfl | rfl
  · exact ⟨1, by decide, fun m => ix_lst rfl⟩
  · exact ⟨2, by decide, fun m => ix_lst rfl⟩
  · exact ⟨4, by decide, fun m => ix_lst rfl⟩
  · exact ⟨5, by decide, fun m => ix_lst rfl⟩
theorem side_ix {r : Nat} (h : r < 3) : ∃ s < 2, ∀ m, ixD (.lst [.str "left", .str "left", .str "right"]) (.int (r : Int)) m = .ok (.str (sideS s)) m := by
  have : r = 0 ∨ r = 1 ∨ r = 2 := by omega
  rcases this with rfl | rfl | rfl
  · exact ⟨0, by decide, fun m => ix_lst rfl⟩
  · exact ⟨0, by decide, fun m => ix_lst rfl⟩
  · exact ⟨1, by decide, fun m => ix_lst rfl⟩
theorem word_ix {r : Nat} (h : r < 5) : ∃ w < 3, ∀ m, ixD (.lst [.str "join", .str "join", .str "join", .str "take", .str "clear"]) (.int (r : Int)) m = .ok (.str (wordS w)) m := by
  have : r = 0 ∨ r = 1 ∨ r = 2 ∨ r = 3 ∨ r = 4 := by omega
  rcases this with rfl | rfl | rfl | rfl | rfl
  · exact ⟨0, by decide, fun m => ix_lst rfl⟩
  · exact ⟨0, by decide, fun m => ix_lst rfl⟩
  · exact ⟨0, by decide, fun m => ix_lst rfl⟩
  · exact ⟨1, by decide, fun m => ix_lst rfl⟩
  · exact ⟨2, by decide, fun m => ix_lst rfl⟩
theorem far_ix {r : Nat} (h : r < 6) : ∃ f, (0 < f ∧ f < 5) ∧ ∀ m, ixD (.lst [.int 1, .int 1, .int 2, .int 2, .int 3, .int 4]) (.int (r : Int)) m = .ok (.int ((f : Nat) : Int)) m := by
  have : r = 0 ∨ r = 1 ∨ r = 2 ∨ r = 3 ∨ r = 4 ∨ r = 5 := by omega
  rcases this with rfl | rfl | rfl | rfl | rfl | rfl
  · exact ⟨1, by decide, fun m => ix_lst rfl⟩
  · exact ⟨1, by decide, fun m => ix_lst rfl⟩
  · exact ⟨2, by decide, fun m => ix_lst rfl⟩
  · exact ⟨2, by decide, fun m => ix_lst rfl⟩
  · exact ⟨3, by decide, fun m => ix_lst rfl⟩
  · exact ⟨4, by decide, fun m => ix_lst rfl⟩
theorem step_ix {r : Nat} (h : r < 6) : ∃ f, (0 < f ∧ f < 4) ∧ ∀ m, ixD (.lst [.int 1, .int 1, .int 2, .int 2, .int 2, .int 3]) (.int (r : Int)) m = .ok (.int ((f : Nat) : Int)) m := by
  have : r = 0 ∨ r = 1 ∨ r = 2 ∨ r = 3 ∨ r = 4 ∨ r = 5 := by omega
  rcases this with rfl | rfl | rfl | rfl | rfl | rfl
  · exact ⟨1, by decide, fun m => ix_lst rfl⟩
  · exact ⟨1, by decide, fun m => ix_lst rfl⟩
  · exact ⟨2, by decide, fun m => ix_lst rfl⟩
  · exact ⟨2, by decide, fun m => ix_lst rfl⟩
  · exact ⟨2, by decide, fun m => ix_lst rfl⟩
  · exact ⟨3, by decide, fun m => ix_lst rfl⟩
theorem label_ix {ls : List Nat} {r x : Nat} (h : ls[r]? = some x) (m : Mu) : ixD (.lst (ls.map nmD)) (.int (r : Int)) m = .ok (nmD x) m :=
  ix_lst (by rw [List.getElem?_map, h]; rfl)
theorem hops : ∀ b < 9, ∀ f ∈ [1, 2, 4, 5], ((List.range 9).map fun k => (b + f * k) % 9).Nodup := by decide
theorem labels_ok {n span : Nat} {μ : Mu} (h : Cup n μ) (hs : span ≤ 9) : ∃ (ls : List Nat) (μ' : Mu), F__law_labels [.loc n, .int span] μ = .ok (.lst (ls.map nmD)) μ' ∧ ls.length = span ∧ (∀ x ∈ ls, x < 9) ∧ ls.Nodup ∧ Sip n μ μ' := by
  obtain ⟨b, μ1, e1, hb, s1⟩ := sip_ok (top := 9) h (by decide) (by decide)
  obtain ⟨q, μ2, e2, hq, s2⟩ := sip_ok (top := 4) (s1.cup h) (by decide) (by decide)
  obtain ⟨f, hf, e3⟩ := hop_ix hq
  have s := s1.trans s2
  have hf5 : f < 6 := by
    simp only [List.mem_cons, List.not_mem_nil, or_false] at hf
    omega
  change F__law_sip [.loc n, .int 9] μ = _ at e1
  change F__law_sip [.loc n, .int 4] μ1 = _ at e2
  refine ⟨(List.range span).map fun k => (b + f * k) % 9, μ2, ?_, by simp, fun x hx => ?_, ?_, s⟩
  · have e4 : ∀ (v : D), lcD (gNm 5) xYes (xOp ixD (xVar 4) (xOp modD (xCall intF (xaCons (xOp addD (xVar 2) (xOp mulD (xVar 3) (xVar 5))) xaNil)) (xC (.int 9)))) [some (.loc n), some (.int span), some (.int b), some (.int f), some (.lst [.str "join", .str "left", .str "on", .str "of", .str "a1", .str "a2", .str "plan", .str "call", .str "z9z9z9z9"]), none] (rngL 0 span) μ2 = .ok (.lst (((List.range span).map fun k => (b + f * k) % 9).map nmD)) μ2 := fun _ => by
      rw [List.map_map]
      refine lc_map (fun (i : Nat) => .int (0 + (i : Int))) _ (fun k hk acc => ?_) (fun _ _ => rfl) (by rw [List.length_range]; exact Nat.le_trans hs (by decide))
      have hz : ((b : Int) + (f : Int) * (0 + (k : Int))) % 9 = (((b + f * k) % 9 : Nat) : Int) := by
        rw [Int.zero_add]
        omega
      simp only [AP, AV, AB, LS, mul_ok (show -(2 ^ 64) < (f : Int) ∧ (f : Int) < 2 ^ 64 by omega), OI, int_ok, md_ok (show (0 : Int) < 9 by decide), hz, menu_ix (Nat.mod_lt _ (show 0 < 9 by decide))]
      rfl
    have hr : rngD1 [.int (span : Int)] μ2 = .ok (rngL 0 span) μ2 := by
      unfold rngD1
      simp only
      rw [if_pos (by omega), Int.toNat_natCast]
    have hx : exitD μ.length (.lst (((List.range span).map fun k => (b + f * k) % 9).map nmD)) μ2 = .ok (.lst (((List.range span).map fun k => (b + f * k) % 9).map nmD)) μ2 := by
      rw [exit_in (by rw [D.inB]; exact inL_map _ _ _ fun _ _ => rfl), s.take rfl]
    simp only [F__law_labels, B__law_labels, fn_ap, rho0, List.map, List.replicate, List.length, Nat.reduceSub, Nat.reduceAdd, List.cons_append, List.nil_append, AP, AV, AB, LS, wipeR, e1, e2, e3, if_true, hr, e4 .non, Bool.false_eq_true, if_false, hx]
  · obtain ⟨k, _, rfl⟩ := List.mem_map.mp hx
    exact Nat.mod_lt _ (by decide)
  · have q := hops b hb f hf
    have e : (List.range span).map (fun k => (b + f * k) % 9) = ((List.range 9).map fun k => (b + f * k) % 9).take span := by
      rw [← List.map_take, List.take_range, Nat.min_eq_left hs]
    rw [e]
    exact q.sublist (List.take_sublist _ _)
structure CGood (ls : List Nat) (at_ rs st : Nat) (calls : Bool) (c : Cl) : Prop where
  ok : c.Ok
  rest : c.rest = rs
  step : c.step = st
  call : c.w = 3 ↔ calls = true
  goal : calls = true → c.goal ∈ ls ∧ (st = 1 → ls[at_ + 1]? = some c.goal)
theorem clause_ok {n at_ rest step : Nat} {ls : List Nat} {calls : Bool} {μ : Mu} (h : Cup n μ) (hls : ∀ x ∈ ls, x < 9) (hl0 : 0 < ls.length) (hl : ls.length ≤ 9) (hr : rest < step) (hst : step < 4) (ha : calls = true → step = 1 → at_ + 1 < ls.length) :
    ∃ (c : Cl) (μ' : Mu), F__law_clause [.loc n, .lst (ls.map nmD), .int at_, .int rest, .int step, .bl calls] μ = .ok c.dat μ' ∧ CGood ls at_ rest step calls c ∧ Sip n μ μ' := by
  obtain ⟨w, μ1, e1, hw, s1⟩ := sip_ok (top := 5) h (by decide) (by decide)
  obtain ⟨q, μ2, e2, hq, s2⟩ := sip_ok (top := 3) (s1.cup h) (by decide) (by decide)
  obtain ⟨sd, hsd, e3⟩ := side_ix hq
  have s12 := s1.trans s2
  change F__law_sip [.loc n, .int 5] μ = _ at e1
  change F__law_sip [.loc n, .int 3] μ1 = _ at e2
  have lg : ∀ m, lenD [.lst (ls.map nmD)] m = .ok (.int (ls.length : Nat)) m := fun m => by
    show Out.ok (D.int ((ls.map nmD).length : Nat)) m = _
    rw [List.length_map]
  cases calls with
  | true =>
    have fin : ∀ (g : Nat) (μ3 : Mu), Sip n μ μ3 → g ∈ ls → (step = 1 → ls[at_ + 1]? = some g) → (∃ (c : Cl), exitD μ.length (.tup [.str "call", .int rest, .int step, .str "", .int 0, nmD g]) μ3 = .ok c.dat μ3 ∧ CGood ls at_ rest step true c) := fun g μ3 s3 hg h1 => by
      refine ⟨⟨3, rest, step, 0, 1, g⟩, ?_, ⟨⟨show 3 < 4 by decide, hr, hst, show 0 < 2 by decide, show 0 < 1 by decide, show 1 < 5 by decide, hls g hg⟩, rfl, rfl, by simp, fun _ => ⟨hg, h1⟩⟩⟩
      rw [exit_in rfl, s3.take rfl]
      rfl
    by_cases h1 : 1 < step
    · obtain ⟨k, μ3, e4, hk, s3⟩ := sip_ok (top := ls.length) (s2.cup (s1.cup h)) hl0 (by omega)
      obtain ⟨g, hg⟩ : ∃ g, ls[k]? = some g := ⟨ls[k], List.getElem?_eq_getElem hk⟩
      obtain ⟨c, f1, f2⟩ := fin g μ3 (s12.trans s3) (List.mem_of_getElem? hg) (by omega)
      refine ⟨c, μ3, ?_, f2, s12.trans s3⟩
      simp only [F__law_clause, B__law_clause, fn_ap, rho0, List.map, List.replicate, List.length, Nat.reduceSub, Nat.reduceAdd, List.cons_append, List.nil_append, AP, PAR, AV, AB, LS, e1, e2, e3, if_true, OI, decide_eq_true (show (1 : Int) < (step : Int) by omega), lg, e4, label_ix hg, Bool.false_eq_true, if_false]
      exact f1
    · have hs1 : step = 1 := by omega
      have hlt := ha rfl hs1
      obtain ⟨g, hg⟩ : ∃ g, ls[at_ + 1]? = some g := ⟨ls[at_ + 1], List.getElem?_eq_getElem hlt⟩
      obtain ⟨c, f1, f2⟩ := fin g μ2 s12 (List.mem_of_getElem? hg) (fun _ => hg)
      refine ⟨c, μ2, ?_, f2, s12⟩
      have e5 := label_ix hg μ2
      rw [show ((at_ + 1 : Nat) : Int) = (at_ : Int) + 1 by omega] at e5
      simp only [F__law_clause, B__law_clause, fn_ap, rho0, List.map, List.replicate, List.length, Nat.reduceSub, Nat.reduceAdd, List.cons_append, List.nil_append, AP, PAR, AV, AB, LS, e1, e2, e3, if_true, OI, decide_eq_false (show ¬ (1 : Int) < (step : Int) by omega), e5, Bool.false_eq_true, if_false]
      exact f1
  | false =>
    obtain ⟨k, μ3, e4, hk, s3⟩ := sip_ok (top := 6) (s2.cup (s1.cup h)) (by decide) (by decide)
    obtain ⟨wd, hwd, e5⟩ := word_ix hw
    obtain ⟨f, hf, e6⟩ := far_ix hk
    change F__law_sip [.loc n, .int 6] μ2 = _ at e4
    refine ⟨⟨wd, rest, step, sd, f, 0⟩, μ3, ?_, ⟨⟨by show wd < 4; omega, hr, hst, hsd, hf.1, hf.2, show 0 < 9 by decide⟩, rfl, rfl, by simp; omega, by simp⟩, s12.trans s3⟩
    have hx : exitD μ.length (.tup [.str (wordS wd), .int rest, .int step, .str (sideS sd), .int f, .str ""]) μ3 = .ok (.tup [.str (wordS wd), .int rest, .int step, .str (sideS sd), .int f, .str ""]) μ3 := by
      rw [exit_in rfl, (s12.trans s3).take rfl]
    simp only [F__law_clause, B__law_clause, fn_ap, rho0, List.map, List.replicate, List.length, Nat.reduceSub, Nat.reduceAdd, List.cons_append, List.nil_append, AP, PAR, AV, AB, LS, e1, e2, e3, if_true, OI, e4, e5, e6, Bool.false_eq_true, if_false, hx, Cl.dat, show wd ≠ 3 by omega]
theorem rng1_ok {k : Nat} (h : k < 2 ^ 62) (m : Mu) : rngD1 [.int (k : Int)] m = .ok (rngL 0 k) m := by
  unfold rngD1
  simp only
  rw [if_pos (by omega), Int.toNat_natCast]
theorem min_ok (a b : Nat) (m : Mu) : minF [.int a, .int b] m = .ok (.int ((min a b : Nat) : Int)) m := by
  show Out.ok (D.int (if (b : Int) < a then (b : Int) else a)) m = _
  congr 2
  split <;> omega
structure RGood (ls : List Nat) (at_ : Nat) (r : List Cl) : Prop where
  ok : ROk r
  calls : Calls ls (ls.take (at_ + 1)) r
theorem mod_ne {a k j s : Nat} (hk : k < s) (hj : j < k) : (a + k) % s ≠ (a + j) % s := fun e => by
  have h1 := Nat.div_add_mod (a + k) s
  have h2 := Nat.div_add_mod (a + j) s
  rw [e] at h1
  have h3 : s * ((a + k) / s) = s * ((a + j) / s) + (k - j) := by omega
  have h4 : s ∣ (k - j) := by
    refine (Nat.dvd_add_right (Nat.dvd_mul_right s ((a + j) / s))).mp ?_
    rw [← h3]
    exact Nat.dvd_mul_right _ _
  have := Nat.le_of_dvd (by omega) h4
  omega
theorem round_ok {n at_ : Nat} {ls : List Nat} {μ : Mu} (h : Cup n μ) (hls : ∀ x ∈ ls, x < 9) (hnd : ls.Nodup) (hl : ls.length ≤ 9) (hat : at_ < ls.length) :
    ∃ (r : List Cl) (μ' : Mu), F__law_round [.loc n, .lst (ls.map nmD), .int at_] μ = .ok (.lst (r.map Cl.dat)) μ' ∧ RGood ls at_ r ∧ Sip n μ μ' := by
  obtain ⟨q0, μ1, e1, h1, s1⟩ := sip_ok (top := 4) h (by decide) (by decide)
  obtain ⟨q1, μ2, e2, h2, s2⟩ := sip_ok (top := 6) (s1.cup h) (by decide) (by decide)
  obtain ⟨st, hst, e3⟩ := step_ix h2
  obtain ⟨rs, μ3, e4, h4, s3⟩ := sip_ok (top := st) (s2.cup (s1.cup h)) hst.1 (by omega)
  obtain ⟨q3, μ4, e5, h5, s4⟩ := sip_ok (top := 3) (s3.cup (s2.cup (s1.cup h))) (by decide) (by decide)
  have s14 := ((s1.trans s2).trans s3).trans s4
  change F__law_sip [.loc n, .int 4] μ = _ at e1
  change F__law_sip [.loc n, .int 6] μ1 = _ at e2
  change F__law_sip [.loc n, .int 3] μ3 = _ at e5
  let calls : Bool := ((q0 : Int) == 0)
  let st' : Nat := if calls = true ∧ st = 1 ∧ ls.length ≤ at_ + 1 then 2 else st
  have hst' : 0 < st' ∧ st' < 4 := by
    show 0 < (if _ then 2 else st) ∧ (if _ then 2 else st) < 4
    split <;> omega
  have hca : calls = true → st' = 1 → at_ + 1 < ls.length := fun hc h1 => by
    by_cases hh : calls = true ∧ st = 1 ∧ ls.length ≤ at_ + 1
    · have : st' = 2 := if_pos hh
      omega
    · have e : st' = st := if_neg hh
      rw [e] at h1
      exact Nat.lt_of_not_le fun z => hh ⟨hc, h1, z⟩
  let N : Nat := min (1 + q3) st'
  have hN : N ≤ 3 := Nat.le_trans (Nat.min_le_right _ _) (by omega)
  have hN0 : 0 < N := by
    show 0 < min (1 + q3) st'
    omega
  have hNs : N ≤ st' := Nat.min_le_right _ _
  obtain ⟨r, μ5, e6, l6, q6, s5⟩ := lc_rng (i := 7) (te := xCall F__law_clause (xaCons (xVar 0) (xaCons (xVar 1) (xaCons (xVar 2) (xaCons (xOp modD (xCall intF (xaCons (xOp addD (xVar 5) (xVar 7)) xaNil)) (xVar 4)) (xaCons (xVar 4) (xaCons (xVar 3) xaNil)))))))
    (r0 := [some (.loc n), some (.lst (ls.map nmD)), some (.int at_), some (.bl calls), some (.int st'), some (.int rs), some (.int N), none]) Cl.dat (fun c m => c.dat_in m) (fun k c => CGood ls at_ ((rs + k) % st') st' calls c) (N := N) (Nat.le_trans hN (by decide)) (fun k hk ν hν => by
      obtain ⟨c, ν', e, g, s⟩ := clause_ok (at_ := at_) (rest := (rs + k) % st') (step := st') (calls := calls) hν hls (by omega) hl (Nat.mod_lt _ hst'.1) hst'.2 hca
      refine ⟨c, ν', ?_, g, s⟩
      have hz : ((rs : Int) + (k : Int)) % (st' : Int) = (((rs + k) % st' : Nat) : Int) := by
        rw [Int.natCast_emod]
        rfl
      simp only [AP, AV, AB, LS, OI, int_ok, md_ok (show (0 : Int) < (st' : Int) by omega), hz]
      exact e) (s4.cup (s3.cup (s2.cup (s1.cup h))))
  have hR : RGood ls at_ r := by
    refine ⟨⟨by omega, by omega, fun c hc => ?_, ?_, ?_⟩, fun c hc hw => ?_⟩
    · obtain ⟨k, hk⟩ := List.getElem?_of_mem hc
      exact (q6 k c hk).ok
    · cases hcc : calls with
      | true =>
        refine .inl fun c hc => ?_
        obtain ⟨k, hk⟩ := List.getElem?_of_mem hc
        exact (q6 k c hk).call.mpr hcc
      | false =>
        refine .inr fun c hc hw => ?_
        obtain ⟨k, hk⟩ := List.getElem?_of_mem hc
        have := (q6 k c hk).call.mp hw
        rw [hcc] at this
        cases this
    · rw [List.pairwise_iff_getElem]
      intro i j hi hj hij
      have g1 := q6 i _ (List.getElem?_eq_getElem hi)
      have g2 := q6 j _ (List.getElem?_eq_getElem hj)
      refine ⟨by rw [g1.step, g2.step], ?_⟩
      rw [g1.rest, g2.rest]
      exact mod_ne (by omega) hij
    · obtain ⟨k, hk⟩ := List.getElem?_of_mem hc
      have g := q6 k c hk
      have gg := g.goal (g.call.mp hw)
      refine ⟨gg.1, fun h1 hm => ?_⟩
      rw [g.step] at h1
      have ga := gg.2 h1
      obtain ⟨j, hj⟩ := List.getElem?_of_mem hm
      rw [List.getElem?_take] at hj
      split at hj
      · rename_i hji
        obtain ⟨l1, a1⟩ := List.getElem?_eq_some_iff.mp hj
        obtain ⟨l2, a2⟩ := List.getElem?_eq_some_iff.mp ga
        exact List.pairwise_iff_getElem.mp hnd j (at_ + 1) l1 l2 hji (a1.trans a2.symm)
      · cases hj
  refine ⟨r, μ5, ?_, hR, s14.trans s5⟩
  have hx : exitD μ.length (.lst (r.map Cl.dat)) μ5 = .ok (.lst (r.map Cl.dat)) μ5 := by
    rw [exit_in (by rw [D.inB]; exact inL_map _ _ _ fun c _ => c.dat_in _), (s14.trans s5).take rfl]
  have lg : ∀ m, lenD [.lst (ls.map nmD)] m = .ok (.int (ls.length : Nat)) m := fun m => by
    show Out.ok (D.int ((ls.map nmD).length : Nat)) m = _
    rw [List.length_map]
  have hm : ∀ m, minF [.int (1 + (q3 : Int)), .int st'] m = .ok (.int (N : Int)) m := fun m => by
    have := min_ok (1 + q3) st' m
    rw [show ((1 + q3 : Nat) : Int) = 1 + (q3 : Int) by omega] at this
    exact this
  have hi : (sIf (xAndT (xTest (xVar 3)) (xAndT (xTest (xOp eqD (xVar 4) (xC (.int 1)))) (xTest (xOp geD (xOp addD (xVar 2) (xC (.int 1))) (xCall lenD (xaCons (xVar 1) xaNil)))))) (sAsg (xC (.int 2)) (gNm 4)) sNil) [some (.loc n), some (.lst (ls.map nmD)), some (.int at_), some (.bl calls), some (.int st), some (.int rs), some (.int (1 + (q3 : Int))), none] μ4 = .next [some (.loc n), some (.lst (ls.map nmD)), some (.int at_), some (.bl calls), some (.int st'), some (.int rs), some (.int (1 + (q3 : Int))), none] μ4 := by
    simp only [AP, AV, AB, LS, EQ, OI, lg]
    by_cases c1 : calls = true
    · by_cases c2 : st = 1
      · have c2' : ((st : Int) == 1) = true := by simp; omega
        by_cases c3 : ls.length ≤ at_ + 1
        · have : st' = 2 := if_pos ⟨c1, c2, c3⟩
          rw [this]
          simp only [c1, c2', if_true, decide_eq_true (show ((ls.length : Nat) : Int) ≤ (at_ : Int) + 1 by omega), AB]
          rfl
        · have : st' = st := if_neg fun z => c3 z.2.2
          rw [this]
          simp only [c1, c2', if_true, decide_eq_false (show ¬ ((ls.length : Nat) : Int) ≤ (at_ : Int) + 1 by omega), AB, Bool.false_eq_true, if_false]
      · have c2' : ((st : Int) == 1) = false := by simp; omega
        have : st' = st := if_neg fun z => c2 z.2.1
        rw [this]
        simp only [c1, c2', if_true, AB, Bool.false_eq_true, if_false]
    · have : st' = st := if_neg fun z => c1 z.1
      rw [this]
      simp only [c1, AB, Bool.false_eq_true, if_false]
  have e1' : eqD (.int (q0 : Int)) (.int 0) μ1 = .ok (.bl calls) μ1 := rfl
  unfold F__law_round B__law_round
  rw [fn_ap]
  have seq : ∀ {f g : XS} {r r' : Rho} {m m' : Mu}, f r m = .next r' m' → sSeq f g r m = g r' m' := fun {f g r r' m m'} e => by
    show (match f r m with
      | .next r' m' => g r' m'
      | o => o) = _
    rw [e]
  have f1 : sAsg (xTup (xaCons (xOp eqD (xCall F__law_sip (xaCons (xVar 0) (xaCons (xC (.int 4)) xaNil))) (xC (.int 0))) (xaCons (xOp ixD (xLst (xaCons (xC (.int 1)) (xaCons (xC (.int 1)) (xaCons (xC (.int 2)) (xaCons (xC (.int 2)) (xaCons (xC (.int 2)) (xaCons (xC (.int 3)) xaNil))))))) (xCall F__law_sip (xaCons (xVar 0) (xaCons (xC (.int 6)) xaNil)))) xaNil))) (gTp 2 (gsCons (gNm 3) (gsCons (gNm 4) gsNil))) (rho0 8 [.loc n, .lst (ls.map nmD), .int at_]) μ = .next [some (.loc n), some (.lst (ls.map nmD)), some (.int at_), some (.bl calls), some (.int st), none, none, none] μ2 := by
    simp only [rho0, List.map, List.replicate, List.length, Nat.reduceSub, Nat.reduceAdd, List.cons_append, List.nil_append, AP, AV, AB, LS, e1, e1', e2, e3, if_true]
  have f2 : sAsg (xTup (xaCons (xCall F__law_sip (xaCons (xVar 0) (xaCons (xVar 4) xaNil))) (xaCons (xOp addD (xC (.int 1)) (xCall F__law_sip (xaCons (xVar 0) (xaCons (xC (.int 3)) xaNil)))) xaNil))) (gTp 2 (gsCons (gNm 5) (gsCons (gNm 6) gsNil))) [some (.loc n), some (.lst (ls.map nmD)), some (.int at_), some (.bl calls), some (.int st), none, none, none] μ2 = .next [some (.loc n), some (.lst (ls.map nmD)), some (.int at_), some (.bl calls), some (.int st), some (.int rs), some (.int (1 + (q3 : Int))), none] μ4 := by
    simp only [AP, AV, AB, LS, e4, e5, OI, List.length, Nat.reduceAdd, if_true]
  rw [seq f1, seq f2, seq hi]
  simp only [AP, AV, AB, LS, hm, wipeR, rng1_ok (show N < 2 ^ 62 by omega), e6, Bool.false_eq_true, if_false, hx]
theorem goalw_ix {r : Nat} (h : r < 4) : (∀ m, ixD (.lst [.str "all", .str "all", .str "before", .str "last"]) (.int (r : Int)) m = .ok (.str "all") m) ∨ (∀ m, ixD (.lst [.str "all", .str "all", .str "before", .str "last"]) (.int (r : Int)) m = .ok (.str "before") m) ∨ (∀ m, ixD (.lst [.str "all", .str "all", .str "before", .str "last"]) (.int (r : Int)) m = .ok (.str "last") m) := by
  have : r = 0 ∨ r = 1 ∨ r = 2 ∨ r = 3 := by omega
  rcases this with rfl | rfl | rfl | rfl
  · exact .inl fun m => ix_lst rfl
  · exact .inl fun m => ix_lst rfl
  · exact .inr (.inl fun m => ix_lst rfl)
  · exact .inr (.inr fun m => ix_lst rfl)
theorem goal_ok {n : Nat} {μ : Mu} (h : Cup n μ) : ∃ (g : Gl) (μ' : Mu), F__law_goal [.loc n] μ = .ok g.dat μ' ∧ g.Ok ∧ Sip n μ μ' := by
  obtain ⟨q, μ1, e1, h1, s1⟩ := sip_ok (top := 4) h (by decide) (by decide)
  change F__law_sip [.loc n, .int 4] μ = _ at e1
  have k1 : ∀ m, eqD (.str "all") (.str "last") m = .ok (.bl false) m := fun m => rfl
  have k2 : ∀ m, eqD (.str "before") (.str "last") m = .ok (.bl false) m := fun m => rfl
  have k3 : ∀ m, eqD (.str "last") (.str "last") m = .ok (.bl true) m := fun m => rfl
  rcases goalw_ix h1 with e2 | e2 | e2
  · refine ⟨.all, μ1, ?_, trivial, s1⟩
    simp only [F__law_goal, B__law_goal, fn_ap, rho0, List.map, List.replicate, List.length, Nat.reduceSub, Nat.reduceAdd, List.cons_append, List.nil_append, AP, AV, AB, LS, e1, e2, k1, Bool.false_eq_true, if_false]
    rw [exit_in rfl, s1.take rfl]
    rfl
  · refine ⟨.before, μ1, ?_, trivial, s1⟩
    simp only [F__law_goal, B__law_goal, fn_ap, rho0, List.map, List.replicate, List.length, Nat.reduceSub, Nat.reduceAdd, List.cons_append, List.nil_append, AP, AV, AB, LS, e1, e2, k2, Bool.false_eq_true, if_false]
    rw [exit_in rfl, s1.take rfl]
    rfl
  · obtain ⟨q2, μ2, e3, h3, s2⟩ := sip_ok (top := 4) (s1.cup h) (by decide) (by decide)
    change F__law_sip [.loc n, .int 4] μ1 = _ at e3
    refine ⟨.last (1 + q2), μ2, ?_, ⟨by omega, by omega⟩, s1.trans s2⟩
    simp only [F__law_goal, B__law_goal, fn_ap, rho0, List.map, List.replicate, List.length, Nat.reduceSub, Nat.reduceAdd, List.cons_append, List.nil_append, AP, AV, AB, LS, e1, e2, e3, k3, OI, if_true, Bool.false_eq_true, if_false]
    rw [exit_in rfl, (s1.trans s2).take rfl]
    show Out.ok (D.tup [_, D.int (1 + (q2 : Int))]) _ = Out.ok (D.tup [_, D.int ((1 + q2 : Nat) : Int)]) _
    rw [show ((1 + q2 : Nat) : Int) = 1 + (q2 : Int) by omega]
structure PGood (ls : List Nat) (at_ : Nat) (p : Pl) : Prop where
  ok : p.Ok
  nm : ls[at_]? = some p.nm
  calls : ∀ r ∈ p.rounds, Calls ls (ls.take (at_ + 1)) r
def jn (rest step far : Nat) : Cl := ⟨0, rest, step, 0, far, 0⟩
def cl (rest step goal : Nat) : Cl := ⟨3, rest, step, 0, 1, goal⟩
theorem jn_ok {rest step far : Nat} (h1 : rest < step) (h2 : step < 4) (h3 : 0 < far) (h4 : far < 5) : (jn rest step far).Ok := ⟨show 0 < 4 by decide, h1, h2, show 0 < 2 by decide, h3, h4, show 0 < 9 by decide⟩
theorem cl_ok {rest step g : Nat} (h1 : rest < step) (h2 : step < 4) (h3 : g < 9) : (cl rest step g).Ok := ⟨show 3 < 4 by decide, h1, h2, show 0 < 2 by decide, show 0 < 1 by decide, show 1 < 5 by decide, h3⟩
theorem one_ok {c : Cl} (h : c.Ok) : ROk [c] := ⟨show 0 < 1 by decide, show 1 ≤ 3 by decide, fun x hx => by rw [List.mem_singleton.mp hx]; exact h, by
  by_cases e : c.w = 3
  · exact .inl fun x hx => by rw [List.mem_singleton.mp hx]; exact e
  · exact .inr fun x hx => by rw [List.mem_singleton.mp hx]; exact e, List.pairwise_singleton _ _⟩
theorem no_calls {ls above : List Nat} {r : List Cl} (h : ∀ c ∈ r, c.w ≠ 3) : Calls ls above r := fun c hc hw => absurd hw (h c hc)
end J.M

namespace J.M
open PySem PySem.Spec PyProof.Rows L2 DS
/-! # MT: ME's drawn books, and what kind of plan each of their plans is -/
/-- a plan that is known to be right, if those that it calls are -/
def GoodP (p : Pl) : Prop := (p.goal = .last 2 ∧ p.rounds = [[jn 0 1 1]]) ∨ (p.goal = .last 4 ∧ p.rounds = [[jn 0 1 1], [jn 0 1 2]]) ∨ (p.goal = .all ∧ p.rounds = [[jn 1 2 1], [cl 1 2 p.nm], [jn 0 2 1]]) ∨ (p.goal = .all ∧ p.rounds = [[jn 1 3 1], [jn 2 3 1], [cl 2 3 p.nm], [jn 0 3 1, jn 1 3 2]])
structure PGoodT (most : Nat) (ls : List Nat) (at_ : Nat) (p : Pl) : Prop where
  ok : p.Ok
  nm : ls[at_]? = some p.nm
  calls : ∀ r ∈ p.rounds, Calls ls (ls.take (at_ + 1)) r
  few : p.rounds.length ≤ most ∨ GoodP p
theorem plan_okT {n at_ most : Nat} {ls : List Nat} {μ : Mu} (h : Cup n μ) (hls : ∀ x ∈ ls, x < 9) (hnd : ls.Nodup) (hl : ls.length ≤ 9) (hat : at_ < ls.length) (hm0 : 0 < most) (hm : most ≤ 5) :
    ∃ (p : Pl) (μ' : Mu), F__law_plan [.loc n, .lst (ls.map nmD), .int at_, .int most] μ = .ok p.dat μ' ∧ PGoodT most ls at_ p ∧ Sip n μ μ' := by
  obtain ⟨g, μ1, e1, h1, s1⟩ := goal_ok h
  obtain ⟨b, μ2, e2, h2, s2⟩ := sip_ok (top := 4) (s1.cup h) (by decide) (by decide)
  obtain ⟨k, μ3, e3, h3, s3⟩ := sip_ok (top := most) (s2.cup (s1.cup h)) hm0 (by omega)
  change F__law_sip [.loc n, .int 4] μ1 = _ at e2
  have s13 := (s1.trans s2).trans s3
  obtain ⟨x, hx⟩ : ∃ x, ls[at_]? = some x := ⟨ls[at_], List.getElem?_eq_getElem hat⟩
  obtain ⟨rs, μ4, e4, l4, q4, s4⟩ := lc_rng (i := 7) (te := xCall F__law_round (xaCons (xVar 0) (xaCons (xVar 1) (xaCons (xVar 2) xaNil))))
    (r0 := [some (.loc n), some (.lst (ls.map nmD)), some (.int at_), some (.int most), some g.dat, some (.int (1 + (b : Int))), some (.int (1 + (k : Int))), none]) (fun r : List Cl => .lst (r.map Cl.dat)) (fun c m => by rw [D.inB]; exact inL_map _ _ _ fun c _ => c.dat_in _) (fun _ r => RGood ls at_ r) (N := 1 + k) (Nat.le_trans (show 1 + k ≤ 6 by omega) (by decide)) (fun j _ ν hν => by
      obtain ⟨r, ν', e, g, s⟩ := round_ok hν hls hnd hl hat
      refine ⟨r, ν', ?_, g, s⟩
      simp only [AP, AV, AB, LS]
      exact e) (s3.cup (s2.cup (s1.cup h)))
  have mem : ∀ r ∈ rs, RGood ls at_ r := fun r hr => by
    obtain ⟨j, hj⟩ := List.getElem?_of_mem hr
    exact q4 j r hj
  refine ⟨⟨x, g, 1 + b, rs⟩, μ4, ?_, ⟨⟨hls x (List.mem_of_getElem? hx), h1, show 1 ≤ 1 + b by omega, show 1 + b ≤ 4 by omega, show 0 < rs.length by omega, show rs.length ≤ 5 by omega, fun r hr => (mem r hr).ok⟩, hx, fun r hr => (mem r hr).calls, .inl (show rs.length ≤ most by omega)⟩, s13.trans s4⟩
  have hx2 : exitD μ.length (⟨x, g, 1 + b, rs⟩ : Pl).dat μ4 = .ok (⟨x, g, 1 + b, rs⟩ : Pl).dat μ4 := by
    rw [exit_in (Pl.dat_in _ _), (s13.trans s4).take rfl]
  have hr := rng1_ok (show 1 + k < 2 ^ 62 by omega) μ3
  rw [show ((1 + k : Nat) : Int) = 1 + (k : Int) by omega] at hr
  have hd : (⟨x, g, 1 + b, rs⟩ : Pl).dat = .lst [nmD x, g.dat, .int (1 + (b : Int)), .lst (rs.map fun r => .lst (r.map Cl.dat))] := by
    show D.lst [_, _, D.int ((1 + b : Nat) : Int), _] = _
    rw [show ((1 + b : Nat) : Int) = 1 + (b : Int) by omega]
    rfl
  rw [hd] at hx2 ⊢
  simp only [F__law_plan, B__law_plan, fn_ap, rho0, List.map, List.replicate, List.length, Nat.reduceSub, Nat.reduceAdd, List.cons_append, List.nil_append, AP, PAR, AV, AB, LS, e1, e2, e3, OI, label_ix hx, wipeR, hr, e4, Bool.false_eq_true, if_false, hx2]
theorem good_okT {n at_ most : Nat} {ls : List Nat} {μ : Mu} (h : Cup n μ) (hls : ∀ x ∈ ls, x < 9) (hat : at_ < ls.length) :
    ∃ (p : Pl) (μ' : Mu), F__law_good [.loc n, .lst (ls.map nmD), .int at_] μ = .ok p.dat μ' ∧ PGoodT most ls at_ p ∧ Sip n μ μ' := by
  obtain ⟨b, μ1, e1, h1, s1⟩ := sip_ok (top := 3) h (by decide) (by decide)
  obtain ⟨k, μ2, e2, h2, s2⟩ := sip_ok (top := 4) (s1.cup h) (by decide) (by decide)
  change F__law_sip [.loc n, .int 3] μ = _ at e1
  change F__law_sip [.loc n, .int 4] μ1 = _ at e2
  have s := s1.trans s2
  obtain ⟨x, hx⟩ : ∃ x, ls[at_]? = some x := ⟨ls[at_], List.getElem?_eq_getElem hat⟩
  have hxm := List.mem_of_getElem? hx
  have hx9 := hls x hxm
  have fin : ∀ (g : Gl) (rs : List (List Cl)), g.Ok → 0 < rs.length → rs.length ≤ 5 → (∀ r ∈ rs, ROk r ∧ Calls ls (ls.take (at_ + 1)) r) → GoodP ⟨x, g, 1 + b, rs⟩ → PGoodT most ls at_ ⟨x, g, 1 + b, rs⟩ := fun g rs hg l0 l1 hr hgp =>
    ⟨⟨hx9, hg, show 1 ≤ 1 + b by omega, show 1 + b ≤ 4 by omega, l0, l1, fun r h => (hr r h).1⟩, hx, fun r h => (hr r h).2, .inr hgp⟩
  have ex : ∀ (g : Gl) (rs : List (List Cl)), exitD μ.length (.lst [nmD x, g.dat, .int (1 + (b : Int)), .lst (rs.map fun r => .lst (r.map Cl.dat))]) μ2 = .ok (⟨x, g, 1 + b, rs⟩ : Pl).dat μ2 := fun g rs => by
    have hd : (⟨x, g, 1 + b, rs⟩ : Pl).dat = .lst [nmD x, g.dat, .int (1 + (b : Int)), .lst (rs.map fun r => .lst (r.map Cl.dat))] := by
      show D.lst [_, _, D.int ((1 + b : Nat) : Int), _] = _
      rw [show ((1 + b : Nat) : Int) = 1 + (b : Int) by omega]
      rfl
    rw [← hd, exit_in (Pl.dat_in _ _), s.take rfl]
  have jo : ∀ (r : List Cl), (∀ c ∈ r, c.w ≠ 3) → ROk r → ROk r ∧ Calls ls (ls.take (at_ + 1)) r := fun r h1 h2 => ⟨h2, no_calls h1⟩
  have j1 : ∀ {a b c : Nat}, a < b → b < 4 → 0 < c → c < 5 → ROk [jn a b c] ∧ Calls ls (ls.take (at_ + 1)) [jn a b c] := fun p q r t => jo _ (fun c hc => by rw [List.mem_singleton.mp hc]; exact show (0 : Nat) ≠ 3 by decide) (one_ok (jn_ok p q r t))
  have c1 : ∀ {a b : Nat}, a < b → b < 4 → 1 < b → ROk [cl a b x] ∧ Calls ls (ls.take (at_ + 1)) [cl a b x] := fun {a b} p q r => ⟨one_ok (cl_ok p q hx9), fun c hc _ => by
    rw [List.mem_singleton.mp hc]
    exact ⟨hxm, fun z => by have : b = 1 := z; omega⟩⟩
  have cat : ∀ (xs ys : List D) (m : Mu), xs.length + ys.length ≤ 100 → addD (.lst xs) (.lst ys) m = .ok (.lst (xs ++ ys)) m := fun xs ys m hl => by
    show (if xs.length + ys.length ≤ sizeLine then Out.ok (D.lst (xs ++ ys)) m else .stuck) = _
    rw [if_pos (by unfold sizeLine; omega)]
  have : k = 0 ∨ k = 1 ∨ k = 2 ∨ k = 3 := by omega
  rcases this with rfl | rfl | rfl | rfl
  · refine ⟨⟨x, .last 2, 1 + b, [[jn 0 1 1]]⟩, μ2, ?_, fin _ _ ⟨by decide, by decide⟩ (by decide) (by decide) (fun r hr => ?_) (.inl ⟨rfl, rfl⟩), s⟩
    · rw [← ex]
      simp only [F__law_good, B__law_good, fn_ap, rho0, List.map, List.replicate, List.length, Nat.reduceSub, Nat.reduceAdd, List.cons_append, List.nil_append, AP, PAR, AV, AB, LS, e1, e2, OI, label_ix hx, EQ]
      rfl
    · rw [List.mem_singleton.mp hr]
      exact j1 (by decide) (by decide) (by decide) (by decide)
  · refine ⟨⟨x, .last 4, 1 + b, [[jn 0 1 1], [jn 0 1 2]]⟩, μ2, ?_, fin _ _ ⟨by decide, by decide⟩ (by decide) (by decide) (fun r hr => ?_) (.inr (.inl ⟨rfl, rfl⟩)), s⟩
    · rw [← ex]
      simp only [F__law_good, B__law_good, fn_ap, rho0, List.map, List.replicate, List.length, Nat.reduceSub, Nat.reduceAdd, List.cons_append, List.nil_append, AP, PAR, AV, AB, LS, e1, e2, OI, label_ix hx, EQ]
      rfl
    · simp only [List.mem_cons, List.not_mem_nil, or_false] at hr
      rcases hr with rfl | rfl
      · exact j1 (by decide) (by decide) (by decide) (by decide)
      · exact j1 (by decide) (by decide) (by decide) (by decide)
  · refine ⟨⟨x, .all, 1 + b, [[jn 1 2 1], [cl 1 2 x], [jn 0 2 1]]⟩, μ2, ?_, fin _ _ trivial (show 0 < 3 by decide) (show 3 ≤ 5 by decide) (fun r hr => ?_) (.inr (.inr (.inl ⟨rfl, rfl⟩))), s⟩
    · rw [← ex]
      simp only [F__law_good, B__law_good, fn_ap, rho0, List.map, List.replicate, List.length, Nat.reduceSub, Nat.reduceAdd, List.cons_append, List.nil_append, AP, PAR, AV, AB, LS, e1, e2, OI, label_ix hx, EQ]
      rfl
    · simp only [List.mem_cons, List.not_mem_nil, or_false] at hr
      rcases hr with rfl | rfl | rfl
      · exact j1 (by decide) (by decide) (by decide) (by decide)
      · exact c1 (by decide) (by decide) (by decide)
      · exact j1 (by decide) (by decide) (by decide) (by decide)
  · refine ⟨⟨x, .all, 1 + b, [[jn 1 3 1], [jn 2 3 1], [cl 2 3 x], [jn 0 3 1, jn 1 3 2]]⟩, μ2, ?_, fin _ _ trivial (show 0 < 4 by decide) (show 4 ≤ 5 by decide) (fun r hr => ?_) (.inr (.inr (.inr ⟨rfl, rfl⟩))), s⟩
    · rw [← ex]
      simp only [F__law_good, B__law_good, fn_ap, rho0, List.map, List.replicate, List.length, Nat.reduceSub, Nat.reduceAdd, List.cons_append, List.nil_append, AP, PAR, AV, AB, LS, e1, e2, OI, label_ix hx, EQ]
      rfl
    · simp only [List.mem_cons, List.not_mem_nil, or_false] at hr
      rcases hr with rfl | rfl | rfl | rfl
      · exact j1 (by decide) (by decide) (by decide) (by decide)
      · exact j1 (by decide) (by decide) (by decide) (by decide)
      · exact c1 (by decide) (by decide) (by decide)
      · refine jo _ (fun c hc => ?_) ⟨by decide, by decide, fun c hc => ?_, .inr fun c hc => ?_, ?_⟩
        · simp only [List.mem_cons, List.not_mem_nil, or_false] at hc
          rcases hc with rfl | rfl <;> exact show (0 : Nat) ≠ 3 by decide
        · simp only [List.mem_cons, List.not_mem_nil, or_false] at hc
          rcases hc with rfl | rfl
          · exact jn_ok (by decide) (by decide) (by decide) (by decide)
          · exact jn_ok (by decide) (by decide) (by decide) (by decide)
        · simp only [List.mem_cons, List.not_mem_nil, or_false] at hc
          rcases hc with rfl | rfl <;> exact show (0 : Nat) ≠ 3 by decide
        · refine List.pairwise_cons.mpr ⟨fun c hc => ?_, List.pairwise_singleton _ _⟩
          rw [List.mem_singleton.mp hc]
          exact ⟨rfl, show (1 : Nat) ≠ 0 by decide⟩
theorem sketch_okT {n span most : Nat} {μ : Mu} (h : Cup n μ) (hs0 : 0 < span) (hs : span ≤ 4) (hm0 : 0 < most) (hm : most ≤ 5) :
    ∃ (sk : List Pl) (μ' : Mu), F__law_sketch [.loc n, .int span, .int most] μ = .ok (skD sk) μ' ∧ SOk sk ∧ sk.length = span ∧ Sip n μ μ' ∧ ∀ p ∈ sk, p.rounds.length ≤ most ∨ GoodP p := by
  obtain ⟨ls, μ1, e1, hlen, hls, hnd, s1⟩ := labels_ok (span := span) h (by omega)
  have hl1 : μ1.length = μ.length := s1.len
  let I : Nat → Rho → Mu → Prop := fun k r m => (∃ a, r = [some (.loc n), some (.int span), some (.int most), some (.lst (ls.map nmD)), some (.loc μ.length), a]) ∧ ∃ (ν : Mu) (ps : List Pl), m = ν ++ [.lst (ps.map Pl.dat)] ∧ Sip n μ ν ∧ ps.length = k ∧ ∀ i p, ps[i]? = some p → PGoodT most ls i p
  have lp : ∃ r' m', loopF (gNm 5) (sExpr (xBM "list" appF (xVar 4) (xaCons (xIf (xTest (xOp eqD (xCall F__law_sip (xaCons (xVar 0) (xaCons (xC (.int 2)) xaNil))) (xC (.int 0)))) (xCall F__law_good (xaCons (xVar 0) (xaCons (xVar 3) (xaCons (xVar 5) xaNil)))) (xCall F__law_plan (xaCons (xVar 0) (xaCons (xVar 3) (xaCons (xVar 5) (xaCons (xVar 2) xaNil)))))) xaNil))) (rngL 0 span) [some (.loc n), some (.int span), some (.int most), some (.lst (ls.map nmD)), some (.loc μ.length), none] (μ1 ++ [.lst []]) = .next r' m' ∧ I (0 + (rngL 0 span).length) r' m' := by
    refine loop_inv I ⟨⟨none, rfl⟩, μ1, [], rfl, s1, rfl, fun i p hp => by simp at hp⟩ fun i x r m hx hi => ?_
    obtain ⟨⟨a, rfl⟩, ν, ps, rfl, sν, hpl, hps⟩ := hi
    have hil : i < span := by
      have := (List.getElem?_eq_some_iff.mp hx).1
      simpa [rngL] using this
    rw [rng_get hil] at hx
    cases hx
    rw [Nat.zero_add] at hpl
    have hcν : Cup n ν := sν.cup h
    have hat : i < ls.length := by omega
    obtain ⟨q, m1, e2, hq, s2⟩ := sip_ok (top := 2) (hcν.app [.lst (ps.map Pl.dat)]) (by decide) (by decide)
    change F__law_sip [.loc n, .int 2] (ν ++ [.lst (ps.map Pl.dat)]) = _ at e2
    have hlν : ν.length = μ.length := sν.len
    have c2 := s2.cup (hcν.app [.lst (ps.map Pl.dat)])
    have nxt : ∃ p m2, (xIf (xTest (xOp eqD (xCall F__law_sip (xaCons (xVar 0) (xaCons (xC (.int 2)) xaNil))) (xC (.int 0)))) (xCall F__law_good (xaCons (xVar 0) (xaCons (xVar 3) (xaCons (xVar 5) xaNil)))) (xCall F__law_plan (xaCons (xVar 0) (xaCons (xVar 3) (xaCons (xVar 5) (xaCons (xVar 2) xaNil)))))) [some (.loc n), some (.int span), some (.int most), some (.lst (ls.map nmD)), some (.loc μ.length), some (.int (i : Nat))] (ν ++ [.lst (ps.map Pl.dat)]) = .ok (Pl.dat p) m2 ∧ PGoodT most ls i p ∧ Sip n (ν ++ [.lst (ps.map Pl.dat)]) m2 := by
      by_cases hq0 : q = 0
      · obtain ⟨p, m2, e3, g, s3⟩ := good_okT (at_ := i) c2 hls hat
        refine ⟨p, m2, ?_, g, s2.trans s3⟩
        have hb : ((q : Int) == 0) = true := by simp; omega
        simp only [AP, AV, AB, LS, e2, EQ, hb, if_true, e3]
      · obtain ⟨p, m2, e3, g, s3⟩ := plan_okT (at_ := i) (most := most) c2 hls hnd (by omega) hat hm0 hm
        refine ⟨p, m2, ?_, g, s2.trans s3⟩
        have hb : ((q : Int) == 0) = false := by simp; omega
        simp only [AP, AV, AB, LS, e2, EQ, hb, Bool.false_eq_true, if_false, e3]
    obtain ⟨p, m2, e3, g, s3⟩ := nxt
    obtain ⟨ν2, s4, rfl⟩ := s3.app hcν.lt
    have hl2 : ν2.length = μ.length := s4.len.trans hlν
    have hpu : appF [.loc μ.length, p.dat] (ν2 ++ [.lst (ps.map Pl.dat)]) = .ok .non (ν2 ++ [.lst ((ps ++ [p]).map Pl.dat)]) := by
      show (pushD μ.length p.dat _).bind _ = _
      unfold pushD
      rw [List.getElem?_append_right (by omega), ← hl2, Nat.sub_self]
      simp only [List.getElem?_cons_zero]
      rw [if_pos ⟨p.dat_in _, by rw [List.length_map]; unfold sizeLine; omega⟩, List.set_append_right _ _ (Nat.le_refl _), Nat.sub_self]
      simp [Out.bind]
    refine ⟨[some (.loc n), some (.int span), some (.int most), some (.lst (ls.map nmD)), some (.loc μ.length), some (.int (i : Nat))], ν ++ [.lst (ps.map Pl.dat)], [some (.loc n), some (.int span), some (.int most), some (.lst (ls.map nmD)), some (.loc μ.length), some (.int (i : Nat))], ν2 ++ [.lst ((ps ++ [p]).map Pl.dat)], by simp only [AP, LS, Int.zero_add], ?_, ⟨_, rfl⟩, ν2, ps ++ [p], rfl, sν.trans s4, by rw [List.length_append, List.length_singleton]; omega, fun j u hu => ?_⟩
    · have ht : tyD "list" (ν ++ [.lst (ps.map Pl.dat)]) (.loc μ.length) = true := by
        show ("list" == "list" && (lstOf (ν ++ [.lst (ps.map Pl.dat)]) (.loc μ.length)).isSome) = true
        unfold lstOf
        rw [← hlν]
        simp
      show Out.stm _ ((xVar 4 _ _).bind _) _ = _
      simp only [AV, LS, AB, ht, if_true]
      show Out.stm _ ((Out.bind (Out.bind (xIf _ _ _ _ _) _) _)) _ = _
      rw [e3]
      simp only [AB, AP, hpu]
    · by_cases hj : j < ps.length
      · rw [List.getElem?_append_left hj] at hu
        exact hps j u hu
      · rw [List.getElem?_append_right (by omega)] at hu
        have : j = ps.length := by
          by_cases e : j - ps.length = 0
          · omega
          · obtain ⟨z, ez⟩ := Nat.exists_eq_succ_of_ne_zero e
            rw [ez] at hu
            cases hu
        subst this
        rw [Nat.sub_self] at hu
        cases hu
        rw [hpl]
        exact g
  obtain ⟨r', m', e2, ⟨a, rfl⟩, ν, sk, rfl, sν, hkl, hps⟩ := lp
  have hkl : sk.length = span := by
    rw [hkl]
    simp [rngL]
  have hnames : sk.map Pl.nm = ls := by
    refine List.ext_getElem? fun i => ?_
    rw [List.getElem?_map]
    cases hi : sk[i]? with
    | some p => exact (hps i p hi).nm.symm
    | none =>
      rw [List.getElem?_eq_none_iff] at hi
      exact (List.getElem?_eq_none (by omega)).symm
  have hok : SOk sk := ⟨by omega, by omega, fun p hp => by
      obtain ⟨i, hi⟩ := List.getElem?_of_mem hp
      exact (hps i p hi).ok, by rw [hnames]; exact hnd, fun i p hp r hr => by
      rw [hnames]
      exact (hps i p hp).calls r hr⟩
  refine ⟨sk, ν, ?_, hok, hkl, sν, fun p hp => by
    obtain ⟨i, hi⟩ := List.getElem?_of_mem hp
    exact (hps i p hi).few⟩
  have hlν : ν.length = μ.length := sν.len
  have hx : exitD μ.length (.loc μ.length) (ν ++ [.lst (sk.map Pl.dat)]) = .ok (skD sk) ν := by
    unfold exitD
    rw [if_neg (by simp [D.inB])]
    simp only [← hlν]
    rw [List.getElem?_append_right (Nat.le_refl _), Nat.sub_self]
    simp only [List.getElem?_cons_zero]
    rw [if_pos (inL_map _ _ _ fun p _ => p.dat_in _)]
    simp
    rfl
  rw [← hl1] at e2
  simp only [F__law_sketch, B__law_sketch, fn_ap, rho0, List.map, List.replicate, List.length, Nat.reduceSub, Nat.reduceAdd, List.cons_append, List.nil_append, AP, PAR, AV, AB, LS, e1, D.inL, if_true, rng1_ok (show span < 2 ^ 62 by omega), e2, Bool.false_eq_true, if_false]
  rw [hl1]
  exact hx
end J.M

namespace J.M
open PySem PySem.Spec PyProof.Rows L2 DS
/-! ### texts of data -/
structure Shw (p : PyData) (k w : Nat) : Prop where
  sh : p.showable = true
  dp : p.depth ≤ k
  nd : p.hasDict = false
  lv : p.leavesShort 30 = true
  wt : p.weight ≤ w
structure ShwL (p : List PyData) (k w : Nat) : Prop where
  sh : PyData.showableAll p = true
  dp : PyData.depthAll p ≤ k
  nd : PyData.hasDictAll p = false
  lv : PyData.leavesShortAll 30 p = true
  wt : PyData.weightAll p ≤ w
theorem ShwL.nil {k w : Nat} : ShwL [] k w := ⟨rfl, Nat.zero_le _, rfl, rfl, Nat.zero_le _⟩
theorem ShwL.cons {p : PyData} {ps : List PyData} {k w v : Nat} (h : Shw p k w) (g : ShwL ps k v) : ShwL (p :: ps) k (w + 1 + v) :=
  ⟨by rw [PyData.showableAll, h.sh, g.sh]; rfl, by rw [PyData.depthAll]; exact Nat.max_le.mpr ⟨h.dp, g.dp⟩, by rw [PyData.hasDictAll, h.nd, g.nd]; rfl, by rw [PyData.leavesShortAll, h.lv, g.lv]; rfl, by rw [PyData.weightAll]; have := h.wt; have := g.wt; omega⟩
theorem ShwL.all {ps : List PyData} {k w : Nat} (h : ∀ p ∈ ps, Shw p k w) : ShwL ps k ((w + 1) * ps.length) := by
  induction ps with
  | nil => exact .nil
  | cons p ps ih =>
    have := ShwL.cons (h p (List.mem_cons_self ..)) (ih fun q hq => h q (List.mem_cons_of_mem _ hq))
    rw [List.length_cons, Nat.mul_succ, Nat.add_comm]
    exact this
theorem Shw.tup {ps : List PyData} {k w : Nat} (h : ShwL ps k w) : Shw (.tuple ps) (k + 1) w :=
  ⟨by rw [PyData.showable]; exact h.sh, by rw [PyData.depth]; exact Nat.succ_le_succ h.dp, by rw [PyData.hasDict]; exact h.nd, by rw [PyData.leavesShort]; exact h.lv, by rw [PyData.weight]; exact h.wt⟩
theorem Shw.lst {ps : List PyData} {k w : Nat} (h : ShwL ps k w) : Shw (.list ps) (k + 1) w :=
  ⟨by rw [PyData.showable]; exact h.sh, by rw [PyData.depth]; exact Nat.succ_le_succ h.dp, by rw [PyData.hasDict]; exact h.nd, by rw [PyData.leavesShort]; exact h.lv, by rw [PyData.weight]; exact h.wt⟩
def nmP (g : Nat) : PyData := .str (nmS g)
/-! ### loops that look for something -/
theorem loop_find {α : Type} {g : XG} {body : XS} {μ : Mu} (e : α → D) (I : Rho → Prop) (f : α → Option D) : ∀ {xs : List α} {r : Rho}, I r →
    (∀ x ∈ xs, ∀ r, I r → ∃ r1, g (e x) r μ = .ok r1 μ ∧ (∀ d, f x = some d → body r1 μ = .ret d μ) ∧ (f x = none → ∃ r2, body r1 μ = .next r2 μ ∧ I r2)) →
    (∀ d, xs.findSome? f = some d → loopF g body (xs.map e) r μ = .ret d μ) ∧ (xs.findSome? f = none → ∃ r', loopF g body (xs.map e) r μ = .next r' μ ∧ I r')
  | [], r, h, _ => ⟨(fun d h => nomatch h), fun _ => ⟨r, rfl, h⟩⟩
  | x :: xs, r, h, hs => by
    obtain ⟨r1, h1, h2, h3⟩ := hs x (List.mem_cons_self ..) r h
    rw [List.map_cons, loopF, h1]
    simp only [AB]
    cases hf : f x with
    | some d =>
      rw [List.findSome?_cons_of_isSome (by rw [hf]; rfl), hf]
      refine ⟨fun d' e => ?_, (fun e => nomatch e)⟩
      cases e
      rw [h2 d hf]
    | none =>
      obtain ⟨r2, h4, h5⟩ := h3 hf
      rw [List.findSome?_cons_of_isNone (by rw [hf]; rfl), h4]
      exact loop_find e I f h5 fun y hy => hs y (List.mem_cons_of_mem _ hy)
/-! ### comprehensions with any target -/
/-! ### lists of numbers beside [] -/
/-! ### books are asked -/
theorem bplan_ok {sk : List Pl} (h : SOk sk) {p : Pl} (hp : p ∈ sk) (μ : Mu) : F_Book_plan [bookD sk, nmD p.nm] μ = .ok p.parts μ := by
  have hn : ∀ z ∈ sk, ∀ m, eqD (.str (nmS z.nm)) (nmD p.nm) m = .ok (.bl (decide (z.nm = p.nm))) m := fun z hz m => by
    show Out.ok (D.bl (nmS z.nm == nmS p.nm)) m = _
    rw [nmS_eq _ (h.ok z hz).nm _ (h.ok p hp).nm]
  have key : ∃ z, sk.findSome? (fun z => if z.nm = p.nm then some z.parts else none) = some z ∧ z = p.parts := by
    cases hf : sk.findSome? (fun z => if z.nm = p.nm then some z.parts else none) with
    | none =>
      rw [List.findSome?_eq_none_iff] at hf
      have := hf p hp
      simp at this
    | some z =>
      obtain ⟨q, hq, e⟩ := List.exists_of_findSome?_eq_some hf
      split at e
      · rename_i hnm
        cases e
        refine ⟨_, rfl, ?_⟩
        have q1 := h.apart
        rw [List.Nodup, List.pairwise_map] at q1
        have : q = p := by
          obtain ⟨i, hi⟩ := List.getElem?_of_mem hq
          obtain ⟨j, hj⟩ := List.getElem?_of_mem hp
          obtain ⟨hil, ei⟩ := List.getElem?_eq_some_iff.mp hi
          obtain ⟨hjl, ej⟩ := List.getElem?_eq_some_iff.mp hj
          have w := List.pairwise_iff_getElem.mp q1
          rcases Nat.lt_trichotomy i j with hij | hij | hij
          · exact absurd (by rw [ei, ej]; exact hnm) (w i j hil hjl hij)
          · subst hij; rw [← ei, ← ej]
          · exact absurd (by rw [ei, ej]; exact hnm.symm) (w j i hjl hil hij)
        rw [this]
      · cases e
  obtain ⟨z, hz, rfl⟩ := key
  have lp := (loop_find (g := gNm 2) (μ := μ) (body := (sIf (xAndT (xTest (xCall (isiF cs) (xaCons (xVar 1) (xaCons (xC (.ty "str")) xaNil)))) (xTest (xOp eqD (xOp ixD (xVar 2) (xC (.int 0))) (xVar 1)))) (sRet (xVar 2)) sNil)) Pl.parts (fun r => ∃ a, r = [some (bookD sk), some (nmD p.nm), a]) (fun z => if z.nm = p.nm then some z.parts else none) (xs := sk) (r := [some (bookD sk), some (nmD p.nm), none]) ⟨_, rfl⟩ fun z hz r hr => by
    obtain ⟨a, rfl⟩ := hr
    refine ⟨[some (bookD sk), some (nmD p.nm), some z.parts], by simp only [AP, LS], fun d hd => ?_, fun hd => ⟨[some (bookD sk), some (nmD p.nm), some z.parts], ?_, ⟨_, rfl⟩⟩⟩
    all_goals
      have hix : ∀ m, ixD z.parts (.int 0) m = .ok (.str (nmS z.nm)) m := fun m => IX.2.2.2.2.1
      have hti : ∀ m, isiF cs [nmD p.nm, .ty "str"] m = .ok (.bl true) m := fun m => rfl
    · split at hd
      · rename_i hz2
        cases hd
        simp only [AP, AV, AB, LS, hti, if_true, hix, hn z hz, decide_eq_true hz2]
      · cases hd
    · split at hd
      · cases hd
      · rename_i hz2
        simp only [AP, AV, AB, LS, hti, if_true, hix, hn z hz, decide_eq_false hz2, Bool.false_eq_true, if_false]).1 _ hz
  have hx : exitD μ.length p.parts μ = .ok p.parts μ := by rw [exit_in (p.parts_in _), List.take_length]
  have hf : ∀ m, fldD "Book" "held" (bookD sk) m = .ok (.tup (sk.map Pl.parts)) m := fun _ => rfl
  simp only [F_Book_plan, B_Book_plan, fn_ap, rho0, List.map, List.replicate, List.length, Nat.reduceSub, Nat.reduceAdd, List.cons_append, List.nil_append, AP, AV, AB, LS, hf, lp, Bool.false_eq_true, if_false, hx]
theorem check_plan_ok {sk : List Pl} (h : SOk sk) {p : Pl} (hp : p ∈ sk) (μ : Mu) : F_check_plan [bookD sk, nmD p.nm] μ = .ok .non μ := by
  have hm : ∀ m, xMeth "Book" "plan" F_Book_plan (xVar 0) (xaCons (xVar 1) xaNil) [some (bookD sk), some (nmD p.nm)] m = F_Book_plan [bookD sk, nmD p.nm] m := fun _ => rfl
  simp only [F_check_plan, B_check_plan, fn_ap, rho0, List.map, List.replicate, List.length, Nat.reduceSub, Nat.reduceAdd, List.cons_append, List.nil_append, AP, AB, hm, bplan_ok h hp, List.take_length]
theorem check_book_ok (sk : List Pl) (μ : Mu) : F_check_book [bookD sk] μ = .ok .non μ := by
  have hi : ∀ m, isiF cs [bookD sk, .glo "Book"] m = .ok (.bl true) m := fun _ => rfl
  simp only [F_check_book, B_check_book, fn_ap, rho0, List.map, List.replicate, List.length, Nat.reduceSub, Nat.reduceAdd, List.cons_append, List.nil_append, AP, AV, AB, LS, hi, Bool.not_true, Bool.false_eq_true, if_false, List.take_length]
theorem look_map {sk : List Pl} (h : SOk sk) {p : Pl} (hp : p ∈ sk) : (sk.map fun p => (nmS p.nm, p.prog)).lookup (nmS p.nm) = some p.prog := by
  have key : ∀ l : List Pl, (∀ z ∈ l, z ∈ sk) → p ∈ l → (l.map fun p => (nmS p.nm, p.prog)).lookup (nmS p.nm) = some p.prog := fun l => by
    induction l with
    | nil => intro _ hm; cases hm
    | cons z l ih =>
      intro hs hm
      rw [List.map_cons, List.lookup_cons, nmS_eq _ (h.ok p hp).nm _ (h.ok z (hs z (List.mem_cons_self ..))).nm]
      by_cases e : p.nm = z.nm
      · rw [decide_eq_true e]
        have q1 := h.apart
        rw [List.Nodup, List.pairwise_map] at q1
        have hzs := hs z (List.mem_cons_self ..)
        have : z = p := by
          obtain ⟨i, hi⟩ := List.getElem?_of_mem hzs
          obtain ⟨j, hj⟩ := List.getElem?_of_mem hp
          obtain ⟨hil, ei⟩ := List.getElem?_eq_some_iff.mp hi
          obtain ⟨hjl, ej⟩ := List.getElem?_eq_some_iff.mp hj
          have w := List.pairwise_iff_getElem.mp q1
          rcases Nat.lt_trichotomy i j with hij | hij | hij
          · exact absurd (by rw [ei, ej]; exact e.symm) (w i j hil hjl hij)
          · subst hij; rw [← ei, ← ej]
          · exact absurd (by rw [ei, ej]; exact e) (w j i hjl hil hij)
        rw [this]
      · rw [decide_eq_false e]
        rcases List.mem_cons.mp hm with rfl | hm
        · exact absurd rfl e
        · exact ih (fun y hy => hs y (List.mem_cons_of_mem _ hy)) hm
  exact key sk (fun _ h => h) hp
theorem program_ok {sk : List Pl} (h : SOk sk) {p : Pl} (hp : p ∈ sk) (μ : Mu) : F_Book_program [bookD sk, nmD p.nm] μ = .ok p.prog μ := by
  have hf : ∀ m, fldD "Book" "parsed" (bookD sk) m = .ok (.dct (sk.map fun p => (nmS p.nm, p.prog))) m := fun _ => rfl
  have hg : ∀ m, dgetD (.dct (sk.map fun p => (nmS p.nm, p.prog))) (nmD p.nm) m = .ok p.prog m := fun m => by
    show (match getF (nmS p.nm) (sk.map fun p => (nmS p.nm, p.prog)) with
      | some x => Out.ok x m
      | none => .stuck) = _
    unfold getF
    rw [look_map h hp]
  have hx : exitD μ.length p.prog μ = .ok p.prog μ := by rw [exit_in (p.prog_in _), List.take_length]
  simp only [F_Book_program, B_Book_program, fn_ap, rho0, List.map, List.replicate, List.length, Nat.reduceSub, Nat.reduceAdd, List.cons_append, List.nil_append, AP, AV, AB, LS, hf, hg, Bool.false_eq_true, if_false, hx]
end J.M

namespace J.M
open PySem PySem.Spec PyProof.Rows L2 DS
/-! ### places of a class -/
def nD (k : Nat) : D := .int (k : Int)
def plc (c : Cl) (n : Nat) : List Nat := (List.range ((n - c.rest + c.step - 1) / c.step)).map fun k => c.rest + k * c.step
theorem inL_nD (n : Nat) (xs : List Nat) : D.inL n (xs.map nD) = true := inL_map _ _ _ fun _ _ => rfl
/-! ### the place that is read besides -/
def rd (c : Cl) (p n : Nat) : Option Nat := if c.side = 0 then (if c.far ≤ p ∧ p - c.far < n then some (p - c.far) else none) else if p + c.far < n then some (p + c.far) else none
def optD : Option Nat → D
  | some k => nD k
  | none => .non
theorem Cl.fld_side {c : Cl} (h : c.w < 2) (m : Mu) : fldD "Clause" "side" c.obj m = .ok (.str (sideS c.side)) m := by
  show Out.ok (if c.w < 2 then D.str (sideS c.side) else .non) m = _
  rw [if_pos h]
theorem Cl.fld_far {c : Cl} (h : c.w < 2) (m : Mu) : fldD "Clause" "far" c.obj m = .ok (.int c.far) m := by
  show Out.ok (if c.w < 2 then D.int c.far else .non) m = _
  rw [if_pos h]
end J.M

namespace J.M
open PySem PySem.Spec PyProof.Rows L2 DS
/-! ### the cup, and the law's walk over the turns (laws whose `law` is all([_law_right(_law_cup(..)) ..])) -/
theorem catX_ok {xs ys : List D} {m : Mu} (h : xs.length + ys.length ≤ 1000) : addD (.lst xs) (.lst ys) m = .ok (.lst (xs ++ ys)) m := by
  show (if xs.length + ys.length ≤ sizeLine then Out.ok (D.lst (xs ++ ys)) m else .stuck) = _
  rw [if_pos (by unfold sizeLine; omega)]
theorem cut_to' (xs : List D) (k : Nat) : DS.cutD xs none (some (k : Int)) = xs.take k := by
  unfold DS.cutD
  rw [HT.sIx_nat, HT.sIx_none, List.drop_zero, Nat.sub_zero]
  by_cases h : k ≤ xs.length
  · rw [Nat.min_eq_left h]
  · rw [Nat.min_eq_right (by omega), List.take_length, List.take_of_length_le (by omega)]
theorem seq_next {f g : XS} {r r' : Rho} {m m' : Mu} (e : f r m = .next r' m') : sSeq f g r m = g r' m' := by
  show (match f r m with
    | .next r' m' => g r' m'
    | o => o) = _
  rw [e]
theorem mul_ok' {i j : Int} {m : Mu} (h : -(2 ^ 64) < j ∧ j < 2 ^ 64) : mulD (.int i) (.int j) m = .ok (.int (i * j)) m := by
  unfold mulD mulOk
  simp only [decide_eq_true h, Bool.or_true, if_true]
theorem cup_ok (ns : List Int) (hl : ns.length ≤ 63) (turn : Nat) (μ : Mu) : ∃ a b c, F__law_cup [.fix (ns.map .int), .int turn] μ = .ok (.loc μ.length) (μ ++ [cupC a b c]) := by
  have lf : ∀ m, lenD [.fix (ns.map .int)] m = .ok (.int (ns.length : Nat)) m := fun m => by
    show Out.ok (D.int ((ns.map D.int).length : Nat)) m = _
    rw [List.length_map]
  obtain ⟨cell, hc⟩ : ∃ cell : Int, ∀ m, xIf (xTest (xOp ltD (xVar 1) (xCall lenD (xaCons (xVar 0) xaNil)))) (xOp ixD (xVar 0) (xVar 1)) (xOp addD (xVar 1) (xC (.int 2))) [some (.fix (ns.map .int)), some (.int turn), none, none, none] m = .ok (.int cell) m := by
    by_cases h : turn < ns.length
    · refine ⟨ns[turn], fun m => ?_⟩
      have hi : ∀ m, ixD (.fix (ns.map .int)) (.int (turn : Int)) m = .ok (.int ns[turn]) m := fun m => by
        unfold ixD
        simp only [lstOf, ix_at turn (ns.map .int) (.int ns[turn]) (by rw [List.getElem?_map, List.getElem?_eq_getElem h]; rfl)]
      simp only [AP, AV, AB, LS, lf, OI, decide_eq_true (show (turn : Int) < (ns.length : Nat) by omega), if_true, hi]
    · refine ⟨turn + 2, fun m => ?_⟩
      simp only [AP, AV, AB, LS, lf, OI, decide_eq_false (show ¬ (turn : Int) < (ns.length : Nat) by omega), Bool.false_eq_true, if_false]
  have hs : ∀ m, slD (.fix (ns.map .int)) none (some 4) m = .ok (.lst ((ns.take 4).map .int)) m := fun m => by
    show Out.ok (D.lst (DS.cutD (ns.map .int) none (some ((4 : Nat) : Int)))) m = _
    rw [cut_to', List.map_take]
  have ha : ∀ m, addD (.lst ((ns.take 4).map .int)) (.lst [.int cell]) m = .ok (.lst ((ns.take 4 ++ [cell]).map .int)) m := fun m => by
    rw [catX_ok (by rw [List.length_map, List.length_take]; simp; omega), List.map_append]
    rfl
  have lp : ∀ mix : Int, ∃ r', loopF (gNm 4) (sAsg (xOp modD (xCall intF (xaCons (xOp addD (xOp mulD (xVar 3) (xC (.int 26021))) (xVar 4)) xaNil)) (xC (.int 2147483477))) (gNm 3)) ((ns.take 4 ++ [cell]).map .int) [some (.fix (ns.map .int)), some (.int turn), some (.int cell), some (.int mix), none] μ = .next r' μ ∧ ∃ (mix : Int) (b : Option D), r' = [some (.fix (ns.map .int)), some (.int turn), some (.int cell), some (.int mix), b] := fun mix => by
    refine loop_keep (fun r' => ∃ (mix : Int) (b : Option D), r' = [some (.fix (ns.map .int)), some (.int turn), some (.int cell), some (.int mix), b]) ⟨mix, none, rfl⟩ fun x hx ρ hρ => ?_
    obtain ⟨mix, b, rfl⟩ := hρ
    obtain ⟨i, _, rfl⟩ := List.mem_map.mp hx
    refine ⟨[some (.fix (ns.map .int)), some (.int turn), some (.int cell), some (.int mix), some (.int i)], [some (.fix (ns.map .int)), some (.int turn), some (.int cell), some (.int ((mix * 26021 + i) % 2147483477)), some (.int i)], by simp only [AP, LS], ?_, ⟨_, _, rfl⟩⟩
    simp only [AP, AV, AB, LS, mul_ok' (show -(2 ^ 64) < (26021 : Int) ∧ (26021 : Int) < 2 ^ 64 by decide), OI, int_ok, md_ok (show (0 : Int) < 2147483477 by decide)]
  obtain ⟨r', l1, mix, b, rfl⟩ := lp (50021 + 8017 * turn)
  have hp : ∀ m, powD (.int 10) (.int 18) m = .ok (.int (10 ^ 18)) m := fun m => rfl
  have hx : ∃ top : Int, xIf (xOrT (xTest (xOp ltD (xVar 2) (xC (.int 0)))) (xTest (xOp geD (xVar 2) (xOp powD (xC (.int 10)) (xC (.int 18)))))) (xCall absF (xaCons (xVar 2) xaNil)) (xC (.int 0)) [some (.fix (ns.map .int)), some (.int turn), some (.int cell), some (.int mix), b] μ = .ok (.int top) μ := by
    simp only [AP, AV, AB, LS, OI, hp]
    by_cases h1 : cell < 0
    · simp only [decide_eq_true h1, if_true, AB]
      exact ⟨_, rfl⟩
    · simp only [decide_eq_false h1, Bool.false_eq_true, if_false]
      by_cases h2 : 10 ^ 18 ≤ cell
      · simp only [decide_eq_true h2, if_true, AB]
        exact ⟨_, rfl⟩
      · simp only [decide_eq_false h2, Bool.false_eq_true, if_false, AB]
        exact ⟨_, rfl⟩
  obtain ⟨top, hx⟩ := hx
  refine ⟨top, mix, 0, ?_⟩
  unfold F__law_cup B__law_cup
  rw [fn_ap]
  have f1 : sAsg (xIf (xTest (xOp ltD (xVar 1) (xCall lenD (xaCons (xVar 0) xaNil)))) (xOp ixD (xVar 0) (xVar 1)) (xOp addD (xVar 1) (xC (.int 2)))) (gNm 2) (rho0 5 [.fix (ns.map .int), .int turn]) μ = .next [some (.fix (ns.map .int)), some (.int turn), some (.int cell), none, none] μ := by
    show Out.stm _ (xIf _ _ _ [some (.fix (ns.map .int)), some (.int turn), none, none, none] μ) _ = _
    rw [hc]
    rfl
  rw [seq_next f1]
  have f2 : sAsg (xOp addD (xC (.int 50021)) (xOp mulD (xC (.int 8017)) (xVar 1))) (gNm 3) [some (.fix (ns.map .int)), some (.int turn), some (.int cell), none, none] μ = .next [some (.fix (ns.map .int)), some (.int turn), some (.int cell), some (.int (50021 + 8017 * turn)), none] μ := by
    simp only [AP, AV, AB, LS, mul_ok (show -(2 ^ 64) < (8017 : Int) ∧ (8017 : Int) < 2 ^ 64 by decide), OI]
  rw [seq_next f2]
  have f3 : sFor (xiSeq (xOp addD (xSl (xVar 0) xoN (xoS (xC (.int 4)))) (xLst (xaCons (xVar 2) xaNil)))) (gNm 4) (sAsg (xOp modD (xCall intF (xaCons (xOp addD (xOp mulD (xVar 3) (xC (.int 26021))) (xVar 4)) xaNil)) (xC (.int 2147483477))) (gNm 3)) [some (.fix (ns.map .int)), some (.int turn), some (.int cell), some (.int (50021 + 8017 * turn)), none] μ = .next [some (.fix (ns.map .int)), some (.int turn), some (.int cell), some (.int mix), b] μ := by
    rw [← l1]
    simp only [AP, AV, AB, LS, hs, ha]
  rw [seq_next f3]
  have f4 : ∀ {e : XE'} {d : D} {r : Rho} {m m' : Mu}, e r m = .ok d m' → sRet e r m = .ret d m' := fun {e d r m m'} h => by
    show Out.stm _ (e r m) _ = _
    rw [h]
    rfl
  have f5 : xNew (xaCons (xIf (xOrT (xTest (xOp ltD (xVar 2) (xC (.int 0)))) (xTest (xOp geD (xVar 2) (xOp powD (xC (.int 10)) (xC (.int 18)))))) (xCall absF (xaCons (xVar 2) xaNil)) (xC (.int 0))) (xaCons (xVar 3) (xaCons (xC (.int 0)) xaNil))) [some (.fix (ns.map .int)), some (.int turn), some (.int cell), some (.int mix), b] μ = .ok (.loc μ.length) (μ ++ [cupC top mix 0]) := by
    show Out.bind (Out.bind (xIf _ _ _ _ _) _) _ = _
    rw [hx]
    simp only [AP, AV, AB, LS]
    rfl
  rw [f4 f5]
  rfl
theorem lc_all {i : Nat} {te : XE'} {r0 : Rho} {xs : List D} (hl : xs.length ≤ 1000) (h : ∀ x ∈ xs, ∀ c ν, ∃ ν', te (r0.set i (some x)) (c :: ν) = .ok (.bl true) (c :: ν')) : lcD (gNm i) xYes te r0 xs [] = .ok (.lst (xs.map fun _ => .bl true)) [] := by
  have go : ∀ (ys : List D) (acc : List D) (ν : Mu), (∀ y ∈ ys, y ∈ xs) → acc.length + ys.length ≤ 1000 → ∃ ν', lcF (gNm i) xYes te 0 r0 ys (.lst acc :: ν) = .ok () (.lst (acc ++ ys.map fun _ => .bl true) :: ν') := fun ys => by
    induction ys with
    | nil => intro acc ν _ _; exact ⟨ν, by simp [lcF]⟩
    | cons y ys ih =>
      intro acc ν hm hl
      rw [List.length_cons] at hl
      obtain ⟨ν1, e1⟩ := h y (hm y (List.mem_cons_self ..)) (.lst acc) ν
      have e : pushD 0 (.bl true) (.lst acc :: ν1) = .ok () (.lst (acc ++ [.bl true]) :: ν1) := by
        unfold pushD
        simp only [List.getElem?_cons_zero]
        rw [if_pos ⟨rfl, by unfold sizeLine; omega⟩]
        rfl
      obtain ⟨ν2, e2⟩ := ih (acc ++ [.bl true]) ν1 (fun z hz => hm z (List.mem_cons_of_mem _ hz)) (by rw [List.length_append]; simp; omega)
      refine ⟨ν2, ?_⟩
      rw [lcF]
      simp only [gNm, Out.ne, Out.bind, xYes, if_true, e1, e]
      rw [e2]
      simp
  obtain ⟨ν', e⟩ := go xs [] [] (fun _ h => h) (by simpa using hl)
  unfold lcD
  show (lcF (gNm i) xYes te 0 r0 xs [.lst []]).bind _ = _
  rw [e]
  rfl
theorem turns_ok {te : XE'} (ns : List Int) (hl : ns.length ≤ 63) (N : Nat) (hN : N ≤ 100) (right : Fn) (hte : ∀ r m, te r m = xCall right (xaCons (xCall F__law_cup (xaCons (xVar 0) (xaCons (xVar 1) xaNil))) xaNil) r m)
    (h : ∀ (n : Nat) (μ : Mu), Cup n μ → ∃ μ', right [.loc n] μ = .ok (.bl true) μ' ∧ Sip n μ μ') :
    lcD (gNm 1) xYes te [some (.fix (ns.map .int)), none] (rngL 0 N) [] = .ok (.lst ((rngL 0 N).map fun _ => .bl true)) [] := by
  refine lc_all (by simp [rngL]; omega) fun x hx c ν => ?_
  obtain ⟨k, hk, rfl⟩ : ∃ k : Nat, k < N ∧ x = .int k := by
    unfold rngL at hx
    obtain ⟨k, hk, rfl⟩ := List.mem_map.mp hx
    exact ⟨k, List.mem_range.mp hk, by rw [Int.zero_add]⟩
  obtain ⟨c1, c2, c3, e1⟩ := cup_ok ns hl k (c :: ν)
  have hc : Cup (c :: ν).length ((c :: ν) ++ [cupC c1 c2 c3]) := ⟨c1, c2, c3, by simp⟩
  obtain ⟨m2, e2, s2⟩ := h _ _ hc
  obtain ⟨a, b, d, rfl⟩ := s2
  refine ⟨ν ++ [cupC a b d], ?_⟩
  rw [hte]
  simp only [AP, AV, AB, LS, e1, e2]
  congr 1
  rw [List.set_append_right _ _ (Nat.le_refl _), Nat.sub_self]
  rfl
theorem allT_ok (xs : List D) (m : Mu) : allF [.lst (xs.map fun _ => .bl true)] m = .ok (.bl true) m := by
  rw [all_map (fun _ => true)]
  congr 2
  rw [List.all_eq_true]
  intro _ _
  rfl
theorem len_fix (ns : List Int) (m : Mu) : lenD [.fix (ns.map .int)] m = .ok (.int (ns.length : Nat)) m := by
  show Out.ok (D.int ((ns.map D.int).length : Nat)) m = _
  rw [List.length_map]
theorem max_ok (a b : Nat) (m : Mu) : maxF [.int a, .int b] m = .ok (.int ((max a b : Nat) : Int)) m := by
  show Out.ok (D.int (if (b : Int) > a then (b : Int) else a)) m = _
  congr 2
  split <;> omega
end J.M

namespace J.M
open PySem PySem.Spec PyProof.Rows L2 DS
/-! ### deeds -/
abbrev Dd := Nat × Option Nat
def ddD (d : Dd) : D := .tup [nD d.1, optD d.2]
def deeds (c : Cl) (n : Nat) : List Dd := if c.w = 2 then (plc c n).map fun p => (p, none) else ((plc c n).map fun p => (p, rd c p n)).filter fun d => d.2.isSome || decide (c.w = 1)
/-! ### hazards at a length -/
def dds (r : List Cl) (n : Nat) : List Dd := r.flatMap fun c => deeds c n
def hz0 (ds : List Dd) : List Nat := (ds.filter fun d => ds.any fun e => decide (e.2 = some d.1)).map fun d => d.1
def hz (r : List Cl) (n : Nat) : List Int := sortI ((hz0 (dds r n)).map fun p : Nat => (p : Int))
/-! ### the first hazard -/
def fhz (r : List Cl) (N : Nat) : Option (Nat × Int) := (List.range N).findSome? fun k => match hz r (k + 1) with
  | [] => none
  | p :: _ => some (k + 1, p)
def fhD : Option (Nat × Int) → D
  | some x => .tup [nD x.1, .int x.2]
  | none => .non
end J.M

namespace J.M
open PySem PySem.Spec PyProof.Rows L2 DS
/-! ### the end of a def -/
theorem fn_ret {n : Nat} {g : XS} {ds : List D} {m : Mu} {d : D} {m' : Mu} (h : g (rho0 n ds) m = .ret d m') : fnOf n false g ds m = exitD m.length d m' := by
  rw [fn_ap, h]
  rfl
theorem seq_ret {f g : XS} {r : Rho} {m : Mu} {d : D} {m' : Mu} (e : f r m = .ret d m') : sSeq f g r m = .ret d m' := by
  show (match f r m with
    | .next r' m' => g r' m'
    | o => o) = _
  rw [e]
/-! ### loops that fold -/
/-! ### words: None, or a tuple of pieces -/
abbrev Wo := Option (List Nat)
def woD : Wo → D
  | some ns => .tup (ns.map nD)
  | none => .non
theorem woD_in (w : Wo) (n : Nat) : (woD w).inB n = true := by
  cases w with
  | none => rfl
  | some ns =>
    show (D.tup (ns.map nD)).inB n = true
    rw [D.inB]
    exact inL_nD _ _
def woP : Wo → PyData
  | some ns => .tuple (ns.map fun k : Nat => PyData.int (k : Int))
  | none => .none
/-! ### the join of two words -/
def joint : Wo → Wo → Wo
  | some a, some b => if a = [] ∨ b = [] ∨ a.getLast?.map (· + 1) = b.head? then some (a ++ b) else none
  | _, _ => none
/-! ### runs of neighbours -/
def RunW (n : Nat) (w : Wo) : Prop := ∀ l, w = some l → ∃ s k, l = List.range' s k ∧ s + k ≤ n
theorem RunW.len {n : Nat} {w : Wo} (h : RunW n w) : ∀ l, w = some l → l.length ≤ n := fun l e => by
  obtain ⟨s, k, rfl, hk⟩ := h l e
  rw [List.length_range']
  omega
theorem RunW.none {n : Nat} : RunW n none := fun l e => by cases e
theorem RunW.nil {n : Nat} : RunW n (some []) := fun l e => by cases e; exact ⟨0, 0, rfl, Nat.zero_le _⟩
theorem RunW.one {n k : Nat} (h : k < n) : RunW n (some [k]) := fun l e => by cases e; exact ⟨k, 1, rfl, h⟩
theorem RunW.joint {n : Nat} {a b : Wo} (ha : RunW n a) (hb : RunW n b) : RunW n (joint a b) := by
  cases a with
  | none => exact .none
  | some a =>
    cases b with
    | none => exact .none
    | some b =>
      show RunW n (if _ then _ else _)
      split
      · rename_i hc
        obtain ⟨s, k, rfl, hk⟩ := ha a rfl
        obtain ⟨t, j, rfl, hj⟩ := hb b rfl
        intro l e
        cases e
        cases k with
        | zero => exact ⟨t, j, by simp, hj⟩
        | succ k =>
          cases j with
          | zero => exact ⟨s, k + 1, by simp, hk⟩
          | succ j =>
            rcases hc with hc | hc | hc
            · simp [List.range'_succ] at hc
            · simp [List.range'_succ] at hc
            · have e1 : (List.range' s (k + 1)).getLast? = some (s + k) := by rw [List.range'_concat]; simp
              have e2 : (List.range' t (j + 1)).head? = some t := by rw [List.range'_succ]; rfl
              rw [e1, e2] at hc
              have hc : s + k + 1 = t := by simpa using hc
              refine ⟨s, k + 1 + (j + 1), ?_, by omega⟩
              subst hc
              rw [show s + k + 1 = s + 1 * (k + 1) by omega, List.range'_append]
      · exact .none
end J.M

namespace J.M
open PySem PySem.Spec PyProof.Rows L2 DS
/-! ### a round over words -/
def gw (ws : List Wo) (p : Nat) : Wo := ws.getD p none
def there (c : Cl) (ws : List Wo) (p : Nat) : Wo := match rd c p ws.length with
  | some q => gw ws q
  | none => some []
def eff (c : Cl) (ws : List Wo) (p : Nat) : Wo := if c.w = 0 then (if c.side = 0 then joint (there c ws p) (gw ws p) else joint (gw ws p) (there c ws p)) else if c.w = 2 then some [] else there c ws p
def putAll (l : List Wo) (ps : List Nat) (vs : List Wo) : List Wo := (ps.zip vs).foldl (fun l q => l.set q.1 q.2) l
def putF (l : List Wo) (ps : List Nat) (f : Nat → Wo) : List Wo := ps.foldl (fun l p => l.set p (f p)) l
/-! ### the place beside one -/
def mateI (c : Cl) (p : Nat) : Int := if c.side = 0 then (p : Int) - c.far else (p : Int) + c.far
theorem get_lastX {μ : Mu} {c : Cell} : (μ ++ [c])[μ.length]? = some c := by
  rw [List.getElem?_append_right (Nat.le_refl _), Nat.sub_self]
  rfl
theorem set_last {μ : Mu} {acc : List D} {i : Nat} {d : D} (h : d.inB μ.length = true) (hi : i < acc.length) : setD (.loc μ.length) (nD i) d (μ ++ [.lst acc]) = .ok () (μ ++ [.lst (acc.set i d)]) := by
  unfold setD nD
  simp only [get_lastX]
  have : ixN acc.length (i : Int) = some i := by
    unfold ixN
    rw [if_pos (by omega), if_pos (by omega)]
    rfl
  rw [this]
  simp only [h, if_true]
  rw [List.set_append_right _ _ (Nat.le_refl _), Nat.sub_self]
  rfl
end J.M

namespace J.M
open PySem PySem.Spec PyProof.Rows L2 DS
/-! ### all of some words joined; what a goal says -/
def allJ (ws : List Wo) : Wo := ws.foldl joint (some [])
theorem wo_exit (w : Wo) (μ : Mu) : exitD μ.length (woD w) μ = .ok (woD w) μ := by rw [exit_in (woD_in _ _), List.take_length]
def partOf (g : Gl) (k : Nat) (ws : List Wo) : List Wo := match g with
  | .all => ws.take (k + 1)
  | .before => ws.take k
  | .last m => (ws.drop (k + 1 - m)).take (k + 1 - (k + 1 - m))
def says (g : Gl) (ws : List Wo) : List Wo := (List.range ws.length).map fun k => allJ (partOf g k ws)
theorem rngL_nD (n : Nat) : rngL 0 n = (List.range n).map nD := by
  unfold rngL
  refine List.map_congr_left fun k _ => ?_
  rw [Int.zero_add]
  rfl
end J.M

namespace J.M
open PySem PySem.Spec PyProof.Rows L2 DS
/-! ### a round of the law -/
def goalOf (sk : List Pl) (x : Nat) : Gl := ((sk.find? fun p => decide (p.nm = x)).map Pl.goal).getD .all
def told (sk : List Pl) (c : Cl) (ws : List Wo) : List Wo := if c.w = 3 then says (goalOf sk c.goal) ((plc c ws.length).map (gw ws)) else (plc c ws.length).map (eff c ws)
def done1 (sk : List Pl) (ws : List Wo) (l : List Wo) (c : Cl) : List Wo := putAll l (plc c ws.length) (told sk c ws)
def doneL (sk : List Pl) (r : List Cl) (ws : List Wo) : List Wo := r.foldl (done1 sk ws) ws
def sdS (c : Cl) : Str := if c.w = 3 then "" else sideS c.side
def frI (c : Cl) : Int := if c.w = 3 then 0 else c.far
def lbS (c : Cl) : Str := if c.w = 3 then nmS c.goal else ""
/-- the slots of the walk over a round -/
abbrev rhoN (skd : D) (r : List Cl) (ws : List Wo) (μ : Mu) (c : Cl) (x11 x12 x13 x14 x15 x16 x17 : Option D) : Rho :=
  [some skd, some (.lst (r.map Cl.dat)), some (.lst (ws.map woD)), some (.loc μ.length), some (.int (ws.length : Nat)), some (.str (wordS c.w)), some (.int c.rest), some (.int c.step), some (.str (sdS c)), some (.int (frI c)), some (.str (lbS c)), x11, x12, x13, x14, x15, x16, x17, none]
theorem put_ok {μ : Mu} {l : List Wo} {p : Nat} (hp : p < l.length) (w : Wo) : setD (.loc μ.length) (nD p) (woD w) (μ ++ [.lst (l.map woD)]) = .ok () (μ ++ [.lst ((l.set p w).map woD)]) := by
  rw [set_last (woD_in _ _) (by rw [List.length_map]; exact hp), List.map_set]
/-! ### .. of calls -/
structure Skt (sk : List Pl) : Prop where
  nm : ∀ p ∈ sk, p.nm < 9
  len : sk.length ≤ 100
def Named (sk : List Pl) (r : List Cl) : Prop := ∀ c ∈ r, c.w = 3 → ∃ p ∈ sk, p.nm = c.goal
end J.M

namespace J.M
open PySem PySem.Spec PyProof.Rows L2 DS
abbrev gt6 : XG := gTp 6 (gsCons (gNm 5) (gsCons (gNm 6) (gsCons (gNm 7) (gsCons (gNm 8) (gsCons (gNm 9) (gsCons (gNm 10) gsNil))))))
end J.M

namespace J.M
open PySem PySem.Spec PyProof.Rows L2 DS
/-! ### runs of the program -/
def rn : List Nat → Nat × Nat
  | [] => (0, 0)
  | a :: l => (a, (a :: l).getLast (List.cons_ne_nil _ _) + 1)
def prD (x : Nat × Nat) : D := .tup [nD x.1, nD x.2]
def rnD : Wo → D
  | some l => prD (rn l)
  | none => .non
/-! == of pairs -/
def rnP : Wo → PyData
  | some l => .tuple [.int ((rn l).1 : Nat), .int ((rn l).2 : Nat)]
  | none => .none
end J.M

namespace J.M
open PySem PySem.Spec PyProof.Rows L2 DS
/-! ### the join of some runs -/
/-! ### all beginnings -/
def begs (ws : List Wo) (k : Nat) : List Wo := (List.range (k + 1)).map fun i => allJ (ws.take i)
/-! ### what a goal says -/
end J.M

namespace J.M
open PySem PySem.Spec PyProof.Rows L2 DS
/-! ### what a place holds behind a clause -/
/-! ### goals of a book -/
theorem goal_of_ok {sk : List Pl} (h : SOk sk) {p : Pl} (hp : p ∈ sk) (μ : Mu) : F_Book_goal_of [bookD sk, nmD p.nm] μ = .ok p.goal.read μ := by
  have hx : exitD μ.length p.goal.read μ = .ok p.goal.read μ := by rw [exit_in (by cases p.goal <;> rfl), List.take_length]
  refine (fn_ret (g := B_Book_goal_of) ?_).trans hx
  show sRet _ [some (bookD sk), some (nmD p.nm)] μ = _
  have hm : ∀ m, xMeth "Book" "plan" F_Book_plan (xVar 0) (xaCons (xVar 1) xaNil) [some (bookD sk), some (nmD p.nm)] m = F_Book_plan [bookD sk, nmD p.nm] m := fun _ => rfl
  have i1 : ∀ m, ixD p.parts (.int 1) m = .ok (.str p.goal.text) m := fun m => IX.2.2.2.2.2.1
  simp only [AP, AB, hm, bplan_ok h hp, i1, (h.ok p hp).goal.read]
/-! ### a round of the program -/
abbrev rhoR (sk : List Pl) (r : List Cl) (ws : List Wo) (μ : Mu) (x4 x5 x6 x7 x8 : Option D) : Rho := [some (bookD sk), some (.lst (r.map Cl.obj)), some (.lst (ws.map rnD)), some (.loc μ.length), x4, x5, x6, x7, x8]
end J.M

namespace J.M
open PySem PySem.Spec PyProof.Rows L2 DS
/-! ### levels -/
def ws0 (n : Nat) : List Wo := (List.range n).map fun k => some [k]
def lev (sk : List Pl) (rs : List (List Cl)) (n i : Nat) : List Wo := (rs.take i).foldl (fun ws r => doneL sk r ws) (ws0 n)
def levs (sk : List Pl) (rs : List (List Cl)) (n k : Nat) : List (List Wo) := (List.range (k + 1)).map fun i => lev sk rs n i
def lsD (e : Wo → D) (ws : List Wo) : D := .lst (ws.map e)
end J.M

namespace J.M
open PySem PySem.Spec PyProof.Rows L2 DS
/-! ### what is due -/
def dueW : Gl → Nat → Wo
  | .all, k => some (List.range' 0 (k + 1))
  | .before, k => some (List.range' 0 k)
  | .last q, k => some (List.range' (k + 1 - q) (k + 1 - (k + 1 - q)))
theorem law_due_ok {g : Gl} (k : Nat) (hk : k ≤ 1000) (μ : Mu) : F__law_due [g.dat, nD k] μ = .ok (woD (dueW g k)) μ := by
  refine (fn_ret (g := B__law_due) ?_).trans (wo_exit _ μ)
  have i3 : ∀ m, addD (nD k) (.int 1) m = .ok (nD (k + 1)) m := fun m => rfl
  have x1 : ∀ (f : XA) (r : Rho) (m : Mu), xTupR f r m = (f r m).bind frzT := fun _ _ _ => rfl
  have fz : ∀ (s j : Nat) m, j ≤ 2000 → frzT ((List.range j).map fun i => nD (s + i)) m = .ok (woD (some (List.range' s j))) m := fun s j m hj => by
    unfold frzT
    rw [if_pos (by rw [List.length_map, List.length_range]; omega)]
    show _ = Out.ok (D.tup ((List.range' s j).map nD)) m
    rw [List.range'_eq_map_range, List.map_map]
    rfl
  have rg1 : ∀ (j : Nat) m, j ≤ 2000 → rngD1 [nD j] m = .ok ((List.range j).map fun i => nD (0 + i)) m := fun j m hj => by
    rw [show rngD1 [nD j] m = _ from rng1_ok (show j < 2 ^ 62 by omega) m, rngL_nD]
    congr 2
    funext i
    rw [Nat.zero_add]
  cases g with
  | all =>
    have h0 : ∀ m, ixD (Gl.dat .all) (.int 0) m = .ok (.str "all") m := fun m => IX.2.2.2.2.1
    have t0 : ∀ m, eqD (.str "all") (.str "last") m = .ok (.bl false) m := fun m => rfl
    have t1 : ∀ m, eqD (.str "all") (.str "all") m = .ok (.bl true) m := fun m => rfl
    show sSeq _ _ [some (Gl.dat .all), some (nD k)] μ = _
    have f1 : ∀ z, sIf (xTest (xOp eqD (xOp ixD (xVar 0) (xC (.int 0))) (xC (.str "last")))) z sNil [some (Gl.dat .all), some (nD k)] μ = .next [some (Gl.dat .all), some (nD k)] μ := fun z => by
      simp only [AP, AV, AB, LS, h0, t0, Bool.false_eq_true, if_false]
    rw [seq_next (f1 _)]
    simp only [x1, AP, AV, AB, LS, h0, t1, if_true, i3, rg1 _ _ (show k + 1 ≤ 2000 by omega), fz _ _ _ (show k + 1 ≤ 2000 by omega), dueW]
  | before =>
    have h0 : ∀ m, ixD (Gl.dat .before) (.int 0) m = .ok (.str "before") m := fun m => IX.2.2.2.2.1
    have t0 : ∀ m, eqD (.str "before") (.str "last") m = .ok (.bl false) m := fun m => rfl
    have t1 : ∀ m, eqD (.str "before") (.str "all") m = .ok (.bl false) m := fun m => rfl
    show sSeq _ _ [some (Gl.dat .before), some (nD k)] μ = _
    have f1 : ∀ z, sIf (xTest (xOp eqD (xOp ixD (xVar 0) (xC (.int 0))) (xC (.str "last")))) z sNil [some (Gl.dat .before), some (nD k)] μ = .next [some (Gl.dat .before), some (nD k)] μ := fun z => by
      simp only [AP, AV, AB, LS, h0, t0, Bool.false_eq_true, if_false]
    rw [seq_next (f1 _)]
    simp only [x1, AP, AV, AB, LS, h0, t1, Bool.false_eq_true, if_false, rg1 _ _ (show k ≤ 2000 by omega), fz _ _ _ (show k ≤ 2000 by omega), dueW]
  | last q =>
    have h0 : ∀ m, ixD (Gl.dat (.last q)) (.int 0) m = .ok (.str "last") m := fun m => IX.2.2.2.2.1
    have h1 : ∀ m, ixD (Gl.dat (.last q)) (.int 1) m = .ok (.int (q : Nat)) m := fun m => IX.2.2.2.2.2.1
    have t0 : ∀ m, eqD (.str "last") (.str "last") m = .ok (.bl true) m := fun m => rfl
    have mx : ∀ m, maxF [.int 0, .int ((k + 1 : Nat) - (q : Int))] m = .ok (nD (k + 1 - q)) m := fun m => by
      show Out.ok (D.int (if (((k + 1 : Nat) : Int) - q) > 0 then (((k + 1 : Nat) : Int) - q) else 0)) m = Out.ok (D.int ((k + 1 - q : Nat) : Int)) m
      congr 2
      split <;> omega
    have sb : ∀ m, subD (nD (k + 1)) (.int (q : Nat)) m = .ok (.int ((k + 1 : Nat) - (q : Int))) m := fun m => rfl
    have rg2 : ∀ m, rngD2 [nD (k + 1 - q), nD (k + 1)] m = .ok ((List.range (k + 1 - (k + 1 - q))).map fun i => nD (k + 1 - q + i)) m := fun m => by
      unfold rngD2 nD
      simp only
      rw [if_pos (by omega)]
      congr 1
      unfold rngL
      rw [show (((k + 1 : Nat) : Int) - ((k + 1 - q : Nat) : Int)).toNat = k + 1 - (k + 1 - q) by omega]
      rfl
    show sSeq _ _ [some (Gl.dat (.last q)), some (nD k)] μ = _
    refine seq_ret ?_
    simp only [x1, AP, AV, AB, LS, h0, h1, t0, if_true, i3, sb, mx, rg2, fz _ _ _ (show k + 1 - (k + 1 - q) ≤ 2000 by omega), dueW]
/-! ### wrong places -/
def wrongs (sk : List Pl) (p : Pl) (n : Nat) : List Nat := (List.range n).filter fun k => !decide (gw (lev sk p.rounds n p.rounds.length) k = dueW p.goal k)
end J.M

namespace J.M
open PySem PySem.Spec PyProof.Rows L2 DS
/-! ### the functions of the program -/
theorem check_size_ok {n most : Nat} (h1 : 1 ≤ n) (h2 : n ≤ most) (μ : Mu) : F_check_size [.int (n : Nat), .int (most : Nat)] μ = .ok .non μ := by
  have e : ∀ m, F_is_between [.int (n : Nat), .int 1, .int (most : Nat)] m = .ok (.bl true) m := fun m => by
    rw [is_between_ok, decide_eq_true (show (1 : Int) ≤ (n : Nat) by omega), decide_eq_true (show ((n : Nat) : Int) ≤ (most : Nat) by omega)]
    rfl
  simp only [F_check_size, B_check_size, fn_ap, rho0, List.map, List.replicate, List.length, Nat.reduceSub, Nat.reduceAdd, List.cons_append, List.nil_append, AP, AV, AB, LS, e, Bool.not_true, Bool.false_eq_true, if_false, List.take_length]
def tpD (e : Wo → D) (ws : List Wo) : D := .tup (ws.map e)
def lvD (sk : List Pl) (p : Pl) (n : Nat) : D := .tup ((levs sk p.rounds n p.rounds.length).map (tpD rnD))
def hld (sk : List Pl) (p : Pl) (n : Nat) : Bool := decide (n ≤ p.base) || (wrongs sk p n).isEmpty
/-! ### texts of levels -/
def tpP (ws : List Wo) : PyData := .tuple (ws.map rnP)
end J.M

/-! # GA: lemmas on the combinators, no program in sight -/
namespace J
open PySem PySem.Spec PyProof.Rows L2 DS
theorem lc_map {α : Type} {i : Nat} {te : XE'} {r0 : Rho} {μ : Mu} (e : α → D) (f : α → D) {xs : List α}
    (h2 : ∀ x ∈ xs, ∀ acc, te (r0.set i (some (e x))) (μ ++ [.lst acc]) = .ok (f x) (μ ++ [.lst acc]))
    (h3 : ∀ x ∈ xs, (f x).inB μ.length = true) (hl : xs.length ≤ sizeLine) :
    lcD (gNm i) xYes te r0 (xs.map e) μ = .ok (.lst (xs.map f)) μ := by
  have go : ∀ (ys : List α) (acc : List D), (∀ y ∈ ys, y ∈ xs) → acc.length + ys.length ≤ sizeLine → lcF (gNm i) xYes te μ.length r0 (ys.map e) (μ ++ [.lst acc]) = .ok () (μ ++ [.lst (acc ++ ys.map f)]) := fun ys => by
    induction ys with
    | nil => intro acc _ _; simp [lcF]
    | cons y ys ih =>
      intro acc hm hl
      rw [List.length_cons] at hl
      have hy := hm y (List.mem_cons_self ..)
      have e : pushD μ.length (f y) (μ ++ [.lst acc]) = .ok () (μ ++ [.lst (acc ++ [f y])]) := by
        unfold pushD
        rw [List.getElem?_append_right (Nat.le_refl _), Nat.sub_self]
        simp only [List.getElem?_cons_zero]
        rw [if_pos ⟨h3 y hy, by omega⟩, List.set_append_right _ _ (Nat.le_refl _), Nat.sub_self]
        rfl
      rw [List.map_cons, lcF]
      simp only [gNm, Out.ne, Out.bind, xYes, if_true, h2 y hy acc, e]
      rw [ih (acc ++ [f y]) (fun z hz => hm z (List.mem_cons_of_mem _ hz)) (by rw [List.length_append]; simp; omega)]
      simp
  unfold lcD
  rw [go xs [] (fun _ h => h) (by simpa using hl)]
  simp [Out.bind, lcEnd]

theorem AP : (∀ {g : D → D → Mu → Out D} {a b : XE'} {r : Rho} {m : Mu}, xOp g a b r m = (a r m).bind fun x m1 => (b r m1).bind fun y m2 => g x y m2) ∧
  (∀ {f : XE'} {r : Rho} {m : Mu}, xTest f r m = (f r m).bind asB) ∧
  (∀ {a b : XT} {r : Rho} {m : Mu}, xAndT a b r m = (a r m).bind fun k m1 => if k then b r m1 else .ok false m1) ∧
  (∀ {a b : XT} {r : Rho} {m : Mu}, xOrT a b r m = (a r m).bind fun k m1 => if k then .ok true m1 else b r m1) ∧
  (∀ {a : XT} {r : Rho} {m : Mu}, xNotT a r m = (a r m).bind fun k m1 => .ok (!k) m1) ∧
  (∀ {a b : XE'} {r : Rho} {m : Mu}, xAnd a b r m = ((a r m).bind asB).bind fun k m1 => if k then b r m1 else .ok (.bl false) m1) ∧
  (∀ {a b : XE'} {r : Rho} {m : Mu}, xOr a b r m = ((a r m).bind asB).bind fun k m1 => if k then .ok (.bl true) m1 else b r m1) ∧
  (∀ {a : XE'} {r : Rho} {m : Mu}, xNot a r m = ((a r m).bind asB).bind fun k m1 => .ok (.bl (!k)) m1) ∧
  (∀ {t : XT} {a b : XE'} {r : Rho} {m : Mu}, xIf t a b r m = (t r m).bind fun k m1 => if k then a r m1 else b r m1) ∧
  (∀ {g g' : D → D → Mu → Out D} {a b k : XE'} {r : Rho} {m : Mu}, xChain g g' a b k r m = (a r m).bind fun x m1 => (b r m1).bind fun y m2 => ((g x y m2).bind asB).bind fun q m3 => if q then (k r m3).bind fun z m4 => g' y z m4 else .ok (.bl false) m3) ∧
  (∀ {r : Rho} {m : Mu}, xaNil r m = .ok [] m) ∧
  (∀ {a : XE'} {b : XA} {r : Rho} {m : Mu}, xaCons a b r m = (a r m).bind fun x m1 => (b r m1).bind fun xs m2 => .ok (x :: xs) m2) ∧
  (∀ {a : XA} {r : Rho} {m : Mu}, xTup a r m = (a r m).bind fun ds m1 => .ok (.tup ds) m1) ∧
  (∀ {a : XA} {r : Rho} {m : Mu}, xLst a r m = (a r m).bind fun ds m1 => .ok (.lst ds) m1) ∧
  (∀ {a : XA} {r : Rho} {m : Mu}, xNew a r m = (a r m).bind fun ds m1 => if D.inL m1.length ds then .ok (.loc m1.length) (m1 ++ [.lst ds]) else .stuck) ∧
  (∀ {d : D} {r : Rho} {m : Mu}, xC d r m = .ok d m) ∧
  (∀ {r : Rho} {m : Mu}, xYes r m = .ok true m) ∧
  (∀ {r : Rho} {m : Mu}, xoN r m = .ok none m) ∧
  (∀ {a : XE'} {r : Rho} {m : Mu}, xoS a r m = (a r m).bind asI) ∧
  (∀ {a : XE'} {lo hi : XO} {r : Rho} {m : Mu}, xSl a lo hi r m = (a r m).bind fun d m1 => (lo r m1).bind fun l m2 => (hi r m2).bind fun h m3 => slD d l h m3) ∧
  (∀ {cn f : Str} {a : XE'} {r : Rho} {m : Mu}, xFld cn f a r m = (a r m).bind (fldD cn f)) ∧
  (∀ {G : Fn} {a : XA} {r : Rho} {m : Mu}, xCall G a r m = (a r m).bind G) ∧
  (∀ {cn : Str} {G : Fn} {frz : Bool} {a : XA} {r : Rho} {m : Mu}, xMake cn G frz a r m = (a r m).bind (makeD cn G frz)) ∧
  (∀ {T : String} {g : Fn} {o : XE'} {a : XA} {r : Rho} {m : Mu}, xBM T g o a r m = (o r m).bind fun d m1 => if tyD T m1 d then (a r m1).bind fun ds m2 => g (d :: ds) m2 else .stuck) ∧
  (∀ {f : XA} {vs : List Nat} {g : XG} {tt : XT} {te : XE'} {r : Rho} {m : Mu}, xLc f vs g tt te r m = (f r m).bind fun xs m1 => lcD g tt te (wipeR r vs) xs m1) ∧
  (∀ {f : XE'} {r : Rho} {m : Mu}, xiSeq f r m = (f r m).bind seqD) ∧
  (∀ {f : XA} {r : Rho} {m : Mu}, xiRng1 f r m = (f r m).bind rngD1) ∧
  (∀ {f : XA} {r : Rho} {m : Mu}, xiRng2 f r m = (f r m).bind rngD2) ∧
  (∀ {f : XA} {r : Rho} {m : Mu}, xiEnum' f r m = (f r m).bind enumD') ∧
  (∀ {r : Rho} {m : Mu}, sNil r m = .next r m) ∧
  (∀ {f : XE'} {r : Rho} {m : Mu}, sExpr f r m = (f r m).stm r fun _ m1 => .next r m1) ∧
  (∀ {f : XE'} {r : Rho} {m : Mu}, sRet f r m = (f r m).stm r fun d m1 => .ret d m1) ∧
  (∀ {t : XT} {f g : XS} {r : Rho} {m : Mu}, sIf t f g r m = (t r m).stm r fun k m1 => if k then f r m1 else g r m1) ∧
  (∀ {f : XE'} {g : XG} {r : Rho} {m : Mu}, sAsg f g r m = (f r m).stm r fun d m1 => (g d r m1).stm r fun r' m2 => .next r' m2) ∧
  (∀ {f : XA} {g : XG} {b : XS} {r : Rho} {m : Mu}, sFor f g b r m = (f r m).stm r fun xs m1 => loopF g b xs r m1) ∧
  (∀ {i : Nat} {d : D} {r : Rho} {m : Mu}, gNm i d r m = .ok (r.set i (some d)) m) ∧
  (∀ {o i : XE'} {d : D} {r : Rho} {m : Mu}, gSb o i d r m = (o r m).bind fun ov m1 => (i r m1).bind fun iv m2 => (setD ov iv d m2).bind fun _ m3 => .ok r m3) ∧
  (∀ {n : Nat} {g : XGs} {ds : List D} {r : Rho} {m : Mu}, gTp n g (.tup ds) r m = if ds.length = n then g ds r m else .stuck) ∧
  (∀ {n : Nat} {g : XGs} {ds : List D} {r : Rho} {m : Mu}, gTp n g (.lst ds) r m = if ds.length = n then g ds r m else .stuck) ∧
  (∀ {r : Rho} {m : Mu}, gsNil [] r m = .ok r m) ∧
  (∀ {g : XG} {gs : XGs} {d : D} {ds : List D} {r : Rho} {m : Mu}, gsCons g gs (d :: ds) r m = (g d r m).bind fun r1 m1 => gs ds r1 m1) ∧
  (∀ {r : Rho} {m : Mu} {f g : XS}, sSeq f g r m = (match f r m with
  | .next r' m' => g r' m'
  | o => o)) := by
  refine ⟨?_, ?_, ?_, ?_, ?_, ?_, ?_, ?_, ?_, ?_, ?_, ?_, ?_, ?_, ?_, ?_, ?_, ?_, ?_, ?_, ?_, ?_, ?_, ?_, ?_, ?_, ?_, ?_, ?_, ?_, ?_, ?_, ?_, ?_, ?_, ?_, ?_, ?_, ?_, ?_, ?_, ?_⟩ <;> intros <;> rfl
theorem AV {i : Nat} {r : Rho} {m : Mu} : xVar i r m = (match r[i]? with
  | some (some d) => .ok d m
  | _ => .stuck) := rfl
theorem AB : (∀ {α β : Type} {a : α} {m : Mu} {k : α → Mu → Out β}, (Out.ok a m).bind k = k a m) ∧ (∀ {α : Type} {a : α} {m : Mu} {r : Rho} {k : α → Mu → SO}, (Out.ok a m).stm r k = k a m) ∧ (∀ {b : Bool} {m : Mu}, asB (.bl b) m = .ok b m) ∧ (∀ {i : Int} {m : Mu}, asI (.int i) m = .ok (some i) m) ∧
  (∀ {xs : List D} {m : Mu}, seqD (.lst xs) m = .ok xs m) ∧ (∀ {xs : List D} {m : Mu}, seqD (.fix xs) m = .ok xs m) ∧ (∀ {xs : List D} {m : Mu}, seqD (.tup xs) m = .ok xs m) := by
  refine ⟨?_, ?_, ?_, ?_, ?_, ?_, ?_⟩ <;> intros <;> rfl
theorem fn_ap {n : Nat} {keep : Bool} {g : XS} {ds : List D} {m : Mu} : fnOf n keep g ds m = (match g (rho0 n ds) m with
  | .next _ m' => .ok .non (m'.take m.length)
  | .ret d m' => if keep then .ok d m' else exitD m.length d m'
  | .exc c fs _ m' => if D.inF m.length fs then .exc c fs (m'.take m.length) else .stuck
  | _ => .stuck) := rfl
theorem exit_in {n : Nat} {d : D} {m : Mu} (h : d.inB n = true) : exitD n d m = .ok d (m.take n) := by
  unfold exitD
  rw [if_pos h]
theorem LS : (∀ {α : Type} {x : α} {l : List α}, (x :: l)[0]? = some x) ∧ (∀ {α : Type} {x : α} {l : List α} {i : Nat}, (x :: l)[i + 1]? = l[i]?) ∧ (∀ {α : Type} {x y : α} {l : List α}, (x :: l).set 0 y = y :: l) ∧ (∀ {α : Type} {x y : α} {l : List α} {i : Nat}, (x :: l).set (i + 1) y = x :: l.set i y) := by
  refine ⟨?_, ?_, ?_, ?_⟩ <;> intros <;> rfl
theorem strs_map (l : List Str) : strsL (l.map .str) = some l := by
  induction l with
  | nil => rfl
  | cons x r ih => simp [strsL, ih]
theorem OI : (∀ {i j : Int} {m : Mu}, ltD (.int i) (.int j) m = .ok (.bl (decide (i < j))) m) ∧ (∀ {i j : Int} {m : Mu}, leD (.int i) (.int j) m = .ok (.bl (decide (i ≤ j))) m) ∧ (∀ {i j : Int} {m : Mu}, gtD (.int i) (.int j) m = .ok (.bl (decide (j < i))) m) ∧ (∀ {i j : Int} {m : Mu}, geD (.int i) (.int j) m = .ok (.bl (decide (j ≤ i))) m) ∧
  (∀ {i j : Int} {m : Mu}, addD (.int i) (.int j) m = .ok (.int (i + j)) m) ∧ (∀ {i j : Int} {m : Mu}, subD (.int i) (.int j) m = .ok (.int (i - j)) m) ∧
  (∀ {xs : List D} {m : Mu}, lenD [.lst xs] m = .ok (.int xs.length) m) ∧ (∀ {xs : List D} {m : Mu}, lenD [.tup xs] m = .ok (.int xs.length) m) ∧
  (∀ {xs : List D} {m : Mu}, enumD' [.lst xs] m = .ok (enumL 0 xs) m) ∧ (∀ {xs : List D} {m : Mu}, enumD' [.tup xs] m = .ok (enumL 0 xs) m) ∧
  (∀ {xs : List D} {m : Mu}, tupF [.lst xs] m = .ok (.tup xs) m) ∧ (∀ {xs : List D} {m : Mu}, tupF [.tup xs] m = .ok (.tup xs) m) ∧
  (∀ {d : D} {m : Mu}, isD d .non m = .ok (.bl (isNonD d)) m) ∧ (∀ {d : D} {m : Mu}, isntD d .non m = .ok (.bl (!isNonD d)) m) ∧
  (∀ {xs : List D} {lo hi : Option Int} {m : Mu}, slD (.lst xs) lo hi m = .ok (.lst (cutD xs lo hi)) m) ∧ (∀ {xs : List D} {lo hi : Option Int} {m : Mu}, slD (.tup xs) lo hi m = .ok (.tup (cutD xs lo hi)) m) := by
  refine ⟨?_, ?_, ?_, ?_, ?_, ?_, ?_, ?_, ?_, ?_, ?_, ?_, ?_, ?_, ?_, ?_⟩ <;> intros <;> rfl
theorem TY {cs : List Str} : (∀ {x : Str} {m : Mu}, isiF cs [.str x, .ty "str"] m = .ok (.bl true) m) ∧ (∀ {x : List D} {m : Mu}, isiF cs [.tup x, .ty "tuple"] m = .ok (.bl true) m) ∧ (∀ {x : Int} {m : Mu}, isiF cs [.int x, .ty "int"] m = .ok (.bl true) m) ∧ (∀ {x : Int} {m : Mu}, isiF cs [.int x, .ty "bool"] m = .ok (.bl false) m) ∧
  (∀ {x : Str} {m : Mu}, tyD "str" m (.str x) = true) ∧ (∀ {x : List D} {m : Mu}, tyD "list" m (.lst x) = true) := by
  refine ⟨?_, ?_, ?_, ?_, ?_, ?_⟩ <;> intros <;> rfl
theorem bs_map {α : Type} (p : α → Bool) (xs : List α) : bsL (xs.map fun x => .bl (p x)) = some (xs.map p) := by
  induction xs with
  | nil => rfl
  | cons x r ih => simp [bsL, ih]
theorem any_map {α : Type} (p : α → Bool) (xs : List α) (m : Mu) : anyF [.lst (xs.map fun x => .bl (p x))] m = .ok (.bl (xs.any p)) m := by
  unfold anyF
  simp only [lstOf, bs_map]
  congr 2
  induction xs with
  | nil => rfl
  | cons x r ih => simp_all
theorem all_map {α : Type} (p : α → Bool) (xs : List α) (m : Mu) : allF [.lst (xs.map fun x => .bl (p x))] m = .ok (.bl (xs.all p)) m := by
  unfold allF
  simp only [lstOf, bs_map]
  congr 2
  induction xs with
  | nil => rfl
  | cons x r ih => simp_all
theorem mem_enum {x : D} : ∀ {i : Nat} {xs : List D}, x ∈ enumL i xs → ∃ k y, xs[k]? = some y ∧ x = .tup [.int ((i + k : Nat) : Int), y]
  | _, [], h => by simp [enumL] at h
  | i, z :: r, h => by
    rw [enumL, List.mem_cons] at h
    rcases h with rfl | h
    · exact ⟨0, z, rfl, rfl⟩
    · obtain ⟨k, y, h1, h2⟩ := mem_enum h
      exact ⟨k + 1, y, h1, by rw [h2, show i + 1 + k = i + (k + 1) by omega]⟩
theorem loop_keep {g : XG} {body : XS} {μ : Mu} (I : Rho → Prop) : ∀ {xs : List D} {r : Rho}, I r → (∀ x ∈ xs, ∀ r, I r → ∃ r1 r2, g x r μ = .ok r1 μ ∧ body r1 μ = .next r2 μ ∧ I r2) → ∃ r', loopF g body xs r μ = .next r' μ ∧ I r'
  | [], r, h, _ => ⟨r, rfl, h⟩
  | x :: xs, r, h, hs => by
    obtain ⟨r1, r2, h1, h2, h3⟩ := hs x (List.mem_cons_self ..) r h
    obtain ⟨r', h4, h5⟩ := loop_keep I h3 fun y hy => hs y (List.mem_cons_of_mem _ hy)
    refine ⟨r', ?_, h5⟩
    rw [loopF, h1]
    simp only [AB, h2]
    exact h4
theorem cut_to (xs : List D) (k : Nat) (h : k ≤ xs.length) : cutD xs none (some (k : Int)) = xs.take k := by
  unfold DS.cutD
  rw [HT.sIx_nat, HT.sIx_none, Nat.min_eq_left h, List.drop_zero, Nat.sub_zero]
theorem join_len (y : Str) : ∀ parts : List Str, (Txt.join y parts).length ≤ (parts.map (·.length)).sum + parts.length * y.length := fun parts => by
  have hl : ∀ x : Str, x.length = (TL.tl x).length := fun x => by simp [Str.length]
  rw [TL.join_eq, hl, TL.tl_join]
  induction parts with
  | nil => simp [TL.joinL]
  | cons p r ih =>
    cases r with
    | nil => simp [TL.joinL, hl]
    | cons q r =>
      simp only [List.map_cons, TL.joinL, List.length_append, List.sum_cons, List.length_cons] at ih ⊢
      rw [hl p, hl y] at *
      have e : (r.length + 1 + 1) * (TL.tl y).length = (r.length + 1) * (TL.tl y).length + (TL.tl y).length := by rw [Nat.succ_mul]
      omega
theorem ix_at (i : Nat) (xs : List D) (x : D) (h : xs[i]? = some x) : L2.atI xs (i : Int) = some x := by
  have hl := (List.getElem?_eq_some_iff.mp h).1
  unfold L2.atI L2.ixN
  rw [if_pos (by omega), if_pos (by omega)]
  simpa using h
theorem EQ : (∀ {i j : Int} {m : Mu}, eqD (.int i) (.int j) m = .ok (.bl (i == j)) m) ∧ (∀ {i j : Int} {m : Mu}, neD (.int i) (.int j) m = .ok (.bl (!(i == j))) m) ∧ (∀ {i j : Str} {m : Mu}, eqD (.str i) (.str j) m = .ok (.bl (i == j)) m) ∧ (∀ {i j : Str} {m : Mu}, neD (.str i) (.str j) m = .ok (.bl (!(i == j))) m) := by
  refine ⟨?_, ?_, ?_, ?_⟩ <;> intros <;> rfl
theorem exit_bl {n : Nat} {b : Bool} {m : Mu} : exitD n (.bl b) m = .ok (.bl b) (m.take n) := exit_in rfl
theorem lc_fil {α : Type} {i : Nat} {tt : XT} {te : XE'} {r0 : Rho} {μ : Mu} (e : α → D) (b : α → Bool) (f : α → D) {xs : List α}
    (h1 : ∀ x ∈ xs, ∀ acc, tt (r0.set i (some (e x))) (μ ++ [.lst acc]) = .ok (b x) (μ ++ [.lst acc]))
    (h2 : ∀ x ∈ xs, b x = true → ∀ acc, te (r0.set i (some (e x))) (μ ++ [.lst acc]) = .ok (f x) (μ ++ [.lst acc]))
    (h3 : ∀ x ∈ xs, b x = true → (f x).inB μ.length = true) (hl : xs.length ≤ sizeLine) :
    lcD (gNm i) tt te r0 (xs.map e) μ = .ok (.lst ((xs.filter b).map f)) μ := by
  have go : ∀ (ys : List α) (acc : List D), (∀ y ∈ ys, y ∈ xs) → acc.length + ys.length ≤ sizeLine → lcF (gNm i) tt te μ.length r0 (ys.map e) (μ ++ [.lst acc]) = .ok () (μ ++ [.lst (acc ++ (ys.filter b).map f)]) := fun ys => by
    induction ys with
    | nil => intro acc _ _; simp [lcF]
    | cons y ys ih =>
      intro acc hm hl
      rw [List.length_cons] at hl
      have hy := hm y (List.mem_cons_self ..)
      rw [List.map_cons, lcF]
      simp only [gNm, Out.ne, Out.bind, h1 y hy acc]
      cases hb : b y
      · simp only [Bool.false_eq_true, if_false, List.filter_cons, hb]
        exact ih acc (fun z hz => hm z (List.mem_cons_of_mem _ hz)) (by omega)
      · have e : pushD μ.length (f y) (μ ++ [.lst acc]) = .ok () (μ ++ [.lst (acc ++ [f y])]) := by
          unfold pushD
          rw [List.getElem?_append_right (Nat.le_refl _), Nat.sub_self]
          simp only [List.getElem?_cons_zero]
          rw [if_pos ⟨h3 y hy hb, by omega⟩, List.set_append_right _ _ (Nat.le_refl _), Nat.sub_self]
          rfl
        simp only [if_true, List.filter_cons, hb, h2 y hy hb acc, e]
        rw [ih (acc ++ [f y]) (fun z hz => hm z (List.mem_cons_of_mem _ hz)) (by rw [List.length_append]; simp; omega)]
        simp
  unfold lcD
  rw [go xs [] (fun _ h => h) (by simpa using hl)]
  simp [Out.bind, lcEnd]
theorem inL_map {α : Type} (f : α → D) (n : Nat) (xs : List α) (h : ∀ x ∈ xs, (f x).inB n = true) : D.inL n (xs.map f) = true := by
  induction xs with
  | nil => rfl
  | cons x r ih => rw [List.map_cons, D.inL, h x (List.mem_cons_self ..), ih fun y hy => h y (List.mem_cons_of_mem _ hy)]; rfl
theorem any_no {α : Type} (xs : List α) : (xs.any fun _ => false) = false := by
  induction xs <;> simp_all
theorem IX : (∀ {x : D} {xs : List D} {m : Mu}, ixD (.lst (x :: xs)) (.int 0) m = .ok x m) ∧ (∀ {x y : D} {xs : List D} {m : Mu}, ixD (.lst (x :: y :: xs)) (.int 1) m = .ok y m) ∧ (∀ {x y z : D} {xs : List D} {m : Mu}, ixD (.lst (x :: y :: z :: xs)) (.int 2) m = .ok z m) ∧ (∀ {x y z w : D} {xs : List D} {m : Mu}, ixD (.lst (x :: y :: z :: w :: xs)) (.int 3) m = .ok w m) ∧
  (∀ {x : D} {xs : List D} {m : Mu}, ixD (.tup (x :: xs)) (.int 0) m = .ok x m) ∧ (∀ {x y : D} {xs : List D} {m : Mu}, ixD (.tup (x :: y :: xs)) (.int 1) m = .ok y m) ∧ (∀ {x y z : D} {xs : List D} {m : Mu}, ixD (.tup (x :: y :: z :: xs)) (.int 2) m = .ok z m) ∧ (∀ {x y z w : D} {xs : List D} {m : Mu}, ixD (.tup (x :: y :: z :: w :: xs)) (.int 3) m = .ok w m) := by
  have lt : ∀ {x : D} {xs : List D} {i : Nat} {y : D}, xs[i]? = some y → ∀ m, ixD (.lst xs) (.int (i : Int)) m = .ok y m := fun {x xs i y} h m => by
    unfold ixD
    simp only [lstOf, ix_at i xs y h]
  have tp : ∀ {x : D} {xs : List D} {i : Nat} {y : D}, xs[i]? = some y → ∀ m, ixD (.tup xs) (.int (i : Int)) m = .ok y m := fun {x xs i y} h m => by
    unfold ixD
    simp only [ix_at i xs y h]
  refine ⟨?_, ?_, ?_, ?_, ?_, ?_, ?_, ?_⟩ <;> intros
  · exact lt (x := .non) (i := 0) rfl _
  · exact lt (x := .non) (i := 1) rfl _
  · exact lt (x := .non) (i := 2) rfl _
  · exact lt (x := .non) (i := 3) rfl _
  · exact tp (x := .non) (i := 0) rfl _
  · exact tp (x := .non) (i := 1) rfl _
  · exact tp (x := .non) (i := 2) rfl _
  · exact tp (x := .non) (i := 3) rfl _
theorem loop_inv {g : XG} {body : XS} (I : Nat → Rho → Mu → Prop) : ∀ {xs : List D} {k : Nat} {r : Rho} {m : Mu}, I k r m → (∀ i x r m, xs[i]? = some x → I (k + i) r m → ∃ r1 m1 r2 m2, g x r m = .ok r1 m1 ∧ body r1 m1 = .next r2 m2 ∧ I (k + i + 1) r2 m2) → ∃ r' m', loopF g body xs r m = .next r' m' ∧ I (k + xs.length) r' m'
  | [], k, r, m, h, _ => ⟨r, m, rfl, h⟩
  | x :: xs, k, r, m, h, hs => by
    obtain ⟨r1, m1, r2, m2, h1, h2, h3⟩ := hs 0 x r m rfl h
    obtain ⟨r', m', h4, h5⟩ := loop_inv I (k := k + 1) h3 fun i y r m hy hi => by
      have := hs (i + 1) y r m hy (by rw [show k + (i + 1) = k + 1 + i by omega]; exact hi)
      rw [show k + (i + 1) + 1 = k + 1 + i + 1 by omega] at this
      exact this
    refine ⟨r', m', ?_, by rw [List.length_cons, show k + (xs.length + 1) = k + 1 + xs.length by omega]; exact h5⟩
    rw [loopF, h1]
    simp only [AB, h2]
    exact h4
theorem enum_get : ∀ {xs : List D} {b i : Nat}, (enumL b xs)[i]? = (xs[i]?).map fun y => .tup [.int ((b + i : Nat) : Int), y]
  | [], b, i => by simp [enumL]
  | x :: xs, b, 0 => rfl
  | x :: xs, b, i + 1 => by
    rw [enumL, List.getElem?_cons_succ, List.getElem?_cons_succ, enum_get, show b + 1 + i = b + (i + 1) by omega]
theorem dc_map {α : Type} {i : Nat} {tk te : XE'} {r0 : Rho} {μ : Mu} (e : α → D) (kf : α → Str) (f : α → D) {xs : List α}
    (h1 : ∀ x ∈ xs, ∀ acc, tk (r0.set i (some (e x))) (μ ++ [.dct acc]) = .ok (.str (kf x)) (μ ++ [.dct acc]))
    (h2 : ∀ x ∈ xs, ∀ acc, te (r0.set i (some (e x))) (μ ++ [.dct acc]) = .ok (f x) (μ ++ [.dct acc]))
    (h3 : ∀ x ∈ xs, (f x).inB μ.length = true) (hd : xs.Pairwise fun a b => (kf a == kf b) = false) (hl : xs.length < 1000) :
    (dcF (gNm i) tk te μ.length r0 (xs.map e) (μ ++ [.dct []])).bind (fun _ m2 => dcEnd μ.length m2) = .ok (.dct (xs.map fun x => (kf x, f x))) μ := by
  have look : ∀ (y : α) (ys : List α), (∀ z ∈ ys, (kf z == kf y) = false) → (ys.map fun x => (kf x, f x)).lookup (kf y) = none := fun y ys hz => by
    induction ys with
    | nil => rfl
    | cons z r ih =>
      rw [List.map_cons, List.lookup_cons]
      have := hz z (List.mem_cons_self ..)
      rw [show (kf y == kf z) = false by rw [beq_eq_false_iff_ne] at this ⊢; exact Ne.symm this]
      exact ih fun w hw => hz w (List.mem_cons_of_mem _ hw)
  have go : ∀ (ys zs : List α), zs ++ ys = xs → dcF (gNm i) tk te μ.length r0 (ys.map e) (μ ++ [.dct (zs.map fun x => (kf x, f x))]) = .ok () (μ ++ [.dct (xs.map fun x => (kf x, f x))]) := fun ys => by
    induction ys with
    | nil => intro zs hz; rw [List.append_nil] at hz; subst hz; simp [dcF]
    | cons y ys ih =>
      intro zs hz
      have hy : y ∈ xs := by rw [← hz]; simp
      have hlen : zs.length < xs.length := by rw [← hz]; simp
      have e : dputD μ.length (.str (kf y)) (f y) (μ ++ [.dct (zs.map fun x => (kf x, f x))]) = .ok () (μ ++ [.dct ((zs ++ [y]).map fun x => (kf x, f x))]) := by
        unfold dputD
        rw [List.getElem?_append_right (Nat.le_refl _), Nat.sub_self]
        simp only [List.getElem?_cons_zero]
        rw [if_pos ⟨h3 y hy, by rw [List.length_map]; omega, look y zs fun z hz' => by
          rw [← hz] at hd
          exact (List.pairwise_append.mp hd).2.2 z hz' y (List.mem_cons_self ..)⟩, List.set_append_right _ _ (Nat.le_refl _), Nat.sub_self]
        simp
      rw [List.map_cons, dcF]
      simp only [gNm, Out.ne, Out.bind, h1 y hy, h2 y hy, e]
      exact ih (zs ++ [y]) (by rw [← hz]; simp)
  have g0 := go xs [] rfl
  rw [List.map_nil] at g0
  rw [g0]
  simp [Out.bind, dcEnd]
theorem inF_map {α : Type} (k : α → Str) (f : α → D) (n : Nat) (xs : List α) (h : ∀ x ∈ xs, (f x).inB n = true) : D.inF n (xs.map fun x => (k x, f x)) = true := by
  induction xs with
  | nil => rfl
  | cons x r ih => rw [List.map_cons, D.inF, h x (List.mem_cons_self ..), ih fun y hy => h y (List.mem_cons_of_mem _ hy)]; rfl
def cupC (a b c : Int) : Cell := .lst [.int a, .int b, .int c]
def Cup (n : Nat) (μ : Mu) : Prop := ∃ a b c, μ[n]? = some (cupC a b c)
def Sip (n : Nat) (μ μ' : Mu) : Prop := ∃ a b c, μ' = μ.set n (cupC a b c)
theorem Cup.lt {n : Nat} {μ : Mu} (h : Cup n μ) : n < μ.length := by
  obtain ⟨a, b, c, e⟩ := h
  exact (List.getElem?_eq_some_iff.mp e).1
theorem Sip.refl {n : Nat} {μ : Mu} (h : Cup n μ) : Sip n μ μ := by
  obtain ⟨a, b, c, e⟩ := h
  refine ⟨a, b, c, ?_⟩
  obtain ⟨hl, q⟩ := List.getElem?_eq_some_iff.mp e
  rw [← q, List.set_getElem_self]
theorem Sip.trans {n : Nat} {μ μ1 μ2 : Mu} (h : Sip n μ μ1) (g : Sip n μ1 μ2) : Sip n μ μ2 := by
  obtain ⟨a, b, c, rfl⟩ := h
  obtain ⟨a', b', c', rfl⟩ := g
  exact ⟨a', b', c', by rw [List.set_set]⟩
theorem Sip.cup {n : Nat} {μ μ1 : Mu} (h : Sip n μ μ1) (g : Cup n μ) : Cup n μ1 := by
  obtain ⟨a, b, c, rfl⟩ := h
  exact ⟨a, b, c, by rw [List.getElem?_set_self g.lt]⟩
theorem Sip.len {n : Nat} {μ μ1 : Mu} (h : Sip n μ μ1) : μ1.length = μ.length := by
  obtain ⟨a, b, c, rfl⟩ := h
  rw [List.length_set]
theorem Sip.app {n : Nat} {μ μ1 ν : Mu} (h : Sip n (μ ++ ν) μ1) (g : n < μ.length) : ∃ μ2, Sip n μ μ2 ∧ μ1 = μ2 ++ ν := by
  obtain ⟨a, b, c, rfl⟩ := h
  exact ⟨μ.set n (cupC a b c), ⟨a, b, c, rfl⟩, by rw [List.set_append_left _ _ g]⟩
theorem Cup.app {n : Nat} {μ : Mu} (h : Cup n μ) (ν : Mu) : Cup n (μ ++ ν) := by
  have hl := h.lt
  obtain ⟨a, b, c, e⟩ := h
  exact ⟨a, b, c, by rw [List.getElem?_append_left hl]; exact e⟩
theorem Sip.take {n k : Nat} {μ μ1 : Mu} (h : Sip n μ μ1) (hk : k = μ.length) : μ1.take k = μ1 := by
  rw [List.take_of_length_le (by rw [h.len, hk]; exact Nat.le_refl _)]
theorem ix_loc {n i : Nat} {m : Mu} {xs : List D} {x : D} (h : m[n]? = some (.lst xs)) (hx : xs[i]? = some x) : ixD (.loc n) (.int (i : Int)) m = .ok x m := by
  unfold ixD
  simp only [lstOf, h, ix_at i xs x hx]
theorem ix_lst {i : Nat} {m : Mu} {xs : List D} {x : D} (hx : xs[i]? = some x) : ixD (.lst xs) (.int (i : Int)) m = .ok x m := by
  unfold ixD
  simp only [lstOf, ix_at i xs x hx]
theorem set_cup {n : Nat} {m : Mu} {a b c v : Int} (h : m[n]? = some (cupC a b c)) : setD (.loc n) (.int 2) (.int v) m = .ok () (m.set n (cupC a b v)) ∧ setD (.loc n) (.int 1) (.int v) m = .ok () (m.set n (cupC a v c)) ∧ setD (.loc n) (.int 0) (.int v) m = .ok () (m.set n (cupC v b c)) := by
  unfold cupC at h
  refine ⟨?_, ?_, ?_⟩ <;>
  · unfold setD
    simp only [h]
    rfl
theorem exit_int {n : Nat} {b : Int} {m : Mu} : exitD n (.int b) m = .ok (.int b) (m.take n) := exit_in rfl
theorem rng_get {lo : Int} {N k : Nat} (h : k < N) : (rngL lo N)[k]? = some (.int (lo + k)) := by
  unfold rngL
  rw [List.getElem?_map, List.getElem?_range h]
  rfl
theorem lc_rng {T : Type} {i n : Nat} {te : XE'} {r0 : Rho} (enc : T → D) (hin : ∀ t m, (enc t).inB m = true) (Q : Nat → T → Prop) {N : Nat} (hN : N ≤ sizeLine)
    (he : ∀ k < N, ∀ μ, Cup n μ → ∃ t μ', te (r0.set i (some (.int (k : Nat)))) μ = .ok (enc t) μ' ∧ Q k t ∧ Sip n μ μ') {μ : Mu} (h : Cup n μ) :
    ∃ (ts : List T) (μ' : Mu), lcD (gNm i) xYes te r0 (rngL 0 N) μ = .ok (.lst (ts.map enc)) μ' ∧ ts.length = N ∧ (∀ k t, ts[k]? = some t → Q k t) ∧ Sip n μ μ' := by
  have go : ∀ (j : Nat) (ts : List T) (ν : Mu), ts.length + j = N → Cup n ν → ν.length = μ.length → (∀ k t, ts[k]? = some t → Q k t) → ∃ (ts' : List T) (ν' : Mu), lcF (gNm i) xYes te μ.length r0 ((rngL 0 N).drop ts.length) (ν ++ [.lst (ts.map enc)]) = .ok () (ν' ++ [.lst (ts'.map enc)]) ∧ ts'.length = N ∧ (∀ k t, ts'[k]? = some t → Q k t) ∧ Sip n ν ν' := fun j => by
    induction j with
    | zero =>
      intro ts ν hl hc hln hq
      refine ⟨ts, ν, ?_, hl, hq, Sip.refl hc⟩
      rw [List.drop_of_length_le (by simp [rngL]; omega)]
      rfl
    | succ j ih =>
      intro ts ν hl hc hln hq
      have hk : ts.length < N := by omega
      obtain ⟨t, ν1, e1, q1, s1⟩ := he ts.length hk (ν ++ [.lst (ts.map enc)]) (hc.app _)
      obtain ⟨ν2, s2, rfl⟩ := s1.app hc.lt
      have hd : (rngL 0 N).drop ts.length = .int ((ts.length : Nat) : Int) :: (rngL 0 N).drop (ts.length + 1) := by
        have := rng_get (lo := 0) hk
        rw [List.drop_eq_getElem?_toList_append, this]
        simp
      have hp : pushD μ.length (enc t) (ν2 ++ [.lst (ts.map enc)]) = .ok () (ν2 ++ [.lst ((ts ++ [t]).map enc)]) := by
        have hl2 : ν2.length = μ.length := s2.len.trans hln
        unfold pushD
        rw [List.getElem?_append_right (by omega), ← hl2, Nat.sub_self]
        simp only [List.getElem?_cons_zero]
        rw [if_pos ⟨hin _ _, by rw [List.length_map]; omega⟩, List.set_append_right _ _ (Nat.le_refl _), Nat.sub_self]
        simp
      obtain ⟨ts', ν', e2, l2, q2, s3⟩ := ih (ts ++ [t]) ν2 (by rw [List.length_append, List.length_singleton]; omega) (s2.cup hc) (s2.len.trans hln) (fun k u hu => by
        by_cases hkk : k < ts.length
        · rw [List.getElem?_append_left hkk] at hu
          exact hq k u hu
        · rw [List.getElem?_append_right (by omega)] at hu
          have : k = ts.length := by
            by_cases e : k - ts.length = 0
            · omega
            · obtain ⟨z, ez⟩ := Nat.exists_eq_succ_of_ne_zero e
              rw [ez] at hu
              cases hu
          subst this
          rw [Nat.sub_self] at hu
          cases hu
          exact q1)
      refine ⟨ts', ν', ?_, l2, q2, s2.trans s3⟩
      rw [hd, lcF]
      simp only [gNm, Out.ne, Out.bind, xYes, if_true, e1, hp]
      rw [List.length_append, List.length_singleton] at e2
      exact e2
  obtain ⟨ts, ν, e, l, q, s⟩ := go N [] μ (by simp) h rfl (fun k t ht => by simp at ht)
  refine ⟨ts, ν, ?_, l, q, s⟩
  rw [List.length_nil, List.drop_zero, List.map_nil] at e
  unfold lcD
  rw [e]
  have hl2 : ν.length = μ.length := s.len
  simp [Out.bind, lcEnd, ← hl2]
theorem md_ok {i j : Int} {m : Mu} (hj : 0 < j) : modD (.int i) (.int j) m = .ok (.int (i % j)) m := by
  unfold modD DS.intD
  simp only [decide_eq_true hj, if_true]
theorem mul_ok {i j : Int} {m : Mu} (h : -(2 ^ 64) < i ∧ i < 2 ^ 64) : mulD (.int i) (.int j) m = .ok (.int (i * j)) m := by
  unfold mulD mulOk
  simp only [decide_eq_true h, Bool.true_or, if_true]
theorem int_ok {i : Int} {m : Mu} : intF [.int i] m = .ok (.int i) m := rfl
theorem PAR : (∀ {i j : Nat} {a : XA} {r : Rho} {m : Mu}, sPar i j a r m = (a r m).stm r fun ds m1 => match ds with
  | [x, y] => .next ((r.set i (some x)).set j (some y)) m1
  | _ => .stuck) ∧ (∀ {i j l : Nat} {a : XA} {r : Rho} {m : Mu}, sPar3 i j l a r m = (a r m).stm r fun ds m1 => match ds with
  | [x, y, z] => .next (((r.set i (some x)).set j (some y)).set l (some z)) m1
  | _ => .stuck) := by
  refine ⟨?_, ?_⟩ <;> intros <;> rfl
theorem rng1_ok {k : Nat} (h : k < 2 ^ 62) (m : Mu) : rngD1 [.int (k : Int)] m = .ok (rngL 0 k) m := by
  unfold rngD1
  simp only
  rw [if_pos (by omega), Int.toNat_natCast]
theorem min_ok (a b : Nat) (m : Mu) : minF [.int a, .int b] m = .ok (.int ((min a b : Nat) : Int)) m := by
  show Out.ok (D.int (if (b : Int) < a then (b : Int) else a)) m = _
  congr 2
  split <;> omega
structure Shw (p : PyData) (k w : Nat) : Prop where
  sh : p.showable = true
  dp : p.depth ≤ k
  nd : p.hasDict = false
  lv : p.leavesShort 30 = true
  wt : p.weight ≤ w
  ly : p.canLay0 = true
structure ShwL (p : List PyData) (k w : Nat) : Prop where
  sh : PyData.showableAll p = true
  dp : PyData.depthAll p ≤ k
  nd : PyData.hasDictAll p = false
  lv : PyData.leavesShortAll 30 p = true
  wt : PyData.weightAll p ≤ w
  ly : PyData.canLayAll0 p = true
theorem ShwL.nil {k w : Nat} : ShwL [] k w := ⟨rfl, Nat.zero_le _, rfl, rfl, Nat.zero_le _, rfl⟩
theorem ShwL.cons {p : PyData} {ps : List PyData} {k w v : Nat} (h : Shw p k w) (g : ShwL ps k v) : ShwL (p :: ps) k (w + 1 + v) :=
  ⟨by rw [PyData.showableAll, h.sh, g.sh]; rfl, by rw [PyData.depthAll]; exact Nat.max_le.mpr ⟨h.dp, g.dp⟩, by rw [PyData.hasDictAll, h.nd, g.nd]; rfl, by rw [PyData.leavesShortAll, h.lv, g.lv]; rfl, by rw [PyData.weightAll]; have := h.wt; have := g.wt; omega, by rw [PyData.canLayAll0, h.ly, g.ly]; rfl⟩
theorem ShwL.all {ps : List PyData} {k w : Nat} (h : ∀ p ∈ ps, Shw p k w) : ShwL ps k ((w + 1) * ps.length) := by
  induction ps with
  | nil => exact .nil
  | cons p ps ih =>
    have := ShwL.cons (h p (List.mem_cons_self ..)) (ih fun q hq => h q (List.mem_cons_of_mem _ hq))
    rw [List.length_cons, Nat.mul_succ, Nat.add_comm]
    exact this
theorem Shw.tup {ps : List PyData} {k w : Nat} (h : ShwL ps k w) : Shw (.tuple ps) (k + 1) w :=
  ⟨by rw [PyData.showable]; exact h.sh, by rw [PyData.depth]; exact Nat.succ_le_succ h.dp, by rw [PyData.hasDict]; exact h.nd, by rw [PyData.leavesShort]; exact h.lv, by rw [PyData.weight]; exact h.wt, by rw [PyData.canLay0]; exact h.ly⟩
theorem Shw.lst {ps : List PyData} {k w : Nat} (h : ShwL ps k w) : Shw (.list ps) (k + 1) w :=
  ⟨by rw [PyData.showable]; exact h.sh, by rw [PyData.depth]; exact Nat.succ_le_succ h.dp, by rw [PyData.hasDict]; exact h.nd, by rw [PyData.leavesShort]; exact h.lv, by rw [PyData.weight]; exact h.wt, by rw [PyData.canLay0]; exact h.ly⟩
theorem loop_find {α : Type} {g : XG} {body : XS} {μ : Mu} (e : α → D) (I : Rho → Prop) (f : α → Option D) : ∀ {xs : List α} {r : Rho}, I r →
    (∀ x ∈ xs, ∀ r, I r → ∃ r1, g (e x) r μ = .ok r1 μ ∧ (∀ d, f x = some d → body r1 μ = .ret d μ) ∧ (f x = none → ∃ r2, body r1 μ = .next r2 μ ∧ I r2)) →
    (∀ d, xs.findSome? f = some d → loopF g body (xs.map e) r μ = .ret d μ) ∧ (xs.findSome? f = none → ∃ r', loopF g body (xs.map e) r μ = .next r' μ ∧ I r')
  | [], r, h, _ => ⟨(fun d h => nomatch h), fun _ => ⟨r, rfl, h⟩⟩
  | x :: xs, r, h, hs => by
    obtain ⟨r1, h1, h2, h3⟩ := hs x (List.mem_cons_self ..) r h
    rw [List.map_cons, loopF, h1]
    simp only [AB]
    cases hf : f x with
    | some d =>
      rw [List.findSome?_cons_of_isSome (by rw [hf]; rfl), hf]
      refine ⟨fun d' e => ?_, (fun e => nomatch e)⟩
      cases e
      rw [h2 d hf]
    | none =>
      obtain ⟨r2, h4, h5⟩ := h3 hf
      rw [List.findSome?_cons_of_isNone (by rw [hf]; rfl), h4]
      exact loop_find e I f h5 fun y hy => hs y (List.mem_cons_of_mem _ hy)
theorem catX_ok {xs ys : List D} {m : Mu} (h : xs.length + ys.length ≤ 1000) : addD (.lst xs) (.lst ys) m = .ok (.lst (xs ++ ys)) m := by
  show (if xs.length + ys.length ≤ sizeLine then Out.ok (D.lst (xs ++ ys)) m else .stuck) = _
  rw [if_pos (by unfold sizeLine; omega)]
theorem cut_to' (xs : List D) (k : Nat) : DS.cutD xs none (some (k : Int)) = xs.take k := by
  unfold DS.cutD
  rw [HT.sIx_nat, HT.sIx_none, List.drop_zero, Nat.sub_zero]
  by_cases h : k ≤ xs.length
  · rw [Nat.min_eq_left h]
  · rw [Nat.min_eq_right (by omega), List.take_length, List.take_of_length_le (by omega)]
theorem seq_next {f g : XS} {r r' : Rho} {m m' : Mu} (e : f r m = .next r' m') : sSeq f g r m = g r' m' := by
  show (match f r m with
    | .next r' m' => g r' m'
    | o => o) = _
  rw [e]
theorem mul_ok' {i j : Int} {m : Mu} (h : -(2 ^ 64) < j ∧ j < 2 ^ 64) : mulD (.int i) (.int j) m = .ok (.int (i * j)) m := by
  unfold mulD mulOk
  simp only [decide_eq_true h, Bool.or_true, if_true]
theorem lc_all {i : Nat} {te : XE'} {r0 : Rho} {xs : List D} (hl : xs.length ≤ 1000) (h : ∀ x ∈ xs, ∀ c ν, ∃ ν', te (r0.set i (some x)) (c :: ν) = .ok (.bl true) (c :: ν')) : lcD (gNm i) xYes te r0 xs [] = .ok (.lst (xs.map fun _ => .bl true)) [] := by
  have go : ∀ (ys : List D) (acc : List D) (ν : Mu), (∀ y ∈ ys, y ∈ xs) → acc.length + ys.length ≤ 1000 → ∃ ν', lcF (gNm i) xYes te 0 r0 ys (.lst acc :: ν) = .ok () (.lst (acc ++ ys.map fun _ => .bl true) :: ν') := fun ys => by
    induction ys with
    | nil => intro acc ν _ _; exact ⟨ν, by simp [lcF]⟩
    | cons y ys ih =>
      intro acc ν hm hl
      rw [List.length_cons] at hl
      obtain ⟨ν1, e1⟩ := h y (hm y (List.mem_cons_self ..)) (.lst acc) ν
      have e : pushD 0 (.bl true) (.lst acc :: ν1) = .ok () (.lst (acc ++ [.bl true]) :: ν1) := by
        unfold pushD
        simp only [List.getElem?_cons_zero]
        rw [if_pos ⟨rfl, by unfold sizeLine; omega⟩]
        rfl
      obtain ⟨ν2, e2⟩ := ih (acc ++ [.bl true]) ν1 (fun z hz => hm z (List.mem_cons_of_mem _ hz)) (by rw [List.length_append]; simp; omega)
      refine ⟨ν2, ?_⟩
      rw [lcF]
      simp only [gNm, Out.ne, Out.bind, xYes, if_true, e1, e]
      rw [e2]
      simp
  obtain ⟨ν', e⟩ := go xs [] [] (fun _ h => h) (by simpa using hl)
  unfold lcD
  show (lcF (gNm i) xYes te 0 r0 xs [.lst []]).bind _ = _
  rw [e]
  rfl
theorem allT_ok (xs : List D) (m : Mu) : allF [.lst (xs.map fun _ => .bl true)] m = .ok (.bl true) m := by
  rw [all_map (fun _ => true)]
  congr 2
  rw [List.all_eq_true]
  intro _ _
  rfl
theorem len_fix (ns : List Int) (m : Mu) : lenD [.fix (ns.map .int)] m = .ok (.int (ns.length : Nat)) m := by
  show Out.ok (D.int ((ns.map D.int).length : Nat)) m = _
  rw [List.length_map]
theorem max_ok (a b : Nat) (m : Mu) : maxF [.int a, .int b] m = .ok (.int ((max a b : Nat) : Int)) m := by
  show Out.ok (D.int (if (b : Int) > a then (b : Int) else a)) m = _
  congr 2
  split <;> omega
end J

/-! # GB: texts of books as lists of signs: what is read, no program in sight -/
namespace J
open PySem PySem.Spec PyProof.Rows L2 DS
open SX (S)
def K (s : String) : List Nat := s.toList.map Char.toNat
/-! ### signs, names, digits, classes -/
def low (c : Nat) : Bool := decide (97 ≤ c) && decide (c ≤ 122)
def dig (c : Nat) : Bool := decide (48 ≤ c) && decide (c ≤ 57)
def nameL : List Nat → Bool
  | [] => false
  | c :: r => low c && (decide (r.length < 8) && (c :: r).all fun x => low x || dig x)
def digL : List Nat → Option Nat
  | [c] => if dig c then some (c - 48) else none
  | _ => none
def clsL : List (List Nat) → Option (Nat × Nat)
  | [a, o, b] => if o = K "of" then (match digL a, digL b with
    | some r, some s => if 1 ≤ s ∧ s ≤ 3 ∧ r < s then some (r, s) else none
    | _, _ => none) else none
  | _ => none
/-- a clause that is read -/
structure Cu where
  w : List Nat
  rest : Nat
  step : Nat
  side : Option (List Nat)
  far : Option Nat
  goal : Option (List Nat)
def callW (ws : List (List Nat)) : Option Cu := match clsL (ws.drop 3) with
  | some (r, s) => if ws.getD 2 [] = K "on" ∧ nameL (ws.getD 1 []) = true then some ⟨K "call", r, s, none, none, some (ws.getD 1 [])⟩ else none
  | none => none
def clauseW (ws : List (List Nat)) : Option Cu := if ws.getD 0 [] = K "call" then callW ws else match clsL ((ws.drop 1).take 3) with
  | none => none
  | some (r, s) => if ws.getD 0 [] = K "clear" then (if ws.length = 4 then some ⟨K "clear", r, s, none, none, none⟩ else none) else
    if (ws.getD 0 [] = K "join" ∨ ws.getD 0 [] = K "take") ∧ ws.length = 6 ∧ (ws.getD 4 [] = K "left" ∨ ws.getD 4 [] = K "right") then (match digL (ws.getD 5 []) with
      | some d => if 1 ≤ d ∧ d ≤ 4 then some ⟨ws.getD 0 [], r, s, some (ws.getD 4 []), some d, none⟩ else none
      | none => none) else none
def clauseL (l : List Nat) : Option Cu := clauseW (TL.spl [32] 0 [] l)
def optS : Option (List Nat) → D
  | some l => .str (S l)
  | none => .non
def optN : Option Nat → D
  | some n => .int n
  | none => .non
def Cu.obj (c : Cu) : D := .obj "Clause" [("word", .str (S c.w)), ("rest", .int c.rest), ("step", .int c.step), ("side", optS c.side), ("far", optN c.far), ("goal", optS c.goal)]
def optC : Option Cu → D
  | some c => c.obj
  | none => .non
/-! ### rounds -/
def meetC (a b : Cu) : Bool := !(a.step == b.step) || a.rest == b.rest
def allSome {α : Type} : List (Option α) → Option (List α)
  | [] => some []
  | some x :: r => (allSome r).map (x :: ·)
  | none :: _ => none
def Cu.call (c : Cu) : Bool := decide (c.w = K "call")
def meets : List Cu → Bool
  | [] => false
  | c :: r => r.any (fun d => meetC d c) || meets r
def roundL (l : List Nat) : Option (List Cu) := match allSome ((TL.spl (K "; ") 0 [] l).map clauseL) with
  | none => none
  | some cs => if cs.length ≤ 3 ∧ (cs.all Cu.call = true ∨ cs.any Cu.call = false) ∧ meets cs = false then some cs else none
def optR : Option (List Cu) → D
  | some cs => .lst (cs.map Cu.obj)
  | none => .non
def goalL (l : List Nat) : Option (List Nat × Option Nat) := if l = K "all" ∨ l = K "before" then some (l, none) else if l.take 5 = K "last " then (match digL (l.drop 5) with
  | some d => if 1 ≤ d ∧ d ≤ 4 then some (K "last", some d) else none
  | none => none) else none
def optG : Option (List Nat × Option Nat) → D
  | some (w, n) => .tup [.str (S w), optN n]
  | none => .non
/-- which calls can stand -/
def standL (names above : List (List Nat)) (cs : List Cu) : Bool := cs.all fun c => match c.goal with
  | some g => decide (g ∈ names) && !(c.step == 1 && decide (g ∈ above))
  | none => true
/-! a def is run by its equations -/
end J

/-! # GS: what repr shows is a text of signs -/
namespace J
open PySem PySem.Spec PyProof.Rows L2 DS
open SX (S)
def Sok (x : Str) : Prop := ∀ c ∈ TL.tl x, c < 0x110000
theorem Sok.ok {x : Str} (h : Sok x) : PyData.strOk x = true := by
  show x.cps.all (· < 0x110000) = true
  rw [Array.all_eq_true']
  intro c hc
  exact decide_eq_true (h c (by show c ∈ x.cps.toList; simpa using hc))
theorem Sok.of {x : Str} (h : PyData.strOk x = true) : Sok x := fun c hc => by
  have h' : x.cps.all (· < 0x110000) = true := h
  rw [Array.all_eq_true'] at h'
  exact of_decide_eq_true (h' c (by have : c ∈ x.cps.toList := hc; simpa using this))
theorem Sok.app {x y : Str} (h : Sok x) (g : Sok y) : Sok (x ++ y) := fun c hc => by
  rw [TL.tl_append, List.mem_append] at hc
  exact hc.elim (h c) (g c)
theorem char_lt (c : Char) : c.toNat < 0x110000 := by
  have := c.valid
  rcases this with h | ⟨_, h⟩
  · have : c.toNat < 0xd800 := h
    omega
  · exact h
theorem Sok.lit (s : String) : Sok (Str.ofString s) := fun c hc => by
  rw [TL.tl_ofString] at hc
  obtain ⟨d, _, rfl⟩ := List.mem_map.mp hc
  exact char_lt d
theorem Sok.S {l : List Nat} (h : ∀ c ∈ l, c < 0x110000) : Sok (S l) := h
theorem reprChar_sok {q c : Nat} (hq : q < 0x110000) (hc : c < 0x110000) : ∀ d ∈ Builtin.Str.reprChar q c, d < 0x110000 := by
  have hex : ∀ w : Nat, ∀ d ∈ (let dd := (Nat.toDigits 16 c).map Char.toNat; List.replicate (w - dd.length) 48 ++ dd), d < 0x110000 := fun w d hd => by
    simp only [List.mem_append, List.mem_replicate, List.mem_map] at hd
    rcases hd with ⟨_, rfl⟩ | ⟨a, _, rfl⟩
    · decide
    · exact char_lt a
  intro d hd
  unfold Builtin.Str.reprChar at hd
  dsimp only at hd
  repeat' split at hd
  all_goals simp only [List.mem_append, List.mem_cons, List.not_mem_nil, or_false] at hd
  · rcases hd with rfl | rfl <;> omega
  · rcases hd with rfl | rfl <;> omega
  · rcases hd with rfl | rfl <;> omega
  · rcases hd with rfl | rfl <;> omega
  · rw [hd]; exact hc
  · rcases hd with (rfl | rfl) | hd
    · omega
    · omega
    · exact hex 2 d (by simpa using hd)
  · rcases hd with (rfl | rfl) | hd
    · omega
    · omega
    · exact hex 4 d (by simpa using hd)
  · rcases hd with (rfl | rfl) | hd
    · omega
    · omega
    · exact hex 8 d (by simpa using hd)
theorem Sok.repr {x : Str} (h : Sok x) : Sok (reprText x) := by
  have hq : reprQuote x < 0x110000 := by
    unfold reprQuote
    split <;> decide
  have go : ∀ (l : List Nat) (acc : Array Nat), (∀ c ∈ l, c < 0x110000) → (∀ c ∈ acc.toList, c < 0x110000) → ∀ c ∈ (l.foldl (fun out c => out ++ (Builtin.Str.reprChar (reprQuote x) c).toArray) acc).toList, c < 0x110000 := fun l => by
    induction l with
    | nil => intro acc _ ha; exact ha
    | cons a r ih =>
      intro acc hl ha
      rw [List.foldl_cons]
      refine ih _ (fun c hc => hl c (List.mem_cons_of_mem _ hc)) fun c hc => ?_
      rw [Array.toList_append, List.mem_append] at hc
      exact hc.elim (ha c) (reprChar_sok hq (hl a (List.mem_cons_self ..)) c)
  intro c hc
  have hc' : c ∈ ((x.cps.foldl (fun out c => out ++ (Builtin.Str.reprChar (reprQuote x) c).toArray) #[reprQuote x]).push (reprQuote x)).toList := hc
  rw [Array.toList_push, List.mem_append, ← Array.foldl_toList] at hc'
  rcases hc' with hc' | hc'
  · refine go x.cps.toList _ h ?_ c hc'
    intro d hd
    have : d = reprQuote x := by simpa using hd
    rw [this]; exact hq
  · have : c = reprQuote x := by simpa using hc'
    rw [this]; exact hq
theorem Sok.text : ∀ {ts : List Str} {k : Nat} {acc : Str}, Sok acc → (∀ t ∈ ts, Sok t) → Sok (textFrom k acc ts)
  | [], _, _, h, _ => h
  | t :: r, k, acc, h, g => Sok.text (ts := r) ((h.app (Sok.lit _)).app (g t (List.mem_cons_self ..))) fun t ht => g t (List.mem_cons_of_mem _ ht)
theorem memJ {sep : List Nat} {x : Nat} : ∀ {ps : List (List Nat)}, x ∈ TL.joinL sep ps → x ∈ sep ∨ ∃ p ∈ ps, x ∈ p
  | [], h => by simp [TL.joinL] at h
  | [p], h => .inr ⟨p, by simp, h⟩
  | p :: q :: r, h => by
    rw [TL.joinL, List.mem_append, List.mem_append] at h
    rcases h with h | h | h
    · exact .inr ⟨p, by simp, h⟩
    · exact .inl h
    · rcases memJ h with h | ⟨p', hp, h⟩
      · exact .inl h
      · exact .inr ⟨p', List.mem_cons_of_mem _ hp, h⟩
theorem Sok.join {y : Str} {ts : List Str} (h : Sok y) (g : ∀ t ∈ ts, Sok t) : Sok (Str.join y ts) := fun c hc => by
  rw [TL.tl_join] at hc
  rcases memJ hc with q | ⟨p, hp, q⟩
  · exact h c q
  · obtain ⟨t, ht, rfl⟩ := List.mem_map.mp hp
    exact g t ht c q
mutual
theorem shown_sok : ∀ p : PyData, p.canLay0 = true → Sok p.shown
  | .none, _ => by rw [PyData.shown]; exact Sok.lit _
  | .bool b, _ => by rw [PyData.shown]; cases b <;> exact Sok.lit _
  | .int i, _ => by rw [PyData.shown]; exact Sok.lit _
  | .str x, h => by rw [PyData.shown]; rw [PyData.canLay0] at h; exact (Sok.of h).repr
  | .list xs, h => by
    rw [PyData.shown]
    rw [PyData.canLay0] at h
    exact (Sok.text (Sok.lit _) (shownAll_sok xs h)).app (Sok.lit _)
  | .tuple xs, h => by
    rw [PyData.shown]
    rw [PyData.canLay0] at h
    exact ((Sok.lit _).app (Sok.join (Sok.lit _) (shownAll_sok xs h))).app (Sok.lit _)
  | .dict _, h => by rw [PyData.canLay0] at h; cases h
theorem shownAll_sok : ∀ ps : List PyData, PyData.canLayAll0 ps = true → ∀ t ∈ PyData.shownAll ps, Sok t
  | [], _, t, ht => by rw [PyData.shownAll] at ht; cases ht
  | p :: ps, h, t, ht => by
    rw [PyData.canLayAll0, Bool.and_eq_true] at h
    rw [PyData.shownAll, List.mem_cons] at ht
    rcases ht with rfl | ht
    · exact shown_sok p h.1
    · exact shownAll_sok ps h.2 t ht
end
end J

/-! # GT: a def is run step by step, each step by its outcome -/
namespace J
open PySem PySem.Spec PyProof.Rows L2 DS
open SX (S)
section
variable {r r1 r2 : Rho} {m m1 m2 m3 : Mu} {f g h : XE'} {a : XA} {d x y : D} {xs : List D} {i : Nat}
theorem w_var (e : r[i]? = some (some d)) : xVar i r m = .ok d m := by unfold xVar; rw [e]
theorem w_c : xC d r m = .ok d m := rfl
theorem w_op {o : D → D → Mu → Out D} {R : Out D} (ha : f r m = .ok x m1) (hb : g r m1 = .ok y m2) (e : o x y m2 = R) : xOp o f g r m = R := by
  show (f r m).bind _ = _
  rw [ha]
  show (g r m1).bind _ = _
  rw [hb]
  exact e
theorem wa_cons (ha : f r m = .ok x m1) (hb : a r m1 = .ok xs m2) : xaCons f a r m = .ok (x :: xs) m2 := by
  show (f r m).bind _ = _
  rw [ha]
  show (a r m1).bind _ = _
  rw [hb]
  rfl
theorem wa_1 (ha : f r m = .ok x m1) : xaCons f xaNil r m = .ok [x] m1 := wa_cons ha rfl
theorem wa_2 (ha : f r m = .ok x m1) (hb : g r m1 = .ok y m2) : xaCons f (xaCons g xaNil) r m = .ok [x, y] m2 := wa_cons ha (wa_1 hb)
theorem wa_3 {z : D} (ha : f r m = .ok x m1) (hb : g r m1 = .ok y m2) (hc : h r m2 = .ok z m3) : xaCons f (xaCons g (xaCons h xaNil)) r m = .ok [x, y, z] m3 := wa_cons ha (wa_2 hb hc)
theorem w_call {G : Fn} {R : Out D} (ha : a r m = .ok xs m1) (e : G xs m1 = R) : xCall G a r m = R := by
  show (a r m).bind _ = _
  rw [ha]
  exact e
theorem w_lst (ha : a r m = .ok xs m1) : xLst a r m = .ok (.lst xs) m1 := by
  show (a r m).bind _ = _
  rw [ha]
  rfl
theorem w_tup (ha : a r m = .ok xs m1) : xTup a r m = .ok (.tup xs) m1 := by
  show (a r m).bind _ = _
  rw [ha]
  rfl
theorem w_if1 {t : XT} {R : Out D} (ht : t r m = .ok true m1) (e : f r m1 = R) : xIf t f g r m = R := by
  show (t r m).bind _ = _
  rw [ht]
  exact e
theorem w_if0 {t : XT} {R : Out D} (ht : t r m = .ok false m1) (e : g r m1 = R) : xIf t f g r m = R := by
  show (t r m).bind _ = _
  rw [ht]
  exact e
theorem w_tst {b : Bool} (e : f r m = .ok (.bl b) m1) : xTest f r m = .ok b m1 := by
  show (f r m).bind _ = _
  rw [e]
  rfl
theorem wi_seq (e : f r m = .ok x m1) {R : Out (List D)} (e2 : seqD x m1 = R) : xiSeq f r m = R := by
  show (f r m).bind _ = _
  rw [e]
  exact e2
theorem wi_rng1 {k : Nat} (e : f r m = .ok (.int (k : Nat)) m1) (hk : k ≤ 100000) : xiRng1 (xaCons f xaNil) r m = .ok (rngL 0 k) m1 := by
  have q := rng1_ok (k := k) (by omega) m1
  have b : ∀ xs : List D, Out.bind (.ok xs m1) rngD1 = rngD1 xs m1 := fun _ => rfl
  unfold xiRng1
  rw [wa_1 e, b, q]
theorem w_lc {vs : List Nat} {gt : XG} {tt : XT} {it : XA} {R : Out D} (e : it r m = .ok xs m1) (e2 : lcD gt tt f (wipeR r vs) xs m1 = R) : xLc it vs gt tt f r m = R := by
  show (it r m).bind _ = _
  rw [e]
  exact e2
/-! statements -/
variable {s t : XS} {R : SO}
theorem s_seq (e : s r m = .next r1 m1) (e2 : t r1 m1 = R) : sSeq s t r m = R := by
  show (match s r m with
    | .next r' m' => t r' m'
    | o => o) = _
  rw [e]
  exact e2
theorem s_end {d : D} (e : s r m = .ret d m1) : sSeq s t r m = .ret d m1 := by
  show (match s r m with
    | .next r' m' => t r' m'
    | o => o) = _
  rw [e]
theorem s_if1 {q : XT} (e : q r m = .ok true m1) (e2 : s r m1 = R) : sIf q s t r m = R := by
  show (q r m).stm r _ = _
  rw [e]
  exact e2
theorem s_if0 {q : XT} (e : q r m = .ok false m1) (e2 : t r m1 = R) : sIf q s t r m = R := by
  show (q r m).stm r _ = _
  rw [e]
  exact e2
theorem s_no {q : XT} (e : q r m = .ok false m1) : sIf q s sNil r m = .next r m1 := s_if0 e rfl
theorem s_asg (e : f r m = .ok d m1) : sAsg f (gNm i) r m = .next (r.set i (some d)) m1 := by
  show (f r m).stm r _ = _
  rw [e]
  rfl
theorem s_asgT {gt : XG} (e : f r m = .ok d m1) (e2 : gt d r m1 = .ok r2 m2) : sAsg f gt r m = .next r2 m2 := by
  show (f r m).stm r _ = _
  rw [e]
  show (gt d r m1).stm r _ = _
  rw [e2]
  rfl
theorem s_for {gt : XG} (e : a r m = .ok xs m1) (e2 : loopF gt s xs r m1 = R) : sFor a gt s r m = R := by
  show (a r m).stm r _ = _
  rw [e]
  exact e2
theorem s_par {j : Nat} (e : a r m = .ok [x, y] m1) : sPar i j a r m = .next ((r.set i (some x)).set j (some y)) m1 := by
  show (a r m).stm r _ = _
  rw [e]
  rfl
theorem s_ret (e : f r m = .ok d m1) : sRet f r m = .ret d m1 := by
  show (f r m).stm r _ = _
  rw [e]
  rfl
theorem s_expr (e : f r m = .ok d m1) : sExpr f r m = .next r m1 := by
  show (f r m).stm r _ = _
  rw [e]
  rfl
/-! defs -/
variable {n : Nat} {ds : List D}
theorem f_ret (e : s (rho0 n ds) m = .ret d m1) (hi : d.inB m.length = true) : fnOf n false s ds m = .ok d (m1.take m.length) := by
  show (match s (rho0 n ds) m with
    | .next _ m' => Out.ok D.non (m'.take m.length)
    | .ret d m' => if false then .ok d m' else exitD m.length d m'
    | .exc c fs _ m' => if D.inF m.length fs then .exc c fs (m'.take m.length) else .stuck
    | _ => .stuck) = _
  rw [e]
  show exitD m.length d m1 = _
  exact exit_in hi
theorem f_ret' {μ' : Mu} (e : s (rho0 n ds) m = .ret d m1) (hi : d.inB m.length = true) (ht : m1.take m.length = μ') : fnOf n false s ds m = .ok d μ' := by rw [f_ret e hi, ht]
end
end J

/-! # CA: joins and rounds of a plan (plain) -/
namespace J.Cn
open M
/-- how many places of a class are below a number -/
def bw (c : Cl) (n : Nat) : Nat := (n - c.rest + c.step - 1) / c.step
def deeds (c : Cl) (n : Nat) : Nat := if c.side = 0 then bw c n - bw c (min c.far n) else bw c (n - c.far)
def cntG : Gl → Nat → Nat
  | .all, k => k + 1
  | .before, k => k
  | .last q, k => min (k + 1) q
def plainL (g : Gl) (n : Nat) : List Nat := (List.range n).map fun k => cntG g k - 1
def plainV (g : Gl) (n : Nat) : Nat × Nat := ((plainL g n).sum, (plainL g n).foldl max 0)
def planOf (sk : List Pl) (x : Nat) : Option Pl := sk.find? fun p => decide (p.nm = x)
def callR : List Cl → Bool
  | [] => false
  | c :: _ => decide (c.w = 3)
def rndV (v : Nat → Nat → Nat × Nat) (n : Nat) (r : List Cl) : Nat × Nat :=
  if callR r = true then ((r.map fun c => (v c.goal (bw c n)).1).sum, (r.map fun c => (v c.goal (bw c n)).2).foldl max 0)
  else (((r.filter fun c => decide (c.w = 0)).map fun c => deeds c n).sum, 1)
def sumV (v : Nat → Nat → Nat × Nat) (n : Nat) (rs : List (List Cl)) : Nat × Nat := ((rs.map fun r => (rndV v n r).1).sum, (rs.map fun r => (rndV v n r).2).sum)
def stepV (sk : List Pl) (v : Nat → Nat → Nat × Nat) (x n : Nat) : Nat × Nat := if n = 0 then (0, 0) else match planOf sk x with
  | none => (0, 0)
  | some p => if n ≤ p.base then plainV p.goal n else sumV v n p.rounds
def val (sk : List Pl) : Nat → Nat → Nat → Nat × Nat
  | 0 => fun _ _ => (0, 0)
  | f + 1 => stepV sk (val sk f)
def lgF : Nat → Nat → Nat
  | 0, _ => 0
  | f + 1, n => if n ≤ 1 then 0 else lgF f ((n + 1) / 2) + 1
def lg (n : Nat) : Nat := lgF n n
def ix : List Pl → Nat → Nat
  | [], _ => 0
  | p :: ps, x => if p.nm = x then 0 else ix ps x + 1
def rank (sk : List Pl) (x n : Nat) : Nat := sk.length * lg n + (sk.length - ix sk x)
def V (sk : List Pl) (x n : Nat) : Nat × Nat := val sk (rank sk x n + 1) x n
/-! ### halving -/
theorem lgF_st : ∀ (f g n : Nat), n ≤ f → n ≤ g → lgF f n = lgF g n
  | 0, 0, n, _, _ => rfl
  | 0, g + 1, n, h, _ => by rw [lgF, lgF, if_pos (by omega)]
  | f + 1, 0, n, _, h => by rw [lgF, lgF, if_pos (by omega)]
  | f + 1, g + 1, n, h1, h2 => by
    rw [lgF, lgF]
    by_cases h : n ≤ 1
    · rw [if_pos h, if_pos h]
    · rw [if_neg h, if_neg h, lgF_st f g ((n + 1) / 2) (by omega) (by omega)]
theorem lg_half {n : Nat} (h : 1 < n) : lg n = lg ((n + 1) / 2) + 1 := by
  unfold lg
  cases n with
  | zero => omega
  | succ k =>
    rw [lgF, if_neg (by omega), lgF_st k ((k + 1 + 1) / 2) _ (by omega) (Nat.le_refl _)]
theorem lgF_mono : ∀ (f n k : Nat), n ≤ k → lgF f n ≤ lgF f k
  | 0, _, _, _ => Nat.le_refl _
  | f + 1, n, k, h => by
    rw [lgF, lgF]
    by_cases h1 : n ≤ 1
    · rw [if_pos h1]; exact Nat.zero_le _
    · rw [if_neg h1, if_neg (by omega)]
      exact Nat.succ_le_succ (lgF_mono f _ _ (by omega))
theorem lg_mono {n k : Nat} (h : n ≤ k) : lg n ≤ lg k := by
  unfold lg
  rw [lgF_st n k n (Nat.le_refl _) h]
  exact lgF_mono k n k h
theorem lg_pow : ∀ (e n : Nat), n ≤ 2 ^ e → lg n ≤ e
  | 0, n, h => by
    have : n ≤ 1 := h
    unfold lg
    cases n with
    | zero => exact Nat.le_refl _
    | succ k => rw [lgF, if_pos this]; exact Nat.le_refl _
  | e + 1, n, h => by
    by_cases h1 : n ≤ 1
    · exact Nat.le_trans (lg_pow 0 n h1) (Nat.zero_le _)
    · rw [lg_half (by omega)]
      have : (n + 1) / 2 ≤ 2 ^ e := by rw [Nat.pow_succ] at h; omega
      exact Nat.succ_le_succ (lg_pow e _ this)
/-! ### places -/
theorem bw_le (c : Cl) (h : c.rest < c.step) (n : Nat) : bw c n ≤ n := by
  unfold bw
  rw [Nat.div_le_iff_le_mul_add_pred (by omega)]
  have := Nat.le_mul_of_pos_left n (show 0 < c.step by omega)
  omega
theorem bw_half {c : Cl} (hs : 2 ≤ c.step) (n : Nat) : bw c n ≤ (n + 1) / 2 := by
  unfold bw
  rw [Nat.div_le_iff_le_mul_add_pred (by omega)]
  have h1 : 2 * ((n + 1) / 2) ≤ c.step * ((n + 1) / 2) := Nat.mul_le_mul_right _ hs
  omega
theorem bw_one {c : Cl} (hr : c.rest < c.step) (hs : c.step = 1) (n : Nat) : bw c n = n := by
  unfold bw
  rw [hs, Nat.div_one]
  omega
/-! ### the plans' order -/
theorem ix_get : ∀ {sk : List Pl} {i : Nat} {p : Pl}, (sk.map Pl.nm).Nodup → sk[i]? = some p → ix sk p.nm = i
  | [], _, _, _, h => by cases h
  | q :: sk, 0, p, _, h => by cases h; unfold ix; rw [if_pos rfl]
  | q :: sk, i + 1, p, nd, h => by
    rw [List.map_cons, List.nodup_cons] at nd
    have h' : sk[i]? = some p := by simpa using h
    unfold ix
    rw [if_neg fun e => nd.1 (by rw [e]; exact List.mem_map.mpr ⟨p, List.mem_of_getElem? h', rfl⟩), ix_get nd.2 h']
theorem ix_lt : ∀ {sk : List Pl} {x : Nat}, x ∈ sk.map Pl.nm → ix sk x < sk.length
  | [], _, h => by cases h
  | q :: sk, x, h => by
    unfold ix
    by_cases e : q.nm = x
    · rw [if_pos e]; exact Nat.succ_pos _
    · rw [if_neg e]
      rcases List.mem_cons.mp (show x ∈ q.nm :: sk.map Pl.nm from h) with h | h
      · exact absurd h.symm e
      · exact Nat.succ_lt_succ (ix_lt h)
theorem ix_above : ∀ {sk : List Pl} {x : Nat} (k : Nat), x ∈ sk.map Pl.nm → x ∉ (sk.map Pl.nm).take k → k ≤ ix sk x
  | _, _, 0, _, _ => Nat.zero_le _
  | [], _, _ + 1, h, _ => by cases h
  | q :: sk, x, k + 1, h, hn => by
    rw [List.map_cons, List.take_succ_cons] at hn
    have e : q.nm ≠ x := fun e => hn (by rw [e]; exact List.mem_cons_self ..)
    unfold ix
    rw [if_neg e]
    rcases List.mem_cons.mp (show x ∈ q.nm :: sk.map Pl.nm from h) with h | h
    · exact absurd h.symm e
    · exact Nat.succ_le_succ (ix_above k h fun z => hn (List.mem_cons_of_mem _ z))
theorem plan_at {sk : List Pl} (h : SOk sk) {p : Pl} (hp : p ∈ sk) : planOf sk p.nm = some p := by
  have go : ∀ {xs : List Pl}, (xs.map Pl.nm).Nodup → p ∈ xs → xs.find? (fun q => decide (q.nm = p.nm)) = some p := fun {xs} => by
    induction xs with
    | nil => intro _ h; cases h
    | cons q xs ih =>
      intro nd hm
      rw [List.map_cons, List.nodup_cons] at nd
      rw [List.find?_cons]
      rcases List.mem_cons.mp hm with rfl | hm
      · rw [decide_eq_true rfl]
      · rw [decide_eq_false fun e => nd.1 (by rw [e]; exact List.mem_map.mpr ⟨p, hm, rfl⟩)]
        exact ih nd.2 hm
  exact go h.apart hp
theorem plan_some {sk : List Pl} {x : Nat} {p : Pl} (h : planOf sk x = some p) : p ∈ sk ∧ p.nm = x := by
  unfold planOf at h
  exact ⟨List.mem_of_find?_eq_some h, by simpa using List.find?_some h⟩
/-! ### calls go down -/
theorem rank_lt {sk : List Pl} (h : SOk sk) {p : Pl} (hp : p ∈ sk) {n : Nat} (hn : p.base < n) {r : List Cl} (hr : r ∈ p.rounds) {c : Cl} (hc : c ∈ r) (hw : c.w = 3) : c.goal ∈ sk.map Pl.nm ∧ rank sk c.goal (bw c n) < rank sk p.nm n := by
  obtain ⟨i, hi⟩ := List.getElem?_of_mem hp
  obtain ⟨hg, hs⟩ := h.calls i p hi r hr c hc hw
  have ho := ((h.ok p hp).ok r hr).ok c hc
  have hb := (h.ok p hp).base0
  have hr1 := ho.rest
  have e1 := ix_get h.apart hi
  have l1 := ix_lt hg
  have hil := (List.getElem?_eq_some_iff.mp hi).1
  refine ⟨hg, ?_⟩
  unfold rank
  rw [e1]
  by_cases h1 : c.step = 1
  · rw [bw_one hr1 h1]
    have := ix_above _ hg (hs h1)
    omega
  · have h2 := bw_half (c := c) (by omega) n
    have h3 := lg_mono h2
    rw [lg_half (show 1 < n by omega)]
    have h4 : sk.length * lg (bw c n) ≤ sk.length * lg ((n + 1) / 2) := Nat.mul_le_mul_left _ h3
    rw [Nat.mul_succ]
    omega
theorem callR_all {r : List Cl} (h : ROk r) (hc : callR r = true) : ∀ c ∈ r, c.w = 3 := by
  rcases h.calls with g | g
  · exact g
  · cases r with
    | nil => intro c hc; cases hc
    | cons c r =>
      have e : c.w = 3 := of_decide_eq_true hc
      exact absurd e (g c (List.mem_cons_self ..))
theorem callR_none {r : List Cl} (h : ROk r) (hc : callR r = false) : ∀ c ∈ r, c.w ≠ 3 := by
  rcases h.calls with g | g
  · cases r with
    | nil => intro c hc; cases hc
    | cons c r =>
      have e : ¬ c.w = 3 := of_decide_eq_false hc
      exact absurd (g c (List.mem_cons_self ..)) e
  · exact g
theorem rndV_congr {v v' : Nat → Nat → Nat × Nat} {n : Nat} {r : List Cl} (h : callR r = true → ∀ c ∈ r, v c.goal (bw c n) = v' c.goal (bw c n)) : rndV v n r = rndV v' n r := by
  unfold rndV
  by_cases hc : callR r = true
  · rw [if_pos hc, if_pos hc]
    rw [List.map_congr_left fun c hcr => by rw [h hc c hcr], List.map_congr_left (f := fun c => (v c.goal (bw c n)).2) fun c hcr => by rw [h hc c hcr]]
  · rw [if_neg hc, if_neg hc]
theorem stepV_congr {sk : List Pl} (h : SOk sk) {v v' : Nat → Nat → Nat × Nat} {p : Pl} (hp : p ∈ sk) {n : Nat} (hv : p.base < n → ∀ r ∈ p.rounds, ∀ c ∈ r, c.w = 3 → v c.goal (bw c n) = v' c.goal (bw c n)) : stepV sk v p.nm n = stepV sk v' p.nm n := by
  unfold stepV
  rw [plan_at h hp]
  by_cases h0 : n = 0
  · rw [if_pos h0, if_pos h0]
  · rw [if_neg h0, if_neg h0]
    simp only
    by_cases hb : n ≤ p.base
    · rw [if_pos hb, if_pos hb]
    · rw [if_neg hb, if_neg hb]
      have e : ∀ r ∈ p.rounds, rndV v n r = rndV v' n r := fun r hr => rndV_congr fun hc c hcr => hv (by omega) r hr c hcr (callR_all ((h.ok p hp).ok r hr) hc c hcr)
      unfold sumV
      rw [List.map_congr_left fun r hr => by rw [e r hr], List.map_congr_left (f := fun r => (rndV v n r).2) fun r hr => by rw [e r hr]]
theorem val_st {sk : List Pl} (h : SOk sk) : ∀ (f g x n : Nat), x ∈ sk.map Pl.nm → rank sk x n < f → rank sk x n < g → val sk f x n = val sk g x n
  | 0, _, _, _, _, h1, _ => absurd h1 (Nat.not_lt_zero _)
  | _ + 1, 0, _, _, _, _, h2 => absurd h2 (Nat.not_lt_zero _)
  | f + 1, g + 1, x, n, hx, h1, h2 => by
    obtain ⟨p, hp, rfl⟩ := List.mem_map.mp hx
    show stepV sk (val sk f) p.nm n = stepV sk (val sk g) p.nm n
    refine stepV_congr h hp fun hb r hr c hc hw => ?_
    obtain ⟨hg, hl⟩ := rank_lt h hp hb hr hc hw
    exact val_st h f g _ _ hg (by omega) (by omega)
theorem V_eq {sk : List Pl} (h : SOk sk) {p : Pl} (hp : p ∈ sk) (n : Nat) : V sk p.nm n = stepV sk (V sk) p.nm n := by
  show stepV sk (val sk (rank sk p.nm n)) p.nm n = _
  refine stepV_congr h hp fun hb r hr c hc hw => ?_
  obtain ⟨hg, hl⟩ := rank_lt h hp hb hr hc hw
  exact val_st h _ _ _ _ hg hl (Nat.lt_succ_self _)
theorem V_zero {sk : List Pl} (x : Nat) : V sk x 0 = (0, 0) := by
  show stepV sk (val sk (rank sk x 0)) x 0 = _
  unfold stepV
  rw [if_pos rfl]
theorem V_plain {sk : List Pl} (h : SOk sk) {p : Pl} (hp : p ∈ sk) {n : Nat} (h0 : 0 < n) (hb : n ≤ p.base) : V sk p.nm n = plainV p.goal n := by
  rw [V_eq h hp]
  unfold stepV
  rw [plan_at h hp, if_neg (by omega)]
  simp only
  rw [if_pos hb]
theorem V_led {sk : List Pl} (h : SOk sk) {p : Pl} (hp : p ∈ sk) {n : Nat} (hb : p.base < n) : V sk p.nm n = sumV (V sk) n p.rounds := by
  rw [V_eq h hp]
  unfold stepV
  rw [plan_at h hp, if_neg (by omega)]
  simp only
  rw [if_neg (by omega)]
theorem rank_le {sk : List Pl} (h : SOk sk) {x e n : Nat} (hn : n ≤ 2 ^ e) : rank sk x n ≤ sk.length * (e + 1) := by
  unfold rank
  have := Nat.mul_le_mul_left sk.length (lg_pow e n hn)
  rw [Nat.mul_succ]
  omega
end J.Cn

/-! # CB: what is known of joins and rounds (dicts with tuple keys); the program's counts -/
namespace J.Cn
open PySem PySem.Spec PyProof.Rows L2 DS
open M
section
variable {r : Rho} {m m1 m2 m3 : Mu} {d e x y : D} {xs : List D} {i : Nat} {cn f : Str} {G : Fn} {o : XE'} {a : XA} {gs : List (Str × D)} {R : Out D}
theorem w_fld (ho : o r m = .ok d m1) (hf : fldD cn f d m1 = .ok e m1) : xFld cn f o r m = .ok e m1 := by
  show (o r m).bind _ = _
  rw [ho]
  exact hf
theorem w_meth (ho : o r m = .ok d m1) (hi : insOf m1 d = some (cn, gs)) (hl : gs.lookup f = none) (ha : a r m1 = .ok xs m2) (h : G (d :: xs) m2 = R) : xMeth cn f G o a r m = R := by
  show (o r m).bind _ = _
  rw [ho]
  show (match insOf m1 d with
    | some (c', gs) => if c' = cn ∧ gs.lookup f = none then (a r m1).bind fun xs m2 => G (d :: xs) m2 else .stuck
    | none => .stuck) = _
  rw [hi]
  simp only [hl, and_self, if_true, ha]
  exact h
theorem s_aug {g : XE'} {p q : Nat} (h : r[i]? = some (some (.int (p : Nat)))) (e : g r m = .ok (.int (q : Nat)) m1) : sAug i g r m = .next (r.set i (some (.int ((p + q : Nat) : Int)))) m1 := by
  unfold sAug
  rw [h]
  show (g r m).stm _ _ = _
  rw [e]
  rfl
theorem w_nink {ds : List D} {fa : XA} {fd : XE'} (ha : fa r m = .ok ds m1) (hl : ds.length ≤ 100) (hd : fd r m1 = .ok d m2) (h : ninK ds d m2 = R) : xNinK fa fd r m = R := by
  show (fa r m).bind _ = _
  rw [ha]
  show (if ds.length ≤ 100 then (fd r m1).bind (ninK ds) else .stuck) = _
  rw [if_pos hl, hd]
  exact h
theorem w_getk {ds : List D} {fa : XA} {fd : XE'} (hd : fd r m = .ok d m1) (ha : fa r m1 = .ok ds m2) (h : getK d ds m2 = R) : xGetK fd fa r m = R := by
  show (fd r m).bind _ = _
  rw [hd]
  show (fa r m1).bind _ = _
  rw [ha]
  exact h
theorem s_putk {ds : List D} {fa : XA} {fd fv : XE'} {m4 : Mu} (hv : fv r m = .ok e m1) (hd : fd r m1 = .ok d m2) (ha : fa r m2 = .ok ds m3) (h : putKX d ds e m3 = .ok () m4) : sPutK fd fa fv r m = .next r m4 := by
  show (fv r m).stm r _ = _
  rw [hv]
  show (fd r m1).stm r _ = _
  rw [hd]
  show (fa r m2).stm r _ = _
  rw [ha]
  show (putKX d ds e m3).stm r _ = _
  rw [h]
  rfl
end
theorem ix_tup {ds : List D} {k : Nat} {x : D} (h : ds[k]? = some x) (m : Mu) : ixD (.tup ds) (.int (k : Nat)) m = .ok x m := by
  show (match L2.atI ds (k : Int) with
    | some v => Out.ok v m
    | none => .stuck) = _
  rw [ix_at k ds x h]
theorem eq_strC (x y : Str) (m : Mu) : eqD (.str x) (.str y) m = .ok (.bl (x == y)) m := rfl
theorem word_callC : ∀ w < 4, (M.wordS w == Str.ofString "call") = decide (w = 3) := by decide +kernel
theorem word_joinC : ∀ w < 4, (M.wordS w == Str.ofString "join") = decide (w = 0) := by decide +kernel
theorem side_leftC : ∀ w < 2, (M.sideS w == Str.ofString "left") = decide (w = 0) := by decide +kernel
theorem lineC {a : Nat} (h : a ≤ 100000) : a ≤ sizeLine := by unfold sizeLine; omega
theorem bk_ins (sk : List Pl) (m : Mu) : insOf m (bookD sk) = some (("Book" : Str), [(("held" : Str), heldD sk), (("parsed" : Str), .dct (sk.map fun p => (nmS p.nm, p.prog)))]) := rfl
theorem intsC : ∀ gs : List Nat, intsL (gs.map nD) = some (gs.map fun g : Nat => (g : Int))
  | [] => rfl
  | g :: gs => by
    show (intsL (gs.map nD)).map _ = _
    rw [intsC gs]
    rfl
theorem sumC : ∀ gs : List Nat, (gs.map fun g : Nat => (g : Int)).sum = ((gs.sum : Nat) : Int)
  | [] => rfl
  | g :: gs => by rw [List.map_cons, List.sum_cons, List.sum_cons, sumC gs]; omega
theorem sum_eqC (gs : List Nat) (m : Mu) : sumF [.lst (gs.map nD)] m = .ok (.int (gs.sum : Nat)) m := by
  have e : sumF [.lst (gs.map nD)] m = (match intsL (gs.map nD) with
    | some ns => Out.ok (D.int ns.sum) m
    | _ => .stuck) := rfl
  rw [e, intsC]
  show Out.ok (D.int (gs.map fun g : Nat => (g : Int)).sum) m = _
  rw [sumC]
theorem maxLC : ∀ (gs : List Nat) (g : Nat), maxL (g : Int) (gs.map fun g : Nat => (g : Int)) = ((gs.foldl max g : Nat) : Int)
  | [], _ => rfl
  | x :: gs, g => by
    rw [List.map_cons, maxL, List.foldl_cons, ← maxLC gs (max g x)]
    congr 1
    split <;> omega
theorem max_eqC {gs : List Nat} (h0 : 0 < gs.length) (m : Mu) : maxF [.lst (gs.map nD)] m = .ok (.int (gs.foldl max 0 : Nat)) m :=
  match gs, h0 with
  | g :: gs, _ => by
    have e2 : maxF [.lst ((g :: gs).map nD)] m = (match intsL ((g :: gs).map nD) with
      | some (i :: r) => Out.ok (D.int (maxL i r)) m
      | _ => .stuck) := rfl
    rw [e2, intsC]
    show Out.ok (D.int (maxL (g : Int) (gs.map fun g : Nat => (g : Int)))) m = _
    rw [maxLC, List.foldl_cons, Nat.zero_max]
/-! ### what is known -/
def kyD (x n : Nat) : List Key := [.inr (nmS x), .inl (n : Int)]
def prV (v : Nat × Nat) : D := .tup [nD v.1, nD v.2]
structure Bds (sk : List Pl) (S : Nat → Prop) (Ks : List (List Key)) : Prop where
  ok : SOk sk
  cl : ∀ n c, c.Ok → S n → S (bw c n)
  ks : ∀ x ∈ sk.map Pl.nm, ∀ n, S n → kyD x n ∈ Ks
  len : Ks.length < 99000
structure KvOk (sk : List Pl) (S : Nat → Prop) (kvs : List (List Key × D)) : Prop where
  nd : (kvs.map (·.1)).Nodup
  at_ : ∀ q ∈ kvs, ∃ x n, x ∈ sk.map Pl.nm ∧ S n ∧ q = (kyD x n, prV (V sk x n))
theorem nodup_len {α : Type} [DecidableEq α] : ∀ {l m : List α}, l.Nodup → (∀ a ∈ l, a ∈ m) → l.length ≤ m.length
  | [], _, _, _ => Nat.zero_le _
  | a :: l, m, nd, h => by
    rw [List.nodup_cons] at nd
    have ha := h a (List.mem_cons_self ..)
    have := nodup_len (m := m.erase a) nd.2 fun b hb => (List.mem_erase_of_ne (fun e => nd.1 (by rw [← e]; exact hb))).mpr (h b (List.mem_cons_of_mem _ hb))
    rw [List.length_erase_of_mem ha] at this
    have := List.length_pos_of_mem ha
    rw [List.length_cons]
    omega
theorem ky_inj {sk : List Pl} (h : SOk sk) {x y n k : Nat} (hx : x ∈ sk.map Pl.nm) (hy : y ∈ sk.map Pl.nm) (e : kyD x n = kyD y k) : x = y ∧ n = k := by
  unfold kyD at e
  have e1 := (List.cons.inj e).1
  have e2 := (List.cons.inj (List.cons.inj e).2).1
  have e3 : nmS x = nmS y := Sum.inr.inj e1
  have e4 : (n : Int) = k := Sum.inl.inj e2
  have := nmS_eq x (h.nm x hx) y (h.nm y hy)
  rw [e3] at this
  exact ⟨by simpa using this, by omega⟩
section
variable {sk : List Pl} {S : Nat → Prop} {Ks : List (List Key)} {kvs : List (List Key × D)}
theorem KvOk.len (B : Bds sk S Ks) (h : KvOk sk S kvs) : kvs.length < 99000 := by
  have := nodup_len (m := Ks) h.nd fun k hk => by
    obtain ⟨q, hq, rfl⟩ := List.mem_map.mp hk
    obtain ⟨x, n, hx, hn, rfl⟩ := h.at_ q hq
    exact B.ks x hx n hn
  rw [List.length_map] at this
  have := B.len
  omega
theorem dVal_mem {k : List Key} {d : D} (h : dVal kvs k = some d) : (k, d) ∈ kvs := by
  unfold dVal at h
  obtain ⟨p, hp, rfl⟩ := Option.map_eq_some_iff.mp h
  have h1 := List.mem_of_find?_eq_some hp
  have h2 := List.find?_some hp
  have : p.1 = k := by simpa using h2
  rw [← this]
  exact h1
theorem dVal_no {k : List Key} (h : dVal kvs k = none) : k ∉ kvs.map (·.1) := by
  unfold dVal at h
  rw [Option.map_eq_none_iff, List.find?_eq_none] at h
  intro hk
  obtain ⟨p, hp, e⟩ := List.mem_map.mp hk
  exact h p hp (by simpa using e)
theorem dPut_no {k : List Key} {d : D} (h : dVal kvs k = none) : dPut kvs k d = kvs ++ [(k, d)] := by
  have := dVal_no h
  unfold dPut
  rw [if_neg]
  intro z
  obtain ⟨p, hp, e⟩ := List.any_eq_true.mp z
  exact this (List.mem_map.mpr ⟨p, hp, by simpa using e⟩)
theorem dVal_snoc {k : List Key} {d : D} (h : dVal kvs k = none) : dVal (kvs ++ [(k, d)]) k = some d := by
  unfold dVal at h ⊢
  rw [Option.map_eq_none_iff] at h
  rw [List.find?_append, h]
  simp
theorem KvOk.get (B : Bds sk S Ks) (h : KvOk sk S kvs) {x n : Nat} (hx : x ∈ sk.map Pl.nm) {d : D} (e : dVal kvs (kyD x n) = some d) : d = prV (V sk x n) := by
  obtain ⟨y, k, hy, hk, e2⟩ := h.at_ _ (dVal_mem e)
  have e3 := (Prod.mk.inj e2).1
  obtain ⟨rfl, rfl⟩ := ky_inj B.ok hx hy e3
  exact (Prod.mk.inj e2).2
theorem KvOk.put (h : KvOk sk S kvs) {x n : Nat} (hx : x ∈ sk.map Pl.nm) (hn : S n) (e : dVal kvs (kyD x n) = none) : KvOk sk S (dPut kvs (kyD x n) (prV (V sk x n))) := by
  rw [dPut_no e]
  refine ⟨?_, fun q hq => ?_⟩
  · rw [List.map_append, List.nodup_append]
    refine ⟨h.nd, List.nodup_cons.mpr ⟨List.not_mem_nil, List.nodup_nil⟩, fun a ha b hb e2 => ?_⟩
    rw [List.mem_singleton.mp hb] at e2
    exact dVal_no e (by rw [← show a = kyD x n from e2]; exact ha)
  · rcases List.mem_append.mp hq with hq | hq
    · exact h.at_ q hq
    · rw [List.mem_singleton.mp hq]
      exact ⟨x, n, hx, hn, rfl⟩
theorem KvOk.nil : KvOk sk S [] := ⟨List.nodup_nil, fun q hq => by cases hq⟩
end
/-- the store holds what is known at c, and perhaps the counter behind it -/
structure St (sk : List Pl) (S : Nat → Prop) (O : Prop) (c : Nat) (ν : Mu) : Prop where
  kv : ∃ kvs, ν[c]? = some (.dtt kvs) ∧ KvOk sk S kvs
  ob : O → ν[c + 1]? = some (.ins "Counter" [("shelf", bookD sk), ("known", .loc c)])
def Chg (c : Nat) (ν ν' : Mu) : Prop := ∃ kvs, ν' = ν.set c (.dtt kvs)
section
variable {sk : List Pl} {S : Nat → Prop} {Ks : List (List Key)} {O : Prop} {c : Nat} {ν ν' ν2 : Mu}
theorem St.lt (h : St sk S O c ν) : c < ν.length := let ⟨_, e, _⟩ := h.kv; (List.getElem?_eq_some_iff.mp e).1
theorem St.app (h : St sk S O c ν) (l : Cell) : St sk S O c (ν ++ [l]) := by
  obtain ⟨kvs, e, hk⟩ := h.kv
  refine ⟨⟨kvs, by rw [List.getElem?_append_left h.lt]; exact e, hk⟩, fun o => ?_⟩
  have := h.ob o
  rw [List.getElem?_append_left (List.getElem?_eq_some_iff.mp this).1]
  exact this
theorem Chg.refl (h : St sk S O c ν) : Chg c ν ν := by
  obtain ⟨kvs, e, _⟩ := h.kv
  refine ⟨kvs, (List.ext_getElem? fun k => ?_).symm⟩
  rw [List.getElem?_set]
  by_cases hk : c = k
  · subst hk; rw [if_pos rfl, if_pos h.lt, e]
  · rw [if_neg hk]
theorem Chg.trans (a : Chg c ν ν') (b : Chg c ν' ν2) : Chg c ν ν2 := by
  obtain ⟨k1, rfl⟩ := a
  obtain ⟨k2, rfl⟩ := b
  exact ⟨k2, by rw [List.set_set]⟩
theorem Chg.len (a : Chg c ν ν') : ν'.length = ν.length := by
  obtain ⟨k1, rfl⟩ := a
  exact List.length_set
theorem Chg.take (a : Chg c ν ν') : ν'.take ν.length = ν' := by rw [← a.len, List.take_length]
/-- behind a list that is open -/
theorem Chg.app {l : Cell} (hc : c < ν.length) (a : Chg c (ν ++ [l]) ν') : ∃ ν2, Chg c ν ν2 ∧ ν' = ν2 ++ [l] := by
  obtain ⟨k, rfl⟩ := a
  exact ⟨ν.set c (.dtt k), ⟨k, rfl⟩, by rw [List.set_append_left _ _ hc]⟩
theorem St.unapp {l : Cell} (hc : c < ν.length) (ho : O → c + 1 < ν.length) (h : St sk S O c (ν ++ [l])) : St sk S O c ν := by
  obtain ⟨kvs, e, hk⟩ := h.kv
  refine ⟨⟨kvs, by rwa [List.getElem?_append_left (by omega)] at e, hk⟩, fun o => ?_⟩
  have := h.ob o
  rwa [List.getElem?_append_left (ho o)] at this
/-- a comprehension that asks what is known -/
theorem lc_chg {A : Type} {i : Nat} {te : XE'} {r0 : Rho} (ea : A → D) (f : A → D) {xs : List A} (hin : ∀ x ∈ xs, ∀ n, (f x).inB n = true) (hl : xs.length ≤ 1000) {μ : Mu} (hc : c < μ.length) (ho : O → c + 1 < μ.length)
    (he : ∀ x ∈ xs, ∀ ν, c < ν.length → (O → c + 1 < ν.length) → St sk S O c ν → ∃ ν', te (r0.set i (some (ea x))) ν = .ok (f x) ν' ∧ Chg c ν ν' ∧ St sk S O c ν') (h : St sk S O c μ) :
    ∃ μ', lcD (gNm i) xYes te r0 (xs.map ea) μ = .ok (.lst (xs.map f)) μ' ∧ Chg c μ μ' ∧ St sk S O c μ' := by
  have go : ∀ (ys : List A) (acc : List D) (ν : Mu), (∀ y ∈ ys, y ∈ xs) → acc.length + ys.length ≤ 1000 → St sk S O c ν → ν.length = μ.length → ∃ ν', lcF (gNm i) xYes te μ.length r0 (ys.map ea) (ν ++ [.lst acc]) = .ok () (ν' ++ [.lst (acc ++ ys.map f)]) ∧ Chg c ν ν' ∧ St sk S O c ν' := fun ys => by
    induction ys with
    | nil => intro acc ν _ _ h _; exact ⟨ν, by simp [lcF], Chg.refl h, h⟩
    | cons y ys ih =>
      intro acc ν hm hl h hln
      rw [List.length_cons] at hl
      obtain ⟨ν1, e1, s1, h1⟩ := he y (hm y (List.mem_cons_self ..)) (ν ++ [.lst acc]) (by rw [List.length_append]; omega) (fun o => by have := ho o; rw [List.length_append]; omega) (h.app _)
      obtain ⟨ν2, s2, rfl⟩ := s1.app (by omega)
      have hl2 : ν2.length = μ.length := s2.len.trans hln
      have h2 := h1.unapp (by omega) fun o => by have := ho o; omega
      have hp : pushD μ.length (f y) (ν2 ++ [.lst acc]) = .ok () (ν2 ++ [.lst (acc ++ [f y])]) := by
        unfold pushD
        rw [List.getElem?_append_right (by omega), ← hl2, Nat.sub_self]
        simp only [List.getElem?_cons_zero]
        rw [if_pos ⟨hin y (hm y (List.mem_cons_self ..)) _, lineC (by omega)⟩, List.set_append_right _ _ (Nat.le_refl _), Nat.sub_self]
        rfl
      obtain ⟨ν3, e2, s3, h3⟩ := ih (acc ++ [f y]) ν2 (fun z hz => hm z (List.mem_cons_of_mem _ hz)) (by rw [List.length_append]; simp; omega) h2 hl2
      refine ⟨ν3, ?_, s2.trans s3, h3⟩
      rw [List.map_cons, lcF]
      simp only [gNm, Out.ne, Out.bind, xYes, if_true, e1, hp]
      rw [e2]
      simp
  obtain ⟨ν', e, s, h'⟩ := go xs [] μ (fun _ h => h) (by simpa using hl) h rfl
  refine ⟨ν', ?_, s, h'⟩
  unfold lcD
  rw [e]
  show lcEnd μ.length _ = _
  rw [← s.len]
  unfold lcEnd
  rw [List.getElem?_append_right (Nat.le_refl _), Nat.sub_self]
  simp
theorem dtt_at {kvs : List (List Key × D)} (e : ν[c]? = some (.dtt kvs)) : dttOf ν (.loc c) = some kvs := by
  show (match ν[c]? with
    | some (.dtt gs) => some gs
    | _ => none) = _
  rw [e]
/-- what is asked for: known or not -/
theorem nin_ok (h : St sk S O c ν) (x n : Nat) : ∃ kvs, ν[c]? = some (.dtt kvs) ∧ KvOk sk S kvs ∧ ninK [nmD x, nD n] (.loc c) ν = .ok (.bl (!(dVal kvs (kyD x n)).isSome)) ν := by
  obtain ⟨kvs, e, hk⟩ := h.kv
  refine ⟨kvs, e, hk, ?_⟩
  have e2 : dttOf ν (.loc c) = some kvs := dtt_at e
  have e1 : keyL [nmD x, nD n] = some (kyD x n) := rfl
  unfold ninK
  rw [e1, e2]
theorem get_ok {kvs : List (List Key × D)} (e : ν[c]? = some (.dtt kvs)) {x n : Nat} {d : D} (hv : dVal kvs (kyD x n) = some d) : getK (.loc c) [nmD x, nD n] ν = .ok d ν := by
  have e2 : dttOf ν (.loc c) = some kvs := dtt_at e
  have e1 : keyL [nmD x, nD n] = some (kyD x n) := rfl
  unfold getK
  rw [if_pos (by show 2 ≤ 100; decide), e1, e2]
  simp only
  rw [hv]
theorem put_ok (B : Bds sk S Ks) (h : St sk S O c ν) {x n : Nat} (hx : x ∈ sk.map Pl.nm) (hn : S n) : ∃ ν', (∀ kvs, ν[c]? = some (.dtt kvs) → dVal kvs (kyD x n) = none → putKX (.loc c) [nmD x, nD n] (prV (V sk x n)) ν = .ok () ν' ∧ Chg c ν ν' ∧ St sk S O c ν' ∧ getK (.loc c) [nmD x, nD n] ν' = .ok (prV (V sk x n)) ν') := by
  obtain ⟨kvs, e, hk⟩ := h.kv
  refine ⟨ν.set c (.dtt (dPut kvs (kyD x n) (prV (V sk x n)))), fun kvs' e' hv => ?_⟩
  rw [e] at e'
  cases e'
  have e2 : dttOf ν (.loc c) = some kvs := dtt_at e
  have e1 : keyL [nmD x, nD n] = some (kyD x n) := rfl
  have e3 : (ν.set c (.dtt (dPut kvs (kyD x n) (prV (V sk x n)))))[c]? = some (.dtt (dPut kvs (kyD x n) (prV (V sk x n)))) := List.getElem?_set_self h.lt
  refine ⟨?_, ⟨_, rfl⟩, ⟨⟨_, e3, hk.put hx hn hv⟩, fun o => ?_⟩, get_ok e3 (by rw [dPut_no hv]; exact dVal_snoc hv)⟩
  · unfold putKX
    rw [e1, e2]
    simp only
    rw [if_pos ⟨by show 2 ≤ 100; decide, by have := hk.len B; omega, rfl⟩]
  · rw [List.getElem?_set_ne (by omega)]
    exact h.ob o
theorem dPut_same (B : Bds sk S Ks) {kvs : List (List Key × D)} (h : KvOk sk S kvs) {x n : Nat} (hx : x ∈ sk.map Pl.nm) {d : D} (e : dVal kvs (kyD x n) = some d) : dPut kvs (kyD x n) (prV (V sk x n)) = kvs := by
  unfold dPut
  rw [if_pos]
  · refine (List.map_congr_left (g := id) fun q hq => ?_).trans (List.map_id _)
    by_cases hk : q.1 = kyD x n
    · rw [if_pos hk]
      obtain ⟨y, k, hy, _, rfl⟩ := h.at_ q hq
      obtain ⟨rfl, rfl⟩ := ky_inj B.ok hy hx hk
      rfl
    · rw [if_neg hk]
      rfl
  · exact List.any_eq_true.mpr ⟨_, dVal_mem e, decide_eq_true rfl⟩
theorem put_again (B : Bds sk S Ks) (h : St sk S O c ν) {kvs : List (List Key × D)} (ek : ν[c]? = some (.dtt kvs)) {x n : Nat} (hx : x ∈ sk.map Pl.nm) {d : D} (hv : dVal kvs (kyD x n) = some d) : ∃ ν', putKX (.loc c) [nmD x, nD n] (prV (V sk x n)) ν = .ok () ν' ∧ Chg c ν ν' ∧ St sk S O c ν' ∧ getK (.loc c) [nmD x, nD n] ν' = .ok (prV (V sk x n)) ν' := by
  obtain ⟨kvs', e, hk⟩ := h.kv
  rw [ek] at e
  cases e
  have e1 : keyL [nmD x, nD n] = some (kyD x n) := rfl
  have e3 : (ν.set c (.dtt kvs))[c]? = some (.dtt kvs) := List.getElem?_set_self h.lt
  have hd := hk.get B hx hv
  subst hd
  refine ⟨ν.set c (.dtt kvs), ?_, ⟨_, rfl⟩, ⟨⟨_, e3, hk⟩, fun o => ?_⟩, get_ok e3 hv⟩
  · unfold putKX
    rw [e1, dtt_at ek]
    simp only
    rw [if_pos ⟨by show 2 ≤ 100; decide, by have := hk.len B; omega, rfl⟩, dPut_same B hk hx hv]
  · rw [List.getElem?_set_ne (by omega)]
    exact h.ob o
end
/-! ### the program's counts of places -/
section
variable {sk : List Pl} {c : Cl}
theorem div_nat (a b : Nat) (h0 : 0 < b) (hb : b < 1000) (m : Mu) : divD (.int (a : Nat)) (.int (b : Nat)) m = .ok (.int ((a / b : Nat) : Int)) m := by
  show (if decide (0 < (b : Int) ∧ (b : Int) < 1073741824) = true then Out.ok (D.int ((a : Int) / (b : Int))) m else Out.stuck) = _
  rw [if_pos (decide_eq_true ⟨by omega, by omega⟩), Int.natCast_ediv]
/-- places of a class from t on -/
def fst_ (c : Cl) (t : Nat) : Nat := t + (((c.rest : Int) - t) % (c.step : Int)).toNat
theorem pb_run (h : c.Ok) {t : Nat} {e : Int} (μ : Mu) : F_places_between [c.obj, .int (t : Nat), .int e] μ = .ok (nD (if e ≤ (fst_ c t : Int) then 0 else ((e - (fst_ c t : Int)).toNat + c.step - 1) / c.step)) μ := by
  have hr := h.rest
  have hs := h.step
  have e1 : xOp addD (xVar 1) (xOp modD (xCall intF (xaCons (xOp subD (xFld "Clause" "rest" (xVar 0)) (xVar 1)) xaNil)) (xFld "Clause" "step" (xVar 0))) [some c.obj, some (.int (t : Nat)), some (.int e), none] μ = .ok (.int (fst_ c t : Nat)) μ := by
    refine w_op (w_var rfl) (w_op (w_call (wa_1 (w_op (w_fld (w_var rfl) (Cl.fld_rest c _)) (w_var rfl) rfl)) rfl) (w_fld (w_var rfl) (Cl.fld_step c _)) (show modD (.int ((c.rest : Int) - (t : Int))) (.int (c.step : Nat)) μ = .ok (.int (((c.rest : Int) - (t : Int)) % (c.step : Int))) μ from ?_)) ?_
    · show (if decide (0 < ((c.step : Nat) : Int)) = true then _ else _) = _
      rw [if_pos (decide_eq_true (by omega))]
    · show Out.ok (D.int ((t : Int) + _)) μ = Out.ok (D.int ((fst_ c t : Nat) : Int)) μ
      have : 0 ≤ ((c.rest : Int) - (t : Int)) % (c.step : Int) := Int.emod_nonneg _ (by omega)
      unfold fst_
      congr 2
      omega
  let r1 : Rho := [some c.obj, some (.int (t : Nat)), some (.int e), some (.int (fst_ c t : Nat))]
  have t2 : xTest (xOp geD (xVar 3) (xVar 2)) r1 μ = .ok (decide (e ≤ (fst_ c t : Int))) μ := w_tst (w_op (w_var rfl) (w_var rfl) rfl)
  refine f_ret' (m1 := μ) (s_seq (r1 := r1) (s_asg e1) (s_ret ?_)) rfl List.take_length
  by_cases he : e ≤ (fst_ c t : Int)
  · rw [decide_eq_true he] at t2
    rw [if_pos he]
    exact w_if1 t2 w_c
  · rw [decide_eq_false he] at t2
    rw [if_neg he]
    refine w_if0 t2 (w_op (w_op (w_op (w_op (w_var rfl) (w_var rfl) rfl) (w_fld (w_var rfl) (Cl.fld_step c _)) rfl) w_c (show subD (.int (e - (fst_ c t : Int) + (c.step : Int))) (.int 1) μ = .ok (.int (((e - (fst_ c t : Int)).toNat + c.step - 1 : Nat) : Int)) μ from ?_)) (w_fld (w_var rfl) (Cl.fld_step c _)) (div_nat _ _ (by omega) (by omega) μ))
    show Out.ok (D.int (e - (fst_ c t : Int) + (c.step : Int) - 1)) μ = _
    congr 2
    omega
theorem pb0 (h : c.Ok) (e : Int) (μ : Mu) : F_places_between [c.obj, .int 0, .int e] μ = .ok (nD (bw c e.toNat)) μ := by
  refine (pb_run (t := 0) h μ).trans ?_
  have hr := h.rest
  have e1 : fst_ c 0 = c.rest := by
    unfold fst_
    have : ((c.rest : Int) - ((0 : Nat) : Int)) % (c.step : Int) = (c.rest : Int) := by
      rw [show (c.rest : Int) - ((0 : Nat) : Int) = (c.rest : Int) by omega]
      exact Int.emod_eq_of_lt (by omega) (by omega)
    rw [this]
    omega
  rw [e1]
  unfold bw
  congr 2
  split
  · rw [show e.toNat - c.rest = 0 by omega, Nat.zero_add, Nat.div_eq_of_lt (by omega)]
  · rw [show (e - (c.rest : Int)).toNat = e.toNat - c.rest by omega]
theorem pbf (h : c.Ok) (n : Nat) (μ : Mu) : F_places_between [c.obj, .int (c.far : Nat), .int (n : Nat)] μ = .ok (nD (bw c n - bw c (min c.far n))) μ := by
  refine (pb_run (t := c.far) h μ).trans ?_
  have h1 := h.rest
  have h2 := h.step
  have h3 := h.far
  have h4 := h.far0
  unfold bw fst_
  congr 2
  obtain ⟨w, rest, step, side, far, goal⟩ := c
  simp only at h1 h2 h3 h4 ⊢
  have hst : step = 1 ∨ step = 2 ∨ step = 3 := by omega
  have hf : far = 1 ∨ far = 2 ∨ far = 3 ∨ far = 4 := by omega
  rcases hst with rfl | rfl | rfl
  · have : rest = 0 := by omega
    subst this
    rcases hf with rfl | rfl | rfl | rfl <;> (split <;> omega)
  · have : rest = 0 ∨ rest = 1 := by omega
    rcases this with rfl | rfl <;> rcases hf with rfl | rfl | rfl | rfl <;> (split <;> omega)
  · have : rest = 0 ∨ rest = 1 ∨ rest = 2 := by omega
    rcases this with rfl | rfl | rfl <;> rcases hf with rfl | rfl | rfl | rfl <;> (split <;> omega)
theorem deeds_run (h : c.Ok) (hw : c.w < 2) (n : Nat) (μ : Mu) : F_deeds_at [c.obj, nD n] μ = .ok (nD (deeds c n)) μ := by
  have t1 : xTest (xOp eqD (xFld "Clause" "side" (xVar 0)) (xC (.str "left"))) [some c.obj, some (nD n)] μ = .ok (decide (c.side = 0)) μ := by
    rw [← side_leftC _ h.side]
    exact w_tst (w_op (w_fld (w_var rfl) (Cl.fld_side hw _)) w_c (eq_strC _ _ μ))
  unfold deeds
  by_cases hs : c.side = 0
  · rw [decide_eq_true hs] at t1
    rw [if_pos hs]
    exact f_ret' (m1 := μ) (s_end (s_if1 t1 (s_ret (w_call (wa_3 (w_var rfl) (w_fld (w_var rfl) (Cl.fld_far hw _)) (w_var rfl)) (pbf h n μ))))) rfl List.take_length
  · rw [decide_eq_false hs] at t1
    rw [if_neg hs]
    refine f_ret' (m1 := μ) (s_seq (s_no t1) (s_ret (w_call (wa_3 (w_var rfl) w_c (w_op (w_var rfl) (w_fld (w_var rfl) (Cl.fld_far hw _)) rfl)) ((pb0 h ((n : Int) - (c.far : Int)) μ).trans ?_)))) rfl List.take_length
    rw [show ((n : Int) - (c.far : Int)).toNat = n - c.far by omega]
end
end J.Cn

/-! # CC: the program's joins and rounds -/
namespace J.Cn
open PySem PySem.Spec PyProof.Rows L2 DS
open M
theorem okC {G : Fn} {ds : List D} {d : D} (h : okIs (G ds []) d = true) : G ds [] = .ok d [] ∧ d.inB 0 = true := by
  unfold okIs at h
  split at h
  · rename_i e he
    rw [Bool.and_eq_true] at h
    cases D.same_eq _ _ h.1
    exact ⟨he, h.2⟩
  · cases h
theorem plain_tab : ∀ g ∈ [Gl.all, .before, .last 1, .last 2, .last 3, .last 4], ∀ n ∈ [1, 2, 3, 4], okIs (F_plain_joins [g.read, nD n] []) (.lst ((plainL g n).map nD)) = true := by decide +kernel
theorem goals6 {g : Gl} (h : g.Ok) : g ∈ [Gl.all, .before, .last 1, .last 2, .last 3, .last 4] := by
  cases g with
  | all => simp
  | before => simp
  | last k =>
    obtain ⟨h1, h2⟩ := h
    have : k = 1 ∨ k = 2 ∨ k = 3 ∨ k = 4 := by omega
    rcases this with rfl | rfl | rfl | rfl <;> simp
theorem four {n : Nat} (h0 : 0 < n) (h : n ≤ 4) : n ∈ [1, 2, 3, 4] := by
  have : n = 1 ∨ n = 2 ∨ n = 3 ∨ n = 4 := by omega
  rcases this with rfl | rfl | rfl | rfl <;> simp
theorem plain_run {g : Gl} (hg : g.Ok) {n : Nat} (h0 : 0 < n) (hn : n ≤ 4) (μ : Mu) : F_plain_joins [g.read, nD n] μ = .ok (.lst ((plainL g n).map nD)) μ := by
  obtain ⟨e, b⟩ := okC (plain_tab g (goals6 hg) n (four h0 hn))
  refine fr_F_plain_joins.of ?_ e b μ
  cases g <;> rfl
theorem plain_len (g : Gl) (n : Nat) : (plainL g n).length = n := by unfold plainL; rw [List.length_map, List.length_range]
/-! ### one plan at one length -/
def selfD (c : Nat) : D := .loc (c + 1)
abbrev teB (bt : Fn) : XE' := xMeth "Counter" "both" bt (xVar 0) (xaCons (xFld "Clause" "goal" (xVar 8)) (xaCons (xCall F_places_between (xaCons (xVar 8) (xaCons (xC (.int 0)) (xaCons (xVar 2) xaNil)))) xaNil))
abbrev bdF (bt : Fn) : XS := (sIf (xTest (xOp eqD (xFld "Clause" "word" (xOp ixD (xVar 6) (xC (.int 0)))) (xC (.str "call")))) (sSeq (sAsg (xLc (xiSeq (xVar 6)) [8] (gNm 8) xYes (teB bt)) (gNm 7))
  (sSeq (sAug 4 (xCall sumF (xaCons (xLc (xiSeq (xVar 7)) [9] (gNm 9) xYes (xOp ixD (xVar 9) (xC (.int 0)))) xaNil)))
  (sAug 5 (xCall maxF (xaCons (xLc (xiSeq (xVar 7)) [9] (gNm 9) xYes (xOp ixD (xVar 9) (xC (.int 1)))) xaNil))))) (sSeq (sAug 4 (xCall sumF (xaCons (xLc (xiSeq (xVar 6)) [8] (gNm 8) (xTest (xOp eqD (xFld "Clause" "word" (xVar 8)) (xC (.str "join")))) (xCall F_deeds_at (xaCons (xVar 8) (xaCons (xVar 2) xaNil)))) xaNil)))
  (sAug 5 (xC (.int 1)))))
section
variable {sk : List Pl} {S : Nat → Prop} {Ks : List (List Key)} {c : Nat}
theorem pair_sum (v : Cl → Nat × Nat) (r : List Cl) {ρ : Rho} {μ : Mu} (h7 : ρ[7]? = some (some (.lst (r.map fun d => prV (v d))))) (hl : r.length ≤ 1000) (h9 : 9 < ρ.length) :
    xCall sumF (xaCons (xLc (xiSeq (xVar 7)) [9] (gNm 9) xYes (xOp ixD (xVar 9) (xC (.int 0)))) xaNil) ρ μ = .ok (.int ((r.map fun d => (v d).1).sum : Nat)) μ := by
  have lc := lc_map (i := 9) (te := xOp ixD (xVar 9) (xC (.int 0))) (r0 := wipeR ρ [9]) (μ := μ) (fun d : Cl => prV (v d)) (fun d => nD (v d).1) (xs := r) (fun x hx acc => w_op (w_var (List.getElem?_set_self (by unfold wipeR; simp; exact h9))) w_c (ix_tup (k := 0) rfl _)) (fun _ _ => rfl) (lineC (by omega))
  have e := sum_eqC (r.map fun d => (v d).1) μ
  rw [List.map_map] at e
  exact w_call (wa_1 (w_lc (wi_seq (w_var h7) rfl) lc)) e
theorem pair_max (v : Cl → Nat × Nat) (r : List Cl) {ρ : Rho} {μ : Mu} (h7 : ρ[7]? = some (some (.lst (r.map fun d => prV (v d))))) (h0 : 0 < r.length) (hl : r.length ≤ 1000) (h9 : 9 < ρ.length) :
    xCall maxF (xaCons (xLc (xiSeq (xVar 7)) [9] (gNm 9) xYes (xOp ixD (xVar 9) (xC (.int 1)))) xaNil) ρ μ = .ok (.int ((r.map fun d => (v d).2).foldl max 0 : Nat)) μ := by
  have lc := lc_map (i := 9) (te := xOp ixD (xVar 9) (xC (.int 1))) (r0 := wipeR ρ [9]) (μ := μ) (fun d : Cl => prV (v d)) (fun d => nD (v d).2) (xs := r) (fun x hx acc => w_op (w_var (List.getElem?_set_self (by unfold wipeR; simp; exact h9))) w_c (ix_tup (k := 1) rfl _)) (fun _ _ => rfl) (lineC (by omega))
  have e := max_eqC (gs := r.map fun d => (v d).2) (by rw [List.length_map]; exact h0) μ
  rw [List.map_map] at e
  exact w_call (wa_1 (w_lc (wi_seq (w_var h7) rfl) lc)) e
/-- one round -/
theorem round_run (B : Bds sk S Ks) {p : Pl} (hp : p ∈ sk) {n : Nat} (hn : S n) {r : List Cl} (hr : r ∈ p.rounds) (bt : Fn)
    (hbt : ∀ d ∈ r, d.w = 3 → ∀ ν, c + 1 < ν.length → St sk S True c ν → ∃ ν', bt [selfD c, nmD d.goal, nD (bw d n)] ν = .ok (prV (V sk d.goal (bw d n))) ν' ∧ Chg c ν ν' ∧ St sk S True c ν') {a b : Nat} {nm x3 : D} {x7 x8 x9 : Option D} {o3 : Option D} {ν : Mu} (hc : c + 1 < ν.length) (h : St sk S True c ν) :
    ∃ y7 y8 y9 ν', bdF bt [some (selfD c), some nm, some (nD n), o3, some (nD a), some (nD b), some (.lst (r.map Cl.obj)), x7, x8, x9] ν = .next [some (selfD c), some nm, some (nD n), o3, some (nD (a + (rndV (V sk) n r).1)), some (nD (b + (rndV (V sk) n r).2)), some (.lst (r.map Cl.obj)), y7, y8, y9] ν' ∧ Chg c ν ν' ∧ St sk S True c ν' := by
  have hro := (B.ok.ok p hp).ok r hr
  let Q (u4 u5 : Nat) (u7 u8 u9 : Option D) : Rho := [some (selfD c), some nm, some (nD n), o3, some (nD u4), some (nD u5), some (.lst (r.map Cl.obj)), u7, u8, u9]
  obtain ⟨c0, cs, er⟩ : ∃ c0 cs, r = c0 :: cs := by
    cases r with
    | nil => exact absurd hro.len0 (by simp)
    | cons c0 cs => exact ⟨c0, cs, rfl⟩
  have hc0 : c0 ∈ r := by rw [er]; exact List.mem_cons_self ..
  have t1 : xTest (xOp eqD (xFld "Clause" "word" (xOp ixD (xVar 6) (xC (.int 0)))) (xC (.str "call"))) (Q a b x7 x8 x9) ν = .ok (callR r) ν := by
    have : callR r = decide (c0.w = 3) := by rw [er]; rfl
    rw [this, ← word_callC _ (hro.ok c0 hc0).w]
    refine w_tst (w_op (w_fld (d := c0.obj) (w_op (w_var rfl) w_c (ix_lst (i := 0) (by rw [er]; rfl))) (Cl.fld_word c0 _)) w_c (eq_strC _ _ ν))
  have hl3 := hro.len
  cases hcr : callR r with
  | true =>
    rw [hcr] at t1
    have all := callR_all hro hcr
    obtain ⟨ν', e, s, h'⟩ := lc_chg (sk := sk) (S := S) (O := True) (c := c) (i := 8) (te := teB bt) (r0 := Q a b x7 none x9) Cl.obj (fun d => prV (V sk d.goal (bw d n))) (xs := r) (fun _ _ _ => rfl) (by omega) (μ := ν) (by omega) (fun _ => hc) (fun d hd ξ _ hξ hs => by
      obtain ⟨ξ', e, s, h'⟩ := hbt d hd (all d hd) ξ (hξ trivial) hs
      refine ⟨ξ', ?_, s, h'⟩
      refine w_meth (d := selfD c) (gs := [("shelf", bookD sk), ("known", .loc c)]) (w_var rfl) ?_ rfl (wa_2 (w_fld (w_var rfl) (Cl.fld_goal d _)) (w_call (wa_3 (w_var rfl) w_c (w_var rfl)) (pb0 (hro.ok d hd) (n : Nat) ξ))) ?_
      · show (match ξ[c + 1]? with
          | some (.ins c gs) => some (c, gs)
          | _ => none) = _
        rw [hs.ob trivial]
      · rw [if_pos (all d hd), Int.toNat_natCast]
        exact e) h
    let P : D := .lst (r.map fun d => prV (V sk d.goal (bw d n)))
    have es : rndV (V sk) n r = ((r.map fun d => (V sk d.goal (bw d n)).1).sum, (r.map fun d => (V sk d.goal (bw d n)).2).foldl max 0) := by
      unfold rndV
      rw [if_pos hcr]
    rw [es]
    refine ⟨some P, x8, x9, ν', ?_, s, h'⟩
    exact s_if1 t1 (s_seq (r1 := Q a b (some P) x8 x9) (s_asg (w_lc (wi_seq (w_var rfl) rfl) e))
      (s_seq (r1 := Q (a + (r.map fun d => (V sk d.goal (bw d n)).1).sum) b (some P) x8 x9) (s_aug rfl (pair_sum (fun d => V sk d.goal (bw d n)) r rfl (by omega) (by show 9 < 10; decide)))
        (s_aug rfl (pair_max (fun d => V sk d.goal (bw d n)) r rfl hro.len0 (by omega) (by show 9 < 10; decide)))))
  | false =>
    rw [hcr] at t1
    have none3 := callR_none hro hcr
    have es : rndV (V sk) n r = (((r.filter fun d => decide (d.w = 0)).map fun d => deeds d n).sum, 1) := by
      unfold rndV
      rw [if_neg (by rw [hcr]; simp)]
    rw [es]
    have lc := lc_fil (i := 8) (tt := xTest (xOp eqD (xFld "Clause" "word" (xVar 8)) (xC (.str "join")))) (te := xCall F_deeds_at (xaCons (xVar 8) (xaCons (xVar 2) xaNil))) (r0 := Q a b x7 none x9) (μ := ν) Cl.obj (fun d => decide (d.w = 0)) (fun d => nD (deeds d n)) (xs := r) (fun d hd acc => by
        rw [← word_joinC _ (hro.ok d hd).w]
        exact w_tst (w_op (w_fld (w_var rfl) (Cl.fld_word d _)) w_c (eq_strC _ _ _))) (fun d hd hw acc => by
        have hw : d.w = 0 := of_decide_eq_true hw
        exact w_call (wa_2 (w_var rfl) (w_var rfl)) (deeds_run (hro.ok d hd) (by omega) n _)) (fun _ _ _ => rfl) (lineC (by omega))
    have e := sum_eqC ((r.filter fun d => decide (d.w = 0)).map fun d => deeds d n) ν
    rw [List.map_map] at e
    refine ⟨x7, x8, x9, ν, ?_, Chg.refl h, h⟩
    exact s_if0 t1 (s_seq (r1 := Q (a + ((r.filter fun d => decide (d.w = 0)).map fun d => deeds d n).sum) b x7 x8 x9) (s_aug rfl (w_call (wa_1 (w_lc (wi_seq (w_var rfl) rfl) lc)) e)) (s_aug (q := 1) rfl w_c))
abbrev shelf (f : Str) (G : Fn) : XE' := xMeth "Book" f G (xFld "Counter" "shelf" (xVar 0)) (xaCons (xVar 1) xaNil)
theorem shelf_run {f : Str} {G : Fn} {nm d : D} {ρ : Rho} {ν : Mu} (h : St sk S True c ν) (h0 : ρ[0]? = some (some (selfD c))) (h1 : ρ[1]? = some (some nm)) (hf : (([(("held" : Str), heldD sk), (("parsed" : Str), .dct (sk.map fun p => (nmS p.nm, p.prog)))] : List (Str × D)).lookup f) = none) (e : G [bookD sk, nm] ν = .ok d ν) : shelf f G ρ ν = .ok d ν := by
  refine w_meth (d := bookD sk) (w_fld (d := selfD c) (w_var h0) ?_) (bk_ins _ _) hf (wa_1 (w_var h1)) e
  have hi : insOf ν (selfD c) = some (("Counter" : Str), [(("shelf" : Str), bookD sk), (("known" : Str), .loc c)]) := by
    show (match ν[c + 1]? with
      | some (.ins c gs) => some (c, gs)
      | _ => none) = _
    rw [h.ob trivial]
  unfold fldD
  rw [hi]
  rfl
theorem sumV_take (sk : List Pl) (n : Nat) (rs : List (List Cl)) {k : Nat} {r : List Cl} (hr : rs[k]? = some r) : sumV (V sk) n (rs.take (k + 1)) = ((sumV (V sk) n (rs.take k)).1 + (rndV (V sk) n r).1, (sumV (V sk) n (rs.take k)).2 + (rndV (V sk) n r).2) := by
  have e : rs.take (k + 1) = rs.take k ++ [r] := by rw [List.take_succ, hr]; rfl
  rw [e]
  unfold sumV
  simp only [List.map_append, List.sum_append, List.map_cons, List.map_nil, List.sum_cons, List.sum_nil, Nat.add_zero]
theorem found_run (B : Bds sk S Ks) {p : Pl} (hp : p ∈ sk) {n : Nat} (h0 : 0 < n) (hn : S n) (bt fo : Fn)
    (hbt : p.base < n → ∀ r ∈ p.rounds, ∀ d ∈ r, d.w = 3 → ∀ ν, c + 1 < ν.length → St sk S True c ν → ∃ ν', bt [selfD c, nmD d.goal, nD (bw d n)] ν = .ok (prV (V sk d.goal (bw d n))) ν' ∧ Chg c ν ν' ∧ St sk S True c ν') {ν : Mu} (hc : c + 1 < ν.length) (h : St sk S True c ν) :
    ∃ ν', fnOf 10 false (B_Counter_found bt fo) [selfD c, nmD p.nm, nD n] ν = .ok (prV (V sk p.nm n)) ν' ∧ Chg c ν ν' ∧ St sk S True c ν' := by
  have ok := B.ok.ok p hp
  have hb := ok.base
  let R (x3 x4 x5 x6 x7 x8 x9 : Option D) : Rho := [some (selfD c), some (nmD p.nm), some (nD n), x3, x4, x5, x6, x7, x8, x9]
  have t1 : xTest (xOp leD (xVar 2) (xOp ixD (shelf "plan" F_Book_plan) (xC (.int 2)))) (R none none none none none none none) ν = .ok (decide (n ≤ p.base)) ν := by
    refine w_tst (w_op (w_var rfl) (w_op (shelf_run h rfl rfl rfl (bplan_ok B.ok hp ν)) w_c (ix_tup (k := 2) rfl _)) ?_)
    show Out.ok (D.bl (decide ((n : Int) ≤ (p.base : Int)))) ν = _
    congr 2
    rw [Bool.eq_iff_iff, decide_eq_true_eq, decide_eq_true_eq]
    omega
  by_cases hnb : n ≤ p.base
  · rw [decide_eq_true hnb] at t1
    rw [V_plain B.ok hp h0 hnb]
    let P : D := .lst ((plainL p.goal n).map nD)
    refine ⟨ν, f_ret' (m1 := ν) (s_end (s_if1 t1 (s_seq (r1 := R (some P) none none none none none none) (s_asg (w_call (wa_2 (shelf_run h rfl rfl rfl (goal_of_ok B.ok hp ν)) (w_var rfl)) (plain_run ok.goal h0 (by omega) ν))) (s_ret (w_tup (wa_2 (w_call (wa_1 (w_var rfl)) (sum_eqC _ ν)) (w_call (wa_1 (w_var rfl)) (max_eqC (by rw [plain_len]; exact h0) ν)))))))) rfl List.take_length, Chg.refl h, h⟩
  · rw [decide_eq_false hnb] at t1
    rw [V_led B.ok hp (by omega)]
    obtain ⟨r', ν', lp, ⟨⟨a6, a7, a8, a9, rfl⟩, hchg, hst⟩⟩ := loop_inv (k := 0) (m := ν) (xs := p.rounds.map fun r => .lst (r.map Cl.obj)) (g := gNm 6) (body := bdF bt) (r := R none (some (nD 0)) (some (nD 0)) none none none none)
      (fun k r m => (∃ a6 a7 a8 a9, r = R none (some (nD (sumV (V sk) n (p.rounds.take k)).1)) (some (nD (sumV (V sk) n (p.rounds.take k)).2)) a6 a7 a8 a9) ∧ Chg c ν m ∧ St sk S True c m) ⟨⟨_, _, _, _, rfl⟩, Chg.refl h, h⟩ fun k x r m hx hi => by
      obtain ⟨⟨a6, a7, a8, a9, rfl⟩, hchg, hst⟩ := hi
      rw [List.getElem?_map] at hx
      cases hr : p.rounds[k]? with
      | none => rw [hr] at hx; cases hx
      | some r =>
        rw [hr] at hx
        cases hx
        rw [Nat.zero_add, sumV_take sk n p.rounds hr]
        obtain ⟨y7, y8, y9, m', e, s', h'⟩ := round_run B hp hn (List.mem_of_getElem? hr) bt (hbt (by omega) r (List.mem_of_getElem? hr)) (a := (sumV (V sk) n (p.rounds.take k)).1) (b := (sumV (V sk) n (p.rounds.take k)).2) (nm := nmD p.nm) (x3 := .non) (o3 := none) (x7 := a7) (x8 := a8) (x9 := a9) (ν := m) (by rw [hchg.len]; exact hc) hst
        exact ⟨R none (some (nD (sumV (V sk) n (p.rounds.take k)).1)) (some (nD (sumV (V sk) n (p.rounds.take k)).2)) (some (.lst (r.map Cl.obj))) a7 a8 a9, m, _, m', rfl, e, ⟨_, _, _, _, rfl⟩, hchg.trans s', h'⟩
    rw [Nat.zero_add, List.length_map, List.take_length] at lp
    refine ⟨ν', f_ret' (m1 := ν') (s_seq (s_no t1) (s_seq (r1 := R none (some (nD 0)) (some (nD 0)) none none none none) (s_asgT (m2 := ν) (w_tup (wa_2 w_c w_c)) rfl) (s_seq (s_for (wi_seq (shelf_run h rfl rfl rfl (program_ok B.ok hp ν)) rfl) lp) (s_ret (w_tup (wa_2 (w_var rfl) (w_var rfl))))))) rfl hchg.take, hchg, hst⟩
theorem known_fld {ρ : Rho} {ν : Mu} (h : St sk S True c ν) (h0 : ρ[0]? = some (some (selfD c))) : xFld "Counter" "known" (xVar 0) ρ ν = .ok (.loc c) ν := by
  refine w_fld (d := selfD c) (w_var h0) ?_
  have hi : insOf ν (selfD c) = some (("Counter" : Str), [(("shelf" : Str), bookD sk), (("known" : Str), .loc c)]) := by
    show (match ν[c + 1]? with
      | some (.ins c gs) => some (c, gs)
      | _ => none) = _
    rw [h.ob trivial]
  unfold fldD
  rw [hi]
  rfl
theorem both_run (B : Bds sk S Ks) {x n : Nat} (hx : x ∈ sk.map Pl.nm) (hn : S n) (bt fo : Fn)
    (hfo : 0 < n → ∀ ν, c + 1 < ν.length → St sk S True c ν → ∃ ν', fo [selfD c, nmD x, nD n] ν = .ok (prV (V sk x n)) ν' ∧ Chg c ν ν' ∧ St sk S True c ν')
    {ν : Mu} (hc : c + 1 < ν.length) (h : St sk S True c ν) :
    ∃ ν', fnOf 3 false (B_Counter_both bt fo) [selfD c, nmD x, nD n] ν = .ok (prV (V sk x n)) ν' ∧ Chg c ν ν' ∧ St sk S True c ν' := by
  let R : Rho := [some (selfD c), some (nmD x), some (nD n)]
  have t1 : xTest (xOp eqD (xVar 2) (xC (.int 0))) R ν = .ok (decide (n = 0)) ν := by
    refine w_tst (w_op (w_var rfl) w_c ?_)
    show Out.ok (D.bl ((n : Int) == 0)) ν = _
    congr 2
    rw [Bool.eq_iff_iff, beq_iff_eq, decide_eq_true_eq]
    omega
  by_cases h0 : n = 0
  · subst h0
    rw [decide_eq_true rfl] at t1
    rw [V_zero]
    exact ⟨ν, f_ret' (m1 := ν) (s_end (s_if1 t1 (s_ret (w_tup (wa_2 w_c w_c))))) rfl List.take_length, Chg.refl h, h⟩
  rw [decide_eq_false h0] at t1
  obtain ⟨kvs, ek, hkv, en⟩ := nin_ok h x n
  have t2 : xTest (xNinK (xaCons (xVar 1) (xaCons (xVar 2) xaNil)) (xFld "Counter" "known" (xVar 0))) R ν = .ok (!(dVal kvs (kyD x n)).isSome) ν := w_tst (w_nink (wa_2 (w_var rfl) (w_var rfl)) (by show 2 ≤ 100; decide) (known_fld h rfl) en)
  cases hv : dVal kvs (kyD x n) with
  | some d =>
    rw [hv] at t2
    have := hkv.get B hx hv
    subst this
    exact ⟨ν, f_ret' (m1 := ν) (s_seq (s_no t1) (s_seq (s_no t2) (s_ret (w_getk (known_fld h rfl) (wa_2 (w_var rfl) (w_var rfl)) (get_ok ek hv))))) rfl List.take_length, Chg.refl h, h⟩
  | none =>
    rw [hv] at t2
    obtain ⟨ν1, e1, s1, h1⟩ := hfo (by omega) ν hc h
    obtain ⟨kvs1, ek1, hkv1, _⟩ := nin_ok h1 x n
    have em : xMeth "Counter" "found" fo (xVar 0) (xaCons (xVar 1) (xaCons (xVar 2) xaNil)) R ν = .ok (prV (V sk x n)) ν1 := by
      refine w_meth (d := selfD c) (gs := [("shelf", bookD sk), ("known", .loc c)]) (w_var rfl) ?_ rfl (wa_2 (w_var rfl) (w_var rfl)) e1
      show (match ν[c + 1]? with
        | some (.ins c gs) => some (c, gs)
        | _ => none) = _
      rw [h.ob trivial]
    cases hv1 : dVal kvs1 (kyD x n) with
    | none =>
      obtain ⟨ν2, hput⟩ := put_ok B h1 hx hn
      obtain ⟨e2, s2, h2, e3⟩ := hput kvs1 ek1 hv1
      exact ⟨ν2, f_ret' (m1 := ν2) (s_seq (s_no t1) (s_seq (s_if1 t2 (s_putk em (known_fld h1 rfl) (wa_2 (w_var rfl) (w_var rfl)) e2)) (s_ret (w_getk (known_fld h2 rfl) (wa_2 (w_var rfl) (w_var rfl)) e3)))) rfl (s1.trans s2).take, s1.trans s2, h2⟩
    | some d =>
      have := hkv1.get B hx hv1
      subst this
      obtain ⟨ν2, e2, s2, h2, e3⟩ := put_again B h1 ek1 hx hv1
      exact ⟨ν2, f_ret' (m1 := ν2) (s_seq (s_no t1) (s_seq (s_if1 t2 (s_putk em (known_fld h1 rfl) (wa_2 (w_var rfl) (w_var rfl)) e2)) (s_ret (w_getk (known_fld h2 rfl) (wa_2 (w_var rfl) (w_var rfl)) e3)))) rfl (s1.trans s2).take, s1.trans s2, h2⟩
/-- the counter, with all calls -/
theorem both_ok (B : Bds sk S Ks) : ∀ (f x n : Nat) (ν : Mu), x ∈ sk.map Pl.nm → S n → 2 * rank sk x n + 2 ≤ f → c + 1 < ν.length → St sk S True c ν → ∃ ν', (GC f).1 [selfD c, nmD x, nD n] ν = .ok (prV (V sk x n)) ν' ∧ Chg c ν ν' ∧ St sk S True c ν'
  | 0, x, n, ν, _, _, hf, _, _ => by omega
  | 1, x, n, ν, _, _, hf, _, _ => by omega
  | f + 2, x, n, ν, hx, hn, hf, hc, h => by
    obtain ⟨p, hp, rfl⟩ := List.mem_map.mp hx
    refine both_run B hx hn (GC (f + 1)).1 (GC (f + 1)).2 (fun h0 ξ hξ hs => ?_) hc h
    refine found_run B hp h0 hn (GC f).1 (GC f).2 (fun hb r hr d hd hw ζ hζ hz => ?_) hξ hs
    obtain ⟨hg, hl⟩ := rank_lt B.ok hp hb hr hd hw
    exact both_ok B f d.goal (bw d n) ζ hg (B.cl n d (((B.ok.ok p hp).ok r hr).ok d hd) hn) (by omega) hζ hz
theorem make_run (sk : List Pl) {ρ : Rho} (μ : Mu) (h0 : ρ[0]? = some (some (bookD sk))) : xMakeE "Counter" "known" 2 B_Counter_D_initD_ V_Counter_D_initD_ (xaCons (xVar 0) xaNil) ρ μ = .ok (selfD μ.length) (μ ++ [.dtt [], .ins "Counter" [("shelf", bookD sk), ("known", .loc μ.length)]]) := by
  let R : Rho := [some (.loc μ.length), some (bookD sk)]
  have g1 : (μ ++ [Cell.ins "Counter" []])[μ.length]? = some (.ins "Counter" []) := by rw [List.getElem?_append_right (Nat.le_refl _), Nat.sub_self]; rfl
  have e1 : B_Counter_D_initD_ R (μ ++ [.ins "Counter" []]) = .next R (μ ++ [.ins "Counter" [("shelf", bookD sk)]]) := by
    show (putC "Counter" "shelf" (.loc μ.length) (bookD sk) (μ ++ [.ins "Counter" []])).stm R _ = _
    have : putC "Counter" "shelf" (.loc μ.length) (bookD sk) (μ ++ [.ins "Counter" []]) = .ok () (μ ++ [.ins "Counter" [("shelf", bookD sk)]]) := by
      show (match (μ ++ [Cell.ins "Counter" []])[μ.length]? with
        | some (.ins c' gs) => if c' = ("Counter" : Str) ∧ gs.length < 1000 ∧ (bookD sk).inB μ.length = true then Out.ok () ((μ ++ [Cell.ins "Counter" []]).set μ.length (.ins "Counter" (putD "shelf" (bookD sk) gs))) else .stuck
        | _ => .stuck) = _
      rw [g1]
      simp only
      rw [if_pos ⟨trivial, by show 0 < 1000; decide, bookD_in _ _⟩, List.set_append_right _ _ (Nat.le_refl _), Nat.sub_self]
      rfl
    rw [this]
    rfl
  have e2 : initN "Counter" "known" 2 B_Counter_D_initD_ V_Counter_D_initD_ [bookD sk] μ = .ok (selfD μ.length) (μ ++ [.dtt [], .ins "Counter" [("shelf", bookD sk), ("known", .loc μ.length)]]) := by
    unfold initN
    rw [show rho0 2 (D.loc μ.length :: [bookD sk]) = R from rfl, e1]
    simp only [R, List.getElem?_cons_zero, if_true]
    have e3 : V_Counter_D_initD_ R (μ ++ [.ins "Counter" [("shelf", bookD sk)]]) = .ok (.loc (μ.length + 1)) (μ ++ [.ins "Counter" [("shelf", bookD sk)]] ++ [.dtt []]) := by
      show Out.ok (D.loc (μ ++ [Cell.ins "Counter" [("shelf", bookD sk)]]).length) _ = _
      rw [List.length_append]
      rfl
    have e3' := e3
    simp only [R] at e3'
    rw [e3']
    simp only
    unfold endN
    have g2 : (μ ++ [Cell.ins "Counter" [("shelf", bookD sk)]] ++ [.dtt []])[μ.length]? = some (.ins "Counter" [("shelf", bookD sk)]) := by
      rw [List.append_assoc, List.getElem?_append_right (Nat.le_refl _), Nat.sub_self]; rfl
    have g3 : (μ ++ [Cell.ins "Counter" [("shelf", bookD sk)]] ++ [.dtt []])[μ.length + 1]? = some (.dtt []) := by
      rw [List.append_assoc, List.getElem?_append_right (by omega), Nat.add_sub_cancel_left]; rfl
    rw [g2, g3]
    simp only
    rw [if_pos ⟨trivial, by simp, trivial, by show 1 < 1000; decide, rfl, by rw [D.inF, bookD_in, D.inF]; rfl, rfl⟩]
    rw [List.append_assoc, List.take_left' rfl]
    rfl
  show (xaCons (xVar 0) xaNil ρ μ).bind _ = _
  rw [show xaCons (xVar 0) xaNil ρ μ = .ok [bookD sk] μ from wa_1 (w_var h0)]
  exact e2
theorem count_run (B : Bds sk S Ks) {p : Pl} (hp : p ∈ sk) {n : Nat} (hn : S n) (hf : 2 * rank sk p.nm n + 2 ≤ fuelC) {ρ : Rho} (μ : Mu) (r0 : ρ[0]? = some (some (bookD sk))) (r1 : ρ[1]? = some (some (nmD p.nm))) (r2 : ρ[2]? = some (some (nD n))) :
    ∃ ν : Mu, ν.take μ.length = μ ∧ xMeth "Counter" "both" F_Counter_both (xMakeE "Counter" "known" 2 B_Counter_D_initD_ V_Counter_D_initD_ (xaCons (xVar 0) xaNil)) (xaCons (xVar 1) (xaCons (xVar 2) xaNil)) ρ μ = .ok (prV (V sk p.nm n)) ν := by
  let m1 : Mu := μ ++ [.dtt [], .ins "Counter" [("shelf", bookD sk), ("known", .loc μ.length)]]
  have g0 : m1[μ.length]? = some (.dtt []) := by show (μ ++ _)[μ.length]? = _; rw [List.getElem?_append_right (Nat.le_refl _), Nat.sub_self]; rfl
  have g1 : m1[μ.length + 1]? = some (.ins "Counter" [("shelf", bookD sk), ("known", .loc μ.length)]) := by show (μ ++ _)[μ.length + 1]? = _; rw [List.getElem?_append_right (by omega), Nat.add_sub_cancel_left]; rfl
  have hst : St sk S True μ.length m1 := ⟨⟨[], g0, .nil⟩, fun _ => g1⟩
  obtain ⟨ν, e, ⟨kvs, hν⟩, _⟩ := both_ok B fuelC p.nm n m1 (List.mem_map.mpr ⟨p, hp, rfl⟩) hn hf (List.getElem?_eq_some_iff.mp g1).1 hst
  refine ⟨ν, ?_, w_meth (d := selfD μ.length) (gs := [("shelf", bookD sk), ("known", .loc μ.length)]) (make_run sk μ r0) ?_ rfl (wa_2 (w_var r1) (w_var r2)) e⟩
  · rw [hν]
    show ((μ ++ _).set μ.length _).take μ.length = μ
    rw [List.set_append_right _ _ (Nat.le_refl _), List.take_left' rfl]
  · show (match m1[μ.length + 1]? with
      | some (.ins c gs) => some (c, gs)
      | _ => none) = _
    rw [g1]
theorem joins_run (B : Bds sk S Ks) {p : Pl} (hp : p ∈ sk) {n : Nat} (h0 : 1 ≤ n) (h1 : n ≤ 1000000000000) (hn : S n) (hf : 2 * rank sk p.nm n + 2 ≤ fuelC) (μ : Mu) : F_joins [bookD sk, nmD p.nm, nD n] μ = .ok (nD (V sk p.nm n).1) μ := by
  obtain ⟨ν, ht, e⟩ := count_run B hp hn hf (ρ := [some (bookD sk), some (nmD p.nm), some (nD n)]) μ rfl rfl rfl
  exact f_ret' (m1 := ν) (s_seq (s_expr (w_call (wa_1 (w_var rfl)) (check_book_ok sk μ))) (s_seq (s_expr (w_call (wa_2 (w_var rfl) (w_var rfl)) (check_plan_ok B.ok hp μ))) (s_seq (s_expr (w_call (wa_2 (w_var rfl) w_c) (check_size_ok (most := 1000000000000) h0 h1 μ))) (s_ret (w_op e w_c (ix_tup (k := 0) rfl _)))))) rfl ht
theorem rounds_run (B : Bds sk S Ks) {p : Pl} (hp : p ∈ sk) {n : Nat} (h0 : 1 ≤ n) (h1 : n ≤ 1000000000000) (hn : S n) (hf : 2 * rank sk p.nm n + 2 ≤ fuelC) (μ : Mu) : F_rounds [bookD sk, nmD p.nm, nD n] μ = .ok (nD (V sk p.nm n).2) μ := by
  obtain ⟨ν, ht, e⟩ := count_run B hp hn hf (ρ := [some (bookD sk), some (nmD p.nm), some (nD n)]) μ rfl rfl rfl
  exact f_ret' (m1 := ν) (s_seq (s_expr (w_call (wa_1 (w_var rfl)) (check_book_ok sk μ))) (s_seq (s_expr (w_call (wa_2 (w_var rfl) (w_var rfl)) (check_plan_ok B.ok hp μ))) (s_seq (s_expr (w_call (wa_2 (w_var rfl) w_c) (check_size_ok (most := 1000000000000) h0 h1 μ))) (s_ret (w_op e w_c (ix_tup (k := 1) rfl _)))))) rfl ht
end
end J.Cn

/-! # CG: how great the numbers can get; their texts -/
namespace J.Cn
open PySem PySem.Spec PyProof.Rows L2 DS
open M
theorem sum_leC {xs : List Nat} {b k : Nat} (h : ∀ x ∈ xs, x ≤ b) (hl : xs.length ≤ k) : xs.sum ≤ k * b := by
  have : xs.sum ≤ xs.length * b := by
    clear hl
    induction xs with
    | nil => exact Nat.zero_le _
    | cons x xs ih =>
      have h1 := h x (List.mem_cons_self ..)
      have h2 := ih fun y hy => h y (List.mem_cons_of_mem _ hy)
      rw [List.sum_cons, List.length_cons, Nat.succ_mul]
      omega
  exact Nat.le_trans this (Nat.mul_le_mul_right _ hl)
theorem max_leC {b : Nat} : ∀ {xs : List Nat} {a : Nat}, (∀ x ∈ xs, x ≤ b) → a ≤ b → xs.foldl max a ≤ b
  | [], _, _, h => h
  | x :: xs, a, h, ha => by
    rw [List.foldl_cons]
    exact max_leC (fun y hy => h y (List.mem_cons_of_mem _ hy)) (Nat.max_le.mpr ⟨ha, h x (List.mem_cons_self ..)⟩)
theorem deeds_le {c : Cl} (h : c.Ok) (n : Nat) : deeds c n ≤ n := by
  unfold deeds
  split
  · have := bw_le c h.rest n
    omega
  · have := bw_le c h.rest (n - c.far)
    omega
theorem rnd_le {v : Nat → Nat → Nat × Nat} {n b : Nat} {r : List Cl} (hr : ROk r) (hb : n ≤ b) (hb1 : 1 ≤ b) (hv : ∀ c ∈ r, (v c.goal (bw c n)).1 ≤ b ∧ (v c.goal (bw c n)).2 ≤ b) : (rndV v n r).1 ≤ 3 * b ∧ (rndV v n r).2 ≤ 3 * b := by
  have hl := hr.len
  unfold rndV
  by_cases hc : callR r = true
  · rw [if_pos hc]
    refine ⟨sum_leC (fun x hx => ?_) (by rw [List.length_map]; exact hl), Nat.le_trans (max_leC (b := b) (fun x hx => ?_) (Nat.zero_le _)) (by omega)⟩
    · obtain ⟨c, hc, rfl⟩ := List.mem_map.mp hx
      exact (hv c hc).1
    · obtain ⟨c, hc, rfl⟩ := List.mem_map.mp hx
      exact (hv c hc).2
  · rw [if_neg hc]
    refine ⟨sum_leC (fun x hx => ?_) (by rw [List.length_map]; exact Nat.le_trans (List.length_filter_le _ _) hl), by show 1 ≤ 3 * b; omega⟩
    obtain ⟨c, hc, rfl⟩ := List.mem_map.mp hx
    have := deeds_le (hr.ok c (List.mem_filter.mp hc).1) n
    omega
theorem plain_le (g : Gl) {n : Nat} (hn : n ≤ 4) : (plainV g n).1 ≤ 16 ∧ (plainV g n).2 ≤ 16 := by
  have h : ∀ x ∈ plainL g n, x ≤ 4 := fun x hx => by
    obtain ⟨k, hk, rfl⟩ := List.mem_map.mp hx
    have := List.mem_range.mp hk
    cases g with
    | all => show k + 1 - 1 ≤ 4; omega
    | before => show k - 1 ≤ 4; omega
    | last q => show min (k + 1) q - 1 ≤ 4; omega
  exact ⟨sum_leC (k := 4) h (by rw [plain_len]; exact hn), Nat.le_trans (max_leC h (Nat.zero_le _)) (by omega)⟩
theorem val_le {sk : List Pl} (h : SOk sk) : ∀ (f x n : Nat), (val sk f x n).1 ≤ 15 ^ f * (n + 16) ∧ (val sk f x n).2 ≤ 15 ^ f * (n + 16)
  | 0, x, n => ⟨Nat.zero_le _, Nat.zero_le _⟩
  | f + 1, x, n => by
    have h1 : 1 ≤ 15 ^ f := Nat.pow_pos (by decide)
    have hb : n + 16 ≤ 15 ^ f * (n + 16) := Nat.le_mul_of_pos_left _ h1
    have e : 15 ^ (f + 1) * (n + 16) = 5 * (3 * (15 ^ f * (n + 16))) := by rw [Nat.pow_succ]; generalize 15 ^ f = a; rw [Nat.mul_comm a 15, Nat.mul_assoc]; omega
    show (stepV sk (val sk f) x n).1 ≤ _ ∧ (stepV sk (val sk f) x n).2 ≤ _
    unfold stepV
    by_cases h0 : n = 0
    · rw [if_pos h0]; exact ⟨Nat.zero_le _, Nat.zero_le _⟩
    · rw [if_neg h0]
      cases hp : planOf sk x with
      | none => exact ⟨Nat.zero_le _, Nat.zero_le _⟩
      | some p =>
        obtain ⟨hm, _⟩ := plan_some hp
        have ok := h.ok p hm
        simp only
        by_cases hnb : n ≤ p.base
        · rw [if_pos hnb]
          have := plain_le p.goal (n := n) (by have := ok.base; omega)
          rw [e]
          omega
        · rw [if_neg hnb, e]
          have hr : ∀ r ∈ p.rounds, (rndV (val sk f) n r).1 ≤ 3 * (15 ^ f * (n + 16)) ∧ (rndV (val sk f) n r).2 ≤ 3 * (15 ^ f * (n + 16)) := fun r hr => by
            have hro := ok.ok r hr
            refine rnd_le hro (by omega) (by omega) fun c hc => ?_
            have h2 := val_le h f c.goal (bw c n)
            have h3 := bw_le c (hro.ok c hc).rest n
            have h4 : 15 ^ f * (bw c n + 16) ≤ 15 ^ f * (n + 16) := Nat.mul_le_mul_left _ (by omega)
            exact ⟨Nat.le_trans h2.1 h4, Nat.le_trans h2.2 h4⟩
          unfold sumV
          refine ⟨sum_leC (fun y hy => ?_) (by rw [List.length_map]; exact ok.len), sum_leC (fun y hy => ?_) (by rw [List.length_map]; exact ok.len)⟩
          · obtain ⟨r, hr', rfl⟩ := List.mem_map.mp hy
            exact (hr r hr').1
          · obtain ⟨r, hr', rfl⟩ := List.mem_map.mp hy
            exact (hr r hr').2
theorem V_small {sk : List Pl} (h : SOk sk) {x n : Nat} (hr : rank sk x n ≤ 200) (hn : n ≤ 10 ^ 13) : (V sk x n).1 < 10 ^ 400 ∧ (V sk x n).2 < 10 ^ 400 := by
  have h1 := val_le h (rank sk x n + 1) x n
  have h2 : 15 ^ (rank sk x n + 1) * (n + 16) ≤ 15 ^ 201 * (10 ^ 13 + 16) := Nat.mul_le_mul (Nat.pow_le_pow_right (by decide) (by omega)) (by omega)
  have h3 : 15 ^ 201 * (10 ^ 13 + 16) < 10 ^ 400 := by decide +kernel
  exact ⟨Nat.lt_of_le_of_lt (Nat.le_trans h1.1 h2) h3, Nat.lt_of_le_of_lt (Nat.le_trans h1.2 h2) h3⟩
theorem big_int {a : Nat} (h : a < 10 ^ 400) : (PyData.int (a : Nat)).showable = true ∧ (PyData.shown (.int (a : Nat))).length ≤ 401 := by
  constructor
  · rw [PyData.showable, decide_eq_true_eq, Int.natAbs_natCast]
    by_cases h0 : a = 0
    · rw [h0]; decide
    · refine (Nat.log2_lt h0).mpr (Nat.lt_trans h ?_)
      decide +kernel
  · have e := int_text_length_le10 (a := (a : Nat)) (k := 400) (by decide) (by rw [Int.natAbs_natCast]; exact h)
    show (Str.ofString (toString ((a : Nat) : Int))).length ≤ 401
    rw [PySem.ofString_length]
    exact e
theorem repr2 {a b : Nat} (ha : a < 10 ^ 400) (hb : b < 10 ^ 400) : ∀ m, reprF [.lst [nD a, nD b]] m = .ok (.str (PyData.list [.int (a : Nat), .int (b : Nat)]).shown) m := fun m => by
  obtain ⟨a1, a2⟩ := big_int ha
  obtain ⟨b1, b2⟩ := big_int hb
  have hp : toPd (dere m (.lst [nD a, nD b])) = some (.list [.int (a : Nat), .int (b : Nat)]) := rfl
  have hs : (PyData.list [.int (a : Nat), .int (b : Nat)]).showable = true := by
    rw [PyData.showable, PyData.showableAll, PyData.showableAll, PyData.showableAll, a1, b1]
    rfl
  have hl : (PyData.list [.int (a : Nat), .int (b : Nat)]).leavesShort 401 = true := by
    rw [PyData.leavesShort, PyData.leavesShortAll, PyData.leavesShortAll, PyData.leavesShortAll, PyData.leavesShort, PyData.leavesShort, decide_eq_true a2, decide_eq_true b2]
    rfl
  have h1 := PyData.shown_le 401 (by decide) _ hl
  have hw : (PyData.list [.int (a : Nat), .int (b : Nat)]).weight ≤ 5000 := by
    have key : ∀ k : Nat, k < 10 ^ 400 → (PyData.int (k : Nat)).weight ≤ 2000 := fun k hk => by
      rw [PyData.weight]
      split
      · exact Nat.zero_le _
      · rename_i h0
        have : k ≠ 0 := fun e => h0 (by rw [e]; rfl)
        rw [Int.natAbs_natCast]
        have : k.log2 < 1920 := (Nat.log2_lt this).mpr (Nat.lt_trans hk (by decide +kernel))
        omega
    rw [PyData.weight, PyData.weightAll, PyData.weightAll, PyData.weightAll]
    have := key a ha
    have := key b hb
    omega
  show (match toPd (dere m (.lst [nD a, nD b])) with
    | some p => if p.showable = true ∧ p.depth ≤ 60 ∧ p.shown.length ≤ sizeLine then Out.ok (D.str p.shown) m else Out.stuck
    | none => Out.stuck) = _
  rw [hp]
  simp only
  rw [if_pos ⟨hs, by simp [PyData.depth, PyData.depthAll], by unfold sizeLine; omega⟩]
end J.Cn

/-! # CH: the law k38's own count by classes -/
namespace J.Cn
open PySem PySem.Spec PyProof.Rows L2 DS
open M
theorem due_len (g : Gl) (k : Nat) (m : Mu) : lenD [woD (dueW g k)] m = .ok (nD (cntG g k)) m := by
  cases g with
  | all => show Out.ok (D.int (((List.range' 0 (k + 1)).map nD).length : Nat)) m = _; rw [List.length_map, List.length_range']; rfl
  | before => show Out.ok (D.int (((List.range' 0 k).map nD).length : Nat)) m = _; rw [List.length_map, List.length_range']; rfl
  | last q =>
    show Out.ok (D.int (((List.range' (k + 1 - q) (k + 1 - (k + 1 - q))).map nD).length : Nat)) m = Out.ok (D.int ((min (k + 1) q : Nat) : Int)) m
    rw [List.length_map, List.length_range', show k + 1 - (k + 1 - q) = min (k + 1) q by omega]
theorem lplain_run (g : Gl) {n : Nat} (h0 : 0 < n) (hn : n ≤ 4) (μ : Mu) : F__law_plain [g.dat, nD n] μ = .ok (prV (plainV g n)) μ := by
  let R (x2 : Option D) : Rho := [some g.dat, some (nD n), x2, none]
  let P : D := .lst ((plainL g n).map nD)
  have l1 := lc_map (i := 3) (te := xCall maxF (xaCons (xC (.int 0)) (xaCons (xOp subD (xCall lenD (xaCons (xCall F__law_due (xaCons (xVar 0) (xaCons (xVar 3) xaNil))) xaNil)) (xC (.int 1))) xaNil))) (r0 := R none) (μ := μ) nD (fun k => nD (cntG g k - 1)) (xs := List.range n) (fun k hk acc => by
    have := List.mem_range.mp hk
    refine w_call (wa_2 w_c (w_op (w_call (wa_1 (w_call (wa_2 (w_var rfl) (w_var rfl)) (law_due_ok k (by omega) _))) (due_len g k _)) w_c rfl)) ?_
    show Out.ok (D.int (if ((cntG g k : Nat) : Int) - 1 > 0 then ((cntG g k : Nat) : Int) - 1 else 0)) _ = Out.ok (D.int ((cntG g k - 1 : Nat) : Int)) _
    congr 2
    split <;> omega) (fun _ _ => rfl) (lineC (by rw [List.length_range]; omega))
  have eP : D.lst ((List.range n).map fun k => nD (cntG g k - 1)) = P := by
    show D.lst _ = D.lst (((List.range n).map fun k => cntG g k - 1).map nD)
    rw [List.map_map]
    rfl
  rw [eP] at l1
  exact f_ret' (m1 := μ) (s_seq (r1 := R (some P)) (s_asg (w_lc (wi_rng1 (w_var rfl) (by omega)) (by rw [rngL_nD]; exact l1))) (s_ret (w_tup (wa_2 (w_call (wa_1 (w_var rfl)) (sum_eqC _ μ)) (w_call (wa_1 (w_var rfl)) (max_eqC (by rw [plain_len]; exact h0) μ)))))) rfl List.take_length
theorem below_run {d : Cl} (h : d.Ok) (n : Nat) (μ : Mu) : F__law_below [.int (d.rest : Nat), .int (d.step : Nat), nD n] μ = .ok (nD (bw d n)) μ := by
  have hr := h.rest
  have hs := h.step
  let R : Rho := [some (.int (d.rest : Nat)), some (.int (d.step : Nat)), some (nD n)]
  have t : xTest (xOp leD (xVar 2) (xVar 0)) R μ = .ok (decide (n ≤ d.rest)) μ := by
    refine w_tst (w_op (w_var rfl) (w_var rfl) ?_)
    show Out.ok (D.bl (decide ((n : Int) ≤ (d.rest : Int)))) μ = _
    congr 2
    rw [Bool.eq_iff_iff, decide_eq_true_eq, decide_eq_true_eq]
    omega
  refine f_ret' (m1 := μ) (s_ret ?_) rfl List.take_length
  unfold bw
  by_cases hn : n ≤ d.rest
  · rw [decide_eq_true hn] at t
    rw [show n - d.rest = 0 by omega, Nat.zero_add, Nat.div_eq_of_lt (by omega)]
    exact w_if1 t w_c
  · rw [decide_eq_false hn] at t
    have e : (n - d.rest + d.step - 1) / d.step = 1 + (n - d.rest - 1) / d.step := by
      rw [show n - d.rest + d.step - 1 = (n - d.rest - 1) + d.step by omega, Nat.add_div_right _ (by omega)]
      omega
    rw [e]
    refine w_if0 t (w_op w_c (w_op (w_op (w_op (w_var rfl) (w_var rfl) rfl) w_c (show subD (.int ((n : Int) - (d.rest : Int))) (.int 1) μ = .ok (.int ((n - d.rest - 1 : Nat) : Int)) μ from ?_)) (w_var rfl) (div_nat _ _ (by omega) (by omega) μ)) ?_)
    · show Out.ok (D.int ((n : Int) - (d.rest : Int) - 1)) μ = _
      congr 2
      omega
    · show Out.ok (D.int (1 + (((n - d.rest - 1) / d.step : Nat) : Int))) μ = Out.ok (D.int ((1 + (n - d.rest - 1) / d.step : Nat) : Int)) μ
      congr 2
section
variable {sk : List Pl} {S : Nat → Prop} {Ks : List (List Key)} {c : Nat}
/-- what a clause takes -/
def cvC (sk : List Pl) (n : Nat) (d : Cl) : Nat × Nat := if d.w = 3 then V sk d.goal (bw d n) else if d.w = 0 then (deeds d n, 1) else (0, 1)
theorem clause_run (B : Bds sk S Ks) {d : Cl} (h : d.Ok) {n : Nat} (ls cs : Fn)
    (hls : d.w = 3 → 0 < bw d n → ∀ ξ, St sk S False c ξ → ∃ ξ', ls [skD sk, .loc c, nmD d.goal, nD (bw d n)] ξ = .ok (prV (V sk d.goal (bw d n))) ξ' ∧ Chg c ξ ξ' ∧ St sk S False c ξ') {ν : Mu} (hst : St sk S False c ν) :
    ∃ ν', fnOf 11 false (B__law_clause_spent ls cs) [skD sk, .loc c, d.dat, nD n] ν = .ok (prV (cvC sk n d)) ν' ∧ Chg c ν ν' ∧ St sk S False c ν' := by
  let Q (x4 x5 x6 x7 x8 x9 x10 : Option D) : Rho := [some (skD sk), some (.loc c), some d.dat, some (nD n), x4, x5, x6, x7, x8, x9, x10]
  by_cases h3 : d.w = 3
  · have ec : cvC sk n d = V sk d.goal (bw d n) := if_pos h3
    rw [ec]
    let r1 : Rho := Q (some (.str "call")) (some (.int (d.rest : Nat))) (some (.int (d.step : Nat))) (some (.str "")) (some (.int 0)) (some (nmD d.goal)) none
    let r2 : Rho := Q (some (.str "call")) (some (.int (d.rest : Nat))) (some (.int (d.step : Nat))) (some (.str "")) (some (.int 0)) (some (nmD d.goal)) (some (nD (bw d n)))
    have f0 : sAsg (xVar 2) (gTp 6 (gsCons (gNm 4) (gsCons (gNm 5) (gsCons (gNm 6) (gsCons (gNm 7) (gsCons (gNm 8) (gsCons (gNm 9) gsNil))))))) (rho0 11 [skD sk, .loc c, d.dat, nD n]) ν = .next r1 ν := by
      refine s_asgT (m2 := ν) (w_var rfl) ?_
      show gTp 6 _ d.dat (Q none none none none none none none) ν = .ok (Q (some (.str "call")) (some (.int (d.rest : Nat))) (some (.int (d.step : Nat))) (some (.str "")) (some (.int 0)) (some (nmD d.goal)) none) ν
      have ed : d.dat = .tup [.str "call", .int d.rest, .int d.step, .str "", .int 0, .str (nmS d.goal)] := by unfold Cl.dat; rw [if_pos h3]
      simp only [Q]
      rw [ed]
      rfl
    have t1 : xTest (xOp eqD (xVar 4) (xC (.str "call"))) r1 ν = .ok true ν := w_tst (w_op (w_var rfl) w_c rfl)
    have e2 : xCall F__law_below (xaCons (xVar 5) (xaCons (xVar 6) (xaCons (xVar 3) xaNil))) r1 ν = .ok (nD (bw d n)) ν := w_call (wa_3 (w_var rfl) (w_var rfl) (w_var rfl)) (below_run h n ν)
    have t2 : xTest (xOp eqD (xVar 10) (xC (.int 0))) r2 ν = .ok (decide (bw d n = 0)) ν := by
      refine w_tst (w_op (w_var rfl) w_c ?_)
      show Out.ok (D.bl (((bw d n : Nat) : Int) == 0)) ν = _
      congr 2
      rw [Bool.eq_iff_iff, beq_iff_eq, decide_eq_true_eq]
      omega
    by_cases hb : bw d n = 0
    · rw [decide_eq_true hb] at t2
      rw [hb, V_zero]
      exact ⟨ν, f_ret' (m1 := ν) (s_seq f0 (s_end (s_if1 t1 (s_seq (r1 := r2) (s_asg e2) (s_ret (w_if1 t2 (w_tup (wa_2 w_c w_c)))))))) rfl List.take_length, Chg.refl hst, hst⟩
    · rw [decide_eq_false hb] at t2
      obtain ⟨ν', e, s, h'⟩ := hls h3 (by omega) ν hst
      exact ⟨ν', f_ret' (m1 := ν') (s_seq f0 (s_end (s_if1 t1 (s_seq (r1 := r2) (s_asg e2) (s_ret (w_if0 t2 (w_call (wa_cons (w_var rfl) (wa_3 (w_var rfl) (w_var rfl) (w_var rfl))) e))))))) rfl s.take, s, h'⟩
  · let r1 : Rho := Q (some (.str (wordS d.w))) (some (.int (d.rest : Nat))) (some (.int (d.step : Nat))) (some (.str (sideS d.side))) (some (.int (d.far : Nat))) (some (.str "")) none
    have f0 : sAsg (xVar 2) (gTp 6 (gsCons (gNm 4) (gsCons (gNm 5) (gsCons (gNm 6) (gsCons (gNm 7) (gsCons (gNm 8) (gsCons (gNm 9) gsNil))))))) (rho0 11 [skD sk, .loc c, d.dat, nD n]) ν = .next r1 ν := by
      refine s_asgT (m2 := ν) (w_var rfl) ?_
      show gTp 6 _ d.dat (Q none none none none none none none) ν = .ok (Q (some (.str (wordS d.w))) (some (.int (d.rest : Nat))) (some (.int (d.step : Nat))) (some (.str (sideS d.side))) (some (.int (d.far : Nat))) (some (.str "")) none) ν
      have ed : d.dat = .tup [.str (wordS d.w), .int d.rest, .int d.step, .str (sideS d.side), .int d.far, .str ""] := by unfold Cl.dat; rw [if_neg h3]
      simp only [Q]
      rw [ed]
      rfl
    have t1 : xTest (xOp eqD (xVar 4) (xC (.str "call"))) r1 ν = .ok false ν := by
      have : (wordS d.w == Str.ofString "call") = false := by rw [word_callC _ h.w, decide_eq_false h3]
      rw [← this]
      exact w_tst (w_op (w_var rfl) w_c (eq_strC _ _ ν))
    have t2 : xTest (xOp neD (xVar 4) (xC (.str "join"))) r1 ν = .ok (!decide (d.w = 0)) ν := by
      rw [← word_joinC _ h.w]
      exact w_tst (w_op (w_var rfl) w_c rfl)
    by_cases h0 : d.w = 0
    · rw [decide_eq_true h0] at t2
      have ec : cvC sk n d = (deeds d n, 1) := by unfold cvC; rw [if_neg h3, if_pos h0]
      rw [ec]
      have t3 : xTest (xOp eqD (xVar 7) (xC (.str "left"))) r1 ν = .ok (decide (d.side = 0)) ν := by
        rw [← side_leftC _ h.side]
        exact w_tst (w_op (w_var rfl) w_c (eq_strC _ _ ν))
      have bl : ∀ {f : XE'} {k : Nat}, f r1 ν = .ok (nD k) ν → xCall F__law_below (xaCons (xVar 5) (xaCons (xVar 6) (xaCons f xaNil))) r1 ν = .ok (nD (bw d k)) ν := fun {f k} e => w_call (wa_3 (w_var rfl) (w_var rfl) e) (below_run h k ν)
      refine ⟨ν, ?_, Chg.refl hst, hst⟩
      unfold deeds
      by_cases hsd : d.side = 0
      · rw [decide_eq_true hsd] at t3
        rw [if_pos hsd]
        refine f_ret' (m1 := ν) (s_seq f0 (s_seq (s_no t1) (s_seq (s_no t2) (s_end (s_if1 t3 (s_ret (w_tup (wa_2 (w_op (bl (w_var rfl)) (bl (k := min d.far n) (w_call (wa_2 (w_var rfl) (w_var rfl)) (M.min_ok d.far n ν))) ?_) w_c)))))))) rfl List.take_length
        show Out.ok (D.int (((bw d n : Nat) : Int) - ((bw d (min d.far n) : Nat) : Int))) ν = Out.ok (D.int ((bw d n - bw d (min d.far n) : Nat) : Int)) ν
        have : bw d (min d.far n) ≤ bw d n := by
          unfold bw
          exact Nat.div_le_div_right (by omega)
        congr 2
        omega
      · rw [decide_eq_false hsd] at t3
        rw [if_neg hsd]
        refine f_ret' (m1 := ν) (s_seq f0 (s_seq (s_no t1) (s_seq (s_no t2) (s_seq (s_no t3) (s_ret (w_tup (wa_2 (bl (k := n - d.far) (w_call (wa_2 w_c (w_op (w_var rfl) (w_var rfl) rfl)) ?_)) w_c))))))) rfl List.take_length
        show Out.ok (D.int (if (n : Int) - (d.far : Int) > 0 then (n : Int) - (d.far : Int) else 0)) ν = Out.ok (D.int ((n - d.far : Nat) : Int)) ν
        congr 2
        split <;> omega
    · rw [decide_eq_false h0] at t2
      have ec : cvC sk n d = (0, 1) := by unfold cvC; rw [if_neg h3, if_neg h0]
      rw [ec]
      exact ⟨ν, f_ret' (m1 := ν) (s_seq f0 (s_seq (s_no t1) (s_end (s_if1 t2 (s_ret (w_tup (wa_2 w_c w_c))))))) rfl List.take_length, Chg.refl hst, hst⟩
theorem cv_rnd (n : Nat) {r : List Cl} (hr : ROk r) : ((r.map fun d => (cvC sk n d).1).sum, (r.map fun d => (cvC sk n d).2).foldl max 0) = rndV (V sk) n r := by
  unfold rndV
  cases hc : callR r with
  | true =>
    rw [if_pos rfl]
    have h3 := callR_all hr hc
    rw [List.map_congr_left (g := fun d => (V sk d.goal (bw d n)).1) fun d hd => ?_, List.map_congr_left (f := fun d => (cvC sk n d).2) (g := fun d => (V sk d.goal (bw d n)).2) fun d hd => ?_]
    · unfold cvC; rw [if_pos (h3 d hd)]
    · unfold cvC; rw [if_pos (h3 d hd)]
  | false =>
    rw [if_neg (by simp)]
    have h3 := callR_none hr hc
    have h0 := hr.len0
    clear hc hr
    have e1 : ∀ ds : List Cl, (∀ d ∈ ds, d.w ≠ 3) → (ds.map fun d => (cvC sk n d).1).sum = ((ds.filter fun d => decide (d.w = 0)).map fun d => deeds d n).sum := fun ds => by
      induction ds with
      | nil => intro _; rfl
      | cons d ds ih =>
        intro hd
        rw [List.map_cons, List.sum_cons, ih fun x hx => hd x (List.mem_cons_of_mem _ hx)]
        unfold cvC
        rw [if_neg (hd d (List.mem_cons_self ..))]
        by_cases h0 : d.w = 0
        · rw [if_pos h0, List.filter_cons_of_pos (by simpa using h0)]
          rfl
        · rw [if_neg h0, List.filter_cons_of_neg (by simpa using h0), Nat.zero_add]
    have e2 : ∀ (ds : List Cl) (a : Nat), (∀ d ∈ ds, d.w ≠ 3) → 1 ≤ a → (ds.map fun d => (cvC sk n d).2).foldl max a = a := fun ds => by
      induction ds with
      | nil => intro a _ _; rfl
      | cons d ds ih =>
        intro a hd ha
        have : (cvC sk n d).2 = 1 := by unfold cvC; rw [if_neg (hd d (List.mem_cons_self ..))]; split <;> rfl
        rw [List.map_cons, List.foldl_cons, this, Nat.max_eq_left ha, ih a (fun x hx => hd x (List.mem_cons_of_mem _ hx)) ha]
    rw [e1 r h3]
    cases r with
    | nil => exact absurd h0 (by simp)
    | cons d ds =>
      have : (cvC sk n d).2 = 1 := by unfold cvC; rw [if_neg (h3 d (List.mem_cons_self ..))]; split <;> rfl
      rw [List.map_cons, List.foldl_cons, this, Nat.zero_max, e2 ds 1 (fun x hx => h3 x (List.mem_cons_of_mem _ hx)) (Nat.le_refl _)]
abbrev bdP (cs : Fn) : XS := (sSeq (sAsg (xLc (xiSeq (xVar 7)) [9] (gNm 9) xYes (xCall cs (xaCons (xVar 0) (xaCons (xVar 1) (xaCons (xVar 9) (xaCons (xVar 3) xaNil)))))) (gNm 8))
  (sSeq (sAsg (xOp addD (xVar 5) (xCall sumF (xaCons (xLc (xiSeq (xVar 8)) [10] (gNm 10) xYes (xOp ixD (xVar 10) (xC (.int 0)))) xaNil))) (gNm 5))
  (sAsg (xOp addD (xVar 6) (xCall maxF (xaCons (xLc (xiSeq (xVar 8)) [10] (gNm 10) xYes (xOp ixD (xVar 10) (xC (.int 1)))) xaNil))) (gNm 6))))
def frP (c : Nat) (sk : List Pl) (nm : D) (n : Nat) (pl : D) (a b : Nat) (x7 x8 x9 x10 : Option D) : Rho := [some (skD sk), some (.loc c), some nm, some (nD n), some pl, some (nD a), some (nD b), x7, x8, x9, x10]
def rowD (r : List Cl) : D := .lst (r.map Cl.dat)
theorem part_sum (v : Cl → Nat × Nat) (r : List Cl) {ρ : Rho} {μ : Mu} (h8 : ρ[8]? = some (some (.lst (r.map fun d => prV (v d))))) (hl : r.length ≤ 1000) (h9 : 10 < ρ.length) :
    xCall sumF (xaCons (xLc (xiSeq (xVar 8)) [10] (gNm 10) xYes (xOp ixD (xVar 10) (xC (.int 0)))) xaNil) ρ μ = .ok (nD (r.map fun d => (v d).1).sum) μ := by
  have lc := lc_map (i := 10) (te := xOp ixD (xVar 10) (xC (.int 0))) (r0 := wipeR ρ [10]) (μ := μ) (fun d : Cl => prV (v d)) (fun d => nD (v d).1) (xs := r) (fun x hx acc => w_op (w_var (List.getElem?_set_self (by unfold wipeR; simp; exact h9))) w_c (ix_tup (k := 0) rfl _)) (fun _ _ => rfl) (lineC (by omega))
  have e := sum_eqC (r.map fun d => (v d).1) μ
  rw [List.map_map] at e
  exact w_call (wa_1 (w_lc (wi_seq (w_var h8) rfl) lc)) e
theorem part_max (v : Cl → Nat × Nat) (r : List Cl) {ρ : Rho} {μ : Mu} (h8 : ρ[8]? = some (some (.lst (r.map fun d => prV (v d))))) (h0 : 0 < r.length) (hl : r.length ≤ 1000) (h9 : 10 < ρ.length) :
    xCall maxF (xaCons (xLc (xiSeq (xVar 8)) [10] (gNm 10) xYes (xOp ixD (xVar 10) (xC (.int 1)))) xaNil) ρ μ = .ok (nD ((r.map fun d => (v d).2).foldl max 0)) μ := by
  have lc := lc_map (i := 10) (te := xOp ixD (xVar 10) (xC (.int 1))) (r0 := wipeR ρ [10]) (μ := μ) (fun d : Cl => prV (v d)) (fun d => nD (v d).2) (xs := r) (fun x hx acc => w_op (w_var (List.getElem?_set_self (by unfold wipeR; simp; exact h9))) w_c (ix_tup (k := 1) rfl _)) (fun _ _ => rfl) (lineC (by omega))
  have e := max_eqC (gs := r.map fun d => (v d).2) (by rw [List.length_map]; exact h0) μ
  rw [List.map_map] at e
  exact w_call (wa_1 (w_lc (wi_seq (w_var h8) rfl) lc)) e
theorem row_run (B : Bds sk S Ks) {p : Pl} (hp : p ∈ sk) {n : Nat} {r : List Cl} (hr : r ∈ p.rounds) (cs : Fn)
    (hcs : ∀ d ∈ r, ∀ ξ, St sk S False c ξ → ∃ ξ', cs [skD sk, .loc c, d.dat, nD n] ξ = .ok (prV (cvC sk n d)) ξ' ∧ Chg c ξ ξ' ∧ St sk S False c ξ')
    {nm pl : D} {a b : Nat} {x8 x9 x10 : Option D} {ν : Mu} (h : St sk S False c ν) :
    ∃ r2 ν', bdP cs (frP c sk nm n pl a b (some (rowD r)) x8 x9 x10) ν = .next r2 ν' ∧ (∃ y7 y8 y9 y10, r2 = frP c sk nm n pl (a + (rndV (V sk) n r).1) (b + (rndV (V sk) n r).2) y7 y8 y9 y10) ∧ Chg c ν ν' ∧ St sk S False c ν' := by
  have hro := (B.ok.ok p hp).ok r hr
  have hl3 := hro.len
  obtain ⟨ν', e, s, h'⟩ := lc_chg (sk := sk) (S := S) (O := False) (c := c) (i := 9) (te := xCall cs (xaCons (xVar 0) (xaCons (xVar 1) (xaCons (xVar 9) (xaCons (xVar 3) xaNil))))) (r0 := frP c sk nm n pl a b (some (rowD r)) x8 none x10) Cl.dat (fun d => prV (cvC sk n d)) (xs := r) (fun _ _ _ => rfl) (by omega) (μ := ν) h.lt (fun z => z.elim) (fun d hd ξ _ _ hs => by
    obtain ⟨ξ', e, s, h'⟩ := hcs d hd ξ hs
    exact ⟨ξ', w_call (wa_cons (w_var rfl) (wa_3 (w_var rfl) (w_var rfl) (w_var rfl))) e, s, h'⟩) h
  rw [← cv_rnd n hro]
  let P : D := .lst (r.map fun d => prV (cvC sk n d))
  exact ⟨_, ν', s_seq (r1 := frP c sk nm n pl a b (some (rowD r)) (some P) x9 x10) (s_asg (w_lc (wi_seq (w_var rfl) rfl) e)) (s_seq (r1 := frP c sk nm n pl (a + (r.map fun d => (cvC sk n d).1).sum) b (some (rowD r)) (some P) x9 x10) (s_asg (w_op (w_var rfl) (part_sum _ r rfl (by omega) (by show 10 < 11; decide)) rfl)) (s_asg (w_op (w_var rfl) (part_max _ r rfl hro.len0 (by omega) (by show 10 < 11; decide)) rfl))), ⟨_, _, _, _, rfl⟩, s, h'⟩
theorem spent_run (B : Bds sk S Ks) {p : Pl} (hp : p ∈ sk) {n : Nat} (h0 : 0 < n) (hS : S n) (ls cs : Fn)
    (hcs : p.base < n → ∀ r ∈ p.rounds, ∀ d ∈ r, ∀ ξ, St sk S False c ξ → ∃ ξ', cs [skD sk, .loc c, d.dat, nD n] ξ = .ok (prV (cvC sk n d)) ξ' ∧ Chg c ξ ξ' ∧ St sk S False c ξ') {ν : Mu} (h : St sk S False c ν) :
    ∃ ν', fnOf 11 false (B__law_spent ls cs) [skD sk, .loc c, nmD p.nm, nD n] ν = .ok (prV (V sk p.nm n)) ν' ∧ Chg c ν ν' ∧ St sk S False c ν' := by
  have ok := B.ok.ok p hp
  have hb := ok.base
  let R4 : Rho := [some (skD sk), some (.loc c), some (nmD p.nm), some (nD n), some p.dat, none, none, none, none, none, none]
  have e4 : xOp ixD (xLc (xiSeq (xVar 0)) [4] (gNm 4) (xTest (xOp eqD (xOp ixD (xVar 4) (xC (.int 0))) (xVar 2))) (xVar 4)) (xC (.int 0)) (rho0 11 [skD sk, .loc c, nmD p.nm, nD n]) ν = .ok p.dat ν := by
    have lc := lc_fil (i := 4) (tt := xTest (xOp eqD (xOp ixD (xVar 4) (xC (.int 0))) (xVar 2))) (te := xVar 4) (r0 := rho0 11 [skD sk, .loc c, nmD p.nm, nD n]) (μ := ν) Pl.dat (fun q => decide (q.nm = p.nm)) Pl.dat (xs := sk) (fun q hq acc => by
      rw [← nmS_eq _ (B.ok.ok q hq).nm _ ok.nm]
      exact w_tst (w_op (w_op (w_var rfl) w_c (ix_lst (i := 0) rfl)) (w_var rfl) (eq_strC _ _ _))) (fun q hq _ acc => w_var rfl) (fun q hq _ => q.dat_in _) (lineC (by have := B.ok.len; omega))
    refine w_op (w_lc (wi_seq (w_var rfl) rfl) lc) w_c (ix_lst (i := 0) ?_)
    have := plan_at B.ok hp
    unfold planOf at this
    rw [← List.head?_filter, List.head?_eq_getElem?] at this
    rw [List.getElem?_map, this]
    rfl
  have t1 : xTest (xOp leD (xVar 3) (xOp ixD (xVar 4) (xC (.int 2)))) R4 ν = .ok (decide (n ≤ p.base)) ν := by
    refine w_tst (w_op (w_var rfl) (w_op (w_var rfl) w_c (ix_lst (i := 2) rfl)) ?_)
    show Out.ok (D.bl (decide ((n : Int) ≤ (p.base : Int)))) ν = _
    congr 2
    rw [Bool.eq_iff_iff, decide_eq_true_eq, decide_eq_true_eq]
    omega
  by_cases hnb : n ≤ p.base
  · rw [decide_eq_true hnb] at t1
    rw [V_plain B.ok hp h0 hnb]
    exact ⟨ν, f_ret' (m1 := ν) (s_seq (r1 := R4) (s_asg e4) (s_end (s_if1 t1 (s_ret (w_call (wa_2 (w_op (w_var rfl) w_c (ix_lst (i := 1) rfl)) (w_var rfl)) (lplain_run p.goal h0 (by omega) ν)))))) rfl List.take_length, Chg.refl h, h⟩
  rw [decide_eq_false hnb] at t1
  have hx : p.nm ∈ sk.map Pl.nm := List.mem_map.mpr ⟨p, hp, rfl⟩
  obtain ⟨kvs, ek, hkv, en⟩ := nin_ok h p.nm n
  have t2 : xTest (xNinK (xaCons (xVar 2) (xaCons (xVar 3) xaNil)) (xVar 1)) R4 ν = .ok (!(dVal kvs (kyD p.nm n)).isSome) ν := w_tst (w_nink (wa_2 (w_var rfl) (w_var rfl)) (by show 2 ≤ 100; decide) (w_var rfl) en)
  cases hv : dVal kvs (kyD p.nm n) with
  | some d =>
    rw [hv] at t2
    have := hkv.get B hx hv
    subst this
    exact ⟨ν, f_ret' (m1 := ν) (s_seq (r1 := R4) (s_asg e4) (s_seq (s_no t1) (s_seq (s_no t2) (s_ret (w_getk (w_var rfl) (wa_2 (w_var rfl) (w_var rfl)) (get_ok ek hv)))))) rfl List.take_length, Chg.refl h, h⟩
  | none =>
    rw [hv] at t2
    obtain ⟨r', ν1, lp, ⟨⟨y7, y8, y9, y10, rfl⟩, s1, h1⟩⟩ := loop_inv (k := 0) (m := ν) (xs := p.rounds.map rowD) (g := gNm 7) (body := bdP cs) (r := frP c sk (nmD p.nm) n p.dat 0 0 none none none none)
      (fun k r m => (∃ y7 y8 y9 y10, r = frP c sk (nmD p.nm) n p.dat (sumV (V sk) n (p.rounds.take k)).1 (sumV (V sk) n (p.rounds.take k)).2 y7 y8 y9 y10) ∧ Chg c ν m ∧ St sk S False c m) ⟨⟨_, _, _, _, rfl⟩, Chg.refl h, h⟩ fun k x r m hx' hi => by
      obtain ⟨⟨y7, y8, y9, y10, rfl⟩, hchg, hst⟩ := hi
      rw [List.getElem?_map] at hx'
      cases hr : p.rounds[k]? with
      | none => rw [hr] at hx'; cases hx'
      | some r =>
        rw [hr] at hx'
        cases hx'
        rw [Nat.zero_add, sumV_take sk n p.rounds hr]
        obtain ⟨r2, m', e, hr2, s', h'⟩ := row_run B hp (List.mem_of_getElem? hr) cs (hcs (by omega) r (List.mem_of_getElem? hr)) (nm := nmD p.nm) (pl := p.dat) (a := (sumV (V sk) n (p.rounds.take k)).1) (b := (sumV (V sk) n (p.rounds.take k)).2) (x8 := y8) (x9 := y9) (x10 := y10) hst
        exact ⟨_, m, r2, m', rfl, e, hr2, hchg.trans s', h'⟩
    rw [Nat.zero_add, List.length_map, List.take_length] at lp
    rw [← V_led B.ok hp (by omega)] at lp
    have eR : xOp ixD (xVar 4) (xC (.int 3)) (frP c sk (nmD p.nm) n p.dat 0 0 none none none none) ν = .ok (.lst (p.rounds.map rowD)) ν := w_op (w_var rfl) w_c (ix_lst (i := 3) rfl)
    have pre := s_seq (t := (sSeq (sFor (xiSeq (xOp ixD (xVar 4) (xC (.int 3)))) (gNm 7) (bdP cs)) (sPutK (xVar 1) (xaCons (xVar 2) (xaCons (xVar 3) xaNil)) (xTup (xaCons (xVar 5) (xaCons (xVar 6) xaNil)))))) (r1 := frP c sk (nmD p.nm) n p.dat 0 0 none none none none) (s_asgT (f := xTup (xaCons (xC (.int 0)) (xaCons (xC (.int 0)) xaNil))) (gt := gTp 2 (gsCons (gNm 5) (gsCons (gNm 6) gsNil))) (r := R4) (m := ν) (m2 := ν) (w_tup (wa_2 w_c w_c)) rfl) (s_seq (s_for (wi_seq eR rfl) lp) rfl)
    obtain ⟨kvs1, ek1, hkv1, _⟩ := nin_ok h1 p.nm n
    cases hv1 : dVal kvs1 (kyD p.nm n) with
    | none =>
      obtain ⟨ν2, hput⟩ := put_ok B h1 hx hS
      obtain ⟨e2, s2, h2, e3⟩ := hput kvs1 ek1 hv1
      refine ⟨ν2, f_ret' (m1 := ν2) (s_seq (r1 := R4) (s_asg e4) (s_seq (s_no t1) (s_seq (s_if1 t2 (pre.trans (s_putk (w_tup (wa_2 (w_var rfl) (w_var rfl))) (w_var rfl) (wa_2 (w_var rfl) (w_var rfl)) e2))) (s_ret (w_getk (w_var rfl) (wa_2 (w_var rfl) (w_var rfl)) e3))))) rfl (s1.trans s2).take, s1.trans s2, h2⟩
    | some d =>
      have := hkv1.get B hx hv1
      subst this
      obtain ⟨ν2, e2, s2, h2, e3⟩ := put_again B h1 ek1 hx hv1
      refine ⟨ν2, f_ret' (m1 := ν2) (s_seq (r1 := R4) (s_asg e4) (s_seq (s_no t1) (s_seq (s_if1 t2 (pre.trans (s_putk (w_tup (wa_2 (w_var rfl) (w_var rfl))) (w_var rfl) (wa_2 (w_var rfl) (w_var rfl)) e2))) (s_ret (w_getk (w_var rfl) (wa_2 (w_var rfl) (w_var rfl)) e3))))) rfl (s1.trans s2).take, s1.trans s2, h2⟩
theorem spent_ok (B : Bds sk S Ks) : ∀ (f x n : Nat) (ν : Mu), x ∈ sk.map Pl.nm → S n → 0 < n → 2 * rank sk x n + 1 ≤ f → St sk S False c ν → ∃ ν', (GL f).1 [skD sk, .loc c, nmD x, nD n] ν = .ok (prV (V sk x n)) ν' ∧ Chg c ν ν' ∧ St sk S False c ν'
  | 0, x, n, ν, _, _, _, hf, _ => by omega
  | 1, x, n, ν, hx, hS, h0, hf, h => by
    have hr : rank sk x n = 0 := by omega
    have := ix_lt hx
    unfold rank at hr
    omega
  | f + 2, x, n, ν, hx, hS, h0, hf, h => by
    obtain ⟨p, hp, rfl⟩ := List.mem_map.mp hx
    refine spent_run B hp h0 hS (GL (f + 1)).1 (GL (f + 1)).2 (fun hb r hr d hd ξ hξ => ?_) h
    have ho := ((B.ok.ok p hp).ok r hr).ok d hd
    refine clause_run B ho (GL f).1 (GL f).2 (fun hw hz ζ hζ => ?_) hξ
    obtain ⟨hg, hl⟩ := rank_lt B.ok hp hb hr hd hw
    exact spent_ok B f d.goal (bw d n) ζ hg (B.cl n d ho hS) hz (by omega) hζ
end
end J.Cn

/-! # CI: the law k38 -/
namespace J.Cn
open PySem PySem.Spec PyProof.Rows L2 DS
open M
/-! ### the lengths that are reached -/
def Sm (n v : Nat) : Prop := ∃ a b : Nat, n / (2 ^ a * 3 ^ b) ≤ v ∧ v ≤ (n + 2 ^ a * 3 ^ b - 1) / (2 ^ a * 3 ^ b)
theorem Sm.self (n : Nat) : Sm n n := ⟨0, 0, by simp, by simp⟩
theorem part_le {n m s v u : Nat} (hm : 0 < m) (hs : 0 < s) (h1 : n / m ≤ v) (h2 : v ≤ (n + m - 1) / m) (h3 : v / s ≤ u) (h4 : u ≤ (v + s - 1) / s) : n / (m * s) ≤ u ∧ u ≤ (n + m * s - 1) / (m * s) := by
  constructor
  · rw [← Nat.div_div_eq_div_mul]
    exact Nat.le_trans (Nat.div_le_div_right h1) h3
  · rw [← Nat.div_div_eq_div_mul]
    refine Nat.le_trans h4 (Nat.div_le_div_right ?_)
    have e : n + m * s - 1 = (n + m - 1) + m * (s - 1) := by
      obtain ⟨k, rfl⟩ : ∃ k, s = k + 1 := ⟨s - 1, by omega⟩
      rw [Nat.mul_succ, Nat.add_sub_cancel]
      omega
    rw [e, Nat.add_mul_div_left _ _ hm]
    omega
theorem Sm.bw {n v : Nat} (h : Sm n v) {c : Cl} (hc : c.Ok) : Sm n (bw c v) := by
  obtain ⟨a, b, h1, h2⟩ := h
  have hr := hc.rest
  have hs := hc.step
  have hm : 0 < 2 ^ a * 3 ^ b := Nat.mul_pos (Nat.pow_pos (by decide)) (Nat.pow_pos (by decide))
  have key := part_le (n := n) (v := v) (u := Cn.bw c v) hm (show 0 < c.step by omega) h1 h2 (by unfold Cn.bw; exact Nat.div_le_div_right (by omega)) (by unfold Cn.bw; exact Nat.div_le_div_right (by omega))
  have : c.step = 1 ∨ c.step = 2 ∨ c.step = 3 := by omega
  rcases this with e | e | e <;> rw [e] at key
  · rw [Nat.mul_one] at key
    exact ⟨a, b, key⟩
  · refine ⟨a + 1, b, ?_⟩
    rw [show 2 ^ (a + 1) * 3 ^ b = 2 ^ a * 3 ^ b * 2 by rw [Nat.pow_succ, Nat.mul_right_comm]]
    exact key
  · refine ⟨a, b + 1, ?_⟩
    rw [show 2 ^ a * 3 ^ (b + 1) = 2 ^ a * 3 ^ b * 3 by rw [Nat.pow_succ, Nat.mul_assoc]]
    exact key
def szs (n : Nat) : List Nat := ((List.range 41).flatMap fun a => (List.range 27).flatMap fun b => [n / (2 ^ a * 3 ^ b), n / (2 ^ a * 3 ^ b) + 1]) ++ [0, 1]
theorem Sm.mem {n v : Nat} (h : Sm n v) (hn : n ≤ 1000000000000) : v ∈ szs n := by
  obtain ⟨a, b, h1, h2⟩ := h
  have p2 : 0 < 2 ^ a := Nat.pow_pos (by decide)
  have p3 : 0 < 3 ^ b := Nat.pow_pos (by decide)
  have hm : 0 < 2 ^ a * 3 ^ b := Nat.mul_pos p2 p3
  have h3 : (n + 2 ^ a * 3 ^ b - 1) / (2 ^ a * 3 ^ b) ≤ n / (2 ^ a * 3 ^ b) + 1 := by
    rw [← Nat.add_div_right _ hm]
    exact Nat.div_le_div_right (by omega)
  have h4 : v = n / (2 ^ a * 3 ^ b) ∨ v = n / (2 ^ a * 3 ^ b) + 1 := by omega
  unfold szs
  by_cases hab : a < 41 ∧ b < 27
  · refine List.mem_append_left _ (List.mem_flatMap.mpr ⟨a, List.mem_range.mpr hab.1, List.mem_flatMap.mpr ⟨b, List.mem_range.mpr hab.2, ?_⟩⟩)
    rcases h4 with e | e <;> rw [e] <;> simp
  · have hbig : n < 2 ^ a * 3 ^ b := by
      by_cases ha : a < 41
      · have hb : 27 ≤ b := by omega
        have : 3 ^ 27 ≤ 3 ^ b := Nat.pow_le_pow_right (by decide) hb
        have e : (3 : Nat) ^ 27 = 7625597484987 := by decide +kernel
        have : 3 ^ b ≤ 2 ^ a * 3 ^ b := Nat.le_mul_of_pos_left _ p2
        omega
      · have : 2 ^ 41 ≤ 2 ^ a := Nat.pow_le_pow_right (by decide) (by omega)
        have e : (2 : Nat) ^ 41 = 2199023255552 := by decide +kernel
        have : 2 ^ a ≤ 2 ^ a * 3 ^ b := Nat.le_mul_of_pos_right _ p3
        omega
    rw [Nat.div_eq_of_lt hbig] at h4
    refine List.mem_append_right _ ?_
    rcases h4 with e | e <;> rw [e] <;> simp
theorem szs_len (n : Nat) : (szs n).length ≤ 2216 := by
  unfold szs
  rw [List.length_append, List.length_flatMap]
  have h1 : ∀ a : Nat, ((List.range 27).flatMap fun b => [n / (2 ^ a * 3 ^ b), n / (2 ^ a * 3 ^ b) + 1]).length ≤ 54 := fun a => by
    rw [List.length_flatMap]
    refine sum_leC (k := 27) (b := 2) (fun y hy => ?_) (by rw [List.length_map, List.length_range]; exact Nat.le_refl _)
    obtain ⟨b, _, rfl⟩ := List.mem_map.mp hy
    exact Nat.le_refl _
  have h2 := sum_leC (xs := (List.range 41).map fun a => ((List.range 27).flatMap fun b => [n / (2 ^ a * 3 ^ b), n / (2 ^ a * 3 ^ b) + 1]).length) (k := 41) (b := 54) (fun y hy => by
    obtain ⟨a, _, rfl⟩ := List.mem_map.mp hy
    exact h1 a) (by rw [List.length_map, List.length_range]; exact Nat.le_refl _)
  have e : ([0, 1] : List Nat).length = 2 := rfl
  omega
def keys2 (n1 n2 : Nat) : List (List Key) := (List.range 9).flatMap fun x => (szs n1 ++ szs n2).map (kyD x)
theorem bds_two {sk : List Pl} (h : SOk sk) {n1 n2 : Nat} (h1 : n1 ≤ 1000000000000) (h2 : n2 ≤ 1000000000000) : Bds sk (fun v => Sm n1 v ∨ Sm n2 v) (keys2 n1 n2) := by
  refine ⟨h, fun n c hc hn => hn.imp (fun z => z.bw hc) fun z => z.bw hc, fun x hx n hn => ?_, ?_⟩
  · refine List.mem_flatMap.mpr ⟨x, List.mem_range.mpr (h.nm x hx), List.mem_map.mpr ⟨n, ?_, rfl⟩⟩
    rcases hn with hn | hn
    · exact List.mem_append_left _ (hn.mem h1)
    · exact List.mem_append_right _ (hn.mem h2)
  · have : (keys2 n1 n2).length ≤ 9 * 4432 := by
      unfold keys2
      rw [List.length_flatMap]
      refine sum_leC (fun y hy => ?_) (by rw [List.length_map, List.length_range]; exact Nat.le_refl _)
      obtain ⟨x, _, rfl⟩ := List.mem_map.mp hy
      rw [List.length_map, List.length_append]
      have := szs_len n1
      have := szs_len n2
      omega
    omega
/-! ### a great length -/
theorem sev : ∀ j < 10, ∃ (z : Str) (t : Nat), 1 ≤ t ∧ t ≤ 77777777777 ∧ (∀ m, mulS (.str "7") (.int ((2 : Int) + (j : Nat))) m = .ok (.str z) m) ∧ ∀ m, intF [.str z] m = .ok (nD t) m := fun j hj => by
  have : j = 0 ∨ j = 1 ∨ j = 2 ∨ j = 3 ∨ j = 4 ∨ j = 5 ∨ j = 6 ∨ j = 7 ∨ j = 8 ∨ j = 9 := by omega
  rcases this with rfl | rfl | rfl | rfl | rfl | rfl | rfl | rfl | rfl | rfl
  · exact ⟨Str.ofString "77", 77, by decide, by decide, fun m => by kernel_rfl, fun m => by kernel_rfl⟩
  · exact ⟨Str.ofString "777", 777, by decide, by decide, fun m => by kernel_rfl, fun m => by kernel_rfl⟩
  · exact ⟨Str.ofString "7777", 7777, by decide, by decide, fun m => by kernel_rfl, fun m => by kernel_rfl⟩
  · exact ⟨Str.ofString "77777", 77777, by decide, by decide, fun m => by kernel_rfl, fun m => by kernel_rfl⟩
  · exact ⟨Str.ofString "777777", 777777, by decide, by decide, fun m => by kernel_rfl, fun m => by kernel_rfl⟩
  · exact ⟨Str.ofString "7777777", 7777777, by decide, by decide, fun m => by kernel_rfl, fun m => by kernel_rfl⟩
  · exact ⟨Str.ofString "77777777", 77777777, by decide, by decide, fun m => by kernel_rfl, fun m => by kernel_rfl⟩
  · exact ⟨Str.ofString "777777777", 777777777, by decide, by decide, fun m => by kernel_rfl, fun m => by kernel_rfl⟩
  · exact ⟨Str.ofString "7777777777", 7777777777, by decide, by decide, fun m => by kernel_rfl, fun m => by kernel_rfl⟩
  · exact ⟨Str.ofString "77777777777", 77777777777, by decide, by decide, fun m => by kernel_rfl, fun m => by kernel_rfl⟩
theorem great_ok {n : Nat} {μ : Mu} (hc : Cup n μ) : ∃ g μ', F__law_great [.loc n] μ = .ok (nD g) μ' ∧ 1 ≤ g ∧ g ≤ 1000000000000 ∧ Sip n μ μ' := by
  obtain ⟨p, m1, e1, hp, s1⟩ := sip_ok (top := 3) hc (by decide) (by decide)
  obtain ⟨q, m2, e2, hq, s2⟩ := sip_ok (top := 25) (s1.cup hc) (by decide) (by decide)
  change F__law_sip [.loc n, .int 3] μ = _ at e1
  change F__law_sip [.loc n, .int 25] m1 = _ at e2
  have s12 := s1.trans s2
  let R (x3 x4 : Option D) : Rho := [some (.loc n), some (nD p), some (nD (1 + q)), x3, x4]
  have f0 : xaCons (xCall F__law_sip (xaCons (xVar 0) (xaCons (xC (.int 3)) xaNil))) (xaCons (xOp addD (xC (.int 1)) (xCall F__law_sip (xaCons (xVar 0) (xaCons (xC (.int 25)) xaNil)))) xaNil) (rho0 5 [.loc n]) μ = .ok [nD p, nD (1 + q)] m2 := by
    refine wa_2 (w_call (wa_2 (w_var rfl) w_c) e1) (w_op w_c (w_call (wa_2 (w_var rfl) w_c) e2) ?_)
    show Out.ok (D.int (1 + (q : Int))) m2 = Out.ok (D.int ((1 + q : Nat) : Int)) m2
    rw [show ((1 + q : Nat) : Int) = 1 + (q : Int) by omega]
  have t1 : xTest (xOp eqD (xVar 1) (xC (.int 0))) (R none none) m2 = .ok (decide (p = 0)) m2 := by
    refine w_tst (w_op (w_var rfl) w_c ?_)
    show Out.ok (D.bl ((p : Int) == 0)) m2 = _
    congr 2
    rw [Bool.eq_iff_iff, beq_iff_eq, decide_eq_true_eq]
    omega
  by_cases h0 : p = 0
  · rw [decide_eq_true h0] at t1
    obtain ⟨j, m3, e3, hj, s3⟩ := sip_ok (top := 10) (s12.cup hc) (by decide) (by decide)
    obtain ⟨k, m4, e4, hk, s4⟩ := sip_ok (top := 1000) ((s12.trans s3).cup hc) (by decide) (by decide)
    change F__law_sip [.loc n, .int 10] m2 = _ at e3
    change F__law_sip [.loc n, .int 1000] m3 = _ at e4
    obtain ⟨z, t, ht1, ht2, hz, hi⟩ := sev j hj
    have s := (s12.trans s3).trans s4
    refine ⟨t + k, m4, f_ret' (m1 := m4) (s_seq (r1 := R none none) (s_par f0) (s_end (s_if1 t1 (s_ret (w_op (w_call (wa_1 (w_op w_c (w_op w_c (w_call (wa_2 (w_var rfl) w_c) e3) rfl) (hz m3))) (hi m3)) (w_call (wa_2 (w_var rfl) w_c) e4) rfl))))) rfl (s.take rfl), by omega, by omega, s⟩
  · rw [decide_eq_false h0] at t1
    obtain ⟨k, m3, e3, hk, s3⟩ := sip_ok (top := 3) (s12.cup hc) (by decide) (by decide)
    change F__law_sip [.loc n, .int 3] m2 = _ at e3
    have s := s12.trans s3
    obtain ⟨r', m', lp, ⟨⟨y4, rfl⟩, rfl⟩⟩ := loop_inv (k := 0) (m := m2) (xs := rngL 0 (1 + q)) (g := gNm 4) (body := sAsg (xOp mulD (xVar 3) (xOp addD (xVar 1) (xC (.int 1)))) (gNm 3)) (r := R (some (nD 1)) none)
      (fun k r m => (∃ y4, r = R (some (nD ((p + 1) ^ k))) y4) ∧ m = m2) ⟨⟨none, rfl⟩, rfl⟩ fun j x r m hx hi => by
      obtain ⟨⟨y4, rfl⟩, rfl⟩ := hi
      refine ⟨R (some (nD ((p + 1) ^ (0 + j)))) (some x), m, _, m, rfl, s_asg (w_op (w_var rfl) (w_op (w_var rfl) (w_c (d := .int ((1 : Nat) : Int))) rfl) (show mulD (nD ((p + 1) ^ (0 + j))) (.int ((p : Int) + ((1 : Nat) : Int))) m = .ok (nD ((p + 1) ^ (0 + j + 1))) m from ?_)), ⟨some x, rfl⟩, rfl⟩
      rw [show (p : Int) + ((1 : Nat) : Int) = ((p + 1 : Nat) : Int) by omega, Nat.pow_succ]
      show mulD (.int (((p + 1) ^ (0 + j) : Nat) : Int)) (.int ((p + 1 : Nat) : Int)) m = _
      rw [M.mul_ok' ⟨by omega, by omega⟩]
      show Out.ok (D.int _) m = Out.ok (D.int (((p + 1) ^ (0 + j) * (p + 1) : Nat) : Int)) m
      rw [Int.natCast_mul]
    have hlr : (rngL 0 (1 + q)).length = 1 + q := by simp [rngL]
    rw [hlr, Nat.zero_add] at lp
    have hpow : (p + 1) ^ (1 + q) ≤ 847288609443 := by
      have h1 : (p + 1) ^ (1 + q) ≤ 3 ^ (1 + q) := Nat.pow_le_pow_left (by omega) _
      have h2 : 3 ^ (1 + q) ≤ 3 ^ 25 := Nat.pow_le_pow_right (by decide) (by omega)
      have h3 : (3 : Nat) ^ 25 = 847288609443 := by decide +kernel
      omega
    have hpos : 0 < (p + 1) ^ (1 + q) := Nat.pow_pos (by omega)
    exact ⟨(p + 1) ^ (1 + q) + k, m3, f_ret' (m1 := m3) (s_seq (r1 := R none none) (s_par f0) (s_seq (s_no t1) (s_seq (r1 := R (some (nD 1)) none) (s_asg w_c) (s_seq (s_for (wi_rng1 (w_var rfl) (by omega)) lp) (s_ret (w_op (w_var rfl) (w_call (wa_2 (w_var rfl) w_c) e3) rfl)))))) rfl (s.take rfl), by omega, by omega, s⟩
/-! ### the law -/
theorem ne_strC (x : Str) (m : Mu) : neD (.str x) (.str x) m = .ok (.bl false) m := by
  show Out.ok (D.bl (!(x == x))) m = _
  rw [beq_self_eq_true]
  rfl
section
variable {sk : List Pl} {c n1 n2 : Nat}
abbrev S2 (n1 n2 : Nat) : Nat → Prop := fun v => Sm n1 v ∨ Sm n2 v
theorem rankG (h : SOk sk) (hl : sk.length ≤ 3) {x n : Nat} (hn : n ≤ 1000000000000) : rank sk x n ≤ 123 := by
  have h1 := rank_le h (x := x) (e := 40) (n := n) (Nat.le_trans hn (by decide))
  have h2 : sk.length * (40 + 1) ≤ 3 * 41 := Nat.mul_le_mul_right _ hl
  omega
def frG (cup : D) (sk : List Pl) (c : Nat) (x4 x5 x6 : Option D) : Rho := [some cup, some (skD sk), some (bookD sk), some (.loc c), x4, x5, x6]
abbrev bdG : XS := (sSeq (sAsg (xCall F__law_spent (xaCons (xVar 1) (xaCons (xVar 3) (xaCons (xOp ixD (xVar 5) (xC (.int 0))) (xaCons (xVar 4) xaNil))))) (gNm 6))
  (sIf (xTest (xOp neD (xCall reprF (xaCons (xLst (xaCons (xCall F_joins (xaCons (xVar 2) (xaCons (xOp ixD (xVar 5) (xC (.int 0))) (xaCons (xVar 4) xaNil)))) (xaCons (xCall F_rounds (xaCons (xVar 2) (xaCons (xOp ixD (xVar 5) (xC (.int 0))) (xaCons (xVar 4) xaNil)))) xaNil))) xaNil)) (xCall reprF (xaCons (xLst (xaCons (xOp ixD (xVar 6) (xC (.int 0))) (xaCons (xOp ixD (xVar 6) (xC (.int 1))) xaNil))) xaNil)))) (sRet (xC (.bl false))) sNil))
theorem plan_run (h : SOk sk) (hl : sk.length ≤ 3) (h1 : n1 ≤ 1000000000000) (h2 : n2 ≤ 1000000000000) {p : Pl} (hp : p ∈ sk) {n : Nat} (h0 : 0 < n) (hn : n ≤ 1000000000000) (hS : S2 n1 n2 n) {cup : D} {x6 : Option D} {ν : Mu} (hst : St sk (S2 n1 n2) False c ν) :
    ∃ ν', bdG (frG cup sk c (some (nD n)) (some p.dat) x6) ν = .next (frG cup sk c (some (nD n)) (some p.dat) (some (prV (V sk p.nm n)))) ν' ∧ Chg c ν ν' ∧ St sk (S2 n1 n2) False c ν' := by
  have B := bds_two h h1 h2
  have hr := rankG h hl (x := p.nm) hn
  have hx : p.nm ∈ sk.map Pl.nm := List.mem_map.mpr ⟨p, hp, rfl⟩
  have nm0 : ∀ {ρ : Rho} {m : Mu}, ρ[5]? = some (some p.dat) → xOp ixD (xVar 5) (xC (.int 0)) ρ m = .ok (nmD p.nm) m := fun h5 => w_op (w_var h5) w_c (ix_lst (i := 0) rfl)
  obtain ⟨ν', e, s, h'⟩ := spent_ok B 250 p.nm n ν hx hS h0 (by omega) hst
  obtain ⟨a, b⟩ := V_small h (x := p.nm) (n := n) (by omega) (Nat.le_trans hn (by decide))
  let r1 := frG cup sk c (some (nD n)) (some p.dat) (some (prV (V sk p.nm n)))
  have hf : 2 * rank sk p.nm n + 2 ≤ fuelC := by show _ ≤ 250; omega
  have t : xTest (xOp neD (xCall reprF (xaCons (xLst (xaCons (xCall F_joins (xaCons (xVar 2) (xaCons (xOp ixD (xVar 5) (xC (.int 0))) (xaCons (xVar 4) xaNil)))) (xaCons (xCall F_rounds (xaCons (xVar 2) (xaCons (xOp ixD (xVar 5) (xC (.int 0))) (xaCons (xVar 4) xaNil)))) xaNil))) xaNil)) (xCall reprF (xaCons (xLst (xaCons (xOp ixD (xVar 6) (xC (.int 0))) (xaCons (xOp ixD (xVar 6) (xC (.int 1))) xaNil))) xaNil))) r1 ν' = .ok false ν' :=
    w_tst (w_op (w_call (wa_1 (w_lst (wa_2 (w_call (wa_3 (w_var rfl) (nm0 rfl) (w_var rfl)) (joins_run B hp h0 hn hS hf ν')) (w_call (wa_3 (w_var rfl) (nm0 rfl) (w_var rfl)) (rounds_run B hp h0 hn hS hf ν'))))) (repr2 a b ν')) (w_call (wa_1 (w_lst (wa_2 (w_op (w_var rfl) w_c (ix_tup (k := 0) rfl _)) (w_op (w_var rfl) w_c (ix_tup (k := 1) rfl _))))) (repr2 a b ν')) (ne_strC _ _))
  exact ⟨ν', s_seq (r1 := r1) (s_asg (w_call (wa_cons (w_var rfl) (wa_3 (w_var rfl) (nm0 rfl) (w_var rfl))) e)) (s_no t), s, h'⟩
theorem size_run (h : SOk sk) (hl : sk.length ≤ 3) (h1 : n1 ≤ 1000000000000) (h2 : n2 ≤ 1000000000000) {n : Nat} (h0 : 0 < n) (hn : n ≤ 1000000000000) (hS : S2 n1 n2 n) {cup : D} {x5 x6 : Option D} {ν : Mu} (hst : St sk (S2 n1 n2) False c ν) :
    ∃ r2 ν', sFor (xiSeq (xVar 1)) (gNm 5) bdG (frG cup sk c (some (nD n)) x5 x6) ν = .next r2 ν' ∧ (∃ y4 y5 y6, r2 = frG cup sk c y4 y5 y6) ∧ Chg c ν ν' ∧ St sk (S2 n1 n2) False c ν' := by
  obtain ⟨r', ν1, lp, ⟨⟨y5, y6, rfl⟩, s1, h1'⟩⟩ := loop_inv (k := 0) (m := ν) (xs := sk.map Pl.dat) (g := gNm 5) (body := bdG) (r := frG cup sk c (some (nD n)) x5 x6)
    (fun k r m => (∃ y5 y6, r = frG cup sk c (some (nD n)) y5 y6) ∧ Chg c ν m ∧ St sk (S2 n1 n2) False c m) ⟨⟨_, _, rfl⟩, Chg.refl hst, hst⟩ fun k x r m hx' hi => by
    obtain ⟨⟨y5, y6, rfl⟩, hchg, hs⟩ := hi
    rw [List.getElem?_map] at hx'
    cases hk : sk[k]? with
    | none => rw [hk] at hx'; cases hx'
    | some p =>
      rw [hk] at hx'
      cases hx'
      obtain ⟨m', e, s', h'⟩ := plan_run h hl h1 h2 (List.mem_of_getElem? hk) h0 hn hS (cup := cup) (x6 := y6) hs
      exact ⟨frG cup sk c (some (nD n)) (some p.dat) y6, m, _, m', rfl, e, ⟨_, _, rfl⟩, hchg.trans s', h'⟩
  exact ⟨_, ν1, s_for (wi_seq (w_var rfl) rfl) lp, ⟨_, _, _, rfl⟩, s1, h1'⟩
end
theorem right_ok {n : Nat} {μ : Mu} (hc : Cup n μ) : ∃ μ', F__law_right [.loc n] μ = .ok (.bl true) μ' ∧ Sip n μ μ' := by
  obtain ⟨q, m1, e1, hq, s1⟩ := sip_ok (top := 3) hc (by decide) (by decide)
  obtain ⟨sk, m2, e2, hok, hlen, s2, _⟩ := sketch_okT (span := 1 + q) (most := 3) (s1.cup hc) (by omega) (by omega) (by decide) (by decide)
  have s12 := s1.trans s2
  have hc2 := s12.cup hc
  obtain ⟨n1, m3', e3, g1, g2, s3'⟩ := great_ok (hc2.app [.dtt []])
  obtain ⟨m3, s3, rfl⟩ := s3'.app hc2.lt
  obtain ⟨n2, m4', e4, k1, k2, s4'⟩ := great_ok ((s3.cup hc2).app [.dtt []])
  obtain ⟨m4, s4, rfl⟩ := s4'.app (s3.cup hc2).lt
  have s := (s12.trans s3).trans s4
  have hl : m4.length = m2.length := (s3.trans s4).len
  have f1 : xCall F__law_sketch (xaCons (xVar 0) (xaCons (xOp addD (xC (.int 1)) (xCall F__law_sip (xaCons (xVar 0) (xaCons (xC (.int 3)) xaNil)))) (xaCons (xC (.int 3)) xaNil))) (rho0 7 [.loc n]) μ = .ok (skD sk) m2 := by
    refine w_call (wa_3 (w_var rfl) (w_op w_c (w_call (wa_2 (w_var rfl) w_c) e1) rfl) w_c) ?_
    rw [show ((1 + q : Nat) : Int) = 1 + (q : Int) by omega] at e2
    exact e2
  let R1 : Rho := [some (.loc n), some (skD sk), none, none, none, none, none]
  have f2 : xaCons (xCall F__law_vol (xaCons (xVar 1) xaNil)) (xaCons xNewT xaNil) R1 m2 = .ok [bookD sk, .loc m2.length] (m2 ++ [.dtt []]) := wa_2 (w_call (wa_1 (w_var rfl)) (vol_ok hok m2)) rfl
  have hst : St sk (S2 n1 n2) False m2.length (m4 ++ [.dtt []]) := ⟨⟨[], by rw [← hl, List.getElem?_append_right (Nat.le_refl _), Nat.sub_self]; rfl, .nil⟩, fun z => z.elim⟩
  have f3 : xLst (xaCons (xCall F__law_great (xaCons (xVar 0) xaNil)) (xaCons (xCall F__law_great (xaCons (xVar 0) xaNil)) xaNil)) (frG (.loc n) sk m2.length none none none) (m2 ++ [.dtt []]) = .ok (.lst ([n1, n2].map nD)) (m4 ++ [.dtt []]) := w_lst (wa_2 (w_call (wa_1 (w_var rfl)) e3) (w_call (wa_1 (w_var rfl)) e4))
  obtain ⟨r', ν, lp, ⟨⟨y4, y5, y6, rfl⟩, sc, h'⟩⟩ := loop_inv (k := 0) (m := m4 ++ [.dtt []]) (xs := [n1, n2].map nD) (g := gNm 4) (body := sFor (xiSeq (xVar 1)) (gNm 5) bdG) (r := frG (.loc n) sk m2.length none none none)
    (fun k r m => (∃ y4 y5 y6, r = frG (.loc n) sk m2.length y4 y5 y6) ∧ Chg m2.length (m4 ++ [.dtt []]) m ∧ St sk (S2 n1 n2) False m2.length m) ⟨⟨_, _, _, rfl⟩, Chg.refl hst, hst⟩ fun j x r m hx' hi => by
    obtain ⟨⟨y4, y5, y6, rfl⟩, hchg, hs⟩ := hi
    rw [List.getElem?_map] at hx'
    cases hj : ([n1, n2] : List Nat)[j]? with
    | none => rw [hj] at hx'; cases hx'
    | some v =>
      rw [hj] at hx'
      cases hx'
      have hv : 0 < v ∧ v ≤ 1000000000000 ∧ S2 n1 n2 v := by
        have := List.mem_of_getElem? hj
        simp only [List.mem_cons, List.not_mem_nil, or_false] at this
        rcases this with rfl | rfl
        · exact ⟨g1, g2, .inl (Sm.self _)⟩
        · exact ⟨k1, k2, .inr (Sm.self _)⟩
      obtain ⟨r2, m', e, hr2, s', h'⟩ := size_run hok (by omega) g2 k2 hv.1 hv.2.1 hv.2.2 (cup := .loc n) (x5 := y5) (x6 := y6) hs
      exact ⟨_, m, r2, m', rfl, e, hr2, hchg.trans s', h'⟩
  obtain ⟨kvs, hν⟩ := sc
  have ht : ν.take μ.length = m4 := by
    rw [hν, ← hl, List.set_append_right _ _ (Nat.le_refl _), ← s.len, List.take_left' rfl]
  exact ⟨m4, f_ret' (m1 := ν) (s_seq (r1 := R1) (s_asg f1) (s_seq (r1 := frG (.loc n) sk m2.length none none none) (s_par f2) (s_seq (s_for (wi_seq f3 rfl) lp) (s_ret w_c)))) rfl ht, s⟩
theorem turnsC {ns : List Int} {k : Nat} {r : Rho} {m : Mu} (h0 : r[0]? = some (some (.fix (ns.map .int)))) (hk : k ≤ 80) : xiRng1 (xaCons (xCall maxF (xaCons (xC (.int 2)) (xaCons (xCall minF (xaCons (xCall lenD (xaCons (xVar 0) xaNil)) (xaCons (xC (.int (k : Nat))) xaNil))) xaNil))) xaNil) r m = .ok (rngL 0 (max 2 (min ns.length k))) m :=
  wi_rng1 (w_call (wa_2 w_c (w_call (wa_2 (w_call (wa_1 (w_var h0)) (M.len_fix ns m)) w_c) (M.min_ok ns.length k m))) (M.max_ok 2 (min ns.length k) m)) (by omega)
end J.Cn
namespace J
open PySem PySem.Spec PyProof.Rows L2 DS
theorem law_true (ns : List Int) (hl : ns.length ≤ 63) : ∃ m', F_law [.fix (ns.map .int)] [] = .ok (.bl true) m' := by
  have e := M.turns_ok (te := xCall F__law_right (xaCons (xCall F__law_cup (xaCons (xVar 0) (xaCons (xVar 1) xaNil))) xaNil)) ns hl (max 2 (min ns.length 4)) (by omega) F__law_right (fun _ _ => rfl) (fun n μ h => Cn.right_ok h)
  exact ⟨_, f_ret' (s_ret (w_call (wa_1 (w_lc (Cn.turnsC (k := 4) rfl (by decide)) e)) (M.allT_ok _ _))) rfl rfl⟩
end J

namespace J
open PySem PySem.Spec PyProof.Rows L2 DS
theorem bt_int : bootBuiltins ("int" : Str) = some (.type "int") := by decide +kernel
theorem bt_min : bootBuiltins ("min" : Str) = some (.builtin "min") := by decide +kernel
theorem bt_max : bootBuiltins ("max" : Str) = some (.builtin "max") := by decide +kernel
theorem bt_isinstance : bootBuiltins ("isinstance" : Str) = some (.builtin "isinstance") := by decide +kernel
theorem bt_bool : bootBuiltins ("bool" : Str) = some (.type "bool") := by decide +kernel
theorem bt_len : bootBuiltins ("len" : Str) = some (.builtin "len") := by decide +kernel
theorem bt_str : bootBuiltins ("str" : Str) = some (.type "str") := by decide +kernel
theorem bt_sum : bootBuiltins ("sum" : Str) = some (.builtin "sum") := by decide +kernel
theorem bt_divmod : bootBuiltins ("divmod" : Str) = some (.builtin "divmod") := by decide +kernel
theorem bt_all : bootBuiltins ("all" : Str) = some (.builtin "all") := by decide +kernel
theorem bt_any : bootBuiltins ("any" : Str) = some (.builtin "any") := by decide +kernel
theorem bt_tuple : bootBuiltins ("tuple" : Str) = some (.type "tuple") := by decide +kernel
theorem bt_repr : bootBuiltins ("repr" : Str) = some (.builtin "repr") := by decide +kernel
theorem bt_abs : bootBuiltins ("abs" : Str) = some (.builtin "abs") := by decide +kernel
theorem sc_places_between : FnScope N_places_between P_places_between (defScope s_places_between) := ⟨rfl, rfl, rfl, by decide +kernel, rfl, by decide +kernel, by decide +kernel⟩
theorem k_places_between {b : Base} (T : Tx tl b) : ∃ fd, FunD b.K "places_between" "places_between" (defArgs s_places_between) (defBody s_places_between) (defScope s_places_between) [] [] (He.ga b.K "places_between") fd ∧ Binds b.K fd P_places_between [] := by
  obtain ⟨fd, F⟩ := T.s.c.def_ 0 (d := d_places_between) rfl
  exact ⟨fd, F, F.bindsN fun _ _ _ _ _ _ us hl => match us, hl with | [_, _, _], _ => rfl⟩
set_option maxHeartbeats 4000000 in
theorem e_places_between {b : Base} (T : Tx tl b) (E : XK) : DSs (b.at N_places_between (defScope s_places_between) 0 false) (wOf E) (defBody s_places_between) B_places_between := by
  have sc := sc_places_between
  exact (dss_cons (ds_asg [3] (de_op op_addD (de_var 1) (de_op op_modD (de_callT b_int (T.free 2) bt_int (da_cons (de_op op_subD (de_fld (T.cls 0) (T.noat 1) (de_var 0)) (de_var 1)) da_nil)) (de_fld (T.cls 0) (T.noat 3) (de_var 0)))) (dg_name 3 sc.nd))
  (dss_one (ds_ret (de_if (dt_cmp op_geD (de_var 3) (de_var 2)) de_int (de_op op_divD (de_op op_subD (de_op op_addD (de_op op_subD (de_var 2) (de_var 3)) (de_fld (T.cls 0) (T.noat 3) (de_var 0))) de_int) (de_fld (T.cls 0) (T.noat 3) (de_var 0)))))))
theorem ok_places_between {b : Base} (T : Tx tl b) : ∃ fd, b.Ok 1 (He.ga b.K "places_between") fd P_places_between F_places_between ∧ PySem.W.keepIn b.K (.ref (He.ga b.K "places_between")) = true ∧ Binds b.K fd P_places_between [] ∧ FunD b.K "places_between" "places_between" (defArgs s_places_between) (defBody s_places_between) (defScope s_places_between) [] [] (He.ga b.K "places_between") fd := by
  obtain ⟨fd, F, B⟩ := k_places_between T
  exact ⟨fd, fn_ok false F sc_places_between (fun E => e_places_between T E), F.kp, B, F⟩
theorem sc_deeds_at : FnScope N_deeds_at P_deeds_at (defScope s_deeds_at) := ⟨rfl, rfl, rfl, by decide +kernel, rfl, by decide +kernel, by decide +kernel⟩
theorem k_deeds_at {b : Base} (T : Tx tl b) : ∃ fd, FunD b.K "deeds_at" "deeds_at" (defArgs s_deeds_at) (defBody s_deeds_at) (defScope s_deeds_at) [] [] (He.ga b.K "deeds_at") fd ∧ Binds b.K fd P_deeds_at [] := by
  obtain ⟨fd, F⟩ := T.s.c.def_ 1 (d := d_deeds_at) rfl
  exact ⟨fd, F, F.bindsN fun _ _ _ _ _ _ us hl => match us, hl with | [_, _], _ => rfl⟩
set_option maxHeartbeats 4000000 in
theorem e_deeds_at {b : Base} (T : Tx tl b) (E : XK) : DSs (b.at N_deeds_at (defScope s_deeds_at) 1 false) (wOf E) (defBody s_deeds_at) B_deeds_at := by
  obtain ⟨fdh0, h0⟩ := ok_places_between T
  have sc := sc_deeds_at
  exact (dss_cons (ds_if (dt_cmp op_eqD' (de_fld (T.cls 0) (T.noat 4) (de_var 0)) de_str) (dss_one (ds_ret (de_call h0.1 (T.glo 6) h0.2.1 h0.2.2.1 (da_cons (de_var 0) (da_cons (de_fld (T.cls 0) (T.noat 5) (de_var 0)) (da_cons (de_var 1) da_nil)))))) dss_nil)
  (dss_one (ds_ret (de_call h0.1 (T.glo 6) h0.2.1 h0.2.2.1 (da_cons (de_var 0) (da_cons de_int (da_cons (de_op op_subD (de_var 1) (de_fld (T.cls 0) (T.noat 5) (de_var 0))) da_nil)))))))
theorem ok_deeds_at {b : Base} (T : Tx tl b) : ∃ fd, b.Ok 2 (He.ga b.K "deeds_at") fd P_deeds_at F_deeds_at ∧ PySem.W.keepIn b.K (.ref (He.ga b.K "deeds_at")) = true ∧ Binds b.K fd P_deeds_at [] ∧ FunD b.K "deeds_at" "deeds_at" (defArgs s_deeds_at) (defBody s_deeds_at) (defScope s_deeds_at) [] [] (He.ga b.K "deeds_at") fd := by
  obtain ⟨fd, F, B⟩ := k_deeds_at T
  exact ⟨fd, fn_ok false F sc_deeds_at (fun E => e_deeds_at T E), F.kp, B, F⟩
theorem sc_Book_program : FnScope N_Book_program P_Book_program (defScope s_Book_program) := ⟨rfl, rfl, rfl, by decide +kernel, rfl, by decide +kernel, by decide +kernel⟩
theorem k_Book_program {b : Base} (T : Tx tl b) : ∃ fd, FunD b.K "program" "Book.program" (defArgs s_Book_program) (defBody s_Book_program) (defScope s_Book_program) [] [] (He.ma b.K (He.ga b.K "Book") "program") fd ∧ Binds b.K fd P_Book_program [] := by
  obtain ⟨fd, F⟩ := T.s.c.def_ 2 (d := d_Book_program) rfl
  exact ⟨fd, F, F.bindsN fun _ _ _ _ _ _ us hl => match us, hl with | [_, _], _ => rfl⟩
set_option maxHeartbeats 4000000 in
theorem e_Book_program {b : Base} (T : Tx tl b) (E : XK) : DSs (b.at N_Book_program (defScope s_Book_program) 0 false) (wOf E) (defBody s_Book_program) B_Book_program := by
  have sc := sc_Book_program
  exact (dss_one (ds_ret (de_dget (de_fld (T.cls 7) (T.noat 8) (de_var 0)) (de_var 1))))
theorem ok_Book_program {b : Base} (T : Tx tl b) : ∃ fd, b.Ok 1 (He.ma b.K (He.ga b.K "Book") "program") fd P_Book_program F_Book_program ∧ PySem.W.keepIn b.K (.ref (He.ma b.K (He.ga b.K "Book") "program")) = true ∧ Binds b.K fd P_Book_program [] ∧ FunD b.K "program" "Book.program" (defArgs s_Book_program) (defBody s_Book_program) (defScope s_Book_program) [] [] (He.ma b.K (He.ga b.K "Book") "program") fd := by
  obtain ⟨fd, F, B⟩ := k_Book_program T
  exact ⟨fd, fn_ok false F sc_Book_program (fun E => e_Book_program T E), F.kp, B, F⟩
theorem sc_plain_joins : FnScope N_plain_joins P_plain_joins (defScope s_plain_joins) := ⟨rfl, rfl, rfl, by decide +kernel, rfl, by decide +kernel, by decide +kernel⟩
theorem k_plain_joins {b : Base} (T : Tx tl b) : ∃ fd, FunD b.K "plain_joins" "plain_joins" (defArgs s_plain_joins) (defBody s_plain_joins) (defScope s_plain_joins) [] [] (He.ga b.K "plain_joins") fd ∧ Binds b.K fd P_plain_joins [] := by
  obtain ⟨fd, F⟩ := T.s.c.def_ 3 (d := d_plain_joins) rfl
  exact ⟨fd, F, F.bindsN fun _ _ _ _ _ _ us hl => match us, hl with | [_, _], _ => rfl⟩
set_option maxHeartbeats 4000000 in
theorem e_plain_joins {b : Base} (T : Tx tl b) (E : XK) : DSs (b.at N_plain_joins (defScope s_plain_joins) 0 false) (wOf E) (defBody s_plain_joins) B_plain_joins := by
  have sc := sc_plain_joins
  exact (dss_cons (ds_asg [2, 3] (de_var 0) (dg_tup 2 (dgs_cons (Plain.of E) (dg_name 2 sc.nd) (dgs_cons (Plain.of E) (dg_name 3 sc.nd) dgs_nil))))
  (dss_cons (ds_lc 4 [("place", 5)] sc.nd (show blkC N_plain_joins (defScope s_plain_joins) _ _ = true by decide +kernel) (di_range1 (T.free 9) (da_cons (de_var 1) da_nil)) (dg_name 5 sc.nd) dts_nil (de_if (dt_cmp op_eqD' (de_var 2) de_str) (de_var 5) (de_op op_addD (de_var 5) de_int)))
  (dss_one (ds_ret (de_lc [("count", 6)] sc.nd (show blkC N_plain_joins (defScope s_plain_joins) _ _ = true by decide +kernel) (di_seq (de_var 4)) (dg_name 6 sc.nd) dts_nil (de_callB b_max (T.free 11) bt_max (da_cons de_int (da_cons (de_op op_subD (de_if (dt_cmp op_eqD' (de_var 2) de_str) (de_callB b_min (T.free 10) bt_min (da_cons (de_var 6) (da_cons (de_var 3) da_nil))) (de_var 6)) de_int) da_nil))))))))
theorem ok_plain_joins {b : Base} (T : Tx tl b) : ∃ fd, b.Ok 1 (He.ga b.K "plain_joins") fd P_plain_joins F_plain_joins ∧ PySem.W.keepIn b.K (.ref (He.ga b.K "plain_joins")) = true ∧ Binds b.K fd P_plain_joins [] ∧ FunD b.K "plain_joins" "plain_joins" (defArgs s_plain_joins) (defBody s_plain_joins) (defScope s_plain_joins) [] [] (He.ga b.K "plain_joins") fd := by
  obtain ⟨fd, F, B⟩ := k_plain_joins T
  exact ⟨fd, fn_ok false F sc_plain_joins (fun E => e_plain_joins T E), F.kp, B, F⟩
theorem sc_is_integer : FnScope N_is_integer P_is_integer (defScope s_is_integer) := ⟨rfl, rfl, rfl, by decide +kernel, rfl, by decide +kernel, by decide +kernel⟩
theorem k_is_integer {b : Base} (T : Tx tl b) : ∃ fd, FunD b.K "is_integer" "is_integer" (defArgs s_is_integer) (defBody s_is_integer) (defScope s_is_integer) [] [] (He.ga b.K "is_integer") fd ∧ Binds b.K fd P_is_integer [] := by
  obtain ⟨fd, F⟩ := T.s.c.def_ 4 (d := d_is_integer) rfl
  exact ⟨fd, F, F.bindsN fun _ _ _ _ _ _ us hl => match us, hl with | [_], _ => rfl⟩
set_option maxHeartbeats 4000000 in
theorem e_is_integer {b : Base} (T : Tx tl b) (E : XK) : DSs (b.at N_is_integer (defScope s_is_integer) 0 false) (wOf E) (defBody s_is_integer) B_is_integer := by
  have sc := sc_is_integer
  exact (dss_one (ds_ret (de_and (de_callB (b_isi T.s.isi) (T.free 12) bt_isinstance (da_cons (de_var 0) (da_cons (de_ty (T.free 2) bt_int) da_nil))) (de_one (de_not (de_callB (b_isi T.s.isi) (T.free 12) bt_isinstance (da_cons (de_var 0) (da_cons (de_ty (T.free 13) bt_bool) da_nil))))))))
theorem ok_is_integer {b : Base} (T : Tx tl b) : ∃ fd, b.Ok 1 (He.ga b.K "is_integer") fd P_is_integer F_is_integer ∧ PySem.W.keepIn b.K (.ref (He.ga b.K "is_integer")) = true ∧ Binds b.K fd P_is_integer [] ∧ FunD b.K "is_integer" "is_integer" (defArgs s_is_integer) (defBody s_is_integer) (defScope s_is_integer) [] [] (He.ga b.K "is_integer") fd := by
  obtain ⟨fd, F, B⟩ := k_is_integer T
  exact ⟨fd, fn_ok false F sc_is_integer (fun E => e_is_integer T E), F.kp, B, F⟩
theorem sc_is_between : FnScope N_is_between P_is_between (defScope s_is_between) := ⟨rfl, rfl, rfl, by decide +kernel, rfl, by decide +kernel, by decide +kernel⟩
theorem k_is_between {b : Base} (T : Tx tl b) : ∃ fd, FunD b.K "is_between" "is_between" (defArgs s_is_between) (defBody s_is_between) (defScope s_is_between) [] [] (He.ga b.K "is_between") fd ∧ Binds b.K fd P_is_between [] := by
  obtain ⟨fd, F⟩ := T.s.c.def_ 5 (d := d_is_between) rfl
  exact ⟨fd, F, F.bindsN fun _ _ _ _ _ _ us hl => match us, hl with | [_, _, _], _ => rfl⟩
set_option maxHeartbeats 4000000 in
theorem e_is_between {b : Base} (T : Tx tl b) (E : XK) : DSs (b.at N_is_between (defScope s_is_between) 1 false) (wOf E) (defBody s_is_between) B_is_between := by
  obtain ⟨fdh0, h0⟩ := ok_is_integer T
  have sc := sc_is_between
  exact (dss_one (ds_ret (de_and (de_call h0.1 (T.glo 14) h0.2.1 h0.2.2.1 (da_cons (de_var 0) da_nil)) (de_one (de_chain op_leD op_leD (de_var 1) (de_var 0) (de_var 2))))))
theorem ok_is_between {b : Base} (T : Tx tl b) : ∃ fd, b.Ok 2 (He.ga b.K "is_between") fd P_is_between F_is_between ∧ PySem.W.keepIn b.K (.ref (He.ga b.K "is_between")) = true ∧ Binds b.K fd P_is_between [] ∧ FunD b.K "is_between" "is_between" (defArgs s_is_between) (defBody s_is_between) (defScope s_is_between) [] [] (He.ga b.K "is_between") fd := by
  obtain ⟨fd, F, B⟩ := k_is_between T
  exact ⟨fd, fn_ok false F sc_is_between (fun E => e_is_between T E), F.kp, B, F⟩
theorem sc_digit_of : FnScope N_digit_of P_digit_of (defScope s_digit_of) := ⟨rfl, rfl, rfl, by decide +kernel, rfl, by decide +kernel, by decide +kernel⟩
theorem k_digit_of {b : Base} (T : Tx tl b) : ∃ fd, FunD b.K "digit_of" "digit_of" (defArgs s_digit_of) (defBody s_digit_of) (defScope s_digit_of) [] [] (He.ga b.K "digit_of") fd ∧ Binds b.K fd P_digit_of [] := by
  obtain ⟨fd, F⟩ := T.s.c.def_ 6 (d := d_digit_of) rfl
  exact ⟨fd, F, F.bindsN fun _ _ _ _ _ _ us hl => match us, hl with | [_], _ => rfl⟩
set_option maxHeartbeats 4000000 in
theorem e_digit_of {b : Base} (T : Tx tl b) (E : XK) : DSs (b.at N_digit_of (defScope s_digit_of) 0 false) (wOf E) (defBody s_digit_of) B_digit_of := by
  have sc := sc_digit_of
  exact (dss_one (ds_ret (de_if (dt_w (dw_and (dt_cmp op_eqD' (de_callB b_len (T.free 15) bt_len (da_cons (de_var 0) da_nil)) de_int) (dw_and1 (dt_cmp op_inD (de_var 0) (de_gstr (T.str 16)))))) (de_callT b_int (T.free 2) bt_int (da_cons (de_var 0) da_nil)) de_non)))
theorem ok_digit_of {b : Base} (T : Tx tl b) : ∃ fd, b.Ok 1 (He.ga b.K "digit_of") fd P_digit_of F_digit_of ∧ PySem.W.keepIn b.K (.ref (He.ga b.K "digit_of")) = true ∧ Binds b.K fd P_digit_of [] ∧ FunD b.K "digit_of" "digit_of" (defArgs s_digit_of) (defBody s_digit_of) (defScope s_digit_of) [] [] (He.ga b.K "digit_of") fd := by
  obtain ⟨fd, F, B⟩ := k_digit_of T
  exact ⟨fd, fn_ok false F sc_digit_of (fun E => e_digit_of T E), F.kp, B, F⟩
theorem sc_read_goal : FnScope N_read_goal P_read_goal (defScope s_read_goal) := ⟨rfl, rfl, rfl, by decide +kernel, rfl, by decide +kernel, by decide +kernel⟩
theorem k_read_goal {b : Base} (T : Tx tl b) : ∃ fd, FunD b.K "read_goal" "read_goal" (defArgs s_read_goal) (defBody s_read_goal) (defScope s_read_goal) [] [] (He.ga b.K "read_goal") fd ∧ Binds b.K fd P_read_goal [] := by
  obtain ⟨fd, F⟩ := T.s.c.def_ 7 (d := d_read_goal) rfl
  exact ⟨fd, F, F.bindsN fun _ _ _ _ _ _ us hl => match us, hl with | [_], _ => rfl⟩
set_option maxHeartbeats 4000000 in
theorem e_read_goal {b : Base} (T : Tx tl b) (E : XK) : DSs (b.at N_read_goal (defScope s_read_goal) 2 false) (wOf E) (defBody s_read_goal) B_read_goal := by
  obtain ⟨fdh0, h0⟩ := ok_digit_of T
  obtain ⟨fdh1, h1⟩ := ok_is_between T
  have sc := sc_read_goal
  exact (dss_cons (ds_if (dt_not (dt_val (de_callB (b_isi T.s.isi) (T.free 12) bt_isinstance (da_cons (de_var 0) (da_cons (de_ty (T.free 17) bt_str) da_nil))))) (dss_one (ds_ret de_non)) dss_nil)
  (dss_cons (ds_if (dt_cmp op_inD (de_var 0) (de_tup (da_cons de_str (da_cons de_str da_nil)))) (dss_one (ds_ret (de_tup (da_cons (de_var 0) (da_cons de_non da_nil))))) dss_nil)
  (dss_cons (ds_asg [1] (de_if (dt_cmp op_eqD' (de_sl (de_var 0) do_none (do_some de_int)) de_str) (de_call h0.1 (T.glo 18) h0.2.1 h0.2.2.1 (da_cons (de_sl (de_var 0) (do_some de_int) do_none) da_nil)) de_non) (dg_name 1 sc.nd))
  (dss_one (ds_ret (de_if (dt_val (de_call h1.1 (T.glo 20) h1.2.1 h1.2.2.1 (da_cons (de_var 1) (da_cons de_int (da_cons (de_gint (T.int 19)) da_nil))))) (de_tup (da_cons de_str (da_cons (de_var 1) da_nil))) de_non))))))
theorem ok_read_goal {b : Base} (T : Tx tl b) : ∃ fd, b.Ok 3 (He.ga b.K "read_goal") fd P_read_goal F_read_goal ∧ PySem.W.keepIn b.K (.ref (He.ga b.K "read_goal")) = true ∧ Binds b.K fd P_read_goal [] ∧ FunD b.K "read_goal" "read_goal" (defArgs s_read_goal) (defBody s_read_goal) (defScope s_read_goal) [] [] (He.ga b.K "read_goal") fd := by
  obtain ⟨fd, F, B⟩ := k_read_goal T
  exact ⟨fd, fn_ok false F sc_read_goal (fun E => e_read_goal T E), F.kp, B, F⟩
theorem sc_Book_plan : FnScope N_Book_plan P_Book_plan (defScope s_Book_plan) := ⟨rfl, rfl, rfl, by decide +kernel, rfl, by decide +kernel, by decide +kernel⟩
theorem k_Book_plan {b : Base} (T : Tx tl b) : ∃ fd, FunD b.K "plan" "Book.plan" (defArgs s_Book_plan) (defBody s_Book_plan) (defScope s_Book_plan) [] [] (He.ma b.K (He.ga b.K "Book") "plan") fd ∧ Binds b.K fd P_Book_plan [] := by
  obtain ⟨fd, F⟩ := T.s.c.def_ 8 (d := d_Book_plan) rfl
  exact ⟨fd, F, F.bindsN fun _ _ _ _ _ _ us hl => match us, hl with | [_, _], _ => rfl⟩
set_option maxHeartbeats 4000000 in
theorem e_Book_plan {b : Base} (T : Tx tl b) (E : XK) : DSs (b.at N_Book_plan (defScope s_Book_plan) 0 false) (wOf E) (defBody s_Book_plan) B_Book_plan := by
  have sc := sc_Book_plan
  exact (dss_cons (ds_for [2] (di_seq (de_fld (T.cls 7) (T.noat 21) (de_var 0))) (dg_name 2 sc.nd)
  (dss_one (ds_if (dt_w (dw_and (dt_val (de_callB (b_isi T.s.isi) (T.free 12) bt_isinstance (da_cons (de_var 1) (da_cons (de_ty (T.free 17) bt_str) da_nil)))) (dw_and1 (dt_cmp op_eqD' (de_ix (de_var 2) de_int) (de_var 1))))) (dss_one (ds_ret (de_var 2))) dss_nil)))
  (dss_one ds_never))
theorem ok_Book_plan {b : Base} (T : Tx tl b) : ∃ fd, b.Ok 1 (He.ma b.K (He.ga b.K "Book") "plan") fd P_Book_plan F_Book_plan ∧ PySem.W.keepIn b.K (.ref (He.ma b.K (He.ga b.K "Book") "plan")) = true ∧ Binds b.K fd P_Book_plan [] ∧ FunD b.K "plan" "Book.plan" (defArgs s_Book_plan) (defBody s_Book_plan) (defScope s_Book_plan) [] [] (He.ma b.K (He.ga b.K "Book") "plan") fd := by
  obtain ⟨fd, F, B⟩ := k_Book_plan T
  exact ⟨fd, fn_ok false F sc_Book_plan (fun E => e_Book_plan T E), F.kp, B, F⟩
theorem sc_Book_goal_of : FnScope N_Book_goal_of P_Book_goal_of (defScope s_Book_goal_of) := ⟨rfl, rfl, rfl, by decide +kernel, rfl, by decide +kernel, by decide +kernel⟩
theorem k_Book_goal_of {b : Base} (T : Tx tl b) : ∃ fd, FunD b.K "goal_of" "Book.goal_of" (defArgs s_Book_goal_of) (defBody s_Book_goal_of) (defScope s_Book_goal_of) [] [] (He.ma b.K (He.ga b.K "Book") "goal_of") fd ∧ Binds b.K fd P_Book_goal_of [] := by
  obtain ⟨fd, F⟩ := T.s.c.def_ 9 (d := d_Book_goal_of) rfl
  exact ⟨fd, F, F.bindsN fun _ _ _ _ _ _ us hl => match us, hl with | [_, _], _ => rfl⟩
set_option maxHeartbeats 4000000 in
theorem e_Book_goal_of {b : Base} (T : Tx tl b) (E : XK) : DSs (b.at N_Book_goal_of (defScope s_Book_goal_of) 3 false) (wOf E) (defBody s_Book_goal_of) B_Book_goal_of := by
  obtain ⟨fdh0, h0⟩ := ok_read_goal T
  obtain ⟨fdh1, h1⟩ := ok_Book_plan T
  have sc := sc_Book_goal_of
  exact (dss_one (ds_ret (de_call h0.1 (T.glo 23) h0.2.1 h0.2.2.1 (da_cons (de_ix (de_meth h1.1 (T.cls 7) (T.meth 22) h1.2.2.1 (de_var 0) (da_cons (de_var 1) da_nil)) de_int) da_nil))))
theorem ok_Book_goal_of {b : Base} (T : Tx tl b) : ∃ fd, b.Ok 4 (He.ma b.K (He.ga b.K "Book") "goal_of") fd P_Book_goal_of F_Book_goal_of ∧ PySem.W.keepIn b.K (.ref (He.ma b.K (He.ga b.K "Book") "goal_of")) = true ∧ Binds b.K fd P_Book_goal_of [] ∧ FunD b.K "goal_of" "Book.goal_of" (defArgs s_Book_goal_of) (defBody s_Book_goal_of) (defScope s_Book_goal_of) [] [] (He.ma b.K (He.ga b.K "Book") "goal_of") fd := by
  obtain ⟨fd, F, B⟩ := k_Book_goal_of T
  exact ⟨fd, fn_ok false F sc_Book_goal_of (fun E => e_Book_goal_of T E), F.kp, B, F⟩
theorem sc_Counter_both : FnScope N_Counter_both P_Counter_both (defScope s_Counter_both) := ⟨rfl, rfl, rfl, by decide +kernel, rfl, by decide +kernel, by decide +kernel⟩
theorem k_Counter_both {b : Base} (T : Tx tl b) : ∃ fd, FunD b.K "both" "Counter.both" (defArgs s_Counter_both) (defBody s_Counter_both) (defScope s_Counter_both) [] [] (He.ma b.K (He.ga b.K "Counter") "both") fd ∧ Binds b.K fd P_Counter_both [] := by
  obtain ⟨fd, F⟩ := T.s.c.def_ 10 (d := d_Counter_both) rfl
  exact ⟨fd, F, F.bindsN fun _ _ _ _ _ _ us hl => match us, hl with | [_, _, _], _ => rfl⟩
set_option maxHeartbeats 4000000 in
theorem e_Counter_both {b : Base} (T : Tx tl b) {m : Nat} (hm : 12 ≤ m) (F_Counter_both F_Counter_found : Fn) (g_Counter_both : ∃ fd, FnJ b false m (He.ma b.K (He.ga b.K "Counter") "both") fd P_Counter_both F_Counter_both ∧ PySem.W.keepIn b.K (.ref (He.ma b.K (He.ga b.K "Counter") "both")) = true ∧ Binds b.K fd P_Counter_both [] ∧ FunD b.K "both" "Counter.both" (defArgs s_Counter_both) (defBody s_Counter_both) (defScope s_Counter_both) [] [] (He.ma b.K (He.ga b.K "Counter") "both") fd) (g_Counter_found : ∃ fd, FnJ b false m (He.ma b.K (He.ga b.K "Counter") "found") fd P_Counter_found F_Counter_found ∧ PySem.W.keepIn b.K (.ref (He.ma b.K (He.ga b.K "Counter") "found")) = true ∧ Binds b.K fd P_Counter_found [] ∧ FunD b.K "found" "Counter.found" (defArgs s_Counter_found) (defBody s_Counter_found) (defScope s_Counter_found) [] [] (He.ma b.K (He.ga b.K "Counter") "found") fd) (E : XK) : DSs (b.atJ N_Counter_both (defScope s_Counter_both) 4 false m) (wOf E) (defBody s_Counter_both) (B_Counter_both F_Counter_both F_Counter_found) := by
  obtain ⟨fdh0, h0⟩ := g_Counter_found
  have sc := sc_Counter_both
  have hJ : 0 < m := Nat.lt_of_lt_of_le (by decide) hm
  exact (dss_cons (ds_if (dt_cmp op_eqD' (de_var 2) de_int) (dss_one (ds_ret (de_tup (da_cons de_int (da_cons de_int da_nil))))) dss_nil)
  (dss_cons (ds_if (dt_ninK (da_cons (de_var 1) (da_cons (de_var 2) da_nil)) (de_fld (T.cls 24) (T.noat 25) (de_var 0))) (dss_one (ds_putK (de_fld (T.cls 24) (T.noat 25) (de_var 0)) (da_cons (de_var 1) (da_cons (de_var 2) da_nil)) (de_methJ (h0 := hJ) (hr := Nat.le_refl _) h0.1 (T.cls 24) (T.meth 26) h0.2.2.1 (de_var 0) (da_cons (de_var 1) (da_cons (de_var 2) da_nil))))) dss_nil)
  (dss_one (ds_ret (de_getK (de_fld (T.cls 24) (T.noat 25) (de_var 0)) (da_cons (de_var 1) (da_cons (de_var 2) da_nil)))))))
theorem sc_Counter_found : FnScope N_Counter_found P_Counter_found (defScope s_Counter_found) := ⟨rfl, rfl, rfl, by decide +kernel, rfl, by decide +kernel, by decide +kernel⟩
theorem k_Counter_found {b : Base} (T : Tx tl b) : ∃ fd, FunD b.K "found" "Counter.found" (defArgs s_Counter_found) (defBody s_Counter_found) (defScope s_Counter_found) [] [] (He.ma b.K (He.ga b.K "Counter") "found") fd ∧ Binds b.K fd P_Counter_found [] := by
  obtain ⟨fd, F⟩ := T.s.c.def_ 11 (d := d_Counter_found) rfl
  exact ⟨fd, F, F.bindsN fun _ _ _ _ _ _ us hl => match us, hl with | [_, _, _], _ => rfl⟩
set_option maxHeartbeats 4000000 in
theorem e_Counter_found {b : Base} (T : Tx tl b) {m : Nat} (hm : 12 ≤ m) (F_Counter_both F_Counter_found : Fn) (g_Counter_both : ∃ fd, FnJ b false m (He.ma b.K (He.ga b.K "Counter") "both") fd P_Counter_both F_Counter_both ∧ PySem.W.keepIn b.K (.ref (He.ma b.K (He.ga b.K "Counter") "both")) = true ∧ Binds b.K fd P_Counter_both [] ∧ FunD b.K "both" "Counter.both" (defArgs s_Counter_both) (defBody s_Counter_both) (defScope s_Counter_both) [] [] (He.ma b.K (He.ga b.K "Counter") "both") fd) (g_Counter_found : ∃ fd, FnJ b false m (He.ma b.K (He.ga b.K "Counter") "found") fd P_Counter_found F_Counter_found ∧ PySem.W.keepIn b.K (.ref (He.ma b.K (He.ga b.K "Counter") "found")) = true ∧ Binds b.K fd P_Counter_found [] ∧ FunD b.K "found" "Counter.found" (defArgs s_Counter_found) (defBody s_Counter_found) (defScope s_Counter_found) [] [] (He.ma b.K (He.ga b.K "Counter") "found") fd) (E : XK) : DSs (b.atJ N_Counter_found (defScope s_Counter_found) 4 false m) (wOf E) (defBody s_Counter_found) (B_Counter_found F_Counter_both F_Counter_found) := by
  obtain ⟨fdh0, h0⟩ := ok_Book_plan T
  obtain ⟨fdh1, h1⟩ := ok_plain_joins T
  obtain ⟨fdh2, h2⟩ := ok_Book_goal_of T
  obtain ⟨fdh3, h3⟩ := ok_Book_program T
  obtain ⟨fdh4, h4⟩ := g_Counter_both
  obtain ⟨fdh5, h5⟩ := ok_places_between T
  obtain ⟨fdh6, h6⟩ := ok_deeds_at T
  have sc := sc_Counter_found
  have hJ : 0 < m := Nat.lt_of_lt_of_le (by decide) hm
  exact (dss_cons (ds_if (dt_cmp op_leD (de_var 2) (de_ix (de_meth h0.1 (T.cls 7) (T.meth 22) h0.2.2.1 (de_fld (T.cls 24) (T.noat 27) (de_var 0)) (da_cons (de_var 1) da_nil)) de_int)) (dss_cons (ds_asg [3] (de_call h1.1 (T.glo 29) h1.2.1 h1.2.2.1 (da_cons (de_meth h2.1 (T.cls 7) (T.meth 28) h2.2.2.1 (de_fld (T.cls 24) (T.noat 27) (de_var 0)) (da_cons (de_var 1) da_nil)) (da_cons (de_var 2) da_nil))) (dg_name 3 sc.nd))
  (dss_one (ds_ret (de_tup (da_cons (de_callB b_sum (T.free 30) bt_sum (da_cons (de_var 3) da_nil)) (da_cons (de_callB b_max (T.free 11) bt_max (da_cons (de_var 3) da_nil)) da_nil)))))) dss_nil)
  (dss_cons (ds_asg [4, 5] (de_tup (da_cons de_int (da_cons de_int da_nil))) (dg_tup 2 (dgs_cons (Plain.of E) (dg_name 4 sc.nd) (dgs_cons (Plain.of E) (dg_name 5 sc.nd) dgs_nil))) (hw := by (intro env h; cases env; cases h; rfl)))
  (dss_cons (ds_for [6] (di_seq (de_meth h3.1 (T.cls 7) (T.meth 31) h3.2.2.1 (de_fld (T.cls 24) (T.noat 27) (de_var 0)) (da_cons (de_var 1) da_nil))) (dg_name 6 sc.nd)
  (dss_one (ds_if (dt_cmp op_eqD' (de_fld (T.cls 0) (T.noat 32) (de_ix (de_var 6) de_int)) de_str) (dss_cons (ds_lc 7 [("clause", 8)] sc.nd (show blkC N_Counter_found (defScope s_Counter_found) _ _ = true by decide +kernel) (di_seq (de_var 6)) (dg_name 8 sc.nd) dts_nil (de_methJ (h0 := hJ) (hr := Nat.le_refl _) h4.1 (T.cls 24) (T.meth 33) h4.2.2.1 (de_var 0) (da_cons (de_fld (T.cls 0) (T.noat 34) (de_var 8)) (da_cons (de_call h5.1 (T.glo 6) h5.2.1 h5.2.2.1 (da_cons (de_var 8) (da_cons de_int (da_cons (de_var 2) da_nil)))) da_nil))))
  (dss_cons (ds_aug 4 sc.nd (de_callB b_sum (T.free 30) bt_sum (da_cons (de_lc [("pair", 9)] sc.nd (show blkC N_Counter_found (defScope s_Counter_found) _ _ = true by decide +kernel) (di_seq (de_var 7)) (dg_name 9 sc.nd) dts_nil (de_ix (de_var 9) de_int)) da_nil)))
  (dss_one (ds_aug 5 sc.nd (de_callB b_max (T.free 11) bt_max (da_cons (de_lc [("pair", 9)] sc.nd (show blkC N_Counter_found (defScope s_Counter_found) _ _ = true by decide +kernel) (di_seq (de_var 7)) (dg_name 9 sc.nd) dts_nil (de_ix (de_var 9) de_int)) da_nil)))))) (dss_cons (ds_aug 4 sc.nd (de_callB b_sum (T.free 30) bt_sum (da_cons (de_lc [("clause", 8)] sc.nd (show blkC N_Counter_found (defScope s_Counter_found) _ _ = true by decide +kernel) (di_seq (de_var 6)) (dg_name 8 sc.nd) (dts_one (dt_cmp op_eqD' (de_fld (T.cls 0) (T.noat 32) (de_var 8)) de_str)) (de_call h6.1 (T.glo 35) h6.2.1 h6.2.2.1 (da_cons (de_var 8) (da_cons (de_var 2) da_nil)))) da_nil)))
  (dss_one (ds_aug 5 sc.nd de_int))))))
  (dss_one (ds_ret (de_tup (da_cons (de_var 4) (da_cons (de_var 5) da_nil))))))))
theorem grp_0 {b : Base} (T : Tx tl b) : ∀ n : Nat, (∃ fd, FnJ b false (12 + n) (He.ma b.K (He.ga b.K "Counter") "both") fd P_Counter_both (G_0 n).1 ∧ PySem.W.keepIn b.K (.ref (He.ma b.K (He.ga b.K "Counter") "both")) = true ∧ Binds b.K fd P_Counter_both [] ∧ FunD b.K "both" "Counter.both" (defArgs s_Counter_both) (defBody s_Counter_both) (defScope s_Counter_both) [] [] (He.ma b.K (He.ga b.K "Counter") "both") fd) ∧ (∃ fd, FnJ b false (12 + n) (He.ma b.K (He.ga b.K "Counter") "found") fd P_Counter_found (G_0 n).2 ∧ PySem.W.keepIn b.K (.ref (He.ma b.K (He.ga b.K "Counter") "found")) = true ∧ Binds b.K fd P_Counter_found [] ∧ FunD b.K "found" "Counter.found" (defArgs s_Counter_found) (defBody s_Counter_found) (defScope s_Counter_found) [] [] (He.ma b.K (He.ga b.K "Counter") "found") fd)
  | 0 => ⟨by
      obtain ⟨fd, F, B⟩ := k_Counter_both T
      exact ⟨fd, stuckJ, F.kp, B, F⟩, by
      obtain ⟨fd, F, B⟩ := k_Counter_found T
      exact ⟨fd, stuckJ, F.kp, B, F⟩⟩
  | n + 1 => by
    have ih := grp_0 T n
    exact ⟨by
      obtain ⟨fd, F, B⟩ := k_Counter_both T
      have q := fnJ_ok false F sc_Counter_both (show 3 * 4 ≤ 12 + n from Nat.le_add_right _ _) (fun E => e_Counter_both T (m := 12 + n) (Nat.le_add_right _ _) (G_0 n).1 (G_0 n).2 ih.1 ih.2 E)
      exact ⟨fd, q, F.kp, B, F⟩, by
      obtain ⟨fd, F, B⟩ := k_Counter_found T
      have q := fnJ_ok false F sc_Counter_found (show 3 * 4 ≤ 12 + n from Nat.le_add_right _ _) (fun E => e_Counter_found T (m := 12 + n) (Nat.le_add_right _ _) (G_0 n).1 (G_0 n).2 ih.1 ih.2 E)
      exact ⟨fd, q, F.kp, B, F⟩⟩
theorem ok_Counter_both {b : Base} (T : Tx tl b) : ∃ fd, b.Ok 99 (He.ma b.K (He.ga b.K "Counter") "both") fd P_Counter_both F_Counter_both ∧ PySem.W.keepIn b.K (.ref (He.ma b.K (He.ga b.K "Counter") "both")) = true ∧ Binds b.K fd P_Counter_both [] ∧ FunD b.K "both" "Counter.both" (defArgs s_Counter_both) (defBody s_Counter_both) (defScope s_Counter_both) [] [] (He.ma b.K (He.ga b.K "Counter") "both") fd := by
  obtain ⟨fd, h, h2⟩ := (grp_0 T 250).1
  exact ⟨fd, h.ok (show 12 + 250 ≤ 3 * 99 by decide) (show 6 * (12 + 250) ≤ 16 * 99 by decide), h2⟩
theorem sc_Counter_D_initD_ : FnScope N_Counter_D_initD_ P_Counter_D_initD_ (defScope s_Counter_D_initD_) := ⟨rfl, rfl, rfl, by decide +kernel, rfl, by decide +kernel, by decide +kernel⟩
theorem k_Counter_D_initD_ {b : Base} (T : Tx tl b) : ∃ fd, FunD b.K "__init__" "Counter.__init__" (defArgs s_Counter_D_initD_) (defBody s_Counter_D_initD_) (defScope s_Counter_D_initD_) [] [] (He.ma b.K (He.ga b.K "Counter") "__init__") fd ∧ Binds b.K fd P_Counter_D_initD_ [] := by
  obtain ⟨fd, F⟩ := T.s.c.def_ 12 (d := d_Counter_D_initD_) rfl
  exact ⟨fd, F, F.bindsN fun _ _ _ _ _ _ us hl => match us, hl with | [_, _], _ => rfl⟩
theorem ok_Counter_D_initD_ {b : Base} (T : Tx tl b) : ∃ fd, FnOk b.P b.w b.K b.mg b.base (L2.CX b.P b.w) 1 (He.ma b.K (He.ga b.K "Counter") "__init__") fd P_Counter_D_initD_ (spN b.K 2 "Counter" "known" 2 B_Counter_D_initD_ V_Counter_D_initD_) ∧ PySem.W.keepIn b.K (.ref (He.ma b.K (He.ga b.K "Counter") "__init__")) = true ∧ Binds b.K fd P_Counter_D_initD_ [] ∧ FunD b.K "__init__" "Counter.__init__" (defArgs s_Counter_D_initD_) (defBody s_Counter_D_initD_) (defScope s_Counter_D_initD_) [] [] (He.ma b.K (He.ga b.K "Counter") "__init__") fd := by
  have sc := sc_Counter_D_initD_
  obtain ⟨fd, F, B⟩ := k_Counter_D_initD_ T
  exact ⟨fd, fn_okN (T.cls 24) (T.noat 25) F sc (fun E => (ds_fld (T.cls 24) (T.noat 27) (de_var 0) (de_var 1))) (fun E => de_newT), F.kp, B, F⟩
theorem sc_check_size : FnScope N_check_size P_check_size (defScope s_check_size) := ⟨rfl, rfl, rfl, by decide +kernel, rfl, by decide +kernel, by decide +kernel⟩
theorem k_check_size {b : Base} (T : Tx tl b) : ∃ fd, FunD b.K "check_size" "check_size" (defArgs s_check_size) (defBody s_check_size) (defScope s_check_size) [] [] (He.ga b.K "check_size") fd ∧ Binds b.K fd P_check_size [] := by
  obtain ⟨fd, F⟩ := T.s.c.def_ 13 (d := d_check_size) rfl
  exact ⟨fd, F, F.bindsN fun _ _ _ _ _ _ us hl => match us, hl with | [_, _], _ => rfl⟩
set_option maxHeartbeats 4000000 in
theorem e_check_size {b : Base} (T : Tx tl b) (E : XK) : DSs (b.at N_check_size (defScope s_check_size) 2 false) (wOf E) (defBody s_check_size) B_check_size := by
  obtain ⟨fdh0, h0⟩ := ok_is_between T
  have sc := sc_check_size
  exact (dss_one (ds_if (dt_not (dt_val (de_call h0.1 (T.glo 20) h0.2.1 h0.2.2.1 (da_cons (de_var 0) (da_cons de_int (da_cons (de_var 1) da_nil)))))) (dss_one ds_never) dss_nil))
theorem ok_check_size {b : Base} (T : Tx tl b) : ∃ fd, b.Ok 3 (He.ga b.K "check_size") fd P_check_size F_check_size ∧ PySem.W.keepIn b.K (.ref (He.ga b.K "check_size")) = true ∧ Binds b.K fd P_check_size [] ∧ FunD b.K "check_size" "check_size" (defArgs s_check_size) (defBody s_check_size) (defScope s_check_size) [] [] (He.ga b.K "check_size") fd := by
  obtain ⟨fd, F, B⟩ := k_check_size T
  exact ⟨fd, fn_ok false F sc_check_size (fun E => e_check_size T E), F.kp, B, F⟩
theorem sc_check_plan : FnScope N_check_plan P_check_plan (defScope s_check_plan) := ⟨rfl, rfl, rfl, by decide +kernel, rfl, by decide +kernel, by decide +kernel⟩
theorem k_check_plan {b : Base} (T : Tx tl b) : ∃ fd, FunD b.K "check_plan" "check_plan" (defArgs s_check_plan) (defBody s_check_plan) (defScope s_check_plan) [] [] (He.ga b.K "check_plan") fd ∧ Binds b.K fd P_check_plan [] := by
  obtain ⟨fd, F⟩ := T.s.c.def_ 14 (d := d_check_plan) rfl
  exact ⟨fd, F, F.bindsN fun _ _ _ _ _ _ us hl => match us, hl with | [_, _], _ => rfl⟩
set_option maxHeartbeats 4000000 in
theorem e_check_plan {b : Base} (T : Tx tl b) (E : XK) : DSs (b.at N_check_plan (defScope s_check_plan) 1 false) (wOf E) (defBody s_check_plan) B_check_plan := by
  obtain ⟨fdh0, h0⟩ := ok_Book_plan T
  have sc := sc_check_plan
  exact (dss_one (ds_expr (de_meth h0.1 (T.cls 7) (T.meth 22) h0.2.2.1 (de_var 0) (da_cons (de_var 1) da_nil))))
theorem ok_check_plan {b : Base} (T : Tx tl b) : ∃ fd, b.Ok 2 (He.ga b.K "check_plan") fd P_check_plan F_check_plan ∧ PySem.W.keepIn b.K (.ref (He.ga b.K "check_plan")) = true ∧ Binds b.K fd P_check_plan [] ∧ FunD b.K "check_plan" "check_plan" (defArgs s_check_plan) (defBody s_check_plan) (defScope s_check_plan) [] [] (He.ga b.K "check_plan") fd := by
  obtain ⟨fd, F, B⟩ := k_check_plan T
  exact ⟨fd, fn_ok false F sc_check_plan (fun E => e_check_plan T E), F.kp, B, F⟩
theorem sc_check_book : FnScope N_check_book P_check_book (defScope s_check_book) := ⟨rfl, rfl, rfl, by decide +kernel, rfl, by decide +kernel, by decide +kernel⟩
theorem k_check_book {b : Base} (T : Tx tl b) : ∃ fd, FunD b.K "check_book" "check_book" (defArgs s_check_book) (defBody s_check_book) (defScope s_check_book) [] [] (He.ga b.K "check_book") fd ∧ Binds b.K fd P_check_book [] := by
  obtain ⟨fd, F⟩ := T.s.c.def_ 15 (d := d_check_book) rfl
  exact ⟨fd, F, F.bindsN fun _ _ _ _ _ _ us hl => match us, hl with | [_], _ => rfl⟩
set_option maxHeartbeats 4000000 in
theorem e_check_book {b : Base} (T : Tx tl b) (E : XK) : DSs (b.at N_check_book (defScope s_check_book) 0 false) (wOf E) (defBody s_check_book) B_check_book := by
  have sc := sc_check_book
  exact (dss_one (ds_if (dt_not (dt_val (de_callB (b_isi T.s.isi) (T.free 12) bt_isinstance (da_cons (de_var 0) (da_cons (de_glo (T.glo 36)) da_nil))))) (dss_one ds_never) dss_nil))
theorem ok_check_book {b : Base} (T : Tx tl b) : ∃ fd, b.Ok 1 (He.ga b.K "check_book") fd P_check_book F_check_book ∧ PySem.W.keepIn b.K (.ref (He.ga b.K "check_book")) = true ∧ Binds b.K fd P_check_book [] ∧ FunD b.K "check_book" "check_book" (defArgs s_check_book) (defBody s_check_book) (defScope s_check_book) [] [] (He.ga b.K "check_book") fd := by
  obtain ⟨fd, F, B⟩ := k_check_book T
  exact ⟨fd, fn_ok false F sc_check_book (fun E => e_check_book T E), F.kp, B, F⟩
theorem sc_rounds : FnScope N_rounds P_rounds (defScope s_rounds) := ⟨rfl, rfl, rfl, by decide +kernel, rfl, by decide +kernel, by decide +kernel⟩
theorem k_rounds {b : Base} (T : Tx tl b) : ∃ fd, FunD b.K "rounds" "rounds" (defArgs s_rounds) (defBody s_rounds) (defScope s_rounds) [] [] (He.ga b.K "rounds") fd ∧ Binds b.K fd P_rounds [] := by
  obtain ⟨fd, F⟩ := T.s.c.def_ 16 (d := d_rounds) rfl
  exact ⟨fd, F, F.bindsN fun _ _ _ _ _ _ us hl => match us, hl with | [_, _, _], _ => rfl⟩
set_option maxHeartbeats 4000000 in
theorem e_rounds {b : Base} (T : Tx tl b) (E : XK) : DSs (b.at N_rounds (defScope s_rounds) 99 false) (wOf E) (defBody s_rounds) B_rounds := by
  obtain ⟨fdh0, h0⟩ := ok_check_book T
  obtain ⟨fdh1, h1⟩ := ok_check_plan T
  obtain ⟨fdh2, h2⟩ := ok_check_size T
  obtain ⟨fdh3, h3⟩ := ok_Counter_both T
  obtain ⟨fdh4, h4⟩ := ok_Counter_D_initD_ T
  have sc := sc_rounds
  exact (dss_cons (ds_expr (de_call h0.1 (T.glo 37) h0.2.1 h0.2.2.1 (da_cons (de_var 0) da_nil)))
  (dss_cons (ds_expr (de_call h1.1 (T.glo 38) h1.2.1 h1.2.2.1 (da_cons (de_var 0) (da_cons (de_var 1) da_nil))))
  (dss_cons (ds_expr (de_call h2.1 (T.glo 40) h2.2.1 h2.2.2.1 (da_cons (de_var 2) (da_cons (de_gint (T.int 39)) da_nil))))
  (dss_one (ds_ret (de_ix (de_meth h3.1 (T.cls 24) (T.meth 33) h3.2.2.1 (de_makeE h4.1 (T.mkr 41) (T.glo 42) h4.2.2.1 (da_cons (de_var 0) da_nil)) (da_cons (de_var 1) (da_cons (de_var 2) da_nil))) de_int))))))
theorem ok_rounds {b : Base} (T : Tx tl b) : ∃ fd, b.Ok 100 (He.ga b.K "rounds") fd P_rounds F_rounds ∧ PySem.W.keepIn b.K (.ref (He.ga b.K "rounds")) = true ∧ Binds b.K fd P_rounds [] ∧ FunD b.K "rounds" "rounds" (defArgs s_rounds) (defBody s_rounds) (defScope s_rounds) [] [] (He.ga b.K "rounds") fd := by
  obtain ⟨fd, F, B⟩ := k_rounds T
  exact ⟨fd, fn_ok false F sc_rounds (fun E => e_rounds T E), F.kp, B, F⟩
theorem sc_joins : FnScope N_joins P_joins (defScope s_joins) := ⟨rfl, rfl, rfl, by decide +kernel, rfl, by decide +kernel, by decide +kernel⟩
theorem k_joins {b : Base} (T : Tx tl b) : ∃ fd, FunD b.K "joins" "joins" (defArgs s_joins) (defBody s_joins) (defScope s_joins) [] [] (He.ga b.K "joins") fd ∧ Binds b.K fd P_joins [] := by
  obtain ⟨fd, F⟩ := T.s.c.def_ 17 (d := d_joins) rfl
  exact ⟨fd, F, F.bindsN fun _ _ _ _ _ _ us hl => match us, hl with | [_, _, _], _ => rfl⟩
set_option maxHeartbeats 4000000 in
theorem e_joins {b : Base} (T : Tx tl b) (E : XK) : DSs (b.at N_joins (defScope s_joins) 99 false) (wOf E) (defBody s_joins) B_joins := by
  obtain ⟨fdh0, h0⟩ := ok_check_book T
  obtain ⟨fdh1, h1⟩ := ok_check_plan T
  obtain ⟨fdh2, h2⟩ := ok_check_size T
  obtain ⟨fdh3, h3⟩ := ok_Counter_both T
  obtain ⟨fdh4, h4⟩ := ok_Counter_D_initD_ T
  have sc := sc_joins
  exact (dss_cons (ds_expr (de_call h0.1 (T.glo 37) h0.2.1 h0.2.2.1 (da_cons (de_var 0) da_nil)))
  (dss_cons (ds_expr (de_call h1.1 (T.glo 38) h1.2.1 h1.2.2.1 (da_cons (de_var 0) (da_cons (de_var 1) da_nil))))
  (dss_cons (ds_expr (de_call h2.1 (T.glo 40) h2.2.1 h2.2.2.1 (da_cons (de_var 2) (da_cons (de_gint (T.int 39)) da_nil))))
  (dss_one (ds_ret (de_ix (de_meth h3.1 (T.cls 24) (T.meth 33) h3.2.2.1 (de_makeE h4.1 (T.mkr 41) (T.glo 42) h4.2.2.1 (da_cons (de_var 0) da_nil)) (da_cons (de_var 1) (da_cons (de_var 2) da_nil))) de_int))))))
theorem ok_joins {b : Base} (T : Tx tl b) : ∃ fd, b.Ok 100 (He.ga b.K "joins") fd P_joins F_joins ∧ PySem.W.keepIn b.K (.ref (He.ga b.K "joins")) = true ∧ Binds b.K fd P_joins [] ∧ FunD b.K "joins" "joins" (defArgs s_joins) (defBody s_joins) (defScope s_joins) [] [] (He.ga b.K "joins") fd := by
  obtain ⟨fd, F, B⟩ := k_joins T
  exact ⟨fd, fn_ok false F sc_joins (fun E => e_joins T E), F.kp, B, F⟩
theorem sc__law_below : FnScope N__law_below P__law_below (defScope s__law_below) := ⟨rfl, rfl, rfl, by decide +kernel, rfl, by decide +kernel, by decide +kernel⟩
theorem k__law_below {b : Base} (T : Tx tl b) : ∃ fd, FunD b.K "_law_below" "_law_below" (defArgs s__law_below) (defBody s__law_below) (defScope s__law_below) [] [] (He.ga b.K "_law_below") fd ∧ Binds b.K fd P__law_below [] := by
  obtain ⟨fd, F⟩ := T.s.c.def_ 18 (d := d__law_below) rfl
  exact ⟨fd, F, F.bindsN fun _ _ _ _ _ _ us hl => match us, hl with | [_, _, _], _ => rfl⟩
set_option maxHeartbeats 4000000 in
theorem e__law_below {b : Base} (T : Tx tl b) (E : XK) : DSs (b.at N__law_below (defScope s__law_below) 0 true) (wOf E) (defBody s__law_below) B__law_below := by
  have sc := sc__law_below
  exact (dss_one (ds_ret (de_if (dt_cmp op_leD (de_var 2) (de_var 0)) de_int (de_op op_addD de_int (de_op op_divD (de_op op_subD (de_op op_subD (de_var 2) (de_var 0)) de_int) (de_var 1))))))
theorem ok__law_below {b : Base} (T : Tx tl b) : ∃ fd, FnG b 1 (He.ga b.K "_law_below") fd P__law_below F__law_below ∧ PySem.W.keepIn b.K (.ref (He.ga b.K "_law_below")) = true ∧ Binds b.K fd P__law_below [] ∧ True := by
  obtain ⟨fd, F, B⟩ := k__law_below T
  exact ⟨fd, fnG_ok false F sc__law_below (fun E => e__law_below T E), F.kp, B, trivial⟩
theorem sc__law_due : FnScope N__law_due P__law_due (defScope s__law_due) := ⟨rfl, rfl, rfl, by decide +kernel, rfl, by decide +kernel, by decide +kernel⟩
theorem k__law_due {b : Base} (T : Tx tl b) : ∃ fd, FunD b.K "_law_due" "_law_due" (defArgs s__law_due) (defBody s__law_due) (defScope s__law_due) [] [] (He.ga b.K "_law_due") fd ∧ Binds b.K fd P__law_due [] := by
  obtain ⟨fd, F⟩ := T.s.c.def_ 19 (d := d__law_due) rfl
  exact ⟨fd, F, F.bindsN fun _ _ _ _ _ _ us hl => match us, hl with | [_, _], _ => rfl⟩
set_option maxHeartbeats 4000000 in
theorem e__law_due {b : Base} (T : Tx tl b) (E : XK) : DSs (b.at N__law_due (defScope s__law_due) 0 true) (wOf E) (defBody s__law_due) B__law_due := by
  have sc := sc__law_due
  exact (dss_cons (ds_if (dt_cmp op_eqD' (de_ix (de_var 0) de_int) de_str) (dss_one (ds_ret (de_tupR2 (T.free 43) (T.free 9) (de_callB b_max (T.free 11) bt_max (da_cons de_int (da_cons (de_op op_subD (de_op op_addD (de_var 1) de_int) (de_ix (de_var 0) de_int)) da_nil))) (de_op op_addD (de_var 1) de_int)))) dss_nil)
  (dss_one (ds_ret (de_tupR1 (T.free 43) (T.free 9) (de_if (dt_cmp op_eqD' (de_ix (de_var 0) de_int) de_str) (de_op op_addD (de_var 1) de_int) (de_var 1))))))
theorem ok__law_due {b : Base} (T : Tx tl b) : ∃ fd, FnG b 1 (He.ga b.K "_law_due") fd P__law_due F__law_due ∧ PySem.W.keepIn b.K (.ref (He.ga b.K "_law_due")) = true ∧ Binds b.K fd P__law_due [] ∧ True := by
  obtain ⟨fd, F, B⟩ := k__law_due T
  exact ⟨fd, fnG_ok false F sc__law_due (fun E => e__law_due T E), F.kp, B, trivial⟩
theorem sc__law_plain : FnScope N__law_plain P__law_plain (defScope s__law_plain) := ⟨rfl, rfl, rfl, by decide +kernel, rfl, by decide +kernel, by decide +kernel⟩
theorem k__law_plain {b : Base} (T : Tx tl b) : ∃ fd, FunD b.K "_law_plain" "_law_plain" (defArgs s__law_plain) (defBody s__law_plain) (defScope s__law_plain) [] [] (He.ga b.K "_law_plain") fd ∧ Binds b.K fd P__law_plain [] := by
  obtain ⟨fd, F⟩ := T.s.c.def_ 20 (d := d__law_plain) rfl
  exact ⟨fd, F, F.bindsN fun _ _ _ _ _ _ us hl => match us, hl with | [_, _], _ => rfl⟩
set_option maxHeartbeats 4000000 in
theorem e__law_plain {b : Base} (T : Tx tl b) (E : XK) : DSs (b.at N__law_plain (defScope s__law_plain) 1 true) (wOf E) (defBody s__law_plain) B__law_plain := by
  obtain ⟨fdh0, h0⟩ := ok__law_due T
  have sc := sc__law_plain
  exact (dss_cons (ds_lc 2 [("_law_k", 3)] sc.nd (show blkC N__law_plain (defScope s__law_plain) _ _ = true by decide +kernel) (di_range1 (T.free 9) (da_cons (de_var 1) da_nil)) (dg_name 3 sc.nd) dts_nil (de_callB b_max (T.free 11) bt_max (da_cons de_int (da_cons (de_op op_subD (de_callB b_len (T.free 15) bt_len (da_cons (de_callG h0.1 (T.glo 44) h0.2.1 h0.2.2.1 (da_cons (de_var 0) (da_cons (de_var 3) da_nil))) da_nil)) de_int) da_nil))))
  (dss_one (ds_ret (de_tup (da_cons (de_callB b_sum (T.free 30) bt_sum (da_cons (de_var 2) da_nil)) (da_cons (de_callB b_max (T.free 11) bt_max (da_cons (de_var 2) da_nil)) da_nil))))))
theorem ok__law_plain {b : Base} (T : Tx tl b) : ∃ fd, FnG b 2 (He.ga b.K "_law_plain") fd P__law_plain F__law_plain ∧ PySem.W.keepIn b.K (.ref (He.ga b.K "_law_plain")) = true ∧ Binds b.K fd P__law_plain [] ∧ True := by
  obtain ⟨fd, F, B⟩ := k__law_plain T
  exact ⟨fd, fnG_ok false F sc__law_plain (fun E => e__law_plain T E), F.kp, B, trivial⟩
theorem sc__law_spent : FnScope N__law_spent P__law_spent (defScope s__law_spent) := ⟨rfl, rfl, rfl, by decide +kernel, rfl, by decide +kernel, by decide +kernel⟩
theorem k__law_spent {b : Base} (T : Tx tl b) : ∃ fd, FunD b.K "_law_spent" "_law_spent" (defArgs s__law_spent) (defBody s__law_spent) (defScope s__law_spent) [] [] (He.ga b.K "_law_spent") fd ∧ Binds b.K fd P__law_spent [] := by
  obtain ⟨fd, F⟩ := T.s.c.def_ 21 (d := d__law_spent) rfl
  exact ⟨fd, F, F.bindsN fun _ _ _ _ _ _ us hl => match us, hl with | [_, _, _, _], _ => rfl⟩
set_option maxHeartbeats 4000000 in
theorem e__law_spent {b : Base} (T : Tx tl b) {m : Nat} (hm : 6 ≤ m) (F__law_spent F__law_clause_spent : Fn) (g__law_spent : ∃ fd, FnJ b true m (He.ga b.K "_law_spent") fd P__law_spent F__law_spent ∧ PySem.W.keepIn b.K (.ref (He.ga b.K "_law_spent")) = true ∧ Binds b.K fd P__law_spent [] ∧ True) (g__law_clause_spent : ∃ fd, FnJ b true m (He.ga b.K "_law_clause_spent") fd P__law_clause_spent F__law_clause_spent ∧ PySem.W.keepIn b.K (.ref (He.ga b.K "_law_clause_spent")) = true ∧ Binds b.K fd P__law_clause_spent [] ∧ True) (E : XK) : DSs (b.atJ N__law_spent (defScope s__law_spent) 2 true m) (wOf E) (defBody s__law_spent) (B__law_spent F__law_spent F__law_clause_spent) := by
  obtain ⟨fdh0, h0⟩ := ok__law_plain T
  obtain ⟨fdh1, h1⟩ := g__law_clause_spent
  have sc := sc__law_spent
  have hJ : 0 < m := Nat.lt_of_lt_of_le (by decide) hm
  exact (dss_cons (ds_asg [4] (de_ix (de_lc [("_law_plan_here", 4)] sc.nd (show blkC N__law_spent (defScope s__law_spent) _ _ = true by decide +kernel) (di_seq (de_var 0)) (dg_name 4 sc.nd) (dts_one (dt_cmp op_eqD' (de_ix (de_var 4) de_int) (de_var 2))) (de_var 4)) de_int) (dg_name 4 sc.nd))
  (dss_cons (ds_if (dt_cmp op_leD (de_var 3) (de_ix (de_var 4) de_int)) (dss_one (ds_ret (de_callG h0.1 (T.glo 45) h0.2.1 h0.2.2.1 (da_cons (de_ix (de_var 4) de_int) (da_cons (de_var 3) da_nil))))) dss_nil)
  (dss_cons (ds_if (dt_ninK (da_cons (de_var 2) (da_cons (de_var 3) da_nil)) (de_var 1)) (dss_cons (ds_asg [5, 6] (de_tup (da_cons de_int (da_cons de_int da_nil))) (dg_tup 2 (dgs_cons (Plain.of E) (dg_name 5 sc.nd) (dgs_cons (Plain.of E) (dg_name 6 sc.nd) dgs_nil))) (hw := by (intro env h; cases env; cases h; rfl)))
  (dss_cons (ds_for [7] (di_seq (de_ix (de_var 4) de_int)) (dg_name 7 sc.nd)
  (dss_cons (ds_lc 8 [("_law_clause_here", 9)] sc.nd (show blkC N__law_spent (defScope s__law_spent) _ _ = true by decide +kernel) (di_seq (de_var 7)) (dg_name 9 sc.nd) dts_nil (de_callJ (h0 := hJ) (hr := Nat.le_refl _) h1.1 (T.glo 46) h1.2.1 h1.2.2.1 (da_cons (de_var 0) (da_cons (de_var 1) (da_cons (de_var 9) (da_cons (de_var 3) da_nil))))))
  (dss_cons (ds_asg [5] (de_op op_addD (de_var 5) (de_callB b_sum (T.free 30) bt_sum (da_cons (de_lc [("_law_part", 10)] sc.nd (show blkC N__law_spent (defScope s__law_spent) _ _ = true by decide +kernel) (di_seq (de_var 8)) (dg_name 10 sc.nd) dts_nil (de_ix (de_var 10) de_int)) da_nil))) (dg_name 5 sc.nd))
  (dss_one (ds_asg [6] (de_op op_addD (de_var 6) (de_callB b_max (T.free 11) bt_max (da_cons (de_lc [("_law_part", 10)] sc.nd (show blkC N__law_spent (defScope s__law_spent) _ _ = true by decide +kernel) (di_seq (de_var 8)) (dg_name 10 sc.nd) dts_nil (de_ix (de_var 10) de_int)) da_nil))) (dg_name 6 sc.nd))))))
  (dss_one (ds_putK (de_var 1) (da_cons (de_var 2) (da_cons (de_var 3) da_nil)) (de_tup (da_cons (de_var 5) (da_cons (de_var 6) da_nil))))))) dss_nil)
  (dss_one (ds_ret (de_getK (de_var 1) (da_cons (de_var 2) (da_cons (de_var 3) da_nil))))))))
theorem sc__law_clause_spent : FnScope N__law_clause_spent P__law_clause_spent (defScope s__law_clause_spent) := ⟨rfl, rfl, rfl, by decide +kernel, rfl, by decide +kernel, by decide +kernel⟩
theorem k__law_clause_spent {b : Base} (T : Tx tl b) : ∃ fd, FunD b.K "_law_clause_spent" "_law_clause_spent" (defArgs s__law_clause_spent) (defBody s__law_clause_spent) (defScope s__law_clause_spent) [] [] (He.ga b.K "_law_clause_spent") fd ∧ Binds b.K fd P__law_clause_spent [] := by
  obtain ⟨fd, F⟩ := T.s.c.def_ 22 (d := d__law_clause_spent) rfl
  exact ⟨fd, F, F.bindsN fun _ _ _ _ _ _ us hl => match us, hl with | [_, _, _, _], _ => rfl⟩
set_option maxHeartbeats 4000000 in
theorem e__law_clause_spent {b : Base} (T : Tx tl b) {m : Nat} (hm : 6 ≤ m) (F__law_spent F__law_clause_spent : Fn) (g__law_spent : ∃ fd, FnJ b true m (He.ga b.K "_law_spent") fd P__law_spent F__law_spent ∧ PySem.W.keepIn b.K (.ref (He.ga b.K "_law_spent")) = true ∧ Binds b.K fd P__law_spent [] ∧ True) (g__law_clause_spent : ∃ fd, FnJ b true m (He.ga b.K "_law_clause_spent") fd P__law_clause_spent F__law_clause_spent ∧ PySem.W.keepIn b.K (.ref (He.ga b.K "_law_clause_spent")) = true ∧ Binds b.K fd P__law_clause_spent [] ∧ True) (E : XK) : DSs (b.atJ N__law_clause_spent (defScope s__law_clause_spent) 2 true m) (wOf E) (defBody s__law_clause_spent) (B__law_clause_spent F__law_spent F__law_clause_spent) := by
  obtain ⟨fdh0, h0⟩ := ok__law_below T
  obtain ⟨fdh1, h1⟩ := g__law_spent
  have sc := sc__law_clause_spent
  have hJ : 0 < m := Nat.lt_of_lt_of_le (by decide) hm
  exact (dss_cons (ds_asg [4, 5, 6, 7, 8, 9] (de_var 2) (dg_tup 6 (dgs_cons (Plain.of E) (dg_name 4 sc.nd) (dgs_cons (Plain.of E) (dg_name 5 sc.nd) (dgs_cons (Plain.of E) (dg_name 6 sc.nd) (dgs_cons (Plain.of E) (dg_name 7 sc.nd) (dgs_cons (Plain.of E) (dg_name 8 sc.nd) (dgs_cons (Plain.of E) (dg_name 9 sc.nd) dgs_nil))))))))
  (dss_cons (ds_if (dt_cmp op_eqD' (de_var 4) de_str) (dss_cons (ds_asg [10] (de_callG h0.1 (T.glo 47) h0.2.1 h0.2.2.1 (da_cons (de_var 5) (da_cons (de_var 6) (da_cons (de_var 3) da_nil)))) (dg_name 10 sc.nd))
  (dss_one (ds_ret (de_if (dt_cmp op_eqD' (de_var 10) de_int) (de_tup (da_cons de_int (da_cons de_int da_nil))) (de_callJ (h0 := hJ) (hr := Nat.le_refl _) h1.1 (T.glo 48) h1.2.1 h1.2.2.1 (da_cons (de_var 0) (da_cons (de_var 1) (da_cons (de_var 9) (da_cons (de_var 10) da_nil))))))))) dss_nil)
  (dss_cons (ds_if (dt_cmp op_neD' (de_var 4) de_str) (dss_one (ds_ret (de_tup (da_cons de_int (da_cons de_int da_nil))))) dss_nil)
  (dss_cons (ds_if (dt_cmp op_eqD' (de_var 7) de_str) (dss_one (ds_ret (de_tup (da_cons (de_op op_subD (de_callG h0.1 (T.glo 47) h0.2.1 h0.2.2.1 (da_cons (de_var 5) (da_cons (de_var 6) (da_cons (de_var 3) da_nil)))) (de_callG h0.1 (T.glo 47) h0.2.1 h0.2.2.1 (da_cons (de_var 5) (da_cons (de_var 6) (da_cons (de_callB b_min (T.free 10) bt_min (da_cons (de_var 8) (da_cons (de_var 3) da_nil))) da_nil))))) (da_cons de_int da_nil))))) dss_nil)
  (dss_one (ds_ret (de_tup (da_cons (de_callG h0.1 (T.glo 47) h0.2.1 h0.2.2.1 (da_cons (de_var 5) (da_cons (de_var 6) (da_cons (de_callB b_max (T.free 11) bt_max (da_cons de_int (da_cons (de_op op_subD (de_var 3) (de_var 8)) da_nil))) da_nil)))) (da_cons de_int da_nil)))))))))
theorem grp_1 {b : Base} (T : Tx tl b) : ∀ n : Nat, (∃ fd, FnJ b true (6 + n) (He.ga b.K "_law_spent") fd P__law_spent (G_1 n).1 ∧ PySem.W.keepIn b.K (.ref (He.ga b.K "_law_spent")) = true ∧ Binds b.K fd P__law_spent [] ∧ True) ∧ (∃ fd, FnJ b true (6 + n) (He.ga b.K "_law_clause_spent") fd P__law_clause_spent (G_1 n).2 ∧ PySem.W.keepIn b.K (.ref (He.ga b.K "_law_clause_spent")) = true ∧ Binds b.K fd P__law_clause_spent [] ∧ True)
  | 0 => ⟨by
      obtain ⟨fd, F, B⟩ := k__law_spent T
      exact ⟨fd, stuckJ, F.kp, B, trivial⟩, by
      obtain ⟨fd, F, B⟩ := k__law_clause_spent T
      exact ⟨fd, stuckJ, F.kp, B, trivial⟩⟩
  | n + 1 => by
    have ih := grp_1 T n
    exact ⟨by
      obtain ⟨fd, F, B⟩ := k__law_spent T
      have q := fnJ_ok false F sc__law_spent (show 3 * 2 ≤ 6 + n from Nat.le_add_right _ _) (fun E => e__law_spent T (m := 6 + n) (Nat.le_add_right _ _) (G_1 n).1 (G_1 n).2 ih.1 ih.2 E)
      exact ⟨fd, q, F.kp, B, trivial⟩, by
      obtain ⟨fd, F, B⟩ := k__law_clause_spent T
      have q := fnJ_ok false F sc__law_clause_spent (show 3 * 2 ≤ 6 + n from Nat.le_add_right _ _) (fun E => e__law_clause_spent T (m := 6 + n) (Nat.le_add_right _ _) (G_1 n).1 (G_1 n).2 ih.1 ih.2 E)
      exact ⟨fd, q, F.kp, B, trivial⟩⟩
theorem ok__law_spent {b : Base} (T : Tx tl b) : ∃ fd, FnG b 96 (He.ga b.K "_law_spent") fd P__law_spent F__law_spent ∧ PySem.W.keepIn b.K (.ref (He.ga b.K "_law_spent")) = true ∧ Binds b.K fd P__law_spent [] ∧ True := by
  obtain ⟨fd, h, h2⟩ := (grp_1 T 250).1
  exact ⟨fd, h.okG (show 6 + 250 ≤ 3 * 96 by decide) (show 6 * (6 + 250) ≤ 16 * 96 by decide), h2⟩
theorem sc__law_sip : FnScope N__law_sip P__law_sip (defScope s__law_sip) := ⟨rfl, rfl, rfl, by decide +kernel, rfl, by decide +kernel, by decide +kernel⟩
theorem k__law_sip {b : Base} (T : Tx tl b) : ∃ fd, FunD b.K "_law_sip" "_law_sip" (defArgs s__law_sip) (defBody s__law_sip) (defScope s__law_sip) [] [] (He.ga b.K "_law_sip") fd ∧ Binds b.K fd P__law_sip [] := by
  obtain ⟨fd, F⟩ := T.s.c.def_ 23 (d := d__law_sip) rfl
  exact ⟨fd, F, F.bindsN fun _ _ _ _ _ _ us hl => match us, hl with | [_, _], _ => rfl⟩
set_option maxHeartbeats 4000000 in
theorem e__law_sip {b : Base} (T : Tx tl b) (E : XK) : DSs (b.at N__law_sip (defScope s__law_sip) 0 true) (wOf E) (defBody s__law_sip) B__law_sip := by
  have sc := sc__law_sip
  exact (dss_cons (ds_asg [] (de_op op_addD (de_ix (de_var 0) de_int) de_int) (dg_sub (de_var 0) de_int))
  (dss_cons (ds_if (dt_cmp op_gtD (de_ix (de_var 0) de_int) de_int) (dss_cons (ds_asg [2] (de_callB b_divmod (T.free 49) bt_divmod (da_cons (de_ix (de_var 0) de_int) (da_cons (de_var 1) da_nil))) (dg_tup 2 (dgs_cons (Plain.of E) (dg_sub (de_var 0) de_int) (dgs_cons (Plain.of E) (dg_name 2 sc.nd) dgs_nil))))
  (dss_one (ds_ret (de_var 2)))) dss_nil)
  (dss_cons (ds_asg [] (de_op op_modD (de_callT b_int (T.free 2) bt_int (da_cons (de_op op_addD (de_op op_mulD (de_ix (de_var 0) de_int) de_int) (de_op op_mulD de_int (de_ix (de_var 0) de_int))) da_nil)) de_int) (dg_sub (de_var 0) de_int))
  (dss_one (ds_ret (de_op op_modD (de_callT b_int (T.free 2) bt_int (da_cons (de_op op_divD (de_ix (de_var 0) de_int) de_int) da_nil)) (de_var 1)))))))
theorem ok__law_sip {b : Base} (T : Tx tl b) : ∃ fd, FnG b 1 (He.ga b.K "_law_sip") fd P__law_sip F__law_sip ∧ PySem.W.keepIn b.K (.ref (He.ga b.K "_law_sip")) = true ∧ Binds b.K fd P__law_sip [] ∧ True := by
  obtain ⟨fd, F, B⟩ := k__law_sip T
  exact ⟨fd, fnG_ok false F sc__law_sip (fun E => e__law_sip T E), F.kp, B, trivial⟩
theorem sc__law_great : FnScope N__law_great P__law_great (defScope s__law_great) := ⟨rfl, rfl, rfl, by decide +kernel, rfl, by decide +kernel, by decide +kernel⟩
theorem k__law_great {b : Base} (T : Tx tl b) : ∃ fd, FunD b.K "_law_great" "_law_great" (defArgs s__law_great) (defBody s__law_great) (defScope s__law_great) [] [] (He.ga b.K "_law_great") fd ∧ Binds b.K fd P__law_great [] := by
  obtain ⟨fd, F⟩ := T.s.c.def_ 24 (d := d__law_great) rfl
  exact ⟨fd, F, F.bindsN fun _ _ _ _ _ _ us hl => match us, hl with | [_], _ => rfl⟩
set_option maxHeartbeats 4000000 in
theorem e__law_great {b : Base} (T : Tx tl b) (E : XK) : DSs (b.at N__law_great (defScope s__law_great) 1 true) (wOf E) (defBody s__law_great) B__law_great := by
  obtain ⟨fdh0, h0⟩ := ok__law_sip T
  have sc := sc__law_great
  exact (dss_cons (ds_par 1 2 sc.nd (da_cons (de_callG h0.1 (T.glo 50) h0.2.1 h0.2.2.1 (da_cons (de_var 0) (da_cons de_int da_nil))) (da_cons (de_op op_addD de_int (de_callG h0.1 (T.glo 50) h0.2.1 h0.2.2.1 (da_cons (de_var 0) (da_cons de_int da_nil)))) da_nil)))
  (dss_cons (ds_if (dt_cmp op_eqD' (de_var 1) de_int) (dss_one (ds_ret (de_op op_addD (de_callT b_int (T.free 2) bt_int (da_cons (de_op op_mulS de_str (de_op op_addD de_int (de_callG h0.1 (T.glo 50) h0.2.1 h0.2.2.1 (da_cons (de_var 0) (da_cons de_int da_nil))))) da_nil)) (de_callG h0.1 (T.glo 50) h0.2.1 h0.2.2.1 (da_cons (de_var 0) (da_cons de_int da_nil)))))) dss_nil)
  (dss_cons (ds_asg [3] de_int (dg_name 3 sc.nd))
  (dss_cons (ds_for [4] (di_range1 (T.free 9) (da_cons (de_var 2) da_nil)) (dg_name 4 sc.nd)
  (dss_one (ds_asg [3] (de_op op_mulD (de_var 3) (de_op op_addD (de_var 1) de_int)) (dg_name 3 sc.nd))))
  (dss_one (ds_ret (de_op op_addD (de_var 3) (de_callG h0.1 (T.glo 50) h0.2.1 h0.2.2.1 (da_cons (de_var 0) (da_cons de_int da_nil))))))))))
theorem ok__law_great {b : Base} (T : Tx tl b) : ∃ fd, FnG b 2 (He.ga b.K "_law_great") fd P__law_great F__law_great ∧ PySem.W.keepIn b.K (.ref (He.ga b.K "_law_great")) = true ∧ Binds b.K fd P__law_great [] ∧ True := by
  obtain ⟨fd, F, B⟩ := k__law_great T
  exact ⟨fd, fnG_ok false F sc__law_great (fun E => e__law_great T E), F.kp, B, trivial⟩
theorem sc_meet : FnScope N_meet P_meet (defScope s_meet) := ⟨rfl, rfl, rfl, by decide +kernel, rfl, by decide +kernel, by decide +kernel⟩
theorem k_meet {b : Base} (T : Tx tl b) : ∃ fd, FunD b.K "meet" "meet" (defArgs s_meet) (defBody s_meet) (defScope s_meet) [] [] (He.ga b.K "meet") fd ∧ Binds b.K fd P_meet [] := by
  obtain ⟨fd, F⟩ := T.s.c.def_ 25 (d := d_meet) rfl
  exact ⟨fd, F, F.bindsN fun _ _ _ _ _ _ us hl => match us, hl with | [_, _], _ => rfl⟩
set_option maxHeartbeats 4000000 in
theorem e_meet {b : Base} (T : Tx tl b) (E : XK) : DSs (b.at N_meet (defScope s_meet) 0 false) (wOf E) (defBody s_meet) B_meet := by
  have sc := sc_meet
  exact (dss_one (ds_ret (de_or (de_cmp op_neD' (de_fld (T.cls 0) (T.noat 3) (de_var 0)) (de_fld (T.cls 0) (T.noat 3) (de_var 1))) (de_one (de_cmp op_eqD' (de_fld (T.cls 0) (T.noat 1) (de_var 0)) (de_fld (T.cls 0) (T.noat 1) (de_var 1)))))))
theorem ok_meet {b : Base} (T : Tx tl b) : ∃ fd, b.Ok 1 (He.ga b.K "meet") fd P_meet F_meet ∧ PySem.W.keepIn b.K (.ref (He.ga b.K "meet")) = true ∧ Binds b.K fd P_meet [] ∧ FunD b.K "meet" "meet" (defArgs s_meet) (defBody s_meet) (defScope s_meet) [] [] (He.ga b.K "meet") fd := by
  obtain ⟨fd, F, B⟩ := k_meet T
  exact ⟨fd, fn_ok false F sc_meet (fun E => e_meet T E), F.kp, B, F⟩
theorem sc_Clause_D_initD_ : FnScope N_Clause_D_initD_ P_Clause_D_initD_ (defScope s_Clause_D_initD_) := ⟨rfl, rfl, rfl, by decide +kernel, rfl, by decide +kernel, by decide +kernel⟩
theorem k_Clause_D_initD_ {b : Base} (T : Tx tl b) : ∃ fd, FunD b.K "__init__" "Clause.__init__" (defArgs s_Clause_D_initD_) (defBody s_Clause_D_initD_) (defScope s_Clause_D_initD_) [.non, .non, .non] [] (He.ma b.K (He.ga b.K "Clause") "__init__") fd := by
  obtain ⟨fd, F⟩ := T.s.c.def_ 26 (d := d_Clause_D_initD_) rfl
  exact ⟨fd, F⟩
set_option maxHeartbeats 4000000 in
theorem e_Clause_D_initD_ {b : Base} (T : Tx tl b) (E : XK) : DSs (b.at N_Clause_D_initD_ (defScope s_Clause_D_initD_) 0 false) (wOf E) (defBody s_Clause_D_initD_) B_Clause_D_initD_ := by
  have sc := sc_Clause_D_initD_
  exact (dss_cons (ds_fld (T.cls 0) (T.noat 32) (de_var 0) (de_var 1))
  (dss_cons (ds_fld (T.cls 0) (T.noat 1) (de_var 0) (de_var 2))
  (dss_cons (ds_fld (T.cls 0) (T.noat 3) (de_var 0) (de_var 3))
  (dss_cons (ds_fld (T.cls 0) (T.noat 4) (de_var 0) (de_var 4))
  (dss_cons (ds_fld (T.cls 0) (T.noat 5) (de_var 0) (de_var 5))
  (dss_one (ds_fld (T.cls 0) (T.noat 34) (de_var 0) (de_var 6))))))))
theorem ok_Clause_D_initD_ {b : Base} (T : Tx tl b) : ∃ fd, b.Ok 1 (He.ma b.K (He.ga b.K "Clause") "__init__") fd P_Clause_D_initD_ F_Clause_D_initD_ ∧ PySem.W.keepIn b.K (.ref (He.ma b.K (He.ga b.K "Clause") "__init__")) = true ∧ True ∧ FunD b.K "__init__" "Clause.__init__" (defArgs s_Clause_D_initD_) (defBody s_Clause_D_initD_) (defScope s_Clause_D_initD_) [.non, .non, .non] [] (He.ma b.K (He.ga b.K "Clause") "__init__") fd := by
  obtain ⟨fd, F⟩ := k_Clause_D_initD_ T
  exact ⟨fd, fn_ok false F sc_Clause_D_initD_ (fun E => e_Clause_D_initD_ T E), F.kp, trivial, F⟩
theorem kbn_Clause_D_initD__3 {b : Base} (T : Tx tl b) (fd : FuncData) (F : FunD b.K "__init__" "Clause.__init__" (defArgs s_Clause_D_initD_) (defBody s_Clause_D_initD_) (defScope s_Clause_D_initD_) [.non, .non, .non] [] (He.ma b.K (He.ga b.K "Clause") "__init__") fd) : ∃ its : List Value, KBn b.K fd P_Clause_D_initD_ 4 ["goal"] (fun us ws => us ++ (its.take 2 ++ ws)) (fun vs zs => vs ++ (([.non, .non, .non] : List V).take 2 ++ zs)) := F.kbindsD 4 ["goal"] (fun us its ws => us ++ (its.take 2 ++ ws)) (by simp) (fun r1 r2 r3 => r1.append ((r2.take 2).append r3)) (fun T kV doc pm an cdv ct us its ws h1 h2 h3 => by
    match us, its, ws, h1, h2, h3 with
    | [_, _, _, _], [_, _, _], [_], _, _, _ => exact ⟨_, rfl, rfl⟩)
theorem bd_Clause_D_initD__3 {b : Base} (T : Tx tl b) (fd : FuncData) (F : FunD b.K "__init__" "Clause.__init__" (defArgs s_Clause_D_initD_) (defBody s_Clause_D_initD_) (defScope s_Clause_D_initD_) [.non, .non, .non] [] (He.ma b.K (He.ga b.K "Clause") "__init__") fd) : ∃ ds, Vals (([.non, .non, .non] : List V).drop 0) ds ∧ Binds b.K fd P_Clause_D_initD_ ds := F.binds1 4 0 (by simp) rfl (fun T kV doc pm an cdv ct us its h1 h2 => by
    match us, its, h1, h2 with
    | [_, _, _, _], [_, _, _], _, _ => exact ⟨_, rfl, rfl⟩)
theorem bd_Clause_D_initD__5 {b : Base} (T : Tx tl b) (fd : FuncData) (F : FunD b.K "__init__" "Clause.__init__" (defArgs s_Clause_D_initD_) (defBody s_Clause_D_initD_) (defScope s_Clause_D_initD_) [.non, .non, .non] [] (He.ma b.K (He.ga b.K "Clause") "__init__") fd) : ∃ ds, Vals (([.non, .non, .non] : List V).drop 2) ds ∧ Binds b.K fd P_Clause_D_initD_ ds := F.binds1 6 2 (by simp) rfl (fun T kV doc pm an cdv ct us its h1 h2 => by
    match us, its, h1, h2 with
    | [_, _, _, _, _, _], [_, _, _], _, _ => exact ⟨_, rfl, rfl⟩)
theorem sc_class_of : FnScope N_class_of P_class_of (defScope s_class_of) := ⟨rfl, rfl, rfl, by decide +kernel, rfl, by decide +kernel, by decide +kernel⟩
theorem k_class_of {b : Base} (T : Tx tl b) : ∃ fd, FunD b.K "class_of" "class_of" (defArgs s_class_of) (defBody s_class_of) (defScope s_class_of) [] [] (He.ga b.K "class_of") fd ∧ Binds b.K fd P_class_of [] := by
  obtain ⟨fd, F⟩ := T.s.c.def_ 27 (d := d_class_of) rfl
  exact ⟨fd, F, F.bindsN fun _ _ _ _ _ _ us hl => match us, hl with | [_], _ => rfl⟩
set_option maxHeartbeats 4000000 in
theorem e_class_of {b : Base} (T : Tx tl b) (E : XK) : DSs (b.at N_class_of (defScope s_class_of) 2 false) (wOf E) (defBody s_class_of) B_class_of := by
  obtain ⟨fdh0, h0⟩ := ok_digit_of T
  obtain ⟨fdh1, h1⟩ := ok_is_between T
  have sc := sc_class_of
  exact (dss_cons (ds_if (dt_w (dw_or (dt_cmp op_neD' (de_callB b_len (T.free 15) bt_len (da_cons (de_var 0) da_nil)) de_int) (dw_or1 (dt_cmp op_neD' (de_ix (de_var 0) de_int) de_str)))) (dss_one (ds_ret de_non)) dss_nil)
  (dss_cons (ds_par 1 2 sc.nd (da_cons (de_call h0.1 (T.glo 18) h0.2.1 h0.2.2.1 (da_cons (de_ix (de_var 0) de_int) da_nil)) (da_cons (de_call h0.1 (T.glo 18) h0.2.1 h0.2.2.1 (da_cons (de_ix (de_var 0) de_int) da_nil)) da_nil)))
  (dss_cons (ds_if (dt_w (dw_or (dt_not (dt_val (de_call h1.1 (T.glo 20) h1.2.1 h1.2.2.1 (da_cons (de_var 2) (da_cons de_int (da_cons (de_gint (T.int 51)) da_nil)))))) (dw_or1 (dt_not (dt_val (de_call h1.1 (T.glo 20) h1.2.1 h1.2.2.1 (da_cons (de_var 1) (da_cons de_int (da_cons (de_op op_subD (de_var 2) de_int) da_nil))))))))) (dss_one (ds_ret de_non)) dss_nil)
  (dss_one (ds_ret (de_tup (da_cons (de_var 1) (da_cons (de_var 2) da_nil))))))))
theorem ok_class_of {b : Base} (T : Tx tl b) : ∃ fd, b.Ok 3 (He.ga b.K "class_of") fd P_class_of F_class_of ∧ PySem.W.keepIn b.K (.ref (He.ga b.K "class_of")) = true ∧ Binds b.K fd P_class_of [] ∧ FunD b.K "class_of" "class_of" (defArgs s_class_of) (defBody s_class_of) (defScope s_class_of) [] [] (He.ga b.K "class_of") fd := by
  obtain ⟨fd, F, B⟩ := k_class_of T
  exact ⟨fd, fn_ok false F sc_class_of (fun E => e_class_of T E), F.kp, B, F⟩
theorem sc_is_name : FnScope N_is_name P_is_name (defScope s_is_name) := ⟨rfl, rfl, rfl, by decide +kernel, rfl, by decide +kernel, by decide +kernel⟩
theorem k_is_name {b : Base} (T : Tx tl b) : ∃ fd, FunD b.K "is_name" "is_name" (defArgs s_is_name) (defBody s_is_name) (defScope s_is_name) [] [] (He.ga b.K "is_name") fd ∧ Binds b.K fd P_is_name [] := by
  obtain ⟨fd, F⟩ := T.s.c.def_ 28 (d := d_is_name) rfl
  exact ⟨fd, F, F.bindsN fun _ _ _ _ _ _ us hl => match us, hl with | [_], _ => rfl⟩
set_option maxHeartbeats 4000000 in
theorem e_is_name {b : Base} (T : Tx tl b) (E : XK) : DSs (b.at N_is_name (defScope s_is_name) 0 false) (wOf E) (defBody s_is_name) B_is_name := by
  have sc := sc_is_name
  exact (dss_cons (ds_if (dt_w (dw_or (dt_not (dt_val (de_callB (b_isi T.s.isi) (T.free 12) bt_isinstance (da_cons (de_var 0) (da_cons (de_ty (T.free 17) bt_str) da_nil))))) (dw_or (dt_not (dt_chain op_ltD op_ltD de_int (de_callB b_len (T.free 15) bt_len (da_cons (de_var 0) da_nil)) de_int)) (dw_or1 (dt_cmp op_ninD (de_ix (de_var 0) de_int) (de_gstr (T.str 52))))))) (dss_one (ds_ret de_bl)) dss_nil)
  (dss_one (ds_ret (de_callB b_all (T.free 53) bt_all (da_cons (de_lc [("sign", 1)] sc.nd (show blkC N_is_name (defScope s_is_name) _ _ = true by decide +kernel) (di_seq (de_var 0)) (dg_name 1 sc.nd) dts_nil (de_or (de_cmp op_inD (de_var 1) (de_gstr (T.str 52))) (de_one (de_cmp op_inD (de_var 1) (de_gstr (T.str 16)))))) da_nil)))))
theorem ok_is_name {b : Base} (T : Tx tl b) : ∃ fd, b.Ok 1 (He.ga b.K "is_name") fd P_is_name F_is_name ∧ PySem.W.keepIn b.K (.ref (He.ga b.K "is_name")) = true ∧ Binds b.K fd P_is_name [] ∧ FunD b.K "is_name" "is_name" (defArgs s_is_name) (defBody s_is_name) (defScope s_is_name) [] [] (He.ga b.K "is_name") fd := by
  obtain ⟨fd, F, B⟩ := k_is_name T
  exact ⟨fd, fn_ok false F sc_is_name (fun E => e_is_name T E), F.kp, B, F⟩
theorem sc_read_call : FnScope N_read_call P_read_call (defScope s_read_call) := ⟨rfl, rfl, rfl, by decide +kernel, rfl, by decide +kernel, by decide +kernel⟩
theorem k_read_call {b : Base} (T : Tx tl b) : ∃ fd, FunD b.K "read_call" "read_call" (defArgs s_read_call) (defBody s_read_call) (defScope s_read_call) [] [] (He.ga b.K "read_call") fd ∧ Binds b.K fd P_read_call [] := by
  obtain ⟨fd, F⟩ := T.s.c.def_ 29 (d := d_read_call) rfl
  exact ⟨fd, F, F.bindsN fun _ _ _ _ _ _ us hl => match us, hl with | [_], _ => rfl⟩
set_option maxHeartbeats 4000000 in
theorem e_read_call {b : Base} (T : Tx tl b) (E : XK) : DSs (b.at N_read_call (defScope s_read_call) 3 false) (wOf E) (defBody s_read_call) B_read_call := by
  obtain ⟨fdh0, h0⟩ := ok_class_of T
  obtain ⟨fdh1, h1⟩ := ok_is_name T
  obtain ⟨fdh2, h2⟩ := ok_Clause_D_initD_ T
  have sc := sc_read_call
  exact (dss_cons (ds_asg [1] (de_call h0.1 (T.glo 54) h0.2.1 h0.2.2.1 (da_cons (de_sl (de_var 0) (do_some de_int) do_none) da_nil)) (dg_name 1 sc.nd))
  (dss_cons (ds_if (dt_w (dw_or (dt_cmp op_isD (de_var 1) de_non) (dw_or (dt_cmp op_neD' (de_ix (de_var 0) de_int) de_str) (dw_or1 (dt_not (dt_val (de_call h1.1 (T.glo 55) h1.2.1 h1.2.2.1 (da_cons (de_ix (de_var 0) de_int) da_nil)))))))) (dss_one (ds_ret de_non)) dss_nil)
  (dss_cons (ds_asg [2, 3] (de_var 1) (dg_tup 2 (dgs_cons (Plain.of E) (dg_name 2 sc.nd) (dgs_cons (Plain.of E) (dg_name 3 sc.nd) dgs_nil))))
  (dss_one (ds_ret (de_makeK [.non, .non] h2.1 (T.mkr 56) (T.glo 57) (kbn_Clause_D_initD__3 T _ h2.2.2.2).choose_spec (fun _ _ _ => rfl) (fun _ _ => non_rp 2) (da_cons de_str (da_cons (de_var 2) (da_cons (de_var 3) da_nil))) (dk_cons (de_ix (de_var 0) de_int) dk_nil)))))))
theorem ok_read_call {b : Base} (T : Tx tl b) : ∃ fd, b.Ok 4 (He.ga b.K "read_call") fd P_read_call F_read_call ∧ PySem.W.keepIn b.K (.ref (He.ga b.K "read_call")) = true ∧ Binds b.K fd P_read_call [] ∧ FunD b.K "read_call" "read_call" (defArgs s_read_call) (defBody s_read_call) (defScope s_read_call) [] [] (He.ga b.K "read_call") fd := by
  obtain ⟨fd, F, B⟩ := k_read_call T
  exact ⟨fd, fn_ok false F sc_read_call (fun E => e_read_call T E), F.kp, B, F⟩
theorem sc_read_clause : FnScope N_read_clause P_read_clause (defScope s_read_clause) := ⟨rfl, rfl, rfl, by decide +kernel, rfl, by decide +kernel, by decide +kernel⟩
theorem k_read_clause {b : Base} (T : Tx tl b) : ∃ fd, FunD b.K "read_clause" "read_clause" (defArgs s_read_clause) (defBody s_read_clause) (defScope s_read_clause) [] [] (He.ga b.K "read_clause") fd ∧ Binds b.K fd P_read_clause [] := by
  obtain ⟨fd, F⟩ := T.s.c.def_ 30 (d := d_read_clause) rfl
  exact ⟨fd, F, F.bindsN fun _ _ _ _ _ _ us hl => match us, hl with | [_], _ => rfl⟩
set_option maxHeartbeats 4000000 in
theorem e_read_clause {b : Base} (T : Tx tl b) (E : XK) : DSs (b.at N_read_clause (defScope s_read_clause) 4 false) (wOf E) (defBody s_read_clause) B_read_clause := by
  obtain ⟨fdh0, h0⟩ := ok_read_call T
  obtain ⟨fdh1, h1⟩ := ok_class_of T
  obtain ⟨fdh2, h2⟩ := ok_Clause_D_initD_ T
  obtain ⟨fdh3, h3⟩ := ok_digit_of T
  obtain ⟨fdh4, h4⟩ := ok_is_between T
  have sc := sc_read_clause
  exact (dss_cons (ds_asg [1] (de_bm PySem.F.plainAttrs_str PySem.F.slot_str_split PySem.F.type_str_split m_split (de_var 0) (da_cons de_str da_nil)) (dg_name 1 sc.nd))
  (dss_cons (ds_if (dt_cmp op_eqD' (de_ix (de_var 1) de_int) de_str) (dss_one (ds_ret (de_call h0.1 (T.glo 58) h0.2.1 h0.2.2.1 (da_cons (de_var 1) da_nil)))) dss_nil)
  (dss_cons (ds_asg [2] (de_call h1.1 (T.glo 54) h1.2.1 h1.2.2.1 (da_cons (de_sl (de_var 1) (do_some de_int) (do_some de_int)) da_nil)) (dg_name 2 sc.nd))
  (dss_cons (ds_if (dt_cmp op_isD (de_var 2) de_non) (dss_one (ds_ret de_non)) dss_nil)
  (dss_cons (ds_asg [3, 4] (de_var 2) (dg_tup 2 (dgs_cons (Plain.of E) (dg_name 3 sc.nd) (dgs_cons (Plain.of E) (dg_name 4 sc.nd) dgs_nil))))
  (dss_cons (ds_if (dt_cmp op_eqD' (de_ix (de_var 1) de_int) de_str) (dss_one (ds_ret (de_if (dt_cmp op_eqD' (de_callB b_len (T.free 15) bt_len (da_cons (de_var 1) da_nil)) de_int) (de_makeD [.non, .non, .non] h2.1 (T.mkr 56) (T.glo 57) (bd_Clause_D_initD__3 T _ h2.2.2.2) (fun _ _ => non_rp 3) (da_cons de_str (da_cons (de_var 3) (da_cons (de_var 4) da_nil)))) de_non))) dss_nil)
  (dss_cons (ds_if (dt_w (dw_or (dt_cmp op_ninD (de_ix (de_var 1) de_int) (de_tup (da_cons de_str (da_cons de_str da_nil)))) (dw_or (dt_cmp op_neD' (de_callB b_len (T.free 15) bt_len (da_cons (de_var 1) da_nil)) de_int) (dw_or1 (dt_cmp op_ninD (de_ix (de_var 1) de_int) (de_tup (da_cons de_str (da_cons de_str da_nil)))))))) (dss_one (ds_ret de_non)) dss_nil)
  (dss_cons (ds_asg [5] (de_call h3.1 (T.glo 18) h3.2.1 h3.2.2.1 (da_cons (de_ix (de_var 1) de_int) da_nil)) (dg_name 5 sc.nd))
  (dss_one (ds_ret (de_if (dt_val (de_call h4.1 (T.glo 20) h4.2.1 h4.2.2.1 (da_cons (de_var 5) (da_cons de_int (da_cons (de_gint (T.int 59)) da_nil))))) (de_makeD [.non] h2.1 (T.mkr 56) (T.glo 57) (bd_Clause_D_initD__5 T _ h2.2.2.2) (fun _ _ => non_rp 1) (da_cons (de_ix (de_var 1) de_int) (da_cons (de_var 3) (da_cons (de_var 4) (da_cons (de_ix (de_var 1) de_int) (da_cons (de_var 5) da_nil)))))) de_non)))))))))))
theorem ok_read_clause {b : Base} (T : Tx tl b) : ∃ fd, b.Ok 5 (He.ga b.K "read_clause") fd P_read_clause F_read_clause ∧ PySem.W.keepIn b.K (.ref (He.ga b.K "read_clause")) = true ∧ Binds b.K fd P_read_clause [] ∧ FunD b.K "read_clause" "read_clause" (defArgs s_read_clause) (defBody s_read_clause) (defScope s_read_clause) [] [] (He.ga b.K "read_clause") fd := by
  obtain ⟨fd, F, B⟩ := k_read_clause T
  exact ⟨fd, fn_ok false F sc_read_clause (fun E => e_read_clause T E), F.kp, B, F⟩
theorem sc_read_clauses : FnScope N_read_clauses P_read_clauses (defScope s_read_clauses) := ⟨rfl, rfl, rfl, by decide +kernel, rfl, by decide +kernel, by decide +kernel⟩
theorem k_read_clauses {b : Base} (T : Tx tl b) : ∃ fd, FunD b.K "read_clauses" "read_clauses" (defArgs s_read_clauses) (defBody s_read_clauses) (defScope s_read_clauses) [] [] (He.ga b.K "read_clauses") fd ∧ Binds b.K fd P_read_clauses [] := by
  obtain ⟨fd, F⟩ := T.s.c.def_ 31 (d := d_read_clauses) rfl
  exact ⟨fd, F, F.bindsN fun _ _ _ _ _ _ us hl => match us, hl with | [_], _ => rfl⟩
set_option maxHeartbeats 4000000 in
theorem e_read_clauses {b : Base} (T : Tx tl b) (E : XK) : DSs (b.at N_read_clauses (defScope s_read_clauses) 5 false) (wOf E) (defBody s_read_clauses) B_read_clauses := by
  obtain ⟨fdh0, h0⟩ := ok_read_clause T
  obtain ⟨fdh1, h1⟩ := ok_meet T
  have sc := sc_read_clauses
  exact (dss_cons (ds_if (dt_not (dt_val (de_callB (b_isi T.s.isi) (T.free 12) bt_isinstance (da_cons (de_var 0) (da_cons (de_ty (T.free 17) bt_str) da_nil))))) (dss_one (ds_ret de_non)) dss_nil)
  (dss_cons (ds_lc 1 [("part", 5)] sc.nd (show blkC N_read_clauses (defScope s_read_clauses) _ _ = true by decide +kernel) (di_seq (de_bm PySem.F.plainAttrs_str PySem.F.slot_str_split PySem.F.type_str_split m_split (de_var 0) (da_cons (de_gstr (T.str 60)) da_nil))) (dg_name 5 sc.nd) dts_nil (de_call h0.1 (T.glo 61) h0.2.1 h0.2.2.1 (da_cons (de_var 5) da_nil)))
  (dss_cons (ds_if (dt_w (dw_or (dt_cmp op_gtD (de_callB b_len (T.free 15) bt_len (da_cons (de_var 1) da_nil)) (de_gint (T.int 62))) (dw_or1 (dt_val (de_callB b_any (T.free 63) bt_any (da_cons (de_lc [("clause", 4)] sc.nd (show blkC N_read_clauses (defScope s_read_clauses) _ _ = true by decide +kernel) (di_seq (de_var 1)) (dg_name 4 sc.nd) dts_nil (de_cmp op_isD (de_var 4) de_non)) da_nil)))))) (dss_one (ds_ret de_non)) dss_nil)
  (dss_cons (ds_lc 2 [("clause", 4)] sc.nd (show blkC N_read_clauses (defScope s_read_clauses) _ _ = true by decide +kernel) (di_seq (de_var 1)) (dg_name 4 sc.nd) (dts_one (dt_cmp op_eqD' (de_fld (T.cls 0) (T.noat 32) (de_var 4)) de_str)) (de_var 4))
  (dss_cons (ds_if (dt_chain op_ltD op_ltD de_int (de_callB b_len (T.free 15) bt_len (da_cons (de_var 2) da_nil)) (de_callB b_len (T.free 15) bt_len (da_cons (de_var 1) da_nil))) (dss_one (ds_ret de_non)) dss_nil)
  (dss_cons (ds_for [3, 4] (di_enum' (T.free 64) (da_cons (de_var 1) da_nil)) (dg_tup 2 (dgs_cons (Plain.of E) (dg_name 3 sc.nd) (dgs_cons (Plain.of E) (dg_name 4 sc.nd) dgs_nil)))
  (dss_one (ds_if (dt_val (de_callB b_any (T.free 63) bt_any (da_cons (de_lc [("other", 6)] sc.nd (show blkC N_read_clauses (defScope s_read_clauses) _ _ = true by decide +kernel) (di_seq (de_sl (de_var 1) do_none (do_some (de_var 3)))) (dg_name 6 sc.nd) dts_nil (de_call h1.1 (T.glo 65) h1.2.1 h1.2.2.1 (da_cons (de_var 4) (da_cons (de_var 6) da_nil)))) da_nil))) (dss_one (ds_ret de_non)) dss_nil)))
  (dss_one (ds_ret (de_var 1)))))))))
theorem ok_read_clauses {b : Base} (T : Tx tl b) : ∃ fd, b.Ok 6 (He.ga b.K "read_clauses") fd P_read_clauses F_read_clauses ∧ PySem.W.keepIn b.K (.ref (He.ga b.K "read_clauses")) = true ∧ Binds b.K fd P_read_clauses [] ∧ FunD b.K "read_clauses" "read_clauses" (defArgs s_read_clauses) (defBody s_read_clauses) (defScope s_read_clauses) [] [] (He.ga b.K "read_clauses") fd := by
  obtain ⟨fd, F, B⟩ := k_read_clauses T
  exact ⟨fd, fn_ok false F sc_read_clauses (fun E => e_read_clauses T E), F.kp, B, F⟩
theorem sc_read_round : FnScope N_read_round P_read_round (defScope s_read_round) := ⟨rfl, rfl, rfl, by decide +kernel, rfl, by decide +kernel, by decide +kernel⟩
theorem k_read_round {b : Base} (T : Tx tl b) : ∃ fd, FunD b.K "read_round" "read_round" (defArgs s_read_round) (defBody s_read_round) (defScope s_read_round) [] [] (He.ga b.K "read_round") fd ∧ Binds b.K fd P_read_round [] := by
  obtain ⟨fd, F⟩ := T.s.c.def_ 32 (d := d_read_round) rfl
  exact ⟨fd, F, F.bindsN fun _ _ _ _ _ _ us hl => match us, hl with | [_, _, _], _ => rfl⟩
set_option maxHeartbeats 4000000 in
theorem e_read_round {b : Base} (T : Tx tl b) (E : XK) : DSs (b.at N_read_round (defScope s_read_round) 6 false) (wOf E) (defBody s_read_round) B_read_round := by
  obtain ⟨fdh0, h0⟩ := ok_read_clauses T
  have sc := sc_read_round
  exact (dss_cons (ds_asg [3] (de_call h0.1 (T.glo 66) h0.2.1 h0.2.2.1 (da_cons (de_var 0) da_nil)) (dg_name 3 sc.nd))
  (dss_cons (ds_if (dt_cmp op_isD (de_var 3) de_non) (dss_one (ds_ret de_non)) dss_nil)
  (dss_cons (ds_for [4] (di_seq (de_var 3)) (dg_name 4 sc.nd)
  (dss_one (ds_if (dt_w (dw_and (dt_cmp op_eqD' (de_fld (T.cls 0) (T.noat 32) (de_var 4)) de_str) (dw_and1 (dt_w (dw_or (dt_cmp op_ninD (de_fld (T.cls 0) (T.noat 34) (de_var 4)) (de_var 1)) (dw_or1 (dt_w (dw_and (dt_cmp op_eqD' (de_fld (T.cls 0) (T.noat 3) (de_var 4)) de_int) (dw_and1 (dt_cmp op_inD (de_fld (T.cls 0) (T.noat 34) (de_var 4)) (de_var 2))))))))))) (dss_one (ds_ret de_non)) dss_nil)))
  (dss_one (ds_ret (de_var 3))))))
theorem ok_read_round {b : Base} (T : Tx tl b) : ∃ fd, b.Ok 7 (He.ga b.K "read_round") fd P_read_round F_read_round ∧ PySem.W.keepIn b.K (.ref (He.ga b.K "read_round")) = true ∧ Binds b.K fd P_read_round [] ∧ FunD b.K "read_round" "read_round" (defArgs s_read_round) (defBody s_read_round) (defScope s_read_round) [] [] (He.ga b.K "read_round") fd := by
  obtain ⟨fd, F, B⟩ := k_read_round T
  exact ⟨fd, fn_ok false F sc_read_round (fun E => e_read_round T E), F.kp, B, F⟩
theorem sc_is_plan : FnScope N_is_plan P_is_plan (defScope s_is_plan) := ⟨rfl, rfl, rfl, by decide +kernel, rfl, by decide +kernel, by decide +kernel⟩
theorem k_is_plan {b : Base} (T : Tx tl b) : ∃ fd, FunD b.K "is_plan" "is_plan" (defArgs s_is_plan) (defBody s_is_plan) (defScope s_is_plan) [] [] (He.ga b.K "is_plan") fd ∧ Binds b.K fd P_is_plan [] := by
  obtain ⟨fd, F⟩ := T.s.c.def_ 33 (d := d_is_plan) rfl
  exact ⟨fd, F, F.bindsN fun _ _ _ _ _ _ us hl => match us, hl with | [_], _ => rfl⟩
set_option maxHeartbeats 4000000 in
theorem e_is_plan {b : Base} (T : Tx tl b) (E : XK) : DSs (b.at N_is_plan (defScope s_is_plan) 6 false) (wOf E) (defBody s_is_plan) B_is_plan := by
  obtain ⟨fdh0, h0⟩ := ok_is_name T
  obtain ⟨fdh1, h1⟩ := ok_read_goal T
  obtain ⟨fdh2, h2⟩ := ok_is_between T
  obtain ⟨fdh3, h3⟩ := ok_read_clauses T
  have sc := sc_is_plan
  exact (dss_cons (ds_if (dt_w (dw_or (dt_not (dt_val (de_callB (b_isi T.s.isi) (T.free 12) bt_isinstance (da_cons (de_var 0) (da_cons (de_ty (T.free 43) bt_tuple) da_nil))))) (dw_or1 (dt_cmp op_neD' (de_callB b_len (T.free 15) bt_len (da_cons (de_var 0) da_nil)) de_int)))) (dss_one (ds_ret de_bl)) dss_nil)
  (dss_cons (ds_asg [1, 2, 3, 4] (de_var 0) (dg_tup 4 (dgs_cons (Plain.of E) (dg_name 1 sc.nd) (dgs_cons (Plain.of E) (dg_name 2 sc.nd) (dgs_cons (Plain.of E) (dg_name 3 sc.nd) (dgs_cons (Plain.of E) (dg_name 4 sc.nd) dgs_nil))))))
  (dss_cons (ds_if (dt_w (dw_or (dt_not (dt_val (de_call h0.1 (T.glo 55) h0.2.1 h0.2.2.1 (da_cons (de_var 1) da_nil)))) (dw_or (dt_cmp op_isD (de_call h1.1 (T.glo 23) h1.2.1 h1.2.2.1 (da_cons (de_var 2) da_nil)) de_non) (dw_or1 (dt_not (dt_val (de_call h2.1 (T.glo 20) h2.2.1 h2.2.2.1 (da_cons (de_var 3) (da_cons de_int (da_cons (de_gint (T.int 67)) da_nil)))))))))) (dss_one (ds_ret de_bl)) dss_nil)
  (dss_cons (ds_if (dt_w (dw_or (dt_not (dt_val (de_callB (b_isi T.s.isi) (T.free 12) bt_isinstance (da_cons (de_var 4) (da_cons (de_ty (T.free 43) bt_tuple) da_nil))))) (dw_or1 (dt_not (dt_chain op_ltD op_leD de_int (de_callB b_len (T.free 15) bt_len (da_cons (de_var 4) da_nil)) (de_gint (T.int 68))))))) (dss_one (ds_ret de_bl)) dss_nil)
  (dss_one (ds_ret (de_callB b_all (T.free 53) bt_all (da_cons (de_lc [("text", 5)] sc.nd (show blkC N_is_plan (defScope s_is_plan) _ _ = true by decide +kernel) (di_seq (de_var 4)) (dg_name 5 sc.nd) dts_nil (de_cmp op_isntD (de_call h3.1 (T.glo 66) h3.2.1 h3.2.2.1 (da_cons (de_var 5) da_nil)) de_non)) da_nil))))))))
theorem ok_is_plan {b : Base} (T : Tx tl b) : ∃ fd, b.Ok 7 (He.ga b.K "is_plan") fd P_is_plan F_is_plan ∧ PySem.W.keepIn b.K (.ref (He.ga b.K "is_plan")) = true ∧ Binds b.K fd P_is_plan [] ∧ FunD b.K "is_plan" "is_plan" (defArgs s_is_plan) (defBody s_is_plan) (defScope s_is_plan) [] [] (He.ga b.K "is_plan") fd := by
  obtain ⟨fd, F, B⟩ := k_is_plan T
  exact ⟨fd, fn_ok false F sc_is_plan (fun E => e_is_plan T E), F.kp, B, F⟩
theorem sc_first_invalid : FnScope N_first_invalid P_first_invalid (defScope s_first_invalid) := ⟨rfl, rfl, rfl, by decide +kernel, rfl, by decide +kernel, by decide +kernel⟩
theorem k_first_invalid {b : Base} (T : Tx tl b) : ∃ fd, FunD b.K "first_invalid" "first_invalid" (defArgs s_first_invalid) (defBody s_first_invalid) (defScope s_first_invalid) [] [] (He.ga b.K "first_invalid") fd ∧ Binds b.K fd P_first_invalid [] := by
  obtain ⟨fd, F⟩ := T.s.c.def_ 34 (d := d_first_invalid) rfl
  exact ⟨fd, F, F.bindsN fun _ _ _ _ _ _ us hl => match us, hl with | [_], _ => rfl⟩
set_option maxHeartbeats 4000000 in
theorem e_first_invalid {b : Base} (T : Tx tl b) (E : XK) : DSs (b.at N_first_invalid (defScope s_first_invalid) 7 false) (wOf E) (defBody s_first_invalid) B_first_invalid := by
  obtain ⟨fdh0, h0⟩ := ok_is_plan T
  obtain ⟨fdh1, h1⟩ := ok_read_round T
  have sc := sc_first_invalid
  exact (dss_cons (ds_asg [1] (de_new da_nil) (dg_name 1 sc.nd))
  (dss_cons (ds_for [2, 3] (di_enum' (T.free 64) (da_cons (de_var 0) da_nil)) (dg_tup 2 (dgs_cons (Plain.of E) (dg_name 2 sc.nd) (dgs_cons (Plain.of E) (dg_name 3 sc.nd) dgs_nil)))
  (dss_cons (ds_if (dt_w (dw_or (dt_cmp op_eqD' (de_var 2) (de_gint (T.int 69))) (dw_or (dt_not (dt_val (de_call h0.1 (T.glo 70) h0.2.1 h0.2.2.1 (da_cons (de_var 3) da_nil)))) (dw_or1 (dt_cmp op_inD (de_ix (de_var 3) de_int) (de_var 1)))))) (dss_one (ds_ret (de_var 2))) dss_nil)
  (dss_one (ds_expr (de_bm PySem.F.plainAttrs_list PySem.F.slot_list_append PySem.F.type_list_append m_append (de_var 1) (da_cons (de_ix (de_var 3) de_int) da_nil))))))
  (dss_cons (ds_for [2, 3] (di_enum' (T.free 64) (da_cons (de_var 0) da_nil)) (dg_tup 2 (dgs_cons (Plain.of E) (dg_name 2 sc.nd) (dgs_cons (Plain.of E) (dg_name 3 sc.nd) dgs_nil)))
  (dss_one (ds_if (dt_val (de_callB b_any (T.free 63) bt_any (da_cons (de_lc [("text", 4)] sc.nd (show blkC N_first_invalid (defScope s_first_invalid) _ _ = true by decide +kernel) (di_seq (de_ix (de_var 3) de_int)) (dg_name 4 sc.nd) dts_nil (de_cmp op_isD (de_call h1.1 (T.glo 71) h1.2.1 h1.2.2.1 (da_cons (de_var 4) (da_cons (de_var 1) (da_cons (de_sl (de_var 1) do_none (do_some (de_op op_addD (de_var 2) de_int))) da_nil)))) de_non)) da_nil))) (dss_one (ds_ret (de_var 2))) dss_nil)))
  (dss_one (ds_ret de_non)))))
theorem ok_first_invalid {b : Base} (T : Tx tl b) : ∃ fd, b.Ok 8 (He.ga b.K "first_invalid") fd P_first_invalid F_first_invalid ∧ PySem.W.keepIn b.K (.ref (He.ga b.K "first_invalid")) = true ∧ Binds b.K fd P_first_invalid [] ∧ FunD b.K "first_invalid" "first_invalid" (defArgs s_first_invalid) (defBody s_first_invalid) (defScope s_first_invalid) [] [] (He.ga b.K "first_invalid") fd := by
  obtain ⟨fd, F, B⟩ := k_first_invalid T
  exact ⟨fd, fn_ok false F sc_first_invalid (fun E => e_first_invalid T E), F.kp, B, F⟩
theorem sc_Book_D_initD_ : FnScope N_Book_D_initD_ P_Book_D_initD_ (defScope s_Book_D_initD_) := ⟨rfl, rfl, rfl, by decide +kernel, rfl, by decide +kernel, by decide +kernel⟩
theorem k_Book_D_initD_ {b : Base} (T : Tx tl b) : ∃ fd, FunD b.K "__init__" "Book.__init__" (defArgs s_Book_D_initD_) (defBody s_Book_D_initD_) (defScope s_Book_D_initD_) [] [] (He.ma b.K (He.ga b.K "Book") "__init__") fd ∧ Binds b.K fd P_Book_D_initD_ [] := by
  obtain ⟨fd, F⟩ := T.s.c.def_ 35 (d := d_Book_D_initD_) rfl
  exact ⟨fd, F, F.bindsN fun _ _ _ _ _ _ us hl => match us, hl with | [_, _], _ => rfl⟩
set_option maxHeartbeats 4000000 in
theorem e_Book_D_initD_ {b : Base} (T : Tx tl b) (E : XK) : DSs (b.at N_Book_D_initD_ (defScope s_Book_D_initD_) 8 false) (wOf E) (defBody s_Book_D_initD_) B_Book_D_initD_ := by
  obtain ⟨fdh0, h0⟩ := ok_first_invalid T
  obtain ⟨fdh1, h1⟩ := ok_read_clauses T
  have sc := sc_Book_D_initD_
  exact (dss_cons (ds_if (dt_w (dw_or (dt_not (dt_val (de_callB (b_isi T.s.isi) (T.free 12) bt_isinstance (da_cons (de_var 1) (da_cons (de_ty (T.free 43) bt_tuple) da_nil))))) (dw_or1 (dt_cmp op_eqD' (de_callB b_len (T.free 15) bt_len (da_cons (de_var 1) da_nil)) de_int)))) (dss_one ds_never) dss_nil)
  (dss_cons (ds_asg [2] (de_call h0.1 (T.glo 72) h0.2.1 h0.2.2.1 (da_cons (de_var 1) da_nil)) (dg_name 2 sc.nd))
  (dss_cons (ds_if (dt_cmp op_isntD (de_var 2) de_non) (dss_one ds_never) dss_nil)
  (dss_cons (ds_fld (T.cls 7) (T.noat 21) (de_var 0) (de_var 1))
  (dss_one (ds_fld (T.cls 7) (T.noat 8) (de_var 0) (de_dc [("plan", 3)] sc.nd (show blkC N_Book_D_initD_ (defScope s_Book_D_initD_) _ _ = true by decide +kernel) (di_seq (de_var 1)) (dg_name 3 sc.nd) (de_ix (de_var 3) de_int) (de_lc [("text", 4)] sc.nd (show blkC N_Book_D_initD_ (relS _ (defScope s_Book_D_initD_)) _ _ = true by decide +kernel) (di_seq (de_ix (de_var 3) de_int)) (dg_name 4 sc.nd) dts_nil (de_call h1.1 (T.glo 66) h1.2.1 h1.2.2.1 (da_cons (de_var 4) da_nil))))))))))
theorem ok_Book_D_initD_ {b : Base} (T : Tx tl b) : ∃ fd, b.Ok 9 (He.ma b.K (He.ga b.K "Book") "__init__") fd P_Book_D_initD_ F_Book_D_initD_ ∧ PySem.W.keepIn b.K (.ref (He.ma b.K (He.ga b.K "Book") "__init__")) = true ∧ Binds b.K fd P_Book_D_initD_ [] ∧ FunD b.K "__init__" "Book.__init__" (defArgs s_Book_D_initD_) (defBody s_Book_D_initD_) (defScope s_Book_D_initD_) [] [] (He.ma b.K (He.ga b.K "Book") "__init__") fd := by
  obtain ⟨fd, F, B⟩ := k_Book_D_initD_ T
  exact ⟨fd, fn_ok false F sc_Book_D_initD_ (fun E => e_Book_D_initD_ T E), F.kp, B, F⟩
theorem sc__law_goal_text : FnScope N__law_goal_text P__law_goal_text (defScope s__law_goal_text) := ⟨rfl, rfl, rfl, by decide +kernel, rfl, by decide +kernel, by decide +kernel⟩
theorem k__law_goal_text {b : Base} (T : Tx tl b) : ∃ fd, FunD b.K "_law_goal_text" "_law_goal_text" (defArgs s__law_goal_text) (defBody s__law_goal_text) (defScope s__law_goal_text) [] [] (He.ga b.K "_law_goal_text") fd ∧ Binds b.K fd P__law_goal_text [] := by
  obtain ⟨fd, F⟩ := T.s.c.def_ 36 (d := d__law_goal_text) rfl
  exact ⟨fd, F, F.bindsN fun _ _ _ _ _ _ us hl => match us, hl with | [_], _ => rfl⟩
set_option maxHeartbeats 4000000 in
theorem e__law_goal_text {b : Base} (T : Tx tl b) (E : XK) : DSs (b.at N__law_goal_text (defScope s__law_goal_text) 0 true) (wOf E) (defBody s__law_goal_text) B__law_goal_text := by
  have sc := sc__law_goal_text
  exact (dss_one (ds_ret (de_op op_addD (de_ix (de_var 0) de_int) (de_if (dt_cmp op_eqD' (de_ix (de_var 0) de_int) de_str) (de_op op_addD de_str (de_callT b_str (T.free 17) bt_str (da_cons (de_ix (de_var 0) de_int) da_nil))) de_str))))
theorem ok__law_goal_text {b : Base} (T : Tx tl b) : ∃ fd, FnG b 1 (He.ga b.K "_law_goal_text") fd P__law_goal_text F__law_goal_text ∧ PySem.W.keepIn b.K (.ref (He.ga b.K "_law_goal_text")) = true ∧ Binds b.K fd P__law_goal_text [] ∧ True := by
  obtain ⟨fd, F, B⟩ := k__law_goal_text T
  exact ⟨fd, fnG_ok false F sc__law_goal_text (fun E => e__law_goal_text T E), F.kp, B, trivial⟩
theorem sc__law_clause_text : FnScope N__law_clause_text P__law_clause_text (defScope s__law_clause_text) := ⟨rfl, rfl, rfl, by decide +kernel, rfl, by decide +kernel, by decide +kernel⟩
theorem k__law_clause_text {b : Base} (T : Tx tl b) : ∃ fd, FunD b.K "_law_clause_text" "_law_clause_text" (defArgs s__law_clause_text) (defBody s__law_clause_text) (defScope s__law_clause_text) [] [] (He.ga b.K "_law_clause_text") fd ∧ Binds b.K fd P__law_clause_text [] := by
  obtain ⟨fd, F⟩ := T.s.c.def_ 37 (d := d__law_clause_text) rfl
  exact ⟨fd, F, F.bindsN fun _ _ _ _ _ _ us hl => match us, hl with | [_], _ => rfl⟩
set_option maxHeartbeats 4000000 in
theorem e__law_clause_text {b : Base} (T : Tx tl b) (E : XK) : DSs (b.at N__law_clause_text (defScope s__law_clause_text) 0 true) (wOf E) (defBody s__law_clause_text) B__law_clause_text := by
  have sc := sc__law_clause_text
  exact (dss_cons (ds_asg [1, 2, 3, 4, 5, 6] (de_var 0) (dg_tup 6 (dgs_cons (Plain.of E) (dg_name 1 sc.nd) (dgs_cons (Plain.of E) (dg_name 2 sc.nd) (dgs_cons (Plain.of E) (dg_name 3 sc.nd) (dgs_cons (Plain.of E) (dg_name 4 sc.nd) (dgs_cons (Plain.of E) (dg_name 5 sc.nd) (dgs_cons (Plain.of E) (dg_name 6 sc.nd) dgs_nil))))))))
  (dss_cons (ds_asg [7] (de_op op_addD (de_op op_addD (de_callT b_str (T.free 17) bt_str (da_cons (de_var 2) da_nil)) de_str) (de_callT b_str (T.free 17) bt_str (da_cons (de_var 3) da_nil))) (dg_name 7 sc.nd))
  (dss_cons (ds_if (dt_cmp op_eqD' (de_var 1) de_str) (dss_one (ds_ret (de_op op_addD (de_op op_addD (de_op op_addD de_str (de_var 6)) de_str) (de_var 7)))) dss_nil)
  (dss_one (ds_ret (de_op op_addD (de_op op_addD (de_op op_addD (de_var 1) de_str) (de_var 7)) (de_if (dt_cmp op_eqD' (de_var 1) de_str) de_str (de_op op_addD (de_op op_addD (de_op op_addD de_str (de_var 4)) de_str) (de_callT b_str (T.free 17) bt_str (da_cons (de_var 5) da_nil))))))))))
theorem ok__law_clause_text {b : Base} (T : Tx tl b) : ∃ fd, FnG b 1 (He.ga b.K "_law_clause_text") fd P__law_clause_text F__law_clause_text ∧ PySem.W.keepIn b.K (.ref (He.ga b.K "_law_clause_text")) = true ∧ Binds b.K fd P__law_clause_text [] ∧ True := by
  obtain ⟨fd, F, B⟩ := k__law_clause_text T
  exact ⟨fd, fnG_ok false F sc__law_clause_text (fun E => e__law_clause_text T E), F.kp, B, trivial⟩
theorem sc__law_parts : FnScope N__law_parts P__law_parts (defScope s__law_parts) := ⟨rfl, rfl, rfl, by decide +kernel, rfl, by decide +kernel, by decide +kernel⟩
theorem k__law_parts {b : Base} (T : Tx tl b) : ∃ fd, FunD b.K "_law_parts" "_law_parts" (defArgs s__law_parts) (defBody s__law_parts) (defScope s__law_parts) [] [] (He.ga b.K "_law_parts") fd ∧ Binds b.K fd P__law_parts [] := by
  obtain ⟨fd, F⟩ := T.s.c.def_ 38 (d := d__law_parts) rfl
  exact ⟨fd, F, F.bindsN fun _ _ _ _ _ _ us hl => match us, hl with | [_], _ => rfl⟩
set_option maxHeartbeats 4000000 in
theorem e__law_parts {b : Base} (T : Tx tl b) (E : XK) : DSs (b.at N__law_parts (defScope s__law_parts) 1 true) (wOf E) (defBody s__law_parts) B__law_parts := by
  obtain ⟨fdh0, h0⟩ := ok__law_clause_text T
  obtain ⟨fdh1, h1⟩ := ok__law_goal_text T
  have sc := sc__law_parts
  exact (dss_cons (ds_asg [1] (de_callT b_tuple (T.free 43) bt_tuple (da_cons (de_lc [("_law_each", 2)] sc.nd (show blkC N__law_parts (defScope s__law_parts) _ _ = true by decide +kernel) (di_seq (de_ix (de_var 0) de_int)) (dg_name 2 sc.nd) dts_nil (de_bm PySem.F.plainAttrs_str PySem.F.slot_str_join PySem.F.type_str_join m_join de_str (da_cons (de_lc [("_law_clause_here", 3)] sc.nd (show blkC N__law_parts (relS _ (defScope s__law_parts)) _ _ = true by decide +kernel) (di_seq (de_var 2)) (dg_name 3 sc.nd) dts_nil (de_callG h0.1 (T.glo 73) h0.2.1 h0.2.2.1 (da_cons (de_var 3) da_nil))) da_nil))) da_nil)) (dg_name 1 sc.nd))
  (dss_one (ds_ret (de_tup (da_cons (de_ix (de_var 0) de_int) (da_cons (de_callG h1.1 (T.glo 74) h1.2.1 h1.2.2.1 (da_cons (de_ix (de_var 0) de_int) da_nil)) (da_cons (de_ix (de_var 0) de_int) (da_cons (de_var 1) da_nil))))))))
theorem ok__law_parts {b : Base} (T : Tx tl b) : ∃ fd, FnG b 2 (He.ga b.K "_law_parts") fd P__law_parts F__law_parts ∧ PySem.W.keepIn b.K (.ref (He.ga b.K "_law_parts")) = true ∧ Binds b.K fd P__law_parts [] ∧ True := by
  obtain ⟨fd, F, B⟩ := k__law_parts T
  exact ⟨fd, fnG_ok false F sc__law_parts (fun E => e__law_parts T E), F.kp, B, trivial⟩
theorem sc__law_vol : FnScope N__law_vol P__law_vol (defScope s__law_vol) := ⟨rfl, rfl, rfl, by decide +kernel, rfl, by decide +kernel, by decide +kernel⟩
theorem k__law_vol {b : Base} (T : Tx tl b) : ∃ fd, FunD b.K "_law_vol" "_law_vol" (defArgs s__law_vol) (defBody s__law_vol) (defScope s__law_vol) [] [] (He.ga b.K "_law_vol") fd ∧ Binds b.K fd P__law_vol [] := by
  obtain ⟨fd, F⟩ := T.s.c.def_ 39 (d := d__law_vol) rfl
  exact ⟨fd, F, F.bindsN fun _ _ _ _ _ _ us hl => match us, hl with | [_], _ => rfl⟩
set_option maxHeartbeats 4000000 in
theorem e__law_vol {b : Base} (T : Tx tl b) (E : XK) : DSs (b.at N__law_vol (defScope s__law_vol) 10 true) (wOf E) (defBody s__law_vol) B__law_vol := by
  obtain ⟨fdh0, h0⟩ := ok_Book_D_initD_ T
  obtain ⟨fdh1, h1⟩ := ok__law_parts T
  have sc := sc__law_vol
  exact (dss_one (ds_ret (de_make h0.1 (T.mkr 75) (T.glo 36) h0.2.2.1 (da_cons (de_callT b_tuple (T.free 43) bt_tuple (da_cons (de_lc [("_law_plan_here", 1)] sc.nd (show blkC N__law_vol (defScope s__law_vol) _ _ = true by decide +kernel) (di_seq (de_var 0)) (dg_name 1 sc.nd) dts_nil (de_callG h1.1 (T.glo 76) h1.2.1 h1.2.2.1 (da_cons (de_var 1) da_nil))) da_nil)) da_nil))))
theorem ok__law_vol {b : Base} (T : Tx tl b) : ∃ fd, FnG b 11 (He.ga b.K "_law_vol") fd P__law_vol F__law_vol ∧ PySem.W.keepIn b.K (.ref (He.ga b.K "_law_vol")) = true ∧ Binds b.K fd P__law_vol [] ∧ True := by
  obtain ⟨fd, F, B⟩ := k__law_vol T
  exact ⟨fd, fnG_ok false F sc__law_vol (fun E => e__law_vol T E), F.kp, B, trivial⟩
theorem sc__law_clause : FnScope N__law_clause P__law_clause (defScope s__law_clause) := ⟨rfl, rfl, rfl, by decide +kernel, rfl, by decide +kernel, by decide +kernel⟩
theorem k__law_clause {b : Base} (T : Tx tl b) : ∃ fd, FunD b.K "_law_clause" "_law_clause" (defArgs s__law_clause) (defBody s__law_clause) (defScope s__law_clause) [] [] (He.ga b.K "_law_clause") fd ∧ Binds b.K fd P__law_clause [] := by
  obtain ⟨fd, F⟩ := T.s.c.def_ 40 (d := d__law_clause) rfl
  exact ⟨fd, F, F.bindsN fun _ _ _ _ _ _ us hl => match us, hl with | [_, _, _, _, _, _], _ => rfl⟩
set_option maxHeartbeats 4000000 in
theorem e__law_clause {b : Base} (T : Tx tl b) (E : XK) : DSs (b.at N__law_clause (defScope s__law_clause) 1 true) (wOf E) (defBody s__law_clause) B__law_clause := by
  obtain ⟨fdh0, h0⟩ := ok__law_sip T
  have sc := sc__law_clause
  exact (dss_cons (ds_par 6 7 sc.nd (da_cons (de_callG h0.1 (T.glo 50) h0.2.1 h0.2.2.1 (da_cons (de_var 0) (da_cons de_int da_nil))) (da_cons (de_ix (de_lst (da_cons de_str (da_cons de_str (da_cons de_str da_nil)))) (de_callG h0.1 (T.glo 50) h0.2.1 h0.2.2.1 (da_cons (de_var 0) (da_cons de_int da_nil)))) da_nil)))
  (dss_cons (ds_if (dt_val (de_var 5)) (dss_one (ds_ret (de_tup (da_cons de_str (da_cons (de_var 3) (da_cons (de_var 4) (da_cons de_str (da_cons de_int (da_cons (de_ix (de_var 1) (de_if (dt_cmp op_gtD (de_var 4) de_int) (de_callG h0.1 (T.glo 50) h0.2.1 h0.2.2.1 (da_cons (de_var 0) (da_cons (de_callB b_len (T.free 15) bt_len (da_cons (de_var 1) da_nil)) da_nil))) (de_op op_addD (de_var 2) de_int))) da_nil))))))))) dss_nil)
  (dss_cons (ds_asg [6] (de_ix (de_lst (da_cons de_str (da_cons de_str (da_cons de_str (da_cons de_str (da_cons de_str da_nil)))))) (de_var 6)) (dg_name 6 sc.nd))
  (dss_one (ds_ret (de_tup (da_cons (de_var 6) (da_cons (de_var 3) (da_cons (de_var 4) (da_cons (de_var 7) (da_cons (de_ix (de_lst (da_cons de_int (da_cons de_int (da_cons de_int (da_cons de_int (da_cons de_int (da_cons de_int da_nil))))))) (de_callG h0.1 (T.glo 50) h0.2.1 h0.2.2.1 (da_cons (de_var 0) (da_cons de_int da_nil)))) (da_cons de_str da_nil))))))))))))
theorem ok__law_clause {b : Base} (T : Tx tl b) : ∃ fd, FnG b 2 (He.ga b.K "_law_clause") fd P__law_clause F__law_clause ∧ PySem.W.keepIn b.K (.ref (He.ga b.K "_law_clause")) = true ∧ Binds b.K fd P__law_clause [] ∧ True := by
  obtain ⟨fd, F, B⟩ := k__law_clause T
  exact ⟨fd, fnG_ok false F sc__law_clause (fun E => e__law_clause T E), F.kp, B, trivial⟩
theorem sc__law_round : FnScope N__law_round P__law_round (defScope s__law_round) := ⟨rfl, rfl, rfl, by decide +kernel, rfl, by decide +kernel, by decide +kernel⟩
theorem k__law_round {b : Base} (T : Tx tl b) : ∃ fd, FunD b.K "_law_round" "_law_round" (defArgs s__law_round) (defBody s__law_round) (defScope s__law_round) [] [] (He.ga b.K "_law_round") fd ∧ Binds b.K fd P__law_round [] := by
  obtain ⟨fd, F⟩ := T.s.c.def_ 41 (d := d__law_round) rfl
  exact ⟨fd, F, F.bindsN fun _ _ _ _ _ _ us hl => match us, hl with | [_, _, _], _ => rfl⟩
set_option maxHeartbeats 4000000 in
theorem e__law_round {b : Base} (T : Tx tl b) (E : XK) : DSs (b.at N__law_round (defScope s__law_round) 2 true) (wOf E) (defBody s__law_round) B__law_round := by
  obtain ⟨fdh0, h0⟩ := ok__law_sip T
  obtain ⟨fdh1, h1⟩ := ok__law_clause T
  have sc := sc__law_round
  exact (dss_cons (ds_asg [3, 4] (de_tup (da_cons (de_cmp op_eqD' (de_callG h0.1 (T.glo 50) h0.2.1 h0.2.2.1 (da_cons (de_var 0) (da_cons de_int da_nil))) de_int) (da_cons (de_ix (de_lst (da_cons de_int (da_cons de_int (da_cons de_int (da_cons de_int (da_cons de_int (da_cons de_int da_nil))))))) (de_callG h0.1 (T.glo 50) h0.2.1 h0.2.2.1 (da_cons (de_var 0) (da_cons de_int da_nil)))) da_nil))) (dg_tup 2 (dgs_cons (Plain.of E) (dg_name 3 sc.nd) (dgs_cons (Plain.of E) (dg_name 4 sc.nd) dgs_nil))) (hw := by (intro env h; cases env; cases h; rfl)))
  (dss_cons (ds_asg [5, 6] (de_tup (da_cons (de_callG h0.1 (T.glo 50) h0.2.1 h0.2.2.1 (da_cons (de_var 0) (da_cons (de_var 4) da_nil))) (da_cons (de_op op_addD de_int (de_callG h0.1 (T.glo 50) h0.2.1 h0.2.2.1 (da_cons (de_var 0) (da_cons de_int da_nil)))) da_nil))) (dg_tup 2 (dgs_cons (Plain.of E) (dg_name 5 sc.nd) (dgs_cons (Plain.of E) (dg_name 6 sc.nd) dgs_nil))) (hw := by (intro env h; cases env; cases h; rfl)))
  (dss_cons (ds_if (dt_w (dw_and (dt_val (de_var 3)) (dw_and (dt_cmp op_eqD' (de_var 4) de_int) (dw_and1 (dt_cmp op_geD (de_op op_addD (de_var 2) de_int) (de_callB b_len (T.free 15) bt_len (da_cons (de_var 1) da_nil))))))) (dss_one (ds_asg [4] de_int (dg_name 4 sc.nd))) dss_nil)
  (dss_cons (ds_asg [6] (de_callB b_min (T.free 10) bt_min (da_cons (de_var 6) (da_cons (de_var 4) da_nil))) (dg_name 6 sc.nd))
  (dss_one (ds_ret (de_lc [("_law_k", 7)] sc.nd (show blkC N__law_round (defScope s__law_round) _ _ = true by decide +kernel) (di_range1 (T.free 9) (da_cons (de_var 6) da_nil)) (dg_name 7 sc.nd) dts_nil (de_callG h1.1 (T.glo 77) h1.2.1 h1.2.2.1 (da_cons (de_var 0) (da_cons (de_var 1) (da_cons (de_var 2) (da_cons (de_op op_modD (de_callT b_int (T.free 2) bt_int (da_cons (de_op op_addD (de_var 5) (de_var 7)) da_nil)) (de_var 4)) (da_cons (de_var 4) (da_cons (de_var 3) da_nil))))))))))))))
theorem ok__law_round {b : Base} (T : Tx tl b) : ∃ fd, FnG b 3 (He.ga b.K "_law_round") fd P__law_round F__law_round ∧ PySem.W.keepIn b.K (.ref (He.ga b.K "_law_round")) = true ∧ Binds b.K fd P__law_round [] ∧ True := by
  obtain ⟨fd, F, B⟩ := k__law_round T
  exact ⟨fd, fnG_ok false F sc__law_round (fun E => e__law_round T E), F.kp, B, trivial⟩
theorem sc__law_goal : FnScope N__law_goal P__law_goal (defScope s__law_goal) := ⟨rfl, rfl, rfl, by decide +kernel, rfl, by decide +kernel, by decide +kernel⟩
theorem k__law_goal {b : Base} (T : Tx tl b) : ∃ fd, FunD b.K "_law_goal" "_law_goal" (defArgs s__law_goal) (defBody s__law_goal) (defScope s__law_goal) [] [] (He.ga b.K "_law_goal") fd ∧ Binds b.K fd P__law_goal [] := by
  obtain ⟨fd, F⟩ := T.s.c.def_ 42 (d := d__law_goal) rfl
  exact ⟨fd, F, F.bindsN fun _ _ _ _ _ _ us hl => match us, hl with | [_], _ => rfl⟩
set_option maxHeartbeats 4000000 in
theorem e__law_goal {b : Base} (T : Tx tl b) (E : XK) : DSs (b.at N__law_goal (defScope s__law_goal) 1 true) (wOf E) (defBody s__law_goal) B__law_goal := by
  obtain ⟨fdh0, h0⟩ := ok__law_sip T
  have sc := sc__law_goal
  exact (dss_cons (ds_asg [1] (de_ix (de_lst (da_cons de_str (da_cons de_str (da_cons de_str (da_cons de_str da_nil))))) (de_callG h0.1 (T.glo 50) h0.2.1 h0.2.2.1 (da_cons (de_var 0) (da_cons de_int da_nil)))) (dg_name 1 sc.nd))
  (dss_one (ds_ret (de_tup (da_cons (de_var 1) (da_cons (de_if (dt_cmp op_eqD' (de_var 1) de_str) (de_op op_addD de_int (de_callG h0.1 (T.glo 50) h0.2.1 h0.2.2.1 (da_cons (de_var 0) (da_cons de_int da_nil)))) de_int) da_nil))))))
theorem ok__law_goal {b : Base} (T : Tx tl b) : ∃ fd, FnG b 2 (He.ga b.K "_law_goal") fd P__law_goal F__law_goal ∧ PySem.W.keepIn b.K (.ref (He.ga b.K "_law_goal")) = true ∧ Binds b.K fd P__law_goal [] ∧ True := by
  obtain ⟨fd, F, B⟩ := k__law_goal T
  exact ⟨fd, fnG_ok false F sc__law_goal (fun E => e__law_goal T E), F.kp, B, trivial⟩
theorem sc__law_plan : FnScope N__law_plan P__law_plan (defScope s__law_plan) := ⟨rfl, rfl, rfl, by decide +kernel, rfl, by decide +kernel, by decide +kernel⟩
theorem k__law_plan {b : Base} (T : Tx tl b) : ∃ fd, FunD b.K "_law_plan" "_law_plan" (defArgs s__law_plan) (defBody s__law_plan) (defScope s__law_plan) [] [] (He.ga b.K "_law_plan") fd ∧ Binds b.K fd P__law_plan [] := by
  obtain ⟨fd, F⟩ := T.s.c.def_ 43 (d := d__law_plan) rfl
  exact ⟨fd, F, F.bindsN fun _ _ _ _ _ _ us hl => match us, hl with | [_, _, _, _], _ => rfl⟩
set_option maxHeartbeats 4000000 in
theorem e__law_plan {b : Base} (T : Tx tl b) (E : XK) : DSs (b.at N__law_plan (defScope s__law_plan) 3 true) (wOf E) (defBody s__law_plan) B__law_plan := by
  obtain ⟨fdh0, h0⟩ := ok__law_goal T
  obtain ⟨fdh1, h1⟩ := ok__law_sip T
  obtain ⟨fdh2, h2⟩ := ok__law_round T
  have sc := sc__law_plan
  exact (dss_cons (ds_par3 4 5 6 sc.nd (da_cons (de_callG h0.1 (T.glo 78) h0.2.1 h0.2.2.1 (da_cons (de_var 0) da_nil)) (da_cons (de_op op_addD de_int (de_callG h1.1 (T.glo 50) h1.2.1 h1.2.2.1 (da_cons (de_var 0) (da_cons de_int da_nil)))) (da_cons (de_op op_addD de_int (de_callG h1.1 (T.glo 50) h1.2.1 h1.2.2.1 (da_cons (de_var 0) (da_cons (de_var 3) da_nil)))) da_nil))))
  (dss_one (ds_ret (de_lst (da_cons (de_ix (de_var 1) (de_var 2)) (da_cons (de_var 4) (da_cons (de_var 5) (da_cons (de_lc [("_law_k", 7)] sc.nd (show blkC N__law_plan (defScope s__law_plan) _ _ = true by decide +kernel) (di_range1 (T.free 9) (da_cons (de_var 6) da_nil)) (dg_name 7 sc.nd) dts_nil (de_callG h2.1 (T.glo 79) h2.2.1 h2.2.2.1 (da_cons (de_var 0) (da_cons (de_var 1) (da_cons (de_var 2) da_nil))))) da_nil))))))))
theorem ok__law_plan {b : Base} (T : Tx tl b) : ∃ fd, FnG b 4 (He.ga b.K "_law_plan") fd P__law_plan F__law_plan ∧ PySem.W.keepIn b.K (.ref (He.ga b.K "_law_plan")) = true ∧ Binds b.K fd P__law_plan [] ∧ True := by
  obtain ⟨fd, F, B⟩ := k__law_plan T
  exact ⟨fd, fnG_ok false F sc__law_plan (fun E => e__law_plan T E), F.kp, B, trivial⟩
theorem sc__law_good : FnScope N__law_good P__law_good (defScope s__law_good) := ⟨rfl, rfl, rfl, by decide +kernel, rfl, by decide +kernel, by decide +kernel⟩
theorem k__law_good {b : Base} (T : Tx tl b) : ∃ fd, FunD b.K "_law_good" "_law_good" (defArgs s__law_good) (defBody s__law_good) (defScope s__law_good) [] [] (He.ga b.K "_law_good") fd ∧ Binds b.K fd P__law_good [] := by
  obtain ⟨fd, F⟩ := T.s.c.def_ 44 (d := d__law_good) rfl
  exact ⟨fd, F, F.bindsN fun _ _ _ _ _ _ us hl => match us, hl with | [_, _, _], _ => rfl⟩
set_option maxHeartbeats 4000000 in
theorem e__law_good {b : Base} (T : Tx tl b) (E : XK) : DSs (b.at N__law_good (defScope s__law_good) 1 true) (wOf E) (defBody s__law_good) B__law_good := by
  obtain ⟨fdh0, h0⟩ := ok__law_sip T
  have sc := sc__law_good
  exact (dss_cons (ds_par3 3 4 5 sc.nd (da_cons (de_ix (de_var 1) (de_var 2)) (da_cons (de_op op_addD de_int (de_callG h0.1 (T.glo 50) h0.2.1 h0.2.2.1 (da_cons (de_var 0) (da_cons de_int da_nil)))) (da_cons (de_callG h0.1 (T.glo 50) h0.2.1 h0.2.2.1 (da_cons (de_var 0) (da_cons de_int da_nil))) da_nil))))
  (dss_cons (ds_if (dt_cmp op_eqD' (de_var 5) de_int) (dss_one (ds_ret (de_lst (da_cons (de_var 3) (da_cons (de_tup (da_cons de_str (da_cons de_int da_nil))) (da_cons (de_var 4) (da_cons (de_lst (da_cons (de_lst (da_cons (de_tup (da_cons de_str (da_cons de_int (da_cons de_int (da_cons de_str (da_cons de_int (da_cons de_str da_nil))))))) da_nil)) da_nil)) da_nil))))))) dss_nil)
  (dss_cons (ds_if (dt_cmp op_eqD' (de_var 5) de_int) (dss_one (ds_ret (de_lst (da_cons (de_var 3) (da_cons (de_tup (da_cons de_str (da_cons de_int da_nil))) (da_cons (de_var 4) (da_cons (de_lst (da_cons (de_lst (da_cons (de_tup (da_cons de_str (da_cons de_int (da_cons de_int (da_cons de_str (da_cons de_int (da_cons de_str da_nil))))))) da_nil)) (da_cons (de_lst (da_cons (de_tup (da_cons de_str (da_cons de_int (da_cons de_int (da_cons de_str (da_cons de_int (da_cons de_str da_nil))))))) da_nil)) da_nil))) da_nil))))))) dss_nil)
  (dss_cons (ds_if (dt_cmp op_eqD' (de_var 5) de_int) (dss_cons (ds_asg [6] (de_lst (da_cons (de_lst (da_cons (de_tup (da_cons de_str (da_cons de_int (da_cons de_int (da_cons de_str (da_cons de_int (da_cons de_str da_nil))))))) da_nil)) (da_cons (de_lst (da_cons (de_tup (da_cons de_str (da_cons de_int (da_cons de_int (da_cons de_str (da_cons de_int (da_cons (de_var 3) da_nil))))))) da_nil)) da_nil))) (dg_name 6 sc.nd))
  (dss_one (ds_ret (de_lst (da_cons (de_var 3) (da_cons (de_tup (da_cons de_str (da_cons de_int da_nil))) (da_cons (de_var 4) (da_cons (de_op op_addD (de_var 6) (de_lst (da_cons (de_lst (da_cons (de_tup (da_cons de_str (da_cons de_int (da_cons de_int (da_cons de_str (da_cons de_int (da_cons de_str da_nil))))))) da_nil)) da_nil))) da_nil)))))))) dss_nil)
  (dss_cons (ds_asg [6] (de_lst (da_cons (de_lst (da_cons (de_tup (da_cons de_str (da_cons de_int (da_cons de_int (da_cons de_str (da_cons de_int (da_cons de_str da_nil))))))) da_nil)) (da_cons (de_lst (da_cons (de_tup (da_cons de_str (da_cons de_int (da_cons de_int (da_cons de_str (da_cons de_int (da_cons de_str da_nil))))))) da_nil)) (da_cons (de_lst (da_cons (de_tup (da_cons de_str (da_cons de_int (da_cons de_int (da_cons de_str (da_cons de_int (da_cons (de_var 3) da_nil))))))) da_nil)) da_nil)))) (dg_name 6 sc.nd))
  (dss_one (ds_ret (de_lst (da_cons (de_var 3) (da_cons (de_tup (da_cons de_str (da_cons de_int da_nil))) (da_cons (de_var 4) (da_cons (de_op op_addD (de_var 6) (de_lst (da_cons (de_lst (da_cons (de_tup (da_cons de_str (da_cons de_int (da_cons de_int (da_cons de_str (da_cons de_int (da_cons de_str da_nil))))))) (da_cons (de_tup (da_cons de_str (da_cons de_int (da_cons de_int (da_cons de_str (da_cons de_int (da_cons de_str da_nil))))))) da_nil))) da_nil))) da_nil))))))))))))
theorem ok__law_good {b : Base} (T : Tx tl b) : ∃ fd, FnG b 2 (He.ga b.K "_law_good") fd P__law_good F__law_good ∧ PySem.W.keepIn b.K (.ref (He.ga b.K "_law_good")) = true ∧ Binds b.K fd P__law_good [] ∧ True := by
  obtain ⟨fd, F, B⟩ := k__law_good T
  exact ⟨fd, fnG_ok false F sc__law_good (fun E => e__law_good T E), F.kp, B, trivial⟩
theorem sc__law_labels : FnScope N__law_labels P__law_labels (defScope s__law_labels) := ⟨rfl, rfl, rfl, by decide +kernel, rfl, by decide +kernel, by decide +kernel⟩
theorem k__law_labels {b : Base} (T : Tx tl b) : ∃ fd, FunD b.K "_law_labels" "_law_labels" (defArgs s__law_labels) (defBody s__law_labels) (defScope s__law_labels) [] [] (He.ga b.K "_law_labels") fd ∧ Binds b.K fd P__law_labels [] := by
  obtain ⟨fd, F⟩ := T.s.c.def_ 45 (d := d__law_labels) rfl
  exact ⟨fd, F, F.bindsN fun _ _ _ _ _ _ us hl => match us, hl with | [_, _], _ => rfl⟩
set_option maxHeartbeats 4000000 in
theorem e__law_labels {b : Base} (T : Tx tl b) (E : XK) : DSs (b.at N__law_labels (defScope s__law_labels) 1 true) (wOf E) (defBody s__law_labels) B__law_labels := by
  obtain ⟨fdh0, h0⟩ := ok__law_sip T
  have sc := sc__law_labels
  exact (dss_cons (ds_asg [2, 3] (de_tup (da_cons (de_callG h0.1 (T.glo 50) h0.2.1 h0.2.2.1 (da_cons (de_var 0) (da_cons de_int da_nil))) (da_cons (de_ix (de_lst (da_cons de_int (da_cons de_int (da_cons de_int (da_cons de_int da_nil))))) (de_callG h0.1 (T.glo 50) h0.2.1 h0.2.2.1 (da_cons (de_var 0) (da_cons de_int da_nil)))) da_nil))) (dg_tup 2 (dgs_cons (Plain.of E) (dg_name 2 sc.nd) (dgs_cons (Plain.of E) (dg_name 3 sc.nd) dgs_nil))) (hw := by (intro env h; cases env; cases h; rfl)))
  (dss_cons (ds_asg [4] (de_lst (da_cons de_str (da_cons de_str (da_cons de_str (da_cons de_str (da_cons de_str (da_cons de_str (da_cons de_str (da_cons de_str (da_cons de_str da_nil)))))))))) (dg_name 4 sc.nd))
  (dss_one (ds_ret (de_lc [("_law_k", 5)] sc.nd (show blkC N__law_labels (defScope s__law_labels) _ _ = true by decide +kernel) (di_range1 (T.free 9) (da_cons (de_var 1) da_nil)) (dg_name 5 sc.nd) dts_nil (de_ix (de_var 4) (de_op op_modD (de_callT b_int (T.free 2) bt_int (da_cons (de_op op_addD (de_var 2) (de_op op_mulD (de_var 3) (de_var 5))) da_nil)) de_int)))))))
theorem ok__law_labels {b : Base} (T : Tx tl b) : ∃ fd, FnG b 2 (He.ga b.K "_law_labels") fd P__law_labels F__law_labels ∧ PySem.W.keepIn b.K (.ref (He.ga b.K "_law_labels")) = true ∧ Binds b.K fd P__law_labels [] ∧ True := by
  obtain ⟨fd, F, B⟩ := k__law_labels T
  exact ⟨fd, fnG_ok false F sc__law_labels (fun E => e__law_labels T E), F.kp, B, trivial⟩
theorem sc__law_sketch : FnScope N__law_sketch P__law_sketch (defScope s__law_sketch) := ⟨rfl, rfl, rfl, by decide +kernel, rfl, by decide +kernel, by decide +kernel⟩
theorem k__law_sketch {b : Base} (T : Tx tl b) : ∃ fd, FunD b.K "_law_sketch" "_law_sketch" (defArgs s__law_sketch) (defBody s__law_sketch) (defScope s__law_sketch) [] [] (He.ga b.K "_law_sketch") fd ∧ Binds b.K fd P__law_sketch [] := by
  obtain ⟨fd, F⟩ := T.s.c.def_ 46 (d := d__law_sketch) rfl
  exact ⟨fd, F, F.bindsN fun _ _ _ _ _ _ us hl => match us, hl with | [_, _, _], _ => rfl⟩
set_option maxHeartbeats 4000000 in
theorem e__law_sketch {b : Base} (T : Tx tl b) (E : XK) : DSs (b.at N__law_sketch (defScope s__law_sketch) 4 true) (wOf E) (defBody s__law_sketch) B__law_sketch := by
  obtain ⟨fdh0, h0⟩ := ok__law_labels T
  obtain ⟨fdh1, h1⟩ := ok__law_sip T
  obtain ⟨fdh2, h2⟩ := ok__law_good T
  obtain ⟨fdh3, h3⟩ := ok__law_plan T
  have sc := sc__law_sketch
  exact (dss_cons (ds_par 3 4 sc.nd (da_cons (de_callG h0.1 (T.glo 80) h0.2.1 h0.2.2.1 (da_cons (de_var 0) (da_cons (de_var 1) da_nil))) (da_cons (de_new da_nil) da_nil)))
  (dss_cons (ds_for [5] (di_range1 (T.free 9) (da_cons (de_var 1) da_nil)) (dg_name 5 sc.nd)
  (dss_one (ds_expr (de_bm PySem.F.plainAttrs_list PySem.F.slot_list_append PySem.F.type_list_append m_append (de_var 4) (da_cons (de_if (dt_cmp op_eqD' (de_callG h1.1 (T.glo 50) h1.2.1 h1.2.2.1 (da_cons (de_var 0) (da_cons de_int da_nil))) de_int) (de_callG h2.1 (T.glo 81) h2.2.1 h2.2.2.1 (da_cons (de_var 0) (da_cons (de_var 3) (da_cons (de_var 5) da_nil)))) (de_callG h3.1 (T.glo 82) h3.2.1 h3.2.2.1 (da_cons (de_var 0) (da_cons (de_var 3) (da_cons (de_var 5) (da_cons (de_var 2) da_nil)))))) da_nil)))))
  (dss_one (ds_ret (de_var 4)))))
theorem ok__law_sketch {b : Base} (T : Tx tl b) : ∃ fd, FnG b 5 (He.ga b.K "_law_sketch") fd P__law_sketch F__law_sketch ∧ PySem.W.keepIn b.K (.ref (He.ga b.K "_law_sketch")) = true ∧ Binds b.K fd P__law_sketch [] ∧ True := by
  obtain ⟨fd, F, B⟩ := k__law_sketch T
  exact ⟨fd, fnG_ok false F sc__law_sketch (fun E => e__law_sketch T E), F.kp, B, trivial⟩
theorem sc__law_right : FnScope N__law_right P__law_right (defScope s__law_right) := ⟨rfl, rfl, rfl, by decide +kernel, rfl, by decide +kernel, by decide +kernel⟩
theorem k__law_right {b : Base} (T : Tx tl b) : ∃ fd, FunD b.K "_law_right" "_law_right" (defArgs s__law_right) (defBody s__law_right) (defScope s__law_right) [] [] (He.ga b.K "_law_right") fd ∧ Binds b.K fd P__law_right [] := by
  obtain ⟨fd, F⟩ := T.s.c.def_ 47 (d := d__law_right) rfl
  exact ⟨fd, F, F.bindsN fun _ _ _ _ _ _ us hl => match us, hl with | [_], _ => rfl⟩
set_option maxHeartbeats 4000000 in
theorem e__law_right {b : Base} (T : Tx tl b) (E : XK) : DSs (b.at N__law_right (defScope s__law_right) 100 true) (wOf E) (defBody s__law_right) B__law_right := by
  obtain ⟨fdh0, h0⟩ := ok__law_sketch T
  obtain ⟨fdh1, h1⟩ := ok__law_sip T
  obtain ⟨fdh2, h2⟩ := ok__law_vol T
  obtain ⟨fdh3, h3⟩ := ok__law_great T
  obtain ⟨fdh4, h4⟩ := ok__law_spent T
  obtain ⟨fdh5, h5⟩ := ok_joins T
  obtain ⟨fdh6, h6⟩ := ok_rounds T
  have sc := sc__law_right
  exact (dss_cons (ds_asg [1] (de_callG h0.1 (T.glo 83) h0.2.1 h0.2.2.1 (da_cons (de_var 0) (da_cons (de_op op_addD de_int (de_callG h1.1 (T.glo 50) h1.2.1 h1.2.2.1 (da_cons (de_var 0) (da_cons de_int da_nil)))) (da_cons de_int da_nil)))) (dg_name 1 sc.nd))
  (dss_cons (ds_par 2 3 sc.nd (da_cons (de_callG h2.1 (T.glo 84) h2.2.1 h2.2.2.1 (da_cons (de_var 1) da_nil)) (da_cons de_newT da_nil)))
  (dss_cons (ds_for [4] (di_seq (de_lst (da_cons (de_callG h3.1 (T.glo 85) h3.2.1 h3.2.2.1 (da_cons (de_var 0) da_nil)) (da_cons (de_callG h3.1 (T.glo 85) h3.2.1 h3.2.2.1 (da_cons (de_var 0) da_nil)) da_nil)))) (dg_name 4 sc.nd)
  (dss_one (ds_for [5] (di_seq (de_var 1)) (dg_name 5 sc.nd)
  (dss_cons (ds_asg [6] (de_callG h4.1 (T.glo 48) h4.2.1 h4.2.2.1 (da_cons (de_var 1) (da_cons (de_var 3) (da_cons (de_ix (de_var 5) de_int) (da_cons (de_var 4) da_nil))))) (dg_name 6 sc.nd))
  (dss_one (ds_if (dt_cmp op_neD' (de_callB (b_repr rfl (T.x 0)) (T.free 88) bt_repr (da_cons (de_lst (da_cons (de_call h5.1 (T.glo 86) h5.2.1 h5.2.2.1 (da_cons (de_var 2) (da_cons (de_ix (de_var 5) de_int) (da_cons (de_var 4) da_nil)))) (da_cons (de_call h6.1 (T.glo 87) h6.2.1 h6.2.2.1 (da_cons (de_var 2) (da_cons (de_ix (de_var 5) de_int) (da_cons (de_var 4) da_nil)))) da_nil))) da_nil)) (de_callB (b_repr rfl (T.x 0)) (T.free 88) bt_repr (da_cons (de_lst (da_cons (de_ix (de_var 6) de_int) (da_cons (de_ix (de_var 6) de_int) da_nil))) da_nil))) (dss_one (ds_ret de_bl)) dss_nil))))))
  (dss_one (ds_ret de_bl)))))
theorem ok__law_right {b : Base} (T : Tx tl b) : ∃ fd, FnG b 101 (He.ga b.K "_law_right") fd P__law_right F__law_right ∧ PySem.W.keepIn b.K (.ref (He.ga b.K "_law_right")) = true ∧ Binds b.K fd P__law_right [] ∧ True := by
  obtain ⟨fd, F, B⟩ := k__law_right T
  exact ⟨fd, fnG_ok false F sc__law_right (fun E => e__law_right T E), F.kp, B, trivial⟩
theorem sc__law_cup : FnScope N__law_cup P__law_cup (defScope s__law_cup) := ⟨rfl, rfl, rfl, by decide +kernel, rfl, by decide +kernel, by decide +kernel⟩
theorem k__law_cup {b : Base} (T : Tx tl b) : ∃ fd, FunD b.K "_law_cup" "_law_cup" (defArgs s__law_cup) (defBody s__law_cup) (defScope s__law_cup) [] [] (He.ga b.K "_law_cup") fd ∧ Binds b.K fd P__law_cup [] := by
  obtain ⟨fd, F⟩ := T.s.c.def_ 48 (d := d__law_cup) rfl
  exact ⟨fd, F, F.bindsN fun _ _ _ _ _ _ us hl => match us, hl with | [_, _], _ => rfl⟩
set_option maxHeartbeats 4000000 in
theorem e__law_cup {b : Base} (T : Tx tl b) (E : XK) : DSs (b.at N__law_cup (defScope s__law_cup) 0 true) (wOf E) (defBody s__law_cup) B__law_cup := by
  have sc := sc__law_cup
  exact (dss_cons (ds_asg [2] (de_if (dt_cmp op_ltD (de_var 1) (de_callB b_len (T.free 15) bt_len (da_cons (de_var 0) da_nil))) (de_ix (de_var 0) (de_var 1)) (de_op op_addD (de_var 1) de_int)) (dg_name 2 sc.nd))
  (dss_cons (ds_asg [3] (de_op op_addD de_int (de_op op_mulD de_int (de_var 1))) (dg_name 3 sc.nd))
  (dss_cons (ds_for [4] (di_seq (de_op op_addD (de_sl (de_var 0) do_none (do_some de_int)) (de_lst (da_cons (de_var 2) da_nil)))) (dg_name 4 sc.nd)
  (dss_one (ds_asg [3] (de_op op_modD (de_callT b_int (T.free 2) bt_int (da_cons (de_op op_addD (de_op op_mulD (de_var 3) de_int) (de_var 4)) da_nil)) de_int) (dg_name 3 sc.nd))))
  (dss_one (ds_ret (de_new (da_cons (de_if (dt_w (dw_or (dt_cmp op_ltD (de_var 2) de_int) (dw_or1 (dt_cmp op_geD (de_var 2) (de_op op_powD de_int de_int))))) (de_callB b_abs (T.free 89) bt_abs (da_cons (de_var 2) da_nil)) de_int) (da_cons (de_var 3) (da_cons de_int da_nil)))))))))
theorem ok__law_cup {b : Base} (T : Tx tl b) : ∃ fd, FnG b 1 (He.ga b.K "_law_cup") fd P__law_cup F__law_cup ∧ PySem.W.keepIn b.K (.ref (He.ga b.K "_law_cup")) = true ∧ Binds b.K fd P__law_cup [] ∧ True := by
  obtain ⟨fd, F, B⟩ := k__law_cup T
  exact ⟨fd, fnG_ok true F sc__law_cup (fun E => e__law_cup T E), F.kp, B, trivial⟩
theorem sc_law : FnScope N_law P_law (defScope s_law) := ⟨rfl, rfl, rfl, by decide +kernel, rfl, by decide +kernel, by decide +kernel⟩
set_option maxHeartbeats 4000000 in
theorem e_law {b : Base} (T : Tx tl b) (E : XK) : DSs (b.at N_law (defScope s_law) 101 true) (wOf E) (defBody s_law) B_law := by
  obtain ⟨fdh0, h0⟩ := ok__law_right T
  obtain ⟨fdh1, h1⟩ := ok__law_cup T
  have sc := sc_law
  exact (dss_one (ds_ret (de_callB b_all (T.free 53) bt_all (da_cons (de_lc [("_law_turn", 1)] sc.nd (show blkC N_law (defScope s_law) _ _ = true by decide +kernel) (di_range1 (T.free 9) (da_cons (de_callB b_max (T.free 11) bt_max (da_cons de_int (da_cons (de_callB b_min (T.free 10) bt_min (da_cons (de_callB b_len (T.free 15) bt_len (da_cons (de_var 0) da_nil)) (da_cons de_int da_nil))) da_nil))) da_nil)) (dg_name 1 sc.nd) dts_nil (de_callG h0.1 (T.glo 91) h0.2.1 h0.2.2.1 (da_cons (de_callG h1.1 (T.glo 90) h1.2.1 h1.2.2.1 (da_cons (de_var 0) (da_cons (de_var 1) da_nil))) da_nil))) da_nil))))
theorem ok_law {b : Base} (T : Tx tl b) (fd : FuncData) (F : FunD b.K "law" "law" (defArgs s_law) (defBody s_law) (defScope s_law) [] [] (He.ga b.K "law") fd) : (∀ (s : Shared) (u : Value), BindsTo s fd ⟨[u], []⟩ [("_law_cells", u)]) ∧ FnG b 102 (He.ga b.K "law") fd P_law F_law := by
  have B := FunD.bindsA (ps := P_law) F fun _ _ _ _ _ _ us hl => match us, hl with | [_], _ => rfl
  exact ⟨fun s u => B s [u] rfl, fnG_ok false F sc_law (fun E => e_law T E)⟩
end J
open PySem PySem.W PySem.Calls PyProof.Rows in
set_option maxHeartbeats 0 in
theorem PySem.Challenge.cw_joinrounds_k38_whole_great_lengths_holds : PySem.Challenge.rw_joinrounds_k38_whole_great_lengths.Holds := by
  w_on; o_law
  refine HandSHeadRun.head_any (r := OpenLaw.row PySem.Challenge.rw_joinrounds_k38_whole_great_lengths) (q := view (OpenLaw.row PySem.Challenge.rw_joinrounds_k38_whole_great_lengths).prog [72]) (H := J.hk) (ob := J.ob) (M := 20000) (loose := J.nmL) (d := HandSHeadRun.topDef (OpenLaw.row PySem.Challenge.rw_joinrounds_k38_whole_great_lengths).prog 72) (kwd := []) J.ob_eq
    (by kernel_rfl) (fun s => by kernel_rfl) J.run (by kernel_rfl) (by kernel_rfl) (by kernel_rfl) (by rfl) (by first | assumption | decide +kernel) (by decide +kernel) ⟨rfl, rfl, rfl, rfl, rfl, by decide +kernel⟩ ?hw ?hc
  case hw => w_witness2
  case hc =>
    exact DS.walkR (N := 1500) (l := PySem.Challenge.rw_joinrounds_k38_whole_great_lengths) (n := 63) (k := 102) (L := J.tl) (G := J.F_law) rfl (by decide) (by kernel_rfl) (by kernel_rfl) ⟨rfl, by decide, by decide⟩ (by decide +kernel) (by decide +kernel) (fun K c => c.c.def_ 49 (d := J.d_law) rfl) (fun b _ T fd F => J.ok_law T fd F) ⟨92, rfl⟩ J.law_true
