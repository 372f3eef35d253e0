import PyProof.Rows.All
import Wide.All
import OpenK.AllK
import Wide.FinOn
import KE.KStateDown
import HandS.ForMost
import HandS.ForExc
import HandS.HotCalls
import HandS.Lambda
import KE.KNestM
import HandS.CallSlots
import HandS.HeadHook2
import PyProof.ReprRoads
import HandS.TupAny
import HandS.IsInst
import HandS.Property
import HandS.RaiseMore
import HandS.Style
import HandS.NoneIn
import HandS.FStr
import HandS.Star
import HandS.DictComp
import HandS.MakeKw
import HandS.HeadEnd
import KE.KExcSuper
import KE.KExcInit
import HandS.Head0
import HandS.Head1
import HandS.Head2
import HandS.ClsMeth
import KE.GoesEnum
import HandS.Iter
import HandS.Conv
import HandS.SortInts
import KE.KCallOwn
import HandS.ExcInit
import HandS.ExcOwn
import HandS.TryMany
import HandS.ExcField
import HandS.ExcIs
import KE.KExcIs
import OpenK.KOps
import HandS.Records
import HandS.SetFor
import HandS.Strs
import HandS.Text
import HandS.Deep
import HandS.SetBool
import KE.KIndexOf
import HandS.TupMul
import PyProof.EqKinds
import PyProof.FactsAll.dict
import HandS.List
import PyProof.TupleOfStr
import PyProof.StrBlock2
import PyProof.Rows.StrMul
import PyProof.ReprNest
import HandS.HeadHook3
import KE.KEqNest
import PyProof.InstEq
import HandS.ExcValue
import HandS.Codes
import PySem.Challenge.RW_joinrounds_k01_limits_and_errors
set_option Elab.async false
set_option linter.all false
set_option maxRecDepth 100000
/-! # DS: a data semantics over the hand layer. D: plain trees; Mu: the few objects that change; a def is a plain function. -/
namespace DS
open PySem PySem.Spec PyProof.Rows L2

/-- the exception that a suite handles: its place, its dict, its class -/
structure Hx where
  x : Addr
  dd : Option Addr
  c : Str
deriving DecidableEq
inductive D where
  | non | bl (b : Bool) | int (i : Int) | str (x : Str)
  | tup (xs : List D) | lst (xs : List D) | fix (xs : List D)
  | obj (c : Str) (fs : List (Str × D))
  | dct (kvs : List (Str × D))
  | loc (n : Nat) | glo (x : Str) | ty (n : String)
  | exn (k : Hx) (fs : List (Str × D))
  | exv (c : Str) (fs : List (Str × D))
  | nst (xs : List Str) | odc

inductive Cell where
  | lst (xs : List D) | ins (c : Str) (fs : List (Str × D)) | dct (fs : List (Str × D)) | dead | tab (q : Str) | opn (xs : List D) (h : D) (ls : List D) | dtt (kvs : List (List Key × D))
abbrev Mu := List Cell
abbrev Rho := List (Option D)

inductive Out (α : Type) where
  | ok (a : α) (m : Mu) | exc (c : Str) (fs : List (Str × D)) (m : Mu) | stuck
def Out.bind {α β : Type} : Out α → (α → Mu → Out β) → Out β
  | .ok a m, k => k a m
  | .exc c fs m, _ => .exc c fs m
  | .stuck, _ => .stuck

/-! ### locations below a bound -/
mutual
def D.inB (n : Nat) : D → Bool
  | .loc m => decide (m < n)
  | .tup xs => D.inL n xs
  | .lst xs => D.inL n xs
  | .fix xs => D.inL n xs
  | .obj _ fs => D.inF n fs
  | .dct fs => D.inF n fs
  | .exn _ fs => D.inF n fs
  | .exv _ fs => D.inF n fs
  | _ => true
def D.inL (n : Nat) : List D → Bool
  | [] => true
  | x :: r => D.inB n x && D.inL n r
def D.inF (n : Nat) : List (Str × D) → Bool
  | [] => true
  | (_, x) :: r => D.inB n x && D.inF n r
end
def Cell.inB (n : Nat) : Cell → Bool
  | .lst xs => D.inL n xs
  | .ins _ fs => D.inF n fs
  | .dct fs => D.inF n fs
  | .dead => true
  | .tab _ => true
  | .opn xs h ls => D.inL n xs && (D.inB n h && D.inL n ls)
  | .dtt kvs => D.inL n (kvs.map (·.2))

/-! ### which value stands for which tree -/
/-- an exception that is not raised: its class, its dict -/
def ExV (cls : Value) (od : Option Addr) (a : Addr) : HO := .ext fun h => ∃ (ob : Obj) (vs : Array Value), h.get? a = some ob ∧ ob.cls = cls ∧ ob.dict = od ∧ ob.data = .fields vs
mutual
inductive Rp (K : PySem.W.Frag) (F : Hp) (al : List Addr) : D → V → Prop
  | non : Rp K F al .non .non
  | bl (b : Bool) : Rp K F al (.bl b) (.bl b)
  | int (i : Int) : Rp K F al (.int i) (.int i)
  | str (x : Str) : Rp K F al (.str x) (.str x)
  | tup {a : Addr} {vs : List V} {ds : List D} : SqT K F a vs → RpL K F al ds vs → Rp K F al (.tup ds) (.ref a)
  | lst {a : Addr} {vs : List V} {ds : List D} : F a = some (.lst vs) → RpL K F al ds vs → Rp K F al (.lst ds) (.ref a)
  | fix {a : Addr} {vs : List V} {ds : List D} : SqL K F a vs → RpL K F al ds vs → Rp K F al (.fix ds) (.ref a)
  | obj {a dx : Addr} {c : Str} {fs : List (Str × V)} {gs : List (Str × D)} : F a = some (.ins (He.ga K c) dx fs) → RpF K F al gs fs → Rp K F al (.obj c gs) (.ref a)
  | dct {a : Addr} {fs : List (Str × V)} {gs : List (Str × D)} : F a = some (.dK (fs.map fun p => (Sum.inr p.1, p.2))) → RpF K F al gs fs → Rp K F al (.dct gs) (.ref a)
  | loc {n : Nat} {a : Addr} : al[n]? = some a → Rp K F al (.loc n) (.ref a)
  | glo (x : Str) : Rp K F al (.glo x) (.ref (He.ga K x))
  | ty (n : String) : Rp K F al (.ty n) (.ty n)
  | exn {k : Hx} {fs : List (Str × V)} {gs : List (Str × D)} : (fs = [] ∧ k.dd = none ∨ ∃ y, k.dd = some y ∧ F y = some (.xd fs)) → RpF K F al gs fs → Rp K F al (.exn k gs) (.ref k.x)
  | exv {a : Addr} {od : Option Addr} {c : Str} {fs : List (Str × V)} {gs : List (Str × D)} : F a = some (ExV (.ref (He.ga K c)) od a) → (fs = [] ∧ od = none ∨ ∃ y, od = some y ∧ F y = some (.xd fs)) → RpF K F al gs fs → Rp K F al (.exv c gs) (.ref a)
  | nst {a : Addr} {o : Obj} {xs : List Str} : F a = some (.frz o (.tup (xs.map V.str))) → o.dict = none → Rp K F al (.nst xs) (.ref a)
  | odc {a : Addr} {kvs : List (Key × V)} : F a = some (.dK kvs) → Rp K F al .odc (.ref a)
inductive RpL (K : PySem.W.Frag) (F : Hp) (al : List Addr) : List D → List V → Prop
  | nil : RpL K F al [] []
  | cons {d : D} {v : V} {ds : List D} {vs : List V} : Rp K F al d v → RpL K F al ds vs → RpL K F al (d :: ds) (v :: vs)
inductive RpF (K : PySem.W.Frag) (F : Hp) (al : List Addr) : List (Str × D) → List (Str × V) → Prop
  | nil : RpF K F al [] []
  | cons {x : Str} {d : D} {v : V} {ds : List (Str × D)} {vs : List (Str × V)} : Rp K F al d v → RpF K F al ds vs → RpF K F al ((x, d) :: ds) ((x, v) :: vs)
end

/-- more is known -/
structure Le (F : Hp) (al : List Addr) (F' : Hp) (al' : List Addr) : Prop where
  f : ∀ (a : Addr) (o : HO), F a = some o → F' a = some o
  a : ∀ (n : Nat) (a : Addr), al[n]? = some a → al'[n]? = some a
theorem Le.refl {F : Hp} {al : List Addr} : Le F al F al := ⟨fun _ _ h => h, fun _ _ h => h⟩
theorem Le.trans {F F1 F2 : Hp} {al al1 al2 : List Addr} (a : Le F al F1 al1) (b : Le F1 al1 F2 al2) : Le F al F2 al2 :=
  ⟨fun x o h => b.f x o (a.f x o h), fun n x h => b.a n x (a.a n x h)⟩
theorem rd_up {F F' : Hp} (h : ∀ a o, F a = some o → F' a = some o) {a : Addr} {u : HO} (r : Rd F a u) : Rd F' a u := by
  rcases r with r | ⟨o, r⟩
  · exact .inl (h _ _ r)
  · exact .inr ⟨o, h _ _ r⟩
theorem sqt_up {K : PySem.W.Frag} {F F' : Hp} (h : ∀ a o, F a = some o → F' a = some o) {a : Addr} {xs : List V} (r : SqT K F a xs) : SqT K F' a xs := by
  rcases r with r | r
  · exact .inl (rd_up h r)
  · exact .inr r
theorem sql_up {K : PySem.W.Frag} {F F' : Hp} (h : ∀ a o, F a = some o → F' a = some o) {a : Addr} {xs : List V} (r : SqL K F a xs) : SqL K F' a xs := by
  rcases r with r | r
  · exact .inl (rd_up h r)
  · exact .inr r
section
variable {K : PySem.W.Frag} {F F' : Hp} {al al' : List Addr}
mutual
theorem Rp.up (e : Le F al F' al') : ∀ {d : D} {v : V}, Rp K F al d v → Rp K F' al' d v
  | _, _, .non => .non
  | _, _, .bl b => .bl b
  | _, _, .int i => .int i
  | _, _, .str x => .str x
  | _, _, .tup s r => .tup (sqt_up e.f s) (RpL.up e r)
  | _, _, .lst s r => .lst (e.f _ _ s) (RpL.up e r)
  | _, _, .fix s r => .fix (sql_up e.f s) (RpL.up e r)
  | _, _, .obj s r => .obj (e.f _ _ s) (RpF.up e r)
  | _, _, .dct s r => .dct (e.f _ _ s) (RpF.up e r)
  | _, _, .loc s => .loc (e.a _ _ s)
  | _, _, .glo x => .glo x
  | _, _, .ty n => .ty n
  | _, _, .exn s r => .exn (s.imp id fun ⟨y, a, b⟩ => ⟨y, a, e.f _ _ b⟩) (RpF.up e r)
  | _, _, .exv h s r => .exv (e.f _ _ h) (s.imp id fun ⟨y, a, b⟩ => ⟨y, a, e.f _ _ b⟩) (RpF.up e r)
  | _, _, .nst s h => .nst (e.f _ _ s) h
  | _, _, .odc s => .odc (e.f _ _ s)
theorem RpL.up (e : Le F al F' al') : ∀ {d : List D} {v : List V}, RpL K F al d v → RpL K F' al' d v
  | _, _, .nil => .nil
  | _, _, .cons r q => .cons (Rp.up e r) (RpL.up e q)
theorem RpF.up (e : Le F al F' al') : ∀ {d : List (Str × D)} {v : List (Str × V)}, RpF K F al d v → RpF K F' al' d v
  | _, _, .nil => .nil
  | _, _, .cons r q => .cons (Rp.up e r) (RpF.up e q)
end
mutual
theorem Rp.cut {n : Nat} : ∀ {d : D} {v : V}, Rp K F al d v → d.inB n = true → Rp K F (al.take n) d v
  | _, _, .non, _ => .non
  | _, _, .bl b, _ => .bl b
  | _, _, .int i, _ => .int i
  | _, _, .str x, _ => .str x
  | _, _, .tup s r, h => .tup s (RpL.cut r (by rw [D.inB] at h; exact h))
  | _, _, .lst s r, h => .lst s (RpL.cut r (by rw [D.inB] at h; exact h))
  | _, _, .fix s r, h => .fix s (RpL.cut r (by rw [D.inB] at h; exact h))
  | _, _, .obj s r, h => .obj s (RpF.cut r (by rw [D.inB] at h; exact h))
  | _, _, .dct s r, h => .dct s (RpF.cut r (by rw [D.inB] at h; exact h))
  | _, _, .loc s, h => .loc (by
      rw [D.inB] at h
      rw [List.getElem?_take_of_lt (of_decide_eq_true h)]
      exact s)
  | _, _, .glo x, _ => .glo x
  | _, _, .ty n, _ => .ty n
  | _, _, .exn s r, h => .exn s (RpF.cut r (by rw [D.inB] at h; exact h))
  | _, _, .exv g s r, h => .exv g s (RpF.cut r (by rw [D.inB] at h; exact h))
  | _, _, .nst s h, _ => .nst s h
  | _, _, .odc s, _ => .odc s
theorem RpL.cut {n : Nat} : ∀ {d : List D} {v : List V}, RpL K F al d v → D.inL n d = true → RpL K F (al.take n) d v
  | _, _, .nil, _ => .nil
  | _, _, .cons r q, h => by
    rw [D.inL, Bool.and_eq_true] at h
    exact .cons (Rp.cut r h.1) (RpL.cut q h.2)
theorem RpF.cut {n : Nat} : ∀ {d : List (Str × D)} {v : List (Str × V)}, RpF K F al d v → D.inF n d = true → RpF K F (al.take n) d v
  | _, _, .nil, _ => .nil
  | _, _, .cons r q, h => by
    rw [D.inF, Bool.and_eq_true] at h
    exact .cons (Rp.cut r h.1) (RpF.cut q h.2)
end
theorem RpL.len : ∀ {d : List D} {v : List V}, RpL K F al d v → d.length = v.length
  | _, _, .nil => rfl
  | _, _, .cons _ q => by rw [List.length_cons, List.length_cons, RpL.len q]
theorem RpL.get : ∀ {ds : List D} {vs : List V} {i : Nat} {d : D}, RpL K F al ds vs → ds[i]? = some d → ∃ v, vs[i]? = some v ∧ Rp K F al d v
  | _, _, 0, _, .cons r _, e => by
    cases e
    exact ⟨_, rfl, r⟩
  | _, _, i + 1, d, .cons _ q, e => by
    obtain ⟨v, h1, h2⟩ := RpL.get (i := i) (d := d) q (by simpa using e)
    exact ⟨v, by simpa using h1, h2⟩
theorem RpL.append : ∀ {ds es : List D} {vs ws : List V}, RpL K F al ds vs → RpL K F al es ws → RpL K F al (ds ++ es) (vs ++ ws)
  | _, _, _, _, .nil, s => s
  | _, _, _, _, .cons r t, s => .cons r (RpL.append t s)
theorem RpL.set {d : D} {v : V} (r : Rp K F al d v) : ∀ {ds : List D} {vs : List V} (i : Nat), RpL K F al ds vs → RpL K F al (ds.set i d) (vs.set i v)
  | _, _, _, .nil => .nil
  | _, _, 0, .cons _ t => .cons r t
  | _, _, i + 1, .cons q t => .cons q (RpL.set r i t)
theorem RpL.take : ∀ {ds : List D} {vs : List V} (n : Nat), RpL K F al ds vs → RpL K F al (ds.take n) (vs.take n)
  | _, _, 0, _ => .nil
  | _, _, _ + 1, .nil => .nil
  | _, _, n + 1, .cons r t => .cons r (RpL.take n t)
theorem RpL.drop : ∀ {ds : List D} {vs : List V} (n : Nat), RpL K F al ds vs → RpL K F al (ds.drop n) (vs.drop n)
  | _, _, 0, r => r
  | _, _, _ + 1, .nil => .nil
  | _, _, n + 1, .cons _ t => RpL.drop n t
theorem RpL.snoc {ds : List D} {vs : List V} {d : D} {v : V} (a : RpL K F al ds vs) (b : Rp K F al d v) : RpL K F al (ds ++ [d]) (vs ++ [v]) := a.append (.cons b .nil)
theorem RpF.look {x : Str} : ∀ {ds : List (Str × D)} {vs : List (Str × V)}, RpF K F al ds vs →
    (ds.lookup x = none → vs.lookup x = none) ∧ ∀ d, ds.lookup x = some d → ∃ v, vs.lookup x = some v ∧ Rp K F al d v
  | _, _, .nil => ⟨fun _ => rfl, (fun _ h => nomatch h)⟩
  | _, _, .cons (x := y) r q => by
    have ih := RpF.look (x := x) q
    simp only [List.lookup_cons]
    cases h : (x == y) with
    | true => exact ⟨(fun z => nomatch z), fun d e => ⟨_, rfl, by cases e; exact r⟩⟩
    | false => exact ih
theorem RpF.len : ∀ {d : List (Str × D)} {v : List (Str × V)}, RpF K F al d v → d.length = v.length
  | _, _, .nil => rfl
  | _, _, .cons _ q => by rw [List.length_cons, List.length_cons, RpF.len q]
end
end DS

namespace DS
open PySem PySem.Spec PyProof.Rows L2

/-- the code object of the def x, and its table -/
def tabP (K : PySem.W.Frag) (x : Str) : Addr := match PySem.W.tabIn K x with
  | some (_, P) => P
  | none => 0
def tabC (K : PySem.W.Frag) (x : Str) : Addr := match PySem.W.tabIn K x with
  | some (c, _) => c
  | none => 0
def lamQ (x : Str) : Str := x ++ ".<locals>." ++ "<lambda>"
/-! ### the store -/
def CellOk (K : PySem.W.Frag) (F : Hp) (al : List Addr) (H : Hp) (a : Addr) : Cell → Prop
  | .lst ds => F a = none ∧ ∃ vs, H a = some (.lst vs) ∧ RpL K F al ds vs
  | .ins c gs => F a = none ∧ ∃ dx fs, H a = some (.ins (He.ga K c) dx fs) ∧ RpF K F al gs fs
  | .dct gs => F a = none ∧ ∃ fs, H a = some (.dK (fs.map fun p => (Sum.inr p.1, p.2))) ∧ RpF K F al gs fs
  | .dead => ∃ o, F a = some o
  | .tab x => (F a = none ∧ a = tabP K x) ∧ ∃ ps : Array Value, H a = some (.tbl ps) ∧ TriplesOk ps.toList ∧ ∀ (pos : Pos) (cv : Value), codeAmong pos ps.toList = some cv → ∃ c, cv = .ref c ∧ F c = some (LamX.CodeO c (lamQ x))
  | .opn xs h ls => F a = none ∧ ∃ (vs : List V) (p q : Addr) (hv : V) (ws : List V), H a = some (.lst (vs ++ [.ref p])) ∧ RpL K F al xs vs ∧ F p = some (.lst [hv, .ref q]) ∧ Rp K F al h hv ∧ (F q = none ∧ q ∉ al) ∧ H q = some (.lst ws) ∧ RpL K F al ls ws
  | .dtt gs => F a = none ∧ ∃ ks : List (List Key × V), H a = some (.dT ks) ∧ ks.map (·.1) = gs.map (·.1) ∧ RpL K F al (gs.map (·.2)) (ks.map (·.2))
structure Wd (K : PySem.W.Frag) (F : Hp) (al : List Addr) (m : Mu) (H : Hp) : Prop where
  sub : ∀ (a : Addr) (o : HO), F a = some o → H a = some o
  len : al.length = m.length
  nd : al.Nodup
  cell : ∀ (n : Nat) (a : Addr) (c : Cell), al[n]? = some a → m[n]? = some c → CellOk K F al H a c
  gen : ∀ (n : Nat) (c : Cell), m[n]? = some c → c.inB n = true
  tr : ∀ a ∈ al, H a ≠ none
  nt : ∀ (a : Addr) (ps : Array Value), F a ≠ some (.tbl ps)

/-- what is wanted behind a piece of code, by its outcome -/
def Post {δ ν : Type} (K : PySem.W.Frag) (R : Hp → List Addr → δ → ν → Prop) (W : XK) (F : Hp) (al : List Addr) (Q : ν → Hp → Prop) : Out δ → Prop
  | .ok d m => ∀ v H' F' al', Le F al F' al' → Wd K F' al' m H' → R F' al' d v → Q v H'
  | .exc c fs m => ∀ dd H' F' al' gs, Le F al F' al' → Wd K F' al' m H' → RpF K F' al' fs gs → (gs = [] ∧ dd = none ∨ ∃ x, dd = some x ∧ F' x = some (.xd gs)) → W (.ref (He.ga K c)) dd H'
  | .stuck => False
/-- one step more -/
theorem Post.step {δ ν δ' ν' : Type} {K : PySem.W.Frag} {R : Hp → List Addr → δ → ν → Prop} {R' : Hp → List Addr → δ' → ν' → Prop} {W : XK} {F : Hp} {al : List Addr} {Q : ν → Hp → Prop} {Q' : ν' → Hp → Prop} {o : Out δ} {k : δ → Mu → Out δ'}
    (h : Post K R' W F al Q' (o.bind k))
    (hk : ∀ d m v H1 F1 al1, Le F al F1 al1 → Wd K F1 al1 m H1 → R F1 al1 d v → Post K R' W F1 al1 Q' (k d m) → Q v H1) : Post K R W F al Q o := by
  have up : ∀ {F1 al1} {o : Out δ'}, Le F al F1 al1 → Post K R' W F al Q' o → Post K R' W F1 al1 Q' o := fun {F1 al1 o} e p => by
    cases o with
    | ok d m => exact fun v H' F' al' e' => p v H' F' al' (e.trans e')
    | exc c fs m => exact fun dd H' F' al' gs e' => p dd H' F' al' gs (e.trans e')
    | stuck => exact p
  cases o with
  | ok d m => exact fun v H' F' al' e w r => hk d m v H' F' al' e w r (up e h)
  | exc c fs m => exact h
  | stuck => exact h
theorem Post.up {δ ν : Type} {K : PySem.W.Frag} {R : Hp → List Addr → δ → ν → Prop} {W : XK} {F F1 : Hp} {al al1 : List Addr} {Q : ν → Hp → Prop} {o : Out δ} (e : Le F al F1 al1) (p : Post K R W F al Q o) : Post K R W F1 al1 Q o := by
  cases o with
  | ok d m => exact fun v H' F' al' e' => p v H' F' al' (e.trans e')
  | exc c fs m => exact fun dd H' F' al' gs e' => p dd H' F' al' gs (e.trans e')
  | stuck => exact p
theorem Post.imp {δ ν : Type} {K : PySem.W.Frag} {R : Hp → List Addr → δ → ν → Prop} {W W' : XK} {F : Hp} {al : List Addr} {Q Q' : ν → Hp → Prop} {o : Out δ} (p : Post K R W F al Q o) (hQ : ∀ v H, Q v H → Q' v H) (hW : ∀ c d H, W c d H → W' c d H) : Post K R W' F al Q' o := by
  cases o with
  | ok d m => exact fun v H' F' al' a b c => hQ _ _ (p v H' F' al' a b c)
  | exc c fs m => exact fun dd H' F' al' gs a b c d => hW _ _ _ (p dd H' F' al' gs a b c d)
  | stuck => exact p

/-- names' values -/
structure EnvOk (K : PySem.W.Frag) (F : Hp) (al : List Addr) (r : Rho) (σ : L2.St) : Prop where
  len : r.length = σ.length
  get : ∀ (i : Nat) (d : D), r[i]? = some (some d) → ∃ v, σ[i]? = some (some v) ∧ Rp K F al d v
theorem EnvOk.up {K : PySem.W.Frag} {F F' : Hp} {al al' : List Addr} {r : Rho} {σ : L2.St} (e : Le F al F' al') (h : EnvOk K F al r σ) : EnvOk K F' al' r σ :=
  ⟨h.len, fun i d q => let ⟨v, a, b⟩ := h.get i d q; ⟨v, a, b.up e⟩⟩
theorem EnvOk.set {K : PySem.W.Frag} {F : Hp} {al : List Addr} {r : Rho} {σ : L2.St} {d : D} {v : V} (h : EnvOk K F al r σ) (i : Nat) (q : Rp K F al d v) : EnvOk K F al (r.set i (some d)) (σ.set i (some v)) := by
  refine ⟨by rw [List.length_set, List.length_set]; exact h.len, fun j e hj => ?_⟩
  by_cases hij : j = i
  · subst hij
    have hl : j < r.length := by
      have := (List.getElem?_eq_some_iff.mp hj).1
      rw [List.length_set] at this
      exact this
    rw [List.getElem?_set_self hl] at hj
    cases hj
    exact ⟨v, List.getElem?_set_self (by rw [← h.len]; exact hl), q⟩
  · rw [List.getElem?_set_ne (Ne.symm hij)] at hj
    obtain ⟨w, a, b⟩ := h.get j e hj
    exact ⟨w, by rw [List.getElem?_set_ne (Ne.symm hij)]; exact a, b⟩

/-! ### contexts by their static part -/
structure SC where
  P : Program
  w : World
  K : PySem.W.Frag
  mg : Str → Option Value
  base : Heap
  N : List Str
  sc : Scope
  k : Nat
  fnB : Str → Bool
  gd : Bool
  calm : Bool := true
  hx : Option (Hx × Obj) := none
  df : Bool := true
  me : Option Str := none
  j : Nat := 0
/-- room for j frames, one by one -/
structure RoomJ (j : Nat) (A : Around) : Prop where
  dp : A.depth + j + 5 < recursionLimit
  un : A.units + 6 * j + 200 < cLine
structure Dyn where
  A : Around
  s_0 : Shared
  H_0 : Hp
  env : Env
  outer : List Env
  stack : List Env
  ex : List Addr
  fn : Str → Bool
  pn : List (Addr × Obj)
  xe : Value → Shared → Prop
def SC.cx (c : SC) (y : Dyn) : Cx where
  prog := c.P
  w := c.w
  K := c.K
  mg := c.mg
  base := c.base
  A := y.A
  N := c.N
  s_0 := y.s_0
  H_0 := y.H_0
  env := y.env
  outer := y.outer
  stack := y.stack
  ex := y.ex
  fn := y.fn
  calm := c.calm
  pn := y.pn
  xe := y.xe
structure OkD (c : SC) (W : WX) (y : Dyn) : Prop where
  scope : y.env.scope = c.sc
  room : L2H.RoomH c.k y.A
  hd : c.calm = true → y.A.handled = none
  takes : Takes (c.cx y) W
  fn : ∀ x, c.fnB x = true → y.fn x = true
  gd : c.gd = true → y.A.guards = some []
  own : PassesOwn (model c.P c.w) y.A y.env y.xe
  pin : ∀ k ob, c.hx = some (k, ob) → (k.x, ob) ∈ y.pn ∧ ob.cls = .ref (He.ga c.K k.c) ∧ ob.dict = k.dd ∧ ∃ vs, ob.data = .fields vs
  df : c.df = true → y.stack = y.env :: y.outer ∧ y.env.frame = some y.env.locals ∧ y.ex = []
  me : ∀ x, c.me = some x → y.env.code = .ref (tabC c.K x) ∧ y.env.qual = x ++ ".<locals>."
  rj : 0 < c.j → RoomJ c.j y.A
theorem OkD.rm {c : SC} {W : WX} {y : Dyn} (hy : OkD c W y) (hc : c.calm = true) {k : Nat} (hk : k ≤ c.k) : Room k y.A :=
  ⟨hy.hd hc, by have := hy.room.dp; omega, by have := hy.room.un; omega⟩
theorem OkD.un64 {c : SC} {W : WX} {y : Dyn} (hy : OkD c W y) : y.A.units + 64 < cLine := by have := hy.room.un; omega
abbrev atS (W : WX) (σ : L2.St) : XK := fun c d H => W c d σ H

abbrev XE' := Rho → Mu → Out D
abbrev XT := Rho → Mu → Out Bool
abbrev XA := Rho → Mu → Out (List D)
abbrev RD (K : PySem.W.Frag) : Hp → List Addr → D → V → Prop := fun F al d v => Rp K F al d v
abbrev RL (K : PySem.W.Frag) : Hp → List Addr → List D → List V → Prop := fun F al d v => RpL K F al d v
abbrev RB : Hp → List Addr → Bool → Bool → Prop := fun _ _ a b => a = b

/-- an expression, a test, an argument list -/
def DE (c : SC) (W : WX) (e : Expr) (f : XE') : Prop := ∃ t : TE, (∀ y, OkD c W y → PE (c.cx y) e t) ∧
  ∀ r m σ H F al Q, EnvOk c.K F al r σ → Wd c.K F al m H → Post c.K (RD c.K) (atS W σ) F al Q (f r m) → t σ H Q
def DT (c : SC) (W : WX) (e : Expr) (f : XT) : Prop := ∃ t : TT, (∀ y, OkD c W y → PT (c.cx y) e t) ∧
  ∀ r m σ H F al Q, EnvOk c.K F al r σ → Wd c.K F al m H → Post c.K RB (atS W σ) F al Q (f r m) → t σ H Q
def DW (c : SC) (W : WX) (e : Expr) (f : XT) : Prop := ∃ t : TT, (∀ y, OkD c W y → PW (c.cx y) e t) ∧
  ∀ r m σ H F al Q, EnvOk c.K F al r σ → Wd c.K F al m H → Post c.K RB (atS W σ) F al Q (f r m) → t σ H Q
def DA (c : SC) (W : WX) (es : List Expr) (f : XA) : Prop := (∃ t : TA, (∀ y, OkD c W y → PA (c.cx y) es t) ∧
  ∀ r m σ H F al Q, EnvOk c.K F al r σ → Wd c.K F al m H → Post c.K (RL c.K) (atS W σ) F al Q (f r m) → t σ H Q) ∧ ∀ r m ds m', f r m = .ok ds m' → ds.length = es.length

/-! ### statements -/
inductive SO where
  | next (r : Rho) (m : Mu) | ret (d : D) (m : Mu) | brk (r : Rho) (m : Mu) | cont (r : Rho) (m : Mu) | exc (c : Str) (fs : List (Str × D)) (r : Rho) (m : Mu) | stuck
abbrev XS := Rho → Mu → SO
def PostS (K : PySem.W.Frag) (W : WX) (F : Hp) (al : List Addr) (E : Ends) : SO → Prop
  | .next r m => ∀ σ' H' F' al', Le F al F' al' → Wd K F' al' m H' → EnvOk K F' al' r σ' → E.nx σ' H'
  | .brk r m => ∀ σ' H' F' al', Le F al F' al' → Wd K F' al' m H' → EnvOk K F' al' r σ' → E.bk σ' H'
  | .cont r m => ∀ σ' H' F' al', Le F al F' al' → Wd K F' al' m H' → EnvOk K F' al' r σ' → E.ct σ' H'
  | .ret d m => ∀ v H' F' al', Le F al F' al' → Wd K F' al' m H' → Rp K F' al' d v → E.rt v H'
  | .exc c fs r m => ∀ dd σ' H' F' al' gs, Le F al F' al' → Wd K F' al' m H' → EnvOk K F' al' r σ' → RpF K F' al' fs gs → (gs = [] ∧ dd = none ∨ ∃ x, dd = some x ∧ F' x = some (.xd gs)) → W (.ref (He.ga K c)) dd σ' H'
  | .stuck => False
theorem PostS.up {K : PySem.W.Frag} {W : WX} {F F1 : Hp} {al al1 : List Addr} {E : Ends} {o : SO} (e : Le F al F1 al1) (p : PostS K W F al E o) : PostS K W F1 al1 E o := by
  cases o with
  | next r m => exact fun σ' H' F' al' e' => p σ' H' F' al' (e.trans e')
  | brk r m => exact fun σ' H' F' al' e' => p σ' H' F' al' (e.trans e')
  | cont r m => exact fun σ' H' F' al' e' => p σ' H' F' al' (e.trans e')
  | ret d m => exact fun v H' F' al' e' => p v H' F' al' (e.trans e')
  | exc c fs r m => exact fun dd σ' H' F' al' gs e' => p dd σ' H' F' al' gs (e.trans e')
  | stuck => exact p
def DSt (c : SC) (W : WX) (st : Stmt) (f : XS) : Prop := ∃ t : TS, (∀ y, OkD c W y → PS (c.cx y) st t) ∧
  ∀ r m σ H F al E, EnvOk c.K F al r σ → Wd c.K F al m H → PostS c.K W F al E (f r m) → t E σ H
def DSs (c : SC) (W : WX) (st : List Stmt) (f : XS) : Prop := ∃ t : TS, (∀ y, OkD c W y → PSs (c.cx y) st t) ∧
  ∀ r m σ H F al E, EnvOk c.K F al r σ → Wd c.K F al m H → PostS c.K W F al E (f r m) → t E σ H
/-- an expression's outcome, then a statement -/
def Out.stm {α : Type} (r : Rho) : Out α → (α → Mu → SO) → SO
  | .ok a m, k => k a m
  | .exc c fs m, _ => .exc c fs r m
  | .stuck, _ => .stuck
theorem PostS.step {δ ν : Type} {K : PySem.W.Frag} {R : Hp → List Addr → δ → ν → Prop} {W : WX} {F : Hp} {al : List Addr} {E : Ends} {Q : ν → Hp → Prop} {o : Out δ} {k : δ → Mu → SO} {r : Rho} {σ : L2.St}
    (he : EnvOk K F al r σ) (h : PostS K W F al E (o.stm r k))
    (hk : ∀ d m v H1 F1 al1, Le F al F1 al1 → Wd K F1 al1 m H1 → R F1 al1 d v → PostS K W F1 al1 E (k d m) → Q v H1) : Post K R (atS W σ) F al Q o := by
  cases o with
  | ok d m => exact fun v H' F' al' e w q => hk d m v H' F' al' e w q (h.up e)
  | exc c fs m => exact fun dd H' F' al' gs e w q z => h dd σ H' F' al' gs e w (he.up e) q z
  | stuck => exact h
end DS

namespace DS
open PySem PySem.Spec PyProof.Rows L2

/-! ### the store's laws -/
section
variable {K : PySem.W.Frag} {F : Hp} {al : List Addr} {m : Mu} {H : Hp}
theorem ext_new {p : Addr} {o : HO} (h : F p = none) : Le F al (upd F p o) al :=
  ⟨fun a u e => by rw [upd_ne (ne_of_none e h)]; exact e, fun _ _ e => e⟩
theorem nt_upd {F : Hp} {p : Addr} {o : HO} (h : ∀ a ps, F a ≠ some (.tbl ps)) (ho : ∀ ps, o ≠ .tbl ps) (a : Addr) (ps : Array Value) : upd F p o a ≠ some (.tbl ps) := by
  by_cases e : a = p
  · rw [e, upd_same]
    exact fun z => ho ps (Option.some.inj z)
  · rw [upd_ne e]
    exact h a ps
theorem Wd.fnone (w : Wd K F al m H) {p : Addr} (h : H p = none) : F p = none := by
  cases q : F p with
  | none => rfl
  | some o => rw [w.sub p o q] at h; cases h
theorem CellOk.upTo {F' H' : Hp} {al' : List Addr} {a : Addr} {c : Cell} (e : Le F al F' al') (hF : F a = none → F' a = none) (hH : H a ≠ none → H' a = H a) (hq : ∀ q, q ∉ al → F q = none → H q ≠ none → F' q = none ∧ H' q = H q ∧ q ∉ al') (h : CellOk K F al H a c) : CellOk K F' al' H' a c := by
  cases c with
  | lst ds =>
    obtain ⟨z, vs, h1, h2⟩ := h
    exact ⟨hF z, vs, by rw [hH (by rw [h1]; simp)]; exact h1, h2.up e⟩
  | ins c gs =>
    obtain ⟨z, dx, fs, h1, h2⟩ := h
    exact ⟨hF z, dx, fs, by rw [hH (by rw [h1]; simp)]; exact h1, h2.up e⟩
  | dct gs =>
    obtain ⟨z, fs, h1, h2⟩ := h
    exact ⟨hF z, fs, by rw [hH (by rw [h1]; simp)]; exact h1, h2.up e⟩
  | dead => exact let ⟨o, z⟩ := h; ⟨o, e.f _ _ z⟩
  | dtt gs =>
    obtain ⟨z, ks, h1, hk, h2⟩ := h
    exact ⟨hF z, ks, by rw [hH (by rw [h1]; simp)]; exact h1, hk, h2.up e⟩
  | opn xs h0 ls =>
    obtain ⟨z, vs, p, q, hv, ws, h1, h2, h3, h4, h5, h6, h7⟩ := h
    obtain ⟨q1, q2, q3⟩ := hq q h5.2 h5.1 (by rw [h6]; simp)
    exact ⟨hF z, vs, p, q, hv, ws, by rw [hH (by rw [h1]; simp)]; exact h1, h2.up e, e.f _ _ h3, h4.up e, ⟨q1, q3⟩, by rw [q2]; exact h6, h7.up e⟩
  | tab q =>
    obtain ⟨z, ps, h1, h2, h3⟩ := h
    exact ⟨⟨hF z.1, z.2⟩, ps, by rw [hH (by rw [h1]; simp)]; exact h1, h2, fun pos cv hc => let ⟨c, e1, e2⟩ := h3 pos cv hc; ⟨c, e1, e.f _ _ e2⟩⟩
/-- a new object that stays as it is -/
theorem Wd.new {p : Addr} {o : HO} (w : Wd K F al m H) (h : H p = none) (ho : ∀ ps, o ≠ .tbl ps := by intro ps h; cases h) : Wd K (upd F p o) al m (upd H p o) := by
  have hf := w.fnone h
  have ne : ∀ a, H a ≠ none → a ≠ p := fun a ha e => ha (by rw [e]; exact h)
  refine ⟨fun a u e => ?_, w.len, w.nd, fun n a c h1 h2 => ?_, w.gen, fun a ha => ?_, nt_upd w.nt ho⟩
  · by_cases ha : a = p
    · subst ha; rw [upd_same] at e; rw [upd_same]; exact e
    · rw [upd_ne ha] at e; rw [upd_ne ha]; exact w.sub a u e
  · have hne := ne a (w.tr a (List.mem_of_getElem? h1))
    exact (w.cell n a c h1 h2).upTo (ext_new hf) (fun z => by rw [upd_ne hne]; exact z) (fun _ => upd_ne hne) fun q q1 q2 q3 => ⟨by rw [upd_ne (ne q q3)]; exact q2, upd_ne (ne q q3), q1⟩
  · rw [upd_ne (ne a (w.tr a ha))]; exact w.tr a ha
theorem Le.snoc {p : Addr} : Le F al F (al ++ [p]) :=
  ⟨fun _ _ e => e, fun n a e => by
    rw [List.getElem?_append_left (List.getElem?_eq_some_iff.mp e).1]; exact e⟩
/-- a new object that will change -/
theorem Wd.newCell {p : Addr} {o : HO} {c : Cell} (w : Wd K F al m H) (h : H p = none) (hc : CellOk K F (al ++ [p]) (upd H p o) p c) (hg : c.inB m.length = true) : Wd K F (al ++ [p]) (m ++ [c]) (upd H p o) := by
  have ne : ∀ a, H a ≠ none → a ≠ p := fun a ha e => ha (by rw [e]; exact h)
  have hp : p ∉ al := fun z => w.tr p z h
  refine ⟨fun a u e => ?_, by simp [w.len], ?_, fun n a c' h1 h2 => ?_, fun n c' h2 => ?_, fun a ha => ?_, w.nt⟩
  · have := w.sub a u e
    rw [upd_ne (ne a (by rw [this]; simp))]; exact this
  · exact List.nodup_append.mpr ⟨w.nd, by simp, fun a ha b hb => by
      rw [List.mem_singleton] at hb; subst hb; rintro rfl; exact hp ha⟩
  · by_cases hn : n < al.length
    · rw [List.getElem?_append_left hn] at h1
      rw [List.getElem?_append_left (by rw [← w.len]; exact hn)] at h2
      have hne := ne a (w.tr a (List.mem_of_getElem? h1))
      exact (w.cell n a c' h1 h2).upTo Le.snoc (fun z => z) (fun _ => upd_ne hne) fun q q1 q2 q3 => ⟨q2, upd_ne (ne q q3), fun z => (List.mem_append.mp z).elim q1 fun z => ne q q3 (List.mem_singleton.mp z)⟩
    · have hl := (List.getElem?_eq_some_iff.mp h1).1
      rw [List.length_append, List.length_singleton] at hl
      have e : n = al.length := by omega
      subst e
      rw [List.getElem?_append_right (Nat.le_refl _), Nat.sub_self] at h1
      rw [w.len, List.getElem?_append_right (Nat.le_refl _), Nat.sub_self] at h2
      cases h1; cases h2
      exact hc
  · by_cases hn : n < m.length
    · rw [List.getElem?_append_left hn] at h2
      exact w.gen n c' h2
    · have hl := (List.getElem?_eq_some_iff.mp h2).1
      rw [List.length_append, List.length_singleton] at hl
      have e : n = m.length := by omega
      subst e
      rw [List.getElem?_append_right (Nat.le_refl _), Nat.sub_self] at h2
      cases h2
      exact hg
  · by_cases e : a = p
    · subst e; rw [upd_same]; simp
    · rw [upd_ne e]
      rcases List.mem_append.mp ha with z | z
      · exact w.tr a z
      · exact absurd (List.mem_singleton.mp z) e
/-- an object changes -/
theorem Wd.write {n : Nat} {a : Addr} {o : HO} {c : Cell} (w : Wd K F al m H) (h1 : al[n]? = some a) (hf : F a = none) (hc : CellOk K F al (upd H a o) a c) (hg : c.inB n = true) : Wd K F al (m.set n c) (upd H a o) := by
  have inj : ∀ {k b}, al[k]? = some b → k ≠ n → b ≠ a := fun {k b} hb hk e => by
    subst e
    obtain ⟨l1, e1⟩ := List.getElem?_eq_some_iff.mp h1
    obtain ⟨l2, e2⟩ := List.getElem?_eq_some_iff.mp hb
    exact hk ((List.getElem_inj w.nd).mp (e2.trans e1.symm))
  refine ⟨fun b u e => ?_, by rw [List.length_set]; exact w.len, w.nd, fun k b c' h3 h4 => ?_, fun k c' h4 => ?_, fun b hb => ?_, w.nt⟩
  · have hb : b ≠ a := fun z => by rw [z, hf] at e; cases e
    rw [upd_ne hb]; exact w.sub b u e
  · by_cases hk : k = n
    · subst hk
      rw [h1] at h3; cases h3
      rw [List.getElem?_set_self (by rw [← w.len]; exact (List.getElem?_eq_some_iff.mp h1).1)] at h4
      cases h4
      exact hc
    · rw [List.getElem?_set_ne (Ne.symm hk)] at h4
      exact (w.cell k b c' h3 h4).upTo Le.refl (fun z => z) (fun _ => upd_ne (inj h3 hk)) fun q q1 q2 q3 => ⟨q2, upd_ne (fun (z : q = a) => q1 (by rw [z]; exact List.mem_of_getElem? h1)), q1⟩
  · by_cases hk : k = n
    · subst hk
      rw [List.getElem?_set_self (by rw [← w.len]; exact (List.getElem?_eq_some_iff.mp h1).1)] at h4
      cases h4
      exact hg
    · rw [List.getElem?_set_ne (Ne.symm hk)] at h4
      exact w.gen k c' h4
  · by_cases e : b = a
    · subst e; rw [upd_same]; simp
    · rw [upd_ne e]; exact w.tr b hb
end

/-! ### lists, tuples, as they lie -/
def lstOf (m : Mu) : D → Option (List D)
  | .lst xs => some xs
  | .fix xs => some xs
  | .loc n => match m[n]? with
    | some (.lst xs) => some xs
    | _ => none
  | _ => none
/-- .. as an object that stands by itself -/
def ownOf (m : Mu) : D → Option (List D)
  | .lst xs => some xs
  | .loc n => match m[n]? with
    | some (.lst xs) => some xs
    | _ => none
  | _ => none
section
variable {K : PySem.W.Frag} {F : Hp} {al : List Addr} {m : Mu} {H : Hp} {d : D} {v : V} {xs : List D}
theorem ownOf_ok (w : Wd K F al m H) (r : Rp K F al d v) (h : ownOf m d = some xs) : ∃ a vs, v = .ref a ∧ H a = some (.lst vs) ∧ RpL K F al xs vs := by
  cases r with
  | lst s q => cases h; exact ⟨_, _, rfl, w.sub _ _ s, q⟩
  | @loc n a s =>
    unfold ownOf at h
    cases e : m[n]? with
    | none => simp [e] at h
    | some c =>
      cases c with
      | lst ys =>
        simp [e] at h
        subst h
        obtain ⟨_, vs, h1, h2⟩ := w.cell n a _ s e
        exact ⟨a, vs, rfl, h1, h2⟩
      | ins c gs => simp [e] at h
      | dct gs => simp [e] at h
      | dead => simp [e] at h
      | tab q => simp [e] at h
      | opn _ _ _ => simp [e] at h
      | dtt _ => simp [e] at h
  | _ => simp [ownOf] at h
theorem lstOf_ok (w : Wd K F al m H) (r : Rp K F al d v) (h : lstOf m d = some xs) : ∃ a vs, v = .ref a ∧ SqL K H a vs ∧ RpL K F al xs vs := by
  cases r with
  | lst s q => cases h; exact ⟨_, _, rfl, .of (w.sub _ _ s), q⟩
  | fix s q => cases h; exact ⟨_, _, rfl, sql_up w.sub s, q⟩
  | @loc n a s =>
    unfold lstOf at h
    cases e : m[n]? with
    | none => simp [e] at h
    | some c =>
      cases c with
      | lst ys =>
        simp [e] at h
        subst h
        obtain ⟨_, vs, h1, h2⟩ := w.cell n a _ s e
        exact ⟨a, vs, rfl, .of h1, h2⟩
      | ins c gs => simp [e] at h
      | dct gs => simp [e] at h
      | dead => simp [e] at h
      | tab q => simp [e] at h
      | opn _ _ _ => simp [e] at h
      | dtt _ => simp [e] at h
  | _ => simp [lstOf] at h
end

/-! ### names and constants -/
section
variable {c : SC} {W : WX} {pos : Pos}
def xVar (i : Nat) : XE' := fun r m => match r[i]? with
  | some (some d) => .ok d m
  | _ => .stuck
def xC (d : D) : XE' := fun _ m => .ok d m
theorem OkD.vis {y : Dyn} {x : Str} (hy : OkD c W y) (h : Vis c.sc x) : Vis (c.cx y).env.scope x := by
  have e : (c.cx y).env.scope = c.sc := hy.scope
  rw [e]; exact h
theorem OkD.loc {y : Dyn} {x : Str} (hy : OkD c W y) (h : L2.Loc c.sc x) : L2.Loc (c.cx y).env.scope x := by
  have e : (c.cx y).env.scope = c.sc := hy.scope
  rw [e]; exact h
theorem OkD.gl {y : Dyn} {x : Str} (hy : OkD c W y) (h : c.sc.names.lookup x = some .globalImplicit) : Gl (c.cx y) x := by
  have e : (c.cx y).env.scope = c.sc := hy.scope
  show (c.cx y).env.scope.names.lookup x = _
  rw [e]; exact h
theorem de_var (i : Nat) {x : Str} (hN : c.N[i]? = some x := by rfl) (hv : Vis c.sc x := by first | exact .inl rfl | exact .inr (.inl rfl) | exact .inr (.inr rfl)) (hd : (x == ("__debug__" : Str)) = false := by decide) (hcd : (x == ("__classdict__" : Str)) = false := by decide) : DE c W (.Name x pos) (xVar i) := by
  refine ⟨tVar i, fun y hy => pe_var hN (hy.vis hv) hd hcd, fun r m σ H F al Q he hw p => ?_⟩
  unfold xVar at p
  cases q : r[i]? with
  | none => simp only [q] at p; exact p.elim
  | some o =>
    cases o with
    | none => simp only [q] at p; exact p.elim
    | some d =>
      simp only [q] at p
      obtain ⟨v, h1, h2⟩ := he.get i d q
      exact ⟨v, h1, p v H F al Le.refl hw h2⟩
theorem de_int {i : Int} {j : Nat} : DE c W (.Constant (.int i) j pos) (xC (.int i)) :=
  ⟨_, fun _ _ => pe_int, fun _ _ _ H F al Q _ hw p => p _ H F al Le.refl hw (.int i)⟩
theorem de_bl {b : Bool} {j : Nat} : DE c W (.Constant (.bool b) j pos) (xC (.bl b)) :=
  ⟨_, fun _ _ => pe_bl, fun _ _ _ H F al Q _ hw p => p _ H F al Le.refl hw (.bl b)⟩
theorem de_non {j : Nat} : DE c W (.Constant .none j pos) (xC .non) :=
  ⟨_, fun _ _ => pe_non, fun _ _ _ H F al Q _ hw p => p _ H F al Le.refl hw .non⟩
theorem de_str {x : Str} {j : Nat} : DE c W (.Constant (.str x) j pos) (xC (.str x)) :=
  ⟨_, fun _ _ => pe_str, fun _ _ _ H F al Q _ hw p => p _ H F al Le.refl hw (.str x)⟩
theorem de_gint {x : Str} {i : Int} (hm : ∃ t, c.mg x = some (.int i t)) (hg : c.sc.names.lookup x = some .globalImplicit := by rfl) (hd : (x == ("__debug__" : Str)) = false := by decide) : DE c W (.Name x pos) (xC (.int i)) := by
  obtain ⟨t, hm⟩ := hm
  exact ⟨_, fun y hy => pe_glob (hy.gl hg) hm (show RelV (.int i) _ from ⟨t, rfl⟩) hd, fun _ _ _ H F al Q _ hw p => p _ H F al Le.refl hw (.int i)⟩
/-! ### operators -/
def OpD (c : SC) (f : Value → Value → Sem Value) (g : D → D → Mu → Out D) : Prop := ∃ r : R2, (∀ W y, OkD c W y → OpR (c.cx y) f r) ∧
  ∀ (W : XK) d e m x y H F al Q, Wd c.K F al m H → Rp c.K F al d x → Rp c.K F al e y → Post c.K (RD c.K) W F al Q (g d e m) → r x y H Q
def xOp (g : D → D → Mu → Out D) (a b : XE') : XE' := fun r m => (a r m).bind fun x m1 => (b r m1).bind fun y m2 => g x y m2
variable {a b e : Expr} {fa fb fe : XE'} {g : D → D → Mu → Out D}
theorem de_op {op : Operator} (ho : OpD c (binaryOp op) g) (ha : DE c W a fa) (hb : DE c W b fb) : DE c W (.BinOp a op b pos) (xOp g fa fb) := by
  obtain ⟨r, h1, h2⟩ := ho
  obtain ⟨ta, a1, a2⟩ := ha
  obtain ⟨tb, b1, b2⟩ := hb
  refine ⟨tOp r ta tb, fun y hy => pe_op (h1 W y hy) (a1 y hy) (b1 y hy), fun ρ m σ H F al Q he hw p => ?_⟩
  exact a2 ρ m σ H F al _ he hw (Post.step p fun x m1 v H1 F1 al1 e1 w1 q1 p1 => b2 ρ m1 σ H1 F1 al1 _ (he.up e1) w1
    (Post.step p1 fun z m2 u H2 F2 al2 e2 w2 q2 p2 => h2 _ x z m2 v u H2 F2 al2 Q w2 (q1.up e2) q2 p2))
theorem de_cmp {op : CmpOp} (ho : OpD c (compareOp op) g) (ha : DE c W a fa) (hb : DE c W b fb) (hm : behindInMarks op b = false := by rfl) : DE c W (.Compare a [op] [b] pos) (xOp g fa fb) := by
  obtain ⟨r, h1, h2⟩ := ho
  obtain ⟨ta, a1, a2⟩ := ha
  obtain ⟨tb, b1, b2⟩ := hb
  refine ⟨tOp r ta tb, fun y hy => pe_cmpR (h1 W y hy) (a1 y hy) (b1 y hy) hm, fun ρ m σ H F al Q he hw p => ?_⟩
  exact a2 ρ m σ H F al _ he hw (Post.step p fun x m1 v H1 F1 al1 e1 w1 q1 p1 => b2 ρ m1 σ H1 F1 al1 _ (he.up e1) w1
    (Post.step p1 fun z m2 u H2 F2 al2 e2 w2 q2 p2 => h2 _ x z m2 v u H2 F2 al2 Q w2 (q1.up e2) q2 p2))
def asB : D → Mu → Out Bool
  | .bl b, m => .ok b m
  | _, _ => .stuck
def xTest (f : XE') : XT := fun r m => (f r m).bind asB
theorem Post.asB {K : PySem.W.Frag} {W : XK} {F : Hp} {al : List Addr} {Q : Bool → Hp → Prop} {d : D} {v : V} {m : Mu} {H : Hp} (w : Wd K F al m H) (r : Rp K F al d v) (p : Post K RB W F al Q (DS.asB d m)) : ∃ k, v = .bl k ∧ Q k H := by
  cases r with
  | bl b => exact ⟨b, rfl, p b H F al Le.refl w rfl⟩
  | _ => exact p.elim
theorem dt_cmp {op : CmpOp} (ho : OpD c (compareOp op) g) (ha : DE c W a fa) (hb : DE c W b fb) (hm : behindInMarks op b = false := by rfl) : DT c W (.Compare a [op] [b] pos) (xTest (xOp g fa fb)) := by
  obtain ⟨r, h1, h2⟩ := ho
  obtain ⟨ta, a1, a2⟩ := ha
  obtain ⟨tb, b1, b2⟩ := hb
  refine ⟨tTest (tOp r ta tb), fun y hy => pt_cmpR (h1 W y hy) (a1 y hy) (b1 y hy) hm, fun ρ m σ H F al Q he hw p => ?_⟩
  have p' : Post c.K RB (atS W σ) F al Q ((fa ρ m).bind fun x m1 => (fb ρ m1).bind fun y m2 => (g x y m2).bind asB) := by
    have e : xTest (xOp g fa fb) ρ m = ((fa ρ m).bind fun x m1 => (fb ρ m1).bind fun y m2 => (g x y m2).bind asB) := by
      unfold xTest xOp
      cases fa ρ m with
      | ok x m1 =>
        show Out.bind (Out.bind (fb ρ m1) _) _ = Out.bind (fb ρ m1) _
        cases fb ρ m1 <;> rfl
      | exc _ _ _ => rfl
      | stuck => rfl
    rw [← e]; exact p
  exact a2 ρ m σ H F al _ he hw (Post.step p' fun x m1 v H1 F1 al1 e1 w1 q1 p1 => b2 ρ m1 σ H1 F1 al1 _ (he.up e1) w1
    (Post.step p1 fun z m2 u H2 F2 al2 e2 w2 q2 p2 => h2 _ x z m2 v u H2 F2 al2 _ w2 (q1.up e2) q2 (Post.step p2 fun d m3 v3 H3 F3 al3 e3 w3 q3 p3 => Post.asB w3 q3 p3)))
/-- an expression whose value is a bool, as a test -/
theorem dt_val (h : DE c W e fe) (he : ∀ env whole, isTrue e env whole = (do let v ← whole; standAt e.pos; holding [v] (truthy v)) := by intro _ _; rfl) : DT c W e (xTest fe) := by
  obtain ⟨t, h1, h2⟩ := h
  refine ⟨tB t, fun y hy => pt_val (h1 y hy) (he _), fun ρ m σ H F al Q ho hw p => ?_⟩
  exact h2 ρ m σ H F al _ ho hw (Post.step p fun d m3 v3 H3 F3 al3 e3 w3 q3 p3 => Post.asB w3 q3 p3)
/-! ### and, or, not -/
variable {ta tb : XT} {rest : List Expr}
def xAndT (a b : XT) : XT := fun r m => (a r m).bind fun k m1 => if k then b r m1 else .ok false m1
def xOrT (a b : XT) : XT := fun r m => (a r m).bind fun k m1 => if k then .ok true m1 else b r m1
def xNotT (a : XT) : XT := fun r m => (a r m).bind fun k m1 => .ok (!k) m1
theorem dw_or1 (ha : DT c W a ta) : DW c W (.BoolOp .Or [a] pos) ta := by
  obtain ⟨t, h1, h2⟩ := ha
  exact ⟨t, fun y hy => pw_or1 (h1 y hy), h2⟩
theorem dw_or (ha : DT c W a ta) (hb : DW c W (.BoolOp .Or (b :: rest) pos) tb) : DW c W (.BoolOp .Or (a :: b :: rest) pos) (xOrT ta tb) := by
  obtain ⟨t, a1, a2⟩ := ha
  obtain ⟨u, b1, b2⟩ := hb
  refine ⟨tOr t u, fun y hy => pw_or (a1 y hy) (b1 y hy), fun ρ m σ H F al Q he hw p => ?_⟩
  refine a2 ρ m σ H F al _ he hw (Post.step p fun k m1 k' H1 F1 al1 e1 w1 q1 p1 => ?_)
  cases q1
  cases k with
  | true => exact p1 true H1 F1 al1 Le.refl w1 rfl
  | false => exact b2 ρ m1 σ H1 F1 al1 _ (he.up e1) w1 p1
theorem dt_w (h : DW c W e ta) : DT c W e ta := by
  obtain ⟨t, a1, a2⟩ := h
  exact ⟨t, fun y hy => (a1 y hy).pt, a2⟩
theorem dt_not (ha : DT c W a ta) : DT c W (.UnaryOp .Not a pos) (xNotT ta) := by
  obtain ⟨t, a1, a2⟩ := ha
  refine ⟨tNot t, fun y hy => pt_not (a1 y hy), fun ρ m σ H F al Q he hw p => ?_⟩
  refine a2 ρ m σ H F al _ he hw (Post.step p fun k m1 k' H1 F1 al1 e1 w1 q1 p1 => ?_)
  cases q1
  exact p1 _ H1 F1 al1 Le.refl w1 rfl
/-! as values -/
def xAnd (a b : XE') : XE' := fun r m => ((a r m).bind asB).bind fun k m1 => if k then b r m1 else .ok (.bl false) m1
def xOr (a b : XE') : XE' := fun r m => ((a r m).bind asB).bind fun k m1 => if k then .ok (.bl true) m1 else b r m1
def xNot (a : XE') : XE' := fun r m => ((a r m).bind asB).bind fun k m1 => .ok (.bl (!k)) m1
theorem Post.assoc {δ δ' δ2 : Type} {ν2 : Type} {K : PySem.W.Frag} {R : Hp → List Addr → δ2 → ν2 → Prop} {W : XK} {F : Hp} {al : List Addr} {Q : ν2 → Hp → Prop} {o : Out δ} {k : δ → Mu → Out δ'} {l : δ' → Mu → Out δ2} (p : Post K R W F al Q ((o.bind k).bind l)) : Post K R W F al Q (o.bind fun d m => (k d m).bind l) := by
  cases o <;> exact p
theorem Post.asB2 {δ ν : Type} {K : PySem.W.Frag} {R : Hp → List Addr → δ → ν → Prop} {W : XK} {F : Hp} {al : List Addr} {Q : ν → Hp → Prop} {d : D} {v : V} {m : Mu} {l : Bool → Mu → Out δ} (r : Rp K F al d v) (p : Post K R W F al Q ((DS.asB d m).bind l)) : ∃ k, v = .bl k ∧ Post K R W F al Q (l k m) := by
  cases r with
  | bl b => exact ⟨b, rfl, p⟩
  | _ => exact p.elim
theorem de_one {op : BoolOp} (ha : DE c W a fa) : DE c W (.BoolOp op [a] pos) fa := by
  obtain ⟨t, a1, a2⟩ := ha
  exact ⟨t, fun y hy => pe_one (a1 y hy), a2⟩
theorem de_and (ha : DE c W a fa) (hb : DE c W (.BoolOp .And (b :: rest) pos) fb) : DE c W (.BoolOp .And (a :: b :: rest) pos) (xAnd fa fb) := by
  obtain ⟨t, a1, a2⟩ := ha
  obtain ⟨u, b1, b2⟩ := hb
  refine ⟨_, fun y hy => pe_and (a1 y hy) (b1 y hy), fun ρ m σ H F al Q he hw p => ?_⟩
  refine a2 ρ m σ H F al _ he hw (Post.step p.assoc fun d m1 v H1 F1 al1 e1 w1 q1 p1 => ?_)
  obtain ⟨k, rfl, p2⟩ := Post.asB2 q1 p1
  refine ⟨k, rfl, ?_⟩
  cases k with
  | true => exact b2 ρ m1 σ H1 F1 al1 _ (he.up e1) w1 p2
  | false => exact p2 _ H1 F1 al1 Le.refl w1 (.bl false)
theorem de_not (ha : DE c W a fa) : DE c W (.UnaryOp .Not a pos) (xNot fa) := by
  obtain ⟨t, a1, a2⟩ := ha
  refine ⟨_, fun y hy => pe_not (a1 y hy), fun ρ m σ H F al Q he hw p => ?_⟩
  refine a2 ρ m σ H F al _ he hw (Post.step p.assoc fun d m1 v H1 F1 al1 e1 w1 q1 p1 => ?_)
  obtain ⟨k, rfl, p2⟩ := Post.asB2 q1 p1
  exact ⟨k, rfl, p2 _ H1 F1 al1 Le.refl w1 (.bl _)⟩
def xIf (t : XT) (a b : XE') : XE' := fun r m => (t r m).bind fun k m1 => if k then a r m1 else b r m1
/-! a < b < c -/
def xChain (g g' : D → D → Mu → Out D) (a b k : XE') : XE' := fun r m => (a r m).bind fun x m1 => (b r m1).bind fun y m2 => ((g x y m2).bind asB).bind fun q m3 => if q then (k r m3).bind fun z m4 => g' y z m4 else .ok (.bl false) m3
theorem de_chain {op op' : CmpOp} {g' : D → D → Mu → Out D} {d : Expr} {fd : XE'} (ho : OpD c (compareOp op) g) (ho' : OpD c (compareOp op') g') (ha : DE c W a fa) (hb : DE c W b fb) (hd : DE c W d fd) (hm : lastMarks [op, op'] [b, d] = false := by with_unfolding_all rfl) : DE c W (.Compare a [op, op'] [b, d] pos) (xChain g g' fa fb fd) := by
  obtain ⟨r, r1, r2⟩ := ho
  obtain ⟨r', r1', r2'⟩ := ho'
  obtain ⟨t, a1, a2⟩ := ha
  obtain ⟨u, b1, b2⟩ := hb
  obtain ⟨v, d1, d2⟩ := hd
  refine ⟨tChain r r' t u v, fun y hy => pe_chain (r1 W y hy) (r1' W y hy) (a1 y hy) (b1 y hy) (d1 y hy) hm, fun ρ m σ H F al Q he hw p => ?_⟩
  refine a2 ρ m σ H F al _ he hw (Post.step p fun x m1 vx H1 F1 al1 e1 w1 q1 p1 => ?_)
  refine b2 ρ m1 σ H1 F1 al1 _ (he.up e1) w1 (Post.step p1 fun y m2 vy H2 F2 al2 e2 w2 q2 p2 => ?_)
  refine r2 _ x y m2 vx vy H2 F2 al2 _ w2 (q1.up e2) q2 (Post.step p2.assoc fun z m3 vz H3 F3 al3 e3 w3 q3 p3 => ?_)
  obtain ⟨k, rfl, p4⟩ := Post.asB2 q3 p3
  refine ⟨k, rfl, ?_⟩
  cases k with
  | true =>
    show v σ H3 _
    exact d2 ρ m3 σ H3 F3 al3 _ (((he.up e1).up e2).up e3) w3 (Post.step p4 fun z m4 vz H4 F4 al4 e4 w4 q4 p5 => r2' _ y z m4 vy vz H4 F4 al4 Q w4 ((q2.up e3).up e4) q4 p5)
  | false => exact p4 _ H3 F3 al3 Le.refl w3 (.bl false)
/-! ### argument lists, displays -/
variable {es : List Expr} {fr : XA}
def xaNil : XA := fun _ m => .ok [] m
def xaCons (a : XE') (r : XA) : XA := fun ρ m => (a ρ m).bind fun x m1 => (r ρ m1).bind fun xs m2 => .ok (x :: xs) m2
theorem da_nil : DA c W [] xaNil := ⟨⟨tNil, fun _ _ => pa_nil, fun _ _ _ H F al Q _ hw p => p [] H F al Le.refl hw .nil⟩, fun r m ds m' h => by cases h; rfl⟩
theorem da_cons (ha : DE c W e fe) (hr : DA c W es fr) (hs : ∀ env, starEach (e :: es) env = (false, eval e env) :: starEach es env := by intro _; rfl) : DA c W (e :: es) (xaCons fe fr) := by
  obtain ⟨t, a1, a2⟩ := ha
  obtain ⟨⟨u, b1, b2⟩, hl⟩ := hr
  refine ⟨⟨tCons t u, fun y hy => pa_cons (a1 y hy) (b1 y hy) (hs _), fun ρ m σ H F al Q he hw p => ?_⟩, fun r m ds m' h => ?_⟩
  · refine a2 ρ m σ H F al _ he hw (Post.step p fun x m1 v H1 F1 al1 e1 w1 q1 p1 => ?_)
    refine b2 ρ m1 σ H1 F1 al1 _ (he.up e1) w1 (Post.step p1 fun xs m2 vs H2 F2 al2 e2 w2 q2 p2 => ?_)
    exact p2 _ H2 F2 al2 Le.refl w2 (.cons (q1.up e2) q2)
  · unfold xaCons at h
    cases h1 : fe r m with
    | ok x m1 =>
      rw [h1] at h
      have h' : Out.bind (fr r m1) (fun xs m2 => .ok (x :: xs) m2) = .ok ds m' := h
      cases h2 : fr r m1 with
      | ok xs m2 =>
        rw [h2] at h'
        cases h'
        rw [List.length_cons, hl _ _ _ _ h2, List.length_cons]
      | exc _ _ _ => rw [h2] at h'; cases h'
      | stuck => rw [h2] at h'; cases h'
    | exc _ _ _ => rw [h1] at h; cases h
    | stuck => rw [h1] at h; cases h
def xTup (a : XA) : XE' := fun r m => (a r m).bind fun ds m1 => .ok (.tup ds) m1
def xLst (a : XA) : XE' := fun r m => (a r m).bind fun ds m1 => .ok (.lst ds) m1
/-- a list that will change -/
def xNew (a : XA) : XE' := fun r m => (a r m).bind fun ds m1 => if D.inL m1.length ds then .ok (.loc m1.length) (m1 ++ [.lst ds]) else .stuck
/-- the length of what an argument list gives is known -/
theorem Post.lenA {K : PySem.W.Frag} {ν : Type} {R : Hp → List Addr → D → ν → Prop} {W : XK} {F : Hp} {al : List Addr} {Q : ν → Hp → Prop} {n : Nat} {o : Out (List D)} {k : List D → Mu → Out D} (p : Post K R W F al Q (o.bind k)) (hl : ∀ ds m', o = .ok ds m' → ds.length = n) :
    Post K R W F al Q (o.bind fun ds m => if ds.length = n then k ds m else .stuck) := by
  cases o with
  | ok ds m =>
    show Post K R W F al Q (if ds.length = n then k ds m else .stuck)
    rw [if_pos (hl ds m rfl)]; exact p
  | exc _ _ _ => exact p
  | stuck => exact p
theorem small_line {n : Nat} (h : n ≤ 100000) : n ≤ sizeLine := Nat.le_trans h (by rw [sizeLine_eq]; decide)
theorem de_tup {k : Nat} (h : DA c W es fr) (hz : es.length ≤ 100000 := by decide) : DE c W (.Tuple es k pos) (xTup fr) := by
  obtain ⟨⟨t, a1, a2⟩, hl⟩ := h
  refine ⟨tTup t, fun y hy => pe_tup (a1 y hy), fun ρ m σ H F al Q he hw p => ?_⟩
  refine a2 ρ m σ H F al _ he hw (Post.step (p.lenA fun ds m' e => hl ρ m ds m' e) fun xs m1 vs H1 F1 al1 e1 w1 q1 p1 => ?_)
  by_cases hn : xs.length = es.length
  · rw [if_pos hn] at p1
    refine ⟨by rw [← q1.len, hn]; exact small_line hz, fun q hq => p1 _ _ (upd F1 q (.tup vs)) al1 (ext_new (w1.fnone hq)) (w1.new hq) (.tup (.of upd_same) (q1.up (ext_new (w1.fnone hq))))⟩
  · rw [if_neg hn] at p1; exact p1.elim
theorem de_lst (h : DA c W es fr) (hz : es.length ≤ 100000 := by decide) : DE c W (.List es pos) (xLst fr) := by
  obtain ⟨⟨t, a1, a2⟩, hl⟩ := h
  refine ⟨tLst t, fun y hy => pe_lst (a1 y hy), fun ρ m σ H F al Q he hw p => ?_⟩
  refine a2 ρ m σ H F al _ he hw (Post.step (p.lenA fun ds m' e => hl ρ m ds m' e) fun xs m1 vs H1 F1 al1 e1 w1 q1 p1 => ?_)
  by_cases hn : xs.length = es.length
  · rw [if_pos hn] at p1
    refine ⟨by rw [← q1.len, hn]; exact small_line hz, fun q hq => p1 _ _ (upd F1 q (.lst vs)) al1 (ext_new (w1.fnone hq)) (w1.new hq) (.lst upd_same (q1.up (ext_new (w1.fnone hq))))⟩
  · rw [if_neg hn] at p1; exact p1.elim
theorem de_new (h : DA c W es fr) (hz : es.length ≤ 100000 := by decide) : DE c W (.List es pos) (xNew fr) := by
  obtain ⟨⟨t, a1, a2⟩, hl⟩ := h
  refine ⟨tLst t, fun y hy => pe_lst (a1 y hy), fun ρ m σ H F al Q he hw p => ?_⟩
  refine a2 ρ m σ H F al _ he hw (Post.step (p.lenA fun ds m' e => hl ρ m ds m' e) fun xs m1 vs H1 F1 al1 e1 w1 q1 p1 => ?_)
  by_cases hn : xs.length = es.length
  · rw [if_pos hn] at p1
    by_cases hb : D.inL m1.length xs = true
    · rw [if_pos hb] at p1
      refine ⟨by rw [← q1.len, hn]; exact small_line hz, fun q hq => p1 _ _ F1 (al1 ++ [q]) Le.snoc (w1.newCell hq ⟨w1.fnone hq, vs, upd_same, q1.up Le.snoc⟩ hb) (.loc (by rw [← w1.len, List.getElem?_append_right (Nat.le_refl _), Nat.sub_self]; rfl))⟩
    · rw [if_neg hb] at p1; exact p1.elim
  · rw [if_neg hn] at p1; exact p1.elim
end
end DS

namespace DS
open PySem PySem.Spec PyProof.Rows L2
section
variable {c : SC} {W : WX} {pos : Pos}

/-! ### operators on data -/
def addD (d e : D) (m : Mu) : Out D := match d, e with
  | .int i, .int j => .ok (.int (i + j)) m
  | .str x, .str y => if x.length + y.length ≤ sizeLine then .ok (.str (x ++ y)) m else .stuck
  | .tup xs, .tup ys => if xs.length + ys.length ≤ sizeLine then .ok (.tup (xs ++ ys)) m else .stuck
  | d, e => match ownOf m d, ownOf m e with
    | some xs, some ys => if xs.length + ys.length ≤ sizeLine then .ok (.lst (xs ++ ys)) m else .stuck
    | _, _ => .stuck
theorem op_addD : OpD c (binaryOp .Add) addD := by
  refine ⟨fun x y H Q => ((rI0 (fun i j => .int (i + j)) x y H Q ∨ ∃ i j, x = .str i ∧ y = .str j ∧ i.length + j.length ≤ sizeLine ∧ Q (.str (i ++ j)) H) ∨ rCatA c.K x y H Q) ∨ rCat x y H Q, fun W y hy => ((op_add.or op_add_str).or op_catA).or op_cat, fun W d e m x y H F al Q hw r1 r2 p => ?_⟩
  have lists : ∀ xs ys, ownOf m d = some xs → ownOf m e = some ys → Post c.K (RD c.K) W F al Q (if xs.length + ys.length ≤ sizeLine then .ok (.lst (xs ++ ys)) m else .stuck) → rCat x y H Q := fun xs ys h1 h2 p => by
    obtain ⟨a, vs, rfl, ha, qa⟩ := ownOf_ok hw r1 h1
    obtain ⟨b, ws, rfl, hb, qb⟩ := ownOf_ok hw r2 h2
    by_cases hl : xs.length + ys.length ≤ sizeLine
    · rw [if_pos hl] at p
      exact ⟨a, b, vs, ws, rfl, rfl, ha, hb, by rw [← qa.len, ← qb.len]; exact hl, fun q hq => p _ _ (upd F q _) al (ext_new (hw.fnone hq)) (hw.new hq) (.lst upd_same ((qa.append qb).up (ext_new (hw.fnone hq))))⟩
    · rw [if_neg hl] at p; exact p.elim
  unfold addD at p
  split at p
  · cases r1; cases r2
    exact .inl (.inl (.inl ⟨_, _, rfl, rfl, p _ H F al Le.refl hw (.int _)⟩))
  · cases r1; cases r2
    split at p
    · rename_i hl
      exact .inl (.inl (.inr ⟨_, _, rfl, rfl, hl, p _ H F al Le.refl hw (.str _)⟩))
    · exact p.elim
  · rename_i xs ys
    cases r1 with
    | @tup a vs _ s1 q1 =>
    cases r2 with
    | @tup b ws _ s2 q2 =>
    split at p
    · rename_i hl
      refine .inl (.inr ⟨a, b, vs, ws, rfl, rfl, sqt_up hw.sub s1, sqt_up hw.sub s2, by rw [← q1.len, ← q2.len]; exact hl, fun z => ?_, fun z z' => ?_, fun _ _ q hq => ?_⟩)
      · subst z
        cases q1
        exact p _ H F al Le.refl hw (.tup s2 q2)
      · subst z'
        cases q2
        rw [List.append_nil] at p
        exact p _ H F al Le.refl hw (.tup s1 q1)
      · exact p _ _ (upd F q _) al (ext_new (hw.fnone hq)) (hw.new hq) (.tup (.of upd_same) ((q1.append q2).up (ext_new (hw.fnone hq))))
    · exact p.elim
  · split at p
    · rename_i h1 h2
      exact .inr (lists _ _ h1 h2 p)
    · exact p.elim
/-- two ints -/
def intD (C : Int → Int → Bool) (g : Int → Int → Int) (d e : D) (m : Mu) : Out D := match d, e with
  | .int i, .int j => if C i j then .ok (.int (g i j)) m else .stuck
  | _, _ => .stuck
theorem opd_int {f : Value → Value → Sem Value} {C : Int → Int → Prop} {B : Int → Int → Bool} {g : Int → Int → Int} (h : ∀ X : Cx, OpR X f (rI C fun i j => .int (g i j))) (hB : ∀ i j, B i j = true → C i j) : OpD c f (intD B g) := by
  refine ⟨_, fun W y hy => h _, fun W d e m x y H F al Q hw r1 r2 p => ?_⟩
  unfold intD at p
  split at p
  · cases r1; cases r2
    split at p
    · rename_i hb
      exact ⟨_, _, rfl, rfl, hB _ _ hb, p _ H F al Le.refl hw (.int _)⟩
    · exact p.elim
  · exact p.elim
def subD (d e : D) (m : Mu) : Out D := match d, e with
  | .int i, .int j => .ok (.int (i - j)) m
  | _, _ => .stuck
def mulOk (i j : Int) : Bool := decide (-(2 ^ 64) < i ∧ i < 2 ^ 64) || decide (-(2 ^ 64) < j ∧ j < 2 ^ 64)
def mulD (d e : D) (m : Mu) : Out D := match d, e with
  | .int i, .int j => if mulOk i j then .ok (.int (i * j)) m else .stuck
  | d, .int k => match ownOf m d with
    | some xs => if 0 ≤ k ∧ k < 100000 ∧ xs.length * k.toNat ≤ sizeLine then .ok (.lst (List.replicate k.toNat xs).flatten) m else .stuck
    | none => .stuck
  | _, _ => .stuck
theorem RpL.rep {K : PySem.W.Frag} {F : Hp} {al : List Addr} {xs : List D} {vs : List V} (h : RpL K F al xs vs) : ∀ k : Nat, RpL K F al (List.replicate k xs).flatten (List.replicate k vs).flatten
  | 0 => .nil
  | k + 1 => by
    rw [List.replicate_succ, List.replicate_succ, List.flatten_cons, List.flatten_cons]
    exact h.append (RpL.rep h k)
theorem op_mulD : OpD c (binaryOp .Mult) mulD := by
  refine ⟨_, fun W y hy => op_mul.or op_rep, fun W d e m x y H F al Q hw r1 r2 p => ?_⟩
  unfold mulD at p
  split at p
  · cases r1; cases r2
    split at p
    · rename_i hb
      refine .inl ⟨_, _, rfl, rfl, ?_, p _ H F al Le.refl hw (.int _)⟩
      unfold mulOk at hb
      rw [Bool.or_eq_true, decide_eq_true_eq, decide_eq_true_eq] at hb
      exact hb
    · exact p.elim
  · cases r2
    split at p
    · rename_i xs h1
      obtain ⟨a, vs, rfl, ha, qa⟩ := ownOf_ok hw r1 h1
      split at p
      · rename_i k _ hk
        obtain ⟨k0, k1, k2⟩ := hk
        refine .inr ⟨a, _, vs, rfl, rfl, ha, by omega, by omega, by rw [← qa.len]; exact k2, fun q hq => p _ _ (upd F q _) al (ext_new (hw.fnone hq)) (hw.new hq) (.lst upd_same ((qa.rep _).up (ext_new (hw.fnone hq))))⟩
      · exact p.elim
    · exact p.elim
  · exact p.elim
def modD : D → D → Mu → Out D := intD (fun _ j => decide (0 < j)) fun i j => i % j
theorem op_modD : OpD c (binaryOp .Mod) modD := opd_int (fun _ => op_mod) fun _ _ h => of_decide_eq_true h
def divD : D → D → Mu → Out D := intD (fun _ j => decide (0 < j ∧ j < 1073741824)) fun i j => i / j
def powD : D → D → Mu → Out D := intD (fun i j => decide (0 ≤ j ∧ j ≤ 1000000 ∧ i.natAbs < 2 ^ 64)) fun i j => i ^ j.toNat
theorem op_powD : OpD c (binaryOp .Pow) powD := opd_int (fun _ => op_pow) fun i j h => (of_decide_eq_true h : 0 ≤ j ∧ j ≤ 1000000 ∧ i.natAbs < 2 ^ 64)
/-- comparisons of ints -/
def cmpD (g : Int → Int → Bool) (d e : D) (m : Mu) : Out D := match d, e with
  | .int i, .int j => .ok (.bl (g i j)) m
  | _, _ => .stuck
theorem opd_cmp {f : Value → Value → Sem Value} {g : Int → Int → Bool} (h : ∀ X : Cx, OpR X f (rI0 fun i j => .bl (g i j))) : OpD c f (cmpD g) := by
  refine ⟨_, fun W y hy => h _, fun W d e m x y H F al Q hw r1 r2 p => ?_⟩
  unfold cmpD at p
  split at p
  · cases r1; cases r2
    exact ⟨_, _, rfl, rfl, p _ H F al Le.refl hw (.bl _)⟩
  · exact p.elim
def ltD : D → D → Mu → Out D := cmpD fun i j => decide (i < j)
def leD : D → D → Mu → Out D := cmpD fun i j => decide (i ≤ j)
def gtD : D → D → Mu → Out D := cmpD fun i j => decide (j < i)
def geD : D → D → Mu → Out D := cmpD fun i j => decide (j ≤ i)
theorem op_ltD : OpD c (compareOp .Lt) ltD := opd_cmp fun _ => op_lt
/-- is None -/
def isNonD : D → Bool
  | .non => true
  | _ => false
def isD (d e : D) (m : Mu) : Out D := match e with
  | .non => .ok (.bl (isNonD d)) m
  | _ => .stuck
def isntD (d e : D) (m : Mu) : Out D := match e with
  | .non => .ok (.bl (!isNonD d)) m
  | _ => .stuck
/-! ### == of data -/
mutual
def toP : D → Option PyData
  | .non => some .none
  | .bl b => some (.bool b)
  | .int i => some (.int i)
  | .str x => some (.str x)
  | .tup xs => (toPs xs).map .tuple
  | .lst xs => (toPs xs).map .list
  | .fix xs => (toPs xs).map .list
  | _ => none
def toPs : List D → Option (List PyData)
  | [] => some []
  | x :: r => match toP x, toPs r with
    | some p, some ps => some (p :: ps)
    | _, _ => none
end
section
variable {K : PySem.W.Frag} {F : Hp} {al : List Addr} {H : Hp}
mutual
theorem Rp.dp (sub : ∀ (a : Addr) (o : HO), F a = some o → H a = some o) : ∀ {d : D} {v : V} {p : PyData}, Rp K F al d v → toP d = some p → Dp K H v p
  | _, _, _, .non, h => by rw [toP] at h; cases h; exact .non
  | _, _, _, .bl b, h => by rw [toP] at h; cases h; exact .bl b
  | _, _, _, .int i, h => by rw [toP] at h; cases h; exact .int i
  | _, _, _, .str x, h => by rw [toP] at h; cases h; exact .str x
  | _, _, _, .tup (ds := ds) s q, h => by
    rw [toP] at h
    cases e : toPs ds with
    | none => rw [e] at h; cases h
    | some ps => rw [e] at h; cases h; exact .tup (sqt_up sub s) (RpL.dp sub q e)
  | _, _, _, .lst (ds := ds) s q, h => by
    rw [toP] at h
    cases e : toPs ds with
    | none => rw [e] at h; cases h
    | some ps => rw [e] at h; cases h; exact .lst (.of (sub _ _ s)) (RpL.dp sub q e)
  | _, _, _, .fix (ds := ds) s q, h => by
    rw [toP] at h
    cases e : toPs ds with
    | none => rw [e] at h; cases h
    | some ps => rw [e] at h; cases h; exact .lst (sql_up sub s) (RpL.dp sub q e)
  | _, _, _, .obj _ _, h => by rw [toP] at h <;> first | cases h | (intros; exact D.noConfusion)
  | _, _, _, .dct _ _, h => by rw [toP] at h <;> first | cases h | (intros; exact D.noConfusion)
  | _, _, _, .loc _, h => by rw [toP] at h <;> first | cases h | (intros; exact D.noConfusion)
  | _, _, _, .glo _, h => by rw [toP] at h <;> first | cases h | (intros; exact D.noConfusion)
  | _, _, _, .ty _, h => by rw [toP] at h <;> first | cases h | (intros; exact D.noConfusion)
  | _, _, _, .exn _ _, h => by rw [toP] at h <;> first | cases h | (intros; exact D.noConfusion)
  | _, _, _, .exv _ _ _, h => by rw [toP] at h <;> first | cases h | (intros; exact D.noConfusion)
  | _, _, _, .nst _ _, h => by rw [toP] at h <;> first | cases h | (intros; exact D.noConfusion)
  | _, _, _, .odc _, h => by rw [toP] at h <;> first | cases h | (intros; exact D.noConfusion)
theorem RpL.dp (sub : ∀ (a : Addr) (o : HO), F a = some o → H a = some o) : ∀ {d : List D} {v : List V} {p : List PyData}, RpL K F al d v → toPs d = some p → DpAll K H v p
  | _, _, _, .nil, h => by rw [toPs] at h; cases h; exact .nil
  | _, _, _, .cons (d := d) (ds := ds) r q, h => by
    rw [toPs] at h
    cases e1 : toP d with
    | none => rw [e1] at h; cases h
    | some p =>
      cases e2 : toPs ds with
      | none => rw [e1, e2] at h; cases h
      | some ps => rw [e1, e2] at h; cases h; exact .cons (Rp.dp sub r e1) (RpL.dp sub q e2)
end
end
/-- a list that stands in the store, as data -/
def dere (m : Mu) : D → D
  | .loc n => match m[n]? with
    | some (.lst xs) => .fix xs
    | _ => .loc n
  | d => d
theorem dere_dp {K : PySem.W.Frag} {F : Hp} {al : List Addr} {m : Mu} {H : Hp} {d : D} {v : V} {p : PyData} (w : Wd K F al m H) (r : Rp K F al d v) (h : toP (dere m d) = some p) : Dp K H v p := by
  cases d with
  | loc n =>
    unfold dere at h
    cases r with
    | @loc _ a s =>
    cases e : m[n]? with
    | none => simp only [e] at h; rw [toP] at h <;> first | cases h | (intros; exact D.noConfusion)
    | some cl =>
      cases cl with
      | lst xs =>
        simp only [e] at h
        obtain ⟨_, vs, h1, h2⟩ := w.cell n a _ s e
        rw [toP] at h
        cases e2 : toPs xs with
        | none => rw [e2] at h; cases h
        | some ps => rw [e2] at h; cases h; exact .lst (.of h1) (RpL.dp w.sub h2 e2)
      | ins _ _ => simp only [e] at h; rw [toP] at h <;> first | cases h | (intros; exact D.noConfusion)
      | dct _ => simp only [e] at h; rw [toP] at h <;> first | cases h | (intros; exact D.noConfusion)
      | dead => simp only [e] at h; rw [toP] at h <;> first | cases h | (intros; exact D.noConfusion)
      | tab q => simp only [e] at h; rw [toP] at h <;> first | cases h | (intros; exact D.noConfusion)
      | opn _ _ _ => simp only [e] at h; rw [toP] at h <;> first | cases h | (intros; exact D.noConfusion)
      | dtt _ => simp only [e] at h; rw [toP] at h <;> first | cases h | (intros; exact D.noConfusion)
  | _ => exact r.dp w.sub h
def eqB (m : Mu) (d e : D) : Option Bool := match toP (dere m d), toP (dere m e) with
  | some p, some q => if SeqAt.shaped p && SeqAt.shaped q then some (PyData.eqv p q) else none
  | _, _ => none
def eqD (d e : D) (m : Mu) : Out D := match d, e with
  | .str x, .str y => .ok (.bl (x == y)) m
  | d, e => match eqB m d e with
    | some b => .ok (.bl b) m
    | none => .stuck
def neD (d e : D) (m : Mu) : Out D := match d, e with
  | .str x, .str y => .ok (.bl (!(x == y))) m
  | d, e => match eqB m d e with
    | some b => .ok (.bl (!b)) m
    | none => .stuck
theorem eqB_ok {K : PySem.W.Frag} {F : Hp} {al : List Addr} {m : Mu} {H : Hp} {d e : D} {x y : V} {b : Bool} (w : Wd K F al m H) (r1 : Rp K F al d x) (r2 : Rp K F al e y) (h : eqB m d e = some b) :
    ∃ p q, Dp K H x p ∧ Dp K H y q ∧ SeqAt.shaped p = true ∧ SeqAt.shaped q = true ∧ b = PyData.eqv p q := by
  unfold eqB at h
  split at h
  · rename_i p q h1 h2
    split at h
    · rename_i hs
      rw [Bool.and_eq_true] at hs
      cases h
      exact ⟨p, q, dere_dp w r1 h1, dere_dp w r2 h2, hs.1, hs.2, rfl⟩
    · cases h
  · cases h
theorem op_eqD' : OpD c (compareOp .Eq) eqD := by
  refine ⟨fun x y H Q => rEq x y H Q ∨ rEqD c.K x y H Q, fun W y hy => (op_eq (X := c.cx y)).or (op_eqD (X := c.cx y) hy.un64), fun W d e m x y H F al Q hw r1 r2 p => ?_⟩
  have gen : Post c.K (RD c.K) W F al Q (match eqB m d e with
    | some b => .ok (.bl b) m
    | none => .stuck) → rEq x y H Q ∨ rEqD c.K x y H Q := fun p => by
    split at p
    · rename_i b h
      obtain ⟨p1, q1, a1, a2, a3, a4, rfl⟩ := eqB_ok hw r1 r2 h
      exact .inr ⟨p1, q1, a1, a2, a3, a4, p _ H F al Le.refl hw (.bl _)⟩
    · exact p.elim
  unfold eqD at p
  split at p
  · cases r1; cases r2
    refine .inl ⟨rfl, ?_⟩
    rw [dec_str]
    exact p _ H F al Le.refl hw (.bl _)
  · exact gen p
theorem op_neD' : OpD c (compareOp .NotEq) neD := by
  refine ⟨fun x y H Q => rNe x y H Q ∨ rNeD c.K x y H Q, fun W y hy => (op_ne (X := c.cx y)).or (op_neD (X := c.cx y) hy.un64), fun W d e m x y H F al Q hw r1 r2 p => ?_⟩
  have gen : Post c.K (RD c.K) W F al Q (match eqB m d e with
    | some b => .ok (.bl (!b)) m
    | none => .stuck) → rNe x y H Q ∨ rNeD c.K x y H Q := fun p => by
    split at p
    · rename_i b h
      obtain ⟨p1, q1, a1, a2, a3, a4, rfl⟩ := eqB_ok hw r1 r2 h
      exact .inr ⟨p1, q1, a1, a2, a3, a4, p _ H F al Le.refl hw (.bl _)⟩
    · exact p.elim
  unfold neD at p
  split at p
  · cases r1; cases r2
    refine .inl ⟨rfl, ?_⟩
    rw [dec_str]
    exact p _ H F al Le.refl hw (.bl _)
  · exact gen p

/-! ### in -/
def flatD : D → Bool
  | .non => true
  | .bl _ => true
  | .int _ => true
  | .str _ => true
  | _ => false
def eqF : D → D → Bool
  | .non, .non => true
  | .bl a, .bl b => a == b
  | .bl a, .int b => (if a = true then (1 : Int) else 0) == b
  | .int a, .bl b => a == if b = true then (1 : Int) else 0
  | .int a, .int b => a == b
  | .str a, .str b => a == b
  | _, _ => false
section
variable {K : PySem.W.Frag} {F : Hp} {al : List Addr}
theorem Rp.flat {d : D} {v : V} (r : Rp K F al d v) : flatD d = true → flatV v = true := by
  intro h
  cases r <;> first | rfl | cases h
theorem Rp.eqF {d e : D} {x y : V} (r1 : Rp K F al d x) (r2 : Rp K F al e y) (h1 : flatD d = true) (h2 : flatD e = true) : eqV x y = DS.eqF d e := by
  cases r1 <;> cases h1 <;> cases r2 <;> cases h2 <;> rfl
theorem RpL.flat : ∀ {ds : List D} {vs : List V}, RpL K F al ds vs → ds.all flatD = true → vs.all flatV = true
  | _, _, .nil, _ => rfl
  | _, _, .cons r q, h => by
    rw [List.all_cons, Bool.and_eq_true] at h ⊢
    exact ⟨r.flat h.1, RpL.flat q h.2⟩
theorem RpL.inF {d : D} {v : V} (r : Rp K F al d v) (hd : flatD d = true) : ∀ {ds : List D} {vs : List V}, RpL K F al ds vs → ds.all flatD = true → inV v vs = ds.any fun e => DS.eqF e d
  | _, _, .nil, _ => rfl
  | _, _, .cons r' q, h => by
    rw [List.all_cons, Bool.and_eq_true] at h
    have ih := RpL.inF r hd q h.2
    unfold inV at ih ⊢
    rw [List.any_cons, List.any_cons, ih, Rp.eqF r' r h.1 hd]
end
def inB (m : Mu) (d e : D) : Option Bool := match d, e with
  | .str x, .str y => some (!(Builtin.Str.occurrences y x 0 y.length 1).isEmpty)
  | d, .tup xs => if flatD d && xs.all flatD then some (xs.any fun y => eqF y d) else none
  | d, e => match lstOf m e with
    | some xs => if flatD d && xs.all flatD then some (xs.any fun y => eqF y d) else none
    | none => none
def inD (d e : D) (m : Mu) : Out D := match inB m d e with
  | some b => .ok (.bl b) m
  | none => .stuck
def ninD (d e : D) (m : Mu) : Out D := match inB m d e with
  | some b => .ok (.bl (!b)) m
  | none => .stuck
end
end DS

namespace DS
open PySem PySem.Spec PyProof.Rows L2
section
variable {K : PySem.W.Frag} {F F' : Hp} {al al' : List Addr} {m : Mu} {H : Hp}
/-! ### leaving a def: what was new in the store is fixed or forgotten -/
theorem Le.cut {n : Nat} (e : Le F al F' al') (h : al.length ≤ n) : Le F al F' (al'.take n) :=
  ⟨e.f, fun k a q => by
    rw [List.getElem?_take_of_lt (Nat.lt_of_lt_of_le (List.getElem?_eq_some_iff.mp q).1 h)]
    exact e.a k a q⟩
mutual
theorem D.inB_mono {n k : Nat} (h : n ≤ k) : ∀ d : D, d.inB n = true → d.inB k = true
  | .loc j, e => by rw [D.inB] at e ⊢; exact decide_eq_true (Nat.lt_of_lt_of_le (of_decide_eq_true e) h)
  | .tup xs, e => by rw [D.inB] at e ⊢; exact D.inL_mono h xs e
  | .lst xs, e => by rw [D.inB] at e ⊢; exact D.inL_mono h xs e
  | .fix xs, e => by rw [D.inB] at e ⊢; exact D.inL_mono h xs e
  | .obj _ fs, e => by rw [D.inB] at e ⊢; exact D.inF_mono h fs e
  | .dct fs, e => by rw [D.inB] at e ⊢; exact D.inF_mono h fs e
  | .exn _ fs, e => by rw [D.inB] at e ⊢; exact D.inF_mono h fs e
  | .exv _ fs, e => by rw [D.inB] at e ⊢; exact D.inF_mono h fs e
  | .non, _ => by simp only [D.inB]
  | .bl _, _ => by simp only [D.inB]
  | .int _, _ => by simp only [D.inB]
  | .str _, _ => by simp only [D.inB]
  | .glo _, _ => by simp only [D.inB]
  | .ty _, _ => by simp only [D.inB]
  | .nst _, _ => by simp only [D.inB]
  | .odc, _ => by simp only [D.inB]
theorem D.inL_mono {n k : Nat} (h : n ≤ k) : ∀ d : List D, D.inL n d = true → D.inL k d = true
  | [], _ => by rw [D.inL]
  | x :: r, e => by
    rw [D.inL, Bool.and_eq_true] at e ⊢
    exact ⟨D.inB_mono h x e.1, D.inL_mono h r e.2⟩
theorem D.inF_mono {n k : Nat} (h : n ≤ k) : ∀ d : List (Str × D), D.inF n d = true → D.inF k d = true
  | [], _ => by rw [D.inF]
  | (_, x) :: r, e => by
    rw [D.inF, Bool.and_eq_true] at e ⊢
    exact ⟨D.inB_mono h x e.1, D.inF_mono h r e.2⟩
end
theorem Cell.inB_mono {n k : Nat} (h : n ≤ k) {c : Cell} (e : c.inB n = true) : c.inB k = true := by
  cases c with
  | lst xs => exact D.inL_mono h xs e
  | ins _ fs => exact D.inF_mono h fs e
  | dct fs => exact D.inF_mono h fs e
  | dead => rfl
  | tab _ => rfl
  | dtt kvs => exact D.inL_mono h (kvs.map fun p : List Key × D => p.2) e
  | opn xs h0 ls =>
    have e' : (D.inL n xs && (D.inB n h0 && D.inL n ls)) = true := e
    rw [Bool.and_eq_true, Bool.and_eq_true] at e'
    show (D.inL k xs && (D.inB k h0 && D.inL k ls)) = true
    rw [D.inL_mono h xs e'.1, D.inB_mono h h0 e'.2.1, D.inL_mono h ls e'.2.2]
    rfl
theorem CellOk.cut {n : Nat} {a : Addr} {c : Cell} (h : CellOk K F al H a c) (e : c.inB n = true) : CellOk K F (al.take n) H a c := by
  cases c with
  | lst xs => obtain ⟨z, vs, h1, h2⟩ := h; exact ⟨z, vs, h1, h2.cut e⟩
  | ins _ gs => obtain ⟨z, dx, fs, h1, h2⟩ := h; exact ⟨z, dx, fs, h1, h2.cut e⟩
  | dct gs => obtain ⟨z, fs, h1, h2⟩ := h; exact ⟨z, fs, h1, h2.cut e⟩
  | dead => exact h
  | tab _ => exact h
  | dtt kvs => obtain ⟨z, ks, h1, hk, h2⟩ := h; exact ⟨z, ks, h1, hk, h2.cut e⟩
  | opn xs h0 ls =>
    have e' : (D.inL n xs && (D.inB n h0 && D.inL n ls)) = true := e
    rw [Bool.and_eq_true, Bool.and_eq_true] at e'
    obtain ⟨z, vs, p, q, hv, ws, h1, h2, h3, h4, h5, h6, h7⟩ := h
    exact ⟨z, vs, p, q, hv, ws, h1, h2.cut e'.1, h3, h4.cut e'.2.1, ⟨h5.1, fun z => h5.2 (List.mem_of_mem_take z)⟩, h6, h7.cut e'.2.2⟩
theorem Wd.cut (w : Wd K F al m H) (n : Nat) : Wd K F (al.take n) (m.take n) H := by
  refine ⟨w.sub, by rw [List.length_take, List.length_take, w.len], w.nd.sublist (List.take_sublist _ _), fun k a c h1 h2 => ?_, fun k c h2 => ?_, fun a ha => w.tr a (List.mem_of_mem_take ha), w.nt⟩
  · have hk : k < n := by
      have := (List.getElem?_eq_some_iff.mp h2).1
      rw [List.length_take] at this
      omega
    rw [List.getElem?_take_of_lt hk] at h1 h2
    exact (w.cell k a c h1 h2).cut (Cell.inB_mono (Nat.le_of_lt hk) (w.gen k c h2))
  · have hk : k < n := by
      have := (List.getElem?_eq_some_iff.mp h2).1
      rw [List.length_take] at this
      omega
    rw [List.getElem?_take_of_lt hk] at h2
    exact w.gen k c h2
theorem Wd.inj (w : Wd K F al m H) {i j : Nat} {a : Addr} (h1 : al[i]? = some a) (h2 : al[j]? = some a) : i = j := by
  obtain ⟨l1, e1⟩ := List.getElem?_eq_some_iff.mp h1
  obtain ⟨l2, e2⟩ := List.getElem?_eq_some_iff.mp h2
  exact (List.getElem_inj w.nd).mp (e1.trans e2.symm)
/-- the object at n is fixed, what is above k (k ≤ n) forgotten -/
theorem Wd.frz {n k : Nat} {a : Addr} {o : HO} (w : Wd K F al m H) (h1 : al[n]? = some a) (ho : H a = some o) (hf : F a = none) (hk : k ≤ n) (hto : ∀ ps, o ≠ .tbl ps := by intro ps h; cases h) : Wd K (upd F a o) (al.take k) (m.take k) H := by
  have w' := w.cut k
  refine ⟨fun b u e => ?_, w'.len, w'.nd, fun j b c h2 h3 => ?_, w'.gen, w'.tr, nt_upd w.nt hto⟩
  · by_cases hb : b = a
    · subst hb; rw [upd_same] at e; rw [← e]; exact ho
    · rw [upd_ne hb] at e; exact w.sub b u e
  · have hj : j < k := by
      have := (List.getElem?_eq_some_iff.mp h2).1
      rw [List.length_take] at this
      omega
    have hb : b ≠ a := fun z => by
      subst z
      rw [List.getElem?_take_of_lt hj] at h2
      have := w.inj h2 h1
      omega
    rw [List.getElem?_take_of_lt hj] at h2
    have hj3 : j < k := hj
    rw [List.getElem?_take_of_lt hj3] at h3
    exact ((w.cell j b c h2 h3).upTo (ext_new hf) (fun z => by rw [upd_ne hb]; exact z) (fun _ => rfl) fun q q1 q2 q3 => ⟨by rw [upd_ne (fun (z : q = a) => q1 (by rw [z]; exact List.mem_of_getElem? h1))]; exact q2, rfl, q1⟩).cut (Cell.inB_mono (Nat.le_of_lt hj) (w.gen j c h3))
/-- the object at n is fixed, its place stays empty -/
theorem Wd.fix {n : Nat} {a : Addr} {o : HO} (w : Wd K F al m H) (h1 : al[n]? = some a) (ho : H a = some o) (hf : F a = none) (hto : ∀ ps, o ≠ .tbl ps := by intro ps h; cases h) : Wd K (upd F a o) al (m.set n .dead) H := by
  refine ⟨fun b u e => ?_, by rw [List.length_set]; exact w.len, w.nd, fun j b c h2 h3 => ?_, fun j c h3 => ?_, w.tr, nt_upd w.nt hto⟩
  · by_cases hb : b = a
    · subst hb; rw [upd_same] at e; rw [← e]; exact ho
    · rw [upd_ne hb] at e; exact w.sub b u e
  · by_cases hj : j = n
    · subst hj
      rw [List.getElem?_set_self (by rw [← w.len]; exact (List.getElem?_eq_some_iff.mp h1).1)] at h3
      cases h3
      have e : b = a := Option.some.inj (h2.symm.trans h1)
      subst e
      exact ⟨o, upd_same⟩
    · rw [List.getElem?_set_ne (Ne.symm hj)] at h3
      have hb : b ≠ a := fun z => by
        subst z
        exact hj (w.inj h2 h1)
      exact (w.cell j b c h2 h3).upTo (ext_new hf) (fun z => by rw [upd_ne hb]; exact z) (fun _ => rfl) fun q q1 q2 q3 => ⟨by rw [upd_ne (fun (z : q = a) => q1 (by rw [z]; exact List.mem_of_getElem? h1))]; exact q2, rfl, q1⟩
  · by_cases hj : j = n
    · subst hj
      rw [List.getElem?_set_self (by rw [← w.len]; exact (List.getElem?_eq_some_iff.mp h1).1)] at h3
      cases h3
      rfl
    · rw [List.getElem?_set_ne (Ne.symm hj)] at h3
      exact w.gen j c h3
def exitD (n0 : Nat) (d : D) (m : Mu) : Out D := if d.inB n0 then .ok d (m.take n0) else match d with
  | .loc n => match m[n]? with
    | some (.lst xs) => if D.inL n0 xs then .ok (.lst xs) (m.take n0) else .stuck
    | some (.ins c gs) => if D.inF n0 gs then .ok (.obj c gs) (m.take n0) else .stuck
    | _ => .stuck
  | _ => .stuck
theorem exit_ok {W : XK} {F0 : Hp} {al0 : List Addr} {Q : VK} {n0 : Nat} {d : D} {v : V} (w : Wd K F al m H) (e : Le F0 al0 F al) (h0 : al0.length = n0) (r : Rp K F al d v) (p : Post K (RD K) W F0 al0 Q (exitD n0 d m)) : Q v H := by
  unfold exitD at p
  split at p
  · rename_i hb
    exact p v H F (al.take n0) (e.cut (Nat.le_of_eq h0)) (w.cut n0) (r.cut hb)
  · rename_i hb
    split at p
    · rename_i n
      have hn : n0 ≤ n := by
        rw [D.inB, decide_eq_true_eq] at hb
        omega
      cases r with
      | @loc _ a s =>
      split at p
      · rename_i xs hc
        obtain ⟨hf, vs, h1, h2⟩ := w.cell n a _ s hc
        split at p
        · rename_i hi
          exact p _ H (upd F a (.lst vs)) (al.take n0) ((e.trans (ext_new hf)).cut (Nat.le_of_eq h0)) (w.frz s h1 hf hn) (.lst upd_same ((h2.cut hi).up (ext_new hf)))
        · exact p.elim
      · rename_i cn gs hc
        obtain ⟨hf, dx, fs, h1, h2⟩ := w.cell n a _ s hc
        split at p
        · rename_i hi
          exact p _ H (upd F a _) (al.take n0) ((e.trans (ext_new hf)).cut (Nat.le_of_eq h0)) (w.frz s h1 hf hn) (.obj upd_same ((h2.cut hi).up (ext_new hf)))
        · exact p.elim
      · exact p.elim
    · exact p.elim
end

/-! ### defs -/
abbrev Fn := List D → Mu → Out D
def spOf (K : PySem.W.Frag) (n : Nat) (G : Fn) : Sp := fun vs H Q E => ∃ ds m F al, ds.length = n ∧ RpL K F al ds vs ∧ Wd K F al m H ∧ Post K (RD K) E F al Q (G ds m)
def rho0 (n : Nat) (ds : List D) : Rho := ds.map some ++ List.replicate (n - ds.length) none
def fnOf (n : Nat) (keep : Bool) (g : XS) : Fn := fun ds m => match g (rho0 n ds) m with
  | .next _ m' => .ok .non (m'.take m.length)
  | .ret d m' => if keep then .ok d m' else exitD m.length d m'
  | .exc c fs _ m' => if D.inF m.length fs then .exc c fs (m'.take m.length) else .stuck
  | _ => .stuck
theorem env0_ok {K : PySem.W.Frag} {F : Hp} {al : List Addr} {N : List Str} {ds : List D} {vs : List V} (h : RpL K F al ds vs) : EnvOk K F al (rho0 N.length ds) (L2.start N vs) := by
  have hl := h.len
  refine ⟨by unfold rho0 L2.start; simp [hl], fun i d e => ?_⟩
  unfold rho0 at e
  by_cases hi : i < ds.length
  · rw [List.getElem?_append_left (by simpa using hi), List.getElem?_map] at e
    cases q : ds[i]? with
    | none => rw [q] at e; cases e
    | some d' =>
      rw [q] at e
      cases e
      obtain ⟨v, h1, h2⟩ := h.get q
      refine ⟨v, ?_, h2⟩
      unfold L2.start
      rw [List.getElem?_append_left (by simpa [← hl] using hi), List.getElem?_map, h1]
      rfl
  · rw [List.getElem?_append_right (by simpa using hi), List.getElem?_replicate] at e
    split at e <;> cases e
abbrev wOf (E : XK) : WX := fun cls d _ H => E cls d H
/-- a def's static context -/
structure Base where
  P : Program
  w : World
  K : PySem.W.Frag
  mg : Str → Option Value
  base : Heap
abbrev Base.at (b : Base) (N : List Str) (sc : Scope) (k : Nat) (gd : Bool) : SC := ⟨b.P, b.w, b.K, b.mg, b.base, N, sc, k, fun _ => true, gd, true, none, true, none, 0⟩
abbrev Base.Ok (b : Base) (k : Nat) (f : Addr) (fd : FuncData) (ps : List Str) (G : Fn) : Prop := FnOk b.P b.w b.K b.mg b.base (L2.CX b.P b.w) k f fd ps (spOf b.K ps.length G)
theorem RpL.lenV {K : PySem.W.Frag} {n : Nat} {G : Fn} {vs : List V} {H : Hp} {Q : VK} {E : XK} (h : spOf K n G vs H Q E) : vs.length = n := by
  obtain ⟨ds, m, F, al, hl, r, _⟩ := h
  rw [← r.len]; exact hl
end DS

namespace DS
open PySem PySem.Spec PyProof.Rows L2
section
variable {c : SC} {W : WX} {pos : Pos} {a b e : Expr} {fa fb fe : XE'}
/-! ### o[i] -/
section
variable {K : PySem.W.Frag} {F : Hp} {al : List Addr}
theorem RpL.atI {ds : List D} {vs : List V} {i : Int} {d : D} (h : RpL K F al ds vs) (e : atI ds i = some d) : ∃ v, L2.atI vs i = some v ∧ Rp K F al d v := by
  unfold L2.atI at e ⊢
  rw [← h.len]
  cases q : ixN ds.length i with
  | none => rw [q] at e; cases e
  | some j =>
    rw [q] at e
    exact h.get e
end
def ixD (d e : D) (m : Mu) : Out D := match e with
  | .int i => (match d with
    | .tup xs => (match L2.atI xs i with
      | some v => .ok v m
      | none => .stuck)
    | .str z => if z.length ≤ sizeLine then (match L2.atI z.cps.toList i with
      | some k => .ok (.str ⟨#[k]⟩) m
      | none => .stuck) else .stuck
    | d => (match lstOf m d with
      | some xs => (match L2.atI xs i with
        | some v => .ok v m
        | none => .stuck)
      | none => .stuck))
  | _ => .stuck
theorem ix_ok {W : XK} {d e : D} {m : Mu} {x y : V} {H F : Hp} {al : List Addr} {Q : VK} {K : PySem.W.Frag} (hw : Wd K F al m H) (r1 : Rp K F al d x) (r2 : Rp K F al e y) (p : Post K (RD K) W F al Q (ixD d e m)) : rIx K x y H Q := by
  unfold ixD at p
  split at p
  · cases r2
    split at p
    · cases r1 with
      | @tup q vs _ s r =>
      split at p
      · rename_i v h
        obtain ⟨u, h1, h2⟩ := r.atI h
        exact .inr (.inl ⟨q, vs, _, u, rfl, rfl, sqt_up hw.sub s, h1, p _ H F al Le.refl hw h2⟩)
      · exact p.elim
    · cases r1
      split at p
      · rename_i hz
        split at p
        · rename_i k h
          exact .inr (.inr ⟨_, _, k, rfl, rfl, hz, h, p _ H F al Le.refl hw (.str _)⟩)
        · exact p.elim
      · exact p.elim
    · split at p
      · rename_i xs hx
        obtain ⟨q, vs, rfl, s, r⟩ := lstOf_ok hw r1 hx
        split at p
        · rename_i v h
          obtain ⟨u, h1, h2⟩ := r.atI h
          exact .inl ⟨q, vs, _, u, rfl, rfl, s, h1, p _ H F al Le.refl hw h2⟩
        · exact p.elim
      · exact p.elim
  · exact p.elim
theorem de_ix (ha : DE c W a fa) (hb : DE c W b fb) (hs : PlainIx b := by exact fun _ _ => rfl) : DE c W (.Subscript a b pos) (xOp ixD fa fb) := by
  obtain ⟨t, a1, a2⟩ := ha
  obtain ⟨u, b1, b2⟩ := hb
  refine ⟨tOp (rIx c.K) t u, fun y hy => pe_ix (X := c.cx y) ix_seq (a1 y hy) (b1 y hy) hs, fun ρ m σ H F al Q he hw p => ?_⟩
  exact a2 ρ m σ H F al _ he hw (Post.step p fun x m1 v H1 F1 al1 e1 w1 q1 p1 => b2 ρ m1 σ H1 F1 al1 _ (he.up e1) w1
    (Post.step p1 fun z m2 u H2 F2 al2 e2 w2 q2 p2 => ix_ok w2 (q1.up e2) q2 p2))
/-! ### o[i:j] -/
def cutD (xs : List D) (lo hi : Option Int) : List D := (xs.drop (HT.sIx xs.length 0 lo)).take (HT.sIx xs.length xs.length hi - HT.sIx xs.length 0 lo)
abbrev XO := Rho → Mu → Out (Option Int)
def DO (c : SC) (W : WX) (e : Option Expr) (f : XO) : Prop := ∃ t : TO, (∀ y, OkD c W y → PO (c.cx y) e t) ∧
  ∀ r m σ H F al Q, EnvOk c.K F al r σ → Wd c.K F al m H → Post c.K (fun _ _ (x y : Option Int) => x = y) (atS W σ) F al Q (f r m) → t σ H Q
def xoN : XO := fun _ m => .ok none m
def asI : D → Mu → Out (Option Int)
  | .int i, m => .ok (some i) m
  | _, _ => .stuck
def xoS (a : XE') : XO := fun r m => (a r m).bind asI
theorem do_none : DO c W none xoN := ⟨_, fun _ _ => po_none, fun _ _ _ H F al Q _ hw p => p none H F al Le.refl hw rfl⟩
theorem do_some (ha : DE c W e fe) : DO c W (some e) (xoS fe) := by
  obtain ⟨t, a1, a2⟩ := ha
  refine ⟨_, fun y hy => po_some (a1 y hy), fun ρ m σ H F al Q he hw p => ?_⟩
  refine a2 ρ m σ H F al _ he hw (Post.step p fun x m1 v H1 F1 al1 e1 w1 q1 p1 => ?_)
  cases q1 with
  | int i => exact ⟨i, rfl, p1 _ H1 F1 al1 Le.refl w1 rfl⟩
  | _ => exact p1.elim
def slD (d : D) (lo hi : Option Int) (m : Mu) : Out D := match d with
  | .tup xs => .ok (.tup (cutD xs lo hi)) m
  | .str z => if z.length ≤ sizeLine then .ok (.str (cutS z lo hi)) m else .stuck
  | d => match lstOf m d with
    | some xs => .ok (.lst (cutD xs lo hi)) m
    | none => .stuck
theorem cut_rp {K : PySem.W.Frag} {F : Hp} {al : List Addr} {xs : List D} {vs : List V} (h : RpL K F al xs vs) (lo hi : Option Int) : RpL K F al (cutD xs lo hi) (cutV vs lo hi) := by
  unfold cutD cutV
  rw [h.len]
  exact (h.drop _).take _
theorem SlR.or {X : Cx} {r r' : V → Option Int → Option Int → Hp → VK → Prop} (h : SlR X r) (h' : SlR X r') : SlR X fun x lo hi H Q => r x lo hi H Q ∨ r' x lo hi H Q :=
  fun pins s σ H x v vl vu lo hi sl Q I rx is p1 p2 q => q.elim (fun q => h pins s σ H x v vl vu lo hi sl Q I rx is p1 p2 q) fun q => h' pins s σ H x v vl vu lo hi sl Q I rx is p1 p2 q
def xSl (a : XE') (lo hi : XO) : XE' := fun r m => (a r m).bind fun d m1 => (lo r m1).bind fun l m2 => (hi r m2).bind fun h m3 => slD d l h m3
theorem de_sl {lo hi : Option Expr} {fl fh : XO} {p2 : Pos} (ha : DE c W a fa) (hl : DO c W lo fl) (hh : DO c W hi fh) : DE c W (.Subscript a (.Slice lo hi none p2) pos) (xSl fa fl fh) := by
  obtain ⟨t, a1, a2⟩ := ha
  obtain ⟨tl, l1, l2⟩ := hl
  obtain ⟨th, h1, h2⟩ := hh
  refine ⟨tSl (fun x lo hi H Q => (rSlL c.K x lo hi H Q ∨ rSlA c.K x lo hi H Q) ∨ rSlS x lo hi H Q) t tl th, fun y hy => pe_slice (X := c.cx y) ((sl_list.or sl_tupA).or sl_str) (a1 y hy) (l1 y hy) (h1 y hy), fun ρ m σ H F al Q he hw p => ?_⟩
  refine a2 ρ m σ H F al _ he hw (Post.step p fun x m1 v H1 F1 al1 e1 w1 q1 p1 => ?_)
  refine l2 ρ m1 σ H1 F1 al1 _ (he.up e1) w1 (Post.step p1 fun l m2 l' H2 F2 al2 e2 w2 q2 p2 => ?_)
  cases q2
  refine h2 ρ m2 σ H2 F2 al2 _ ((he.up e1).up e2) w2 (Post.step p2 fun h m3 h' H3 F3 al3 e3 w3 q3 p3 => ?_)
  cases q3
  have q1 := (q1.up e2).up e3
  unfold slD at p3
  split at p3
  · cases q1 with
    | @tup q vs _ s r =>
    refine .inl (.inr ⟨q, vs, rfl, sqt_up w3.sub s, fun z => ?_, fun _ n hn => p3 _ _ (upd F3 n _) al3 (ext_new (w3.fnone hn)) (w3.new hn) (.tup (.of upd_same) ((cut_rp r l h).up (ext_new (w3.fnone hn))))⟩)
    have ec : cutV vs l h = vs := by
      unfold cutV
      rw [z.1, z.2, Nat.sub_zero, List.drop_zero, List.take_length]
    have := cut_rp r l h
    rw [ec] at this
    exact p3 _ H3 F3 al3 Le.refl w3 (.tup s this)
  · cases q1
    split at p3
    · rename_i hz
      exact .inr ⟨_, rfl, hz, p3 _ H3 F3 al3 Le.refl w3 (.str _)⟩
    · exact p3.elim
  · split at p3
    · rename_i xs hx
      obtain ⟨q, vs, rfl, s, r⟩ := lstOf_ok w3 q1 hx
      exact .inl (.inl ⟨q, vs, rfl, s, fun n hn => p3 _ _ (upd F3 n _) al3 (ext_new (w3.fnone hn)) (w3.new hn) (.lst upd_same ((cut_rp r l h).up (ext_new (w3.fnone hn))))⟩)
    · exact p3.elim
/-! ### o.f -/
def insOf (m : Mu) : D → Option (Str × List (Str × D))
  | .obj c gs => some (c, gs)
  | .loc n => match m[n]? with
    | some (.ins c gs) => some (c, gs)
    | _ => none
  | _ => none
def fldD (cn f : Str) (d : D) (m : Mu) : Out D := match insOf m d with
  | some (c', gs) => if c' = cn then (match gs.lookup f with
    | some v => .ok v m
    | none => .stuck) else .stuck
  | none => .stuck
def xFld (cn f : Str) (a : XE') : XE' := fun r m => (a r m).bind (fldD cn f)
/-! ### calls -/
variable {es : List Expr} {fr : XA} {x : Str} {p0 apos : Pos} {k : Nat} {f : Addr} {fd : FuncData} {ps : List Str} {G : Fn}
abbrev FOk (c : SC) (k : Nat) (f : Addr) (fd : FuncData) (ps : List Str) (G : Fn) : Prop := FnOk c.P c.w c.K c.mg c.base (L2.CX c.P c.w) k f fd ps (spOf c.K ps.length G)
def xCall (G : Fn) (a : XA) : XE' := fun r m => (a r m).bind G
/-- nothing of the caller's names is asked where an error is wanted -/
def Plain (W : WX) : Prop := ∀ cls d σ σ' H, W cls d σ H → W cls d σ' H
theorem Plain.of (E : XK) : Plain (wOf E) := fun _ _ _ _ _ h => h
abbrev allS (W : WX) : XK := fun cls d H => ∀ σ, W cls d σ H
/-! ### calls whose errors are wanted at the caller's names -/
section
variable {X : Cx} {CX : CXT} {k : Nat} {f C : Addr} {fd : FuncData} {ps : List Str} {sp : Sp} {E : L2.St → XK} {m : Str} {pos apos : Pos} {e o : Expr} {es : List Expr} {ta : TE} {t : TA}
def tMethS (C : Addr) (m : Str) (sp : Sp) (E : L2.St → XK) (ta : TE) (t : TA) : TE := fun σ H Q => ta σ H fun w H1 => ∃ a dx fs, w = .ref a ∧ H1 a = some (.ins C dx fs) ∧ fs.lookup m = none ∧ t σ H1 fun vs H2 => sp (w :: vs) H2 Q (E σ)
end
/-- o.m(e, ..) -/
def xMeth (cn m : Str) (G : Fn) (o : XE') (a : XA) : XE' := fun r mu => (o r mu).bind fun d m1 => match insOf m1 d with
  | some (c', gs) => if c' = cn ∧ gs.lookup m = none then (a r m1).bind fun ds m2 => G (d :: ds) m2 else .stuck
  | none => .stuck
/-- o.p, a property -/
def xProp (cn : Str) (G : Fn) (o : XE') : XE' := fun r mu => (o r mu).bind fun d m1 => match insOf m1 d with
  | some (c', _) => if c' = cn then (match G [d] m1 with
    | .exc _ _ _ => .stuck
    | q => q) else .stuck
  | none => .stuck
/-- C(e, ..): a new object -/
def madeD (cn : Str) (frz : Bool) (n : Nat) (d : D) (m2 : Mu) : Out D := match d with
  | .non => (match m2[n]? with
    | some (.ins c' gs) => if c' = cn then (if frz then .ok (.obj cn gs) (m2.take n) else .ok (.loc n) m2) else .stuck
    | _ => .stuck)
  | _ => .stuck
def makeD (cn : Str) (G : Fn) (frz : Bool) (ds : List D) (m1 : Mu) : Out D := (G (.loc m1.length :: ds) (m1 ++ [.ins cn []])).bind (madeD cn frz m1.length)
def xMake (cn : Str) (G : Fn) (frz : Bool) (a : XA) : XE' := fun r m => (a r m).bind (makeD cn G frz)
def tMakeS (C : Addr) (sp : Sp) (dvs : List V) (n : Nat) (E : L2.St → XK) (t : TA) : TE := fun σ H Q => t σ H fun vs H1 => vs.length + dvs.length + 1 = n ∧ ∀ x dx, H1 x = none → H1 dx = none → dx ≠ x → sp (.ref x :: (vs ++ dvs)) (upd (upd H1 dx (.own x)) x (.ins C dx [])) (fun v H2 => v = .non ∧ Q (.ref x) H2) (E σ)
end
end DS

namespace DS
open PySem PySem.Spec PyProof.Rows L2
section
variable {c : SC} {W : WX} {pos : Pos} {a b e : Expr} {fa fb fe : XE'} {ft : XT} {st : Stmt} {rest sa sb : List Stmt} {g u v : XS}
/-! ### blocks, small statements -/
def sNil : XS := fun r m => .next r m
def sSeq (f g : XS) : XS := fun r m => match f r m with
  | .next r' m' => g r' m'
  | o => o
theorem dss_nil : DSs c W [] sNil := ⟨tNext, fun _ _ => pss_nil, fun r m σ H F al E he hw p => p σ H F al Le.refl hw he⟩
theorem dss_one (h : DSt c W st g) : DSs c W [st] g := by
  obtain ⟨t, h1, h2⟩ := h
  exact ⟨t, fun y hy => pss_one (h1 y hy), h2⟩
theorem dss_cons (h : DSt c W st g) (h' : DSs c W rest u) : DSs c W (st :: rest) (sSeq g u) := by
  obtain ⟨t, h1, h2⟩ := h
  obtain ⟨t', h1', h2'⟩ := h'
  refine ⟨tSeq t t', fun y hy => pss_cons (h1 y hy) (h1' y hy), fun r m σ H F al E he hw p => ?_⟩
  refine h2 r m σ H F al { E with nx := t' E } he hw ?_
  unfold sSeq at p
  cases q : g r m with
  | next r' m' =>
    rw [q] at p
    exact fun σ' H' F' al' e w' he' => h2' r' m' σ' H' F' al' E he' w' (p.up e)
  | brk r' m' => rw [q] at p; exact p
  | cont r' m' => rw [q] at p; exact p
  | ret d m' => rw [q] at p; exact p
  | exc _ _ _ _ => rw [q] at p; exact p
  | stuck => rw [q] at p; exact p
def sNever : XS := fun _ _ => .stuck
def sExpr (f : XE') : XS := fun r m => (f r m).stm r fun _ m1 => .next r m1
theorem ds_expr (h : DE c W e fe) (hs : ∀ env, swapsWith e none pos.line env = pure false := by intro _; rfl) : DSt c W (.Expr e pos) (sExpr fe) := by
  obtain ⟨t, h1, h2⟩ := h
  refine ⟨tDrop t, fun y hy => ps_expr (h1 y hy) (hs _), fun r m σ H F al E he hw p => ?_⟩
  exact h2 r m σ H F al _ he hw (PostS.step he p fun d m1 v H1 F1 al1 e1 w1 q1 p1 => p1 σ H1 F1 al1 Le.refl w1 (he.up e1))
def sRet (f : XE') : XS := fun r m => (f r m).stm r fun d m1 => .ret d m1
theorem ds_ret (h : DE c W e fe) : DSt c W (.Return (some e) pos) (sRet fe) := by
  obtain ⟨t, h1, h2⟩ := h
  refine ⟨tRet t, fun y hy => ps_ret (h1 y hy), fun r m σ H F al E he hw p => ?_⟩
  exact h2 r m σ H F al _ he hw (PostS.step he p fun d m1 v H1 F1 al1 e1 w1 q1 p1 => p1 v H1 F1 al1 Le.refl w1 q1)
def sIf (t : XT) (f g : XS) : XS := fun r m => (t r m).stm r fun k m1 => if k then f r m1 else g r m1
theorem ds_if (ht : DT c W e ft) (ha : DSs c W sa u) (hb : DSs c W sb v) : DSt c W (.If e sa sb pos) (sIf ft u v) := by
  obtain ⟨t, t1, t2⟩ := ht
  obtain ⟨ta, a1, a2⟩ := ha
  obtain ⟨tb, b1, b2⟩ := hb
  refine ⟨tIfS t ta tb, fun y hy => ps_if (t1 y hy) (a1 y hy) (b1 y hy), fun r m σ H F al E he hw p => ?_⟩
  refine t2 r m σ H F al _ he hw (PostS.step he p fun k m1 k' H1 F1 al1 e1 w1 q1 p1 => ?_)
  cases q1
  cases k with
  | true => exact a2 r m1 σ H1 F1 al1 E (he.up e1) w1 p1
  | false => exact b2 r m1 σ H1 F1 al1 E (he.up e1) w1 p1

/-! ### targets -/
abbrev XG := D → Rho → Mu → Out Rho
abbrev XGs := List D → Rho → Mu → Out Rho
/-- names' values, all but the slots vs as before -/
abbrev RE (K : PySem.W.Frag) (vs : List Nat) (σ : L2.St) : Hp → List Addr → Rho → L2.St → Prop := fun F al r σ' => EnvOk K F al r σ' ∧ wipe σ' vs = wipe σ vs
def DG (c : SC) (W : WX) (vs : List Nat) (tg : Expr) (g : XG) : Prop := ∃ t : TG, (∀ y, OkD c W y → PG (c.cx y) tg t) ∧
  ∀ d x r m σ H F al Q, EnvOk c.K F al r σ → Wd c.K F al m H → Rp c.K F al d x → Post c.K (RE c.K vs σ) (atS W σ) F al Q (g d r m) → t x σ H Q
def DGs (c : SC) (W : WX) (vs : List Nat) (tg : List Expr) (g : XGs) : Prop := ∃ t : TGs, (∀ y, OkD c W y → PGs (c.cx y) tg t) ∧
  ∀ ds xs r m σ H F al Q, EnvOk c.K F al r σ → Wd c.K F al m H → RpL c.K F al ds xs → Post c.K (RE c.K vs σ) (atS W σ) F al Q (g ds r m) → t xs σ H Q
theorem wipe_set {i : Nat} {x : Option V} : ∀ {vs : List Nat} {σ : L2.St}, i ∈ vs → wipe (σ.set i x) vs = wipe σ vs
  | [], _, h => by simp at h
  | v :: vs, σ, h => by
    unfold wipe
    rcases List.mem_cons.mp h with e | h
    · subst e
      by_cases hi : i ∈ vs
      · rw [wipe_set hi]
      · have wn : ∀ (vs : List Nat) (σ : L2.St), i ∉ vs → (wipe (σ.set i x) vs) = (wipe σ vs).set i x := fun vs => by
          induction vs with
          | nil => intro σ _; rfl
          | cons w ws ih =>
            intro σ hn
            have h1 : i ≠ w := fun z => hn (by simp [z])
            have h2 : i ∉ ws := fun z => hn (by simp [z])
            show (wipe (σ.set i x) ws).set w none = ((wipe σ ws).set w none).set i x
            rw [ih σ h2, List.set_comm _ _ h1]
        rw [wn vs σ hi, List.set_set]
    · rw [wipe_set h]
def gNm (i : Nat) : XG := fun d r m => .ok (r.set i (some d)) m
theorem dg_name (i : Nat) {x : Str} {vs : List Nat} (hN : c.N.Nodup) (hi : c.N[i]? = some x := by rfl) (hx : L2.Loc c.sc x := by first | exact .inl rfl | exact .inr rfl) (hf : c.fnB x = true ∨ c.sc.names.lookup x = some .local := by first | exact .inr rfl | exact .inl rfl) (hv : i ∈ vs := by simp) : DG c W vs (.Name x pos) (gNm i) := by
  refine ⟨gName i, fun y hy => pg_name hN hi (hy.loc hx) ?_, fun d v r m σ H F al Q he hw q p => ?_⟩
  · rcases hf with z | z
    · exact .inl (hy.fn x z)
    · refine .inr ?_
      have e : (c.cx y).env.scope = c.sc := hy.scope
      rw [e]; exact z
  · exact p _ H F al Le.refl hw ⟨he.set i q, wipe_set hv⟩
def gsNil : XGs := fun ds r m => match ds with
  | [] => .ok r m
  | _ => .stuck
def gsCons (g : XG) (gs : XGs) : XGs := fun ds r m => match ds with
  | d :: ds => (g d r m).bind fun r1 m1 => gs ds r1 m1
  | [] => .stuck
def gTp (n : Nat) (g : XGs) : XG := fun d r m => match d with
  | .tup ds => if ds.length = n then g ds r m else .stuck
  | .lst ds => if ds.length = n then g ds r m else .stuck
  | _ => .stuck
theorem PG.or {X : Cx} {tg : Expr} {t t' : TG} (h : PG X tg t) (h' : PG X tg t') : PG X tg (fun v σ H Q => t v σ H Q ∨ t' v σ H Q) :=
  ⟨fun pins s σ H v u Q I r q => q.elim (fun q => h.run pins s σ H v u Q I r q) fun q => h'.run pins s σ H v u Q I r q⟩
/-- o[i] = .. -/
def setD (o i d : D) (m : Mu) : Out Unit := match o, i with
  | .loc n, .int k => (match m[n]? with
    | some (.lst xs) => (match ixN xs.length k with
      | some j => if d.inB n then .ok () (m.set n (.lst (xs.set j d))) else .stuck
      | none => .stuck)
    | _ => .stuck)
  | _, _ => .stuck
theorem inL_append {n : Nat} : ∀ {xs ys : List D}, D.inL n xs = true → D.inL n ys = true → D.inL n (xs ++ ys) = true
  | [], _, _, h => h
  | x :: r, _, h, h' => by
    rw [D.inL, Bool.and_eq_true] at h
    show D.inL n (x :: (r ++ _)) = true
    rw [D.inL, h.1, inL_append h.2 h']; rfl
def gSb (o i : XE') : XG := fun d r m => (o r m).bind fun ov m1 => (i r m1).bind fun iv m2 => (setD ov iv d m2).bind fun _ m3 => .ok r m3
def sAsg (f : XE') (g : XG) : XS := fun r m => (f r m).stm r fun d m1 => (g d r m1).stm r fun r' m2 => .next r' m2
theorem ds_asg {tg : Expr} {g : XG} (vs : List Nat) (h : DE c W e fe) (hg : DG c W vs tg g) (hs : ∀ env, env.scope = c.sc → swapsWithSole [tg] e pos.line env = pure false := by (intro env h; rfl)) (hw : ∀ env, env.scope = c.sc → swappedStores [tg] e env = pure none := by (intro env h; rfl))
    (ha : ∀ env, (assignEach [tg] env).map (·.2) = [assign tg env] := by intro _; rfl) : DSt c W (.Assign [tg] e pos) (sAsg fe g) := by
  obtain ⟨t, h1, h2⟩ := h
  obtain ⟨t', h1', h2'⟩ := hg
  refine ⟨tAsg t t', fun y hy => ps_asg (h1 y hy) (h1' y hy) (hs _ hy.scope) (hw _ hy.scope) (ha _), fun r m σ H F al E he hw p => ?_⟩
  refine h2 r m σ H F al _ he hw (PostS.step he p fun d m1 x H1 F1 al1 e1 w1 q1 p1 => ?_)
  refine h2' d x r m1 σ H1 F1 al1 _ (he.up e1) w1 q1 (PostS.step (he.up e1) p1 fun r' m2 σ2 H2 F2 al2 e2 w2 q2 p2 => ?_)
  exact p2 σ2 H2 F2 al2 Le.refl w2 q2.1
def sPar (i j : Nat) (a : XA) : XS := fun r m => (a r m).stm r fun ds m1 => match ds with
  | [x, y] => .next ((r.set i (some x)).set j (some y)) m1
  | _ => .stuck
theorem ds_par (i j : Nat) {x y : Str} {fr : XA} {px py pt : Pos} {kt k2 : Nat} {pt2 : Pos} (hN : c.N.Nodup) (h : DA c W [a, b] fr) (hi : c.N[i]? = some x := by rfl) (hj : c.N[j]? = some y := by rfl) (hij : i ≠ j := by decide) (hx : c.sc.names.lookup x = some .local := by rfl) (hy : c.sc.names.lookup y = some .local := by rfl)
    (hsw : ∀ env, env.scope = c.sc → swappedStores [.Tuple [.Name x px, .Name y py] kt pt] (.Tuple [a, b] k2 pt2) env = pure (some [x, y]) := by (intro env h; cases env; cases h; rfl))
    (hs : ∀ env, env.scope = c.sc → swapsWithSole [.Tuple [.Name x px, .Name y py] kt pt] (.Tuple [a, b] k2 pt2) pos.line env = pure false := by (intro env h; rfl)) (hcm : c.calm = true := by rfl) : DSt c W (.Assign [.Tuple [.Name x px, .Name y py] kt pt] (.Tuple [a, b] k2 pt2) pos) (sPar i j fr) := by
  obtain ⟨⟨t, h1, h2⟩, hl⟩ := h
  refine ⟨tPar i j t, fun z hz => ?_, fun r m σ H F al E he hw p => ?_⟩
  · have e : (c.cx z).env.scope = c.sc := hz.scope
    exact ps_par (X := c.cx z) hcm hN hi hj hij (by rw [e]; exact hx) (by rw [e]; exact hy) (h1 z hz) (hsw _ hz.scope) (hs _ hz.scope)
  · refine h2 r m σ H F al _ he hw (PostS.step he p fun ds m1 vs H1 F1 al1 e1 w1 q1 p1 => ?_)
    split at p1
    · cases q1 with
      | cons qa q =>
        cases q with
        | cons qb q =>
          cases q
          exact ⟨_, _, rfl, p1 _ H1 F1 al1 Le.refl w1 (((he.up e1).set i qa).set j qb)⟩
    · exact p1.elim
def sPar3 (i j l : Nat) (a : XA) : XS := fun r m => (a r m).stm r fun ds m1 => match ds with
  | [x, y, z] => .next (((r.set i (some x)).set j (some y)).set l (some z)) m1
  | _ => .stuck
end
end DS

namespace DS
open PySem PySem.Spec PyProof.Rows L2
section
variable {c : SC} {W : WX} {pos : Pos} {a b d e : Expr} {fa fb fe : XE'} {ft : XT} {st : Stmt} {sts : List Stmt} {g u v : XS}
/-! ### o.f = e -/
def putD (f : Str) (d : D) : List (Str × D) → List (Str × D)
  | [] => [(f, d)]
  | (x, y) :: r => if x = f then (x, d) :: r else (x, y) :: putD f d r
def putC (cn f : Str) (o q : D) (m : Mu) : Out Unit := match o with
  | .loc n => (match m[n]? with
    | some (.ins c' gs) => if c' = cn ∧ gs.length < 1000 ∧ q.inB n = true then .ok () (m.set n (.ins cn (putD f q gs))) else .stuck
    | _ => .stuck)
  | _ => .stuck
def sFl (cn f : Str) (o v : XE') : XS := fun r m => (v r m).stm r fun q m1 => (o r m1).stm r fun od m2 => (putC cn f od q m2).stm r fun _ m3 => .next r m3
/-! ### x += e, o.f += e (ints) -/
def sAug (i : Nat) (f : XE') : XS := fun r m => match r[i]? with
  | some (some x) => (f r m).stm r fun y m1 => (match x, y with
    | .int p, .int q => .next (r.set i (some (.int (p + q)))) m1
    | _, _ => .stuck)
  | _ => .stuck
/-! ### what is walked -/
structure Yld (K : PySem.W.Frag) (J : It) (xs : List D) (F : Hp) (al : List Addr) : Prop where
  go : ∀ (H : Hp) (F' : Hp) (al' : List Addr) (m : Mu) (i : Nat) (d : D), Le F al F' al' → Wd K F' al' m H → xs[i]? = some d →
    J.go i H ∧ ∀ x H', J.yld i H x H' → ∃ F2, Le F' al' F2 al' ∧ Wd K F2 al' m H' ∧ Rp K F2 al' d x
  stop : ∀ (H : Hp) (F' : Hp) (al' : List Addr) (m : Mu) (i : Nat), Le F al F' al' → Wd K F' al' m H → xs.length ≤ i → J.stop i H
def DI (c : SC) (W : WX) (tg iter : Expr) (f : XA) : Prop := ∃ wi : TI, (∀ y, OkD c W y → PI (c.cx y) tg iter wi) ∧
  ∀ r m σ H F al R, EnvOk c.K F al r σ → Wd c.K F al m H → Post c.K (fun F al xs J => Yld c.K J xs F al) (atS W σ) F al R (f r m) → wi σ H R
theorem PI.or {X : Cx} {tg it : Expr} {w w' : TI} (h : PI X tg it w) (h' : PI X tg it w') : PI X tg it (fun σ H R => w σ H R ∨ w' σ H R) :=
  ⟨fun pins s σ H R I q => q.elim (fun q => h.run pins s σ H R I q) fun q => h'.run pins s σ H R I q⟩
theorem SqL.fix {K : PySem.W.Frag} {F F' H : Hp} {al al' : List Addr} {m : Mu} {q : Addr} {vs : List V} (s : SqL K F q vs) (e : Le F al F' al') (w : Wd K F' al' m H) : SqL K H q vs := sql_up w.sub (sql_up e.f s)
theorem SqT.fix {K : PySem.W.Frag} {F F' H : Hp} {al al' : List Addr} {m : Mu} {q : Addr} {vs : List V} (s : SqT K F q vs) (e : Le F al F' al') (w : Wd K F' al' m H) : SqT K H q vs := sqt_up w.sub (sqt_up e.f s)
theorem yld_list {K : PySem.W.Frag} {F : Hp} {al : List Addr} {q : Addr} {vs : List V} {xs : List D} (s : SqL K F q vs) (r : RpL K F al xs vs) : Yld K (Itl K q) xs F al := by
  refine ⟨fun H F' al' m i d e w hd => ?_, fun H F' al' m i e w hi => ⟨vs, SqL.fix s e w, by rw [← r.len]; exact hi⟩⟩
  obtain ⟨x, h1, h2⟩ := r.get hd
  refine ⟨⟨vs, x, SqL.fix s e w, h1⟩, fun y H' hy => ?_⟩
  obtain ⟨rfl, hy⟩ := hy
  have := (hy vs (SqL.fix s e w)).symm.trans h1
  cases this
  exact ⟨F', Le.refl, w, h2.up e⟩
theorem yld_tup {K : PySem.W.Frag} {F : Hp} {al : List Addr} {q : Addr} {vs : List V} {xs : List D} (s : SqT K F q vs) (r : RpL K F al xs vs) : Yld K (Itt K q) xs F al := by
  refine ⟨fun H F' al' m i d e w hd => ?_, fun H F' al' m i e w hi => ⟨vs, SqT.fix s e w, by rw [← r.len]; exact hi⟩⟩
  obtain ⟨x, h1, h2⟩ := r.get hd
  refine ⟨⟨vs, x, SqT.fix s e w, h1⟩, fun y H' hy => ?_⟩
  obtain ⟨rfl, hy⟩ := hy
  have := (hy vs (SqT.fix s e w)).symm.trans h1
  cases this
  exact ⟨F', Le.refl, w, h2.up e⟩
/-- a list or a tuple that stands still, a text -/
def seqD : D → Mu → Out (List D)
  | .lst xs, m => .ok xs m
  | .fix xs, m => .ok xs m
  | .tup xs, m => .ok xs m
  | .str z, m => .ok (z.cps.toList.map fun k => .str ⟨#[k]⟩) m
  | _, _ => .stuck
def xiSeq (f : XE') : XA := fun r m => (f r m).bind seqD
theorem yld_str {K : PySem.W.Frag} {F : Hp} {al : List Addr} {z : Str} : Yld K (Its z) (z.cps.toList.map fun k => .str ⟨#[k]⟩) F al := by
  refine ⟨fun H F' al' m i d e w hd => ?_, fun H F' al' m i e w hi => ?_⟩
  · rw [List.getElem?_map] at hd
    cases hk : z.cps.toList[i]? with
    | none => rw [hk] at hd; cases hd
    | some k =>
      rw [hk] at hd
      cases hd
      have hk' : z.cps[i]? = some k := by rw [← Array.getElem?_toList]; exact hk
      refine ⟨(Array.getElem?_eq_some_iff.mp hk').1, fun x H' hy => ?_⟩
      obtain ⟨rfl, c', h1, rfl⟩ := hy
      rw [hk'] at h1
      cases h1
      exact ⟨F', Le.refl, w, .str _⟩
  · rw [List.length_map, Array.length_toList] at hi
    exact hi
theorem di_seq {tg : Expr} (h : DE c W e fe) : DI c W tg e (xiSeq fe) := by
  obtain ⟨t, h1, h2⟩ := h
  refine ⟨fun σ H R => (iList c.K t σ H R ∨ iTup c.K t σ H R) ∨ iStr t σ H R, fun y hy => PI.or (PI.or (pi_list (X := c.cx y) (h1 y hy)) (pi_tup (X := c.cx y) (h1 y hy))) (pi_str (h1 y hy)), fun r m σ H F al R he hw p => ?_⟩
  unfold xiSeq at p
  cases q : fe r m with
  | stuck => rw [q] at p; exact p.elim
  | exc cc fs m1 =>
    refine .inr (h2 r m σ H F al _ he hw ?_)
    rw [q] at p ⊢
    exact p
  | ok d m1 =>
    cases d with
    | str z =>
      refine .inr (h2 r m σ H F al _ he hw ?_)
      rw [q] at p ⊢
      intro x H1 F1 al1 e1 w1 q1
      cases q1
      exact ⟨z, rfl, p _ H1 F1 al1 e1 w1 yld_str⟩
    | tup xs =>
      refine .inl (.inr (h2 r m σ H F al _ he hw ?_))
      rw [q] at p ⊢
      intro x H1 F1 al1 e1 w1 q1
      cases q1 with
      | @tup q' vs _ s q2 => exact ⟨q', rfl, ⟨vs, sqt_up w1.sub s⟩, p _ H1 F1 al1 e1 w1 (yld_tup s q2)⟩
    | lst xs =>
      refine .inl (.inl (h2 r m σ H F al _ he hw ?_))
      rw [q] at p ⊢
      intro x H1 F1 al1 e1 w1 q1
      cases q1 with
      | @lst q' vs _ s q2 => exact ⟨q', rfl, ⟨vs, .of (w1.sub _ _ s)⟩, p _ H1 F1 al1 e1 w1 (yld_list (.of s) q2)⟩
    | fix xs =>
      refine .inl (.inl (h2 r m σ H F al _ he hw ?_))
      rw [q] at p ⊢
      intro x H1 F1 al1 e1 w1 q1
      cases q1 with
      | @fix q' vs _ s q2 => exact ⟨q', rfl, ⟨vs, sql_up w1.sub s⟩, p _ H1 F1 al1 e1 w1 (yld_list s q2)⟩
    | _ => rw [q] at p; exact p.elim
/-! range -/
def rngL (lo : Int) (n : Nat) : List D := (List.range n).map fun (i : Nat) => .int (lo + (i : Int))
theorem yld_rng {K : PySem.W.Frag} {F : Hp} {al : List Addr} {lo : Int} {n : Nat} : Yld K (Itr lo n) (rngL lo n) F al := by
  refine ⟨fun H F' al' m i d e w hd => ?_, fun H F' al' m i e w hi => ?_⟩
  · unfold rngL at hd
    rw [List.getElem?_map] at hd
    cases hk : (List.range n)[i]? with
    | none => rw [hk] at hd; cases hd
    | some k =>
      rw [hk] at hd
      cases hd
      obtain ⟨h1, h2⟩ := List.getElem?_eq_some_iff.mp hk
      rw [List.length_range] at h1
      rw [List.getElem_range] at h2
      subst h2
      refine ⟨h1, fun x H' hy => ?_⟩
      obtain ⟨rfl, rfl⟩ := hy
      exact ⟨F', Le.refl, w, .int _⟩
  · unfold rngL at hi
    rw [List.length_map, List.length_range] at hi
    exact hi
def rngD1 (ds : List D) (m : Mu) : Out (List D) := match ds with
  | [.int j] => if -(2 ^ 62) ≤ j ∧ j < 2 ^ 62 then .ok (rngL 0 j.toNat) m else .stuck
  | _ => .stuck
def rngD2 (ds : List D) (m : Mu) : Out (List D) := match ds with
  | [.int i, .int j] => if -(2 ^ 62) ≤ i ∧ i < 2 ^ 62 ∧ -(2 ^ 62) ≤ j ∧ j < 2 ^ 62 then .ok (rngL i (j - i).toNat) m else .stuck
  | _ => .stuck
def xiRng1 (f : XA) : XA := fun r m => (f r m).bind rngD1
def xiRng2 (f : XA) : XA := fun r m => (f r m).bind rngD2
theorem di_range1 {tg : Expr} {fr : XA} {p0 : Pos} (hm : c.mg "range" = none) (h : DA c W [a] fr) (hg : c.sc.names.lookup ("range" : Str) = some .globalImplicit := by rfl) (hs : ∀ env, starEach [a] env = [(false, eval a env)] := by intro _; rfl) : DI c W tg (.Call (.Name "range" p0) [a] [] pos) (xiRng1 fr) := by
  obtain ⟨⟨t, h1, h2⟩, _⟩ := h
  refine ⟨iRng1 t, fun y hy => pi_range1 (hy.gl hg) hm (h1 y hy) (hs _), fun r m σ H F al R he hw p => ?_⟩
  refine h2 r m σ H F al _ he hw (Post.step p fun ds m1 vs H1 F1 al1 e1 w1 q1 p1 => ?_)
  unfold rngD1 at p1
  split at p1
  · cases q1 with
    | cons qa q =>
      cases q; cases qa
      split at p1
      · rename_i hb
        exact ⟨_, rfl, hb.1, hb.2, p1 _ H1 F1 al1 Le.refl w1 yld_rng⟩
      · exact p1.elim
  · exact p1.elim
/-! enumerate of a list -/
def enumL : Nat → List D → List D
  | _, [] => []
  | i, x :: r => .tup [.int i, x] :: enumL (i + 1) r
def enumD (ds : List D) (m : Mu) : Out (List D) := match ds with
  | [.lst xs] => .ok (enumL 0 xs) m
  | [.fix xs] => .ok (enumL 0 xs) m
  | _ => .stuck
def xiEnum (f : XA) : XA := fun r m => (f r m).bind enumD
/-! zip of two lists -/
def zipL : List D → List D → List D
  | x :: r, y :: s => .tup [x, y] :: zipL r s
  | _, _ => []
def zipD (ds : List D) (m : Mu) : Out (List D) := match ds with
  | [.lst xs, .lst ys] => .ok (zipL xs ys) m
  | _ => .stuck
def xiZip (f : XA) : XA := fun r m => (f r m).bind zipD
/-! ### for -/
def loopF (g : XG) (body : XS) : List D → Rho → Mu → SO
  | [], r, m => .next r m
  | x :: xs, r, m => (g x r m).stm r fun r1 m1 => match body r1 m1 with
    | .next r2 m2 => loopF g body xs r2 m2
    | .cont r2 m2 => loopF g body xs r2 m2
    | .brk r2 m2 => .next r2 m2
    | o => o
def sFor (f : XA) (g : XG) (body : XS) : XS := fun r m => (f r m).stm r fun xs m1 => loopF g body xs r m1
theorem ds_for {tg it : Expr} {fi : XA} {gt : XG} (vs : List Nat) (hi : DI c W tg it fi) (hg : DG c W vs tg gt) (hb : DSs c W sts g) (hs : ∀ env x, foldedSetIterable it env x = pure x := by intro _ _; rfl) (hcm : c.calm = true := by rfl) : DSt c W (.For tg it sts [] pos) (sFor fi gt g) := by
  obtain ⟨wi, i1, i2⟩ := hi
  obtain ⟨tg', g1, g2⟩ := hg
  obtain ⟨tb, b1, b2⟩ := hb
  refine ⟨tFor wi tg' tb, fun y hy => ps_for hy.own hcm (i1 y hy) (g1 y hy) (b1 y hy) (hs _), fun r m σ H F al E he hw p => ?_⟩
  refine i2 r m σ H F al _ he hw (PostS.step he p fun xs m1 J H1 F1 al1 e1 w1 q1 p1 => ?_)
  refine ⟨fun i k σ' H' => ∃ r' m' F' al', k = xs.length - i ∧ i ≤ xs.length ∧ Le F1 al1 F' al' ∧ Wd c.K F' al' m' H' ∧ EnvOk c.K F' al' r' σ' ∧ PostS c.K W F' al' E (loopF gt g (xs.drop i) r' m'),
    ⟨xs.length, r, m1, F1, al1, rfl, Nat.zero_le _, Le.refl, w1, he.up e1, p1⟩, ?_⟩
  rintro i k σ' H' ⟨r', m', F', al', rfl, hi, e', w', he', p'⟩
  by_cases hlt : i < xs.length
  · have hd : xs[i]? = some xs[i] := List.getElem?_eq_getElem hlt
    obtain ⟨hgo, hyl⟩ := q1.go H' F' al' m' i xs[i] e' w' hd
    refine .inr ⟨hgo, fun σ2 H2 => ∃ r2 m2 F2 al2, Le F1 al1 F2 al2 ∧ Wd c.K F2 al2 m2 H2 ∧ EnvOk c.K F2 al2 r2 σ2 ∧ PostS c.K W F2 al2 E (loopF gt g (xs.drop (i + 1)) r2 m2), fun σ2 H2 ⟨r2, m2, F2, al2, z1, z2, z3, z4⟩ => ⟨xs.length - (i + 1), by omega, r2, m2, F2, al2, rfl, hlt, z1, z2, z3, z4⟩, fun x H2 hy => ?_⟩
    obtain ⟨F2, e2, w2, q2⟩ := hyl x H2 hy
    rw [List.drop_eq_getElem_cons hlt] at p'
    refine g2 xs[i] x r' m' σ' H2 F2 al' _ (he'.up e2) w2 q2 (PostS.step (he'.up e2) (p'.up e2) fun r3 m3 σ3 H3 F3 al3 e3 w3 q3 p3 => ?_)
    refine b2 r3 m3 σ3 H3 F3 al3 _ q3.1 w3 ?_
    have up3 := (e'.trans e2).trans e3
    cases o : g r3 m3 with
    | next r4 m4 => rw [o] at p3; exact fun σ4 H4 F4 al4 e4 w4 he4 => ⟨r4, m4, F4, al4, up3.trans e4, w4, he4, p3.up e4⟩
    | cont r4 m4 => rw [o] at p3; exact fun σ4 H4 F4 al4 e4 w4 he4 => ⟨r4, m4, F4, al4, up3.trans e4, w4, he4, p3.up e4⟩
    | brk r4 m4 => rw [o] at p3; exact p3
    | ret d m4 => rw [o] at p3; exact p3
    | exc _ _ _ _ => rw [o] at p3; exact p3
    | stuck => rw [o] at p3; exact p3
  · have ei : i = xs.length := by omega
    subst ei
    rw [List.drop_length] at p'
    exact .inl ⟨q1.stop H' F' al' m' _ e' w' (Nat.le_refl _), p' σ' H' F' al' Le.refl w' he'⟩
/-! ### while -/
def loopW (t : XT) (body : XS) : Nat → Rho → Mu → SO
  | 0, _, _ => .stuck
  | n + 1, r, m => (t r m).stm r fun k m1 => if k then (match body r m1 with
    | .next r2 m2 => loopW t body n r2 m2
    | .cont r2 m2 => loopW t body n r2 m2
    | .brk r2 m2 => .next r2 m2
    | o => o) else .next r m1
end
end DS

namespace DS
open PySem PySem.Spec PyProof.Rows L2
/-! ### list comprehensions -/
def wipeR (r : Rho) : List Nat → Rho
  | [] => r
  | v :: vs => (wipeR r vs).set v none
theorem EnvOk.unset {K : PySem.W.Frag} {F : Hp} {al : List Addr} {r : Rho} {σ : L2.St} (h : EnvOk K F al r σ) (i : Nat) : EnvOk K F al (r.set i none) (σ.set i none) := by
  refine ⟨by rw [List.length_set, List.length_set]; exact h.len, fun j e hj => ?_⟩
  by_cases hij : j = i
  · subst hij
    have hl : j < r.length := by
      have := (List.getElem?_eq_some_iff.mp hj).1
      rw [List.length_set] at this
      exact this
    rw [List.getElem?_set_self hl] at hj
    cases hj
  · rw [List.getElem?_set_ne (Ne.symm hij)] at hj
    obtain ⟨w, a, b⟩ := h.get j e hj
    exact ⟨w, by rw [List.getElem?_set_ne (Ne.symm hij)]; exact a, b⟩
theorem EnvOk.wipe {K : PySem.W.Frag} {F : Hp} {al : List Addr} {r : Rho} {σ : L2.St} (h : EnvOk K F al r σ) : ∀ vs : List Nat, EnvOk K F al (wipeR r vs) (L2.wipe σ vs)
  | [] => h
  | v :: vs => (EnvOk.wipe h vs).unset v
def noW : WX := fun _ _ _ _ => False
def Out.ne {α : Type} : Out α → Out α
  | .exc _ _ _ => .stuck
  | o => o
theorem Post.stepN {δ ν δ' ν' : Type} {K : PySem.W.Frag} {R : Hp → List Addr → δ → ν → Prop} {R' : Hp → List Addr → δ' → ν' → Prop} {W W' : XK} {F0 F : Hp} {al0 al : List Addr} {Q : ν → Hp → Prop} {Q' : ν' → Hp → Prop} {o : Out δ} {k : δ → Mu → Out δ'}
    (h : Post K R' W' F0 al0 Q' (o.ne.bind k)) (hk : ∀ d m v H1 F1 al1, Le F al F1 al1 → Wd K F1 al1 m H1 → R F1 al1 d v → Post K R' W' F0 al0 Q' (k d m) → Q v H1) : Post K R W F al Q o := by
  cases o with
  | ok d m => exact fun v H' F' al' e w r => hk d m v H' F' al' e w r h
  | exc c fs m => exact h.elim
  | stuck => exact h.elim
def pushD (n : Nat) (d : D) (m : Mu) : Out Unit := match m[n]? with
  | some (.lst acc) => if d.inB n = true ∧ acc.length < sizeLine then .ok () (m.set n (.lst (acc ++ [d]))) else .stuck
  | _ => .stuck
def lcF (g : XG) (tt : XT) (te : XE') (n : Nat) (r0 : Rho) : List D → Mu → Out Unit
  | [], m => .ok () m
  | x :: xs, m => (g x r0 m).ne.bind fun r1 m1 => (tt r1 m1).ne.bind fun b m2 => if b then (te r1 m2).ne.bind fun d m3 => (pushD n d m3).bind fun _ m4 => lcF g tt te n r0 xs m4 else lcF g tt te n r0 xs m2
def lcEnd (n : Nat) (m : Mu) : Out D := match m[n]? with
  | some (.lst acc) => .ok (.lst acc) (m.take n)
  | _ => .stuck
def lcD (g : XG) (tt : XT) (te : XE') (r0 : Rho) (xs : List D) (m : Mu) : Out D := (lcF g tt te m.length r0 xs (m ++ [.lst []])).bind fun _ m2 => lcEnd m.length m2
def xLc (f : XA) (vs : List Nat) (g : XG) (tt : XT) (te : XE') : XE' := fun r m => (f r m).bind fun xs m1 => lcD g tt te (wipeR r vs) xs m1
def SC.blk (c : SC) (scope : Scope) : SC := { c with sc := relS scope c.sc, fnB := fun x => scope.names.lookup x == some .cell, hx := none, df := false, me := none }
def blkD (y : Dyn) (s : Shared) (H : Hp) (scope : Scope) (cenv : Env) (fp : List Addr) : Dyn := { A := y.A, s_0 := s, H_0 := H, env := cenv, outer := y.stack, stack := y.stack, ex := fp, fn := fun x => scope.names.lookup x == some .cell, pn := [], xe := fun _ _ => False }
theorem OkD.blk {c : SC} {W : WX} {y : Dyn} (hy : OkD c W y) (s : Shared) (H : Hp) (scope : Scope) (C : Addr) (cl : List (Str × Addr)) (fp : List Addr) : OkD (c.blk scope) noW (blkD y s H scope (compEnvC scope cl C y.env) fp) := by
  refine ⟨?_, hy.room, hy.hd, ?_, fun x h => h, hy.gd, PassesOwn.never, (fun _ _ z => nomatch z), (fun z => Bool.noConfusion (show false = true from z)), (fun _ z => nomatch z), hy.rj⟩
  · show relS scope y.env.scope = relS scope c.sc
    rw [hy.scope]
  · rintro u s' ⟨a, B, sI, pins, σ, H, cls, d, e, I, nb, up, sky, na, os, ag, w⟩
    exact w.elim
def xYes : XT := fun _ m => .ok true m
def DTs (c : SC) (W : WX) (ifs : List Expr) (f : XT) : Prop := ∃ t : TT, (∀ y, OkD c W y → PTs (c.cx y) ifs t) ∧
  ∀ r m σ H F al Q, EnvOk c.K F al r σ → Wd c.K F al m H → Post c.K RB (atS W σ) F al Q (f r m) → t σ H Q
section
variable {c : SC} {W : WX} {pos : Pos} {a b d e : Expr} {fa fb fe : XE'} {ft : XT}
theorem dts_nil : DTs c W [] xYes := ⟨tYes, fun _ _ => pts_nil, fun r m σ H F al Q he hw p => p true H F al Le.refl hw rfl⟩
theorem dts_one (h : DT c W e ft) : DTs c W [e] ft := by
  obtain ⟨t, h1, h2⟩ := h
  exact ⟨t, fun y hy => pts_one (h1 y hy), h2⟩
theorem lc_read {elt tg : Expr} {ifs : List Expr} {scope : Scope} {vs : List Nat} {gt : XG} {tt : XT} {te : XE'} {tg' : TG} {t2 : TT} {t3 : TE} {J : It} {xs : List D} {r : Rho} {m1 : Mu} {σ : L2.St} {H1 F1 : Hp} {al1 : List Addr} {Q : VK} {W' : XK}
    (g2 : ∀ d x r m σ H F al Q, EnvOk c.K F al r σ → Wd c.K F al m H → Rp c.K F al d x → Post c.K (RE c.K vs σ) (atS noW σ) F al Q (gt d r m) → tg' x σ H Q)
    (h2 : ∀ r m σ H F al Q, EnvOk c.K F al r σ → Wd c.K F al m H → Post c.K RB (atS noW σ) F al Q (tt r m) → t2 σ H Q)
    (h3 : ∀ r m σ H F al Q, EnvOk c.K F al r σ → Wd c.K F al m H → Post c.K (RD c.K) (atS noW σ) F al Q (te r m) → t3 σ H Q)
    (he : EnvOk c.K F1 al1 r σ) (w1 : Wd c.K F1 al1 m1 H1) (q1 : Yld c.K J xs F1 al1) (p : Post c.K (RD c.K) W' F1 al1 Q (lcD gt tt te (wipeR r vs) xs m1)) :
    ∀ D', H1 D' = none → ∃ Wv : Nat → Nat → Hp → Prop, (∃ k, Wv 0 k (upd H1 D' (.lst []))) ∧ ∀ i k H, Wv i k H →
      (J.stop i H ∧ Q (.ref D') H) ∨ (J.go i H ∧ ∃ Nx : Hp → Prop, (∀ H', Nx H' → ∃ k', k' < k ∧ Wv (i + 1) k' H') ∧ ∀ x H', J.yld i H x H' → tg' x (wipe σ vs) H' fun σ2 H2 => wipe σ2 vs = wipe σ vs ∧ t2 σ2 H2 fun b H3 =>
        if b = true then t3 σ2 H3 fun y H4 => ∃ acc, H4 D' = some (.lst acc) ∧ acc.length < sizeLine ∧ Nx (upd H4 D' (.lst (acc ++ [y]))) else Nx H3) := by
  intro D' hD
  have hlast : (al1 ++ [D'])[m1.length]? = some D' := by rw [← w1.len, List.getElem?_append_right (Nat.le_refl _), Nat.sub_self]; rfl
  have w0 : Wd c.K F1 (al1 ++ [D']) (m1 ++ [.lst []]) (upd H1 D' (.lst [])) := w1.newCell hD ⟨w1.fnone hD, [], upd_same, .nil⟩ rfl
  refine ⟨fun i k H' => ∃ m' F' al', k = xs.length - i ∧ i ≤ xs.length ∧ Le F1 (al1 ++ [D']) F' al' ∧ Wd c.K F' al' m' H' ∧ Post c.K (RD c.K) W' F1 al1 Q ((lcF gt tt te m1.length (wipeR r vs) (xs.drop i) m').bind fun _ m2 => lcEnd m1.length m2),
    ⟨xs.length, _, F1, al1 ++ [D'], rfl, Nat.zero_le _, Le.refl, w0, p⟩, ?_⟩
  rintro i k H' ⟨m', F', al', rfl, hi, e', w', p'⟩
  have e1' : Le F1 al1 F' al' := Le.snoc.trans e'
  by_cases hlt : i < xs.length
  · have hd : xs[i]? = some xs[i] := List.getElem?_eq_getElem hlt
    obtain ⟨hgo, hyl⟩ := q1.go H' F' al' m' i xs[i] e1' w' hd
    refine .inr ⟨hgo, fun H2 => ∃ m2 F2 al2, Le F1 (al1 ++ [D']) F2 al2 ∧ Wd c.K F2 al2 m2 H2 ∧ Post c.K (RD c.K) W' F1 al1 Q ((lcF gt tt te m1.length (wipeR r vs) (xs.drop (i + 1)) m2).bind fun _ m2 => lcEnd m1.length m2), fun H2 ⟨m2, F2, al2, z1, z2, z3⟩ => ⟨xs.length - (i + 1), by omega, m2, F2, al2, rfl, hlt, z1, z2, z3⟩, fun x H2 hy => ?_⟩
    obtain ⟨F2, e2, w2, q2⟩ := hyl x H2 hy
    rw [List.drop_eq_getElem_cons hlt, lcF] at p'
    have he2 : EnvOk c.K F2 al' (wipeR r vs) (wipe σ vs) := ((he.up e1').up e2).wipe vs
    refine g2 xs[i] x _ m' _ H2 F2 al' _ he2 w2 q2 (Post.stepN p'.assoc fun r3 m3 σ3 H3 F3 al3 e3 w3 q3 p3 => ?_)
    refine ⟨?_, h2 r3 m3 σ3 H3 F3 al3 _ q3.1 w3 (Post.stepN p3.assoc fun b m4 b' H4 F4 al4 e4 w4 q4 p4 => ?_)⟩
    · rw [q3.2]
      have wz : ∀ (ws : List Nat) (σ : L2.St), wipe (wipe σ ws) ws = wipe σ ws := fun ws σ => by
        apply List.ext_getElem?
        intro n
        have hl : ∀ (us : List Nat) (τ : L2.St), n ∈ us → n < τ.length → (wipe τ us)[n]? = some none := fun us => by
          induction us with
          | nil => intro τ h _; simp at h
          | cons u us ih =>
            intro τ h hn
            unfold L2.wipe
            by_cases hu : n = u
            · subst hu
              rw [List.getElem?_set_self (by rw [wipe_length]; exact hn)]
            · rw [List.getElem?_set_ne (Ne.symm hu)]
              exact ih τ ((List.mem_cons.mp h).resolve_left hu) hn
        have hr : ∀ (us : List Nat) (τ : L2.St), n ∉ us → (wipe τ us)[n]? = τ[n]? := fun us => by
          induction us with
          | nil => intro τ _; rfl
          | cons u us ih =>
            intro τ h
            unfold L2.wipe
            rw [List.getElem?_set_ne (fun z => h (by simp [z]))]
            exact ih τ fun z => h (by simp [z])
        by_cases hn : n ∈ ws
        · by_cases hlen : n < σ.length
          · rw [hl ws _ hn (by rw [wipe_length]; exact hlen), hl ws _ hn hlen]
          · rw [List.getElem?_eq_none_iff.mpr (by rw [wipe_length, wipe_length]; omega), List.getElem?_eq_none_iff.mpr (by rw [wipe_length]; omega)]
        · rw [hr ws _ hn]
      exact wz vs σ
    · cases q4
      have up4 : Le F1 (al1 ++ [D']) F4 al4 := ((e'.trans e2).trans e3).trans e4
      cases b with
      | false => exact ⟨m4, F4, al4, up4, w4, p4⟩
      | true =>
        show t3 σ3 H4 _
        have p4 : Post c.K (RD c.K) W' F1 al1 Q (((te r3 m4).ne.bind fun d m5 => (pushD m1.length d m5).bind fun _ m6 => lcF gt tt te m1.length (wipeR r vs) (xs.drop (i + 1)) m6).bind fun _ m2 => lcEnd m1.length m2) := p4
        refine h3 r3 m4 σ3 H4 F4 al4 _ (q3.1.up e4) w4 (Post.stepN p4.assoc fun q m5 y H5 F5 al5 e5 w5 q5 p5 => ?_)
        have up5 := up4.trans e5
        have hx5 : al5[m1.length]? = some D' := up5.a _ _ hlast
        unfold pushD at p5
        cases hc : m5[m1.length]? with
        | none => rw [hc] at p5; exact p5.elim
        | some cl =>
          cases cl with
          | ins _ _ => rw [hc] at p5; exact p5.elim
          | dct _ => rw [hc] at p5; exact p5.elim
          | dead => rw [hc] at p5; exact p5.elim
          | tab _ => rw [hc] at p5; exact p5.elim
          | opn _ _ _ => rw [hc] at p5; exact p5.elim
          | dtt _ => rw [hc] at p5; exact p5.elim
          | lst acc =>
            rw [hc] at p5
            simp only at p5
            obtain ⟨hf, ws, h4, h5⟩ := w5.cell _ _ _ hx5 hc
            by_cases hb : q.inB m1.length = true ∧ acc.length < sizeLine
            · rw [if_pos hb] at p5
              have hg : D.inL m1.length acc = true := w5.gen _ _ hc
              refine ⟨ws, h4, by rw [← h5.len]; exact hb.2, _, F5, al5, up5, w5.write (c := .lst (acc ++ [q])) hx5 hf ⟨hf, _, upd_same, h5.snoc q5⟩ (inL_append hg (by rw [D.inL, hb.1, D.inL]; rfl)), p5⟩
            · rw [if_neg hb] at p5; exact p5.elim
  · have ei : i = xs.length := by omega
    subst ei
    rw [List.drop_length, lcF] at p'
    refine .inl ⟨q1.stop H' F' al' m' _ e1' w' (Nat.le_refl _), ?_⟩
    have hx2 : al'[m1.length]? = some D' := e'.a _ _ hlast
    have p' : Post c.K (RD c.K) W' F1 al1 Q (lcEnd m1.length m') := p'
    unfold lcEnd at p'
    split at p'
    · rename_i acc hc
      obtain ⟨hf, ws, h4, h5⟩ := w'.cell _ _ _ hx2 hc
      have hg : D.inL m1.length acc = true := w'.gen _ _ hc
      exact p' _ H' (upd F' D' (.lst ws)) (al'.take m1.length) ((e1'.trans (ext_new hf)).cut (Nat.le_of_eq w1.len)) (w'.frz hx2 h4 hf (Nat.le_refl _)) (.lst upd_same ((h5.cut hg).up (ext_new hf)))
    · exact p'.elim
theorem de_lc {elt tg it : Expr} {ifs : List Expr} {scope : Scope} (own : List (Str × Nat)) {fi : XA} {gt : XG} {tt : XT} {te : XE'} (hN : c.N.Nodup) (ok : blkC c.N c.sc scope own = true) (hi : DI c W tg it fi) (hg : DG (c.blk scope) noW (own.map (·.2)) tg gt) (ht : DTs (c.blk scope) noW ifs tt) (he : DE (c.blk scope) noW elt te)
    (hs : ∀ env x, foldedSetIterable it env x = pure x := by intro _ _; rfl) (hcm : c.calm = true := by rfl) : DE c W (.ListComp elt [⟨tg, it, ifs, 0⟩] scope pos) (xLc fi (own.map (·.2)) gt tt te) := by
  obtain ⟨wi, i1, i2⟩ := hi
  obtain ⟨tg', g1, g2⟩ := hg
  obtain ⟨t2, t1, t2'⟩ := ht
  obtain ⟨t3, e1, e2⟩ := he
  refine ⟨tLc wi tg' t2 t3 (own.map (·.2)), fun y hy => pe_lc (X := c.cx y) hcm hN (i1 y hy) (by
      have z : (c.cx y).env.scope = c.sc := hy.scope
      rw [z]; exact blkOk_by ok) (fun s H C cl fp => g1 _ (hy.blk s H scope C cl fp)) (fun s H C cl fp => t1 _ (hy.blk s H scope C cl fp)) (fun s H C cl fp => e1 _ (hy.blk s H scope C cl fp)) (hs _), fun r m σ H F al Q he hw p => ?_⟩
  refine i2 r m σ H F al _ he hw (Post.step p fun xs m1 J H1 F1 al1 e3 w1 q1 p1 => ?_)
  exact lc_read (c := c) (elt := elt) (tg := tg) (ifs := ifs) (scope := scope) g2 t2' e2 (he.up e3) w1 q1 p1
theorem ds_lc (i : Nat) {y0 : Str} {py spos : Pos} {elt tg it : Expr} {ifs : List Expr} {scope : Scope} (own : List (Str × Nat)) {fi : XA} {gt : XG} {tt : XT} {te : XE'} (hN : c.N.Nodup) (ok : blkC c.N c.sc scope own = true) (hi : DI c W tg it fi) (hg : DG (c.blk scope) noW (own.map (·.2)) tg gt) (ht : DTs (c.blk scope) noW ifs tt) (he : DE (c.blk scope) noW elt te)
    (hy : c.N[i]? = some y0 := by rfl) (hyl : c.sc.names.lookup y0 = some .local := by rfl) (hk : c.sc.kind = .function := by rfl) (hl : (py.line == pos.line) = true := by rfl) (hn : (scope.names.any fun (n, k) => n == y0 && (k == .local || k == .cell)) = false := by decide +kernel)
    (hs : ∀ env x, foldedSetIterable it env x = pure x := by intro _ _; rfl) (hcm : c.calm = true := by rfl) : DSt c W (.Assign [.Name y0 py] (.ListComp elt [⟨tg, it, ifs, 0⟩] scope pos) spos) (sAsg (xLc fi (own.map (·.2)) gt tt te) (gNm i)) := by
  obtain ⟨wi, i1, i2⟩ := hi
  obtain ⟨tg', g1, g2⟩ := hg
  obtain ⟨t2, t1, t2'⟩ := ht
  obtain ⟨t3, e1, e2⟩ := he
  refine ⟨tAsg (tLc wi tg' t2 t3 (own.map (·.2))) (gName i), fun y hz => ?_, fun r m σ H F al E he hw p => ?_⟩
  · have z : (c.cx y).env.scope = c.sc := hz.scope
    exact ps_setLc (X := c.cx y) hcm hN hy (by rw [z]; exact hyl) (sw_true (by rw [z]; exact hk) (by rw [z]; exact hyl) hl hn) (i1 y hz) (by rw [z]; exact blkOk_by ok) (fun s H C cl fp => g1 _ (hz.blk s H scope C cl fp)) (fun s H C cl fp => t1 _ (hz.blk s H scope C cl fp)) (fun s H C cl fp => e1 _ (hz.blk s H scope C cl fp)) (hs _)
  · have p' : PostS c.K W F al E ((fi r m).stm r fun xs m1 => (lcD gt tt te (wipeR r (own.map (·.2))) xs m1).stm r fun d m2 => .next (r.set i (some d)) m2) := by
      have q : sAsg (xLc fi (own.map (·.2)) gt tt te) (gNm i) r m = ((fi r m).stm r fun xs m1 => (lcD gt tt te (wipeR r (own.map (·.2))) xs m1).stm r fun d m2 => .next (r.set i (some d)) m2) := by
        unfold sAsg xLc
        cases fi r m <;> rfl
      rw [← q]; exact p
    refine i2 r m σ H F al _ he hw (PostS.step he p' fun xs m1 J H1 F1 al1 e3 w1 q1 p1 => ?_)
    refine lc_read (c := c) (elt := elt) (tg := tg) (ifs := ifs) (scope := scope) (W' := atS W σ) (Q := fun x H1 => gName i x σ H1 E.nx) g2 t2' e2 (he.up e3) w1 q1 (PostS.step (he.up e3) p1 fun d m2 x H2 F2 al2 e4 w2 q2 p2 => ?_)
    exact p2 _ H2 F2 al2 Le.refl w2 (((he.up e3).up e4).set i q2)
end
end DS

namespace DS
open PySem PySem.Spec PyProof.Rows L2
section
variable {c : SC} {W : WX} {pos : Pos} {a b d e o : Expr} {fa fb fe fo : XE'} {ft : XT} {es : List Expr} {fr : XA} {x : Str} {p0 apos : Pos}
/-! ### built-ins called by name -/
def CallD (c : SC) (f : Value) (g : Fn) : Prop := ∃ r, (∀ W y, OkD c W y → CallR (c.cx y) f r) ∧
  ∀ (W : XK) ds m vs H F al Q, Wd c.K F al m H → RpL c.K F al ds vs → Post c.K (RD c.K) W F al Q (g ds m) → r vs H Q
theorem CallR.or {X : Cx} {f : Value} {r r' : List V → Hp → VK → Prop} (h : CallR X f r) (h' : CallR X f r') : CallR X f (fun vs H Q => r vs H Q ∨ r' vs H Q) :=
  fun pins s σ H vs us Q I rv q => q.elim (fun q => h pins s σ H vs us Q I rv q) fun q => h' pins s σ H vs us Q I rv q
theorem de_callB {id : String} {g : Fn} (hc : CallD c (.builtin id) g) (hm : c.mg x = none) (hv : bootBuiltins x = some (.builtin id)) (ha : DA c W (e :: es) fr) (hg : c.sc.names.lookup x = some .globalImplicit := by rfl) (hn : x ≠ "__name__" := by decide) (hdb : (x == ("__debug__" : Str)) = false := by decide)
    (hs : ∀ env, starEach (e :: es) env = (false, eval e env) :: starEach es env := by intro _; rfl) (hpl : ∀ env, (backTo pos (starEach es env)).any (·.1) = false := by intro _; rfl) : DE c W (.Call (.Name x p0) (e :: es) [] pos) (xCall g fr) := by
  obtain ⟨r, h1, h2⟩ := hc
  obtain ⟨⟨t, a1, a2⟩, _⟩ := ha
  refine ⟨tCB r t, fun y hy => pe_callB (h1 W y hy) (hy.gl hg) hm hv (a1 y hy) hn hdb (hs _) (hpl _), fun ρ m σ H F al Q he hw p => ?_⟩
  exact a2 ρ m σ H F al _ he hw (Post.step p fun ds m1 vs H1 F1 al1 e1 w1 q1 p1 => h2 _ ds m1 vs H1 F1 al1 Q w1 q1 p1)
theorem de_callT {T : String} {g : Fn} (hc : CallD c (.type T) g) (hm : c.mg x = none) (hv : bootBuiltins x = some (.type T)) (ha : DA c W (e :: es) fr) (hg : c.sc.names.lookup x = some .globalImplicit := by rfl) (hn : x ≠ "__name__" := by decide) (hdb : (x == ("__debug__" : Str)) = false := by decide)
    (hs : ∀ env, starEach (e :: es) env = (false, eval e env) :: starEach es env := by intro _; rfl) (hpl : ∀ env, (backTo pos (starEach es env)).any (·.1) = false := by intro _; rfl) : DE c W (.Call (.Name x p0) (e :: es) [] pos) (xCall g fr) := by
  obtain ⟨r, h1, h2⟩ := hc
  obtain ⟨⟨t, a1, a2⟩, _⟩ := ha
  refine ⟨tCB r t, fun y hy => pe_callTy (h1 W y hy) (hy.gl hg) hm hv (a1 y hy) hn hdb (hs _) (hpl _), fun ρ m σ H F al Q he hw p => ?_⟩
  exact a2 ρ m σ H F al _ he hw (Post.step p fun ds m1 vs H1 F1 al1 e1 w1 q1 p1 => h2 _ ds m1 vs H1 F1 al1 Q w1 q1 p1)
/-! len -/
def lenD (ds : List D) (m : Mu) : Out D := match ds with
  | [.str z] => if z.length ≤ sizeLine then .ok (.int z.length) m else .stuck
  | [.tup xs] => .ok (.int xs.length) m
  | [d] => (match lstOf m d with
    | some xs => .ok (.int xs.length) m
    | none => .stuck)
  | _ => .stuck
theorem b_len : CallD c (.builtin "len") lenD := by
  refine ⟨fun xs H Q => ∃ x n, xs = [x] ∧ LenV c.K x H n ∧ Q (.int n) H, fun W y hy => call_len (X := c.cx y), fun W ds m vs H F al Q hw r p => ?_⟩
  unfold lenD at p
  split at p
  · cases r with
    | cons q r =>
    cases r; cases q
    split at p
    · rename_i hz
      exact ⟨_, _, rfl, ⟨hz, rfl⟩, p _ H F al Le.refl hw (.int _)⟩
    · exact p.elim
  · cases r with
    | cons q r =>
    cases r
    cases q with
    | @tup q' ws _ s q => exact ⟨_, _, rfl, .inr ⟨ws, sqt_up hw.sub s, rfl⟩, by rw [← q.len]; exact p _ H F al Le.refl hw (.int _)⟩
  · cases r with
    | cons q r =>
    cases r
    split at p
    · rename_i xs hx
      obtain ⟨q', ws, rfl, s, q⟩ := lstOf_ok hw q hx
      exact ⟨_, _, rfl, .inl ⟨ws, s, rfl⟩, by rw [← q.len]; exact p _ H F al Le.refl hw (.int _)⟩
    · exact p.elim
  · exact p.elim
/-! int, str, abs, max, min of two -/
def intF (ds : List D) (m : Mu) : Out D := match ds with
  | [.int i] => .ok (.int i) m
  | [.str z] => (match PySem.intText? z with
    | some n => if z.length ≤ 640 then .ok (.int n) m else .stuck
    | none => .stuck)
  | _ => .stuck
theorem b_int : CallD c (.type "int") intF := by
  refine ⟨_, fun W y hy => CallR.or call_int1 call_int_str, fun W ds m vs H F al Q hw r p => ?_⟩
  unfold intF at p
  split at p
  · cases r with
    | cons q r =>
    cases r; cases q
    exact .inl (.inl ⟨_, rfl, p _ H F al Le.refl hw (.int _)⟩)
  · cases r with
    | cons q r =>
    cases r; cases q
    split at p
    · rename_i n hn
      split at p
      · rename_i hz
        exact .inr ⟨_, n, rfl, hn, hz, p _ H F al Le.refl hw (.int _)⟩
      · exact p.elim
    · exact p.elim
  · exact p.elim
def strF (ds : List D) (m : Mu) : Out D := match ds with
  | [.int i] => if i.natAbs.log2 < 1920 then .ok (.str (toString i)) m else .stuck
  | _ => .stuck
def absF (ds : List D) (m : Mu) : Out D := match ds with
  | [.int i] => .ok (.int (if i < 0 then -i else i)) m
  | _ => .stuck
/-- the ints of a list -/
def intsL : List D → Option (List Int)
  | [] => some []
  | .int i :: r => (intsL r).map (i :: ·)
  | _ => none
def maxL : Int → List Int → Int
  | i, [] => i
  | i, j :: r => maxL (if j > i then j else i) r
def maxF (ds : List D) (m : Mu) : Out D := match ds with
  | [.int i, .int j] => .ok (.int (if j > i then j else i)) m
  | [d] => (match lstOf m d with
    | some xs => (match intsL xs with
      | some (i :: r) => .ok (.int (maxL i r)) m
      | _ => .stuck)
    | none => .stuck)
  | _ => .stuck
def minF (ds : List D) (m : Mu) : Out D := match ds with
  | [.int i, .int j] => .ok (.int (if j < i then j else i)) m
  | _ => .stuck
def sumF (ds : List D) (m : Mu) : Out D := match ds with
  | [d] => (match lstOf m d with
    | some xs => (match intsL xs with
      | some ns => .ok (.int ns.sum) m
      | _ => .stuck)
    | none => .stuck)
  | _ => .stuck
/-- the truth values of a list -/
def bsL : List D → Option (List Bool)
  | [] => some []
  | .bl i :: r => (bsL r).map (i :: ·)
  | _ => none
def allF (ds : List D) (m : Mu) : Out D := match ds with
  | [d] => (match lstOf m d with
    | some xs => (match bsL xs with
      | some ns => .ok (.bl (ns.all id)) m
      | _ => .stuck)
    | none => .stuck)
  | _ => .stuck
def anyF (ds : List D) (m : Mu) : Out D := match ds with
  | [d] => (match lstOf m d with
    | some xs => (match bsL xs with
      | some ns => .ok (.bl (ns.any id)) m
      | _ => .stuck)
    | none => .stuck)
  | _ => .stuck
/-! tuple(..), list(..), divmod -/
def tupF (ds : List D) (m : Mu) : Out D := match ds with
  | [.tup xs] => .ok (.tup xs) m
  | [d] => (match lstOf m d with
    | some xs => .ok (.tup xs) m
    | none => .stuck)
  | _ => .stuck
def seqOf (m : Mu) : D → Option (List D)
  | .tup xs => some xs
  | d => lstOf m d
def lstF (ds : List D) (m : Mu) : Out D := match ds with
  | [d] => (match seqOf m d with
    | some xs => .ok (.lst xs) m
    | none => .stuck)
  | _ => .stuck
/-- .. that will change -/
def newF (ds : List D) (m : Mu) : Out D := match ds with
  | [d] => (match seqOf m d with
    | some xs => if D.inL m.length xs then .ok (.loc m.length) (m ++ [.lst xs]) else .stuck
    | none => .stuck)
  | _ => .stuck
def dmF (ds : List D) (m : Mu) : Out D := match ds with
  | [.int i, .int j] => if 0 < j ∧ j < 1073741824 then .ok (.tup [.int (i / j), .int (i % j)]) m else .stuck
  | _ => .stuck
/-! ### methods of built-in types -/
def tyD (T : String) (m : Mu) : D → Bool
  | .str _ => T == "str"
  | d => T == "list" && (lstOf m d).isSome
theorem tyD_ok {K : PySem.W.Frag} {F : Hp} {al : List Addr} {m : Mu} {H : Hp} {T : String} {d : D} {v : V} (w : Wd K F al m H) (r : Rp K F al d v) (h : tyD T m d = true) : tyV K T v H := by
  have lists : (T == "list" && (lstOf m d).isSome) = true → tyV K T v H := fun h => by
    rw [Bool.and_eq_true] at h
    obtain ⟨xs, hx⟩ := Option.isSome_iff_exists.mp h.2
    obtain ⟨q', ws, rfl, s, q⟩ := lstOf_ok w r hx
    exact .inl ⟨by simpa using h.1, ws, s⟩
  cases r with
  | str x => exact (by simpa [tyD] using h : T = "str")
  | _ => exact lists h
def MethD (c : SC) (id : String) (g : Fn) : Prop := ∃ r, (∀ W y, OkD c W y → MtR (c.cx y) id r) ∧
  ∀ (W : XK) o ds m x vs H F al Q, Wd c.K F al m H → Rp c.K F al o x → RpL c.K F al ds vs → Post c.K (RD c.K) W F al Q (g (o :: ds) m) → r x vs H Q
def xBM (T : String) (g : Fn) (o : XE') (a : XA) : XE' := fun r m => (o r m).bind fun d m1 => if tyD T m1 d then (a r m1).bind fun ds m2 => g (d :: ds) m2 else .stuck
theorem de_bm {T id : String} {name : Str} {g : Fn} (pa : PlainAttrs T) (slot : Slot T name id) (hty : typeOf (.builtin id) = pure (.type "method_descriptor")) (hm : MethD c id g) (ho : DE c W o fo) (ha : DA c W (e :: es) fr) (hb : ∀ env, attributeBase o name env (eval o env) = eval o env := by intro _; rfl)
    (hn : ∀ env, ((backTo pos (starEach (e :: es) env)).all (fun x => !x.1) && (backToKw pos (keywordEach [] env)).all (fun x => x.1.isSome) && decide ((e :: es).length + ([] : List Keyword).length + (if ([] : List Keyword).isEmpty then 0 else 1) < 30)) = true := by intro _; rfl) (hl : (apos.endLine == pos.line) = true := by rfl)
    (hs : ∀ env, starEach (e :: es) env = (false, eval e env) :: starEach es env := by intro _; rfl) (hpl : ∀ env, (backTo pos (starEach es env)).any (·.1) = false := by intro _; rfl) : DE c W (.Call (.Attribute o name apos) (e :: es) [] pos) (xBM T g fo fr) := by
  obtain ⟨r, h1, h2⟩ := hm
  obtain ⟨to, o1, o2⟩ := ho
  obtain ⟨⟨t, a1, a2⟩, _⟩ := ha
  refine ⟨tBM c.K T r to t, fun y hy => pe_bm (X := c.cx y) pa slot hty (h1 W y hy) (o1 y hy) (a1 y hy) (hb _) (hn _) hl (hs _) (hpl _), fun ρ m σ H F al Q he hw p => ?_⟩
  refine o2 ρ m σ H F al _ he hw (Post.step p fun d m1 v H1 F1 al1 e1 w1 q1 p1 => ?_)
  split at p1
  · rename_i ht
    exact ⟨tyD_ok w1 q1 ht, a2 ρ m1 σ H1 F1 al1 _ (he.up e1) w1 (Post.step p1 fun ds m2 vs H2 F2 al2 e2 w2 q2 p2 => h2 _ d ds m2 v vs H2 F2 al2 Q w2 (q1.up e2) q2 p2)⟩
  · exact p1.elim
def appF (ds : List D) (m : Mu) : Out D := match ds with
  | [.loc n, d] => (pushD n d m).bind fun _ m1 => .ok .non m1
  | _ => .stuck
theorem m_append : MethD c "list.append" appF := by
  refine ⟨rAppend, fun W y hy => mt_append, fun W o ds m x vs H F al Q hw r1 r p => ?_⟩
  unfold appF at p
  split at p
  · rename_i n d heq
    simp only [List.cons.injEq] at heq
    obtain ⟨rfl, rfl⟩ := heq
    cases r1 with
    | @loc _ ad s =>
    cases r with
    | cons q r =>
    cases r
    unfold pushD at p
    cases hc : m[n]? with
    | none => rw [hc] at p; exact p.elim
    | some cl =>
      cases cl with
      | ins _ _ => rw [hc] at p; exact p.elim
      | dct _ => rw [hc] at p; exact p.elim
      | dead => rw [hc] at p; exact p.elim
      | tab _ => rw [hc] at p; exact p.elim
      | opn _ _ _ => rw [hc] at p; exact p.elim
      | dtt _ => rw [hc] at p; exact p.elim
      | lst acc =>
        rw [hc] at p
        simp only at p
        obtain ⟨hf, ws, h4, h5⟩ := hw.cell _ _ _ s hc
        by_cases hb : d.inB n = true ∧ acc.length < sizeLine
        · rw [if_pos hb] at p
          have hg : D.inL n acc = true := hw.gen _ _ hc
          exact ⟨ad, ws, _, rfl, rfl, h4, by rw [← h5.len]; exact hb.2, p _ _ F al Le.refl (hw.write (c := .lst (acc ++ [d])) s hf ⟨hf, _, upd_same, h5.snoc q⟩ (inL_append hg (by rw [D.inL, hb.1, D.inL]; rfl))) .non⟩
        · rw [if_neg hb] at p; exact p.elim
  · exact p.elim
def popF (ds : List D) (m : Mu) : Out D := match ds with
  | [.loc n] => (match m[n]? with
    | some (.lst xs) => (match xs[xs.length - 1]? with
      | some d => .ok d (m.set n (.lst xs.dropLast))
      | none => .stuck)
    | _ => .stuck)
  | _ => .stuck
theorem RpL.dropLast {K : PySem.W.Frag} {F : Hp} {al : List Addr} : ∀ {ds : List D} {vs : List V}, RpL K F al ds vs → RpL K F al ds.dropLast vs.dropLast
  | _, _, .nil => .nil
  | _, _, .cons r .nil => .nil
  | _, _, .cons r (.cons r' q) => .cons r (RpL.dropLast (.cons r' q))
/-! texts -/
def splitF (ds : List D) (m : Mu) : Out D := match ds with
  | [.str z, .str s] => if (s.length == 0) = false ∧ z.length + 2 ≤ sizeLine then .ok (.lst ((Txt.split z s).map .str)) m else .stuck
  | _ => .stuck
def strsL : List D → Option (List Str)
  | [] => some []
  | .str i :: r => (strsL r).map (i :: ·)
  | _ => none
def joinF (ds : List D) (m : Mu) : Out D := match ds with
  | [.str s, d] => (match seqOf m d with
    | some xs => (match strsL xs with
      | some ys => if (ys.map (·.length)).sum + ys.length * s.length ≤ 16777216 then .ok (.str (Txt.join s ys)) m else .stuck
      | none => .stuck)
    | none => .stuck)
  | _ => .stuck
/-! ### (*a, b) -/
def xaStar (a : XE') (r : XA) : XA := fun ρ m => (a ρ m).bind fun x m1 => match seqOf m1 x with
  | some xs => (r ρ m1).bind fun ys m2 => .ok (xs ++ ys) m2
  | none => .stuck
/-- an argument list of any length -/
def DA' (c : SC) (W : WX) (es : List Expr) (f : XA) : Prop := ∃ t : TA, (∀ y, OkD c W y → PA (c.cx y) es t) ∧
  ∀ r m σ H F al Q, EnvOk c.K F al r σ → Wd c.K F al m H → Post c.K (RL c.K) (atS W σ) F al Q (f r m) → t σ H Q
end
end DS

namespace DS
open PySem PySem.Spec PyProof.Rows L2
/-! ### defs that are called where no repr runs: the law's own -/
structure FnG (b : Base) (k : Nat) (f : Addr) (fd : FuncData) (ps : List Str) (G : Fn) : Prop where
  run : ∀ (A : Around) (out : List Env) (s : Shared) (H : Hp) (ar : Args) (us : List Value) (vs : List V) (Q : VK) (E : XK), Room k A → A.guards = some [] → Env0 b.P b.w b.K b.mg b.base A out s H → BindsTo s fd ar (ps.zip us) → Vals vs us →
    spOf b.K ps.length G vs H Q E → codeAny (model b.P b.w) A (.call (.ref f) ar) (CR (L2.CX b.P b.w) out b.P b.w H s Q E) s
theorem FnG.of {b : Base} {k : Nat} {f : Addr} {fd : FuncData} {ps : List Str} {G : Fn} (h : b.Ok k f fd ps G) : FnG b k f fd ps G :=
  ⟨fun A out s H ar us vs Q E hr _ e0 hb r hs => h.run A out s H ar us vs Q E hr e0 hb r hs⟩
theorem fnG_body {b : Base} {N ps : List Str} {sc : Scope} {k : Nat} {body : List Stmt} {g : XS} {keep : Bool} {E : XK} {Q : VK} {y : Dyn} {vs : List V} {H : Hp} (h : DSs (b.at N sc k true) (wOf E) body g) (hy : OkD (b.at N sc k true) (wOf E) y) (hsp : spOf b.K ps.length (fnOf N.length keep g) vs H Q E) :
    ∃ t, PSs ((b.at N sc k true).cx y) body t ∧ t { nx := fun _ H' => Q .non H', rt := Q } (L2.start N vs) H := by
  obtain ⟨t, h1, h2⟩ := h
  have q : DSs (b.at N sc k false) (wOf E) body g → True := fun _ => trivial
  obtain ⟨ds, m, F, al, hl, r, w, p⟩ := hsp
  refine ⟨t, h1 y hy, h2 (rho0 N.length ds) m (L2.start N vs) H F al _ (env0_ok r) w ?_⟩
  unfold fnOf at p
  cases q : g (rho0 N.length ds) m with
  | next r' m' =>
    rw [q] at p
    exact fun σ' H' F' al' e w' _ => p _ H' F' (al'.take m.length) (e.cut (Nat.le_of_eq w.len)) (w'.cut _) .non
  | ret d m' =>
    rw [q] at p
    intro v H' F' al' e w' rv
    cases keep with
    | true => exact p v H' F' al' e w' rv
    | false => exact exit_ok w' e w.len rv p
  | exc c fs r' m' =>
    rw [q] at p
    intro dd σ' H' F' al' gs e w' _ hg hd
    have p' : Post b.K (RD b.K) E F al Q (if D.inF m.length fs = true then .exc c fs (m'.take m.length) else .stuck) := p
    split at p'
    · rename_i hi
      exact p' dd H' F' (al'.take m.length) gs (e.cut (Nat.le_of_eq w.len)) (w'.cut _) (hg.cut hi) hd
    · exact p'.elim
  | brk _ _ => rw [q] at p; exact p.elim
  | cont _ _ => rw [q] at p; exact p.elim
  | stuck => rw [q] at p; exact p.elim
theorem fnG_ok {b : Base} {x qual : Str} {params : Arguments} {body : List Stmt} {scope : Scope} {dvs : List V} {kws : List (Str × V)} {f : Addr} {fd : FuncData} {N ps : List Str} {k : Nat} {g : XS} (keep : Bool) (D : FunD b.K x qual params body scope dvs kws f fd) (S : FnScope N ps scope)
    (h : ∀ E : XK, DSs (b.at N scope k true) (wOf E) body g) : FnG b (k + 1) f fd ps (fnOf N.length keep g) := by
  refine ⟨fun A out s H ar us vs Q E hr hgd e0 hb r hsp => ?_⟩
  have hl := RpL.lenV hsp
  obtain ⟨oc, od, dV, kV, doc, pm, an, cdv, ct, osl, rfl, lk, hcd, _, _⟩ := D.ex
  have kIn : b.K.In s.heap := e0.mod.kin.keeps fun z o q => (e0.bs z o q).1
  have noLim : s.heap.NoLimit := e0.mod.nolimit.keeps fun z o q => (e0.bs z o q).1
  refine codeAny_call_function hr.depth (kIn _ _ lk) rfl S.co S.gen rfl (PySem.W.codeRec_of kIn hcd) (hb _ _ _ _ ?_)
  refine wpAny_newFunctionEnv_cells S.kind (fun z hz => ?_) fun env he s1 hx => ?_
  · obtain ⟨n, u⟩ := z
    rcases S.par n (List.of_mem_zip hz).1 with q | q
    · exact .inl q
    · exact .inr ⟨q, PySem.W.cellsFrom_some _ _ _ (.inl q)⟩
  · subst he
    refine ⟨noLim.keeps hx.toInCall.keep, codeAny_func ?_⟩
    let y : Dyn := { A := A.deeper (envOfC qual scope s.heap.objs.size f cdv), s_0 := s, H_0 := H, env := envOfC qual scope s.heap.objs.size f cdv, outer := out, stack := envOfC qual scope s.heap.objs.size f cdv :: out, ex := [], fn := fun _ => true, pn := [], xe := (cxOf (L2.CX b.P b.w) b.P b.w b.K b.mg b.base N qual scope f cdv A out s H E).xe }
    have ht : Takes ((b.at N scope k true).cx y) (wOf E) := takes_of (X := (b.at N scope k true).cx y) (E := E) rfl rfl rfl rfl
    have hy : OkD (b.at N scope k true) (wOf E) y := ⟨rfl, L2H.roomH_of (hr.deeper _), fun _ => hr.hd, ht, fun _ _ => rfl, fun _ => hgd, passes_of (X := (b.at N scope k true).cx y) rfl, (fun _ _ z => nomatch z), (fun _ => ⟨rfl, rfl, rfl⟩), (fun _ z => nomatch z), fun z => absurd z (Nat.lt_irrefl 0)⟩
    obtain ⟨t, t1, t2⟩ := fnG_body (h E) hy hsp
    have I : Inv (cxOf (L2.CX b.P b.w) b.P b.w b.K b.mg b.base N qual scope f cdv A out s H E) [] (L2.start N vs) H s1 := inv_start S hr.hd e0 hl r hx
    have t1' : PSs (cxOf (L2.CX b.P b.w) b.P b.w b.K b.mg b.base N qual scope f cdv A out s H E) body t := t1
    refine wpAny_mono (t1'.run [] s1 (L2.start N vs) H _ I t2) (fun fl s' hs => ?_) fun e s' hs => hs
    cases fl with
    | ret u =>
      obtain ⟨v, σ', H', J, rv, q⟩ := hs
      exact ⟨v, H', J.os, J.bare, J.base, J.hok, rv, q⟩
    | next =>
      obtain ⟨σ', H', J, q⟩ := hs
      exact ⟨V.non, H', J.os, J.bare, J.base, J.hok, rfl, q⟩
    | brk => obtain ⟨_, _, _, q⟩ := hs; exact q.elim
    | cont => obtain ⟨_, _, _, q⟩ := hs; exact q.elim
section
variable {c : SC} {W : WX} {pos : Pos} {a d e o : Expr} {fa fb fe fo : XE'} {ft : XT} {es : List Expr} {fr : XA} {x : Str} {p0 apos : Pos} {k : Nat} {f : Addr} {fd : FuncData} {ps : List Str} {G : Fn}
abbrev SC.toB (c : SC) : Base := ⟨c.P, c.w, c.K, c.mg, c.base⟩
theorem runG {X : Cx} {b : Base} {pins : List (Addr × Obj)} {σ : L2.St} {H : Hp} {s : Shared} {Q : VK} {E : XK} {us : List Value} {vs : List V} (e1 : X.prog = b.P) (e2 : X.w = b.w) (e3 : X.K = b.K) (e4 : X.mg = b.mg) (e5 : X.base = b.base) (hF : FnG b k f fd ps G) (hr : Room k X.A) (hg : X.A.guards = some []) (hb : Binds X.K fd ps [])
    (hx : PassesAt (L2.CX X.prog X.w) X σ E) (I : Inv X pins σ H s) (r : Vals vs us) (h : spOf X.K ps.length G vs H Q E) : wpAny (model X.prog X.w) X.A (call (.ref f) us) (EP X pins σ Q) X.xe s := by
  obtain ⟨P, w, K, mg, base⟩ := b
  simp only at e1 e2 e3 e4 e5
  subst e1 e2 e3 e4 e5
  have hl := RpL.lenV h
  have hl2 : (us ++ []).length = ps.length := by rw [List.append_nil, ← r.length]; exact hl
  have hb2 := hb s us I.kIn hl2
  rw [List.append_nil] at hb2
  refine wpAny_call (codeAny_mono (hF.run X.A X.stack s H ⟨us, []⟩ us vs Q E hr hg I.env0 hb2 r h) fun q s' hq => ?_)
  cases q with
  | error z => exact hx pins H s z s' I hq
  | ok fl =>
    cases fl with
    | ret u => exact I.after hq
    | next => exact False.elim hq
    | brk => exact False.elim hq
    | cont => exact False.elim hq
theorem de_callG (hF : FnG c.toB k f fd ps G) (hm : c.mg x = some (.ref f)) (hk : PySem.W.keepIn c.K (.ref f) = true) (hb : Binds c.K fd ps []) (ha : DA c W (e :: es) fr) (hgd : c.gd = true := by rfl) (hr : k ≤ c.k := by first | exact Nat.le_of_ble_eq_true rfl | exact Nat.le_refl _ | exact Nat.le_add_right _ _) (hcm : c.calm = true := by rfl) (hl : (e :: es).length = ps.length := by rfl) (hg : c.sc.names.lookup x = some .globalImplicit := by rfl)
    (hdb : (x == ("__debug__" : Str)) = false := by decide) (hs : ∀ env, starEach (e :: es) env = (false, eval e env) :: starEach es env := by intro _; rfl) (hpl : ∀ env, (backTo pos (starEach es env)).any (·.1) = false := by intro _; rfl) : DE c W (.Call (.Name x p0) (e :: es) [] pos) (xCall G fr) := by
  obtain ⟨⟨t, a1, a2⟩, hlen⟩ := ha
  refine ⟨fun σ H Q => t σ H fun vs H1 => spOf c.K ps.length G vs H1 Q (WE W σ), fun y hy => ⟨fun pins s σ H Q I h => ?_⟩, fun ρ m σ H F al Q he hw p => ?_⟩
  · refine wpAny_Call_Name_kw (ld_glob I (hy.gl hg) hm ?_ hdb)
    refine PySem.W.callWith_K (h₀ := c.base) I.ok.mod.kin hk (thn ((a1 y hy).run pos pins s σ H _ I h) fun us s1 ⟨vs, H1, I1, r, q⟩ => ⟨I1.kIn, ?_⟩) (hs _) (hpl _)
    exact runG (X := c.cx y) (b := c.toB) rfl rfl rfl rfl rfl hF (hy.rm hcm hr) (hy.gd hgd) hb (passAt hy.takes σ) I1 r q
  · refine a2 ρ m σ H F al _ he hw (Post.step (p.lenA fun ds m' e => hlen ρ m ds m' e) fun ds m1 vs H1 F1 al1 e1 w1 q1 p1 => ?_)
    split at p1
    · rename_i hn
      exact ⟨ds, m1, F1, al1, hn.trans hl, q1, w1, p1⟩
    · exact p1.elim
/-! ### repr -/
mutual
/-- data that repr shows: also a dict without entries -/
def toPd : D → Option PyData
  | .non => some .none
  | .bl b => some (.bool b)
  | .int i => some (.int i)
  | .str x => some (.str x)
  | .tup xs => (toPds xs).map .tuple
  | .lst xs => (toPds xs).map .list
  | .fix xs => (toPds xs).map .list
  | .dct kvs => if kvs.isEmpty then some (.dict []) else none
  | _ => none
def toPds : List D → Option (List PyData)
  | [] => some []
  | x :: r => match toPd x, toPds r with
    | some p, some ps => some (p :: ps)
    | _, _ => none
end
mutual
theorem toP_pd : ∀ {d : D} {p : PyData}, toP d = some p → toPd d = some p
  | .non, _, h => h
  | .bl _, _, h => h
  | .int _, _, h => h
  | .str _, _, h => h
  | .tup xs, _, h => by
    rw [toP] at h
    rw [toPd]
    cases e : toPs xs with
    | none => rw [e] at h; cases h
    | some ps => rw [e] at h; rw [toPs_pd e]; exact h
  | .lst xs, _, h => by
    rw [toP] at h
    rw [toPd]
    cases e : toPs xs with
    | none => rw [e] at h; cases h
    | some ps => rw [e] at h; rw [toPs_pd e]; exact h
  | .fix xs, _, h => by
    rw [toP] at h
    rw [toPd]
    cases e : toPs xs with
    | none => rw [e] at h; cases h
    | some ps => rw [e] at h; rw [toPs_pd e]; exact h
  | .obj _ _, _, h => by rw [toP] at h <;> first | cases h | (intros; exact D.noConfusion)
  | .dct _, _, h => by rw [toP] at h <;> first | cases h | (intros; exact D.noConfusion)
  | .loc _, _, h => by rw [toP] at h <;> first | cases h | (intros; exact D.noConfusion)
  | .glo _, _, h => by rw [toP] at h <;> first | cases h | (intros; exact D.noConfusion)
  | .ty _, _, h => by rw [toP] at h <;> first | cases h | (intros; exact D.noConfusion)
  | .exn _ _, _, h => by rw [toP] at h <;> first | cases h | (intros; exact D.noConfusion)
  | .exv _ _, _, h => by rw [toP] at h <;> first | cases h | (intros; exact D.noConfusion)
  | .nst _, _, h => by rw [toP] at h <;> first | cases h | (intros; exact D.noConfusion)
  | .odc, _, h => by rw [toP] at h <;> first | cases h | (intros; exact D.noConfusion)
theorem toPs_pd : ∀ {ds : List D} {ps : List PyData}, toPs ds = some ps → toPds ds = some ps
  | [], _, h => h
  | x :: r, _, h => by
    rw [toPs] at h
    rw [toPds]
    cases e1 : toP x with
    | none => rw [e1] at h; cases h
    | some p =>
      cases e2 : toPs r with
      | none => rw [e1, e2] at h; cases h
      | some ps => rw [e1, e2] at h; rw [toP_pd e1, toPs_pd e2]; exact h
end
/-- the dict of modules is a dict -/
def smB (K : PySem.W.Frag) : Bool := match K.lookup sysModules with
  | some o => (match o.cls with
    | .type n => n == "dict"
    | _ => false)
  | none => false
theorem smB_ne {K : PySem.W.Frag} {h : Heap} {a : Addr} {o : Obj} (hs : smB K = true) (X : K.In h) (ho : h.get? a = some o) (hc : o.cls = .type "list") : a ≠ sysModules := by
  rintro rfl
  unfold smB at hs
  split at hs
  · rename_i o' e
    have := X _ _ e
    rw [ho] at this
    cases this
    rw [hc] at hs
    exact absurd hs (by decide)
  · cases hs
mutual
inductive Dq (K : PySem.W.Frag) (H : Hp) : V → PyData → Prop
  | non : Dq K H .non .none
  | bl (b : Bool) : Dq K H (.bl b) (.bool b)
  | int (i : Int) : Dq K H (.int i) (.int i)
  | str (x : Str) : Dq K H (.str x) (.str x)
  | lst {a : Addr} {xs : List V} {ds : List PyData} : SqL K H a xs → DqAll K H xs ds → Dq K H (.ref a) (.list ds)
  | tup {a : Addr} {xs : List V} {ds : List PyData} : SqT K H a xs → DqAll K H xs ds → Dq K H (.ref a) (.tuple ds)
  | dct {a : Addr} : H a = some (.dK []) → Dq K H (.ref a) (.dict [])
inductive DqAll (K : PySem.W.Frag) (H : Hp) : List V → List PyData → Prop
  | nil : DqAll K H [] []
  | cons {v : V} {vs : List V} {d : PyData} {ds : List PyData} : Dq K H v d → DqAll K H vs ds → DqAll K H (v :: vs) (d :: ds)
end
section
variable {X : Cx} {pins : List (Addr × Obj)} {σ : L2.St} {H : Hp} {s : Shared}
mutual
theorem Dq.reads (I : Inv X pins σ H s) (hs : smB X.K = true) : ∀ {v : V} {d : PyData} {u : Value}, Dq X.K H v d → RelV v u → ∃ as, Reads s.heap u d as ∧ sysModules ∉ as
  | _, _, _, .non, r => by cases r; exact ⟨_, Reads.none, List.not_mem_nil⟩
  | _, _, _, .bl b, r => by cases r; exact ⟨_, Reads.bool b, List.not_mem_nil⟩
  | _, _, _, .int i, r => by obtain ⟨t, rfl⟩ := r; exact ⟨_, Reads.int i t, List.not_mem_nil⟩
  | _, _, _, .str x, r => by obtain ⟨t, rfl⟩ := r; exact ⟨_, Reads.str x t, List.not_mem_nil⟩
  | _, _, _, .lst h ha, r => by
    cases r
    obtain ⟨its, rv, ⟨o, n, ho, hc, _, hd⟩, _⟩ := I.list h
    obtain ⟨as, hr, hn⟩ := DqAll.reads I hs ha rv
    exact ⟨_, Reads.list ho hc hd hr, fun z => (List.mem_cons.mp z).elim (fun z => smB_ne hs I.kIn ho hc z.symm) hn⟩
  | _, _, _, .tup h ha, r => by
    cases r
    obtain ⟨its, rv, ⟨o, ho, hc, n, hd⟩, _⟩ := I.tuple h
    obtain ⟨as, hr, hn⟩ := DqAll.reads I hs ha rv
    exact ⟨_, Reads.tuple ho hc hd hr, hn⟩
  | _, _, _, .dct (a := a) e, r => by
    cases r
    obtain ⟨_, hd, vs, rel, dd⟩ := dk_of I.hok e
    cases rel
    obtain ⟨o, es, ep, ho, hx, hdt, _, hp, _⟩ := dd
    have hl := hp.length
    have he : es.toList = [] := List.length_eq_zero_iff.mp (by simpa using hl)
    have q : Reads s.heap (.ref a) (.dict []) (a :: [] ++ []) := Reads.dict ho hx.1 hdt (by rw [he]; exact .nil) (by rw [he]; exact .nil)
    refine ⟨_, q, fun z => ?_⟩
    have : sysModules = a := by simpa using z
    rw [← this] at hd
    simp at hd
theorem DqAll.reads (I : Inv X pins σ H s) (hs : smB X.K = true) : ∀ {vs : List V} {ds : List PyData} {us : List Value}, DqAll X.K H vs ds → Vals vs us → ∃ as, ReadsAll s.heap us ds as ∧ sysModules ∉ as
  | _, _, _, .nil, r => by cases r; exact ⟨_, ReadsAll.nil, List.not_mem_nil⟩
  | _, _, _, .cons h1 h2, r => by
    cases r with
    | cons r1 r2 =>
      obtain ⟨as, q1, n1⟩ := Dq.reads I hs h1 r1
      obtain ⟨bs, q2, n2⟩ := DqAll.reads I hs h2 r2
      exact ⟨_, ReadsAll.cons q1 q2, fun z => (List.mem_append.mp z).elim n1 n2⟩
end
end
section
variable {K : PySem.W.Frag} {F : Hp} {al : List Addr} {H : Hp}
mutual
theorem Rp.dq (sub : ∀ (a : Addr) (o : HO), F a = some o → H a = some o) : ∀ {d : D} {v : V} {p : PyData}, Rp K F al d v → toPd d = some p → Dq K H v p
  | _, _, _, .non, h => by rw [toPd] at h; cases h; exact .non
  | _, _, _, .bl b, h => by rw [toPd] at h; cases h; exact .bl b
  | _, _, _, .int i, h => by rw [toPd] at h; cases h; exact .int i
  | _, _, _, .str x, h => by rw [toPd] at h; cases h; exact .str x
  | _, _, _, .tup (ds := ds) s q, h => by
    rw [toPd] at h
    cases e : toPds ds with
    | none => rw [e] at h; cases h
    | some ps => rw [e] at h; cases h; exact .tup (sqt_up sub s) (RpL.dq sub q e)
  | _, _, _, .lst (ds := ds) s q, h => by
    rw [toPd] at h
    cases e : toPds ds with
    | none => rw [e] at h; cases h
    | some ps => rw [e] at h; cases h; exact .lst (.of (sub _ _ s)) (RpL.dq sub q e)
  | _, _, _, .fix (ds := ds) s q, h => by
    rw [toPd] at h
    cases e : toPds ds with
    | none => rw [e] at h; cases h
    | some ps => rw [e] at h; cases h; exact .lst (sql_up sub s) (RpL.dq sub q e)
  | _, _, _, .dct (gs := gs) s q, h => by
    rw [toPd] at h
    cases gs with
    | nil =>
      cases q
      cases h
      exact .dct (sub _ _ s)
    | cons g gs => cases h
  | _, _, _, .obj _ _, h => by rw [toPd] at h <;> first | cases h | (intros; exact D.noConfusion)
  | _, _, _, .loc _, h => by rw [toPd] at h <;> first | cases h | (intros; exact D.noConfusion)
  | _, _, _, .glo _, h => by rw [toPd] at h <;> first | cases h | (intros; exact D.noConfusion)
  | _, _, _, .ty _, h => by rw [toPd] at h <;> first | cases h | (intros; exact D.noConfusion)
  | _, _, _, .exn _ _, h => by rw [toPd] at h <;> first | cases h | (intros; exact D.noConfusion)
  | _, _, _, .exv _ _ _, h => by rw [toPd] at h <;> first | cases h | (intros; exact D.noConfusion)
  | _, _, _, .nst _ _, h => by rw [toPd] at h <;> first | cases h | (intros; exact D.noConfusion)
  | _, _, _, .odc _, h => by rw [toPd] at h <;> first | cases h | (intros; exact D.noConfusion)
theorem RpL.dq (sub : ∀ (a : Addr) (o : HO), F a = some o → H a = some o) : ∀ {d : List D} {v : List V} {p : List PyData}, RpL K F al d v → toPds d = some p → DqAll K H v p
  | _, _, _, .nil, h => by rw [toPds] at h; cases h; exact .nil
  | _, _, _, .cons (d := d) (ds := ds) r q, h => by
    rw [toPds] at h
    cases e1 : toPd d with
    | none => rw [e1] at h; cases h
    | some p =>
      cases e2 : toPds ds with
      | none => rw [e1, e2] at h; cases h
      | some ps => rw [e1, e2] at h; cases h; exact .cons (Rp.dq sub r e1) (RpL.dq sub q e2)
end
theorem dere_dq {m : Mu} {d : D} {v : V} {p : PyData} (w : Wd K F al m H) (r : Rp K F al d v) (h : toPd (dere m d) = some p) : Dq K H v p := by
  cases d with
  | loc n =>
    unfold dere at h
    cases r with
    | @loc _ a s =>
    cases e : m[n]? with
    | none => simp only [e] at h; rw [toPd] at h <;> first | cases h | (intros; exact D.noConfusion)
    | some cl =>
      cases cl with
      | lst xs =>
        simp only [e] at h
        obtain ⟨_, vs, h1, h2⟩ := w.cell n a _ s e
        rw [toPd] at h
        cases e2 : toPds xs with
        | none => rw [e2] at h; cases h
        | some ps => rw [e2] at h; cases h; exact .lst (.of h1) (RpL.dq w.sub h2 e2)
      | ins _ _ => simp only [e] at h; rw [toPd] at h <;> first | cases h | (intros; exact D.noConfusion)
      | dct _ => simp only [e] at h; rw [toPd] at h <;> first | cases h | (intros; exact D.noConfusion)
      | dead => simp only [e] at h; rw [toPd] at h <;> first | cases h | (intros; exact D.noConfusion)
      | tab q => simp only [e] at h; rw [toPd] at h <;> first | cases h | (intros; exact D.noConfusion)
      | opn _ _ _ => simp only [e] at h; rw [toPd] at h <;> first | cases h | (intros; exact D.noConfusion)
      | dtt _ => simp only [e] at h; rw [toPd] at h <;> first | cases h | (intros; exact D.noConfusion)
  | _ => exact r.dq w.sub h
end
def reprF (ds : List D) (m : Mu) : Out D := match ds with
  | [d] => (match toPd (dere m d) with
    | some p => if p.showable = true ∧ p.depth ≤ 60 ∧ p.shown.length ≤ sizeLine then .ok (.str p.shown) m else .stuck
    | none => .stuck)
  | _ => .stuck
theorem b_repr (hgd : c.gd = true) (hs : smB c.K = true) : CallD c (.builtin "repr") reprF := by
  refine ⟨fun vs H Q => ∃ v p, vs = [v] ∧ Dq c.K H v p ∧ p.showable = true ∧ p.depth ≤ 60 ∧ p.shown.length ≤ sizeLine ∧ Q (.str p.shown) H, fun W y hy => ?_, fun W ds m vs H F al Q hw r p => ?_⟩
  · rintro pins s σ H vs us Q I rv ⟨v, p, rfl, hd, h1, h2, h4, q⟩
    obtain ⟨u, rfl, ru⟩ := vals1 rv
    obtain ⟨as, hr, hsm⟩ := Dq.reads I hs hd ru
    have hu : y.A.units + 64 < cLine := hy.un64
    have fin : ∀ (h' : Heap) (tk tk' : Tok), (∀ b o, s.heap.get? b = some o → h'.get? b = some o) → EP (c.cx y) pins σ Q (.str p.shown tk) { s with heap := h', toks := tk' } := fun h' tk tk' hk => ⟨.str p.shown, H, I.kept (t' := tk') hk, ⟨_, rfl⟩, q⟩
    cases hd with
    | lst _ _ =>
      obtain rfl : u = Value.ref _ := ru
      exact repr_of_reads' hr h1 (fun _ => hsm) (hy.gd hgd) (show y.A.units + _ < cLine by omega) (fun _ _ e => e) (fun h' t tk hk => fin h' t tk hk) h4
    | tup _ _ =>
      obtain rfl : u = Value.ref _ := ru
      exact repr_of_reads' hr h1 (fun _ => hsm) (hy.gd hgd) (show y.A.units + _ < cLine by omega) (fun _ _ e => e) (fun h' t tk hk => fin h' t tk hk) h4
    | dct _ =>
      obtain rfl : u = Value.ref _ := ru
      exact repr_of_reads' hr h1 (fun _ => hsm) (hy.gd hgd) (show y.A.units + _ < cLine by omega) (fun _ _ e => e) (fun h' t tk hk => fin h' t tk hk) h4
    | non =>
      obtain rfl : u = Value.none := ru
      exact PySem.P.repr_of_none (fin s.heap _ _ fun _ _ e => e)
    | bl b =>
      obtain rfl : u = Value.bool b := ru
      exact PySem.P.repr_of_bool (fin s.heap _ _ fun _ _ e => e)
    | int i =>
      obtain ⟨t, rfl⟩ := ru
      exact PySem.P.repr_of_int (by simpa [PyData.showable] using h1) (fin s.heap _ _ fun _ _ e => e)
    | str x =>
      obtain ⟨t, rfl⟩ := ru
      exact PySem.P.repr_of_str (fin s.heap _ _ fun _ _ e => e) h4
  · unfold reprF at p
    split at p
    · cases r with
      | cons q r =>
      cases r
      split at p
      · rename_i pd hp
        split at p
        · rename_i hb
          exact ⟨_, pd, rfl, dere_dq hw q hp, hb.1, hb.2.1, hb.2.2, p _ H F al Le.refl hw (.str _)⟩
        · exact p.elim
      · exact p.elim
    · exact p.elim
end
end DS

namespace DS
open PySem PySem.Spec PyProof.Rows L2
section
variable {c : SC} {W : WX} {pos : Pos} {a b d e o : Expr} {fa fb fe fo : XE'} {ft : XT} {es : List Expr} {fr : XA} {x : Str} {p0 apos : Pos} {k : Nat} {f : Addr} {fd : FuncData} {ps : List Str} {G : Fn}
/-! ### isinstance -/
/-- what the written part must tell of classes (the laws' own list cs) -/
def tyNames : List String := ["NoneType", "bool", "int", "str", "tuple", "list", "dict"]
structure Isi (K : PySem.W.Frag) (cs : List Str) : Prop where
  cl : ∀ cn ∈ cs, Cls K (He.ga K cn) ∧ PySem.W.findIn K (.ref (He.ga K cn)) "__class__" = some (some (.builtin "object.__class__")) ∧ PySem.W.mroIn K (He.ga K cn) (.type "object") = some true
  gs : PySem.W.specialIn K (.builtin "object.__class__") "__get__" = some (some (.builtin "getset_descriptor.__get__"))
  tk : PySem.W.takesIn K (.builtin "object.__class__") = some true
  ot : ∀ cn ∈ cs, ∀ n ∈ tyNames, PySem.W.kitOne K (.ref (He.ga K cn)) (.type n) = some false
  to : ∀ n ∈ tyNames, ∀ cn ∈ cs, PySem.W.kitOne K (.type n) (.ref (He.ga K cn)) = some false
  oo : ∀ cn ∈ cs, ∀ cm ∈ cs, PySem.W.kitOne K (.ref (He.ga K cn)) (.ref (He.ga K cm)) = some (decide (cn = cm))
/-- the type of data: a built-in one, a class -/
def tyOf (m : Mu) (d : D) : Option (String ⊕ Str) := match d with
  | .non => some (.inl "NoneType")
  | .bl _ => some (.inl "bool")
  | .int _ => some (.inl "int")
  | .str _ => some (.inl "str")
  | .tup _ => some (.inl "tuple")
  | .lst _ => some (.inl "list")
  | .dct _ => some (.inl "dict")
  | .odc => some (.inl "dict")
  | d => match insOf m d with
    | some (c, _) => some (.inr c)
    | none => match ownOf m d with
      | some _ => some (.inl "list")
      | none => none
def tyVal (K : PySem.W.Frag) : String ⊕ Str → Value
  | .inl n => .type n
  | .inr c => .ref (He.ga K c)
def isiB (cs : List Str) (t : String ⊕ Str) (d : D) : Option Bool := match t, d with
  | .inl a, .ty b => L2.kitB a b
  | .inr a, .ty b => if a ∈ cs ∧ b ∈ tyNames then some false else none
  | .inl a, .glo b => if a ∈ tyNames ∧ b ∈ cs then some false else none
  | .inr a, .glo b => if a ∈ cs ∧ b ∈ cs then some (decide (a = b)) else none
  | _, _ => none
def isiF (cs : List Str) (ds : List D) (m : Mu) : Out D := match ds with
  | [d, e] => (match tyOf m d with
    | some t => (match isiB cs t e with
      | some b => .ok (.bl b) m
      | none => .stuck)
    | none => .stuck)
  | _ => .stuck
/-- a built-in type's name, an own class's -/
theorem de_ty {n : String} (hm : c.mg x = none) (hv : bootBuiltins x = some (.type n)) (hg : c.sc.names.lookup x = some .globalImplicit := by rfl) (hn : x ≠ "__name__" := by decide) (hd : (x == ("__debug__" : Str)) = false := by decide) : DE c W (.Name x pos) (xC (.ty n)) :=
  ⟨_, fun y hy => pe_bltn (v := .ty n) (hy.gl hg) hm hv rfl hn hd, fun _ _ _ H F al Q _ hw p => p _ H F al Le.refl hw (.ty n)⟩
theorem de_glo (hm : c.mg x = some (.ref (He.ga c.K x))) (hg : c.sc.names.lookup x = some .globalImplicit := by rfl) (hd : (x == ("__debug__" : Str)) = false := by decide) : DE c W (.Name x pos) (xC (.glo x)) :=
  ⟨_, fun y hy => pe_glob (v := .ref (He.ga c.K x)) (hy.gl hg) hm rfl hd, fun _ _ _ H F al Q _ hw p => p _ H F al Le.refl hw (.glo x)⟩
/-! ### C(e, ..) with defaults, with keywords -/
def xMakeD (cn : Str) (G : Fn) (frz : Bool) (dds : List D) (a : XA) : XE' := fun r m => (a r m).bind fun ds m1 => makeD cn G frz (ds ++ dds) m1
def DK (c : SC) (W : WX) (kws : List Keyword) (f : XA) : Prop := (∃ t : TA, (∀ y, OkD c W y → PK (c.cx y) kws t) ∧
  ∀ r m σ H F al Q, EnvOk c.K F al r σ → Wd c.K F al m H → Post c.K (RL c.K) (atS W σ) F al Q (f r m) → t σ H Q) ∧ ∀ r m ds m', f r m = .ok ds m' → ds.length = kws.length
theorem dk_nil : DK c W [] xaNil := ⟨⟨tNil, fun _ _ => pk_nil, fun _ _ _ H F al Q _ hw p => p [] H F al Le.refl hw .nil⟩, fun r m ds m' h => by cases h; rfl⟩
theorem xaCons_len {n : Nat} (hl : ∀ r m ds m', fr r m = .ok ds m' → ds.length = n) : ∀ r m ds m', xaCons fe fr r m = .ok ds m' → ds.length = n + 1 := fun r m ds m' h => by
  unfold xaCons at h
  cases h1 : fe r m with
  | ok x m1 =>
    rw [h1] at h
    have h' : Out.bind (fr r m1) (fun xs m2 => .ok (x :: xs) m2) = .ok ds m' := h
    cases h2 : fr r m1 with
    | ok xs m2 =>
      rw [h2] at h'
      cases h'
      rw [List.length_cons, hl _ _ _ _ h2]
    | exc _ _ _ => rw [h2] at h'; cases h'
    | stuck => rw [h2] at h'; cases h'
  | exc _ _ _ => rw [h1] at h; cases h
  | stuck => rw [h1] at h; cases h
theorem dk_cons {nm : Option Str} {kpos : Pos} {kws : List Keyword} (ha : DE c W e fe) (hr : DK c W kws fr) : DK c W (⟨nm, e, kpos⟩ :: kws) (xaCons fe fr) := by
  obtain ⟨t, a1, a2⟩ := ha
  obtain ⟨⟨u, b1, b2⟩, hl⟩ := hr
  refine ⟨⟨tCons t u, fun y hy => pk_cons (a1 y hy) (b1 y hy), fun ρ m σ H F al Q he hw p => ?_⟩, xaCons_len hl⟩
  refine a2 ρ m σ H F al _ he hw (Post.step p fun x m1 v H1 F1 al1 e1 w1 q1 p1 => ?_)
  refine b2 ρ m1 σ H1 F1 al1 _ (he.up e1) w1 (Post.step p1 fun xs m2 vs H2 F2 al2 e2 w2 q2 p2 => ?_)
  exact p2 _ H2 F2 al2 Le.refl w2 (.cons (q1.up e2) q2)
/-- C(e, .., k = v): the values between stand by their defaults -/
def xMakeK (cn : Str) (G : Fn) (frz : Bool) (mid : List D) (a b : XA) : XE' := fun r m => (a r m).bind fun ds m1 => (b r m1).bind fun zs m2 => makeD cn G frz (ds ++ (mid ++ zs)) m2
/-- f(k = v, ..) -/
def xCallK (G : Fn) (sh : List D → List D) (b : XA) : XE' := fun r m => (b r m).bind fun zs m2 => G (sh zs) m2
/-! ### dicts with text keys: {k: v for ..}, d[k] -/
def getF (f : Str) (gs : List (Str × D)) : Option D := gs.lookup f
def dgetD (d e : D) (m : Mu) : Out D := match d, e with
  | .dct gs, .str f => (match gs.lookup f with
    | some v => .ok v m
    | none => .stuck)
  | _, _ => .stuck
def dputD (n : Nat) (k d : D) (m : Mu) : Out Unit := match m[n]?, k with
  | some (.dct gs), .str f => if d.inB n = true ∧ gs.length < 1000 ∧ gs.lookup f = none then .ok () (m.set n (.dct (gs ++ [(f, d)]))) else .stuck
  | _, _ => .stuck
def dcF (g : XG) (tk te : XE') (n : Nat) (r0 : Rho) : List D → Mu → Out Unit
  | [], m => .ok () m
  | x :: xs, m => (g x r0 m).ne.bind fun r1 m1 => (tk r1 m1).ne.bind fun k m2 => (te r1 m2).ne.bind fun d m3 => (dputD n k d m3).bind fun _ m4 => dcF g tk te n r0 xs m4
def dcEnd (n : Nat) (m : Mu) : Out D := match m[n]? with
  | some (.dct gs) => .ok (.dct gs) (m.take n)
  | _ => .stuck
def xDc (f : XA) (vs : List Nat) (g : XG) (tk te : XE') : XE' := fun r m => (f r m).bind fun xs m1 => (dcF g tk te m1.length (wipeR r vs) xs (m1 ++ [.dct []])).bind fun _ m2 => dcEnd m1.length m2
theorem RpF.snoc {K : PySem.W.Frag} {F : Hp} {al : List Addr} {f : Str} {q : D} {w : V} (h : Rp K F al q w) : ∀ {gs : List (Str × D)} {fs : List (Str × V)}, RpF K F al gs fs → RpF K F al (gs ++ [(f, q)]) (fs ++ [(f, w)])
  | _, _, .nil => .cons h .nil
  | _, _, .cons r t => .cons r (RpF.snoc h t)
/-! ### small things -/
def xNeg (a : XE') : XE' := fun r m => (a r m).bind fun d m1 => match d with
  | .int i => .ok (.int (-i)) m1
  | _ => .stuck
theorem de_neg (ha : DE c W a fa) : DE c W (.UnaryOp .USub a pos) (xNeg fa) := by
  obtain ⟨t, a1, a2⟩ := ha
  refine ⟨_, fun y hy => pe_un un_neg (a1 y hy), fun ρ m σ H F al Q he hw p => ?_⟩
  refine a2 ρ m σ H F al _ he hw (Post.step p fun d m1 v H1 F1 al1 e1 w1 q1 p1 => ?_)
  cases q1 with
  | int i => exact ⟨i, rfl, p1 _ H1 F1 al1 Le.refl w1 (.int _)⟩
  | _ => exact p1.elim
def xTupS (fr : XA) : XE' := fun r m => (fr r m).bind fun ds m1 => if ds.length ≤ sizeLine then .ok (.tup ds) m1 else .stuck
def xLstS (fr : XA) : XE' := fun r m => (fr r m).bind fun ds m1 => if ds.length ≤ sizeLine then .ok (.lst ds) m1 else .stuck
def sCont : XS := fun r m => .cont r m
end
end DS

/-! # XA: an own exception class whose __init__ says super().__init__() and stores its parameters -/
namespace DS
open PySem PySem.Spec PyProof.Rows L2
/-- what the written part must say of the class C: B its built-in base -/
structure XcI (K : PySem.W.Frag) (file : Str) (C fI cc cda : Addr) (B newId initId : String) (bmB : List Value) (qual : Str) (params : Arguments) (body : List Stmt) (scope : Scope) : Prop where
  fb : ExcBaseFacts B newId initId bmB
  kf : PySem.W.KxsFacts B initId
  sf : StoreFacts B bmB "object.__setattr__" "object"
  exi : PySem.W.excInitIn K C bmB newId = true
  over : PySem.W.excOver K C bmB = true
  init : PySem.W.findIn K (.ref C) "__init__" = some (some (.ref fI))
  tyI : PySem.W.typeIn K (.ref fI) = some (.type "function")
  fn : ∃ (oc : Value) (od : Option Addr) (kV doc pm : Value) (an : Option Addr) (ct : Value) (osl : Array (Option Value)), K.lookup fI = some ⟨oc, od, .func (PySem.W.ksFn "__init__" qual params body scope .none kV doc pm an (.ref cda) ct cc), osl⟩
  code : PySem.W.codeIn K (.ref cda) qual = true
  src : ∃ (ccl : Value) (cdd : Option Addr) (vs : Array Value) (ccs : Array (Option Value)) (tf : Tok), K.lookup cda = some ⟨ccl, cdd, .fields vs, ccs⟩ ∧ vs[2]? = some (.str file tf)
  cell : ∃ (cl : Value) (cld : Option Addr) (csl : Array (Option Value)), K.lookup cc = some ⟨cl, cld, .cell (some (.ref C)), csl⟩
  mro : PySem.W.mroIn K C (.ref C) = some true
  sup : PySem.W.ks_superIn K C C "__init__" = some (some (.builtin initId))
  sub : PySem.W.subIn K (.ref C) (.type B) = some true
  opq : PySem.W.nsIn K cStatics "thirdparty.any" = some none
  sa : PySem.W.findIn K (.ref C) "__setattr__" = some (some (.builtin "object.__setattr__"))
  hd : PySem.W.hasDictIn K C = true
  exb : PySem.W.subIn K (.ref C) (.type "BaseException") = some true
  tyC : PySem.W.typeIn K (.ref C) = some (.type "type")
  kp : PySem.W.keepIn K (.ref C) = true
section
open Builtin Builtin.ObjectAttr
variable {P : Program} {w : World} {A : Around} {E : Value → Shared → Prop} {K : PySem.W.Frag} {h : Heap} {g : Array GenState} {d : Drawn} {t : Nat} {os : OsState} {C fI cc cda : Addr} {B newId initId : String} {bmB : List Value} {qual : Str} {params : Arguments} {body : List Stmt} {scope : Scope}
theorem XcI.cls {file : Str} (T : XcI K file C fI cc cda B newId initId bmB qual params body scope) : ∃ cd, PySem.W.clsIn K C = some cd ∧ cd.hasDict = true := by
  obtain ⟨cd, hc, hx⟩ := PySem.W.any_some T.hd
  exact ⟨cd, hc, hx⟩
/-- self.f = v, the first field of an exception -/
theorem xc_set {file : Str} {x t0 : Addr} {f : Str} {v : Value} {Q : Unit → Shared → Prop} (T : XcI K file C fI cc cda B newId initId bmB qual params body scope) (X : K.In h) (hx : h.get? x = some (PySem.W.excObj C t0 none .none)) (ht : PySem.W.takerIn K C f = some none)
    (hq : ∀ h' tk' dx, (∀ b o, b ≠ x → h.get? b = some o → h'.get? b = some o) → h.objs.size ≤ dx → dx ≠ x → h'.get? x = some (PySem.W.excObj C t0 (some dx) .none) → h'.Ns1 dx (fun y => if y = f then some v else none) → Q () ⟨h', g, d, tk', os⟩) :
    wpAny (model P w) A (setAttr (.ref x) f v) Q E ⟨h, g, d, t, os⟩ := by
  obtain ⟨cd, hcd, hh⟩ := T.cls
  have I : PySem.W.InstAt h x (PySem.W.excObj C t0 none .none) C none := ⟨hx, rfl, rfl, trivial⟩
  have hxs : x ≠ h.objs.size := Nat.ne_of_lt (Heap.lt_size hx)
  refine PySem.W.set_plain (od := none) X I T.sa ?_
  refine PySem.W.osa_openX T.sf X I T.over ht fun b => ?_
  have hcl : PySem.W.Looks (model P w) h (classData C) cd := PySem.W.looks_clsIn X hcd
  obtain ⟨nm, bs, mro, ns, qn, hdd, sn, sb, ab, col, del⟩ := cd
  dsimp only at hh
  subst hh
  dsimp only
  unfold storeInOwnDict ownDictForStores
  repeat (first | with_reducible refine HandSPX.store_in_new ?_ ?_ | with_reducible refine wpAny_loadPart_at hx ?_ | with_reducible refine hcl.at ?_ | wp_step)
  · exact ⟨_, #[], _, (Heap.get?_update_ne _ _ _ _ hxs.symm).trans (Heap.get?_push_at rfl rfl), rfl, fun e he => absurd he (by simp), fun _ => rfl⟩
  · intro h' tk' hn' hs
    have hx1 : (h.push { cls := .type "dict", data := .dict #[] }).get? x = some (PySem.W.excObj C t0 none .none) := Heap.get?_push_of_some _ hx
    refine hq h' tk' h.objs.size (fun b o hb ho => ?_) (Nat.le_refl _) hxs.symm ?_ hn'
    · exact (hs.2 b (Nat.ne_of_lt (Heap.lt_size ho))).trans ((Heap.get?_update_ne _ _ _ _ hb).trans (Heap.get?_push_of_some _ ho))
    · exact (hs.2 x hxs).trans (Heap.get?_update_self _ hx1 rfl)
/-- super().__init__() in an own exception's __init__ -/
theorem xc_super {file : Str} {s : Shared} {h0 : Heap} {L x t0 : Addr} {m mg mb : Str → Option Value} {bd : List Stmt} {ar : Arg} {p0 p1 p2 p3 p4 : Pos} {Q : Flow → Shared → Prop} (T : XcI K file C fI cc cda B newId initId bmB qual params body scope)
    (F : Fr h0 L s.heap m) (X0 : K.In h0) (N : News h0 L s.heap [(x, PySem.W.excObj C t0 none .none)]) (hg : h0.Ns mainGlobals mg) (hmg : mg "super" = none) (hb : h0.Ns builtinsNs mb) (hmb : mb "super" = some (.type "super"))
    (hp : (params.posonlyargs ++ params.args).head? = some ar) (hv : m ar.arg = some (.ref x)) (hfile : ((P.main.file : Str) == file) = true) (htop : (P.main.scope.names.lookup ("super" : Str)).isSome = false)
    (hks : scope.names.lookup ("super" : Str) = some .globalImplicit) (hkc : scope.names.lookup ("__class__" : Str) = some .free) (hka : scope.names.lookup ar.arg = some .local) (hk : scope.kind = .function) (hi : interactive (PySem.W.ksEnv qual scope L fI (.ref cda) cc) = false)
    (hev : ∃ pl : Sem Bool, eval (.Call (.Attribute (.Call (.Name "super" p0) [] [] p1) "__init__" p2) [] [] p3) (PySem.W.ksEnv qual scope L fI (.ref cda) cc) = (do
      let ov ← attributeBase (.Call (.Name "super" p0) [] [] p1) "__init__" (PySem.W.ksEnv qual scope L fI (.ref cda) cc) (eval (.Call (.Name "super" p0) [] [] p1) (PySem.W.ksEnv qual scope L fI (.ref cda) cc))
      standAt p2.atName
      let (f, first) ← holding [ov] (getMethod ov "__init__" pl)
      callWith p3 f first (backTo p3 (starEach [] (PySem.W.ksEnv qual scope L fI (.ref cda) cc))) []))
    (hq : ∀ h' t' tk', Fr h0 L h' m → h'.get? x = some (PySem.W.excObj C t' none .none) → Q .next { s with heap := h', toks := tk' }) :
    _root_.PySem.wpAt (model P w) A (.func bd (PySem.W.ksEnv qual scope L fI (.ref cda) cc)) (exec (.Expr (.Call (.Attribute (.Call (.Name "super" p0) [] [] p1) "__init__" p2) [] [] p3) p4) (PySem.W.ksEnv qual scope L fI (.ref cda) cc)) Q E s := by
  have X : K.In s.heap := X0.keeps F.keep
  obtain ⟨oc, od, kV, doc, pm, an, ct, osl, hfn⟩ := T.fn
  obtain ⟨ccl, cdd, vs, ccs, tf, hcode, hvs⟩ := T.src
  obtain ⟨cl, cld, csl, hcell⟩ := T.cell
  obtain ⟨cd, hcd, _⟩ := T.cls
  have I0 : PySem.W.InstAt s.heap x (PySem.W.excObj C t0 none .none) C none := ⟨(N _ List.mem_cons_self).1, rfl, rfl, trivial⟩
  have Ng : s.heap.Ns mainGlobals mg := hg.keeps F.keep
  have Nb : s.heap.Ns builtinsNs mb := hb.keeps F.keep
  obtain ⟨hh, g, dr, tk, os⟩ := s
  obtain ⟨oD, hD1, hD2⟩ : ∃ oD, hh.get? C = some oD ∧ oD.data = .cls cd := by
    unfold PySem.W.clsIn at hcd
    split at hcd
    · rename_i c0 d0 cd' sl ho
      cases hcd
      exact ⟨_, X _ _ ho, rfl⟩
    · cases hcd
  obtain ⟨pl, hpl⟩ := hev
  refine ks_wpAt_Expr_any (ks_wpAt_MethodCall (pl := pl) ?_ hpl) hi rfl
  refine ks_wpAt_super_base (env := PySem.W.ksEnv qual scope L fI (.ref cda) cc) hks hkc (by decide) rfl (X _ _ hfn) rfl hp rfl (X _ _ hcode) rfl hvs hfile htop ?_
  refine PySem.W.ks_loadName_global hk hks (Calls.loadGlobal_builtin (env := PySem.W.ksEnv qual scope L fI (.ref cda) cc) Ng hmg Nb hmb ⟨rfl, ?_⟩)
  refine wpAny_loadName_free hk hkc rfl ⟨_, X _ _ hcell, rfl⟩ ?_
  refine wpAny_loadName_local hk hka F.ns hv ?_
  refine ks_wpAny_isType_cls hD1 hD2 ⟨rfl, ?_⟩
  refine ks_wpAny_call_super hD1 hD2 I0.at_ I0.cls (fun c e => nomatch e) (PySem.W.looks_mroIn X T.mro) (fun h1 e1 k1 => ?_)
  obtain ⟨F1, N1, l1⟩ := PySem.W.ks_newsPush (s := ⟨hh, g, dr, tk, os⟩) F N rfl e1 k1
  have I1 : PySem.W.InstAt h1 x (PySem.W.excObj C t0 none .none) C none := ⟨(N1 _ (.tail _ List.mem_cons_self)).1, rfl, rfl, trivial⟩
  refine PySem.W.kxs_method (s := ⟨h1, g, dr, tk, os⟩) T.kf F1 X0 N1 List.mem_cons_self I1 T.opq T.sup T.sub (by decide) fun q2 h2 F2 N2 l2 => ?_
  refine PySem.W.kxs_callWith0 N2 List.mem_cons_self ?_
  refine PySem.W.kxs_call F2 X0 N2 T.fb T.exi List.mem_cons_self (.tail ?_ (.tail ?_ (.head fun p hp => by cases hp))) (by rw [sizeLine_eq]; exact Nat.zero_le _) fun t3 h3 F3 N3 l3 => ?_
  · exact Nat.ne_of_gt (l2 (x, _) (.tail _ List.mem_cons_self))
  · exact Nat.ne_of_gt (l1 (x, _) List.mem_cons_self)
  · exact hq h3 t3 _ F3 (N3 _ (.tail _ (.tail _ (.tail _ List.mem_cons_self)))).1
/-- C(v), its own __init__(self, f): super().__init__(); self.f = f -/
theorem xc_call1 {file : Str} {mg mb : Str → Option Value} {f : Str} {v : Value} {ar : Arg} {p0 p1 p2 p3 p4 q0 q1 q2 q3 : Pos} {Q : Value → Shared → Prop}
    (T : XcI K file C fI cc cda B newId initId bmB qual params [.Expr (.Call (.Attribute (.Call (.Name "super" p0) [] [] p1) "__init__" p2) [] [] p3) p4, .Assign [.Attribute (.Name ar.arg q0) f q1] (.Name f q2) q3] scope)
    (X : K.In h) (hg : h.Ns mainGlobals mg) (hmg : mg "super" = none) (hb : h.Ns builtinsNs mb) (hmb : mb "super" = some (.type "super")) (hlim : h.NoLimit) (hroom : (A.under (.builtin "type.__call__" ⟨[.ref C, v], []⟩)).depth < recursionLimit)
    (hp : (params.posonlyargs ++ params.args).head? = some ar) (hfile : ((P.main.file : Str) == file) = true) (htop : (P.main.scope.names.lookup ("super" : Str)).isSome = false)
    (hks : scope.names.lookup ("super" : Str) = some .globalImplicit) (hkc : scope.names.lookup ("__class__" : Str) = some .free) (hka : scope.names.lookup ar.arg = some .local) (hkf : scope.names.lookup f = some .local) (hk : scope.kind = .function)
    (hcl : ∀ x ∈ scope.names, x.2 ≠ .cell) (hco : scope.isCoroutine = false) (hgen : scope.isGenerator = false) (hne : ar.arg ≠ f) (hd0 : (ar.arg == ("__debug__" : Str)) = false) (hd1 : (f == ("__debug__" : Str)) = false)
    (ht : PySem.W.takerIn K C f = some none)
    (hi : ∀ L, interactive (PySem.W.ksEnv qual scope L fI (.ref cda) cc) = false)
    (hsw : ∀ L, swapsWith (.Name f q2) (some (.Attribute (.Name ar.arg q0) f q1)) q3.line (PySem.W.ksEnv qual scope L fI (.ref cda) cc) = pure false)
    (hev : ∀ L, ∃ pl : Sem Bool, eval (.Call (.Attribute (.Call (.Name "super" p0) [] [] p1) "__init__" p2) [] [] p3) (PySem.W.ksEnv qual scope L fI (.ref cda) cc) = (do
      let ov ← attributeBase (.Call (.Name "super" p0) [] [] p1) "__init__" (PySem.W.ksEnv qual scope L fI (.ref cda) cc) (eval (.Call (.Name "super" p0) [] [] p1) (PySem.W.ksEnv qual scope L fI (.ref cda) cc))
      standAt p2.atName
      let (f, first) ← holding [ov] (getMethod ov "__init__" pl)
      callWith p3 f first (backTo p3 (starEach [] (PySem.W.ksEnv qual scope L fI (.ref cda) cc))) []))
    (hbd : ∀ (s : Shared) (u w : Value) (body : List Stmt) (kV doc pm : Value) (an : Option Addr) (cdv ct : Value) (cc : Addr), BindsTo s (PySem.W.ksFn "__init__" qual params body scope .none kV doc pm an cdv ct cc) ⟨[u, w], []⟩ [(ar.arg, u), (f, w)])
    (hq : ∀ h' tk' dx t', (∀ b o, h.get? b = some o → h'.get? b = some o) → h.objs.size ≤ dx → dx ≠ h.objs.size + 1 → h'.get? (h.objs.size + 1) = some (PySem.W.excObj C t' (some dx) .none) → h'.Ns1 dx (fun y => if y = f then some v else none) → Q (.ref (h.objs.size + 1)) ⟨h', g, d, tk', os⟩) :
    wpAny (model P w) A (call (.ref C) [v]) Q E ⟨h, g, d, t, os⟩ := by
  obtain ⟨nm, N', qn, bs, bm, hdct, sn, sub, ab, col, dd, k0, k1, k2, k3, k5, hC, hT⟩ := PySem.W.excInit_of X T.exi
  obtain ⟨oc, od, kV, doc, pm, an, ct, osl, hfn⟩ := T.fn
  refine wpAny_call (HandSPX.call_own T.fb hT hC (PySem.W.looks_findIn X T.init) (fun self => PySem.W.bind_fn X self T.tyI) (by rw [sizeLine_eq]; show 1 ≤ 16777216; decide) ?_)
  have kk : ∀ b o, h.get? b = some o → ((h.push (PySem.W.kdv_tup [v])).push (HandSPX.excO C h.objs.size)).get? b = some o := fun b o e => Heap.get?_push_of_some _ (Heap.get?_push_of_some _ e)
  have X2 : K.In ((h.push (PySem.W.kdv_tup [v])).push (HandSPX.excO C h.objs.size)) := X.keeps kk
  have hget : ((h.push (PySem.W.kdv_tup [v])).push (HandSPX.excO C h.objs.size)).get? (h.objs.size + 1) = some (HandSPX.excO C h.objs.size) := by heap_get
  have hsz : ((h.push (PySem.W.kdv_tup [v])).push (HandSPX.excO C h.objs.size)).objs.size = h.objs.size + 2 := by rw [Heap.size_push, Heap.size_push]
  refine ks_codeAny_call_defAt (binds := [(ar.arg, .ref (h.objs.size + 1)), (f, v)]) hroom (X2 _ _ hfn) rfl (hlim.keeps kk) (PySem.W.codeRec_of X2 T.code) rfl (hbd _ _ _ _ _ _ _ _ _ _ _) hcl (fun y hy => ?_) (fun h1 hns hk1 => ?_) hco hgen hk
  · rcases List.mem_cons.mp hy with rfl | hy
    · exact hka
    · rcases List.mem_cons.mp hy with rfl | hy
      · exact hkf
      · cases hy
  show _root_.PySem.wpAt _ _ (.func _ (PySem.W.ksEnv qual scope _ fI (.ref cda) cc)) (execs _ (PySem.W.ksEnv qual scope _ fI (.ref cda) cc)) _ _ _
  rw [hsz] at hns ⊢
  have F1 : Fr h (h.objs.size + 2) h1 (fun y => List.lookup y [(ar.arg, Value.ref (h.objs.size + 1)), (f, v)].reverse) := ⟨hns, fun b o e => hk1 b o (kk b o e), Nat.le_add_right _ _⟩
  have N1 : News h (h.objs.size + 2) h1 [(h.objs.size + 1, PySem.W.excObj C h.objs.size none .none)] := fun p hp => by
    have e : p = (h.objs.size + 1, PySem.W.excObj C h.objs.size none .none) := by simpa using hp
    subst e
    refine ⟨hk1 _ _ hget, Nat.ne_of_lt (Nat.lt_succ_self _), ?_⟩
    cases z : h.get? (h.objs.size + 1) with
    | none => rfl
    | some o => exact absurd (Heap.lt_size z) (Nat.not_lt.mpr (Nat.le_succ _))
  have mself : List.lookup ar.arg [(ar.arg, Value.ref (h.objs.size + 1)), (f, v)].reverse = some (.ref (h.objs.size + 1)) := by
    have : (ar.arg == f) = false := by simpa using hne
    simp [List.lookup, this]
  have mf : List.lookup f [(ar.arg, Value.ref (h.objs.size + 1)), (f, v)].reverse = some v := by simp [List.lookup]
  refine ks_wpAt_execs_cons (xc_super T (s := ⟨h1, g, d, _, os⟩) F1 X N1 hg hmg hb hmb hp mself hfile htop hks hkc hka hk (hi _) (hev _) fun h2 t2 tk2 F2 e2 => ?_)
  refine ks_wpAt_execs_cons (wpAt_of_wpAny ?_)
  refine plainObj_wpAny_Assign_Attribute ?_ (hsw _)
  refine wpAny_Name (wpAny_loadName_local hk hkf F2.ns mf ?_) hd1
  refine wpAny_Name (wpAny_loadName_local hk hka F2.ns mself ?_) hd0
  refine xc_set T (X.keeps F2.keep) e2 ht fun h3 tk3 dx k3 hdx hne3 e3 hn3 => ?_
  refine wpAt_of_wpAny (wpAny_execs_nil ?_)
  refine ⟨rfl, hq h3 tk3 dx t2 (fun b o e => k3 b o (fun z => ?_) (F2.keep b o e)) (Nat.le_trans ?_ hdx) hne3 e3 hn3⟩
  · rw [z] at e
    exact absurd (Heap.lt_size e) (Nat.not_lt.mpr (Nat.le_succ _))
  · have q : h.objs.size + 1 < h2.objs.size := Heap.lt_size e2
    exact Nat.le_of_lt (Nat.lt_of_succ_lt q)
end
end DS

namespace DS
open PySem PySem.Spec PyProof.Rows L2
/-! ### the written part: facts by names -/
/-- a property's record, its getter -/
def prA (K : PySem.W.Frag) (cn m : Str) : Addr := He.ma K (He.ga K cn) m
def gtA (K : PySem.W.Frag) (cn m : Str) : Addr := match PySem.W.recIn K (prA K cn m) "property" with
  | some (.ref g :: _) => g
  | _ => 0
/-- the def of a classmethod -/
def cmA (K : PySem.W.Frag) (cn m : Str) : Addr := match PySem.W.recIn K (prA K cn m) "classmethod" with
  | some (.ref g :: _) => g
  | _ => 0
/-- a getter: class, name, and the def -/
structure PrD where
  cn : Str
  m : Str
  qual : Str
  params : Arguments
  body : List Stmt
  scope : Scope
  cm : Bool := false
def PrD.g (K : PySem.W.Frag) (d : PrD) : Addr := if d.cm then cmA K d.cn d.m else gtA K d.cn d.m
/-- C.m is a classmethod -/
def cmB (K : PySem.W.Frag) (cn m : Str) : Bool := PySem.W.readsIn K (He.ga K cn) (.type "type") && (He.eqO (PySem.W.specialIn K (.ref (He.ga K cn)) "__getattribute__") (some (some (.builtin "type.__getattribute__"))) && ((match PySem.W.findCls K (.ref (He.ga K cn)) (.type "type") m with
  | some (.get (.builtin b) (.ref p) .none (.ref C)) => b == "classmethod.__get__" && (p == prA K cn m && C == He.ga K cn)
  | _ => false) && ((match PySem.W.recIn K (prA K cn m) "classmethod" with
  | some (.ref _ :: _) => true
  | _ => false) && PySem.W.fnIn K (cmA K cn m))))
def fnAt (K : PySem.W.Frag) (a : Addr) : He.FnW := match K.lookup a with
  | some ⟨_, _, .func fd, _⟩ => some (fd.name, fd.qualname, fd.params, fd.body, fd.scope, fd.globals, fd.closure, fd.builtins)
  | _ => none
def PrD.val (d : PrD) : He.FnW := some (d.m, d.qual, d.params, .stmts d.body, d.scope, mainGlobals, [], builtinsNs)
def PrD.ok (K : PySem.W.Frag) (d : PrD) : Bool := (PySem.W.keepIn K (.ref (d.g K)) && (match K.lookup (d.g K) with
  | some ⟨_, _, .func fd, _⟩ => PySem.W.codeIn K fd.code d.qual && (He.dflB K fd.defaults [] && He.kwdB K fd.kwdefaults [])
  | _ => false)) && if d.cm then cmB K d.cn d.m else (He.eqO (PySem.W.findIn K (.ref (He.ga K d.cn)) d.m) (some (some (.ref (prA K d.cn d.m)))) && (He.eqO (PySem.W.specialIn K (.ref (prA K d.cn d.m)) "__get__") (some (some (.builtin "property.__get__"))) && (decide (PySem.W.takesIn K (.ref (prA K d.cn d.m)) = some true) &&
    (match PySem.W.recIn K (prA K d.cn d.m) "property" with
      | some (.ref _ :: _) => true
      | _ => false))))
theorem PrD.prop {K : PySem.W.Frag} {d : PrD} (c : d.ok K = true) (hc : d.cm = false) : PropOf K (He.ga K d.cn) d.m (prA K d.cn d.m) (gtA K d.cn d.m) := by
  obtain ⟨_, c⟩ := He.ba c
  rw [if_neg (by rw [hc]; decide)] at c
  obtain ⟨c1, c⟩ := He.ba c
  obtain ⟨c2, c⟩ := He.ba c
  obtain ⟨c3, c4⟩ := He.ba c
  refine ⟨He.eqO_ok c1, He.eqO_ok c2, of_decide_eq_true c3, ?_⟩
  unfold gtA
  split at c4
  · rename_i g r e
    rw [e]
    exact ⟨r, rfl⟩
  · cases c4
theorem PrD.funD {K : PySem.W.Frag} {d : PrD} (e : fnAt K (d.g K) = d.val) (c : d.ok K = true) : ∃ fd, FunD K d.m d.qual d.params d.body d.scope [] [] (d.g K) fd := by
  obtain ⟨c0, _⟩ := He.ba c
  obtain ⟨kp, c2⟩ := He.ba c0
  unfold fnAt at e
  cases q : K.lookup (d.g K) with
  | none => rw [q] at c2; cases c2
  | some o =>
    obtain ⟨oc, od, dt, osl⟩ := o
    rw [q] at c2 e
    cases dt with
    | func fd =>
      obtain ⟨n1, n2, n3, n4, n5, n6, n7, n8, n9, n10, n11, n12, n13, n14, n15⟩ := fd
      have e2 : (some (n1, n2, n3, n4, n5, n6, n7, n15) : He.FnW) = some (d.m, d.qual, d.params, .stmts d.body, d.scope, mainGlobals, [], builtinsNs) := e
      simp only [Option.some.injEq, Prod.mk.injEq] at e2
      obtain ⟨h1, h2, h3, h4, h5, h6, h7, h8⟩ := e2
      subst h1 h2 h3 h4 h5 h6 h7 h8
      have c3 : (PySem.W.codeIn K n13 d.qual && (He.dflB K n8 [] && He.kwdB K n9 [])) = true := c2
      obtain ⟨k1, k2⟩ := He.ba c3
      obtain ⟨k3, k4⟩ := He.ba k2
      exact ⟨_, ⟨oc, od, n8, n9, n10, n11, n12, n13, n14, osl, rfl, q, k1, He.dflB_ok k3, He.kwdB_ok k4⟩, kp⟩
    | _ => cases c2
def isiOk (K : PySem.W.Frag) (cs : List Str) : Bool := cs.all (fun cn => (He.Fa.cls cn).ok K && (He.eqO (PySem.W.findIn K (.ref (He.ga K cn)) "__class__") (some (some (.builtin "object.__class__"))) && decide (PySem.W.mroIn K (He.ga K cn) (.type "object") = some true))) &&
  (He.eqO (PySem.W.specialIn K (.builtin "object.__class__") "__get__") (some (some (.builtin "getset_descriptor.__get__"))) && (decide (PySem.W.takesIn K (.builtin "object.__class__") = some true) &&
  (cs.all (fun cn => tyNames.all fun n => decide (PySem.W.kitOne K (.ref (He.ga K cn)) (.type n) = some false)) && (tyNames.all (fun n => cs.all fun cn => decide (PySem.W.kitOne K (.type n) (.ref (He.ga K cn)) = some false)) &&
  cs.all (fun cn => cs.all fun cm => decide (PySem.W.kitOne K (.ref (He.ga K cn)) (.ref (He.ga K cm)) = some (decide (cn = cm))))))))
theorem isiOk_ok {K : PySem.W.Frag} {cs : List Str} (h : isiOk K cs = true) : Isi K cs := by
  obtain ⟨h1, h⟩ := He.ba h
  obtain ⟨h2, h⟩ := He.ba h
  obtain ⟨h3, h⟩ := He.ba h
  obtain ⟨h4, h⟩ := He.ba h
  obtain ⟨h5, h6⟩ := He.ba h
  refine ⟨fun cn hc => ?_, He.eqO_ok h2, of_decide_eq_true h3, fun cn hc n hn => ?_, fun n hn cn hc => ?_, fun cn hc cm hm => ?_⟩
  · obtain ⟨a1, a2⟩ := He.ba (List.all_eq_true.mp h1 cn hc)
    obtain ⟨a3, a4⟩ := He.ba a2
    exact ⟨He.cls_ok a1, He.eqO_ok a3, of_decide_eq_true a4⟩
  · exact of_decide_eq_true (List.all_eq_true.mp (List.all_eq_true.mp h4 cn hc) n hn)
  · exact of_decide_eq_true (List.all_eq_true.mp (List.all_eq_true.mp h5 n hn) cn hc)
  · exact of_decide_eq_true (List.all_eq_true.mp (List.all_eq_true.mp h6 cn hc) cm hm)
/-! ### exception classes with an own __init__ -/
def exTl (B : String) : List Value := [.type B, .type "Exception", .type "BaseException", .type "object"]
structure XiD where
  cn : Str
  f : Str
  B : String
  qual : Str
  params : Arguments
  body : List Stmt
  scope : Scope
def fdA (K : PySem.W.Frag) (a : Addr) : Option FuncData := match K.lookup a with
  | some ⟨_, _, .func fd, _⟩ => some fd
  | _ => none
abbrev FnC : Type := Option (Str × Str × Arguments × FuncBody × Scope × Addr × Addr)
def fnAtC (K : PySem.W.Frag) (a : Addr) : FnC := (fdA K a).map fun fd => (fd.name, fd.qualname, fd.params, fd.body, fd.scope, fd.globals, fd.builtins)
def XiD.val (d : XiD) : FnC := some ("__init__", d.qual, d.params, .stmts d.body, d.scope, mainGlobals, builtinsNs)
abbrev XiD.fI (d : XiD) (K : PySem.W.Frag) : Addr := He.ma K (He.ga K d.cn) "__init__"
def XiD.cc (d : XiD) (K : PySem.W.Frag) : Addr := match fdA K (d.fI K) with
  | some fd => ((fd.closure.lookup ("__class__" : Str)).getD 0)
  | none => 0
def XiD.cda (d : XiD) (K : PySem.W.Frag) : Addr := match fdA K (d.fI K) with
  | some fd => (match fd.code with
    | .ref c => c
    | _ => 0)
  | none => 0
def XiD.ok (file : Str) (d : XiD) (K : PySem.W.Frag) : Bool := PySem.W.excInitIn K (He.ga K d.cn) (exTl d.B) (d.B ++ ".__new__") && (PySem.W.excOver K (He.ga K d.cn) (exTl d.B) && (He.eqO (PySem.W.findIn K (.ref (He.ga K d.cn)) "__init__") (some (some (.ref (d.fI K)))) &&
  (decide (PySem.W.typeIn K (.ref (d.fI K)) = some (.type "function")) && ((match fdA K (d.fI K) with
    | some fd => decide (fd.closure = [(("__class__" : Str), d.cc K)]) && (decide (fd.code = .ref (d.cda K)) && (PySem.W.codeIn K fd.code d.qual && (match fd.defaults with
      | .none => true
      | _ => false)))
    | none => false) && ((match K.lookup (d.cda K) with
    | some ⟨_, _, .fields vs, _⟩ => (match (vs[2]? : Option Value) with
      | some (.str fl _) => decide (fl = file)
      | _ => false)
    | _ => false) && ((match K.lookup (d.cc K) with
    | some ⟨_, _, .cell (some (.ref D)), _⟩ => decide (D = He.ga K d.cn)
    | _ => false) && (decide (PySem.W.mroIn K (He.ga K d.cn) (.ref (He.ga K d.cn)) = some true) && (He.eqO (PySem.W.ks_superIn K (He.ga K d.cn) (He.ga K d.cn) "__init__") (some (some (.builtin (d.B ++ ".__init__")))) && (decide (PySem.W.subIn K (.ref (He.ga K d.cn)) (.type d.B) = some true) &&
  (He.eqO (PySem.W.nsIn K cStatics "thirdparty.any") (some none) && (He.eqO (PySem.W.findIn K (.ref (He.ga K d.cn)) "__setattr__") (some (some (.builtin "object.__setattr__"))) && (PySem.W.hasDictIn K (He.ga K d.cn) && (decide (PySem.W.subIn K (.ref (He.ga K d.cn)) (.type "BaseException") = some true) &&
  (decide (PySem.W.typeIn K (.ref (He.ga K d.cn)) = some (.type "type")) && (PySem.W.keepIn K (.ref (He.ga K d.cn)) && He.eqO (PySem.W.takerIn K (He.ga K d.cn) d.f) (some none))))))))))))))))
structure XiOk (file : Str) (K : PySem.W.Frag) (d : XiD) : Prop where
  ok : d.ok file K = true
  fn : fnAtC K (d.fI K) = d.val
theorem XiOk.xc {file : Str} {K : PySem.W.Frag} {d : XiD} (h : XiOk file K d) (fb : ExcBaseFacts d.B (d.B ++ ".__new__") (d.B ++ ".__init__") (exTl d.B)) (kf : PySem.W.KxsFacts d.B (d.B ++ ".__init__")) (sf : StoreFacts d.B (exTl d.B) "object.__setattr__" "object") :
    XcI K file (He.ga K d.cn) (d.fI K) (d.cc K) (d.cda K) d.B (d.B ++ ".__new__") (d.B ++ ".__init__") (exTl d.B) d.qual d.params d.body d.scope ∧ PySem.W.takerIn K (He.ga K d.cn) d.f = some none := by
  obtain ⟨c, e⟩ := h
  obtain ⟨c1, c⟩ := He.ba c
  obtain ⟨c2, c⟩ := He.ba c
  obtain ⟨c3, c⟩ := He.ba c
  obtain ⟨c4, c⟩ := He.ba c
  obtain ⟨c5, c⟩ := He.ba c
  obtain ⟨c6, c⟩ := He.ba c
  obtain ⟨c7, c⟩ := He.ba c
  obtain ⟨c8, c⟩ := He.ba c
  obtain ⟨c9, c⟩ := He.ba c
  obtain ⟨d1, c⟩ := He.ba c
  obtain ⟨d2, c⟩ := He.ba c
  obtain ⟨d3, c⟩ := He.ba c
  obtain ⟨d4, c⟩ := He.ba c
  obtain ⟨d5, c⟩ := He.ba c
  obtain ⟨d6, c⟩ := He.ba c
  obtain ⟨d7, d8⟩ := He.ba c
  have hfn : (∃ (oc : Value) (od : Option Addr) (kV doc pm : Value) (an : Option Addr) (ct : Value) (osl : Array (Option Value)), K.lookup (d.fI K) = some ⟨oc, od, .func (PySem.W.ksFn "__init__" d.qual d.params d.body d.scope .none kV doc pm an (.ref (d.cda K)) ct (d.cc K)), osl⟩) ∧ PySem.W.codeIn K (.ref (d.cda K)) d.qual = true := by
    unfold fnAtC at e
    cases q : fdA K (d.fI K) with
    | none => rw [q] at c5; cases c5
    | some fd =>
      rw [q] at c5 e
      obtain ⟨k1, k⟩ := He.ba c5
      obtain ⟨k2, k3⟩ := He.ba k
      obtain ⟨k3, k4⟩ := He.ba k3
      have k1 := of_decide_eq_true k1
      have k2 := of_decide_eq_true k2
      unfold fdA at q
      split at q
      · rename_i oc od fd' osl hl
        cases q
        obtain ⟨n1, n2, n3, n4, n5, n6, n7, n8, n9, n10, n11, n12, n13, n14, n15⟩ := fd
        have e2 : (some (n1, n2, n3, n4, n5, n6, n15) : FnC) = some (("__init__" : Str), d.qual, d.params, FuncBody.stmts d.body, d.scope, mainGlobals, builtinsNs) := e
        simp only [Option.some.injEq, Prod.mk.injEq] at e2
        obtain ⟨h1, h2, h3, h4, h5, h6, h8⟩ := e2
        dsimp only at k1 k2 k3 k4
        have h7 : n8 = .none := by
          split at k4
          · rfl
          · cases k4
        refine ⟨⟨oc, od, n9, n10, n11, n12, n14, osl, ?_⟩, ?_⟩
        · rw [hl, k1, k2, h1, h2, h3, h4, h5, h6, h7, h8]
        · rw [← k2]
          exact k3
      · cases q
  refine ⟨⟨fb, kf, sf, c1, c2, He.eqO_ok c3, of_decide_eq_true c4, hfn.1, hfn.2, ?_, ?_, of_decide_eq_true c8, He.eqO_ok c9, of_decide_eq_true d1, He.eqO_ok d2, He.eqO_ok d3, d4, of_decide_eq_true d5, of_decide_eq_true d6, d7⟩, He.eqO_ok d8⟩
  · split at c6
    · rename_i ccl cdd vs ccs hl
      split at c6
      · rename_i fl tf hv
        rw [of_decide_eq_true c6] at hv
        exact ⟨ccl, cdd, vs, ccs, tf, hl, hv⟩
      · cases c6
    · cases c6
  · split at c7
    · rename_i cl cld D csl hl
      rw [of_decide_eq_true c7] at hl
      exact ⟨cl, cld, csl, hl⟩
    · cases c7
/-! ### the Hook -/
/-- what a proof's text tells of the program -/
structure Tl where
  fa : List He.Fa
  fn : List He.DefD
  pr : List PrD
  cs : List Str
  xf : List (PySem.W.Frag → Bool)
  xi : List XiD
  tb : List Str
  file : Str
abbrev AlM : Type := He.AlD × Bool × List He.FnW × List FnC × List (Option Obj)
def tabB (x : Str) (K : PySem.W.Frag) : Bool := (PySem.W.tabIn K x).isSome && (PySem.W.codeHdIn K (tabC K x) (tabP K x) && (K.lookup (tabP K x)).isNone)
def obsM (L : Tl) (K : PySem.W.Frag) (g : Addr → Option Obj) : AlM := (He.obsD L.fa L.fn K, (L.pr.all fun d => d.ok K) && isiOk K L.cs && L.xf.all (fun f => f K) && L.xi.all (fun d => d.ok L.file K) && (L.tb.all (fun x => tabB x K) && decide ((L.tb.map (tabP K)).Nodup)), L.pr.map (fun d => fnAt K (d.g K)), L.xi.map (fun d => fnAtC K (d.fI K)), L.tb.map fun x => g (tabP K x))
def valM (L : Tl) : AlM := (He.valD L.fn, true, L.pr.map PrD.val, L.xi.map XiD.val, L.tb.map fun _ => some (PySem.W.tabObj #[]))
structure SaysM (L : Tl) (K : PySem.W.Frag) : Prop where
  c : He.SaysD L.fa L.fn K
  isi : Isi K L.cs
  xf : ∀ f ∈ L.xf, f K = true
  prp : ∀ d ∈ L.pr, d.ok K = true ∧ ∃ fd, FunD K d.m d.qual d.params d.body d.scope [] [] (d.g K) fd
  xi : ∀ d ∈ L.xi, XiOk L.file K d
  tb : ∀ x ∈ L.tb, tabB x K = true
  nd : (L.tb.map (tabP K)).Nodup
theorem map_at {α β : Type} {l : List α} {f g : α → β} (h : l.map f = l.map g) {d : α} (hd : d ∈ l) : f d = g d := List.map_inj_left.mp h d hd
theorem saysM_of {L : Tl} {K : PySem.W.Frag} {g : Addr → Option Obj} (e : obsM L K g = valM L) : SaysM L K ∧ ∀ x ∈ L.tb, g (tabP K x) = some (PySem.W.tabObj #[]) := by
  have e1 : He.obsD L.fa L.fn K = He.valD L.fn := congrArg (fun z : AlM => z.1) e
  have e2 : ((L.pr.all fun d => d.ok K) && isiOk K L.cs && L.xf.all (fun f => f K) && L.xi.all (fun d => d.ok L.file K) && (L.tb.all (fun x => tabB x K) && decide ((L.tb.map (tabP K)).Nodup))) = true := congrArg (fun z : AlM => z.2.1) e
  have e3 : (L.pr.map fun d => fnAt K (d.g K)) = L.pr.map PrD.val := congrArg (fun z : AlM => z.2.2.1) e
  have e4 : (L.xi.map fun d => fnAtC K (d.fI K)) = L.xi.map XiD.val := congrArg (fun z : AlM => z.2.2.2.1) e
  have e5 : (L.tb.map fun x => g (tabP K x)) = L.tb.map fun _ => some (PySem.W.tabObj #[]) := congrArg (fun z : AlM => z.2.2.2.2) e
  obtain ⟨h1234, h56⟩ := He.ba e2
  obtain ⟨h123, h4⟩ := He.ba h1234
  obtain ⟨h12, h3⟩ := He.ba h123
  obtain ⟨h1, h2⟩ := He.ba h12
  obtain ⟨h5, h6⟩ := He.ba h56
  refine ⟨⟨e1, isiOk_ok h2, fun f hf => List.all_eq_true.mp h3 f hf, fun d hd => ?_, fun d hd => ⟨List.all_eq_true.mp h4 d hd, map_at e4 hd⟩, fun x hx => List.all_eq_true.mp h5 x hx, of_decide_eq_true h6⟩, fun x hx => map_at e5 hx⟩
  have ok := List.all_eq_true.mp h1 d hd
  exact ⟨ok, d.funD (map_at e3 hd) ok⟩
/-- all objects but the empty tables -/
def noTab (o : Option Obj) : Bool := match o with
  | some ⟨.none, _, .fields vs, _⟩ => !vs.isEmpty
  | _ => true
def kAs (g : Addr → Option Obj) (n : Nat) : List Addr := (List.range n).filter fun a => noTab (g a)
def obsMG (n : Nat) (L : Tl) (g : Addr → Option Obj) : AlM := obsM L (He.frG g (kAs g n)) g
def hookM (n : Nat) (L : Tl) : PySem.W.Hook where
  α := AlM
  obs := fun s => obsMG n L s.heap.get?
  val := fun _ => valM L
  says := fun _ h => ∃ K : PySem.W.Frag, K.In h ∧ SaysM L K ∧ ∀ x ∈ L.tb, h.get? (tabP K x) = some (PySem.W.tabObj #[])
  of := fun _ _ e => ⟨_, He.frG_in, saysM_of e⟩
  keeps := fun _ _ _ ⟨K, hK, c, t⟩ k => ⟨K, PySem.W.Frag.In.keeps hK k, c, fun x hx => k _ _ (t x hx)⟩
/-- all that a proof of a def leans on -/
structure Tx (L : Tl) (b : Base) : Prop where
  s : SaysM L b.K
  h : ∃ h : Heap, b.K.In h ∧ h.Ns mainGlobals b.mg
  tab : ∀ x ∈ L.tb, LamX.TabB b.base b.mg (tabC b.K x) (tabP b.K x)
  fl : ((b.P.main.file : Str) == L.file) = true
  sup : (b.P.main.scope.names.lookup ("super" : Str)).isSome = false
section
variable {L : Tl} {b : Base}
theorem Tx.glo (T : Tx L b) (i : Nat) {x : Str} (h : L.fa[i]? = some (.glo x) := by rfl) : b.mg x = some (.ref (He.ga b.K x)) := let ⟨_, a, c⟩ := T.h; He.glo_ok a c (T.s.c.fact i h)
theorem Tx.free (T : Tx L b) (i : Nat) {x : Str} (h : L.fa[i]? = some (.free x) := by rfl) : b.mg x = none := let ⟨_, a, c⟩ := T.h; He.free_ok a c (T.s.c.fact i h)
theorem Tx.int (T : Tx L b) (i : Nat) {x : Str} {n : Int} (h : L.fa[i]? = some (.int x n) := by rfl) : ∃ t, b.mg x = some (.int n t) := let ⟨_, a, c⟩ := T.h; He.int_ok a c (T.s.c.fact i h)
theorem Tx.str (T : Tx L b) (i : Nat) {x z : Str} (h : L.fa[i]? = some (.str x z) := by rfl) : ∃ t, b.mg x = some (.str z t) := let ⟨_, a, c⟩ := T.h; He.str_ok a c (T.s.c.fact i h)
theorem Tx.cls (T : Tx L b) (i : Nat) {x : Str} (h : L.fa[i]? = some (.cls x) := by rfl) : Cls b.K (He.ga b.K x) := He.cls_ok (T.s.c.fact i h)
theorem Tx.x (T : Tx L b) (i : Nat) {f : PySem.W.Frag → Bool} (h : L.xf[i]? = some f := by rfl) : f b.K = true := T.s.xf f (List.mem_of_getElem? h)
theorem Tx.ns (T : Tx L b) {x : Str} {v : Value} (h : PySem.W.nsIn b.K mainGlobals x = some (some v)) : b.mg x = some v := let ⟨_, a, c⟩ := T.h; PySem.W.mg_of a c h
theorem Tx.prp (T : Tx L b) (i : Nat) {d : PrD} (h : L.pr[i]? = some d := by rfl) (hc : d.cm = false := by rfl) : PropOf b.K (He.ga b.K d.cn) d.m (prA b.K d.cn d.m) (gtA b.K d.cn d.m) ∧ ∃ fd, FunD b.K d.m d.qual d.params d.body d.scope [] [] (gtA b.K d.cn d.m) fd := by
  obtain ⟨h1, fd, h2⟩ := T.s.prp d (List.mem_of_getElem? h)
  refine ⟨d.prop h1 hc, fd, ?_⟩
  unfold PrD.g at h2
  rw [if_neg (by rw [hc]; decide)] at h2
  exact h2
theorem Tx.xi (T : Tx L b) (i : Nat) {d : XiD} (h : L.xi[i]? = some d := by rfl) : XiOk L.file b.K d := T.s.xi d (List.mem_of_getElem? h)
end
/-! ### the law is called -/
theorem ints_all {K : PySem.W.Frag} {F : Hp} {al : List Addr} : ∀ ns : List Int, RpL K F al (ns.map .int) (ns.map V.int)
  | [] => .nil
  | n :: r => .cons (.int n) (ints_all r)
theorem noCX {P : Program} {w : World} {H : Hp} {s : Shared} {u : Value} {s' : Shared} (h : L2.CX P w [] H s (fun _ _ _ => False) u s') : False := by
  obtain ⟨_, _, _, _, _, _, _, _, _, _, _, _, z⟩ := h
  exact z
end DS

namespace DS
open PySem PySem.Spec PyProof.Rows L2
/-- enumerate of a tuple -/
def Iet (K : PySem.W.Frag) (a : Addr) : It :=
  ⟨fun i H => ∃ xs x, SqT K H a xs ∧ xs[i]? = some x, fun i H v H' => ∃ T x, v = .ref T ∧ H T = none ∧ H' = upd H T (.tup [.int (i : Nat), x]) ∧ ∀ xs, SqT K H a xs → xs[i]? = some x, fun i H => ∃ xs, SqT K H a xs ∧ xs.length ≤ i⟩
def iEnumT (K : PySem.W.Frag) (ta : TA) : TI := fun σ H R => ta σ H fun vs H1 => ∃ a xs, vs = [.ref a] ∧ SqT K H1 a xs ∧ R (Iet K a) H1
def enumD' (ds : List D) (m : Mu) : Out (List D) := match ds with
  | [.lst xs] => .ok (enumL 0 xs) m
  | [.tup xs] => .ok (enumL 0 xs) m
  | _ => .stuck
def xiEnum' (f : XA) : XA := fun r m => (f r m).bind enumD'
end DS

/-! # DSF: frames. A run on a small store is the run on a store with more cells ahead. -/
namespace DS
open PySem PySem.Spec PyProof.Rows L2
mutual
def D.sh (k : Nat) : D → D
  | .loc n => .loc (k + n)
  | .tup xs => .tup (D.shL k xs)
  | .lst xs => .lst (D.shL k xs)
  | .fix xs => .fix (D.shL k xs)
  | .obj c fs => .obj c (D.shF k fs)
  | .dct fs => .dct (D.shF k fs)
  | .non => .non
  | .bl b => .bl b
  | .int i => .int i
  | .str x => .str x
  | .glo x => .glo x
  | .ty x => .ty x
  | .exn h fs => .exn h (D.shF k fs)
  | .exv h fs => .exv h (D.shF k fs)
  | .nst xs => .nst xs
  | .odc => .odc
def D.shL (k : Nat) : List D → List D
  | [] => []
  | x :: r => D.sh k x :: D.shL k r
def D.shF (k : Nat) : List (Str × D) → List (Str × D)
  | [] => []
  | (f, x) :: r => (f, D.sh k x) :: D.shF k r
end
mutual
theorem inB_sh (k n : Nat) : ∀ d : D, (d.sh k).inB (k + n) = d.inB n
  | .loc m => by rw [D.sh, D.inB, D.inB]; simp
  | .tup xs => by rw [D.sh, D.inB, D.inB, inL_sh k n xs]
  | .lst xs => by rw [D.sh, D.inB, D.inB, inL_sh k n xs]
  | .fix xs => by rw [D.sh, D.inB, D.inB, inL_sh k n xs]
  | .obj c fs => by rw [D.sh, D.inB, D.inB, inF_sh k n fs]
  | .dct fs => by rw [D.sh, D.inB, D.inB, inF_sh k n fs]
  | .non => rfl
  | .bl b => rfl
  | .int i => rfl
  | .str x => rfl
  | .glo x => rfl
  | .ty x => rfl
  | .exn h fs => by rw [D.sh, D.inB, D.inB, inF_sh k n fs]
  | .exv h fs => by rw [D.sh, D.inB, D.inB, inF_sh k n fs]
  | .nst _ => rfl
  | .odc => rfl
theorem inL_sh (k n : Nat) : ∀ d : List D, D.inL (k + n) (D.shL k d) = D.inL n d
  | [] => rfl
  | x :: r => by rw [D.shL, D.inL, D.inL, inB_sh k n x, inL_sh k n r]
theorem inF_sh (k n : Nat) : ∀ d : List (Str × D), D.inF (k + n) (D.shF k d) = D.inF n d
  | [] => rfl
  | (_, x) :: r => by rw [D.shF, D.inF, D.inF, inB_sh k n x, inF_sh k n r]
end
mutual
theorem sh_id (k : Nat) : ∀ d : D, d.inB 0 = true → d.sh k = d
  | .loc m, h => by rw [D.inB] at h; simp at h
  | .tup xs, h => by rw [D.inB] at h; rw [D.sh, shL_id k xs h]
  | .lst xs, h => by rw [D.inB] at h; rw [D.sh, shL_id k xs h]
  | .fix xs, h => by rw [D.inB] at h; rw [D.sh, shL_id k xs h]
  | .obj c fs, h => by rw [D.inB] at h; rw [D.sh, shF_id k fs h]
  | .dct fs, h => by rw [D.inB] at h; rw [D.sh, shF_id k fs h]
  | .non, _ => rfl
  | .bl b, _ => rfl
  | .int i, _ => rfl
  | .str x, _ => rfl
  | .glo x, _ => rfl
  | .ty x, _ => rfl
  | .exn q fs, h => by rw [D.inB] at h; rw [D.sh, shF_id k fs h]
  | .exv q fs, h => by rw [D.inB] at h; rw [D.sh, shF_id k fs h]
  | .nst _, _ => rfl
  | .odc, _ => rfl
theorem shL_id (k : Nat) : ∀ d : List D, D.inL 0 d = true → D.shL k d = d
  | [], _ => rfl
  | x :: r, h => by
    rw [D.inL, Bool.and_eq_true] at h
    rw [D.shL, sh_id k x h.1, shL_id k r h.2]
theorem shF_id (k : Nat) : ∀ d : List (Str × D), D.inF 0 d = true → D.shF k d = d
  | [], _ => rfl
  | (_, x) :: r, h => by
    rw [D.inF, Bool.and_eq_true] at h
    rw [D.shF, sh_id k x h.1, shF_id k r h.2]
end
mutual
theorem toP_sh (k : Nat) : ∀ d : D, toP (d.sh k) = toP d
  | .loc m => by rw [D.sh]; rfl
  | .tup xs => by rw [D.sh, toP, toP, toPs_sh k xs]
  | .lst xs => by rw [D.sh, toP, toP, toPs_sh k xs]
  | .fix xs => by rw [D.sh, toP, toP, toPs_sh k xs]
  | .obj c fs => rfl
  | .dct fs => rfl
  | .non => rfl
  | .bl b => rfl
  | .int i => rfl
  | .str x => rfl
  | .glo x => rfl
  | .ty x => rfl
  | .exn h fs => rfl
  | .exv h fs => rfl
  | .nst _ => rfl
  | .odc => rfl
theorem toPs_sh (k : Nat) : ∀ d : List D, toPs (D.shL k d) = toPs d
  | [] => rfl
  | x :: r => by rw [D.shL, toPs, toPs, toP_sh k x, toPs_sh k r]
end
mutual
theorem toPd_sh (k : Nat) : ∀ d : D, toPd (d.sh k) = toPd d
  | .loc m => by rw [D.sh]; rfl
  | .tup xs => by rw [D.sh, toPd, toPd, toPds_sh k xs]
  | .lst xs => by rw [D.sh, toPd, toPd, toPds_sh k xs]
  | .fix xs => by rw [D.sh, toPd, toPd, toPds_sh k xs]
  | .obj c fs => rfl
  | .dct [] => rfl
  | .dct ((_, _) :: _) => rfl
  | .non => rfl
  | .bl b => rfl
  | .int i => rfl
  | .str x => rfl
  | .glo x => rfl
  | .ty x => rfl
  | .exn h fs => rfl
  | .exv h fs => rfl
  | .nst _ => rfl
  | .odc => rfl
theorem toPds_sh (k : Nat) : ∀ d : List D, toPds (D.shL k d) = toPds d
  | [] => rfl
  | x :: r => by rw [D.shL, toPds, toPds, toPd_sh k x, toPds_sh k r]
end
def Cell.sh (k : Nat) : Cell → Cell
  | .lst xs => .lst (D.shL k xs)
  | .ins c fs => .ins c (D.shF k fs)
  | .dct fs => .dct (D.shF k fs)
  | .dead => .dead
  | .tab q => .tab q
  | .opn xs h ls => .opn (D.shL k xs) (h.sh k) (D.shL k ls)
  | .dtt kvs => .dtt (kvs.map fun p => (p.1, p.2.sh k))
def shM (μ ν : Mu) : Mu := μ ++ ν.map (Cell.sh μ.length)
section
variable {μ ν : Mu}
theorem shM_nil : shM μ [] = μ := by simp [shM]
end

/-! ### shifts of answers -/
class Shf (α : Type) where
  sh : Nat → α → α
instance : Shf D := ⟨D.sh⟩
instance : Shf Bool := ⟨fun _ b => b⟩
instance : Shf Unit := ⟨fun _ b => b⟩
instance : Shf (List D) := ⟨D.shL⟩
instance : Shf (Option Int) := ⟨fun _ b => b⟩
def shR (k : Nat) (r : Rho) : Rho := r.map (Option.map (D.sh k))
instance : Shf Rho := ⟨shR⟩
/-- o' is what o is, on the greater store -/
def FrO {α : Type} [Shf α] (μ : Mu) (o' : Out α) : Out α → Prop
  | .ok a ν => o' = .ok (Shf.sh μ.length a) (shM μ ν)
  | .exc c fs ν => o' = .exc c (D.shF μ.length fs) (shM μ ν)
  | .stuck => True
def FrS (μ : Mu) (o' : SO) : SO → Prop
  | .next r ν => o' = .next (shR μ.length r) (shM μ ν)
  | .brk r ν => o' = .brk (shR μ.length r) (shM μ ν)
  | .cont r ν => o' = .cont (shR μ.length r) (shM μ ν)
  | .ret d ν => o' = .ret (d.sh μ.length) (shM μ ν)
  | .exc c fs r ν => o' = .exc c (D.shF μ.length fs) (shR μ.length r) (shM μ ν)
  | .stuck => True
theorem FrO.bind {α β : Type} [Shf α] [Shf β] {μ : Mu} {o' o : Out α} {k' k : α → Mu → Out β} (h : FrO μ o' o) (hk : ∀ a ν, FrO μ (k' (Shf.sh μ.length a) (shM μ ν)) (k a ν)) : FrO μ (o'.bind k') (o.bind k) := by
  cases o with
  | ok a ν =>
    rw [show o' = _ from h]
    exact hk a ν
  | exc c fs ν =>
    rw [show o' = _ from h]
    rfl
  | stuck => trivial
theorem FrO.ne {α : Type} [Shf α] {μ : Mu} {o' o : Out α} (h : FrO μ o' o) : FrO μ o'.ne o.ne := by
  cases o with
  | ok a ν =>
    rw [show o' = _ from h]
    rfl
  | exc c fs ν => trivial
  | stuck => trivial
theorem FrO.stm {α : Type} [Shf α] {μ : Mu} {o' o : Out α} {r : Rho} {k' k : α → Mu → SO} (h : FrO μ o' o) (hk : ∀ a ν, FrS μ (k' (Shf.sh μ.length a) (shM μ ν)) (k a ν)) : FrS μ (o'.stm (shR μ.length r) k') (o.stm r k) := by
  cases o with
  | ok a ν =>
    rw [show o' = _ from h]
    exact hk a ν
  | exc c fs ν =>
    rw [show o' = _ from h]
    rfl
  | stuck => trivial
def FrE (f : XE') : Prop := ∀ μ r ν, FrO μ (f (shR μ.length r) (shM μ ν)) (f r ν)
def FrT (f : XT) : Prop := ∀ μ r ν, FrO μ (f (shR μ.length r) (shM μ ν)) (f r ν)
def FrA (f : XA) : Prop := ∀ μ r ν, FrO μ (f (shR μ.length r) (shM μ ν)) (f r ν)
def FrI (f : XO) : Prop := ∀ μ r ν, FrO μ (f (shR μ.length r) (shM μ ν)) (f r ν)
def FrB (f : XS) : Prop := ∀ μ r ν, FrS μ (f (shR μ.length r) (shM μ ν)) (f r ν)
def FrG (f : XG) : Prop := ∀ μ d r ν, FrO μ (f (d.sh μ.length) (shR μ.length r) (shM μ ν)) (f d r ν)
def FrGs (f : XGs) : Prop := ∀ μ d r ν, FrO μ (f (D.shL μ.length d) (shR μ.length r) (shM μ ν)) (f d r ν)
def FrF (f : Fn) : Prop := ∀ μ d ν, FrO μ (f (D.shL μ.length d) (shM μ ν)) (f d ν)
def Fr2 (g : D → D → Mu → Out D) : Prop := ∀ μ d e ν, FrO μ (g (d.sh μ.length) (e.sh μ.length) (shM μ ν)) (g d e ν)
/-! ### operators -/
/-! ### statements, targets -/
/-! ### comprehensions -/
/-! ### built-ins -/
/-! ### defs -/
/-! ### from the empty store to any -/
mutual
def D.same : D → D → Bool
  | .non, .non => true
  | .bl a, .bl b => a == b
  | .int a, .int b => a == b
  | .str a, .str b => a == b
  | .tup a, .tup b => D.sameL a b
  | .lst a, .lst b => D.sameL a b
  | .obj c a, .obj d b => c == d && D.sameF a b
  | .dct a, .dct b => D.sameF a b
  | _, _ => false
def D.sameL : List D → List D → Bool
  | [], [] => true
  | x :: r, y :: s => D.same x y && D.sameL r s
  | _, _ => false
def D.sameF : List (Str × D) → List (Str × D) → Bool
  | [], [] => true
  | (f, x) :: r, (g, y) :: s => f == g && (D.same x y && D.sameF r s)
  | _, _ => false
end
mutual
theorem D.same_eq : ∀ a b : D, D.same a b = true → a = b := fun a b h => by
  cases a <;> cases b <;> first
    | (simp only [D.same, beq_iff_eq] at h; rw [h])
    | (simp only [D.same] at h; rw [D.sameL_eq _ _ h])
    | (simp only [D.same, Bool.and_eq_true, beq_iff_eq] at h; rw [h.1, D.sameF_eq _ _ h.2])
    | (simp only [D.same] at h; rw [D.sameF_eq _ _ h])
    | rfl
    | (exfalso; exact Bool.noConfusion h)
theorem D.sameL_eq : ∀ a b : List D, D.sameL a b = true → a = b
  | [], [], _ => rfl
  | x :: r, y :: s, h => by
    rw [D.sameL, Bool.and_eq_true] at h
    rw [D.same_eq x y h.1, D.sameL_eq r s h.2]
  | [], _ :: _, h => by simp [D.sameL] at h
  | _ :: _, [], h => by simp [D.sameL] at h
theorem D.sameF_eq : ∀ a b : List (Str × D), D.sameF a b = true → a = b
  | [], [], _ => rfl
  | (f, x) :: r, (g, y) :: s, h => by
    rw [D.sameF, Bool.and_eq_true, Bool.and_eq_true, beq_iff_eq] at h
    rw [h.1, D.same_eq x y h.2.1, D.sameF_eq r s h.2.2]
  | [], (_, _) :: _, h => by simp [D.sameF] at h
  | (_, _) :: _, [], h => by simp [D.sameF] at h
end
/-- the run from nothing ends with d, which holds no place -/
def okIs (o : Out D) (d : D) : Bool := match o with
  | .ok e [] => D.same e d && e.inB 0
  | _ => false
theorem FrF.of {G : Fn} (hG : FrF G) {ds : List D} {d : D} (hd : D.inL 0 ds = true) (h : G ds [] = .ok d []) (hb : d.inB 0 = true) (μ : Mu) : G ds μ = .ok d μ := by
  have q := hG μ ds []
  rw [shL_id _ ds hd, h, shM_nil] at q
  rw [show G ds μ = _ from q, shM_nil]
  show Out.ok (d.sh _) _ = _
  rw [sh_id _ d hb]
theorem FrF.is {G : Fn} (hG : FrF G) {ds : List D} {d : D} (hd : D.inL 0 ds = true) (h : okIs (G ds []) d = true) (μ : Mu) : G ds μ = .ok d μ := by
  unfold okIs at h
  split at h
  · rename_i e he
    rw [Bool.and_eq_true] at h
    cases D.same_eq _ _ h.1
    exact hG.of hd he h.2 μ
  · cases h
end DS

/-! # DSG: ranges with a step, lists of ranges, sorted, two-clause comprehensions. -/
namespace DS
open PySem PySem.Spec PyProof.Rows L2
variable {c : SC} {W : WX} {pos : Pos} {a b e : Expr} {fa fb : XE'} {fr : XA}
def rngC (lo st : Int) (n : Nat) : List D := (List.range n).map fun (i : Nat) => .int (lo + (i : Nat) * st)
def rgB (i j st : Int) : Bool := decide (st ≠ 0 ∧ st.natAbs < 1073741824) && (Builtin.Range.small i j st && decide (0 ≤ Builtin.Range.rangeSize i j st))
def rngD3 (ds : List D) (m : Mu) : Out (List D) := match ds with
  | [.int i, .int j, .int st] => if rgB i j st then .ok (rngC i st (Builtin.Range.rangeSize i j st).toNat) m else .stuck
  | _ => .stuck
def xiRng3 (f : XA) : XA := fun r m => (f r m).bind rngD3
/-! ### list(range(..)) -/
/-- the list, as data; or as a list that will change -/
def frzL (xs : List D) (m : Mu) : Out D := if xs.length ≤ 16777216 then .ok (.lst xs) m else .stuck
def newL (xs : List D) (m : Mu) : Out D := if D.inL m.length xs ∧ xs.length ≤ 16777216 then .ok (.loc m.length) (m ++ [.lst xs]) else .stuck
def xLstR (f : XA) : XE' := fun r m => (f r m).bind frzL
def xNewR (f : XA) : XE' := fun r m => (f r m).bind newL
/-- either of the two -/
structure LKind (k : List D → Mu → Out D) : Prop where
  ok : ∀ {c : SC} {W' : XK} {F : Hp} {al : List Addr} {Q : VK} {m : Mu} {H : Hp} {xs : List D} {vs : List V}, Wd c.K F al m H → RpL c.K F al xs vs → Post c.K (RD c.K) W' F al Q (k xs m) → xs.length ≤ 16777216 ∧ ∀ n, H n = none → Q (.ref n) (upd H n (.lst vs))
/-- list(range(i, j, st)) -/
def tLstR3 (ta : TA) : TE := fun σ H Q => ta σ H fun vs H1 => ∃ (i j st : Int) (n : Nat), vs = [.int i, .int j, .int st] ∧ RgC i j st n ∧ n ≤ 2 ^ 24 ∧ ∀ q, H1 q = none → Q (.ref q) (upd H1 q (.lst ((List.range n).map fun k => V.int (i + (k : Nat) * st))))
/-! ### sorted -/
def insI (i : Int) : List Int → List Int
  | [] => [i]
  | j :: r => if i ≤ j then i :: j :: r else j :: insI i r
def sortI : List Int → List Int
  | [] => []
  | i :: r => insI i (sortI r)
def sortF (ds : List D) (m : Mu) : Out D := match ds with
  | [d] => (match lstOf m d with
    | some xs => (match intsL xs with
      | some ns => .ok (.lst ((sortI ns).map .int)) m
      | _ => .stuck)
    | none => .stuck)
  | _ => .stuck
/-! ### comprehensions of two clauses -/
def lcF1 (g1 : XG) (tt1 : XT) (te : XE') (n : Nat) (r1 : Rho) : List D → Mu → Out Unit := lcF g1 tt1 te n r1
def lcG (g : XG) (tt : XT) (fi1 : XA) (vs1 : List Nat) (g1 : XG) (tt1 : XT) (te : XE') (n : Nat) (r0 : Rho) : List D → Mu → Out Unit
  | [], m => .ok () m
  | x :: xs, m => (g x r0 m).ne.bind fun r1 m1 => (tt r1 m1).ne.bind fun b m2 => if b then (fi1 r1 m2).ne.bind fun ys m3 => (lcF g1 tt1 te n (wipeR r1 vs1) ys m3).bind fun _ m4 => lcG g tt fi1 vs1 g1 tt1 te n r0 xs m4 else lcG g tt fi1 vs1 g1 tt1 te n r0 xs m2
def lc2D (g : XG) (tt : XT) (fi1 : XA) (vs1 : List Nat) (g1 : XG) (tt1 : XT) (te : XE') (r0 : Rho) (xs : List D) (m : Mu) : Out D := (lcG g tt fi1 vs1 g1 tt1 te m.length r0 xs (m ++ [.lst []])).bind fun _ m2 => lcEnd m.length m2
def xLc2 (f : XA) (vs : List Nat) (g : XG) (tt : XT) (fi1 : XA) (vs1 : List Nat) (g1 : XG) (tt1 : XT) (te : XE') : XE' := fun r m => (f r m).bind fun xs m1 => lc2D g tt fi1 vs1 g1 tt1 te (wipeR r vs) xs m1
/-! ### frames -/
end DS

/-! # DSI: further rules. -/
namespace DS
open PySem PySem.Spec PyProof.Rows L2
variable {c : SC} {W : WX} {pos : Pos} {a b e : Expr} {fa fb : XE'} {fr : XA}
/-! ### xs[::-1] -/
def revD (d : D) (m : Mu) : Out D := match lstOf m d with
  | some xs => .ok (.lst xs.reverse) m
  | none => .stuck
def xRev (f : XE') : XE' := fun r m => (f r m).bind revD
end DS

/-! # DSJ: global tuples, f-strings, str of an own object. -/
namespace DS
open PySem PySem.Spec PyProof.Rows L2
variable {c : SC} {W : WX} {pos : Pos} {a b e : Expr} {fa fb : XE'} {fr : XA}
/-! ### a tuple of the module -/
def flatIs : D → Value → Bool
  | .int i, .int j _ => decide (i = j)
  | .str x, .str y _ => decide (x = y)
  | .non, .none => true
  | .bl p, .bool q => decide (p = q)
  | _, _ => false
def flatsAre : List D → List Value → Bool
  | [], [] => true
  | d :: ds, v :: vs => flatIs d v && flatsAre ds vs
  | _, _ => false
def tupB (x : Str) (ds : List D) (K : PySem.W.Frag) : Bool := He.eqO (PySem.W.nsIn K mainGlobals x) (some (some (.ref (He.ga K x)))) && (match K.lookup (He.ga K x) with
  | some ⟨cl, _, .seq its _, _⟩ => decide (cl = .type "tuple") && (decide (its.size ≤ sizeLine) && flatsAre ds its.toList)
  | _ => false)
/-! ### tuple(range(..)) -/
def frzT (xs : List D) (m : Mu) : Out D := if xs.length ≤ 16777216 then .ok (.tup xs) m else .stuck
def xTupR (f : XA) : XE' := fun r m => (f r m).bind frzT
/-! ### f-strings -/
def fmtD (d : D) (m : Mu) : Out D := match d with
  | .str y => if y.length ≤ sizeLine then .ok (.str y) m else .stuck
  | .int i => if i.natAbs.log2 < 1920 then .ok (.str (toString i)) m else .stuck
  | _ => .stuck
def xFmt (f : XE') : XE' := fun r m => (f r m).bind fmtD
/-- the parts of an f-string, one behind the other -/
abbrev XJ := Str → Rho → Mu → Out Str
def xjNil : XJ := fun acc _ m => .ok acc m
def xjCons (f : XE') (g : XJ) : XJ := fun acc r m => (f r m).bind fun d m1 => match d with
  | .str y => if (acc ++ y).length ≤ sizeLine then g (acc ++ y) r m1 else .stuck
  | _ => .stuck
def RS : Hp → List Addr → Str → Str → Prop := fun _ _ a b => a = b
def DJ (c : SC) (W : WX) (es : List Expr) (f : XJ) : Prop := ∃ ts : List TE, (∀ y, OkD c W y → PJ (c.cx y) es ts) ∧
  ∀ acc r m σ H F al (Q : Str → Hp → Prop), EnvOk c.K F al r σ → Wd c.K F al m H → Post c.K RS (atS W σ) F al Q (f acc r m) → tJs ts acc σ H Q
def xJoin (g : XJ) : XE' := fun r m => (g Str.empty r m).bind fun z m1 => .ok (.str z) m1
/-! ### str(o) by the class's own __str__ -/
def strO (cn : Str) (G : Fn) (ds : List D) (m : Mu) : Out D := match ds with
  | [d] => (match insOf m d with
    | some (c', _) => if c' = cn then (match G [d] m with
      | .ok (.str y) m' => .ok (.str y) m'
      | _ => .stuck) else .stuck
    | none => .stuck)
  | _ => .stuck
end DS

/-! # XB: raise C(e) -/
namespace DS
open PySem PySem.Spec PyProof.Rows L2
/-- C(v) makes an exception with the one field f -/
structure MkX1 (b : Base) (cn f : Str) : Prop where
  kp : PySem.W.keepIn b.K (.ref (He.ga b.K cn)) = true
  exb : PySem.W.subIn b.K (.ref (He.ga b.K cn)) (.type "BaseException") = some true
  tyC : PySem.W.typeIn b.K (.ref (He.ga b.K cn)) = some (.type "type")
  call : ∀ (A : Around) (E : Value → Shared → Prop) (h : Heap) (g : Array GenState) (d : Drawn) (t : Nat) (os : OsState) (mb : Str → Option Value) (v : Value) (Q : Value → Shared → Prop), b.K.In h → h.Ns mainGlobals b.mg → h.Ns builtinsNs mb → mb "super" = some (.type "super") → h.NoLimit →
    (A.under (.builtin "type.__call__" ⟨[.ref (He.ga b.K cn), v], []⟩)).depth < recursionLimit →
    (∀ h' tk' dx t', (∀ b o, h.get? b = some o → h'.get? b = some o) → h.objs.size ≤ dx → dx ≠ h.objs.size + 1 → h'.get? (h.objs.size + 1) = some (PySem.W.excObj (He.ga b.K cn) t' (some dx) .none) → h'.Ns1 dx (fun y => if y = f then some v else none) → Q (.ref (h.objs.size + 1)) ⟨h', g, d, tk', os⟩) →
    wpAny (model b.P b.w) A (call (.ref (He.ga b.K cn)) [v]) Q E ⟨h, g, d, t, os⟩
/-- C() of a class without own __init__ -/
structure MkX0 (b : Base) (cn : Str) : Prop where
  kp : PySem.W.keepIn b.K (.ref (He.ga b.K cn)) = true
  exb : PySem.W.subIn b.K (.ref (He.ga b.K cn)) (.type "BaseException") = some true
  tyC : PySem.W.typeIn b.K (.ref (He.ga b.K cn)) = some (.type "type")
  call : ∀ (A : Around) (E : Value → Shared → Prop) (s : Shared) (Q : Value → Shared → Prop), b.K.In s.heap → (∀ h' e, Heap.MadeExcOf s.heap h' e (.ref (He.ga b.K cn)) [] → Q (.ref e) { s with heap := h' }) → wpAny (model b.P b.w) A (call (.ref (He.ga b.K cn)) []) Q E s
/-- what each of the three bases must have -/
structure BaseOk (B : String) : Prop where
  fb : ExcBaseFacts B (B ++ ".__new__") (B ++ ".__init__") (exTl B)
  kf : PySem.W.KxsFacts B (B ++ ".__init__")
  sf : StoreFacts B (exTl B) "object.__setattr__" "object"
theorem base_V : BaseOk "ValueError" := ⟨PySem.F.excBase_ValueError, PySem.W.kxs_ValueError, PySem.F.store_ValueError⟩
theorem base_L : BaseOk "LookupError" := ⟨PySem.F.excBase_LookupError, PySem.W.kxs_LookupError, PySem.F.store_LookupError⟩
theorem base_A : BaseOk "ArithmeticError" := ⟨PySem.F.excBase_ArithmeticError, PySem.W.kxs_ArithmeticError, PySem.F.store_ArithmeticError⟩
/-- __init__(self, f): super().__init__(); self.f = f -/
structure Ini1 (d : XiD) (ar : Arg) (p0 p1 p2 p3 p4 q0 q1 q2 q3 : Pos) : Prop where
  body : d.body = [.Expr (.Call (.Attribute (.Call (.Name "super" p0) [] [] p1) "__init__" p2) [] [] p3) p4, .Assign [.Attribute (.Name ar.arg q0) d.f q1] (.Name d.f q2) q3]
  hp : (d.params.posonlyargs ++ d.params.args).head? = some ar
  hks : d.scope.names.lookup ("super" : Str) = some .globalImplicit
  hkc : d.scope.names.lookup ("__class__" : Str) = some .free
  hka : d.scope.names.lookup ar.arg = some .local
  hkf : d.scope.names.lookup d.f = some .local
  hk : d.scope.kind = .function
  hcl : ∀ x ∈ d.scope.names, x.2 ≠ .cell
  hco : d.scope.isCoroutine = false
  hgen : d.scope.isGenerator = false
  hne : ar.arg ≠ d.f
  hd0 : (ar.arg == ("__debug__" : Str)) = false
  hd1 : (d.f == ("__debug__" : Str)) = false
  hi : ∀ (L fI cda cc : Addr), interactive (PySem.W.ksEnv d.qual d.scope L fI (.ref cda) cc) = false
  hsw : ∀ (L fI cda cc : Addr), swapsWith (.Name d.f q2) (some (.Attribute (.Name ar.arg q0) d.f q1)) q3.line (PySem.W.ksEnv d.qual d.scope L fI (.ref cda) cc) = pure false
  hev : ∀ (L fI cda cc : Addr), ∃ pl : Sem Bool, eval (.Call (.Attribute (.Call (.Name "super" p0) [] [] p1) "__init__" p2) [] [] p3) (PySem.W.ksEnv d.qual d.scope L fI (.ref cda) cc) = (do
      let ov ← attributeBase (.Call (.Name "super" p0) [] [] p1) "__init__" (PySem.W.ksEnv d.qual d.scope L fI (.ref cda) cc) (eval (.Call (.Name "super" p0) [] [] p1) (PySem.W.ksEnv d.qual d.scope L fI (.ref cda) cc))
      standAt p2.atName
      let (f, first) ← holding [ov] (getMethod ov "__init__" pl)
      callWith p3 f first (backTo p3 (starEach [] (PySem.W.ksEnv d.qual d.scope L fI (.ref cda) cc))) [])
  hbd : ∀ (s : Shared) (u w : Value) (body : List Stmt) (kV doc pm : Value) (an : Option Addr) (cdv ct : Value) (cc : Addr), BindsTo s (PySem.W.ksFn "__init__" d.qual d.params body d.scope .none kV doc pm an cdv ct cc) ⟨[u, w], []⟩ [(ar.arg, u), (d.f, w)]
theorem mkX1_of {L : Tl} {b : Base} {d : XiD} {ar : Arg} {p0 p1 p2 p3 p4 q0 q1 q2 q3 : Pos} (T : Tx L b) (h : XiOk L.file b.K d) (hB : BaseOk d.B) (hs : b.mg "super" = none) (I : Ini1 d ar p0 p1 p2 p3 p4 q0 q1 q2 q3) : MkX1 b d.cn d.f := by
  obtain ⟨hX, ht⟩ := h.xc hB.fb hB.kf hB.sf
  refine ⟨hX.kp, hX.exb, hX.tyC, fun A E h g dr t os mb v Q kI ns nb hmb lim hroom hq => ?_⟩
  rw [I.body] at hX
  exact xc_call1 hX kI ns hs nb hmb lim hroom I.hp T.fl T.sup I.hks I.hkc I.hka I.hkf I.hk I.hcl I.hco I.hgen I.hne I.hd0 I.hd1 ht (fun L => I.hi L _ _ _) (fun L => I.hsw L _ _ _) (fun L => I.hev L _ _ _) I.hbd hq
section
variable {c : SC} {W : WX} {pos pos' p0 : Pos} {e : Expr} {fe : XE'} {x cn f : Str}
theorem mk_fin {X : Cx} {pins : List (Addr × Obj)} {σ : L2.St} {H : Hp} {Q : XK} {s : Shared} {h' : Heap} {t' tk' dx C : Addr} {u : Value} {v : V} (I : Inv X pins σ H s) (r : Raises X (.ref C)) (rv : RelV v u)
    (k : ∀ b o, s.heap.get? b = some o → h'.get? b = some o) (hdx : s.heap.objs.size ≤ dx) (hne : dx ≠ s.heap.objs.size + 1) (he : h'.get? (s.heap.objs.size + 1) = some (PySem.W.excObj C t' (some dx) .none)) (hn : h'.Ns1 dx (fun y => if y = f then some u else none))
    (q : ∀ d, H d = none → Q (.ref C) (some d) (upd H d (.xd [(f, v)]))) : MkP X pins σ Q (.ref (s.heap.objs.size + 1)) { s with heap := h', toks := tk' } := by
  obtain ⟨G, g1, g2⟩ := restrict h' fun b => decide (b ≠ s.heap.objs.size + 1)
  have gk : ∀ b o, b ≠ s.heap.objs.size + 1 → h'.get? b = some o → G.get? b = some o := fun b o hb z => (g1 b (decide_eq_true hb)).trans z
  have gs : ∀ b o, G.get? b = some o → h'.get? b = some o := fun b o z => by
    by_cases hb : b = s.heap.objs.size + 1
    · rw [hb, g2 _ (decide_eq_false fun y => y rfl)] at z
      cases z
    · exact (g1 b (decide_eq_true hb)).symm.trans z
  have nd : H dx = none := I.hok.fresh hdx
  have kG : ∀ b o, s.heap.get? b = some o → G.get? b = some o := fun b o z => gk b o (Nat.ne_of_lt (Nat.lt_succ_of_lt (Heap.lt_size z))) (k b o z)
  have J := I.laid (t' := tk') (a := dx) (o := .xd [(f, v)]) (h' := G) kG hdx ⟨_, hn.at fun o z => gk dx o hne z, relO_put (fs := []) rv fun g => True.intro⟩
  refine ⟨_, _, _, { s with heap := G, toks := tk' }, _, .ref C, some dx, rfl, J, gs, g2 _ (decide_eq_false fun y => y rfl), he, ⟨rfl, rfl⟩, rfl, rfl, ?_, rfl, I.bare, r, q dx nd⟩
  rw [upd_ne (Ne.symm hne)]
  exact I.hok.fresh (Nat.le_succ _)
theorem pmk_x1 {X : Cx} {ta : TE} {b : Base} (e1 : X.prog = b.P) (e2 : X.w = b.w) (e3 : X.K = b.K) (e4 : X.mg = b.mg) (M : MkX1 b cn f) (hs : b.mg "super" = none) (hr : Room 1 X.A) (hg : Gl X x) (gC : X.mg x = some (.ref (He.ga b.K cn))) (ha : PE X e ta)
    (hst : starEach [e] X.env = (false, eval e X.env) :: starEach [] X.env := by rfl) (hdb : (x == ("__debug__" : Str)) = false := by decide) :
    PMk X (.Call (.Name x p0) [e] [] pos) (fun σ H Q => ta σ H fun v H1 => ∀ d, H1 d = none → Q (.ref (He.ga b.K cn)) (some d) (upd H1 d (.xd [(f, v)]))) := by
  intro pins s σ H Q I h
  refine wpAny_Call_Name_kw (ld_glob I hg gC ?_ hdb)
  refine PySem.W.callWith_K (h₀ := X.base) I.ok.mod.kin (by rw [e3]; exact M.kp) ?_ hst (by rfl)
  rw [hst]
  show wpAny _ _ (spliced ((false, eval e X.env) :: backTo pos (starEach [] X.env))) _ _ s
  refine Calls.spliced_cons (thn (ha.run pins s σ H _ I h) fun u s1 ⟨v, H1, I1, r1, q1⟩ => ?_)
  refine Calls.spliced_nil ⟨I1.kIn, ?_⟩
  show wpAny _ _ (call (.ref (He.ga b.K cn)) [u]) _ _ _
  obtain ⟨mb, hb1, hb2⟩ := I1.mod.blt
  have hsup : mb "super" = some (.type "super") := (hb2 _ (by decide)).trans (by decide +kernel)
  have kIn : b.K.In s1.heap := by rw [← e3]; exact I1.kIn
  have ns : s1.heap.Ns mainGlobals b.mg := by rw [← e4]; exact I1.mod.glob.keeps I1.bk
  have rs : Raises X (.ref (He.ga b.K cn)) := raises_own (by rw [e3]; exact M.exb) (by rw [e3]; exact M.tyC)
  have lim : s1.heap.NoLimit := I1.nolimit
  obtain ⟨h1, g1, d1, t1, os1⟩ := s1
  rw [e1, e2]
  refine M.call _ _ h1 g1 d1 t1 os1 mb u _ kIn ns (hb1.keeps I1.bk) hsup lim ?_ fun h' tk' dx t' k hdx hne he hn => mk_fin I1 rs r1 k hdx hne he hn q1
  exact (hr.make (He.ga b.K cn) [u] []).depth
def sRaise (cn f : Str) (a : XE') : XS := fun r m => (a r m).stm r fun d m1 => .exc cn [(f, d)] r m1
theorem ds_raise1 (M : MkX1 c.toB cn f) (hs : c.mg "super" = none) (gC : c.mg x = some (.ref (He.ga c.K cn))) (ha : DE c W e fe) (hr : 1 ≤ c.k := by first | exact Nat.le_of_ble_eq_true rfl | exact Nat.le_refl _ | exact Nat.le_add_right _ _) (hcm : c.calm = true := by rfl) (hg : c.sc.names.lookup x = some .globalImplicit := by rfl)
    (hdb : (x == ("__debug__" : Str)) = false := by decide) (hst : ∀ env, starEach [e] env = (false, eval e env) :: starEach [] env := by intro _; rfl) : DSt c W (.Raise (some (.Call (.Name x p0) [e] [] pos)) none pos') (sRaise cn f fe) := by
  obtain ⟨t, a1, a2⟩ := ha
  refine ⟨_, fun y hy => ps_raise (X := c.cx y) hcm hy.takes (pmk_x1 (X := c.cx y) (b := c.toB) rfl rfl rfl rfl M hs (hy.rm hcm hr) (hy.gl hg) gC (a1 y hy) (hst _) hdb), fun ρ m σ H F al E he hw p => ?_⟩
  refine a2 ρ m σ H F al _ he hw (PostS.step he p fun d m1 v H1 F1 al1 e1 w1 q1 p1 => fun dd hdd => ?_)
  exact p1 (some dd) σ (upd H1 dd _) (upd F1 dd _) al1 [(f, v)] (ext_new (w1.fnone hdd)) (w1.new hdd) ((he.up e1).up (ext_new (w1.fnone hdd))) (.cons (q1.up (ext_new (w1.fnone hdd))) .nil) (.inr ⟨dd, rfl, upd_same⟩)
def sRaise0 (cn : Str) : XS := fun r m => .exc cn [] r m
end
end DS

/-! # XC: try, any clauses -/
namespace DS
open PySem PySem.Spec PyProof.Rows L2
theorem fly_kept {B G G' : Heap} {fr : List Env} {x : Addr} {Z : Obj → Prop} (k : ∀ b o, G.get? b = some o → G'.get? b = some o) (fl : HandSPX.FlyingZ B fr x Z G) : HandSPX.FlyingZ B fr x Z G' := by
  obtain ⟨y1, y2, y3, oe, vs, T, oT, us, z1, z2, z3, z4, z5, z6, z7, z8⟩ := fl
  exact ⟨fun b o q => k b o (y1 b o q), y2, y3.of_keeps fun b o q _ => ⟨o, k b o q, rfl⟩, oe, vs, T, oT, us, k _ _ z1, z2, z3, z4, z5, z6, k _ _ z7, z8⟩
/-- the test of a clause: t names the classes, an exception of the class cl is met or not -/
def Tst (X : Cx) (t : Expr) (cl : Value) (yes : Bool) : Prop := ∀ (x : Addr) (pn pins : List (Addr × Obj)) (σ : L2.St) (H : Hp) (s : Shared) (Q : Bool → Shared → Prop) (E : Value → Shared → Prop), Inv (X.suite x pn) pins σ H s → PySem.W.Looks (model X.prog X.w) s.heap (typeOf (.ref x)) cl →
  (∀ G, (∀ b o, s.heap.get? b = some o → G.get? b = some o) → Q yes { s with heap := G }) → wpAny (model X.prog X.w) (X.A.mark (some (.ref x))) (eval t X.env) (fun c s1 => wpAny (model X.prog X.w) (X.A.mark (some (.ref x))) (excMatches (.ref x) c) Q E s1) E s
abbrev TSu := Addr → Obj → Value → Option Addr → TS
abbrev Hd1 := (Value → Option Bool) × Option Nat × TSu
def unS (i : Nat) (D : Ends) : Ends := { nx := fun σ H => D.nx (σ.set i none) H, rt := D.rt, bk := fun σ H => D.bk (σ.set i none) H, ct := fun σ H => D.ct (σ.set i none) H }
def wX (Wo : WX) (D : Ends) : List Hd1 → WX
  | [] => Wo
  | (tst, oi, ts) :: r => fun cl d σ H => ∃ yes, tst cl = some yes ∧ (yes = true → ∀ (x : Addr) (ob : Obj), H x = none → Zc cl d ob → (∃ vs, ob.data = .fields vs) → match oi with
      | none => ts x ob cl d D σ H
      | some i => ts x ob cl d (unS i D) (σ.set i (some (.ref x))) H) ∧ (yes = false → wX Wo D r cl d σ H)
inductive HdX (X : Cx) : List ExceptHandler → List Hd1 → Prop
  | nil : HdX X [] []
  | plain {t : Expr} {tst : Value → Option Bool} {ts : TSu} {st : Stmt} {sts : List Stmt} {pos : Pos} {hs : List ExceptHandler} {l : List Hd1} (ht : ∀ cl yes, tst cl = some yes → Tst X t cl yes)
      (hsu : ∀ (x : Addr) (ob : Obj) (cl : Value) (d : Option Addr) (pn : List (Addr × Obj)), Zc cl d ob → (∃ vs, ob.data = .fields vs) → PSs (X.suite x ((x, ob) :: pn)) (st :: sts) (ts x ob cl d)) (r : HdX X hs l) :
      HdX X (.ExceptHandler (some t) none (st :: sts) pos :: hs) ((tst, none, ts) :: l)
  | named {t : Expr} {n : Str} {i : Nat} {tst : Value → Option Bool} {ts : TSu} {st : Stmt} {sts : List Stmt} {pos : Pos} {hs : List ExceptHandler} {l : List Hd1} (ht : ∀ cl yes, tst cl = some yes → Tst X t cl yes) (hN : X.N.Nodup) (hi : X.N[i]? = some n) (hl : X.env.kindOf n = some .local)
      (hsu : ∀ (x : Addr) (ob : Obj) (cl : Value) (d : Option Addr) (pn : List (Addr × Obj)), Zc cl d ob → (∃ vs, ob.data = .fields vs) → PSs (X.suite x ((x, ob) :: pn)) (st :: sts) (ts x ob cl d)) (r : HdX X hs l) :
      HdX X (.ExceptHandler (some t) (some n) (st :: sts) pos :: hs) ((tst, some i, ts) :: l)
section
variable {X : Cx} {body : List Stmt} {h1 : ExceptHandler} {hs : List ExceptHandler} {l : List Hd1} {pos : Pos} {tb : WX → TS} {Wo : WX}
theorem ps_tryX (hst : X.stack = X.env :: X.outer) (hfr : X.env.frame = some X.env.locals) (tk : Takes X Wo)
    (hb : ∀ (W : WX) (pn : List (Addr × Obj)) (xe : Value → Shared → Prop), Takes (X.tr pn xe) W → PassesOwn (model X.prog X.w) X.A X.env xe → (∀ q ∈ X.pn, q ∈ pn) → PSs (X.tr pn xe) body (tb W))
    (hh : HdX X (h1 :: hs) l) : PS X (.Try body (h1 :: hs) [] [] pos) (fun D σ H => tb (wX Wo D l) D σ H) := by
  refine ⟨fun pins s σ H D I h => ?_⟩
  have okX := I.ok
  have hfrs : X.A.frames = some (X.env :: X.outer) := okX.frames.trans (by rw [hst])
  refine wpAny_Try_except (wpAny_mono ((hb (wX Wo D l) (X.pn ++ pins) (fun e s1 => wpAny (model X.prog X.w) X.A (noteFrame e X.env) (fun _ s2 => wpAny (model X.prog X.w) X.A (setFlight e none)
    (fun _ s3 => wpAny (model X.prog X.w) X.A (handleBy e X.env (h1 :: hs)) (SP X pins D) X.xe s3) X.xe s2) X.xe s1) (fun u s' fl => ?_) PassesOwn.looking fun q hq => List.mem_append_left _ hq).run [] s σ H D (I.toTry _) h) (fun f s1 q => ?_) (fun _ _ q => q))
  · obtain ⟨x, B, sI, pins', σ1, H1, cl, d, rfl, J', nb, up, sky, nx, os, ag, wish⟩ := fl
    have J : Inv X pins σ1 H1 sI := J'.ofTry okX
    rw [hst] at sky
    show wpAny (model X.prog X.w) X.A (noteFrame (.ref x) X.env) _ _ _
    refine Sky.land Zc.steady hfrs hfr sky fun G0 fl0 up0 => ?_
    obtain ⟨ob0, vs0, ho0, hz0, hd0⟩ := fl0.there
    have away : x ∉ frs (X.env :: X.outer) := fun hm => by
      obtain ⟨_, o', e', hnf⟩ := fl0.2.2.1.mem hm
      rw [ho0] at e'
      cases e'
      exact hnf _ hd0
    have nL : x ≠ X.env.locals := fun z => away (List.mem_filterMap.mpr ⟨X.env, List.mem_cons_self, hfr.trans (by rw [z])⟩)
    have nF : x ∉ X.fs := fun hm => by
      obtain ⟨e, he, q⟩ := List.mem_filterMap.mp hm
      exact away (List.mem_filterMap.mpr ⟨e, List.mem_cons_of_mem _ he, q⟩)
    have go : ∀ {hs' : List ExceptHandler} {l' : List Hd1}, HdX X hs' l' → ∀ G, HandSPX.FlyingZ B (X.env :: X.outer) x (Zc cl d) G → s'.heap.UpToSlots G → wX Wo D l' cl d σ1 H1 →
        wpAny (model X.prog X.w) X.A (handleBy (.ref x) X.env hs') (SP X pins D) X.xe { s' with heap := G } := by
      intro hs' l' hk
      have ready : ∀ {t : Expr} {tst : Value → Option Bool} {yes : Bool} {Q : Bool → Shared → Prop} {E : Value → Shared → Prop} (G : Heap), HandSPX.FlyingZ B (X.env :: X.outer) x (Zc cl d) G → s'.heap.UpToSlots G → (∀ cl yes, tst cl = some yes → Tst X t cl yes) → tst cl = some yes →
          (∀ G', HandSPX.FlyingZ B (X.env :: X.outer) x (Zc cl d) G' → s'.heap.UpToSlots G' → Q yes { s' with heap := G' }) →
          wpAny (model X.prog X.w) (X.A.mark (some (.ref x))) (eval t X.env) (fun c s1 => wpAny (model X.prog X.w) (X.A.mark (some (.ref x))) (excMatches (.ref x) c) Q E s1) E { s' with heap := G } := by
        intro t tst yes Q E G fl upG ht hy hq
        obtain ⟨ob, vs, ho, hz, hd⟩ := fl.there
        have JG : Inv X pins σ1 H1 { s' with heap := G } := J.landed nb fl.1 (up.trans upG) os ag
        refine ht cl yes hy x _ _ σ1 H1 { s' with heap := G } Q E (JG.suite ho hd nx nL nF) (fun A Q E s k q => wpAny_typeOf_ref (k _ _ ho) (by rw [hz.1]; exact q)) fun G' k => ?_
        exact hq G' (fly_kept k fl) (upG.trans (Heap.UpToSlots.of_keeps k))
      have miss : ∀ {hs2 : List ExceptHandler} (G : Heap), wpAny (model X.prog X.w) X.A (handleBy (.ref x) X.env hs2) (SP X pins D) X.xe { s' with heap := G } → wpAny (model X.prog X.w) X.A (handleBy (.ref x) X.env hs2) (SP X pins D) X.xe { s' with heap := G } := fun _ q => q
      induction hk with
      | nil =>
        intro G fl upG w
        obtain ⟨j1, j2, j3, ob, vs, T, oT, us, ho, hz, hd, h1', hr⟩ := id fl
        refine wpAny_handleBy_nil ?_
        unfold PySem.passOn
        refine wpAny_bind (wpAny_field ho hd h1' ?_)
        rw [if_neg (show ¬ ((Value.ref T == Value.none) = true) by simp)]
        have away' : wpAny (model X.prog X.w) X.A (setFlight (.ref x) X.env.frame) (fun _ s4 => wpAny (model X.prog X.w) X.A (throw (.ref x) : Sem Flow) (SP X pins D) X.xe s4) X.xe { s' with heap := G } := by
          rw [hfr]
          refine HandSPX.setFlight_upZ fl fun G4 held up4 => wpAny_throw (tk _ _ ⟨x, B, sI, pins, σ1, H1, cl, d, rfl, J, nb, (up.trans upG).trans up4, .inr (.inr ?_), nx, os, ag, w⟩)
          rw [hst]
          exact held
        first
          | exact wpAny_bind away'
          | exact wpAny_bind (wpAny_pure (wpAny_bind away'))
      | @plain t tst ts st sts pos' hs2 l2 ht hsu r ih =>
        intro G fl upG w
        obtain ⟨yes, hy, hyes, hno⟩ := w
        refine wpAny_handleBy_cons (codeAny_handlers_test (ready G fl upG ht hy fun G1 fl1 up1 => ?_)) (by intro q; cases q)
        cases yes with
        | false => exact ih G1 fl1 up1 (hno rfl)
        | true =>
          refine codeAny_handlers_suite (HandSPX.lands_againZ fl1 fun G2 fl2 up2 => ?_)
          obtain ⟨ob, vs, ho, hz, hd⟩ := fl2.there
          have J2 : Inv X pins σ1 H1 { s' with heap := G2 } := J.landed nb fl2.1 ((up.trans up1).trans up2) os ag
          refine wpAny_mono ((hsu x ob cl d (X.pn ++ pins) hz ⟨_, hd⟩).run [] _ _ H1 _ (J2.suite ho hd nx nL nF) (hyes rfl x ob nx hz ⟨_, hd⟩)) (fun f s6 q6 => ?_) (fun _ _ z => False.elim z)
          cases f with
          | ret u => exact let ⟨_, _, _, S6, r6, y6⟩ := q6; ⟨_, _, _, S6.unsuite okX, r6, y6⟩
          | next => exact let ⟨_, _, S6, y6⟩ := q6; ⟨_, _, S6.unsuite okX, y6⟩
          | brk => exact let ⟨_, _, S6, y6⟩ := q6; ⟨_, _, S6.unsuite okX, y6⟩
          | cont => exact let ⟨_, _, S6, y6⟩ := q6; ⟨_, _, S6.unsuite okX, y6⟩
      | @named t n i tst ts st sts pos' hs2 l2 ht hN hi hl hsu r ih =>
        intro G fl upG w
        obtain ⟨yes, hy, hyes, hno⟩ := w
        refine wpAny_handleBy_cons (codeAny_handlers_test (ready G fl upG ht hy fun G1 fl1 up1 => ?_)) (by intro q; cases q)
        cases yes with
        | false => exact ih G1 fl1 up1 (hno rfl)
        | true =>
          refine codeAny_handlers_suite_as (HandSPX.lands_againZ fl1 fun G2 fl2 up2 => ?_)
          obtain ⟨ob, vs, ho, hz, hd⟩ := fl2.there
          have J2 : Inv X pins σ1 H1 { s' with heap := G2 } := J.landed nb fl2.1 ((up.trans up1).trans up2) os ag
          refine store_ok (X := X.suite x ((x, ob) :: (X.pn ++ pins))) (v := .ref x) (J2.suite ho hd nx nL nF) hN hi (.inl hl) rfl (fun s5 S5 => ?_) (.inr hl)
          refine wpAny_mono ((hsu x ob cl d (X.pn ++ pins) hz ⟨_, hd⟩).run [] s5 _ H1 _ S5 (hyes rfl x ob nx hz ⟨_, hd⟩)) (fun f s6 q6 => ?_) (fun _ _ z => False.elim z)
          have out : ∀ {σ6 : L2.St} {H6 : Hp} {Q : Shared → Prop}, Inv (X.suite x ((x, ob) :: (X.pn ++ pins))) [] σ6 H6 s6 → (∀ s7, Inv X pins (σ6.set i none) H6 s7 → Q s7) →
              wpAny (model X.prog X.w) X.A (do bindName X.env n .none; unbindBehindTheSuite X.env n pos') (fun _ s7 => Q s7) X.xe s6 := fun S6 q => gone_ok (S6.unsuite okX) hN hi hl q
          cases f with
          | ret u => exact let ⟨_, _, _, S6, r6, y6⟩ := q6; out S6 fun s7 J7 => ⟨_, _, _, J7, r6, y6⟩
          | next => exact let ⟨_, _, S6, y6⟩ := q6; out S6 fun s7 J7 => ⟨_, _, J7, y6⟩
          | brk => exact let ⟨_, _, S6, y6⟩ := q6; out S6 fun s7 J7 => ⟨_, _, J7, y6⟩
          | cont => exact let ⟨_, _, S6, y6⟩ := q6; out S6 fun s7 J7 => ⟨_, _, J7, y6⟩
    exact go hh G0 fl0 up0 wish
  · cases f with
    | next => exact let ⟨_, _, J, y⟩ := q; wpAny_execs_nil ⟨_, _, J.ofTry okX, y⟩
    | brk => exact let ⟨_, _, J, y⟩ := q; ⟨_, _, J.ofTry okX, y⟩
    | cont => exact let ⟨_, _, J, y⟩ := q; ⟨_, _, J.ofTry okX, y⟩
    | ret u => exact let ⟨_, _, _, J, r, y⟩ := q; ⟨_, _, _, J.ofTry okX, r, y⟩
end
end DS

/-! # XD: try over data; what a suite does with the exception -/
namespace DS
open PySem PySem.Spec PyProof.Rows L2
/-! ### the table of the exception classes: own ancestors (itself too), built-in ones -/
abbrev ExT := List (Str × List Str × List String)
def ExT.own (T : ExT) (c d : Str) : Bool := match T.lookup c with
  | some (a, _) => a.contains d
  | none => false
def ExT.blt (T : ExT) (c : Str) (n : String) : Bool := match T.lookup c with
  | some (_, a) => a.contains n
  | none => false
abbrev ExT.nm (T : ExT) : List Str := T.map (·.1)
structure XtOk (K : PySem.W.Frag) (T : ExT) (fs : List Str) (bs : List String) : Prop where
  exm : ∀ c ∈ T.nm, ∀ d ∈ T.nm, PySem.W.exmOne K (.ref (He.ga K c)) (.ref (He.ga K d)) = some (T.own c d)
  kit : ∀ c ∈ T.nm, ∀ d ∈ T.nm, PySem.W.kitOne K (.ref (He.ga K c)) (.ref (He.ga K d)) = some (T.own c d)
  ktb : ∀ c ∈ T.nm, ∀ n ∈ bs, PySem.W.kitOne K (.ref (He.ga K c)) (.type n) = some (T.blt c n)
  xf : ∀ c ∈ T.nm, XfC K (He.ga K c)
  fld : ∀ c ∈ T.nm, ∀ f ∈ fs, PySem.W.findIn K (.ref (He.ga K c)) f = some none
  ha : ∀ c ∈ T.nm, PySem.W.findIn K (.ref (He.ga K c)) "__class__" = some (some (.builtin "object.__class__"))
  hm : ∀ c ∈ T.nm, PySem.W.mroIn K (He.ga K c) (.type "object") = some true
  hn : PySem.W.specialIn K (.builtin "object.__class__") "__get__" = some (some (.builtin "getset_descriptor.__get__"))
  ht : PySem.W.takesIn K (.builtin "object.__class__") = some true
def xtB (T : ExT) (fs : List Str) (bs : List String) (K : PySem.W.Frag) : Bool :=
  (T.nm.all fun c => T.nm.all fun d => decide (PySem.W.exmOne K (.ref (He.ga K c)) (.ref (He.ga K d)) = some (T.own c d))) && ((T.nm.all fun c => T.nm.all fun d => decide (PySem.W.kitOne K (.ref (He.ga K c)) (.ref (He.ga K d)) = some (T.own c d))) &&
  ((T.nm.all fun c => bs.all fun n => decide (PySem.W.kitOne K (.ref (He.ga K c)) (.type n) = some (T.blt c n))) && ((T.nm.all fun c => xfB K (He.ga K c)) && ((T.nm.all fun c => fs.all fun f => decide (PySem.W.findIn K (.ref (He.ga K c)) f = some none)) &&
  ((T.nm.all fun c => decide (PySem.W.findIn K (.ref (He.ga K c)) "__class__" = some (some (.builtin "object.__class__")))) && ((T.nm.all fun c => decide (PySem.W.mroIn K (He.ga K c) (.type "object") = some true)) &&
  (decide (PySem.W.specialIn K (.builtin "object.__class__") "__get__" = some (some (.builtin "getset_descriptor.__get__"))) && decide (PySem.W.takesIn K (.builtin "object.__class__") = some true))))))))
theorem xtB_ok {T : ExT} {fs : List Str} {bs : List String} {K : PySem.W.Frag} (h : xtB T fs bs K = true) : XtOk K T fs bs := by
  obtain ⟨h1, h⟩ := He.ba h
  obtain ⟨h2, h⟩ := He.ba h
  obtain ⟨h3, h⟩ := He.ba h
  obtain ⟨h4, h⟩ := He.ba h
  obtain ⟨h5, h⟩ := He.ba h
  obtain ⟨h6, h⟩ := He.ba h
  obtain ⟨h7, h⟩ := He.ba h
  obtain ⟨h8, h9⟩ := He.ba h
  exact ⟨fun c hc d hd => of_decide_eq_true (List.all_eq_true.mp (List.all_eq_true.mp h1 c hc) d hd), fun c hc d hd => of_decide_eq_true (List.all_eq_true.mp (List.all_eq_true.mp h2 c hc) d hd),
    fun c hc n hn => of_decide_eq_true (List.all_eq_true.mp (List.all_eq_true.mp h3 c hc) n hn), fun c hc => xfB_ok (List.all_eq_true.mp h4 c hc), fun c hc f hf => of_decide_eq_true (List.all_eq_true.mp (List.all_eq_true.mp h5 c hc) f hf),
    fun c hc => of_decide_eq_true (List.all_eq_true.mp h6 c hc), fun c hc => of_decide_eq_true (List.all_eq_true.mp h7 c hc), of_decide_eq_true h8, of_decide_eq_true h9⟩
/-! ### the context of a suite -/
def SC.hot (c : SC) (k : Hx) (ob : Obj) : SC := { c with calm := false, hx := some (k, ob), me := none }
def hotD (y : Dyn) (x : Addr) (pn : List (Addr × Obj)) : Dyn := { y with A := y.A.mark (some (.ref x)), pn := pn, xe := fun _ _ => False }
theorem OkD.hot {c : SC} {W : WX} {y : Dyn} {k : Hx} {ob : Obj} {pn : List (Addr × Obj)} (hy : OkD c W y) (hm : (k.x, ob) ∈ pn) (h1 : ob.cls = .ref (He.ga c.K k.c)) (h2 : ob.dict = k.dd) (h3 : ∃ vs, ob.data = .fields vs) : OkD (c.hot k ob) noW (hotD y k.x pn) := by
  refine ⟨hy.scope, ⟨hy.room.dp, hy.room.un⟩, (fun z => Bool.noConfusion (show false = true from z)), ?_, hy.fn, hy.gd, PassesOwn.never, (fun k' ob' e => ?_), hy.df, (fun _ z => nomatch z), fun z => ⟨(hy.rj z).dp, (hy.rj z).un⟩⟩
  · rintro u s' ⟨a, B, sI, pins, σ, H, cls, d, e, I, nb, up, sky, na, os, ag, w⟩
    exact w.elim
  · have e' : (k, ob) = (k', ob') := Option.some.inj e
    cases e'
    exact ⟨hm, h1, h2, h3⟩
/-! ### outcomes of suites -/
def SO.ne : SO → SO
  | .exc _ _ _ _ => .stuck
  | o => o
def SO.un (i : Nat) : SO → SO
  | .next r m => .next (r.set i none) m
  | .brk r m => .brk (r.set i none) m
  | .cont r m => .cont (r.set i none) m
  | .ret d m => .ret d m
  | .exc _ _ _ _ => .stuck
  | .stuck => .stuck
abbrev HdF := List Str × Option Nat × (Hx → XS)
def tryH (T : ExT) (c : Str) (fs : List (Str × D)) (r : Rho) (m : Mu) : List HdF → SO
  | [] => .exc c fs r m
  | (cns, oi, fh) :: l => if c ∈ T.nm then (if cns.any (T.own c) then (match oi with
      | none => (fh ⟨0, none, c⟩ r m).ne
      | some i => (fh ⟨0, none, c⟩ (r.set i (some (.exn ⟨0, none, c⟩ fs))) m).un i) else tryH T c fs r m l) else .stuck
def sTry (T : ExT) (body : XS) (l : List HdF) : XS := fun r m => match body r m with
  | .exc c fs r' m' => tryH T c fs r' m' l
  | o => o
/-- the suite does not look where the exception lies -/
def IvN (fh : Hx → XS) : Prop := ∀ (k k' : Hx) (r : Rho) (m : Mu), k.c = k'.c → (fh k r m).ne = (fh k' r m).ne
def IvE (i : Nat) (fh : Hx → XS) : Prop := ∀ (k k' : Hx) (fs : List (Str × D)) (r : Rho) (m : Mu), k.c = k'.c → (fh k (r.set i (some (.exn k fs))) m).un i = (fh k' (r.set i (some (.exn k' fs))) m).un i
/-- t names the classes cns -/
def CtOk (c : SC) (T : ExT) (t : Expr) (cns : List Str) : Prop := ∃ tst : Value → Option Bool, (∀ (W : WX) (y : Dyn), OkD c W y → ∀ cl yes, tst cl = some yes → Tst (c.cx y) t cl yes) ∧ ∀ n ∈ T.nm, tst (.ref (He.ga c.K n)) = some (cns.any (T.own n))
inductive DHs (c : SC) (T : ExT) : List ExceptHandler → List HdF → Prop
  | nil : DHs c T [] []
  | plain {t : Expr} {cns : List Str} {fh : Hx → XS} {st : Stmt} {sts : List Stmt} {pos : Pos} {hs : List ExceptHandler} {l : List HdF} (ht : CtOk c T t cns) (hf : ∀ k ob, DSs (c.hot k ob) noW (st :: sts) (fh k)) (hi : IvN fh) (r : DHs c T hs l) :
      DHs c T (.ExceptHandler (some t) none (st :: sts) pos :: hs) ((cns, none, fh) :: l)
  | named {t : Expr} {cns : List Str} {n : Str} {i : Nat} {fh : Hx → XS} {st : Stmt} {sts : List Stmt} {pos : Pos} {hs : List ExceptHandler} {l : List HdF} (ht : CtOk c T t cns) (hN : c.N.Nodup) (hn : c.N[i]? = some n) (hl : c.sc.names.lookup n = some .local) (hf : ∀ k ob, DSs (c.hot k ob) noW (st :: sts) (fh k)) (hi : IvE i fh) (r : DHs c T hs l) :
      DHs c T (.ExceptHandler (some t) (some n) (st :: sts) pos :: hs) ((cns, some i, fh) :: l)
section
variable {c : SC} {W : WX} {T : ExT} {pos : Pos}
theorem EnvOk.unsetS {K : PySem.W.Frag} {F : Hp} {al : List Addr} {r : Rho} {σ : L2.St} (h : EnvOk K F al r σ) (i : Nat) : EnvOk K F al (r.set i none) (σ.set i none) := by
  refine ⟨by rw [List.length_set, List.length_set]; exact h.len, fun j e hj => ?_⟩
  by_cases hij : j = i
  · subst hij
    have hl : j < r.length := by
      have := (List.getElem?_eq_some_iff.mp hj).1
      rw [List.length_set] at this
      exact this
    rw [List.getElem?_set_self hl] at hj
    cases hj
  · rw [List.getElem?_set_ne (Ne.symm hij)] at hj
    obtain ⟨w, a, b⟩ := h.get j e hj
    exact ⟨w, by rw [List.getElem?_set_ne (Ne.symm hij)]; exact a, b⟩
theorem PostS.ofNe {K : PySem.W.Frag} {W : WX} {F : Hp} {al : List Addr} {E : Ends} {o : SO} (p : PostS K W F al E o.ne) : PostS K noW F al E o := by
  cases o <;> first | exact p | exact p.elim
theorem PostS.ofUn {K : PySem.W.Frag} {W : WX} {F : Hp} {al : List Addr} {E : Ends} {o : SO} {i : Nat} (p : PostS K W F al E (o.un i)) : PostS K noW F al (unS i E) o := by
  cases o with
  | next r m => exact fun σ' H' F' al' e w he => p _ H' F' al' e w (he.unsetS i)
  | brk r m => exact fun σ' H' F' al' e w he => p _ H' F' al' e w (he.unsetS i)
  | cont r m => exact fun σ' H' F' al' e w he => p _ H' F' al' e w (he.unsetS i)
  | ret d m => exact p
  | exc _ _ _ _ => exact p.elim
  | stuck => exact p.elim
/-- the clauses' readings -/
theorem hds_ok {hs : List ExceptHandler} {l : List HdF} (h : DHs c T hs l) : ∃ l' : List Hd1, (∀ y, OkD c W y → HdX (c.cx y) hs l') ∧
    ∀ (n : Str) (fs : List (Str × D)) (r : Rho) (m : Mu) (σ : L2.St) (H F : Hp) (al : List Addr) (E : Ends) (dd : Option Addr) (gs : List (Str × V)), EnvOk c.K F al r σ → Wd c.K F al m H → RpF c.K F al fs gs → (gs = [] ∧ dd = none ∨ ∃ x, dd = some x ∧ F x = some (.xd gs)) →
      PostS c.K W F al E (tryH T n fs r m l) → wX W E l' (.ref (He.ga c.K n)) dd σ H := by
  induction h with
  | nil => exact ⟨[], fun _ _ => .nil, fun n fs r m σ H F al E dd gs he hw hg hd p => p dd σ H F al gs Le.refl hw he hg hd⟩
  | @plain t cns fh st sts pos hs l ht hf hi r ih =>
    obtain ⟨l', h1, h2⟩ := ih
    obtain ⟨tst, t1, t2⟩ := ht
    refine ⟨(tst, none, fun x ob cl d D σ H => ∃ n, cl = .ref (He.ga c.K n) ∧ (hf ⟨x, d, n⟩ ob).choose D σ H) :: l', fun y hy => .plain (t1 W y hy) (fun x ob cl d pn hz hv => ⟨fun pins s σ H D I ⟨n, e, q⟩ => ?_⟩) (h1 y hy), fun n fs r m σ H F al E dd gs he hw hg hd p => ?_⟩
    · subst e
      exact ((hf ⟨x, d, n⟩ ob).choose_spec.1 (hotD y x ((x, ob) :: pn)) (OkD.hot (k := ⟨x, d, n⟩) hy List.mem_cons_self hz.1 hz.2 hv)).run pins s σ H D I q
    · rw [tryH] at p
      split at p
      · rename_i hn
        refine ⟨_, t2 n hn, fun hb x ob hx hz hv => ?_, fun hb => ?_⟩
        · rw [if_pos hb] at p
          rw [hi ⟨0, none, n⟩ ⟨x, dd, n⟩ r m rfl] at p
          exact ⟨n, rfl, (hf ⟨x, dd, n⟩ ob).choose_spec.2 r m σ H F al E he hw p.ofNe⟩
        · rw [if_neg (by rw [hb]; simp)] at p
          exact h2 n fs r m σ H F al E dd gs he hw hg hd p
      · exact p.elim
  | @named t cns nm i fh st sts pos hs l ht hN hnm hl hf hi r ih =>
    obtain ⟨l', h1, h2⟩ := ih
    obtain ⟨tst, t1, t2⟩ := ht
    refine ⟨(tst, some i, fun x ob cl d D σ H => ∃ n, cl = .ref (He.ga c.K n) ∧ (hf ⟨x, d, n⟩ ob).choose D σ H) :: l', fun y hy => .named (t1 W y hy) hN hnm (by show y.env.scope.names.lookup nm = _; rw [hy.scope]; exact hl) (fun x ob cl d pn hz hv => ⟨fun pins s σ H D I ⟨n, e, q⟩ => ?_⟩) (h1 y hy), fun n fs r m σ H F al E dd gs he hw hg hd p => ?_⟩
    · subst e
      exact ((hf ⟨x, d, n⟩ ob).choose_spec.1 (hotD y x ((x, ob) :: pn)) (OkD.hot (k := ⟨x, d, n⟩) hy List.mem_cons_self hz.1 hz.2 hv)).run pins s σ H D I q
    · rw [tryH] at p
      split at p
      · rename_i hn
        refine ⟨_, t2 n hn, fun hb x ob hx hz hv => ?_, fun hb => ?_⟩
        · rw [if_pos hb] at p
          rw [hi ⟨0, none, n⟩ ⟨x, dd, n⟩ fs r m rfl] at p
          exact ⟨n, rfl, (hf ⟨x, dd, n⟩ ob).choose_spec.2 _ m _ H F al _ (he.set i (.exn (k := ⟨x, dd, n⟩) hd hg)) hw p.ofUn⟩
        · rw [if_neg (by rw [hb]; simp)] at p
          exact h2 n fs r m σ H F al E dd gs he hw hg hd p
      · exact p.elim
theorem ds_try {h1 : ExceptHandler} {hs : List ExceptHandler} {l : List HdF} {body : List Stmt} {fb : XS} (hd : DHs c T (h1 :: hs) l) (hb : ∀ W', DSs c W' body fb) (hdf : c.df = true := by rfl) : DSt c W (.Try body (h1 :: hs) [] [] pos) (sTry T fb l) := by
  obtain ⟨l', g1, g2⟩ := hds_ok (W := W) hd
  refine ⟨fun D σ H => (hb (wX W D l')).choose D σ H, fun y hy => ?_, fun r m σ H F al E he hw p => ?_⟩
  · have key : PS (c.cx y) (.Try body (h1 :: hs) [] [] pos) (fun D σ H => (fun W' D σ H => ∃ D0, W' = wX W D0 l' ∧ (hb (wX W D0 l')).choose D σ H) (wX W D l') D σ H) := by
      refine ps_tryX (X := c.cx y) (tb := fun W' D σ H => ∃ D0, W' = wX W D0 l' ∧ (hb (wX W D0 l')).choose D σ H) (hy.df hdf).1 (hy.df hdf).2.1 hy.takes (fun W' pn xe tk ow hp => ⟨fun pins s σ H D I ⟨D0, e, q⟩ => ?_⟩) (g1 y hy)
      subst e
      exact ((hb (wX W D0 l')).choose_spec.1 { y with pn := pn, xe := xe } ⟨hy.scope, hy.room, hy.hd, tk, hy.fn, hy.gd, ow, (fun k ob z => ⟨hp _ (hy.pin k ob z).1, (hy.pin k ob z).2⟩), hy.df, hy.me, hy.rj⟩).run pins s σ H D I q
    exact ⟨fun pins s σ H D I q => key.run pins s σ H D I ⟨D, rfl, q⟩⟩
  · refine (hb (wX W E l')).choose_spec.2 r m σ H F al E he hw ?_
    unfold sTry at p
    cases q : fb r m with
    | exc n fs r' m' =>
      rw [q] at p
      intro dd σ' H' F' al' gs e w' he' hg hdd
      exact g2 n fs r' m' σ' H' F' al' E dd gs he' w' hg hdd (p.up e)
    | next r' m' => rw [q] at p; exact p
    | brk r' m' => rw [q] at p; exact p
    | cont r' m' => rw [q] at p; exact p
    | ret d m' => rw [q] at p; exact p
    | stuck => rw [q] at p; exact p
/-! ### except C, except (C, ..) -/
theorem tst_name {X : Cx} {x : Str} {cv cl : Value} {yes : Bool} {np : Pos} (hc : Names X x cv) (h : PySem.W.exmOne X.K cl cv = some yes) : Tst X (.Name x np) cl yes := fun a pn pins σ H s Q E I LT hq => by
  have fin : wpAny (model X.prog X.w) (X.A.mark (some (.ref a))) (excMatches (.ref a) cv) Q E s := (PySem.W.exm_one I.kIn LT h).here (hq s.heap fun _ _ z => z)
  obtain ⟨g1, g2, g3 | ⟨g3, g4, g5⟩⟩ := hc
  · exact ld_glob (X := X.suite a pn) I g1 g3 fin g2
  · exact ld_blt (X := X.suite a pn) I g1 g3 g4 fin g5 g2
theorem ct_name {x : Str} {np : Pos} {fs : List Str} {bs : List String} (K : XtOk c.K T fs bs) (hm : c.mg x = some (.ref (He.ga c.K x))) (hx : x ∈ T.nm := by decide) (hg : c.sc.names.lookup x = some .globalImplicit := by rfl) (hdb : (x == ("__debug__" : Str)) = false := by decide) : CtOk c T (.Name x np) [x] := by
  refine ⟨fun cl => PySem.W.exmOne c.K cl (.ref (He.ga c.K x)), fun W y hy cl yes h => tst_name (X := c.cx y) ⟨hy.gl hg, hdb, .inl hm⟩ h, fun n hn => ?_⟩
  show PySem.W.exmOne c.K (.ref (He.ga c.K n)) (.ref (He.ga c.K x)) = _
  rw [K.exm n hn x hx]
  simp
/-! ### e.f, isinstance(e, C) -/
def xExF (k0 : Hx) (T : ExT) (f : Str) (a : XE') : XE' := fun r m => (a r m).bind fun d m1 => match d with
  | .exn k gs => if k = k0 ∧ k.c ∈ T.nm then (match gs.lookup f with
    | some v => .ok v m1
    | none => .stuck) else .stuck
  | _ => .stuck
theorem de_xf {e : Expr} {fe : XE'} {f : Str} {k0 : Hx} {ob : Obj} {fs : List Str} {bs : List String} (K : XtOk c.K T fs bs) (hc : c.hx = some (k0, ob)) (ha : DE c W e fe) (hf : f ∈ fs := by decide) (hb : ∀ env, attributeBase e f env (eval e env) = eval e env := by intro _; rfl) : DE c W (.Attribute e f pos) (xExF k0 T f fe) := by
  obtain ⟨t, a1, a2⟩ := ha
  refine ⟨fun σ H Q => t σ H fun x H1 => k0.c ∈ T.nm ∧ x = .ref k0.x ∧ ∃ (dd : Addr) (gs : List (Str × V)) (v : V), k0.dd = some dd ∧ H1 dd = some (.xd gs) ∧ gs.lookup f = some v ∧ Q v H1, fun y hy => ⟨fun pins s σ H Q I h => ?_⟩, fun ρ m σ H F al Q he hw p => ?_⟩
  · refine attr_of (hb _) (thn ((a1 y hy).run pins s σ H _ I h) fun u s1 ⟨x, H1, I1, rx, hk, ex, dd, gs, v, ed, ea, hl, q⟩ => ?_)
    subst ex
    obtain rfl : u = Value.ref k0.x := rx
    obtain ⟨hp, o1, o2, vs, o3⟩ := hy.pin k0 ob hc
    obtain ⟨ho, _⟩ := I1.pin (k0.x, ob) (List.mem_append_left _ hp)
    obtain ⟨mA, hns, hr⟩ : ObjOk c.P c.w H1 s1.heap dd (.xd gs) := I1.hok dd _ ea
    obtain ⟨od, hod, hlk⟩ := lookIn_ns hns
    obtain ⟨w, hw', rw'⟩ := RelO.some_of (v := v) (o := mA f) (by rw [← hl]; exact hr f)
    have J : PySem.W.InstAt s1.heap k0.x ob (He.ga c.K k0.c) (some od) := ⟨ho, o1, by unfold PySem.W.notCls; rw [o3] <;> rfl, by rw [o2, ed]; exact hod⟩
    have XT := K.xf _ hk
    exact HandSPX.exc_get I1.kIn J XT.ga XT.gg XT.exC (PySem.W.findObj_own XT.hdC (K.fld _ hk f hf) rfl (by rw [hlk, hw'])) (handed_of rw') ⟨v, H1, I1.tok _, rw', q⟩
  · refine a2 ρ m σ H F al _ he hw (Post.step p fun d m1 v H1 F1 al1 e1 w1 q1 p1 => ?_)
    cases q1 with
    | @exn k gs ds s r =>
      dsimp only at p1
      split at p1
      · rename_i hk
        obtain ⟨rfl, hk⟩ := hk
        split at p1
        · rename_i d' hd
          obtain ⟨u, h3, h4⟩ := (r.look (x := f)).2 d' hd
          rcases s with ⟨s1, s2⟩ | ⟨yy, s1, s2⟩
          · subst s1; cases h3
          · exact ⟨hk, rfl, yy, gs, u, s1, w1.sub _ _ s2, h3, p1 _ H1 F1 al1 Le.refl w1 h4⟩
        · exact p1.elim
      · exact p1.elim
    | _ => exact p1.elim
end
end DS

/-! # XE: isinstance of the handled exception; defs called with it -/
namespace DS
open PySem PySem.Spec PyProof.Rows L2
section
variable {c : SC} {W : WX} {T : ExT} {pos : Pos}
def isiX (k0 : Hx) (T : ExT) (bs : List String) (ds : List D) (m : Mu) : Out D := match ds with
  | [.exn k _, .glo d] => if k = k0 ∧ k.c ∈ T.nm ∧ d ∈ T.nm then .ok (.bl (T.own k.c d)) m else .stuck
  | [.exn k _, .ty n] => if k = k0 ∧ k.c ∈ T.nm ∧ n ∈ bs then .ok (.bl (T.blt k.c n)) m else .stuck
  | _ => .stuck
/-! ### a def that is called with the exception that is handled -/
/-- what it promises while ob (at k.x) is handled -/
structure FnX (b : Base) (n : Nat) (f : Addr) (fd : FuncData) (ps : List Str) (G : Hx → Fn) : Prop where
  run : ∀ (k : Hx) (ob : Obj) (A : Around) (out : List Env) (s : Shared) (H : Hp) (ar : Args) (us : List Value) (vs : List V) (Q : VK), L2H.RoomH n A → A.guards = some [] → L2H.PinOk out H s (k.x, ob) → ob.cls = .ref (He.ga b.K k.c) → ob.dict = k.dd → (∃ vs, ob.data = .fields vs) → Env0 b.P b.w b.K b.mg b.base A out s H → BindsTo s fd ar (ps.zip us) → Vals vs us →
    spOf b.K ps.length (G k) vs H Q (fun _ _ _ => False) → codeAny (model b.P b.w) A (.call (.ref f) ar) (CR (L2.CX b.P b.w) out b.P b.w H s Q (fun _ _ _ => False)) s
abbrev Base.hotAt (b : Base) (N : List Str) (sc : Scope) (n : Nat) (k : Hx) (ob : Obj) : SC := ⟨b.P, b.w, b.K, b.mg, b.base, N, sc, n, fun _ => true, true, false, some (k, ob), true, none, 0⟩
def xCallX (G : Fn) (a : XA) : XE' := fun r m => ((a r m).bind G).ne
end
end DS

/-! # XF: g(lambda: e), where g begins with try: x = a() -/
namespace DS
open PySem PySem.Spec PyProof.Rows L2
/-! ### the store behind a new code object -/
section
variable {K : PySem.W.Frag} {F H H1 : Hp} {al : List Addr} {m : Mu}
/-- the tables of a store -/
def tabsOf (K : PySem.W.Frag) : Mu → List (Addr × Str)
  | [] => []
  | .tab x :: r => (tabP K x, lamQ x) :: tabsOf K r
  | _ :: r => tabsOf K r
theorem mem_tabs {x : Str} : ∀ {m : Mu} {n : Nat}, m[n]? = some (.tab x) → (tabP K x, lamQ x) ∈ tabsOf K m
  | [], n, h => by simp at h
  | c :: r, 0, h => by
    have e : c = .tab x := Option.some.inj h
    subst e
    exact List.mem_cons_self
  | c :: r, n + 1, h => by
    have ih := mem_tabs (m := r) (n := n) (by simpa using h)
    cases c <;> first | exact ih | exact List.mem_cons_of_mem _ ih
theorem tabs_mem : ∀ {m : Mu} {p : Addr × Str}, p ∈ tabsOf K m → ∃ (n : Nat) (x : Str), m[n]? = some (Cell.tab x) ∧ p = (tabP K x, lamQ x)
  | [], p, h => nomatch h
  | c :: r, p, h => by
    have up : p ∈ tabsOf K r → ∃ (n : Nat) (x : Str), (c :: r)[n]? = some (Cell.tab x) ∧ p = (tabP K x, lamQ x) := fun z =>
      let ⟨n, x, h1, h2⟩ := tabs_mem z; ⟨n + 1, x, by simpa using h1, h2⟩
    cases c with
    | tab x =>
      rcases List.mem_cons.mp h with z | z
      · exact ⟨0, x, rfl, z⟩
      · exact up z
    | _ => exact up h
theorem Wd.tabs (w : Wd K F al m H) : LamX.Tabs (tabsOf K m) H := fun p hp => by
  obtain ⟨n, x, h1, rfl⟩ := tabs_mem hp
  have hn : n < al.length := by rw [w.len]; exact (List.getElem?_eq_some_iff.mp h1).1
  obtain ⟨⟨_, e⟩, ps, h2, h3, h4⟩ := w.cell n _ _ (List.getElem?_eq_getElem hn) h1
  refine ⟨ps, by rw [← e]; exact h2, h3, fun pos cv hc => ?_⟩
  obtain ⟨c, e1, e2⟩ := h4 pos cv hc
  exact ⟨c, e1, w.sub _ _ e2⟩
open Classical in
theorem Wd.lam (w : Wd K F al m H) (ex : LamX.ExtN H H1) (tb : LamX.Tabs (tabsOf K m) H1) : ∃ F1, Le F al F1 al ∧ Wd K F1 al m H1 ∧ ∀ c q, H1 c = some (LamX.CodeO c q) → F1 c = some (LamX.CodeO c q) := by
  let F1 : Hp := fun a => match F a with
    | some o => some o
    | none => if ∃ q, H1 a = some (LamX.CodeO a q) then H1 a else none
  have f1 : ∀ a o, F a = some o → F1 a = some o := fun a o e => by show (match F a with | some o => some o | none => _) = _; rw [e]
  have f2 : ∀ a, F a = none → F1 a = if ∃ q, H1 a = some (LamX.CodeO a q) then H1 a else none := fun a e => by show (match F a with | some o => some o | none => _) = _; rw [e]
  have up : ∀ a o, H a = some o → (∀ ps, o ≠ .tbl ps) → H1 a = some o := fun a o e n => ex a o e n
  have sub : ∀ a o, F1 a = some o → H1 a = some o := fun a o e => by
    cases q : F a with
    | some u =>
      rw [f1 a u q] at e
      cases e
      exact up a _ (w.sub a _ q) fun ps z => w.nt a ps (by rw [q, z])
    | none =>
      rw [f2 a q] at e
      split at e
      · exact e
      · cases e
  have code : ∀ c q, H1 c = some (LamX.CodeO c q) → F1 c = some (LamX.CodeO c q) := fun c q e => by
    cases z : F c with
    | some u =>
      have h := sub c u (f1 c u z)
      rw [e] at h
      cases h
      exact f1 c _ z
    | none => rw [f2 c z, if_pos ⟨q, e⟩]; exact e
  have free : ∀ a o, F a = none → H1 a = some o → (∀ c q, o ≠ LamX.CodeO c q) → F1 a = none := fun a o e h n => by
    rw [f2 a e, if_neg]
    rintro ⟨q, z⟩
    rw [h] at z
    exact n _ _ (Option.some.inj z)
  have le : Le F al F1 al := ⟨f1, fun _ _ e => e⟩
  refine ⟨F1, le, ⟨sub, w.len, w.nd, fun n a c h1 h2 => ?_, w.gen, fun a ha => ?_, fun a ps z => ?_⟩, code⟩
  · have hc := w.cell n a c h1 h2
    cases c with
    | lst ds =>
      obtain ⟨z, vs, e1, e2⟩ := hc
      have e3 := up a _ e1 fun ps z => by cases z
      exact ⟨free a _ z e3 fun c q z => (by unfold LamX.CodeO at z; cases z), vs, e3, e2.up le⟩
    | ins cn gs =>
      obtain ⟨z, dx, fs, e1, e2⟩ := hc
      have e3 := up a _ e1 fun ps z => by cases z
      exact ⟨free a _ z e3 fun c q z => (by unfold LamX.CodeO at z; cases z), dx, fs, e3, e2.up le⟩
    | dct gs =>
      obtain ⟨z, fs, e1, e2⟩ := hc
      have e3 := up a _ e1 fun ps z => by cases z
      exact ⟨free a _ z e3 fun c q z => (by unfold LamX.CodeO at z; cases z), fs, e3, e2.up le⟩
    | dead => exact let ⟨o, z⟩ := hc; ⟨o, f1 a o z⟩
    | dtt gs =>
      obtain ⟨z, ks, e1, ek, e2⟩ := hc
      have e3 := up a _ e1 fun ps z => by cases z
      exact ⟨free a _ z e3 fun c q z => (by unfold LamX.CodeO at z; cases z), ks, e3, ek, e2.up le⟩
    | opn xs h0 ls =>
      obtain ⟨z, vs, p, q, hv, ws, e1, e2, e3, e4, e5, e6, e7⟩ := hc
      have x1 := up a _ e1 fun ps z => by cases z
      have x6 := up q _ e6 fun ps z => by cases z
      exact ⟨free a _ z x1 fun c q z => (by unfold LamX.CodeO at z; cases z), vs, p, q, hv, ws, x1, e2.up le, f1 _ _ e3, e4.up le, ⟨free q _ e5.1 x6 fun c q z => (by unfold LamX.CodeO at z; cases z), e5.2⟩, x6, e7.up le⟩
    | tab x =>
      obtain ⟨⟨z, e⟩, _⟩ := hc
      obtain ⟨ps, t1, t2, t3⟩ := tb _ (mem_tabs h2)
      have t1 : H1 (tabP K x) = some (.tbl ps) := t1
      rw [← e] at t1
      refine ⟨⟨free a _ z t1 fun c q z => (by unfold LamX.CodeO at z; cases z), e⟩, ps, t1, t2, fun pos cv hc => ?_⟩
      obtain ⟨c, e1, e2⟩ := t3 pos cv hc
      exact ⟨c, e1, code c _ e2⟩
  · cases q : H a with
    | none => exact absurd q (w.tr a ha)
    | some o =>
      by_cases hq : ∃ ps, o = .tbl ps
      · obtain ⟨ps, rfl⟩ := hq
        obtain ⟨n, hn, hn'⟩ := List.mem_iff_getElem.mp ha
        have h1 : al[n]? = some a := by rw [List.getElem?_eq_getElem hn, hn']
        have hm : n < m.length := by rw [← w.len]; exact hn
        have hc := w.cell n a _ h1 (List.getElem?_eq_getElem hm)
        cases e : m[n] with
        | tab x =>
          rw [e] at hc
          obtain ⟨⟨_, e1⟩, _⟩ := hc
          obtain ⟨ps', t1, _⟩ := tb _ (mem_tabs (by rw [List.getElem?_eq_getElem hm, e]))
          have t1 : H1 (tabP K x) = some (.tbl ps') := t1
          rw [e1, t1]
          simp
        | lst _ => rw [e] at hc; obtain ⟨_, _, e1, _⟩ := hc; rw [q] at e1; cases e1
        | ins _ _ => rw [e] at hc; obtain ⟨_, _, _, e1, _⟩ := hc; rw [q] at e1; cases e1
        | dct _ => rw [e] at hc; obtain ⟨_, _, e1, _⟩ := hc; rw [q] at e1; cases e1
        | opn _ _ _ => rw [e] at hc; obtain ⟨_, _, _, _, _, _, e1, _⟩ := hc; rw [q] at e1; cases e1
        | dtt _ => rw [e] at hc; obtain ⟨_, _, e1, _⟩ := hc; rw [q] at e1; cases e1
        | dead =>
          rw [e] at hc
          obtain ⟨o, e1⟩ := hc
          rw [sub a o (f1 a o e1)]
          simp
      · rw [up a o q fun ps z => hq ⟨ps, z⟩]
        simp
  · have h := sub a _ z
    cases q : F a with
    | some u =>
      rw [f1 a u q] at z
      exact w.nt a ps (by rw [q]; exact z)
    | none =>
      rw [f2 a q] at z
      split at z
      · rename_i hq
        obtain ⟨r, hr⟩ := hq
        rw [hr] at z
        unfold LamX.CodeO at z
        cases z
      · cases z
end
/-! ### the lambda is called in the def that got it -/
section
variable {X : Cx} {pins : List (Addr × Obj)} {σ : L2.St} {H : Hp} {s : Shared}
end
/-! ### x = a(), a() -/
/-- a statement that calls a() and keeps what it gives in slot j, or nowhere -/
def upJ {α : Type} (j : Option Nat) (σ : List (Option α)) (v : α) : List (Option α) := match j with
  | some j => σ.set j (some v)
  | none => σ
def Cal (Ng : List Str) (sg : Scope) (call : Expr) (st0 : Stmt) (j : Option Nat) : Prop := ∀ (X : Cx) (te : TE), X.N = Ng → X.env.scope = sg → (∀ x, X.fn x = true) → PE X call te → PS X st0 (fun D σ H => te σ H fun v H' => D.nx (upJ j σ v) H')
/-! ### g(lambda: e) -/
def lamG (T : ExT) (n : Nat) (j : Option Nat) (l : List HdF) (rest : XS) (act : Mu → Out D) (m : Mu) : Out D :=
  match (match act m with
    | .ok d m1 => rest (upJ j (List.replicate n none) d) m1
    | .exc c fs m1 => (match tryH T c fs (List.replicate n none) m1 l with
      | .next r m2 => rest r m2
      | o => o)
    | .stuck => .stuck) with
  | .ret d m' => exitD m.length d m'
  | .next _ m' => .ok .non (m'.take m.length)
  | _ => .stuck
def xLam (i : Nat) (me : Str) (T : ExT) (n : Nat) (j : Option Nat) (l : List HdF) (rest : XS) (fb : XE') : XE' := fun r m => match m[i]? with
  | some (.tab z) => if z = me then lamG T n j l rest (fb r) m else .stuck
  | _ => .stuck
def SC.lam (c : SC) (scope : Scope) (k : Nat) : SC := { c with sc := scope, k := k, fnB := fun _ => false, calm := true, hx := none, df := true, me := none, j := 0 }
theorem EnvOk.upJ {K : PySem.W.Frag} {F : Hp} {al : List Addr} {r : Rho} {σ : L2.St} {d : D} {v : V} (h : EnvOk K F al r σ) (j : Option Nat) (q : Rp K F al d v) : EnvOk K F al (upJ j r d) (upJ j σ v) := by
  cases j with
  | none => exact h
  | some j => exact h.set j q
section
variable {c : SC} {W : WX} {T : ExT} {pos : Pos}
end
end DS

/-! # XG: defs that make lambdas; the law is called -/
namespace DS
open PySem PySem.Spec PyProof.Rows L2
abbrev Base.atL (b : Base) (N : List Str) (sc : Scope) (k : Nat) (x : Str) : SC := ⟨b.P, b.w, b.K, b.mg, b.base, N, sc, k, fun _ => true, true, true, none, true, some x, 0⟩
/-! ### the law is called -/
def mu0 (tb : List Str) : Mu := tb.map Cell.tab
theorem enterT {L : Tl} {P : Program} {w : World} {K : PySem.W.Frag} {mg mb : Str → Option Value} {k : Nat} {fa a : Addr} {fd : FuncData} {x : Str} {G : Fn} {s1 : Shared} {vs : List Value} {ns : List Int}
    (KX : K.In s1.heap) (sy : SaysM L K) (tb : ∀ z ∈ L.tb, s1.heap.get? (tabP K z) = some (PySem.W.tabObj #[])) (hns : s1.heap.Ns mainGlobals mg) (hb : s1.heap.Ns builtinsNs mb) (hbb : ∀ x : Str, x ≠ "__name__" → mb x = bootBuiltins x) (hlim : s1.heap.NoLimit) (hg : s1.gens = #[])
    (hbm : L.tb ≠ [] → ∃ (bm : Addr) (ob : Obj), mg "__builtins__" = some (.ref bm) ∧ bm ≠ builtinsNs ∧ s1.heap.get? bm = some ob ∧ ob.cls = .type "module" ∧ ob.dict = some builtinsNs ∧ ob.data = .plain)
    (ha : s1.heap.get? a = some { cls := .type "list", data := .seq vs.toArray }) (hi : IntsAre vs ns) (hl : ns.length ≤ sizeLine) (hr : Room k callerA)
    (hF : ∀ base : Heap, K.In base → base.Ns mainGlobals mg → (∀ z ∈ L.tb, LamX.TabB base mg (tabC K z) (tabP K z)) → FnG ⟨P, w, K, mg, base⟩ k fa fd [x] G) (hbd : ∀ (s : Shared) (u : Value), BindsTo s fd ⟨[u], []⟩ [(x, u)])
    (hG : ∃ m', G [.fix (ns.map .int)] (mu0 L.tb) = .ok (.bl true) m') :
    codeAny (model P w) callerA (.call (.ref fa) ⟨[.ref a], []⟩) (fun r s' => r = .ok (.ret (.bool true)) ∧ OldK s1.heap s'.heap ∧ s'.os = s1.os ∧ AllBare s'.gens) s1 := by
  have rv := vals_ints hi
  have lenV := hi.length
  obtain ⟨m', hG⟩ := hG
  let PS := L.tb.map (tabP K)
  have isT : ∀ b ∈ PS, s1.heap.get? b = some (PySem.W.tabObj #[]) := fun b hb => by
    obtain ⟨z, hz, e⟩ := List.mem_map.mp hb
    rw [← e]
    exact tb z hz
  have noK : ∀ b ∈ PS, K.lookup b = none := fun b hb => by
    obtain ⟨z, hz, e⟩ := List.mem_map.mp hb
    obtain ⟨_, h2⟩ := He.ba (sy.tb z hz)
    obtain ⟨_, h3⟩ := He.ba h2
    rw [← e]
    cases q : K.lookup (tabP K z) with
    | none => rfl
    | some o => rw [q] at h3; cases h3
  have hdC : ∀ z ∈ L.tb, PySem.W.CodeHd s1.heap (tabC K z) (tabP K z) := fun z hz => by
    obtain ⟨_, h2⟩ := He.ba (sy.tb z hz)
    obtain ⟨h3, _⟩ := He.ba h2
    exact PySem.W.codeHd_of_K KX h3
  have aT : a ∉ PS := fun z => by
    have q := isT a z
    rw [ha] at q
    have z' : Data.seq vs.toArray _ = Data.fields #[] := congrArg Obj.data (Option.some.inj q)
    cases z'
  -- HA: what is known of the script's list alone
  have core : ∀ HA : Hp, (∀ (q : Addr) (u : HO), HA q = some u → q = a ∧ ∃ o xs, u = .frz o (.lst xs)) → SqL K HA a (ns.map V.int) → HOk P w HA s1.heap → (HA a ≠ none → K.lookup a = none) →
      codeAny (model P w) callerA (.call (.ref fa) ⟨[.ref a], []⟩) (fun r s' => r = .ok (.ret (.bool true)) ∧ OldK s1.heap s'.heap ∧ s'.os = s1.os ∧ AllBare s'.gens) s1 := by
    intro HA hone hS hok hK
    let H : Hp := fun b => if b ∈ PS then some (.tbl #[]) else HA b
    have hT : ∀ b, b ∈ PS → H b = some (.tbl #[]) := fun b hb => if_pos hb
    have hN : ∀ b, b ∉ PS → H b = HA b := fun b hb => if_neg hb
    have nA : ∀ b ∈ PS, HA b = none := fun b hb => by
      cases q : HA b with
      | none => rfl
      | some u => exact absurd hb ((hone b u q).1 ▸ aT)
    have sub : ∀ b o, HA b = some o → H b = some o := fun b o e => by
      rw [hN b fun z => by rw [nA b z] at e; cases e]
      exact e
    have cases_ : ∀ {q : Addr} {u : HO}, H q = some u → (q ∈ PS ∧ u = .tbl #[]) ∨ (q = a ∧ ∃ o xs, u = .frz o (.lst xs)) := fun {q u} e => by
      by_cases hq : q ∈ PS
      · rw [hT q hq] at e
        cases e
        exact .inl ⟨hq, rfl⟩
      · rw [hN q hq] at e
        exact .inr (hone q u e)
    have hokH : HOk P w H s1.heap := fun q u e => by
      by_cases hq : q ∈ PS
      · rw [hT q hq] at e
        cases e
        exact isT q hq
      · have e' := e
        rw [hN q hq] at e'
        refine (hok q u e').stay (fun d v _ z => z) (fun d z => sub d _ z) fun d xs z => sub d _ z
    have away : ∀ {q : Addr} {o : Obj}, s1.heap.get? q = some o → (∀ vs n, o.data ≠ .seq vs n) → o.data ≠ .fields #[] → H q = none := fun {q o} e n1 n2 => by
      cases z : H q with
      | none => rfl
      | some u =>
        rcases cases_ z with ⟨h1, _⟩ | ⟨h1, _⟩
        · rw [isT q h1] at e
          cases e
          exact absurd rfl n2
        · rw [h1, ha] at e
          cases e
          exact absurd rfl (n1 _ _)
    have ns' : ∀ {q : Addr} {mm : Str → Option Value}, s1.heap.Ns q mm → (hidT s1.heap H).Ns q mm := fun {q mm} ⟨o, es, ep, e, d, r⟩ => ⟨o, es, ep, hidT_get e (away e (fun vs n z => by rw [d] at z; cases z) fun z => by rw [d] at z; cases z), d, r⟩
    have kb : K.In (hidT s1.heap H) := fun q o e => hidT_get (KX q o e) (by
      cases z : H q with
      | none => rfl
      | some u =>
        rcases cases_ z with ⟨h1, _⟩ | ⟨h1, _⟩
        · rw [noK q h1] at e
          cases e
        · by_cases hq : q ∈ PS
          · rw [noK q hq] at e; cases e
          · rw [hN q hq] at z
            subst h1
            rw [hK (by rw [z]; simp)] at e
            cases e)
    have md : Mod K mg (hidT s1.heap H) := ⟨kb, ns' hns, ⟨mb, ns' hb, hbb⟩, let ⟨mc, h1, h2⟩ := hlim; ⟨mc, ns' h1, h2⟩⟩
    have e0 : Env0 P w K mg (hidT s1.heap H) callerA [] s1 H := ⟨rfl, md, fun q o e => of_hidT e, Nat.le_of_eq (hidT_size _ _), trivial, fun q hq => (by cases hq), hokH, .of_eq hg⟩
    have TB : ∀ z ∈ L.tb, LamX.TabB (hidT s1.heap H) mg (tabC K z) (tabP K z) := fun z hz => by
      have hP : tabP K z ∈ PS := List.mem_map.mpr ⟨z, hz, rfl⟩
      refine ⟨?_, ?_, fun e => ?_⟩
      · obtain ⟨o, us, fl, tf, fg, tg, iF, tx, tt, e1, e2, e3, e4, e5⟩ := hdC z hz
        exact ⟨o, us, fl, tf, fg, tg, iF, tx, tt, hidT_get e1 (away e1 (fun vs n q => by rw [e3] at q; cases q) fun q => by rw [e3] at q; cases q; simp at e4), e2, e3, e4, e5⟩
      · obtain ⟨bm, ob, b1, b2, b3, b4, b5, b6⟩ := hbm (fun e => by rw [e] at hz; cases hz)
        refine ⟨bm, ob, b1, b2, fun q => ?_, fun q => ?_, hidT_get b3 (away b3 (fun vs n q => by rw [b6] at q; cases q) fun q => by rw [b6] at q; cases q), b4, b5, b6⟩
        · obtain ⟨o, es, ep, e, hd, _⟩ := hns
          rw [q, e] at b3
          cases b3
          rw [hd] at b6
          cases b6
        · rw [q, tb z hz] at b3
          cases b3
          cases b6
      · obtain ⟨o, es, ep, q, hd, _⟩ := hns
        rw [e, tb z hz] at q
        cases q
        cases hd
    have hsp : spOf K 1 G [.ref a] H (fun v _ => v = .bl true) fun _ _ _ => False := by
      refine ⟨[.fix (ns.map .int)], mu0 L.tb, HA, PS, rfl, .cons (.fix hS (ints_all ns)) .nil, ⟨sub, by simp [PS, mu0], sy.nd, fun n q c h1 h2 => ?_, fun n c h => ?_, fun q h => by rw [hT q h]; simp, fun q ps e => ?_⟩, ?_⟩
      · have h2' : (L.tb.map Cell.tab)[n]? = some c := h2
        have h1' : (L.tb.map (tabP K))[n]? = some q := h1
        rw [List.getElem?_map] at h1' h2'
        cases z : L.tb[n]? with
        | none => rw [z] at h1'; cases h1'
        | some y =>
          rw [z] at h1' h2'
          cases h1'
          cases h2'
          have hm : tabP K y ∈ PS := List.mem_map.mpr ⟨y, List.mem_of_getElem? z, rfl⟩
          exact ⟨⟨nA _ hm, rfl⟩, #[], hT _ hm, True.intro, fun pos cv hc => by
            have hc' : codeAmong pos [] = some cv := hc
            simp [codeAmong] at hc'⟩
      · have h' : (L.tb.map Cell.tab)[n]? = some c := h
        rw [List.getElem?_map] at h'
        cases z : L.tb[n]? with
        | none => rw [z] at h'; cases h'
        | some y => rw [z] at h'; cases h'; rfl
      · obtain ⟨_, o, xs, e'⟩ := hone q _ e
        cases e'
      · rw [hG]
        intro v H' F' al' _ _ r
        cases r
        rfl
    refine codeAny_mono ((hF _ kb (ns' hns) TB).run callerA [] s1 H ⟨[.ref a], []⟩ [.ref a] [.ref a] _ _ hr rfl e0 (hbd s1 (.ref a)) (.cons rfl .nil) hsp) fun r s' h => ?_
    rcases r with e | (_ | _ | _ | u)
    · exact (noCX h).elim
    · exact h.elim
    · exact h.elim
    · exact h.elim
    · obtain ⟨v, H', os, bare, un, hok', r', q⟩ := h
      have q' : v = .bl true := q
      subst q'
      obtain rfl : u = Value.bool true := r'
      have key : ∀ b o, b ∉ PS → s1.heap.get? b = some o → s'.heap.get? b = some o := fun b o nb e => by
        cases z : H b with
        | none => exact un.keep b o e z (by intro y; cases y) (by simp)
        | some u =>
          rcases cases_ z with ⟨h1, _⟩ | ⟨_, ob, xs, rfl⟩
          · exact absurd h1 nb
          · have z2 := un.frzs b ob _ z
            obtain ⟨e1, _⟩ := hokH b _ z
            obtain ⟨e2, _⟩ := hok' b _ z2
            rw [e] at e1
            cases e1
            exact e2
      have grown : ∀ b ∈ PS, ∃ more : Array Value, s'.heap.get? b = some (PySem.W.tabObj more) := fun b hb => by
        obtain ⟨more, z⟩ := un.tbls b #[] (hT b hb)
        exact ⟨_, hok' b _ z⟩
      refine ⟨rfl, ⟨fun b o e => ?_, fun b o e => ?_⟩, os, bare⟩
      · by_cases hb : b ∈ PS
        · obtain ⟨z, hz, ez⟩ := List.mem_map.mp hb
          obtain ⟨more, hm⟩ := grown b hb
          subst ez
          rw [tb z hz] at e
          cases e
          exact .inr (.inl ⟨((hdC z hz).tab (tb z hz)).isCodeTable, rfl, #[], more, rfl, by rw [Array.empty_append]; exact hm⟩)
        · exact .inl (key b o hb e)
      · by_cases hb : b ∈ PS
        · obtain ⟨more, hm⟩ := grown b hb
          exact ⟨_, hm⟩
        · exact ⟨o, key b o hb e⟩
  cases hk : K.lookup a with
  | some o =>
    have e := KX a o hk
    rw [ha] at e
    cases e
    exact core (fun _ => none) (fun q u z => by cases z) (.inr ⟨_, vs.toArray, _, hk, rfl, rfl, rfl, by rw [List.size_toArray, lenV]; exact hl, by simpa using rv⟩) (fun q u z => by cases z) fun z => absurd rfl z
  | none =>
    refine core (fun q => if q = a then some (.frz { cls := .type "list", data := .seq vs.toArray } (.lst (ns.map V.int))) else none) (fun q u z => ?_) (.inl (.inr ⟨{ cls := .type "list", data := .seq vs.toArray }, if_pos rfl⟩)) (fun q u z => ?_) fun _ => hk
    · by_cases hq : q = a
      · have z' := (if_pos hq).symm.trans z
        cases z'
        exact ⟨hq, _, _, rfl⟩
      · have z' := (if_neg hq).symm.trans z
        cases z'
    · by_cases hq : q = a
      · have z' := (if_pos hq).symm.trans z
        cases z'
        subst hq
        exact ⟨ha, by rw [List.length_map]; exact hl, vs, _, rv, ha⟩
      · have z' := (if_neg hq).symm.trans z
        cases z'
theorem walkT {l : PySem.W.OpenLaw} {n k : Nat} {q : Program} {loose : List Str} {XP : (Str → Option Value) → Heap → Prop} {L : Tl} {N : Nat} {d : DefRec} {x : Str} {G : Fn}
    (hn : l.most = some n) (hn2 : n ≤ sizeLine) (hdf : d.params.defaults = []) (hd : d.name = ("law" : Str)) (hr : Room k callerA) (hfl : ((l.prog.main.file : Str) == L.file) = true) (hsup : (l.prog.main.scope.names.lookup ("super" : Str)).isSome = false)
    {pa : Arguments} {bd : List Stmt} {sc : Scope} (hfun : ∀ K : PySem.W.Frag, SaysM L K → ∃ fd : FuncData, FunD K "law" "law" pa bd sc [] [] (He.ga K "law") fd)
    (hF : ∀ (b : Base), b.P = l.prog → Tx L b → ∀ fd : FuncData, FunD b.K "law" "law" pa bd sc [] [] (He.ga b.K "law") fd → (∀ (s : Shared) (u : Value), BindsTo s fd ⟨[u], []⟩ [(x, u)]) ∧ FnG b k (He.ga b.K "law") fd [x] G)
    (hfd : ∃ f : Nat, L.fa[f]? = some (.glo "law"))
    (hG : ∀ ns : List Int, ns.length ≤ n → ∃ m', G [.fix (ns.map .int)] (mu0 L.tb) = .ok (.bl true) m') :
    PySem.W.WalkO q loose XP (hookM N L).says l.row.toRowW d [] (fun f vs => PySem.call f vs) := by
  refine Att.attach_call hn hdf fun w s0 s1 mg mb f o pm cd doc a vs ns Gr Y ho hd' hcd hmg hobj hints hlen hg => ?_
  obtain ⟨K, KX, c, tb⟩ := Y
  obtain ⟨i, hi⟩ := hfd
  rw [hd] at hmg
  have e := hmg.symm.trans (He.glo_ok KX Gr.T.g (c.c.fact i hi))
  cases e
  have T : ∀ base : Heap, K.In base → base.Ns mainGlobals mg → (∀ z ∈ L.tb, LamX.TabB base mg (tabC K z) (tabP K z)) → Tx L ⟨l.prog, w, K, mg, base⟩ := fun base h1 h2 h3 => ⟨c, ⟨base, h1, h2⟩, h3, hfl, hsup⟩
  obtain ⟨fd, hfd'⟩ := hfun K c
  refine enterT (fd := fd) (x := x) KX c tb Gr.T.g Gr.T.b Gr.T.builtins Gr.T.nolimit hg (fun _ => Gr.T.bmain) hobj hints (Nat.le_trans hlen hn2) hr (fun base h1 h2 h3 => (hF ⟨l.prog, w, K, mg, base⟩ rfl (T base h1 h2 h3) fd hfd').2) ?_ (hG ns hlen)
  intro s u
  obtain ⟨oc, od, dV, kV, doc, pm, an, cdv, ct, osl, rfl, lk, hcd, _, _⟩ := hfd'.ex
  have TB : ∀ z ∈ L.tb, LamX.TabB s1.heap mg (tabC K z) (tabP K z) := fun z hz => by
    obtain ⟨_, h2⟩ := He.ba (c.tb z hz)
    obtain ⟨h3, _⟩ := He.ba h2
    refine ⟨PySem.W.codeHd_of_K KX h3, ?_, fun e => ?_⟩
    · obtain ⟨bm, ob, b1, b2, b3, b4, b5, b6⟩ := Gr.T.bmain
      refine ⟨bm, ob, b1, b2, fun q => ?_, fun q => ?_, b3, b4, b5, b6⟩
      · obtain ⟨o, es, ep, e, hd, _⟩ := Gr.T.g
        rw [q, e] at b3
        cases b3
        rw [hd] at b6
        cases b6
      · rw [q, tb z hz] at b3
        cases b3
        cases b6
    · obtain ⟨o, es, ep, q, hd, _⟩ := Gr.T.g
      rw [e, tb z hz] at q
      cases q
      cases hd
  exact (hF ⟨l.prog, w, K, mg, s1.heap⟩ rfl (T s1.heap KX Gr.T.g TB) _ hfd').1 s u
end DS

/-! # XH: pop at an index, repr and truth of own objects, keywords of methods -/
namespace DS
open PySem PySem.Spec PyProof.Rows L2
variable {c : SC} {W : WX} {pos : Pos} {a b e : Expr} {fa fb : XE'} {fr : XA}
/-! ### l.pop(i) -/
theorem RpL.eraseIdx {K : PySem.W.Frag} {F : Hp} {al : List Addr} : ∀ {ds : List D} {vs : List V} (k : Nat), RpL K F al ds vs → RpL K F al (ds.eraseIdx k) (vs.eraseIdx k)
  | _, _, _, .nil => .nil
  | _, _, 0, .cons r q => q
  | _, _, k + 1, .cons r q => .cons r (RpL.eraseIdx k q)
def popIF (ds : List D) (m : Mu) : Out D := match ds with
  | [.loc n, .int i] => (match m[n]? with
    | some (.lst xs) => if -(2 ^ 63) ≤ i ∧ i < 2 ^ 63 then (match seqIndex? i xs.length with
      | some k => (match xs[k]? with
        | some d => .ok d (m.set n (.lst (xs.eraseIdx k)))
        | none => .stuck)
      | none => .stuck) else .stuck
    | _ => .stuck)
  | _ => .stuck
/-! ### repr(o) by the class's own __repr__ -/
/-! ### truth of an own object -/
def truB (cn : Str) (K : PySem.W.Frag) : Bool := He.eqO (PySem.W.findIn K (.ref (He.ga K cn)) "__bool__") (some none) && He.eqO (PySem.W.findIn K (.ref (He.ga K cn)) "__len__") (some none)
def boolO (cn : Str) (ds : List D) (m : Mu) : Out D := match ds with
  | [d] => (match insOf m d with
    | some (c', _) => if c' = cn then .ok (.bl true) m else .stuck
    | none => .stuck)
  | _ => .stuck
/-- an own object as a test -/
def xTruO (cn : Str) (f : XE') : XT := fun r m => (f r m).bind fun d m1 => match insOf m1 d with
  | some (c', _) => if c' = cn then .ok true m1 else .stuck
  | none => .stuck
/-! ### o.m(k = v, ..), C(k = v, ..) -/
variable {o : Expr} {fo : XE'} {x : Str} {p0 apos : Pos} {k : Nat} {f : Addr} {fd : FuncData} {ps : List Str} {G : Fn}
def xMethK (cn m : Str) (G : Fn) (sh : List D → List D) (o : XE') (a : XA) : XE' := fun r mu => (o r mu).bind fun d m1 => match insOf m1 d with
  | some (c', gs) => if c' = cn ∧ gs.lookup m = none then (a r m1).bind fun zs m2 => G (d :: sh zs) m2 else .stuck
  | none => .stuck
def xMakeN (cn : Str) (G : Fn) (frz : Bool) (sh : List D → List D) (b : XA) : XE' := fun r m => (b r m).bind fun zs m2 => makeD cn G frz (sh zs) m2
/-! ### a == b by the class's own __eq__ -/
def eqO (cn : Str) (G : Fn) (d e : D) (m : Mu) : Out D := match insOf m d, insOf m e with
  | some (c1, _), some (c2, _) => if c1 = cn ∧ c2 = cn then (match G [d, e] m with
    | .ok (.bl k) m' => .ok (.bl k) m'
    | _ => .stuck) else .stuck
  | _, _ => .stuck
/-! ### a + b of lists, as a new list that will change -/
def addN (d e : D) (m : Mu) : Out D := match ownOf m d, ownOf m e with
  | some xs, some ys => if xs.length + ys.length ≤ sizeLine ∧ D.inL m.length (xs ++ ys) = true then .ok (.loc m.length) (m ++ [.lst (xs ++ ys)]) else .stuck
  | _, _ => .stuck
theorem op_addN : OpD c (binaryOp .Add) addN := by
  refine ⟨rCat, fun W y hy => op_cat, fun W d e m x y H F al Q hw r1 r2 p => ?_⟩
  unfold addN at p
  split at p
  · rename_i xs ys h1 h2
    obtain ⟨a, vs, rfl, ha, qa⟩ := ownOf_ok hw r1 h1
    obtain ⟨b, ws, rfl, hb, qb⟩ := ownOf_ok hw r2 h2
    split at p
    · rename_i hl
      exact ⟨a, b, vs, ws, rfl, rfl, ha, hb, by rw [← qa.len, ← qb.len]; exact hl.1, fun n hn => p _ _ F (al ++ [n]) Le.snoc (hw.newCell hn ⟨hw.fnone hn, _, upd_same, (qa.append qb).up Le.snoc⟩ hl.2) (.loc (by rw [← hw.len, List.getElem?_append_right (Nat.le_refl _), Nat.sub_self]; rfl))⟩
    · exact p.elim
  · exact p.elim
end DS

/-! # XI: list.index, list.count (flat items), tuple.index, order of texts -/
namespace DS
open PySem PySem.Spec PyProof.Rows L2
section
variable {c : SC} {W : WX} {pos apos : Pos}
/-! ### list.index -/
def lixF (ds : List D) (m : Mu) : Out D := match ds with
  | [l, y] => (match lstOf m l with
    | some xs => if flatD y && xs.all flatD then (match xs.findIdx? (fun z => eqF z y) with
      | some j => .ok (.int (j : Nat)) m
      | none => .stuck) else .stuck
    | none => .stuck)
  | _ => .stuck
/-! ### list.count -/
def rCntF (K : PySem.W.Frag) : V → List V → Hp → VK → Prop := fun x xs H Q => ∃ (p : Addr) (ys : List V) (y : V), x = .ref p ∧ xs = [y] ∧ SqL K H p ys ∧ flatV y = true ∧ ys.all flatV = true ∧ Q (.int (ys.countP (fun z => eqV z y) : Nat)) H
def lcntF (ds : List D) (m : Mu) : Out D := match ds with
  | [l, y] => (match lstOf m l with
    | some xs => if flatD y && xs.all flatD then .ok (.int (xs.countP (fun z => eqF z y) : Nat)) m else .stuck
    | none => .stuck)
  | _ => .stuck
/-! ### order of texts -/
def cmpS (g : List Nat → List Nat → Bool) (d e : D) (m : Mu) : Out D := match d, e with
  | .str a, .str b => .ok (.bl (g a.cps.toList b.cps.toList)) m
  | _, _ => .stuck
def ltS : D → D → Mu → Out D := cmpS fun i j => decide (i < j)
def leS : D → D → Mu → Out D := cmpS fun i j => !decide (j < i)
def gtS : D → D → Mu → Out D := cmpS fun i j => decide (j < i)
def geS : D → D → Mu → Out D := cmpS fun i j => !decide (i < j)
end
end DS

/-! # XJ: a def that calls its argument in a try, as one fact -/
namespace DS
open PySem PySem.Spec PyProof.Rows L2
def Catch (b : Base) (x a : Str) (g : Addr) (Ng : List Str) (kg : Nat) (T : ExT) (j : Option Nat) (l : List HdF) (frs : XS) : Prop :=
  ∃ (fdg : FuncData) (pg : Arguments) (sg : Scope) (h1 : ExceptHandler) (hs : List ExceptHandler) (rs : List Stmt) (st0 : Stmt) (p1 p2 tp : Pos), FunD b.K x x pg (.Try [st0] (h1 :: hs) [] [] tp :: rs) sg [] [] g fdg ∧ Binds b.K fdg [a] [] ∧ FnScope Ng [a] sg ∧
    Cal Ng sg (.Call (.Name a p1) [] [] p2) st0 j ∧ DHs (b.at Ng sg kg true) T (h1 :: hs) l ∧ DSs (b.at Ng sg kg true) (wOf fun _ _ _ => False) rs frs ∧ Vis sg a ∧ Ng[0]? = some a
section
variable {c : SC} {W : WX} {T : ExT} {pos : Pos}
end
end DS

/-! # XK: int(a truth value) -/
namespace DS
open PySem PySem.Spec PyProof.Rows L2
section
variable {c : SC} {W : WX} {pos : Pos}
def intB (ds : List D) (m : Mu) : Out D := match ds with
  | [.bl b] => .ok (.int (if b = true then 1 else 0)) m
  | _ => .stuck
end
end DS

/-! # XL: defs without arguments; dicts that are filled; x in d, x in a list of all kinds -/
namespace DS
open PySem PySem.Spec PyProof.Rows L2
section
variable {c : SC} {W : WX} {pos pos' p0 : Pos} {x : Str} {k : Nat} {f : Addr} {fd : FuncData} {ps : List Str} {G : Fn}
def xCall0 (G : Fn) : XE' := fun _ m => G [] m
/-! ### a dict, new: it will be filled; it stays as it is -/
def xNewD : XE' := fun _ m => .ok (.loc m.length) (m ++ [.dct []])
def dctOf (m : Mu) : D → Option (List (Str × D))
  | .dct gs => some gs
  | .loc n => match m[n]? with
    | some (.dct gs) => some gs
    | _ => none
  | _ => none
/-- x in d -/
def inDD (d e : D) (m : Mu) : Out D := match d with
  | .str f => (match dctOf m e with
    | some gs => .ok (.bl (gs.lookup f).isSome) m
    | none => .stuck)
  | _ => .stuck
/-! d[x] -/
variable {a b e : Expr} {fa fb fe : XE'}
def dgetL (d e : D) (m : Mu) : Out D := match e with
  | .str f => (match dctOf m d with
    | some gs => (match gs.lookup f with
      | some v => .ok v m
      | none => .stuck)
    | none => .stuck)
  | _ => .stuck
/-- d[x] = v, x new -/
def putX (o k d : D) (m : Mu) : Out Unit := match o with
  | .loc n => dputD n k d m
  | _ => .stuck
def sDP (o k v : XE') : XS := fun r m => (v r m).stm r fun d m1 => (o r m1).stm r fun od m2 => (k r m2).stm r fun kd m3 => (putX od kd d m3).stm r fun _ m4 => .next r m4
/-- x in a list of all kinds of data -/
def inX (d e : D) (m : Mu) : Out D := match toP (dere m d), toP (dere m e) with
  | some p, some (.list qs) => if SeqAt.shaped p && SeqAt.shaped (.list qs) then .ok (.bl (qs.any fun z => PyData.eqv z p)) m else .stuck
  | _, _ => .stuck
end
end DS

/-! # XM: len(set(a list of truth values)) -/
namespace DS
open PySem PySem.Spec PyProof.Rows L2 PpSet
section
variable {P : Program} {w : World} {A : Around} {E : Value → Shared → Prop} {s : Shared}
abbrev fset (w : World) : Obj := { cls := .type "set", dict := none, data := .set #[] 0 (.fresh 0 0 (!w.params.followText "set-order")) }
end
end DS

/-! # XN: len(set(a list of truth values)), the rule -/
namespace DS
open PySem PySem.Spec PyProof.Rows L2 PpSet
section
variable {c : SC} {W : WX} {pos p0 p1 pos1 : Pos} {e : Expr} {fe : XE'}
def lenSet (d : D) (m : Mu) : Out D := match lstOf m d with
  | some xs => (match bsL xs with
    | some bs => if bs.length ≤ 1000 then .ok (.int (((if true ∈ bs then 1 else 0) + (if false ∈ bs then 1 else 0) : Nat) : Int)) m else .stuck
    | none => .stuck)
  | none => .stuck
def xLenSet (f : XE') : XE' := fun r m => (f r m).bind lenSet
end
end DS

/-! # XO: frames of the new rules -/
namespace DS
open PySem PySem.Spec PyProof.Rows L2
end DS

/-! # XP: dicts of one entry; tuples of names, their index; class methods; cls(..) -/
namespace DS
open PySem PySem.Spec PyProof.Rows L2
section
variable {c : SC} {W : WX} {pos apos p0 p1 : Pos} {a b e o : Expr} {es : List Expr} {fa fb fe fo : XE'} {fr : XA} {x : Str} {k : Nat} {f : Addr} {fd : FuncData} {ps : List Str} {G : Fn}
/-! ### {"k": e}, {0: e} -/
def dct1E (key : Str) (n : Nat) (d : D) (m2 : Mu) : Out D := if d.inB n = true then (match m2[n]? with
  | some (.dct []) => .ok (.dct [(key, d)]) (m2.take n)
  | _ => .stuck) else .stuck
def xDct1 (key : Str) (f : XE') : XE' := fun r m => (f r (m ++ [.dct []])).ne.bind (dct1E key m.length)
def odc1E (n : Nat) (d : D) (m2 : Mu) : Out D := match m2[n]? with
  | some (.dct []) => .ok .odc (m2.take n)
  | _ => .stuck
def xOdc1 (f : XE') : XE' := fun r m => (f r (m ++ [.dct []])).ne.bind (odc1E m.length)
/-! ### tuples of names -/
def wkD : D → D
  | .nst xs => .tup (xs.map .str)
  | d => d
def xWk (f : XE') : XE' := fun r m => (f r m).bind fun d m1 => .ok (wkD d) m1
def tupNF (ds : List D) (m : Mu) : Out D := match ds with
  | [d] => (match lstOf m d with
    | some xs => (match strsL xs with
      | some ys => .ok (.nst ys) m
      | none => .stuck)
    | none => .stuck)
  | _ => .stuck
def nsixD (d e : D) (m : Mu) : Out D := match d, e with
  | .nst xs, .str y => if y ∈ xs then .ok (.int (xs.idxOf y : Nat)) m else .stuck
  | _, _ => .stuck
def xNsix (fo fe : XE') : XE' := fun r m => (fo r m).bind fun d m1 => match d with
  | .nst xs => (fe r m1).bind fun e m2 => nsixD (.nst xs) e m2
  | _ => .stuck
/-! ### C.m(e, ..), m a classmethod -/
section
variable {X : Cx} {CX : CXT} {k : Nat} {f C p : Addr} {mc : Value} {fd : FuncData} {ps : List Str} {sp : Sp} {E : L2.St → XK} {m : Str} {pins : List (Addr × Obj)} {σ : L2.St} {H : Hp} {s : Shared} {Q : VK} {us ws : List Value} {vs zs : List V}
end
def xCMeth (cn : Str) (G : Fn) (o : XE') (a : XA) : XE' := fun r mu => (o r mu).bind fun d m1 => match d with
  | .glo y => if y = cn then (a r m1).bind fun ds m2 => G (.glo y :: ds) m2 else .stuck
  | _ => .stuck
def xCMethK (cn : Str) (G : Fn) (sh : List D → List D) (o : XE') (a : XA) : XE' := fun r mu => (o r mu).bind fun d m1 => match d with
  | .glo y => if y = cn then (a r m1).bind fun zs m2 => G (.glo y :: sh zs) m2 else .stuck
  | _ => .stuck
/-! ### x(e, ..), x a name that holds an own class -/
def xMakeL (i : Nat) (cn : Str) (G : Fn) (frz : Bool) (a : XA) : XE' := fun r m => match r[i]? with
  | some (some (.glo y)) => if y = cn then (a r m).bind (makeD cn G frz) else .stuck
  | _ => .stuck
end
/-! ### defs that call themselves: no fuel, no promise -/
end DS

/-! # XQ: own == anything, own != anything, by the class's own __eq__ -/
namespace DS
open PySem PySem.Spec PyProof.Rows L2
section
variable {M : Model} {prog : Program} {w : World} {A : Around} {E : Value → Shared → Prop} {s : Shared} {K : PySem.W.Frag} {x C f : Addr} {ox : Obj} {od : Option Obj} {b : Value}
end
section
variable {X : Cx} {pins : List (Addr × Obj)} {σ : L2.St} {H : Hp} {s : Shared}
end
section
variable {c : SC} {k : Nat} {f : Addr} {fd : FuncData} {ps : List Str} {G : Fn}
/-- no type of the kinds that data has comes first; != is the usual one -/
def cmpB (cn : Str) (cs : List Str) (K : PySem.W.Frag) : Bool := (tyNames.all fun n => PySem.W.notFirst K (He.ga K cn) (.type n)) && (cs.all (fun c' => PySem.W.notFirst K (He.ga K cn) (.ref (He.ga K c'))) &&
  (He.eqO (PySem.W.findIn K (.ref (He.ga K cn)) "__ne__") (some (some (.builtin "object.__ne__"))) && decide (PySem.W.mroIn K (He.ga K cn) (.type "object") = some true)))
def kindB (cs : List Str) : String ⊕ Str → Bool
  | .inl n => decide (n ∈ tyNames)
  | .inr c' => decide (c' ∈ cs)
def cmpF (neg : Bool) (cn : Str) (cs : List Str) (G : Fn) (d e : D) (m : Mu) : Out D := match insOf m d, tyOf m e with
  | some (c1, _), some t => if c1 = cn ∧ kindB cs t = true then (match G [d, e] m with
    | .ok (.bl k) m' => .ok (.bl (if neg then !k else k)) m'
    | _ => .stuck) else .stuck
  | _, _ => .stuck
end
end DS

/-! # XR: a tuple repeated, upper, o.f += e -/
namespace DS
open PySem PySem.Spec PyProof.Rows L2
section
variable {c : SC} {W : WX} {pos apos p0 p1 : Pos} {a b e o : Expr} {fa fb fe fo : XE'}
def mulT (d e : D) (m : Mu) : Out D := match d, e with
  | .tup xs, .int k => if xs ≠ [] ∧ 2 ≤ k ∧ k ≤ 1000 ∧ xs.length ≤ 1000 then .ok (.tup (List.replicate k.toNat xs).flatten) m else .stuck
  | _, _ => .stuck
def upF (ds : List D) (m : Mu) : Out D := match ds with
  | [.str z] => if z.length ≤ 5592405 then .ok (.str (Txt.upper z)) m else .stuck
  | _ => .stuck
/-! o.f += e -/
def flaI (cn f : Str) (od : D) (v y : D) (m : Mu) : Out Unit := match v, y with
  | .int i, .int j => putC cn f od (.int (i + j)) m
  | _, _ => .stuck
def sFlA (cn f : Str) (o v : XE') : XS := fun r m => (o r m).stm r fun od m1 => (fldD cn f od m1).stm r fun x m1 => (v r m1).stm r fun y m2 => (flaI cn f od x y m2).stm r fun _ m3 => .next r m3
end
end DS

/-! # XS: a function that is one thing on some data, another on other data -/
namespace DS
open PySem PySem.Spec PyProof.Rows L2
def orF (F G : Fn) : Fn := fun ds m => match F ds m with
  | .stuck => G ds m
  | o => o
/-- str of a text -/
def strS (ds : List D) (m : Mu) : Out D := match ds with
  | [.str z] => .ok (.str z) m
  | _ => .stuck
end DS

/-! # XT: for over a list of the def's own (read anew at each turn) -/
namespace DS
open PySem PySem.Spec PyProof.Rows L2
def loopO (n : Nat) (g : XG) (body : XS) : Nat → Nat → Rho → Mu → SO
  | 0, _, _, _ => .stuck
  | k + 1, i, r, m => match m[n]? with
    | some (.lst xs) => (match xs[i]? with
      | none => .next r m
      | some x => (g x r m).stm r fun r1 m1 => match body r1 m1 with
        | .next r2 m2 => loopO n g body k (i + 1) r2 m2
        | .cont r2 m2 => loopO n g body k (i + 1) r2 m2
        | .brk r2 m2 => .next r2 m2
        | o => o)
    | _ => .stuck
def forO (g : XG) (body : XS) (r : Rho) (d : D) (m : Mu) : SO := match d with
  | .loc n => (match m[n]? with
    | some (.lst xs) => loopO n g body (xs.length + 1) 0 r m
    | _ => .stuck)
  | _ => .stuck
def sForO (f : XE') (g : XG) (body : XS) : XS := fun r m => (f r m).stm r fun d m1 => forO g body r d m1
section
variable {c : SC} {W : WX} {sts : List Stmt} {g : XS} {pos : Pos} {e : Expr} {fe : XE'}
end
end DS

/-! # XU: raise C() of a class without own __init__ -/
namespace DS
open PySem PySem.Spec PyProof.Rows L2
def x0B (cn : Str) (B : String) (K : PySem.W.Frag) : Bool := PySem.W.excIn K (He.ga K cn) (exTl B) (B ++ ".__new__") && (PySem.W.keepIn K (.ref (He.ga K cn)) && (decide (PySem.W.subIn K (.ref (He.ga K cn)) (.type "BaseException") = some true) && decide (PySem.W.typeIn K (.ref (He.ga K cn)) = some (.type "type"))))
theorem mkX0_of {b : Base} {cn : Str} {B : String} (hB : BaseOk B) (h : x0B cn B b.K = true) : MkX0 b cn := by
  obtain ⟨h1, h⟩ := He.ba h
  obtain ⟨h2, h⟩ := He.ba h
  obtain ⟨h3, h4⟩ := He.ba h
  refine ⟨h2, of_decide_eq_true h3, of_decide_eq_true h4, fun A E s Q kI q => ?_⟩
  obtain ⟨hp, g, d, t, os⟩ := s
  obtain ⟨bm, N, nm, qn, bs, hdct, sn, sub, ab, col, dd, k0, k1, k2, k3, k5, mN, hC, hN, hni, T⟩ := exc_obj kI h1
  exact wpAny_call_exc_subT hB.fb T hC hN hni (fun h' e hm => q h' e hm) (by show 0 ≤ sizeLine; exact Nat.zero_le _)
end DS

/-! # XV: data == own object (the right side's own __eq__ answers) -/
namespace DS
open PySem PySem.Spec PyProof.Rows L2
open PySem.SeqAt
section
variable {prog : Program} {w : World} {A : Around} {E : Value → Shared → Prop} {s : Shared} {K : PySem.W.Frag} {x C : Addr} {ox : Obj} {od : Option Obj}
end
def refTy : List String := ["NoneType", "bool", "int", "str", "list", "tuple", "dict"]
/-- the class is below none of the kinds of data -/
def refB (cn : Str) (K : PySem.W.Frag) : Bool := refTy.all fun n => decide (PySem.W.subIn K (.ref (He.ga K cn)) (.type n) = some false)
section
variable {X : Cx} {pins : List (Addr × Obj)} {σ : L2.St} {H : Hp} {s : Shared} {A : Around} {E : Value → Shared → Prop}
end
section
variable {c : SC} {k : Nat} {f : Addr} {fd : FuncData} {ps : List Str} {G : Fn}
def eqR (cn : Str) (G : Fn) (d e : D) (m : Mu) : Out D := match tyOf m d, insOf m e with
  | some (.inl n), some (c1, _) => if c1 = cn ∧ n ∈ refTy then (match G [e, d] m with
    | .ok (.bl k) m' => .ok (.bl k) m'
    | _ => .stuck) else .stuck
  | _, _ => .stuck
end
end DS

/-! # XW: t[::-1] of a tuple -/
namespace DS
open PySem PySem.Spec PyProof.Rows L2
section
variable {prog : Program} {w : World} {A : Around} {E : Value → Shared → Prop} {s : Shared}
end
section
variable {X : Cx}
def tRevT (K : PySem.W.Frag) (te : TE) : TE := fun σ H Q => te σ H fun x H1 => ∃ a xs, x = .ref a ∧ SqT K H1 a xs ∧ ∀ p, H1 p = none → Q (.ref p) (upd H1 p (.tup xs.reverse))
end
section
variable {c : SC} {W : WX} {pos : Pos} {a : Expr} {fa : XE'}
def revDT (d : D) (m : Mu) : Out D := match d with
  | .tup xs => .ok (.tup xs.reverse) m
  | _ => .stuck
def xRevT (f : XE') : XE' := fun r m => (f r m).bind revDT
end
end DS

/-! # XY: repr(o) by the class's own __repr__ while an exception is handled -/
namespace DS
open PySem PySem.Spec PyProof.Rows L2
theorem RoomH.in1 {k : Nat} {A : Around} (r : L2H.RoomH (k + 1) A) : L2H.RoomH k A.in1 := ⟨by have := r.dp; show A.depth + 3 * k + 5 < _; omega, by have := r.un; show A.units + 1 + 16 * k + 200 < _; omega⟩
section
variable {c : SC}
end
end DS

/-! # XZ: some arguments by place, the others by name, no defaults -/
namespace DS
open PySem PySem.Spec PyProof.Rows L2
end DS

/-! # YA: a list of own lists [h, [..]]: the last one is open (`Cell.opn`), the others stand still -/
namespace DS
open PySem PySem.Spec PyProof.Rows L2
def notO : Cell → Bool
  | .opn _ _ _ => false
  | _ => true
/-- no other cell is open -/
def onlyO (n : Nat) (m : Mu) : Bool := (m.set n .dead).all notO
section
variable {K : PySem.W.Frag} {F H : Hp} {al : List Addr} {m : Mu} {n : Nat} {a : Addr}
def pairD (h : D) (ls : List D) : D := .lst [h, .lst ls]
end
section
variable {c : SC} {W : WX} {pos p0 p1 p2 p3 p4 p5 p6 p7 apos : Pos} {e : Expr} {fe : XE'} {x y : Str}
/-! ### found.append([e, []]) -/
def isList (m : Mu) (n : Nat) : Bool := match m[n]? with
  | some (.lst _) => true
  | some (.opn _ _ _) => true
  | _ => false
def closeM (n : Nat) (m : Mu) : Out (List D) := match m[n]? with
  | some (.lst xs) => .ok xs m
  | some (.opn xs h ls) => if onlyO n m then .ok (xs ++ [pairD h ls]) (m.set n (.lst (xs ++ [pairD h ls]))) else .stuck
  | _ => .stuck
def appH (n : Nat) (h : D) (m : Mu) : Out D := (closeM n m).bind fun xs m1 => if h.inB n ∧ xs.length < 100000 then .ok .non (m1.set n (.opn xs h [])) else .stuck
def xAppH (i : Nat) (f : XE') : XE' := fun r m => match r[i]? with
  | some (some (.loc n)) => if isList m n then (f r m).bind fun h m1 => appH n h m1 else .stuck
  | _ => .stuck
/-! ### found[-1][1].append(y) -/
def appL (n : Nat) (d : D) (m : Mu) : Out D := match m[n]? with
  | some (.opn xs h ls) => if d.inB n ∧ ls.length < 100000 ∧ onlyO n m = true then .ok .non (m.set n (.opn xs h (ls ++ [d]))) else .stuck
  | _ => .stuck
def xAppL (i j : Nat) : XE' := fun r m => match r[i]?, r[j]? with
  | some (some (.loc n)), some (some d) => appL n d m
  | _, _ => .stuck
/-! ### found == [] -/
def eqO0 (d e : D) (m : Mu) : Out D := match d, e with
  | .loc n, .lst [] => (match m[n]? with
    | some (.opn _ _ _) => .ok (.bl false) m
    | _ => .stuck)
  | _, _ => .stuck
def orO (F G : D → D → Mu → Out D) (d e : D) (m : Mu) : Out D := match F d e m with
  | .stuck => G d e m
  | o => o
/-! ### the name, as what stands still from now on -/
def frzV (n : Nat) (m : Mu) : Out D := (closeM n m).bind fun xs m1 => .ok (.lst xs) (m1.set n .dead)
def xFrzV (i : Nat) : XE' := fun r m => match r[i]? with
  | some (some (.loc n)) => frzV n m
  | _ => .stuck
end
end DS

/-! # YB: the head's run in three parts (less memory) -/
namespace DS
open PySem PySem.W PySem.Calls HandSHeadRun L2
def kAsR (g : Addr → Option Obj) (n : Nat) : List Addr := ((List.range n).reverse).filter fun a => noTab (g a)
def obsMR (n : Nat) (L : Tl) (g : Addr → Option Obj) : AlM := obsM L (He.frG g (kAsR g n)) g
def hookR (n : Nat) (L : Tl) : PySem.W.Hook where
  α := AlM
  obs := fun s => obsMR n L s.heap.get?
  val := fun _ => valM L
  says := fun _ h => ∃ K : PySem.W.Frag, K.In h ∧ SaysM L K ∧ ∀ x ∈ L.tb, h.get? (tabP K x) = some (PySem.W.tabObj #[])
  of := fun _ _ e => ⟨_, He.frG_in, saysM_of e⟩
  keeps := fun _ _ _ ⟨K, hK, c, t⟩ k => ⟨K, PySem.W.Frag.In.keeps hK k, c, fun x hx => k _ _ (t x hx)⟩
theorem obsMR_eq {n : Nat} {L : Tl} {g : Addr → Option Obj} {s : Shared} (h : ∀ a, g a = s.heap.get? a) : obsMR n L g = (hookR n L).obs s := by
  have e : g = s.heap.get? := funext h
  rw [e] <;> rfl
def RunA (r : OpenRow) (q : Program) (M : Nat) (loose : List PySem.Str) (w : World) : Prop := ∀ os : OsState, (endF (stepQ (denQ tabQ) r.prog w) M r.prog w os).map (fun s => (looksF r.prog (boot_heap w.params) s.abs, seenQ q loose (importedModules r.prog.main.body) (fun s => xlAt q [] s && recOk r.toRowW.records s) s.abs)) = some (true, openGood q loose)
def RunB (r : OpenRow) (M : Nat) {β : Type} (ob : SharedT → β) (v : β) (w : World) : Prop := ∀ os : OsState, (endF (stepQ (denQ tabQ) r.prog w) M r.prog w os).map ob = some v
theorem map3 {α β γ δ ε : Type} {o : Option α} {f : α → β} {g : α → γ} {h : α → δ × ε} {b : β} {c : γ} {d : δ × ε} (h1 : o.map (fun s => (f s, g s)) = some (b, c)) (h2 : o.map (fun s => (h s).1) = some d.1) (h3 : o.map (fun s => (h s).2) = some d.2) : o.map (fun s => (f s, g s, h s)) = some (b, c, d) := by
  cases o with
  | none => cases h1
  | some s =>
    injection h1 with h1
    injection h2 with h2
    injection h3 with h3
    injection h1 with h4 h5
    show some (f s, g s, h s) = _
    rw [h4, h5, show h s = d from Prod.ext h2 h3]
theorem says_eq (N : Nat) (L : Tl) : (hookR N L).says = (hookM N L).says := rfl
end DS
namespace DS
open PySem PySem.Spec PyProof.Rows L2
theorem walkR {l : PySem.W.OpenLaw} {n k : Nat} {q : Program} {loose : List Str} {XP : (Str → Option Value) → Heap → Prop} {L : Tl} {N : Nat} {d : DefRec} {x : Str} {G : Fn}
    (hn : l.most = some n) (hn2 : n ≤ sizeLine) (hdf : d.params.defaults = []) (hd : d.name = ("law" : Str)) (hr : Room k callerA) (hfl : ((l.prog.main.file : Str) == L.file) = true) (hsup : (l.prog.main.scope.names.lookup ("super" : Str)).isSome = false)
    {pa : Arguments} {bd : List Stmt} {sc : Scope} (hfun : ∀ K : PySem.W.Frag, SaysM L K → ∃ fd : FuncData, FunD K "law" "law" pa bd sc [] [] (He.ga K "law") fd)
    (hF : ∀ (b : Base), b.P = l.prog → Tx L b → ∀ fd : FuncData, FunD b.K "law" "law" pa bd sc [] [] (He.ga b.K "law") fd → (∀ (s : Shared) (u : Value), BindsTo s fd ⟨[u], []⟩ [(x, u)]) ∧ FnG b k (He.ga b.K "law") fd [x] G)
    (hfd : ∃ f : Nat, L.fa[f]? = some (.glo "law"))
    (hG : ∀ ns : List Int, ns.length ≤ n → ∃ m', G [.fix (ns.map .int)] (mu0 L.tb) = .ok (.bl true) m') :
    PySem.W.WalkO q loose XP (hookR N L).says l.row.toRowW d [] (fun f vs => PySem.call f vs) := by
  rw [says_eq]
  exact walkT hn hn2 hdf hd hr hfl hsup hfun hF hfd hG
end DS

/-! # YC: x not in [.. data of any depth ..] -/
namespace DS
open PySem PySem.Spec PyProof.Rows L2
section
variable {c : SC}
def ninX (d e : D) (m : Mu) : Out D := match toP (dere m d), toP (dere m e) with
  | some p, some (.list qs) => if SeqAt.shaped p && SeqAt.shaped (.list qs) then .ok (.bl (!qs.any fun z => PyData.eqv z p)) m else .stuck
  | _, _ => .stuck
end
end DS

/-! # YD: from here on a list stands still (a change of what stands for it, no statement) -/
namespace DS
open PySem PySem.Spec PyProof.Rows L2
section
variable {c : SC} {W : WX} {st : List Stmt} {g : XS}
def sFrz (i : Nat) (g : XS) : XS := fun r m => match r[i]? with
  | some (some (.loc n)) => (frzV n m).stm r fun d m1 => g (r.set i (some d)) m1
  | _ => .stuck
end
end DS

/-! # YE: tuple(text) -/
namespace DS
open PySem PySem.Spec PyProof.Rows L2
def tupS (ds : List D) (m : Mu) : Out D := match ds with
  | [.str z] => if z.cps.size ≤ 1000 then .ok (.tup (z.cps.toList.map fun c => .str ⟨#[c]⟩)) m else .stuck
  | _ => .stuck
end DS

/-! # YF: text * number -/
namespace DS
open PySem PySem.Spec PyProof.Rows L2
def mulS (d e : D) (m : Mu) : Out D := match d, e with
  | .str z, .int k => if z.length ≤ 100 ∧ 0 ≤ k ∧ k ≤ 100000 then .ok (.str (Txt.mul z k)) m else .stuck
  | _, _ => .stuck
end DS

/-! # YG: text.find(text) -/
namespace DS
open PySem PySem.Spec PyProof.Rows L2
def findF (ds : List D) (m : Mu) : Out D := match ds with
  | [.str z, .str s] => .ok (.int (Txt.find z s)) m
  | _ => .stuck
end DS

/-! # YH: a list comprehension whose list is changed later; tuple * 1 -/
namespace DS
open PySem PySem.Spec PyProof.Rows L2
def lcEndN (n : Nat) (m : Mu) : Out D := match m[n]? with
  | some (.lst _) => .ok (.loc n) m
  | _ => .stuck
def lcDN (g : XG) (tt : XT) (te : XE') (r0 : Rho) (xs : List D) (m : Mu) : Out D := (lcF g tt te m.length r0 xs (m ++ [.lst []])).bind fun _ m2 => lcEndN m.length m2
def xLcN (f : XA) (vs : List Nat) (g : XG) (tt : XT) (te : XE') : XE' := fun r m => (f r m).bind fun xs m1 => lcDN g tt te (wipeR r vs) xs m1
section
variable {c : SC} {W : WX} {pos : Pos} {a b d e : Expr} {fa fb fe : XE'} {ft : XT}
end
/-! ### tuple * 1 -/
def rRep1 (K : PySem.W.Frag) : R2 := fun x y H Q => ∃ l xs, x = .ref l ∧ y = .int 1 ∧ SqT K H l xs ∧ Q (.ref l) H
def mulT1 (d e : D) (m : Mu) : Out D := match d, e with
  | .tup xs, .int 1 => .ok (.tup xs) m
  | _, _ => .stuck
end DS

/-! # YI: repr of a list or tuple that holds one own object -/
namespace DS
open PySem PySem.Spec PyProof.Rows L2 PySem.W PySem.Calls
section
variable {prog : Program} {w : World} {A : Around} {E : Value → Shared → Prop} {s : Shared} {K : Frag} {x C f : Addr} {h₀ : Heap} {Lq : Addr} {m : Str → Option Value} {ox : Obj} {od : Option Obj}
end
section
variable {prog : Program} {w : World}
end
section
end
section
variable {X : Cx} {CX : CXT} {C f : Addr} {fd : FuncData} {ps : List Str} {sp : Sp} {n : Nat} {E : XK}
end
end DS

/-! # YJ: repr of a list or tuple that holds one own object, as data; also while an exception is handled -/
namespace DS
open PySem PySem.Spec PyProof.Rows L2 PySem.W PySem.Calls

/-- what it promises while ob (at k.x) is handled -/
structure FnX0 (b : Base) (n : Nat) (f : Addr) (fd : FuncData) (ps : List Str) (G : Hx → Fn) : Prop where
  run : ∀ (k : Hx) (ob : Obj) (A : Around) (out : List Env) (s : Shared) (H : Hp) (ar : Args) (us : List Value) (vs : List V) (Q : VK), L2H.RoomH n A → L2H.PinOk out H s (k.x, ob) → ob.cls = .ref (He.ga b.K k.c) → ob.dict = k.dd → (∃ vs, ob.data = .fields vs) → Env0 b.P b.w b.K b.mg b.base A out s H → BindsTo s fd ar (ps.zip us) → Vals vs us →
    spOf b.K ps.length (G k) vs H Q (fun _ _ _ => False) → codeAny (model b.P b.w) A (.call (.ref f) ar) (CR (L2.CX b.P b.w) out b.P b.w H s Q (fun _ _ _ => False)) s

abbrev Base.hot0 (b : Base) (N : List Str) (sc : Scope) (n : Nat) (k : Hx) (ob : Obj) : SC := ⟨b.P, b.w, b.K, b.mg, b.base, N, sc, n, fun _ => true, false, false, some (k, ob), true, none, 0⟩
/-! ### as data -/
def oneQ (cn : Str) (G : Fn) (d : D) (m : Mu) (t : Str → Str) : Out D := match insOf m d with
  | some (c, _) => if c = cn then (match G [d] m with
    | .ok (.str y) m' => if y.length + 10 ≤ sizeLine then .ok (.str (t y)) m' else .stuck
    | _ => .stuck) else .stuck
  | none => .stuck
def reprL (cn : Str) (G : Fn) (ds : List D) (m : Mu) : Out D := match ds with
  | [.lst [d]] => oneQ cn G d m (fun y => listText [y])
  | _ => .stuck
def reprT (cn : Str) (G : Fn) (ds : List D) (m : Mu) : Out D := match ds with
  | [.tup [d]] => oneQ cn G d m (fun y => tupleText [y])
  | _ => .stuck
section
variable {c : SC}

end
end DS

/-! # YK: dicts of the module whose keys are texts and whose values are numbers (a hook that reads them, D.get(..)) -/
namespace DS
open PySem PySem.Spec PyProof.Rows L2
def kvh (e : DictEntry) : Option (Str × Int × Int) := match e.key, e.val with
  | .str x _, .int i _ => some (x, e.hash, i)
  | _, _ => none
abbrev Tb2 : Type := Str × List (Str × Int)
def kvsIn (P : Params) (kvs : List (Str × Int)) : List (Option (Str × Int × Int)) := kvs.map fun k => some (k.1, PyData.keyHash P k.1, k.2)
def dicW2 (K : PySem.W.Frag) (a : Addr) : Option (List (Option (Str × Int × Int))) := match K.lookup a with
  | some ⟨.type c, none, .dict es _, sl⟩ => (match decide (c = "dict") && (sl.isEmpty && !(a == sysModules)) with
    | true => some (es.toList.map kvh)
    | false => none)
  | _ => none
/-- the module's name x stands for a dict with these entries -/
def TabIs (K : PySem.W.Frag) (w : World) (x : Str) (kvs : List (Str × Int)) : Prop := ∃ es n, KDict K w (He.ga K x) es n ∧ es.toList.map kvh = kvsIn w.params kvs
theorem kvh_of {e : DictEntry} {x : Str} {h i : Int} (q : kvh e = some (x, h, i)) : (∃ t, e.key = .str x t) ∧ e.hash = h ∧ ∃ t, e.val = .int i t := by
  unfold kvh at q
  split at q
  · rename_i y t j u h1 h2
    cases q
    exact ⟨⟨_, h1⟩, rfl, _, h2⟩
  · cases q
theorem keysLit2 {P : Params} : ∀ {l : List DictEntry} {kvs : List (Str × Int)}, l.map kvh = kvsIn P kvs → PySem.W.KeysLit P l
  | [], _, _ => trivial
  | e :: r, [], h => by cases h
  | e :: r, k :: ks, h => by
    have h1 : kvh e :: r.map kvh = some (k.1, PyData.keyHash P k.1, k.2) :: kvsIn P ks := h
    injection h1 with h2 h3
    obtain ⟨⟨t, a⟩, b, _⟩ := kvh_of h2
    exact ⟨⟨k.1, t, a, b⟩, keysLit2 h3⟩
theorem dicW2_ok {K : PySem.W.Frag} {w : World} {x : Str} {kvs : List (Str × Int)} (h : dicW2 K (He.ga K x) = some (kvsIn w.params kvs)) : TabIs K w x kvs := by
  unfold dicW2 at h
  obtain ⟨a, ha⟩ : ∃ a, a = He.ga K x := ⟨_, rfl⟩
  unfold TabIs
  rw [← ha] at h ⊢
  cases q : K.lookup a with
  | none => rw [q] at h; cases h
  | some o =>
    obtain ⟨oc, od, dt, osl⟩ := o
    rw [q] at h
    cases oc with
    | type c =>
      cases od with
      | none =>
        cases dt with
        | dict es n =>
          have h1 : (match decide (c = "dict") && (osl.isEmpty && !(a == sysModules)) with
            | true => some (es.toList.map kvh)
            | false => none) = some (kvsIn w.params kvs) := h
          cases z : decide (c = "dict") && (osl.isEmpty && !(a == sysModules)) with
          | false => rw [z] at h1; cases h1
          | true =>
            rw [z] at h1
            obtain ⟨z1, z2⟩ := He.ba z
            obtain ⟨z3, z4⟩ := He.ba z2
            have e1 : c = "dict" := of_decide_eq_true z1
            have e2 : osl = #[] := Array.isEmpty_iff.mp z3
            have e3 : (a == sysModules) = false := by
              cases y : a == sysModules with
              | false => rfl
              | true => rw [y] at z4; cases z4
            subst e1 e2
            exact ⟨es, n, ⟨q, keysLit2 (Option.some.inj h1), e3⟩, Option.some.inj h1⟩
        | _ => cases h
      | some b => cases dt <;> cases h
    | _ => cases od <;> cases dt <;> cases h
/-! ### D.get(k) -/
def xKGet (x : Str) (kvs : List (Str × Int)) (fo fe : XE') : XE' := fun r m => (fo r m).bind fun d m1 => match d with
  | .glo y => if y = x then (fe r m1).bind fun k m2 => match k with
      | .str z => .ok (match kvs.lookup z with
        | some i => .int i
        | none => .non) m2
      | _ => .stuck
    else .stuck
  | _ => .stuck
section
variable {c : SC} {W : WX} {o e : Expr} {apos cpos : Pos} {fo fe : XE'}
end
/-! ### the hook -/
abbrev AlS : Type := AlM × List (Option (List (Option (Str × Int × Int))))
def obsS (n : Nat) (L : Tl) (ts : List Tb2) (g : Addr → Option Obj) : AlS := (obsMR n L g, ts.map fun t => dicW2 (He.frG g (kAsR g n)) (He.ga (He.frG g (kAsR g n)) t.1))
def valS (L : Tl) (ts : List Tb2) (w : World) : AlS := (valM L, ts.map fun t => some (kvsIn w.params t.2))
def hookS (n : Nat) (L : Tl) (ts : List Tb2) : PySem.W.Hook where
  α := AlS
  obs := fun s => obsS n L ts s.heap.get?
  val := fun w => valS L ts w
  says := fun w h => ∃ K : PySem.W.Frag, K.In h ∧ SaysM L K ∧ (∀ x ∈ L.tb, h.get? (tabP K x) = some (PySem.W.tabObj #[])) ∧ ∀ t ∈ ts, TabIs K w t.1 t.2
  of := fun w s e => by
    have e1 : obsMR n L s.heap.get? = valM L := congrArg (fun z : AlS => z.1) e
    have e2 : (ts.map fun t => dicW2 (He.frG s.heap.get? (kAsR s.heap.get? n)) (He.ga (He.frG s.heap.get? (kAsR s.heap.get? n)) t.1)) = ts.map fun t => some (kvsIn w.params t.2) := congrArg (fun z : AlS => z.2) e
    obtain ⟨c, t⟩ := saysM_of e1
    exact ⟨_, He.frG_in, c, t, fun t ht => dicW2_ok (map_at e2 ht)⟩
  keeps := fun _ _ _ ⟨K, hK, c, t, d⟩ k => ⟨K, PySem.W.Frag.In.keeps hK k, c, fun x hx => k _ _ (t x hx), d⟩
structure TxS (L : Tl) (ts : List Tb2) (b : Base) : Prop extends Tx L b where
  tabs : ∀ t ∈ ts, TabIs b.K b.w t.1 t.2
theorem TxS.tbl {L : Tl} {ts : List Tb2} {b : Base} (T : TxS L ts b) (i : Nat) {x : Str} {kvs : List (Str × Int)} (h : ts[i]? = some (x, kvs) := by rfl) : TabIs b.K b.w x kvs := T.tabs (x, kvs) (List.mem_of_getElem? h)
/-! ### the walk -/
/-! ### the run at both ways of a row of the text -/
/-! ### frames -/
/-! ### keyword calls where guards are known -/
section
variable {c : SC} {W : WX} {pos : Pos} {es : List Expr} {x : Str} {p0 : Pos} {k : Nat} {f : Addr} {fd : FuncData} {ps : List Str} {G : Fn}
end
end DS

namespace DS
open PySem PySem.Spec PyProof.Rows L2
variable {c : SC}
/-! ### `is` and `is not` between bools -/
def isB (d e : D) (m : Mu) : Out D := match d, e with
  | .bl a, .bl b => .ok (.bl (a == b)) m
  | _, _ => .stuck
def isntB (d e : D) (m : Mu) : Out D := match d, e with
  | .bl a, .bl b => .ok (.bl (!(a == b))) m
  | _, _ => .stuck
end DS

/-! # YN: x in a tuple of data of any depth -/
namespace DS
open PySem PySem.Spec PyProof.Rows L2
section
variable {X : Cx}
def rInT (K : PySem.W.Frag) : R2 := fun x y H Q => ∃ d ds, Dp K H x d ∧ Dp K H y (.tuple ds) ∧ SeqAt.shaped d = true ∧ SeqAt.shaped (.tuple ds) = true ∧ Q (.bl (ds.any fun z => PyData.eqv z d)) H
def rNinT (K : PySem.W.Frag) : R2 := fun x y H Q => ∃ d ds, Dp K H x d ∧ Dp K H y (.tuple ds) ∧ SeqAt.shaped d = true ∧ SeqAt.shaped (.tuple ds) = true ∧ Q (.bl (!ds.any fun z => PyData.eqv z d)) H
end
section
variable {c : SC}
/-- x in a tuple of all kinds of data -/
def inT (d e : D) (m : Mu) : Out D := match toP (dere m d), toP (dere m e) with
  | some p, some (.tuple qs) => if SeqAt.shaped p && SeqAt.shaped (.tuple qs) then .ok (.bl (qs.any fun z => PyData.eqv z p)) m else .stuck
  | _, _ => .stuck
def ninT (d e : D) (m : Mu) : Out D := match toP (dere m d), toP (dere m e) with
  | some p, some (.tuple qs) => if SeqAt.shaped p && SeqAt.shaped (.tuple qs) then .ok (.bl (!qs.any fun z => PyData.eqv z p)) m else .stuck
  | _, _ => .stuck
end
end DS

/-! # YO: dicts whose keys are tuples of texts and numbers (`Cell.dtt`); objects whose last field is something new that changes -/
namespace DS
open PySem PySem.Spec PyProof.Rows L2
def keyL : List D → Option (List Key)
  | [] => some []
  | .str x :: r => (keyL r).map fun k => .inr x :: k
  | .int i :: r => (keyL r).map fun k => .inl i :: k
  | _ => none
def dVal (gs : List (List Key × D)) (k : List Key) : Option D := (gs.find? fun p => decide (p.1 = k)).map (·.2)
def dPut (gs : List (List Key × D)) (k : List Key) (d : D) : List (List Key × D) :=
  if (gs.any fun p => decide (p.1 = k)) = true then gs.map (fun p => if p.1 = k then (p.1, d) else p) else gs ++ [(k, d)]
def dttOf (m : Mu) : D → Option (List (List Key × D))
  | .loc n => match m[n]? with
    | some (.dtt gs) => some gs
    | _ => none
  | _ => none
section
variable {K : PySem.W.Frag} {F H : Hp} {al : List Addr} {m : Mu}
end
section
variable {c : SC} {W : WX} {pos p1 p2 : Pos} {e e2 : Expr} {es : List Expr} {fa : XA} {fe fv : XE'} {kt : Nat}
/-- {}: a dict whose keys will be tuples -/
def xNewT : XE' := fun _ m => .ok (.loc m.length) (m ++ [.dtt []])
/-- (e, ..) not in d -/
def ninK (ds : List D) (d : D) (m : Mu) : Out D := match keyL ds, dttOf m d with
  | some k, some gs => .ok (.bl (!(dVal gs k).isSome)) m
  | _, _ => .stuck
def xNinK (fa : XA) (fd : XE') : XE' := fun r m => (fa r m).bind fun ds m1 => if ds.length ≤ 100 then (fd r m1).bind (ninK ds) else .stuck
def tNinK (ta : TA) (td : TE) : TE := tDNotIn (tTup ta) td
/-- d[(e, ..)] -/
def getK (d : D) (ds : List D) (m : Mu) : Out D := if ds.length ≤ 100 then (match keyL ds, dttOf m d with
  | some k, some gs => (match dVal gs k with
    | some v => .ok v m
    | none => .stuck)
  | _, _ => .stuck) else .stuck
def xGetK (fd : XE') (fa : XA) : XE' := fun r m => (fd r m).bind fun d m1 => (fa r m1).bind (getK d)
/-- d[(e, ..)] = e -/
def putKX (od : D) (ds : List D) (d : D) (m : Mu) : Out Unit := match od, keyL ds, dttOf m od with
  | .loc n, some k, some gs => if ds.length ≤ 100 ∧ gs.length < 100000 ∧ d.inB n = true then .ok () (m.set n (.dtt (dPut gs k d))) else .stuck
  | _, _, _ => .stuck
def sPutK (fd : XE') (fa : XA) (fv : XE') : XS := fun r m => (fv r m).stm r fun d m1 => (fd r m1).stm r fun od m2 => (fa r m2).stm r fun ds m3 => (putKX od ds d m3).stm r fun _ m4 => .next r m4
end
/-! ### C(e, ..) where __init__ ends with self.f = something new -/
section
variable {K : PySem.W.Frag} {F H : Hp} {al : List Addr} {m : Mu}
/-- something that nobody looks at is written -/
theorem Wd.free {x : Addr} {o : HO} (w : Wd K F al m H) (ho : ∀ (k : Nat) (b : Addr) (c' : Cell), al[k]? = some b → m[k]? = some c' → CellOk K F al (upd H x o) b c') (hx : x ∉ al) (hf : F x = none) : Wd K F al m (upd H x o) := by
  have ne : ∀ b ∈ al, b ≠ x := fun b hb e => hx (e ▸ hb)
  refine ⟨fun b u e => ?_, w.len, w.nd, fun k b c' h1 h2 => ?_, w.gen, fun b hb => ?_, w.nt⟩
  · have hb : b ≠ x := fun z => by rw [z, hf] at e; cases e
    rw [upd_ne hb]; exact w.sub b u e
  · exact ho k b c' h1 h2
  · rw [upd_ne (ne b hb)]; exact w.tr b hb
end
def endN (cn fld : Str) (n : Nat) (d : D) (m2 : Mu) : Out D := match d, m2[n]?, m2[n + 1]? with
  | .loc k, some (.ins c' gs), some cl => if k = n + 1 ∧ m2.length = n + 2 ∧ c' = cn ∧ gs.length < 1000 ∧ cl.inB n = true ∧ D.inF n gs = true ∧ notO cl = true then .ok (.loc (n + 1)) (m2.take n ++ [cl, .ins cn (putD fld (.loc n) gs)]) else .stuck
  | _, _, _ => .stuck
def initN (cn fld : Str) (N : Nat) (g : XS) (fe : XE') (ds : List D) (m : Mu) : Out D := match g (rho0 N (.loc m.length :: ds)) (m ++ [.ins cn []]) with
  | .next r m1 => (match r[0]? with
    | some (some (D.loc k)) => if k = m.length then (match fe r m1 with
      | .ok d m2 => endN cn fld m.length d m2
      | _ => .stuck) else .stuck
    | _ => .stuck)
  | _ => .stuck
def spN (K : PySem.W.Frag) (n : Nat) (cn fld : Str) (N : Nat) (g : XS) (fe : XE') : Sp := fun vs H Q E => ∃ (x : Addr) (us : List V) (ds : List D) (m : Mu) (F : Hp) (al : List Addr), vs = .ref x :: us ∧ ds.length + 1 = n ∧ RpL K F al ds us ∧ Wd K F (al ++ [x]) (m ++ [.ins cn []]) H ∧
  Post K (RD K) E F al (fun v H' => v = .ref x → Q .non H') (initN cn fld N g fe ds m)
section
variable {b : Base} {N ps : List Str} {sc : Scope} {k : Nat} {st : Stmt} {e : Expr} {g : XS} {fe : XE'} {cn fld self : Str} {pos p0 p1 : Pos}
end
section
variable {c : SC} {W : WX} {pos p0 : Pos} {x cn fld : Str} {k : Nat} {f : Addr} {fd : FuncData} {ps : List Str} {e : Expr} {es : List Expr} {fr : XA} {N : Nat} {g : XS} {fe : XE'}
def xMakeE (cn fld : Str) (N : Nat) (g : XS) (fe : XE') (a : XA) : XE' := fun r m => (a r m).bind (initN cn fld N g fe)
end
end DS

/-! # YP: defs that call each other very deep: their room is counted frame by frame -/
namespace DS
open PySem PySem.Spec PyProof.Rows L2
theorem RoomJ.deeper {j : Nat} {A : Around} (r : RoomJ (j + 1) A) (env : Env) : RoomJ j (A.deeper env) :=
  ⟨by have := r.dp; show A.depth + 1 + j + 5 < _; omega, by have := r.un; show A.units + 3 + 6 * j + 200 < _; omega⟩
theorem RoomJ.depth {j : Nat} {A : Around} (r : RoomJ j A) : A.depth < recursionLimit := by have := r.dp; omega
theorem RoomJ.hot {j k : Nat} {A : Around} (r : RoomJ j A) (h : 3 * k ≤ j) : L2H.RoomH k A := ⟨by have := r.dp; omega, by have := r.un; omega⟩
theorem roomJ_of {j k : Nat} {A : Around} (r : Room k A) (h1 : j ≤ 3 * k) (h2 : 6 * j ≤ 16 * k) : RoomJ j A := ⟨by have := r.dp; omega, by have := r.un; omega⟩
/-- a def that needs room for j frames; g: no guard stands -/
structure FnJ (b : Base) (g : Bool) (j : Nat) (f : Addr) (fd : FuncData) (ps : List Str) (G : Fn) : Prop where
  run : ∀ (A : Around) (out : List Env) (s : Shared) (H : Hp) (ar : Args) (us : List Value) (vs : List V) (Q : VK) (E : XK), A.handled = none → RoomJ j A → (g = true → A.guards = some []) → Env0 b.P b.w b.K b.mg b.base A out s H → BindsTo s fd ar (ps.zip us) → Vals vs us →
    spOf b.K ps.length G vs H Q E → codeAny (model b.P b.w) A (.call (.ref f) ar) (CR (L2.CX b.P b.w) out b.P b.w H s Q E) s
theorem FnJ.ok {b : Base} {j k : Nat} {f : Addr} {fd : FuncData} {ps : List Str} {G : Fn} (h : FnJ b false j f fd ps G) (h1 : j ≤ 3 * k) (h2 : 6 * j ≤ 16 * k) : b.Ok k f fd ps G :=
  ⟨fun _ _ _ _ h => RpL.lenV h, fun A out s H ar us vs Q E hr e0 hb r hs => h.run A out s H ar us vs Q E hr.hd (roomJ_of hr h1 h2) (fun z => nomatch z) e0 hb r hs⟩
abbrev Base.atJ (b : Base) (N : List Str) (sc : Scope) (k : Nat) (g : Bool) (j : Nat) : SC := ⟨b.P, b.w, b.K, b.mg, b.base, N, sc, k, fun _ => true, g, true, none, true, none, j⟩
section
variable {c : SC} {W : WX} {pos : Pos} {e o : Expr} {fo : XE'} {es : List Expr} {fr : XA} {x : Str} {p0 apos : Pos} {g : Bool} {j : Nat} {f : Addr} {fd : FuncData} {ps : List Str} {G : Fn}
end
end DS

/-! # YQ: raise C(e, e2): an own exception class with two fields -/
namespace DS
open PySem PySem.Spec PyProof.Rows L2
section
open Builtin Builtin.ObjectAttr
variable {P : Program} {w : World} {A : Around} {E : Value → Shared → Prop} {K : PySem.W.Frag} {h : Heap} {g : Array GenState} {d : Drawn} {t : Nat} {os : OsState} {C fI cc cda : Addr} {B newId initId : String} {bmB : List Value} {qual : Str} {params : Arguments} {body : List Stmt} {scope : Scope}
/-- self.f = v, a later field of an exception -/
theorem xc_set2 {file : Str} {x t0 dx : Addr} {f : Str} {v : Value} {m0 : Str → Option Value} {ns : List Str} {Q : Unit → Shared → Prop} (T : XcI K file C fI cc cda B newId initId bmB qual params body scope) (X : K.In h) (hx : h.get? x = some (PySem.W.excObj C t0 (some dx) .none)) (hns : h.Ns1 dx m0) (hw : Within m0 ns) (hz : ns.length ≤ 1000) (ht : PySem.W.takerIn K C f = some none)
    (hq : ∀ h' tk', (∀ b o, b ≠ dx → h.get? b = some o → h'.get? b = some o) → h'.get? x = some (PySem.W.excObj C t0 (some dx) .none) → h'.Ns1 dx (fun y => if y = f then some v else m0 y) → Q () ⟨h', g, d, tk', os⟩) :
    wpAny (model P w) A (setAttr (.ref x) f v) Q E ⟨h, g, d, t, os⟩ := by
  obtain ⟨cd, hcd, hh⟩ := T.cls
  obtain ⟨oD, esD, epD, hoD, hdD, _⟩ := hns.count hw
  have I : PySem.W.InstAt h x (PySem.W.excObj C t0 (some dx) .none) C (some oD) := ⟨hx, rfl, rfl, hoD⟩
  have hxd : x ≠ dx := fun z => by
    subst z
    have e := hx.symm.trans hoD
    cases e
    cases hdD
  refine PySem.W.set_plain (od := some oD) X I T.sa ?_
  refine PySem.W.osa_openX T.sf X I T.over ht fun b => ?_
  have hcl : PySem.W.Looks (model P w) h (classData C) cd := PySem.W.looks_clsIn X hcd
  obtain ⟨nm, bs, mro, ns', qn, hdd, sn, sb, ab, col, del⟩ := cd
  dsimp only at hh
  subst hh
  dsimp only
  unfold storeInOwnDict ownDictForStores
  repeat (first | with_reducible refine PySem.OEX.store_in_old hns hw hz ?_ | with_reducible refine wpAny_loadPart_at hx ?_ | with_reducible refine hcl.at ?_ | wp_step)
  intro h' tk' hn' hs
  exact hq h' tk' (fun b o hb ho => (hs.2 b hb).trans ho) ((hs.2 x hxd).trans hx) hn'
/-- C(v, v2), its own __init__(self, f, f2): super().__init__(); self.f = f; self.f2 = f2 -/
theorem xc_call2 {file : Str} {mg mb : Str → Option Value} {f f2 : Str} {v v2 : Value} {ar : Arg} {p0 p1 p2 p3 p4 q0 q1 q2 q3 r0 r1 r2 r3 : Pos} {Q : Value → Shared → Prop}
    (T : XcI K file C fI cc cda B newId initId bmB qual params [.Expr (.Call (.Attribute (.Call (.Name "super" p0) [] [] p1) "__init__" p2) [] [] p3) p4, .Assign [.Attribute (.Name ar.arg q0) f q1] (.Name f q2) q3, .Assign [.Attribute (.Name ar.arg r0) f2 r1] (.Name f2 r2) r3] scope)
    (X : K.In h) (hg : h.Ns mainGlobals mg) (hmg : mg "super" = none) (hb : h.Ns builtinsNs mb) (hmb : mb "super" = some (.type "super")) (hlim : h.NoLimit) (hroom : (A.under (.builtin "type.__call__" ⟨[.ref C, v, v2], []⟩)).depth < recursionLimit)
    (hp : (params.posonlyargs ++ params.args).head? = some ar) (hfile : ((P.main.file : Str) == file) = true) (htop : (P.main.scope.names.lookup ("super" : Str)).isSome = false)
    (hks : scope.names.lookup ("super" : Str) = some .globalImplicit) (hkc : scope.names.lookup ("__class__" : Str) = some .free) (hka : scope.names.lookup ar.arg = some .local) (hkf : scope.names.lookup f = some .local) (hkf2 : scope.names.lookup f2 = some .local) (hk : scope.kind = .function)
    (hcl : ∀ x ∈ scope.names, x.2 ≠ .cell) (hco : scope.isCoroutine = false) (hgen : scope.isGenerator = false) (hne : ar.arg ≠ f) (hne2 : ar.arg ≠ f2) (hnf : f ≠ f2) (hd0 : (ar.arg == ("__debug__" : Str)) = false) (hd1 : (f == ("__debug__" : Str)) = false) (hd2 : (f2 == ("__debug__" : Str)) = false)
    (ht : PySem.W.takerIn K C f = some none) (ht2 : PySem.W.takerIn K C f2 = some none)
    (hi : ∀ L, interactive (PySem.W.ksEnv qual scope L fI (.ref cda) cc) = false)
    (hsw : ∀ L, swapsWith (.Name f q2) (some (.Attribute (.Name ar.arg q0) f q1)) q3.line (PySem.W.ksEnv qual scope L fI (.ref cda) cc) = pure false)
    (hsw2 : ∀ L, swapsWith (.Name f2 r2) (some (.Attribute (.Name ar.arg r0) f2 r1)) r3.line (PySem.W.ksEnv qual scope L fI (.ref cda) cc) = pure false)
    (hev : ∀ L, ∃ pl : Sem Bool, eval (.Call (.Attribute (.Call (.Name "super" p0) [] [] p1) "__init__" p2) [] [] p3) (PySem.W.ksEnv qual scope L fI (.ref cda) cc) = (do
      let ov ← attributeBase (.Call (.Name "super" p0) [] [] p1) "__init__" (PySem.W.ksEnv qual scope L fI (.ref cda) cc) (eval (.Call (.Name "super" p0) [] [] p1) (PySem.W.ksEnv qual scope L fI (.ref cda) cc))
      standAt p2.atName
      let (f, first) ← holding [ov] (getMethod ov "__init__" pl)
      callWith p3 f first (backTo p3 (starEach [] (PySem.W.ksEnv qual scope L fI (.ref cda) cc))) []))
    (hbd : ∀ (s : Shared) (u w w2 : Value) (body : List Stmt) (kV doc pm : Value) (an : Option Addr) (cdv ct : Value) (cc : Addr), BindsTo s (PySem.W.ksFn "__init__" qual params body scope .none kV doc pm an cdv ct cc) ⟨[u, w, w2], []⟩ [(ar.arg, u), (f, w), (f2, w2)])
    (hq : ∀ h' tk' dx t', (∀ b o, h.get? b = some o → h'.get? b = some o) → h.objs.size ≤ dx → dx ≠ h.objs.size + 1 → h'.get? (h.objs.size + 1) = some (PySem.W.excObj C t' (some dx) .none) → h'.Ns1 dx (fun y => if y = f2 then some v2 else if y = f then some v else none) → Q (.ref (h.objs.size + 1)) ⟨h', g, d, tk', os⟩) :
    wpAny (model P w) A (call (.ref C) [v, v2]) Q E ⟨h, g, d, t, os⟩ := by
  obtain ⟨nm, N', qn, bs, bm, hdct, sn, sub, ab, col, dd, k0, k1, k2, k3, k5, hC, hT⟩ := PySem.W.excInit_of X T.exi
  obtain ⟨oc, od, kV, doc, pm, an, ct, osl, hfn⟩ := T.fn
  refine wpAny_call (HandSPX.call_own T.fb hT hC (PySem.W.looks_findIn X T.init) (fun self => PySem.W.bind_fn X self T.tyI) (by rw [sizeLine_eq]; show 2 ≤ 16777216; decide) ?_)
  have kk : ∀ b o, h.get? b = some o → ((h.push (PySem.W.kdv_tup [v, v2])).push (HandSPX.excO C h.objs.size)).get? b = some o := fun b o e => Heap.get?_push_of_some _ (Heap.get?_push_of_some _ e)
  have X2 : K.In ((h.push (PySem.W.kdv_tup [v, v2])).push (HandSPX.excO C h.objs.size)) := X.keeps kk
  have hget : ((h.push (PySem.W.kdv_tup [v, v2])).push (HandSPX.excO C h.objs.size)).get? (h.objs.size + 1) = some (HandSPX.excO C h.objs.size) := by heap_get
  have hsz : ((h.push (PySem.W.kdv_tup [v, v2])).push (HandSPX.excO C h.objs.size)).objs.size = h.objs.size + 2 := by rw [Heap.size_push, Heap.size_push]
  refine ks_codeAny_call_defAt (binds := [(ar.arg, .ref (h.objs.size + 1)), (f, v), (f2, v2)]) hroom (X2 _ _ hfn) rfl (hlim.keeps kk) (PySem.W.codeRec_of X2 T.code) rfl (hbd _ _ _ _ _ _ _ _ _ _ _ _) hcl (fun y hy => ?_) (fun h1 hns hk1 => ?_) hco hgen hk
  · rcases List.mem_cons.mp hy with rfl | hy
    · exact hka
    · rcases List.mem_cons.mp hy with rfl | hy
      · exact hkf
      · rcases List.mem_cons.mp hy with rfl | hy
        · exact hkf2
        · cases hy
  show _root_.PySem.wpAt _ _ (.func _ (PySem.W.ksEnv qual scope _ fI (.ref cda) cc)) (execs _ (PySem.W.ksEnv qual scope _ fI (.ref cda) cc)) _ _ _
  rw [hsz] at hns ⊢
  have F1 : Fr h (h.objs.size + 2) h1 (fun y => List.lookup y [(ar.arg, Value.ref (h.objs.size + 1)), (f, v), (f2, v2)].reverse) := ⟨hns, fun b o e => hk1 b o (kk b o e), Nat.le_add_right _ _⟩
  have N1 : News h (h.objs.size + 2) h1 [(h.objs.size + 1, PySem.W.excObj C h.objs.size none .none)] := fun p hp => by
    have e : p = (h.objs.size + 1, PySem.W.excObj C h.objs.size none .none) := by simpa using hp
    subst e
    refine ⟨hk1 _ _ hget, Nat.ne_of_lt (Nat.lt_succ_self _), ?_⟩
    cases z : h.get? (h.objs.size + 1) with
    | none => rfl
    | some o => exact absurd (Heap.lt_size z) (Nat.not_lt.mpr (Nat.le_succ _))
  have b1 : (ar.arg == f) = false := by simpa using hne
  have b2 : (ar.arg == f2) = false := by simpa using hne2
  have b3 : (f == f2) = false := by simpa using hnf
  have mself : List.lookup ar.arg [(ar.arg, Value.ref (h.objs.size + 1)), (f, v), (f2, v2)].reverse = some (.ref (h.objs.size + 1)) := by simp [List.lookup, b1, b2]
  have mf : List.lookup f [(ar.arg, Value.ref (h.objs.size + 1)), (f, v), (f2, v2)].reverse = some v := by simp [List.lookup, b3]
  have mf2 : List.lookup f2 [(ar.arg, Value.ref (h.objs.size + 1)), (f, v), (f2, v2)].reverse = some v2 := by simp [List.lookup]
  refine ks_wpAt_execs_cons (xc_super T (s := ⟨h1, g, d, _, os⟩) F1 X N1 hg hmg hb hmb hp mself hfile htop hks hkc hka hk (hi _) (hev _) fun h2 t2 tk2 F2 e2 => ?_)
  refine ks_wpAt_execs_cons (wpAt_of_wpAny ?_)
  refine plainObj_wpAny_Assign_Attribute ?_ (hsw _)
  refine wpAny_Name (wpAny_loadName_local hk hkf F2.ns mf ?_) hd1
  refine wpAny_Name (wpAny_loadName_local hk hka F2.ns mself ?_) hd0
  refine xc_set T (X.keeps F2.keep) e2 ht fun h3 tk3 dx k3 hdx hne3 e3 hn3 => ?_
  have q1 : h.objs.size + 1 < h2.objs.size := Heap.lt_size e2
  have k2 : ∀ b o, h.get? b = some o → h2.get? b = some o := F2.keep
  have k4 : ∀ b o, h.get? b = some o → h3.get? b = some o := fun b o e => k3 b o (fun z => by
    rw [z] at e
    exact absurd (Heap.lt_size e) (Nat.not_lt.mpr (Nat.le_succ _))) (k2 b o e)
  have hLx : h.objs.size + 2 ≠ h.objs.size + 1 := by omega
  have n3 : h3.Ns (h.objs.size + 2) (fun y => List.lookup y [(ar.arg, Value.ref (h.objs.size + 1)), (f, v), (f2, v2)].reverse) := F2.ns.at fun o e => k3 _ o hLx e
  refine ks_wpAt_execs_cons (wpAt_of_wpAny ?_)
  refine plainObj_wpAny_Assign_Attribute ?_ (hsw2 _)
  refine wpAny_Name (wpAny_loadName_local hk hkf2 n3 mf2 ?_) hd2
  refine wpAny_Name (wpAny_loadName_local hk hka n3 mself ?_) hd0
  refine xc_set2 T (X.keeps k4) e3 hn3 (ns := [f]) (fun y hy => ?_) (by show 1 ≤ 1000; decide) ht2 fun h5 tk5 k5 e5 hn5 => ?_
  · by_cases z : y = f
    · rw [z]; exact List.mem_singleton_self _
    · exact absurd (if_neg z) hy
  refine wpAt_of_wpAny (wpAny_execs_nil ?_)
  refine ⟨rfl, hq h5 tk5 dx t2 (fun b o e => k5 b o (fun z => ?_) (k4 b o e)) (Nat.le_trans ?_ hdx) hne3 e5 hn5⟩
  · rw [z] at e
    exact absurd (Heap.lt_size e) (Nat.not_lt.mpr (Nat.le_of_lt (Nat.lt_of_lt_of_le (Nat.lt_of_succ_lt q1) hdx)))
  · exact Nat.le_of_lt (Nat.lt_of_succ_lt q1)
end
end DS
namespace DS
open PySem PySem.Spec PyProof.Rows L2
def tkB (cn f : Str) (K : PySem.W.Frag) : Bool := He.eqO (PySem.W.takerIn K (He.ga K cn) f) (some none)
/-- C(v, v2) makes an exception with the two fields f, f2 -/
structure MkX2 (b : Base) (cn f f2 : Str) : Prop where
  kp : PySem.W.keepIn b.K (.ref (He.ga b.K cn)) = true
  exb : PySem.W.subIn b.K (.ref (He.ga b.K cn)) (.type "BaseException") = some true
  tyC : PySem.W.typeIn b.K (.ref (He.ga b.K cn)) = some (.type "type")
  call : ∀ (A : Around) (E : Value → Shared → Prop) (h : Heap) (g : Array GenState) (d : Drawn) (t : Nat) (os : OsState) (mb : Str → Option Value) (v v2 : Value) (Q : Value → Shared → Prop), b.K.In h → h.Ns mainGlobals b.mg → h.Ns builtinsNs mb → mb "super" = some (.type "super") → h.NoLimit →
    (A.under (.builtin "type.__call__" ⟨[.ref (He.ga b.K cn), v, v2], []⟩)).depth < recursionLimit →
    (∀ h' tk' dx t', (∀ b o, h.get? b = some o → h'.get? b = some o) → h.objs.size ≤ dx → dx ≠ h.objs.size + 1 → h'.get? (h.objs.size + 1) = some (PySem.W.excObj (He.ga b.K cn) t' (some dx) .none) → h'.Ns1 dx (fun y => if y = f2 then some v2 else if y = f then some v else none) → Q (.ref (h.objs.size + 1)) ⟨h', g, d, tk', os⟩) →
    wpAny (model b.P b.w) A (call (.ref (He.ga b.K cn)) [v, v2]) Q E ⟨h, g, d, t, os⟩
/-- __init__(self, f, f2): super().__init__(); self.f = f; self.f2 = f2 -/
structure Ini2 (d : XiD) (f2 : Str) (ar : Arg) (p0 p1 p2 p3 p4 q0 q1 q2 q3 r0 r1 r2 r3 : Pos) : Prop where
  body : d.body = [.Expr (.Call (.Attribute (.Call (.Name "super" p0) [] [] p1) "__init__" p2) [] [] p3) p4, .Assign [.Attribute (.Name ar.arg q0) d.f q1] (.Name d.f q2) q3, .Assign [.Attribute (.Name ar.arg r0) f2 r1] (.Name f2 r2) r3]
  hp : (d.params.posonlyargs ++ d.params.args).head? = some ar
  hks : d.scope.names.lookup ("super" : Str) = some .globalImplicit
  hkc : d.scope.names.lookup ("__class__" : Str) = some .free
  hka : d.scope.names.lookup ar.arg = some .local
  hkf : d.scope.names.lookup d.f = some .local
  hkf2 : d.scope.names.lookup f2 = some .local
  hk : d.scope.kind = .function
  hcl : ∀ x ∈ d.scope.names, x.2 ≠ .cell
  hco : d.scope.isCoroutine = false
  hgen : d.scope.isGenerator = false
  hne : ar.arg ≠ d.f
  hne2 : ar.arg ≠ f2
  hnf : d.f ≠ f2
  hd0 : (ar.arg == ("__debug__" : Str)) = false
  hd1 : (d.f == ("__debug__" : Str)) = false
  hd2 : (f2 == ("__debug__" : Str)) = false
  hi : ∀ (L fI cda cc : Addr), interactive (PySem.W.ksEnv d.qual d.scope L fI (.ref cda) cc) = false
  hsw : ∀ (L fI cda cc : Addr), swapsWith (.Name d.f q2) (some (.Attribute (.Name ar.arg q0) d.f q1)) q3.line (PySem.W.ksEnv d.qual d.scope L fI (.ref cda) cc) = pure false
  hsw2 : ∀ (L fI cda cc : Addr), swapsWith (.Name f2 r2) (some (.Attribute (.Name ar.arg r0) f2 r1)) r3.line (PySem.W.ksEnv d.qual d.scope L fI (.ref cda) cc) = pure false
  hev : ∀ (L fI cda cc : Addr), ∃ pl : Sem Bool, eval (.Call (.Attribute (.Call (.Name "super" p0) [] [] p1) "__init__" p2) [] [] p3) (PySem.W.ksEnv d.qual d.scope L fI (.ref cda) cc) = (do
      let ov ← attributeBase (.Call (.Name "super" p0) [] [] p1) "__init__" (PySem.W.ksEnv d.qual d.scope L fI (.ref cda) cc) (eval (.Call (.Name "super" p0) [] [] p1) (PySem.W.ksEnv d.qual d.scope L fI (.ref cda) cc))
      standAt p2.atName
      let (f, first) ← holding [ov] (getMethod ov "__init__" pl)
      callWith p3 f first (backTo p3 (starEach [] (PySem.W.ksEnv d.qual d.scope L fI (.ref cda) cc))) [])
  hbd : ∀ (s : Shared) (u w w2 : Value) (body : List Stmt) (kV doc pm : Value) (an : Option Addr) (cdv ct : Value) (cc : Addr), BindsTo s (PySem.W.ksFn "__init__" d.qual d.params body d.scope .none kV doc pm an cdv ct cc) ⟨[u, w, w2], []⟩ [(ar.arg, u), (d.f, w), (f2, w2)]
theorem mkX2_of {L : Tl} {b : Base} {d : XiD} {f2 : Str} {ar : Arg} {p0 p1 p2 p3 p4 q0 q1 q2 q3 r0 r1 r2 r3 : Pos} (T : Tx L b) (h : XiOk L.file b.K d) (ht2 : tkB d.cn f2 b.K = true) (hB : BaseOk d.B) (hs : b.mg "super" = none) (I : Ini2 d f2 ar p0 p1 p2 p3 p4 q0 q1 q2 q3 r0 r1 r2 r3) : MkX2 b d.cn d.f f2 := by
  obtain ⟨hX, ht⟩ := h.xc hB.fb hB.kf hB.sf
  refine ⟨hX.kp, hX.exb, hX.tyC, fun A E h g dr t os mb v v2 Q kI ns nb hmb lim hroom hq => ?_⟩
  rw [I.body] at hX
  exact xc_call2 hX kI ns hs nb hmb lim hroom I.hp T.fl T.sup I.hks I.hkc I.hka I.hkf I.hkf2 I.hk I.hcl I.hco I.hgen I.hne I.hne2 I.hnf I.hd0 I.hd1 I.hd2 ht (He.eqO_ok ht2) (fun L => I.hi L _ _ _) (fun L => I.hsw L _ _ _) (fun L => I.hsw2 L _ _ _) (fun L => I.hev L _ _ _) I.hbd hq
section
variable {c : SC} {W : WX} {pos pos' p0 : Pos} {e e' : Expr} {fe fe' : XE'} {x cn f f2 : Str} {fr : XA}
theorem mk_fin2 {X : Cx} {pins : List (Addr × Obj)} {σ : L2.St} {H : Hp} {Q : XK} {s : Shared} {h' : Heap} {t' tk' dx C : Addr} {u u2 : Value} {v v2 : V} (I : Inv X pins σ H s) (r : Raises X (.ref C)) (rv : RelV v u) (rv2 : RelV v2 u2)
    (k : ∀ b o, s.heap.get? b = some o → h'.get? b = some o) (hdx : s.heap.objs.size ≤ dx) (hne : dx ≠ s.heap.objs.size + 1) (he : h'.get? (s.heap.objs.size + 1) = some (PySem.W.excObj C t' (some dx) .none)) (hn : h'.Ns1 dx (fun y => if y = f2 then some u2 else if y = f then some u else none))
    (q : ∀ d, H d = none → Q (.ref C) (some d) (upd H d (.xd [(f2, v2), (f, v)]))) : MkP X pins σ Q (.ref (s.heap.objs.size + 1)) { s with heap := h', toks := tk' } := by
  obtain ⟨G, g1, g2⟩ := restrict h' fun b => decide (b ≠ s.heap.objs.size + 1)
  have gk : ∀ b o, b ≠ s.heap.objs.size + 1 → h'.get? b = some o → G.get? b = some o := fun b o hb z => (g1 b (decide_eq_true hb)).trans z
  have gs : ∀ b o, G.get? b = some o → h'.get? b = some o := fun b o z => by
    by_cases hb : b = s.heap.objs.size + 1
    · rw [hb, g2 _ (decide_eq_false fun y => y rfl)] at z
      cases z
    · exact (g1 b (decide_eq_true hb)).symm.trans z
  have nd : H dx = none := I.hok.fresh hdx
  have kG : ∀ b o, s.heap.get? b = some o → G.get? b = some o := fun b o z => gk b o (Nat.ne_of_lt (Nat.lt_succ_of_lt (Heap.lt_size z))) (k b o z)
  have J := I.laid (t' := tk') (a := dx) (o := .xd [(f2, v2), (f, v)]) (h' := G) kG hdx ⟨_, hn.at fun o z => gk dx o hne z, relO_put rv2 (relO_put (fs := []) rv fun g => True.intro)⟩
  refine ⟨_, _, _, { s with heap := G, toks := tk' }, _, .ref C, some dx, rfl, J, gs, g2 _ (decide_eq_false fun y => y rfl), he, ⟨rfl, rfl⟩, rfl, rfl, ?_, rfl, I.bare, r, q dx nd⟩
  rw [upd_ne (Ne.symm hne)]
  exact I.hok.fresh (Nat.le_succ _)
theorem pmk_x2 {X : Cx} {ta : TA} {b : Base} (e1 : X.prog = b.P) (e2 : X.w = b.w) (e3 : X.K = b.K) (e4 : X.mg = b.mg) (M : MkX2 b cn f f2) (hs : b.mg "super" = none) (hr : Room 1 X.A) (hg : Gl X x) (gC : X.mg x = some (.ref (He.ga b.K cn))) (ha : PA X [e, e'] ta)
    (hst : starEach [e, e'] X.env = (false, eval e X.env) :: starEach [e'] X.env := by rfl) (hpl : (backTo pos (starEach [e'] X.env)).any (·.1) = false := by rfl) (hdb : (x == ("__debug__" : Str)) = false := by decide) :
    PMk X (.Call (.Name x p0) [e, e'] [] pos) (fun σ H Q => ta σ H fun vs H1 => ∃ v v2, vs = [v, v2] ∧ ∀ d, H1 d = none → Q (.ref (He.ga b.K cn)) (some d) (upd H1 d (.xd [(f2, v2), (f, v)]))) := by
  intro pins s σ H Q I h
  refine wpAny_Call_Name_kw (ld_glob I hg gC ?_ hdb)
  refine PySem.W.callWith_K (h₀ := X.base) I.ok.mod.kin (by rw [e3]; exact M.kp) (thn (ha.run pos pins s σ H _ I h) fun us s1 ⟨vs, H1, I1, r1, v, v2, ev, q1⟩ => ⟨I1.kIn, ?_⟩) hst hpl
  subst ev
  obtain ⟨u, u2, rfl, ru, ru2⟩ := vals2 r1
  show wpAny _ _ (call (.ref (He.ga b.K cn)) [u, u2]) _ _ _
  obtain ⟨mb, hb1, hb2⟩ := I1.mod.blt
  have hsup : mb "super" = some (.type "super") := (hb2 _ (by decide)).trans (by decide +kernel)
  have kIn : b.K.In s1.heap := by rw [← e3]; exact I1.kIn
  have ns : s1.heap.Ns mainGlobals b.mg := by rw [← e4]; exact I1.mod.glob.keeps I1.bk
  have rs : Raises X (.ref (He.ga b.K cn)) := raises_own (by rw [e3]; exact M.exb) (by rw [e3]; exact M.tyC)
  have lim : s1.heap.NoLimit := I1.nolimit
  obtain ⟨h1, g1, d1, t1, os1⟩ := s1
  rw [e1, e2]
  refine M.call _ _ h1 g1 d1 t1 os1 mb u u2 _ kIn ns (hb1.keeps I1.bk) hsup lim ?_ fun h' tk' dx t' k hdx hne he hn => mk_fin2 I1 rs ru ru2 k hdx hne he hn q1
  exact (hr.make (He.ga b.K cn) [u, u2] []).depth
def sRaise2 (cn f f2 : Str) (a : XA) : XS := fun r m => (a r m).stm r fun ds m1 => match ds with
  | [d, d2] => .exc cn [(f2, d2), (f, d)] r m1
  | _ => .stuck
theorem ds_raise2 (M : MkX2 c.toB cn f f2) (hs : c.mg "super" = none) (gC : c.mg x = some (.ref (He.ga c.K cn))) (ha : DA c W [e, e'] fr) (hr : 1 ≤ c.k := by first | exact Nat.le_of_ble_eq_true rfl | exact Nat.le_refl _ | exact Nat.le_add_right _ _) (hcm : c.calm = true := by rfl) (hg : c.sc.names.lookup x = some .globalImplicit := by rfl)
    (hdb : (x == ("__debug__" : Str)) = false := by decide) (hst : ∀ env, starEach [e, e'] env = (false, eval e env) :: starEach [e'] env := by intro _; rfl) (hpl : ∀ env, (backTo pos (starEach [e'] env)).any (·.1) = false := by intro _; rfl) : DSt c W (.Raise (some (.Call (.Name x p0) [e, e'] [] pos)) none pos') (sRaise2 cn f f2 fr) := by
  obtain ⟨⟨t, a1, a2⟩, _⟩ := ha
  refine ⟨_, fun y hy => ps_raise (X := c.cx y) hcm hy.takes (pmk_x2 (X := c.cx y) (b := c.toB) rfl rfl rfl rfl M hs (hy.rm hcm hr) (hy.gl hg) gC (a1 y hy) (hst _) (hpl _) hdb), fun ρ m σ H F al E he hw p => ?_⟩
  refine a2 ρ m σ H F al _ he hw (PostS.step he p fun ds m1 vs H1 F1 al1 e1 w1 q1 p1 => ?_)
  split at p1
  · cases q1 with
    | cons qa q1 =>
      cases q1 with
      | cons qb q1 =>
        cases q1
        exact ⟨_, _, rfl, fun dd hdd => p1 (some dd) σ (upd H1 dd _) (upd F1 dd _) al1 _ (ext_new (w1.fnone hdd)) (w1.new hdd) ((he.up e1).up (ext_new (w1.fnone hdd))) (.cons (qb.up (ext_new (w1.fnone hdd))) (.cons (qa.up (ext_new (w1.fnone hdd))) .nil)) (.inr ⟨dd, rfl, upd_same⟩)⟩
  · exact p1.elim
end
end DS

/-! # YR: a tuple or list of anything beside an empty one -/
namespace DS
open PySem PySem.Spec PyProof.Rows L2
def eqT0 (d e : D) (m : Mu) : Out D := match d, e with
  | .tup (_ :: _), .tup [] => .ok (.bl false) m
  | .lst (_ :: _), .lst [] => .ok (.bl false) m
  | _, _ => .stuck
end DS

/-! # YS: own objects without an __eq__ of their own; a display of four texts; not in a dict -/
namespace DS
open PySem PySem.Spec PyProof.Rows L2
section
variable {prog : Program} {w : World} {A : Around} {E : Value → Shared → Prop} {s : Shared} {K : PySem.W.Frag} {x y C C' : Addr} {ox oy : Obj} {od od' : Option Obj}
structure ObjC (K : PySem.W.Frag) (C : Addr) : Prop where
  eq : PySem.W.findIn K (.ref C) "__eq__" = some (some (.builtin "object.__eq__"))
  ne : PySem.W.findIn K (.ref C) "__ne__" = some (some (.builtin "object.__ne__"))
  mro : PySem.W.mroIn K C (.type "object") = some true
end
/-! ### the operators -/
def objB (cn : Str) (K : PySem.W.Frag) : Bool := He.eqO (PySem.W.findIn K (.ref (He.ga K cn)) "__eq__") (some (some (.builtin "object.__eq__"))) && (He.eqO (PySem.W.findIn K (.ref (He.ga K cn)) "__ne__") (some (some (.builtin "object.__ne__"))) && decide (PySem.W.mroIn K (He.ga K cn) (.type "object") = some true))
/-- two places of one class -/
def sameN (cn : Str) (m : Mu) (d e : D) : Option Bool := match d, e with
  | .loc n, .loc k => (match m[n]?, m[k]? with
    | some (.ins c _), some (.ins c' _) => if c = cn ∧ c' = cn then some (decide (n = k)) else none
    | _, _ => none)
  | _, _ => none
section
variable {c : SC} {k : Nat} {f : Addr} {fd : FuncData} {ps : List Str} {G : Fn}
def eqI (cn : Str) (d e : D) (m : Mu) : Out D := match sameN cn m d e with
  | some b => .ok (.bl b) m
  | none => .stuck
def neI (cn : Str) (d e : D) (m : Mu) : Out D := match sameN cn m d e with
  | some false => .ok (.bl true) m
  | _ => .stuck
/-- a place of one class beside an object of another class -/
def eqJ (cn cb : Str) (G : Fn) (d e : D) (m : Mu) : Out D := match insOf m d, insOf m e with
  | some (c1, _), some (c2, _) => if c1 = cn ∧ c2 = cb then (match G [e, d] m with
    | .ok (.bl k) m' => .ok (.bl k) m'
    | _ => .stuck) else .stuck
  | _, _ => .stuck
def subJ (cn cb : Str) (K : PySem.W.Frag) : Bool := decide (PySem.W.subIn K (.ref (He.ga K cb)) (.ref (He.ga K cn)) = some false) && decide (He.ga K cn ≠ He.ga K cb)
/-! ### x not in d, with d a dict of texts -/
def ninDD (d e : D) (m : Mu) : Out D := match d with
  | .str f => (match dctOf m e with
    | some gs => .ok (.bl (!(gs.lookup f).isSome)) m
    | none => .stuck)
  | _ => .stuck
/-! ### {"a": 1, "b": 2, "c": 3, "d": 4} -/
def kv4 (k1 k2 k3 k4 : Str) (i1 i2 i3 i4 : Int) : List (Key × V) := [(.inr k1, .int i1), (.inr k2, .int i2), (.inr k3, .int i3), (.inr k4, .int i4)]
def ap4 (k1 k2 k3 k4 : Str) : Bool := !(k1 == k2) && (!(k1 == k3) && (!(k1 == k4) && (!(k2 == k3) && (!(k2 == k4) && !(k3 == k4)))))
end
end DS

/-! # YT: C(e), C(f = e), C(e, e2), C(f2 = e2, f = e), C() as values: exceptions that are not raised; their fields, isinstance of them -/
namespace DS
open PySem PySem.Spec PyProof.Rows L2
open HandSPX
section
variable {M : Model} {A : Around} {E : Value → Shared → Prop} {h : Heap} {g : Array GenState} {d : Drawn} {t : Nat} {os : OsState}
variable {nm q : Str} {C N : Addr} {bs bm bmB : List Value} {hdct : Bool} {sn : List Str} {sub : List Value} {ab : Bool} {col : Option Bool} {dd : Option Addr} {k0 k1 k2 k3 k5 : Option Value} {B newId initId : String}
theorem check_newK (F : ExcBaseFacts B newId initId bmB) (hT : ∀ X : String, bm.contains (.type X) = bmB.contains (.type X)) {rest : List Value} {kw : List (Str × Value)} {Q : Unit → Shared → Prop}
    (hC : h.get? C = some (excClassObj nm q C N bs bm hdct sn sub ab col dd k0 k1 k2 k3 k5 newId)) (hq : Q () ⟨h, g, d, t, os⟩) : wpAny M A (checkBuiltinCall newId ⟨.ref C :: rest, kw⟩) Q E ⟨h, g, d, t, os⟩ := by
  have hcont : (Value.ref C :: bm).contains (.type B) = true := by rw [List.contains_cons, hT, F.hasB, Bool.or_true]
  have hstar := F.noStar
  simp only [checkBuiltinCall, F.newKind, F.newSplit, F.newRow]
  repeat (first | refine wpAny_loadPart_at hC ?_ | (refine wpAny_isSubtype_exc hC ?_; rw [hcont]) | refine wpAny_staticBase_exc hC ?_ | refine wpAny_madeBy_exc hC ?_ | simp only [bne_self_eq_false, Bool.false_eq_true, if_false] | wp_step)
  exact hq
end
section
variable {prog : Program} {w : World} {A : Around} {E : Value → Shared → Prop} {R : Result → Shared → Prop} {h : Heap} {g : Array GenState} {d : Drawn} {t : Nat} {os : OsState}
variable {nm q : Str} {C N : Addr} {bs bm bmB : List Value} {hdct : Bool} {sn : List Str} {sub : List Value} {ab : Bool} {col : Option Bool} {dd : Option Addr} {k0 k1 k2 k3 k5 : Option Value} {B newId initId : String}
theorem new_ownK (F : ExcBaseFacts B newId initId bmB) (hT : ∀ X : String, bm.contains (.type X) = bmB.contains (.type X)) {rest : List Value} {kw : List (Str × Value)}
    (hC : h.get? C = some (excClassObj nm q C N bs bm hdct sn sub ab col dd k0 k1 k2 k3 k5 newId))
    (hq : R (.ok (.ret (.ref (h.objs.size + 1)))) ⟨(h.push { cls := .type "tuple", data := .seq rest.toArray }).push
      { cls := .ref C, data := .fields #[.ref h.objs.size, .none, .none, .none, .bool false, .none] }, g, d, t, os⟩) (hrest : rest.length ≤ sizeLine) :
    codeAny (model prog w) A (.builtin newId ⟨.ref C :: rest, kw⟩) R ⟨h, g, d, t, os⟩ := by
  have hends := F.ends
  have hcB : (Value.ref C :: bm).contains (.type B) = true := by rw [List.contains_cons, hT, F.hasB, Bool.or_true]
  have hcA : (Value.ref C :: bm).contains (.type "AttributeError") = false := by rw [List.contains_cons, hT, F.noAttr]; rfl
  have hcN : (Value.ref C :: bm).contains (.type "NameError") = false := by rw [List.contains_cons, hT, F.noName]; rfl
  refine codeAny_builtinAt F.entry ?_
  unfold Builtin.«BaseException.__new__»
  refine PySem.wpAt_bind ?_
  show PySem.wpAt _ _ _ (stack >>= _) _ _ _
  refine PySem.wpAt_bind (PySem.wpAt_stack fun p below => PySem.wpAt_of_wpAny ?_)
  wp_walk
  refine PySem.wpAt_of_wpAny ?_
  rw [F.owner]
  repeat (first | with_reducible refine wpAny_madeHere_exc F.canon hC ?_ | with_reducible refine wpAny_loadPart_at hC ?_ | (with_reducible refine wpAny_isSubtype_exc hC ?_; first | rw [hcB] | rw [hcA] | rw [hcN]) | wp_step)
  show R _ _
  rw [Heap.size_push]
  exact hq
theorem type_call_ownK (F : ExcBaseFacts B newId initId bmB) (hT : ∀ X : String, bm.contains (.type X) = bmB.contains (.type X)) {rest : List Value} {kw : List (Str × Value)} {fI : Addr} {Q : Fin → Shared → Prop}
    (hC : h.get? C = some (excClassObj nm q C N bs bm hdct sn sub ab col dd k0 k1 k2 k3 k5 newId))
    (hi : W.Looks (model prog w) h (typeLookup (.ref C) "__init__") (some (.ref fI))) (hb : ∀ self, W.Looks (model prog w) h (bindSpecial (.ref fI) self) (.ref fI, [self])) (hrest : rest.length ≤ sizeLine)
    (hq : codeAny (model prog w) A (.call (.ref fI) ⟨.ref (h.objs.size + 1) :: rest, kw⟩)
      (fun r s' => match r with | .ok (.ret v) => v = .none ∧ Q (.done (.ret (.ref (h.objs.size + 1)))) s' | .ok _ => False | .error e => E e s')
      ⟨(h.push (W.kdv_tup rest)).push (excO C h.objs.size), g, d, t, os⟩) :
    wpAny (model prog w) A (Builtin.«type.__call__» ⟨.ref C :: rest, kw⟩) Q E ⟨h, g, d, t, os⟩ := by
  repeat (first | with_reducible refine wpAny_loadPart_at hC ?_ | with_reducible refine wpAny_madeBy_exc hC ?_ | wp_step)
  refine codeAny_call_builtin_code (Code.quiet_builtin _ F.quiet) (check_newK F hT hC ?_)
  refine new_ownK F hT hC ?_ hrest
  show wpAny _ _ _ _ _ _
  have k : ∀ b o, h.get? b = some o → ((h.push (W.kdv_tup rest)).push (excO C h.objs.size)).get? b = some o := fun b o e => Heap.get?_push_of_some _ (Heap.get?_push_of_some _ e)
  have hC₁ := k _ _ hC
  have hget : ((h.push (W.kdv_tup rest)).push (excO C h.objs.size)).get? (h.objs.size + 1) = some (excO C h.objs.size) := by heap_get
  have hcC : (Value.ref C :: bm).contains (.ref C) = true := by simp
  have i1 := hi.keeps k
  have b1 := (hb (.ref (h.objs.size + 1))).keeps k
  unfold isInstance
  repeat (first | with_reducible refine wpAny_loadPart_at hget ?_ | (with_reducible refine wpAny_isSubtype_exc hC₁ ?_; rw [hcC]) | wp_step)
  show wpAny _ _ (typeLookup (.ref C) _) _ _ _
  refine i1.at ?_
  refine wpAny_holding (wpAny_bind (b1.at ?_))
  refine wpAny_bind (wpAny_call (codeAny_mono hq fun r s' z => ?_))
  rcases r with e | (v | _ | _ | _) <;> first | exact z | exact z.elim | skip
  obtain ⟨rfl, z⟩ := z
  first
    | exact wpAny_pure (wpAny_pure z)
    | (wp_walk; exact z)
theorem call_ownK (F : ExcBaseFacts B newId initId bmB) (hT : ∀ X : String, bm.contains (.type X) = bmB.contains (.type X)) {rest : List Value} {kw : List (Str × Value)} {fI : Addr}
    (hC : h.get? C = some (excClassObj nm q C N bs bm hdct sn sub ab col dd k0 k1 k2 k3 k5 newId))
    (hi : W.Looks (model prog w) h (typeLookup (.ref C) "__init__") (some (.ref fI))) (hb : ∀ self, W.Looks (model prog w) h (bindSpecial (.ref fI) self) (.ref fI, [self])) (hrest : rest.length ≤ sizeLine)
    (hq : codeAny (model prog w) (A.under (.builtin "type.__call__" ⟨.ref C :: rest, kw⟩)) (.call (.ref fI) ⟨.ref (h.objs.size + 1) :: rest, kw⟩) (W.InitBack (h.objs.size + 1) R)
      ⟨(h.push (W.kdv_tup rest)).push (excO C h.objs.size), g, d, t, os⟩) :
    codeAny (model prog w) A (.call (.ref C) ⟨rest, kw⟩) R ⟨h, g, d, t, os⟩ := by
  have f1 := tc_lookup
  have f2 := tc_bind (.ref C)
  have hTy : (⟨h, g, d, t, os⟩ : Shared).TypeIs (.ref C) "type" := ⟨_, hC, rfl⟩
  refine codeAny_of_tree ?_
  show wpAny _ _ (callAny (.ref C) _) _ _ _
  repeat (any_goals (first | assumption | with_reducible refine wpAny_loadPart_at hC ?_ | wp_step))
  refine ⟨rfl, ?_⟩
  refine codeAny_call_builtin_at (Code.quiet_builtin _ (by decide +kernel)) entry_typeCall (wpAny_check_type_call_sub hC (type_call_ownK F hT hC hi hb hrest ?_))
  refine codeAny_mono hq fun r s' z => ?_
  rcases r with e | (v | _ | _ | _) <;> exact z
end
section
open Builtin Builtin.ObjectAttr
variable {P : Program} {w : World} {A : Around} {E : Value → Shared → Prop} {K : PySem.W.Frag} {h : Heap} {g : Array GenState} {d : Drawn} {t : Nat} {os : OsState} {C fI cc cda : Addr} {B newId initId : String} {bmB : List Value} {qual : Str} {params : Arguments} {body : List Stmt} {scope : Scope}
/-- C(v), its own __init__(self, f): super().__init__(); self.f = f -/
theorem xc_callK1 {file : Str} {mg mb : Str → Option Value} {f : Str} {v : Value} {ar : Arg} {p0 p1 p2 p3 p4 q0 q1 q2 q3 : Pos} {rest : List Value} {kw : List (Str × Value)} {Q : Value → Shared → Prop}
    (T : XcI K file C fI cc cda B newId initId bmB qual params [.Expr (.Call (.Attribute (.Call (.Name "super" p0) [] [] p1) "__init__" p2) [] [] p3) p4, .Assign [.Attribute (.Name ar.arg q0) f q1] (.Name f q2) q3] scope)
    (X : K.In h) (hg : h.Ns mainGlobals mg) (hmg : mg "super" = none) (hb : h.Ns builtinsNs mb) (hmb : mb "super" = some (.type "super")) (hlim : h.NoLimit) (hroom : (A.under (.builtin "type.__call__" ⟨.ref C :: rest, kw⟩)).depth < recursionLimit)
    (hp : (params.posonlyargs ++ params.args).head? = some ar) (hfile : ((P.main.file : Str) == file) = true) (htop : (P.main.scope.names.lookup ("super" : Str)).isSome = false)
    (hks : scope.names.lookup ("super" : Str) = some .globalImplicit) (hkc : scope.names.lookup ("__class__" : Str) = some .free) (hka : scope.names.lookup ar.arg = some .local) (hkf : scope.names.lookup f = some .local) (hk : scope.kind = .function)
    (hcl : ∀ x ∈ scope.names, x.2 ≠ .cell) (hco : scope.isCoroutine = false) (hgen : scope.isGenerator = false) (hne : ar.arg ≠ f) (hd0 : (ar.arg == ("__debug__" : Str)) = false) (hd1 : (f == ("__debug__" : Str)) = false)
    (ht : PySem.W.takerIn K C f = some none)
    (hi : ∀ L, interactive (PySem.W.ksEnv qual scope L fI (.ref cda) cc) = false)
    (hsw : ∀ L, swapsWith (.Name f q2) (some (.Attribute (.Name ar.arg q0) f q1)) q3.line (PySem.W.ksEnv qual scope L fI (.ref cda) cc) = pure false)
    (hev : ∀ L, ∃ pl : Sem Bool, eval (.Call (.Attribute (.Call (.Name "super" p0) [] [] p1) "__init__" p2) [] [] p3) (PySem.W.ksEnv qual scope L fI (.ref cda) cc) = (do
      let ov ← attributeBase (.Call (.Name "super" p0) [] [] p1) "__init__" (PySem.W.ksEnv qual scope L fI (.ref cda) cc) (eval (.Call (.Name "super" p0) [] [] p1) (PySem.W.ksEnv qual scope L fI (.ref cda) cc))
      standAt p2.atName
      let (f, first) ← holding [ov] (getMethod ov "__init__" pl)
      callWith p3 f first (backTo p3 (starEach [] (PySem.W.ksEnv qual scope L fI (.ref cda) cc))) []))
    (hrest : rest.length ≤ sizeLine) (hbd : ∀ (s : Shared) (u : Value) (body : List Stmt) (kV doc pm : Value) (an : Option Addr) (cdv ct : Value) (cc : Addr), BindsTo s (PySem.W.ksFn "__init__" qual params body scope .none kV doc pm an cdv ct cc) ⟨u :: rest, kw⟩ [(ar.arg, u), (f, v)])
    (hq : ∀ h' tk' dx t', (∀ b o, h.get? b = some o → h'.get? b = some o) → h.objs.size ≤ dx → dx ≠ h.objs.size + 1 → h'.get? (h.objs.size + 1) = some (PySem.W.excObj C t' (some dx) .none) → h'.Ns1 dx (fun y => if y = f then some v else none) → Q (.ref (h.objs.size + 1)) ⟨h', g, d, tk', os⟩) :
    wpAny (model P w) A (call (.ref C) rest kw) Q E ⟨h, g, d, t, os⟩ := by
  obtain ⟨nm, N', qn, bs, bm, hdct, sn, sub, ab, col, dd, k0, k1, k2, k3, k5, hC, hT⟩ := PySem.W.excInit_of X T.exi
  obtain ⟨oc, od, kV, doc, pm, an, ct, osl, hfn⟩ := T.fn
  refine wpAny_call (call_ownK T.fb hT hC (PySem.W.looks_findIn X T.init) (fun self => PySem.W.bind_fn X self T.tyI) hrest ?_)
  have kk : ∀ b o, h.get? b = some o → ((h.push (PySem.W.kdv_tup rest)).push (HandSPX.excO C h.objs.size)).get? b = some o := fun b o e => Heap.get?_push_of_some _ (Heap.get?_push_of_some _ e)
  have X2 : K.In ((h.push (PySem.W.kdv_tup rest)).push (HandSPX.excO C h.objs.size)) := X.keeps kk
  have hget : ((h.push (PySem.W.kdv_tup rest)).push (HandSPX.excO C h.objs.size)).get? (h.objs.size + 1) = some (HandSPX.excO C h.objs.size) := by heap_get
  have hsz : ((h.push (PySem.W.kdv_tup rest)).push (HandSPX.excO C h.objs.size)).objs.size = h.objs.size + 2 := by rw [Heap.size_push, Heap.size_push]
  refine ks_codeAny_call_defAt (binds := [(ar.arg, .ref (h.objs.size + 1)), (f, v)]) hroom (X2 _ _ hfn) rfl (hlim.keeps kk) (PySem.W.codeRec_of X2 T.code) rfl (hbd _ _ _ _ _ _ _ _ _ _) hcl (fun y hy => ?_) (fun h1 hns hk1 => ?_) hco hgen hk
  · rcases List.mem_cons.mp hy with rfl | hy
    · exact hka
    · rcases List.mem_cons.mp hy with rfl | hy
      · exact hkf
      · cases hy
  show _root_.PySem.wpAt _ _ (.func _ (PySem.W.ksEnv qual scope _ fI (.ref cda) cc)) (execs _ (PySem.W.ksEnv qual scope _ fI (.ref cda) cc)) _ _ _
  rw [hsz] at hns ⊢
  have F1 : Fr h (h.objs.size + 2) h1 (fun y => List.lookup y [(ar.arg, Value.ref (h.objs.size + 1)), (f, v)].reverse) := ⟨hns, fun b o e => hk1 b o (kk b o e), Nat.le_add_right _ _⟩
  have N1 : News h (h.objs.size + 2) h1 [(h.objs.size + 1, PySem.W.excObj C h.objs.size none .none)] := fun p hp => by
    have e : p = (h.objs.size + 1, PySem.W.excObj C h.objs.size none .none) := by simpa using hp
    subst e
    refine ⟨hk1 _ _ hget, Nat.ne_of_lt (Nat.lt_succ_self _), ?_⟩
    cases z : h.get? (h.objs.size + 1) with
    | none => rfl
    | some o => exact absurd (Heap.lt_size z) (Nat.not_lt.mpr (Nat.le_succ _))
  have mself : List.lookup ar.arg [(ar.arg, Value.ref (h.objs.size + 1)), (f, v)].reverse = some (.ref (h.objs.size + 1)) := by
    have : (ar.arg == f) = false := by simpa using hne
    simp [List.lookup, this]
  have mf : List.lookup f [(ar.arg, Value.ref (h.objs.size + 1)), (f, v)].reverse = some v := by simp [List.lookup]
  refine ks_wpAt_execs_cons (xc_super T (s := ⟨h1, g, d, _, os⟩) F1 X N1 hg hmg hb hmb hp mself hfile htop hks hkc hka hk (hi _) (hev _) fun h2 t2 tk2 F2 e2 => ?_)
  refine ks_wpAt_execs_cons (wpAt_of_wpAny ?_)
  refine plainObj_wpAny_Assign_Attribute ?_ (hsw _)
  refine wpAny_Name (wpAny_loadName_local hk hkf F2.ns mf ?_) hd1
  refine wpAny_Name (wpAny_loadName_local hk hka F2.ns mself ?_) hd0
  refine xc_set T (X.keeps F2.keep) e2 ht fun h3 tk3 dx k3 hdx hne3 e3 hn3 => ?_
  refine wpAt_of_wpAny (wpAny_execs_nil ?_)
  refine ⟨rfl, hq h3 tk3 dx t2 (fun b o e => k3 b o (fun z => ?_) (F2.keep b o e)) (Nat.le_trans ?_ hdx) hne3 e3 hn3⟩
  · rw [z] at e
    exact absurd (Heap.lt_size e) (Nat.not_lt.mpr (Nat.le_succ _))
  · have q : h.objs.size + 1 < h2.objs.size := Heap.lt_size e2
    exact Nat.le_of_lt (Nat.lt_of_succ_lt q)
/-- C(v, v2), its own __init__(self, f, f2): super().__init__(); self.f = f; self.f2 = f2 -/
theorem xc_callK2 {file : Str} {mg mb : Str → Option Value} {f f2 : Str} {v v2 : Value} {ar : Arg} {p0 p1 p2 p3 p4 q0 q1 q2 q3 r0 r1 r2 r3 : Pos} {rest : List Value} {kw : List (Str × Value)} {Q : Value → Shared → Prop}
    (T : XcI K file C fI cc cda B newId initId bmB qual params [.Expr (.Call (.Attribute (.Call (.Name "super" p0) [] [] p1) "__init__" p2) [] [] p3) p4, .Assign [.Attribute (.Name ar.arg q0) f q1] (.Name f q2) q3, .Assign [.Attribute (.Name ar.arg r0) f2 r1] (.Name f2 r2) r3] scope)
    (X : K.In h) (hg : h.Ns mainGlobals mg) (hmg : mg "super" = none) (hb : h.Ns builtinsNs mb) (hmb : mb "super" = some (.type "super")) (hlim : h.NoLimit) (hroom : (A.under (.builtin "type.__call__" ⟨.ref C :: rest, kw⟩)).depth < recursionLimit)
    (hp : (params.posonlyargs ++ params.args).head? = some ar) (hfile : ((P.main.file : Str) == file) = true) (htop : (P.main.scope.names.lookup ("super" : Str)).isSome = false)
    (hks : scope.names.lookup ("super" : Str) = some .globalImplicit) (hkc : scope.names.lookup ("__class__" : Str) = some .free) (hka : scope.names.lookup ar.arg = some .local) (hkf : scope.names.lookup f = some .local) (hkf2 : scope.names.lookup f2 = some .local) (hk : scope.kind = .function)
    (hcl : ∀ x ∈ scope.names, x.2 ≠ .cell) (hco : scope.isCoroutine = false) (hgen : scope.isGenerator = false) (hne : ar.arg ≠ f) (hne2 : ar.arg ≠ f2) (hnf : f ≠ f2) (hd0 : (ar.arg == ("__debug__" : Str)) = false) (hd1 : (f == ("__debug__" : Str)) = false) (hd2 : (f2 == ("__debug__" : Str)) = false)
    (ht : PySem.W.takerIn K C f = some none) (ht2 : PySem.W.takerIn K C f2 = some none)
    (hi : ∀ L, interactive (PySem.W.ksEnv qual scope L fI (.ref cda) cc) = false)
    (hsw : ∀ L, swapsWith (.Name f q2) (some (.Attribute (.Name ar.arg q0) f q1)) q3.line (PySem.W.ksEnv qual scope L fI (.ref cda) cc) = pure false)
    (hsw2 : ∀ L, swapsWith (.Name f2 r2) (some (.Attribute (.Name ar.arg r0) f2 r1)) r3.line (PySem.W.ksEnv qual scope L fI (.ref cda) cc) = pure false)
    (hev : ∀ L, ∃ pl : Sem Bool, eval (.Call (.Attribute (.Call (.Name "super" p0) [] [] p1) "__init__" p2) [] [] p3) (PySem.W.ksEnv qual scope L fI (.ref cda) cc) = (do
      let ov ← attributeBase (.Call (.Name "super" p0) [] [] p1) "__init__" (PySem.W.ksEnv qual scope L fI (.ref cda) cc) (eval (.Call (.Name "super" p0) [] [] p1) (PySem.W.ksEnv qual scope L fI (.ref cda) cc))
      standAt p2.atName
      let (f, first) ← holding [ov] (getMethod ov "__init__" pl)
      callWith p3 f first (backTo p3 (starEach [] (PySem.W.ksEnv qual scope L fI (.ref cda) cc))) []))
    (hrest : rest.length ≤ sizeLine) (hbd : ∀ (s : Shared) (u : Value) (body : List Stmt) (kV doc pm : Value) (an : Option Addr) (cdv ct : Value) (cc : Addr), BindsTo s (PySem.W.ksFn "__init__" qual params body scope .none kV doc pm an cdv ct cc) ⟨u :: rest, kw⟩ [(ar.arg, u), (f, v), (f2, v2)])
    (hq : ∀ h' tk' dx t', (∀ b o, h.get? b = some o → h'.get? b = some o) → h.objs.size ≤ dx → dx ≠ h.objs.size + 1 → h'.get? (h.objs.size + 1) = some (PySem.W.excObj C t' (some dx) .none) → h'.Ns1 dx (fun y => if y = f2 then some v2 else if y = f then some v else none) → Q (.ref (h.objs.size + 1)) ⟨h', g, d, tk', os⟩) :
    wpAny (model P w) A (call (.ref C) rest kw) Q E ⟨h, g, d, t, os⟩ := by
  obtain ⟨nm, N', qn, bs, bm, hdct, sn, sub, ab, col, dd, k0, k1, k2, k3, k5, hC, hT⟩ := PySem.W.excInit_of X T.exi
  obtain ⟨oc, od, kV, doc, pm, an, ct, osl, hfn⟩ := T.fn
  refine wpAny_call (call_ownK T.fb hT hC (PySem.W.looks_findIn X T.init) (fun self => PySem.W.bind_fn X self T.tyI) hrest ?_)
  have kk : ∀ b o, h.get? b = some o → ((h.push (PySem.W.kdv_tup rest)).push (HandSPX.excO C h.objs.size)).get? b = some o := fun b o e => Heap.get?_push_of_some _ (Heap.get?_push_of_some _ e)
  have X2 : K.In ((h.push (PySem.W.kdv_tup rest)).push (HandSPX.excO C h.objs.size)) := X.keeps kk
  have hget : ((h.push (PySem.W.kdv_tup rest)).push (HandSPX.excO C h.objs.size)).get? (h.objs.size + 1) = some (HandSPX.excO C h.objs.size) := by heap_get
  have hsz : ((h.push (PySem.W.kdv_tup rest)).push (HandSPX.excO C h.objs.size)).objs.size = h.objs.size + 2 := by rw [Heap.size_push, Heap.size_push]
  refine ks_codeAny_call_defAt (binds := [(ar.arg, .ref (h.objs.size + 1)), (f, v), (f2, v2)]) hroom (X2 _ _ hfn) rfl (hlim.keeps kk) (PySem.W.codeRec_of X2 T.code) rfl (hbd _ _ _ _ _ _ _ _ _ _) hcl (fun y hy => ?_) (fun h1 hns hk1 => ?_) hco hgen hk
  · rcases List.mem_cons.mp hy with rfl | hy
    · exact hka
    · rcases List.mem_cons.mp hy with rfl | hy
      · exact hkf
      · rcases List.mem_cons.mp hy with rfl | hy
        · exact hkf2
        · cases hy
  show _root_.PySem.wpAt _ _ (.func _ (PySem.W.ksEnv qual scope _ fI (.ref cda) cc)) (execs _ (PySem.W.ksEnv qual scope _ fI (.ref cda) cc)) _ _ _
  rw [hsz] at hns ⊢
  have F1 : Fr h (h.objs.size + 2) h1 (fun y => List.lookup y [(ar.arg, Value.ref (h.objs.size + 1)), (f, v), (f2, v2)].reverse) := ⟨hns, fun b o e => hk1 b o (kk b o e), Nat.le_add_right _ _⟩
  have N1 : News h (h.objs.size + 2) h1 [(h.objs.size + 1, PySem.W.excObj C h.objs.size none .none)] := fun p hp => by
    have e : p = (h.objs.size + 1, PySem.W.excObj C h.objs.size none .none) := by simpa using hp
    subst e
    refine ⟨hk1 _ _ hget, Nat.ne_of_lt (Nat.lt_succ_self _), ?_⟩
    cases z : h.get? (h.objs.size + 1) with
    | none => rfl
    | some o => exact absurd (Heap.lt_size z) (Nat.not_lt.mpr (Nat.le_succ _))
  have b1 : (ar.arg == f) = false := by simpa using hne
  have b2 : (ar.arg == f2) = false := by simpa using hne2
  have b3 : (f == f2) = false := by simpa using hnf
  have mself : List.lookup ar.arg [(ar.arg, Value.ref (h.objs.size + 1)), (f, v), (f2, v2)].reverse = some (.ref (h.objs.size + 1)) := by simp [List.lookup, b1, b2]
  have mf : List.lookup f [(ar.arg, Value.ref (h.objs.size + 1)), (f, v), (f2, v2)].reverse = some v := by simp [List.lookup, b3]
  have mf2 : List.lookup f2 [(ar.arg, Value.ref (h.objs.size + 1)), (f, v), (f2, v2)].reverse = some v2 := by simp [List.lookup]
  refine ks_wpAt_execs_cons (xc_super T (s := ⟨h1, g, d, _, os⟩) F1 X N1 hg hmg hb hmb hp mself hfile htop hks hkc hka hk (hi _) (hev _) fun h2 t2 tk2 F2 e2 => ?_)
  refine ks_wpAt_execs_cons (wpAt_of_wpAny ?_)
  refine plainObj_wpAny_Assign_Attribute ?_ (hsw _)
  refine wpAny_Name (wpAny_loadName_local hk hkf F2.ns mf ?_) hd1
  refine wpAny_Name (wpAny_loadName_local hk hka F2.ns mself ?_) hd0
  refine xc_set T (X.keeps F2.keep) e2 ht fun h3 tk3 dx k3 hdx hne3 e3 hn3 => ?_
  have q1 : h.objs.size + 1 < h2.objs.size := Heap.lt_size e2
  have k2 : ∀ b o, h.get? b = some o → h2.get? b = some o := F2.keep
  have k4 : ∀ b o, h.get? b = some o → h3.get? b = some o := fun b o e => k3 b o (fun z => by
    rw [z] at e
    exact absurd (Heap.lt_size e) (Nat.not_lt.mpr (Nat.le_succ _))) (k2 b o e)
  have hLx : h.objs.size + 2 ≠ h.objs.size + 1 := by omega
  have n3 : h3.Ns (h.objs.size + 2) (fun y => List.lookup y [(ar.arg, Value.ref (h.objs.size + 1)), (f, v), (f2, v2)].reverse) := F2.ns.at fun o e => k3 _ o hLx e
  refine ks_wpAt_execs_cons (wpAt_of_wpAny ?_)
  refine plainObj_wpAny_Assign_Attribute ?_ (hsw2 _)
  refine wpAny_Name (wpAny_loadName_local hk hkf2 n3 mf2 ?_) hd2
  refine wpAny_Name (wpAny_loadName_local hk hka n3 mself ?_) hd0
  refine xc_set2 T (X.keeps k4) e3 hn3 (ns := [f]) (fun y hy => ?_) (by show 1 ≤ 1000; decide) ht2 fun h5 tk5 k5 e5 hn5 => ?_
  · by_cases z : y = f
    · rw [z]; exact List.mem_singleton_self _
    · exact absurd (if_neg z) hy
  refine wpAt_of_wpAny (wpAny_execs_nil ?_)
  refine ⟨rfl, hq h5 tk5 dx t2 (fun b o e => k5 b o (fun z => ?_) (k4 b o e)) (Nat.le_trans ?_ hdx) hne3 e5 hn5⟩
  · rw [z] at e
    exact absurd (Heap.lt_size e) (Nat.not_lt.mpr (Nat.le_of_lt (Nat.lt_of_lt_of_le (Nat.lt_of_succ_lt q1) hdx)))
  · exact Nat.le_of_lt (Nat.lt_of_succ_lt q1)
end
/-! ### C(..) as a value -/
/-- C(..) with the arguments B ws makes an exception with the fields fs -/
structure MkV (b : Base) (cn : Str) (fs : List Str) (B : List Value → Args) : Prop where
  kp : PySem.W.keepIn b.K (.ref (He.ga b.K cn)) = true
  call : ∀ (A : Around) (E : Value → Shared → Prop) (h : Heap) (g : Array GenState) (d : Drawn) (t : Nat) (os : OsState) (mb : Str → Option Value) (ws : List Value) (Q : Value → Shared → Prop), ws.length = fs.length → b.K.In h → h.Ns mainGlobals b.mg → h.Ns builtinsNs mb → mb "super" = some (.type "super") → h.NoLimit →
    (A.under (.builtin "type.__call__" ⟨.ref (He.ga b.K cn) :: (B ws).pos, (B ws).kw⟩)).depth < recursionLimit →
    (∀ h' tk' dx t' mA, (∀ b o, h.get? b = some o → h'.get? b = some o) → h.objs.size ≤ dx → dx ≠ h.objs.size + 1 → h'.get? (h.objs.size + 1) = some (PySem.W.excObj (He.ga b.K cn) t' (some dx) .none) → h'.Ns1 dx mA → (∀ y, mA y = (fs.zip ws).lookup y) → Q (.ref (h.objs.size + 1)) ⟨h', g, d, tk', os⟩) →
    wpAny (model b.P b.w) A (PySem.call (.ref (He.ga b.K cn)) (B ws).pos (B ws).kw) Q E ⟨h, g, d, t, os⟩
theorem lk1 {f y : Str} {v : Value} : (if y = f then some v else none) = List.lookup y [(f, v)] := by
  by_cases e : y = f
  · subst e; simp [List.lookup]
  · have : (y == f) = false := by simpa using e
    rw [if_neg e]; simp [List.lookup, this]
theorem lk2 {f f2 y : Str} {v v2 : Value} (hne : f ≠ f2) : (if y = f2 then some v2 else if y = f then some v else none) = List.lookup y [(f, v), (f2, v2)] := by
  by_cases e : y = f
  · subst e
    rw [if_neg hne, if_pos rfl]; simp [List.lookup]
  · have b : (y == f) = false := by simpa using e
    by_cases e2 : y = f2
    · subst e2; rw [if_pos rfl]; simp [List.lookup, b]
    · have b2 : (y == f2) = false := by simpa using e2
      rw [if_neg e2, if_neg e]; simp [List.lookup, b, b2]
theorem lk2' {f f2 y : Str} {v v2 : Value} (hne : f ≠ f2) : (if y = f2 then some v2 else if y = f then some v else none) = List.lookup y [(f2, v2), (f, v)] := by
  by_cases e2 : y = f2
  · subst e2; rw [if_pos rfl]; simp [List.lookup]
  · have b2 : (y == f2) = false := by simpa using e2
    rw [if_neg e2]
    rw [lk1]; simp [List.lookup, b2]
abbrev BdI (d : XiD) (as : Args) (bs : List (Str × Value)) : Prop := ∀ (s : Shared) (body : List Stmt) (kV doc pm : Value) (an : Option Addr) (cdv ct : Value) (cc : Addr), BindsTo s (PySem.W.ksFn "__init__" d.qual d.params body d.scope .none kV doc pm an cdv ct cc) as bs
theorem mkV1_of {L : Tl} {b : Base} {d : XiD} {ar : Arg} {p0 p1 p2 p3 p4 q0 q1 q2 q3 : Pos} {B : List Value → Args} (T : Tx L b) (h : XiOk L.file b.K d) (hB : BaseOk d.B) (hs : b.mg "super" = none) (I : Ini1 d ar p0 p1 p2 p3 p4 q0 q1 q2 q3)
    (hl : ∀ v, (B [v]).pos.length ≤ sizeLine) (hbd : ∀ u v, BdI d ⟨u :: (B [v]).pos, (B [v]).kw⟩ [(ar.arg, u), (d.f, v)]) : MkV b d.cn [d.f] B := by
  obtain ⟨hX, ht⟩ := h.xc hB.fb hB.kf hB.sf
  refine ⟨hX.kp, fun A E h g dr t os mb ws Q hw kI ns nb hmb lim hroom hq => ?_⟩
  rw [I.body] at hX
  match ws, hw with
  | [v], _ => exact xc_callK1 hX kI ns hs nb hmb lim hroom I.hp T.fl T.sup I.hks I.hkc I.hka I.hkf I.hk I.hcl I.hco I.hgen I.hne I.hd0 I.hd1 ht (fun L => I.hi L _ _ _) (fun L => I.hsw L _ _ _) (fun L => I.hev L _ _ _) (hl v) (fun s u body kV doc pm an cdv ct cc => hbd u v s body kV doc pm an cdv ct cc) (fun h' tk' dx t' k1 k2 k3 k4 k5 => hq h' tk' dx t' _ k1 k2 k3 k4 k5 fun y => lk1)
theorem mkV2_of {L : Tl} {b : Base} {d : XiD} {f2 : Str} {ar : Arg} {p0 p1 p2 p3 p4 q0 q1 q2 q3 r0 r1 r2 r3 : Pos} {B : List Value → Args} (T : Tx L b) (h : XiOk L.file b.K d) (ht2 : tkB d.cn f2 b.K = true) (hB : BaseOk d.B) (hs : b.mg "super" = none) (I : Ini2 d f2 ar p0 p1 p2 p3 p4 q0 q1 q2 q3 r0 r1 r2 r3)
    (hl : ∀ v v2, (B [v, v2]).pos.length ≤ sizeLine) (hbd : ∀ u v v2, BdI d ⟨u :: (B [v, v2]).pos, (B [v, v2]).kw⟩ [(ar.arg, u), (d.f, v), (f2, v2)]) : MkV b d.cn [d.f, f2] B := by
  obtain ⟨hX, ht⟩ := h.xc hB.fb hB.kf hB.sf
  refine ⟨hX.kp, fun A E h g dr t os mb ws Q hw kI ns nb hmb lim hroom hq => ?_⟩
  rw [I.body] at hX
  match ws, hw with
  | [v, v2], _ => exact xc_callK2 hX kI ns hs nb hmb lim hroom I.hp T.fl T.sup I.hks I.hkc I.hka I.hkf I.hkf2 I.hk I.hcl I.hco I.hgen I.hne I.hne2 I.hnf I.hd0 I.hd1 I.hd2 ht (He.eqO_ok ht2) (fun L => I.hi L _ _ _) (fun L => I.hsw L _ _ _) (fun L => I.hsw2 L _ _ _) (fun L => I.hev L _ _ _) (hl v v2) (fun s u body kV doc pm an cdv ct cc => hbd u v v2 s body kV doc pm an cdv ct cc) (fun h' tk' dx t' k1 k2 k3 k4 k5 => hq h' tk' dx t' _ k1 k2 k3 k4 k5 fun y => lk2 I.hnf)
/-- .. the second parameter first -/
theorem mkV2s_of {L : Tl} {b : Base} {d : XiD} {f2 : Str} {ar : Arg} {p0 p1 p2 p3 p4 q0 q1 q2 q3 r0 r1 r2 r3 : Pos} {B : List Value → Args} (T : Tx L b) (h : XiOk L.file b.K d) (ht2 : tkB d.cn f2 b.K = true) (hB : BaseOk d.B) (hs : b.mg "super" = none) (I : Ini2 d f2 ar p0 p1 p2 p3 p4 q0 q1 q2 q3 r0 r1 r2 r3)
    (hl : ∀ v v2, (B [v2, v]).pos.length ≤ sizeLine) (hbd : ∀ u v v2, BdI d ⟨u :: (B [v2, v]).pos, (B [v2, v]).kw⟩ [(ar.arg, u), (d.f, v), (f2, v2)]) : MkV b d.cn [f2, d.f] B := by
  obtain ⟨hX, ht⟩ := h.xc hB.fb hB.kf hB.sf
  refine ⟨hX.kp, fun A E h g dr t os mb ws Q hw kI ns nb hmb lim hroom hq => ?_⟩
  rw [I.body] at hX
  match ws, hw with
  | [v2, v], _ => exact xc_callK2 hX kI ns hs nb hmb lim hroom I.hp T.fl T.sup I.hks I.hkc I.hka I.hkf I.hkf2 I.hk I.hcl I.hco I.hgen I.hne I.hne2 I.hnf I.hd0 I.hd1 I.hd2 ht (He.eqO_ok ht2) (fun L => I.hi L _ _ _) (fun L => I.hsw L _ _ _) (fun L => I.hsw2 L _ _ _) (fun L => I.hev L _ _ _) (hl v v2) (fun s u body kV doc pm an cdv ct cc => hbd u v v2 s body kV doc pm an cdv ct cc) (fun h' tk' dx t' k1 k2 k3 k4 k5 => hq h' tk' dx t' _ k1 k2 k3 k4 k5 fun y => lk2' I.hnf)
section
variable {c : SC} {W : WX} {pos p0 : Pos} {e : Expr} {es : List Expr} {fe : XE'} {x cn f : Str} {fr : XA} {gs : List Str}
theorem exV_ok {P : Program} {w : World} {H : Hp} {h : Heap} {a : Addr} {cls : Value} {od : Option Addr} {ob : Obj} {vs : Array Value} (e : h.get? a = some ob) (h1 : ob.cls = cls) (h2 : ob.dict = od) (h3 : ob.data = .fields vs) : ObjOk P w H h a (ExV cls od a) :=
  ⟨⟨ob, vs, e, h1, h2, h3⟩, ⟨ob, e⟩, fun _ _ ⟨o, v, q, r⟩ k => ⟨o, v, k o q, r⟩⟩
theorem val_fin {X : Cx} {pins : List (Addr × Obj)} {σ : L2.St} {H : Hp} {Q : VK} {s : Shared} {h' : Heap} {t' tk' dx C : Addr} {fs : List (Str × V)} {mA : Str → Option Value} (I : Inv X pins σ H s)
    (k : ∀ b o, s.heap.get? b = some o → h'.get? b = some o) (hdx : s.heap.objs.size ≤ dx) (hne : dx ≠ s.heap.objs.size + 1) (he : h'.get? (s.heap.objs.size + 1) = some (PySem.W.excObj C t' (some dx) .none)) (hn : h'.Ns1 dx mA) (hr : ∀ y, RelO (fs.lookup y) (mA y))
    (q : ∀ a d, H a = none → H d = none → d ≠ a → Q (.ref a) (upd (upd H d (.xd fs)) a (ExV (.ref C) (some d) a))) : EP X pins σ Q (.ref (s.heap.objs.size + 1)) { s with heap := h', toks := tk' } := by
  obtain ⟨G, g1, g2⟩ := restrict h' fun b => decide (b ≠ s.heap.objs.size + 1)
  have gk : ∀ b o, b ≠ s.heap.objs.size + 1 → h'.get? b = some o → G.get? b = some o := fun b o hb z => (g1 b (decide_eq_true hb)).trans z
  have g3 : G.get? (s.heap.objs.size + 1) = none := g2 _ (decide_eq_false fun y => y rfl)
  have gs : ∀ b o, G.get? b = some o → h'.get? b = some o := fun b o z => by
    by_cases hb : b = s.heap.objs.size + 1
    · rw [hb, g3] at z
      cases z
    · exact (g1 b (decide_eq_true hb)).symm.trans z
  have nd : H dx = none := I.hok.fresh hdx
  have na : H (s.heap.objs.size + 1) = none := I.hok.fresh (Nat.le_succ _)
  have kG : ∀ b o, s.heap.get? b = some o → G.get? b = some o := fun b o z => gk b o (Nat.ne_of_lt (Nat.lt_succ_of_lt (Heap.lt_size z))) (k b o z)
  have J := I.laid (t' := tk') (a := dx) (o := .xd fs) (h' := G) kG hdx ⟨_, hn.at fun o z => gk dx o hne z, hr⟩
  have J2 := J.laidN (t' := tk') (a := s.heap.objs.size + 1) (o := ExV (.ref C) (some dx) (s.heap.objs.size + 1)) (h' := h') gs g3 (by rw [upd_ne (Ne.symm hne)]; exact na) (exV_ok he rfl rfl rfl)
  exact ⟨.ref (s.heap.objs.size + 1), _, J2, rfl, q _ _ na nd hne⟩
theorem relO_zip {gs : List Str} : ∀ {vs : List V} {ws : List Value}, Vals vs ws → ∀ y, RelO ((gs.zip vs).lookup y) ((gs.zip ws).lookup y) := by
  induction gs with
  | nil => intro vs ws _ y; exact True.intro
  | cons g gs ih =>
    intro vs ws r y
    cases r with
    | nil => exact True.intro
    | @cons v u vs ws rv r =>
      show RelO (List.lookup y ((g, v) :: gs.zip vs)) (List.lookup y ((g, u) :: gs.zip ws))
      rw [List.lookup_cons, List.lookup_cons]
      cases e : (y == g) with
      | true => exact rv
      | false => exact ih r y
theorem rpF_zip {K : PySem.W.Frag} {F : Hp} {al : List Addr} : ∀ {gs : List Str} {ds : List D} {vs : List V}, RpL K F al ds vs → RpF K F al (gs.zip ds) (gs.zip vs)
  | [], _, _, _ => .nil
  | _ :: _, _, _, .nil => .nil
  | g :: gs, _, _, .cons r q => .cons r (rpF_zip q)
def exvF (cn : Str) (gs : List Str) (a : XA) : XE' := fun r m => (a r m).bind fun ds m1 => if ds.length = gs.length then .ok (.exv cn (gs.zip ds)) m1 else .stuck
abbrev exvQ (K : PySem.W.Frag) (cn : Str) (gs : List Str) (Q : VK) (vs : List V) (H1 : Hp) : Prop := vs.length = gs.length ∧ ∀ a d, H1 a = none → H1 d = none → d ≠ a → Q (.ref a) (upd (upd H1 d (.xd (gs.zip vs))) a (ExV (.ref (He.ga K cn)) (some d) a))
theorem exv_post {K : PySem.W.Frag} {E : XK} {F : Hp} {al : List Addr} {H : Hp} {Q : VK} {m : Mu} {ds : List D} {vs : List V} (hw : Wd K F al m H) (r : RpL K F al ds vs) (p : Post K (RD K) E F al Q (if ds.length = gs.length then .ok (.exv cn (gs.zip ds)) m else .stuck)) : exvQ K cn gs Q vs H := by
  split at p
  · rename_i hl
    refine ⟨by rw [← r.len]; exact hl, fun a d ha hd hne => ?_⟩
    have w1 := hw.new (o := .xd (gs.zip vs)) hd
    have fd : F d = none := hw.fnone hd
    have fa : F a = none := hw.fnone ha
    have ha1 : upd H d (.xd (gs.zip vs)) a = none := by rw [upd_ne (Ne.symm hne)]; exact ha
    have w2 := w1.new (o := ExV (.ref (He.ga K cn)) (some d) a) ha1
    have fa1 : upd F d (.xd (gs.zip vs)) a = none := by rw [upd_ne (Ne.symm hne)]; exact fa
    have e1 : Le F al (upd F d (.xd (gs.zip vs))) al := ext_new fd
    have e2 : Le (upd F d (.xd (gs.zip vs))) al (upd (upd F d (.xd (gs.zip vs))) a (ExV (.ref (He.ga K cn)) (some d) a)) al := ext_new fa1
    exact p (.ref a) _ _ al (e1.trans e2) w2 (.exv upd_same (.inr ⟨d, rfl, by rw [upd_ne hne]; exact upd_same⟩) ((rpF_zip r).up (e1.trans e2)))
  · exact p.elim
theorem de_exvP (M : MkV c.toB cn gs (fun ws => ⟨ws, []⟩)) (hs : c.mg "super" = none) (gC : c.mg x = some (.ref (He.ga c.K cn))) (ha : DA c W (e :: es) fr) (hr : 1 ≤ c.k := by first | exact Nat.le_of_ble_eq_true rfl | exact Nat.le_refl _ | exact Nat.le_add_right _ _) (hcm : c.calm = true := by rfl) (hg : c.sc.names.lookup x = some .globalImplicit := by rfl)
    (hdb : (x == ("__debug__" : Str)) = false := by decide) (hst : ∀ env, starEach (e :: es) env = (false, eval e env) :: starEach es env := by intro _; rfl) (hpl : ∀ env, (backTo pos (starEach es env)).any (·.1) = false := by intro _; rfl) : DE c W (.Call (.Name x p0) (e :: es) [] pos) (exvF cn gs fr) := by
  obtain ⟨⟨t, a1, a2⟩, _⟩ := ha
  refine ⟨fun σ H Q => t σ H fun vs H1 => exvQ c.K cn gs Q vs H1, fun y hy => ⟨fun pins s σ H Q I h => ?_⟩, fun ρ m σ H F al Q he hw p => ?_⟩
  · refine wpAny_Call_Name_kw (ld_glob I (hy.gl hg) gC ?_ hdb)
    refine PySem.W.callWith_K (h₀ := (c.cx y).base) I.ok.mod.kin M.kp (thn ((a1 y hy).run pos pins s σ H _ I h) fun us s1 ⟨vs, H1, I1, r1, hl, q1⟩ => ⟨I1.kIn, ?_⟩) (hst _) (hpl _)
    obtain ⟨mb, hb1, hb2⟩ := I1.mod.blt
    have hsup : mb "super" = some (.type "super") := (hb2 _ (by decide)).trans (by decide +kernel)
    have ns : s1.heap.Ns mainGlobals c.mg := I1.mod.glob.keeps I1.bk
    have lim : s1.heap.NoLimit := I1.nolimit
    have kI : c.toB.K.In s1.heap := I1.kIn
    obtain ⟨h1, g1, d1, t1, os1⟩ := s1
    refine M.call _ _ h1 g1 d1 t1 os1 mb us _ (r1.length.symm.trans hl) kI ns (hb1.keeps I1.bk) hsup lim ((hy.rm hcm hr).make (He.ga c.K cn) us []).depth fun h' tk' dx t' mA k hdx hne he hn hm => ?_
    exact val_fin I1 k hdx hne he hn (fun y => by rw [hm y]; exact relO_zip r1 y) q1
  · exact a2 ρ m σ H F al _ he hw (Post.step p fun ds m1 vs H1 F1 al1 e1 w1 q1 p1 => exv_post w1 q1 p1)
theorem de_exvK {kws : List Keyword} {fk : XA} (M : MkV c.toB cn gs (fun ws => ⟨[], gs.zip ws⟩)) (hs : c.mg "super" = none) (gC : c.mg x = some (.ref (He.ga c.K cn))) (hkw : DK c W kws fk) (hr : 1 ≤ c.k := by first | exact Nat.le_of_ble_eq_true rfl | exact Nat.le_refl _ | exact Nat.le_add_right _ _) (hcm : c.calm = true := by rfl) (hg : c.sc.names.lookup x = some .globalImplicit := by rfl)
    (hall : ∀ env, (backToKw pos (keywordEach kws env)).all (·.1.isSome) = true := by intro _; rfl) (hks : ∀ env, (backToKw pos (keywordEach kws env)).filterMap (·.1) = gs := by intro _; rfl)
    (hdb : (x == ("__debug__" : Str)) = false := by decide) (hpl : ∀ env, ((backTo pos (starEach [] env)).any (·.1) || (backToKw pos (keywordEach kws env)).any (·.1.isNone)) = false := by intro _; rfl) : DE c W (.Call (.Name x p0) [] kws pos) (exvF cn gs fk) := by
  obtain ⟨⟨tk, k1, k2⟩, hlenk⟩ := hkw
  refine ⟨fun σ H Q => tk σ H fun vs H1 => exvQ c.K cn gs Q vs H1, fun y hy => ⟨fun pins s σ H Q I h => ?_⟩, fun ρ m σ H F al Q he hw p => ?_⟩
  · refine wpAny_Call_Name_kw (ld_glob I (hy.gl hg) gC (PySem.W.callWith_KW0 (h₀ := c.base) I.ok.mod.kin M.kp (hall _) (thn ((k1 y hy).run pos pins s σ H _ I h) fun us s1 ⟨vs, H1, I1, r1, hl, q1⟩ => ⟨I1.kIn, ?_⟩) (hpl _)) hdb)
    rw [hks]
    obtain ⟨mb, hb1, hb2⟩ := I1.mod.blt
    have hsup : mb "super" = some (.type "super") := (hb2 _ (by decide)).trans (by decide +kernel)
    have ns : s1.heap.Ns mainGlobals c.mg := I1.mod.glob.keeps I1.bk
    have lim : s1.heap.NoLimit := I1.nolimit
    have kI : c.toB.K.In s1.heap := I1.kIn
    obtain ⟨h1, g1, d1, t1, os1⟩ := s1
    refine M.call _ _ h1 g1 d1 t1 os1 mb us _ (r1.length.symm.trans hl) kI ns (hb1.keeps I1.bk) hsup lim ((hy.rm hcm hr).make (He.ga c.K cn) [] (gs.zip us)).depth fun h' tk' dx t' mA k hdx hne he hn hm => ?_
    exact val_fin I1 k hdx hne he hn (fun y => by rw [hm y]; exact relO_zip r1 y) q1
  · exact k2 ρ m σ H F al _ he hw (Post.step p fun ds m1 vs H1 F1 al1 e1 w1 q1 p1 => exv_post w1 q1 p1)
/-- .. C() -/
def exv0 (cn : Str) : XE' := fun _ m => .ok (.exv cn []) m
theorem de_exv0 (M : MkX0 c.toB cn) (gC : c.mg x = some (.ref (He.ga c.K cn))) (hg : c.sc.names.lookup x = some .globalImplicit := by rfl) (hdb : (x == ("__debug__" : Str)) = false := by decide) : DE c W (.Call (.Name x p0) [] [] pos) (exv0 cn) := by
  refine ⟨fun σ H Q => ∀ a, H a = none → Q (.ref a) (upd H a (ExV (.ref (He.ga c.K cn)) none a)), fun y hy => ⟨fun pins s σ H Q I h => ?_⟩, fun ρ m σ H F al Q he hw p => ?_⟩
  · refine wpAny_Call_Name_kw (ld_glob I (hy.gl hg) gC ?_ hdb)
    refine PySem.W.callWith_K0 I.kIn M.kp ?_
    refine M.call _ _ s _ I.kIn fun h' a hm => ?_
    have hn : H a = none := I.hok.gone hm.new
    obtain ⟨t, ht, _, _⟩ := hm.there
    exact ⟨.ref a, upd H a (ExV (.ref (He.ga c.K cn)) none a), I.laidN (t' := s.toks) hm.keeps hm.new hn (exV_ok ht rfl rfl rfl), rfl, h a hn⟩
  · intro a ha
    have fa : F a = none := hw.fnone ha
    exact p (.ref a) _ _ al (ext_new fa) (hw.new ha) (.exv upd_same (.inl ⟨rfl, rfl⟩) .nil)
/-! ### isinstance of such, its fields -/
def isiV (T : ExT) (bs : List String) (ds : List D) (m : Mu) : Out D := match ds with
  | [.exv k _, .glo d] => if k ∈ T.nm ∧ d ∈ T.nm then .ok (.bl (T.own k d)) m else .stuck
  | [.exv k _, .ty n] => if k ∈ T.nm ∧ n ∈ bs then .ok (.bl (T.blt k n)) m else .stuck
  | _ => .stuck
theorem b_isiV {T : ExT} {fs : List Str} {bs : List String} (K : XtOk c.K T fs bs) : CallD c (.builtin "isinstance") (isiV T bs) := by
  refine ⟨fun xs H Q => ∃ (a : Addr) (k : Str) (od : Option Addr) (cv : V) (u : Value) (b : Bool), xs = [.ref a, cv] ∧ H a = some (ExV (.ref (He.ga c.K k)) od a) ∧ k ∈ T.nm ∧ (∀ w, RelV cv w → w = u) ∧ (od = none ∨ ∃ y gs, od = some y ∧ H y = some (.xd gs)) ∧ PySem.W.kitOne c.K (.ref (He.ga c.K k)) u = some b ∧ Q (.bl b) H, fun W y hy pins s σ H vs us Q I r h => ?_, fun W ds m vs H F al Q hw r p => ?_⟩
  · obtain ⟨a, k, od, cv, u, b, rfl, ha, hk, hu, hd, e, q⟩ := h
    cases r with
    | cons rx rr =>
    cases rr with
    | cons rt rr =>
    cases rr
    cases rx
    have eu := hu _ rt
    subst eu
    obtain ⟨⟨ob, vs, ho, o1, o2, o3⟩, _, _⟩ := I.hok a _ ha
    have hn : PySem.W.notCls ob = true := by unfold PySem.W.notCls; rw [o3] <;> rfl
    obtain ⟨od', J⟩ : ∃ od', PySem.W.InstAt s.heap a ob (He.ga c.K k) od' := by
      rcases hd with hd | ⟨y, gs, hd, hy'⟩
      · exact ⟨none, ho, o1, hn, by rw [o2, hd]; trivial⟩
      · obtain ⟨mA, hns, _⟩ : ObjOk c.P c.w H s.heap y (.xd gs) := I.hok y _ hy'
        obtain ⟨od1, _, _, hod, _⟩ := hns
        exact ⟨some od1, ho, o1, hn, by rw [o2, hd]; exact hod⟩
    have XT := K.xf _ hk
    have hcl : (PySem.W.clsIn c.K (He.ga c.K k)).isSome = true := by
      obtain ⟨cd, hcd, _⟩ := PySem.W.any_some XT.hdC
      rw [hcd] <;> rfl
    exact PySem.W.kia_one (PySem.W.kitx_exc hcl XT.ga XT.gg XT.exC (K.ha _ hk) K.hn K.ht (K.hm _ hk)) I.kIn J e (fun z => nomatch z) fun tk => ⟨.bl b, H, I.kept (t' := tk) fun _ _ z => z, rfl, q⟩
  · unfold isiV at p
    split at p
    · cases r with
      | cons q r =>
      cases r with
      | cons q' r =>
      cases r
      cases q with
      | @exv a od k fs gs hf sx rx =>
      cases q' with
      | glo =>
      split at p
      · rename_i hk
        obtain ⟨hk, hd⟩ := hk
        refine ⟨a, _, od, _, _, _, rfl, hw.sub _ _ hf, hk, fun w hw' => hw', ?_, K.kit _ hk _ hd, p _ H F al Le.refl hw (.bl _)⟩
        rcases sx with ⟨_, z⟩ | ⟨y, z1, z2⟩
        · exact .inl z
        · exact .inr ⟨y, _, z1, hw.sub _ _ z2⟩
      · exact p.elim
    · cases r with
      | cons q r =>
      cases r with
      | cons q' r =>
      cases r
      cases q with
      | @exv a od k fs gs hf sx rx =>
      cases q' with
      | ty =>
      split at p
      · rename_i hk
        obtain ⟨hk, hd⟩ := hk
        refine ⟨a, _, od, _, _, _, rfl, hw.sub _ _ hf, hk, fun w hw' => hw', ?_, K.ktb _ hk _ hd, p _ H F al Le.refl hw (.bl _)⟩
        rcases sx with ⟨_, z⟩ | ⟨y, z1, z2⟩
        · exact .inl z
        · exact .inr ⟨y, _, z1, hw.sub _ _ z2⟩
      · exact p.elim
    · exact p.elim
def xExV (T : ExT) (f : Str) (a : XE') : XE' := fun r m => (a r m).bind fun d m1 => match d with
  | .exv k gs => if k ∈ T.nm then (match gs.lookup f with
    | some v => .ok v m1
    | none => .stuck) else .stuck
  | _ => .stuck
theorem de_xv {T : ExT} {fs : List Str} {bs : List String} (K : XtOk c.K T fs bs) (ha : DE c W e fe) (hf : f ∈ fs := by decide) (hb : ∀ env, attributeBase e f env (eval e env) = eval e env := by intro _; rfl) : DE c W (.Attribute e f pos) (xExV T f fe) := by
  obtain ⟨t, a1, a2⟩ := ha
  refine ⟨fun σ H Q => t σ H fun x H1 => ∃ (a : Addr) (k : Str) (dd : Addr) (gs : List (Str × V)) (v : V), x = .ref a ∧ H1 a = some (ExV (.ref (He.ga c.K k)) (some dd) a) ∧ k ∈ T.nm ∧ H1 dd = some (.xd gs) ∧ gs.lookup f = some v ∧ Q v H1, fun y hy => ⟨fun pins s σ H Q I h => ?_⟩, fun ρ m σ H F al Q he hw p => ?_⟩
  · refine attr_of (hb _) (thn ((a1 y hy).run pins s σ H _ I h) fun u s1 ⟨x, H1, I1, rx, a, k, dd, gs, v, ex, ea0, hk, ea, hl, q⟩ => ?_)
    subst ex
    obtain rfl : u = Value.ref a := rx
    obtain ⟨⟨ob, vs, ho, o1, o2, o3⟩, _, _⟩ := I1.hok a _ ea0
    obtain ⟨mA, hns, hr⟩ : ObjOk c.P c.w H1 s1.heap dd (.xd gs) := I1.hok dd _ ea
    obtain ⟨od, hod, hlk⟩ := lookIn_ns hns
    obtain ⟨w, hw', rw'⟩ := RelO.some_of (v := v) (o := mA f) (by rw [← hl]; exact hr f)
    have J : PySem.W.InstAt s1.heap a ob (He.ga c.K k) (some od) := ⟨ho, o1, by unfold PySem.W.notCls; rw [o3] <;> rfl, by rw [o2]; exact hod⟩
    have XT := K.xf _ hk
    exact HandSPX.exc_get I1.kIn J XT.ga XT.gg XT.exC (PySem.W.findObj_own XT.hdC (K.fld _ hk f hf) rfl (by rw [hlk, hw'])) (handed_of rw') ⟨v, H1, I1.tok _, rw', q⟩
  · refine a2 ρ m σ H F al _ he hw (Post.step p fun d m1 v H1 F1 al1 e1 w1 q1 p1 => ?_)
    cases q1 with
    | @exv a od k fs gs hf' s r =>
      dsimp only at p1
      split at p1
      · rename_i hk
        split at p1
        · rename_i d' hd
          obtain ⟨u, h3, h4⟩ := (r.look (x := f)).2 d' hd
          rcases s with ⟨s1, s2⟩ | ⟨yy, s1, s2⟩
          · subst s1; cases h3
          · subst s1
            exact ⟨a, k, yy, _, u, rfl, w1.sub _ _ hf', hk, w1.sub _ _ s2, h3, p1 _ H1 F1 al1 Le.refl w1 h4⟩
        · exact p1.elim
      · exact p1.elim
    | _ => exact p1.elim
end
end DS

namespace J
open PySem PySem.Spec PyProof.Rows L2 DS
def cs : List Str := []
def exT : ExT := [("NotRight", ["NotRight"], ["ValueError"]), ("InvalidText", ["InvalidText", "NotRight"], ["ValueError"]), ("InvalidCount", ["InvalidCount", "NotRight"], ["ValueError"]), ("InvalidPlace", ["InvalidPlace", "NotRight"], ["ValueError"]), ("InvalidClaim", ["InvalidClaim", "NotRight"], ["ValueError"]), ("NotABook", ["NotABook", "NotRight"], ["ValueError"]), ("InvalidPlans", ["InvalidPlans", "NotRight"], ["ValueError"]), ("InvalidPieces", ["InvalidPieces", "NotRight"], ["ValueError"]), ("NotThere", ["NotThere"], ["LookupError"]), ("UnknownPlan", ["UnknownPlan", "NotThere"], ["LookupError"]), ("CannotBe", ["CannotBe"], ["ArithmeticError"]), ("TooLong", ["TooLong", "CannotBe"], ["ArithmeticError"]), ("IsOver", ["IsOver", "CannotBe"], ["ArithmeticError"]), ("NothingToUndo", ["NothingToUndo", "CannotBe"], ["ArithmeticError"]), ("Broken", ["Broken", "CannotBe"], ["ArithmeticError"])]
def exBs : List String := ["ValueError", "LookupError", "ArithmeticError", "KeyError", "IndexError", "ZeroDivisionError"]
def exFs : List Str := ["given", "index", "most", "shown"]
def B__law_raised_right : XS := (sSeq (sAsg (xNew xaNil) (gNm 1))
  (sSeq (sTry exT (sRaise "InvalidText" "given" (xVar 0)) [(["NotRight"], some 2, fun k => (sExpr (xBM "list" appF (xVar 1) (xaCons (xCall reprF (xaCons (xExF k exT "given" (xVar 2)) xaNil)) xaNil))))])
  (sSeq (sTry exT (sRaise "UnknownPlan" "given" (xVar 0)) [(["NotThere"], some 2, fun k => (sExpr (xBM "list" appF (xVar 1) (xaCons (xCall reprF (xaCons (xExF k exT "given" (xVar 2)) xaNil)) xaNil))))])
  (sSeq (sTry exT (sRaise2 "Broken" "index" "shown" (xaCons (xVar 0) (xaCons (xC (.int 3)) xaNil))) [(["CannotBe"], some 2, fun k => (sExpr (xBM "list" appF (xVar 1) (xaCons (xCall reprF (xaCons (xExF k exT "index" (xVar 2)) xaNil)) xaNil))))])
  (sRet (xOp eqD (xVar 1) (xOp mulD (xLst (xaCons (xCall reprF (xaCons (xVar 0) xaNil)) xaNil)) (xC (.int 3)))))))))
def F__law_raised_right : Fn := fnOf 3 false B__law_raised_right
def B__law_kept_right : XS := (sSeq (sAsg (xOp addN (xLc (xiSeq (xLst (xaCons (xC (.int 0)) (xaCons (xC (.int 1)) (xaCons (xC (.int 2)) (xaCons (xC (.int 3)) (xaCons (xC (.int 4)) (xaCons (xC (.int 7)) xaNil)))))))) [4] (gNm 4) xYes (xExV exT "given" (xOp ixD (xVar 0) (xVar 4)))) (xLc (xiSeq (xLst (xaCons (xC (.int 5)) (xaCons (xC (.int 6)) xaNil)))) [4] (gNm 4) xYes (xExV exT "index" (xOp ixD (xVar 0) (xVar 4))))) (gNm 2))
  (sSeq (sExpr (xBM "list" appF (xVar 2) (xaCons (xExV exT "most" (xOp ixD (xVar 0) (xC (.int 8)))) xaNil)))
  (sSeq (sAsg (xOp ixD (xVar 0) (xC (.int 11))) (gNm 3))
  (sRet (xAnd (xOp eqD (xCall reprF (xaCons (xVar 2) xaNil)) (xCall reprF (xaCons (xOp mulD (xLst (xaCons (xVar 1) xaNil)) (xCall lenD (xaCons (xVar 2) xaNil))) xaNil))) (xOp eqD (xCall reprF (xaCons (xLst (xaCons (xExV exT "index" (xVar 3)) (xaCons (xExV exT "shown" (xVar 3)) xaNil))) xaNil)) (xCall reprF (xaCons (xLst (xaCons (xVar 1) (xaCons (xC (.int 7)) xaNil))) xaNil))))))))
def F__law_kept_right : Fn := fnOf 5 false B__law_kept_right
def B__law_due : XS := (sSeq (sPar 1 2 (xaCons (xOp ltD (xVar 0) (xC (.int 7))) (xaCons (xChain ltD ltD (xC (.int 6)) (xVar 0) (xC (.int 8))) xaNil)))
  (sSeq (sAsg (xAnd (xNot (xVar 1)) (xNot (xVar 2))) (gNm 3))
  (sRet (xOp addD (xOp mulD (xLst (xaCons (xVar 1) (xaCons (xVar 2) (xaCons (xVar 3) xaNil)))) (xC (.int 2))) (xOp mulD (xLst (xaCons (xC (.bl false)) xaNil)) (xC (.int 3)))))))
def F__law_due : Fn := fnOf 4 false B__law_due
def B__law_bases : XS := (sSeq (sAsg (xLst (xaCons (xCall (isiV exT exBs) (xaCons (xVar 0) (xaCons (xC (.glo "NotRight")) xaNil))) (xaCons (xCall (isiV exT exBs) (xaCons (xVar 0) (xaCons (xC (.glo "NotThere")) xaNil))) (xaCons (xCall (isiV exT exBs) (xaCons (xVar 0) (xaCons (xC (.glo "CannotBe")) xaNil))) xaNil)))) (gNm 1))
  (sSeq (sAsg (xOp addD (xVar 1) (xLst (xaCons (xCall (isiV exT exBs) (xaCons (xVar 0) (xaCons (xC (.ty "ValueError")) xaNil))) (xaCons (xCall (isiV exT exBs) (xaCons (xVar 0) (xaCons (xC (.ty "LookupError")) xaNil))) (xaCons (xCall (isiV exT exBs) (xaCons (xVar 0) (xaCons (xC (.ty "ArithmeticError")) xaNil))) xaNil))))) (gNm 1))
  (sRet (xOp addD (xVar 1) (xLst (xaCons (xCall (isiV exT exBs) (xaCons (xVar 0) (xaCons (xC (.ty "KeyError")) xaNil))) (xaCons (xCall (isiV exT exBs) (xaCons (xVar 0) (xaCons (xC (.ty "IndexError")) xaNil))) (xaCons (xCall (isiV exT exBs) (xaCons (xVar 0) (xaCons (xC (.ty "ZeroDivisionError")) xaNil))) xaNil))))))))
def F__law_bases : Fn := fnOf 2 false B__law_bases
def B__law_sorts : XS := (sSeq (sAsg (xLst (xaCons (xCall (isiV exT exBs) (xaCons (xVar 0) (xaCons (xC (.glo "InvalidText")) xaNil))) (xaCons (xCall (isiV exT exBs) (xaCons (xVar 0) (xaCons (xC (.glo "InvalidCount")) xaNil))) (xaCons (xCall (isiV exT exBs) (xaCons (xVar 0) (xaCons (xC (.glo "InvalidPlace")) xaNil))) xaNil)))) (gNm 1))
  (sSeq (sAsg (xOp addD (xVar 1) (xLst (xaCons (xCall (isiV exT exBs) (xaCons (xVar 0) (xaCons (xC (.glo "InvalidClaim")) xaNil))) (xaCons (xCall (isiV exT exBs) (xaCons (xVar 0) (xaCons (xC (.glo "NotABook")) xaNil))) (xaCons (xCall (isiV exT exBs) (xaCons (xVar 0) (xaCons (xC (.glo "InvalidPlans")) xaNil))) xaNil))))) (gNm 1))
  (sSeq (sAsg (xOp addD (xVar 1) (xLst (xaCons (xCall (isiV exT exBs) (xaCons (xVar 0) (xaCons (xC (.glo "InvalidPieces")) xaNil))) (xaCons (xCall (isiV exT exBs) (xaCons (xVar 0) (xaCons (xC (.glo "UnknownPlan")) xaNil))) (xaCons (xCall (isiV exT exBs) (xaCons (xVar 0) (xaCons (xC (.glo "TooLong")) xaNil))) xaNil))))) (gNm 1))
  (sSeq (sAsg (xOp addD (xVar 1) (xLst (xaCons (xCall (isiV exT exBs) (xaCons (xVar 0) (xaCons (xC (.glo "IsOver")) xaNil))) (xaCons (xCall (isiV exT exBs) (xaCons (xVar 0) (xaCons (xC (.glo "NothingToUndo")) xaNil))) (xaCons (xCall (isiV exT exBs) (xaCons (xVar 0) (xaCons (xC (.glo "Broken")) xaNil))) xaNil))))) (gNm 1))
  (sRet (xVar 1))))))
def F__law_sorts : Fn := fnOf 2 false B__law_sorts
def B__law_given : XS := (sSeq (sAsg (xLst (xaCons (exvF "InvalidText" ["given"] (xaCons (xVar 0) xaNil)) (xaCons (exvF "InvalidCount" ["given"] (xaCons (xVar 0) xaNil)) (xaCons (exvF "InvalidPlace" ["given"] (xaCons (xVar 0) xaNil)) (xaCons (exvF "InvalidClaim" ["given"] (xaCons (xVar 0) xaNil)) xaNil))))) (gNm 1))
  (sSeq (sAsg (xOp addD (xVar 1) (xLst (xaCons (exvF "NotABook" ["given"] (xaCons (xVar 0) xaNil)) (xaCons (exvF "InvalidPlans" ["index"] (xaCons (xVar 0) xaNil)) (xaCons (exvF "InvalidPieces" ["index"] (xaCons (xVar 0) xaNil)) (xaCons (exvF "UnknownPlan" ["given"] (xaCons (xVar 0) xaNil)) xaNil)))))) (gNm 1))
  (sSeq (sAsg (xOp addD (xVar 1) (xLst (xaCons (exvF "TooLong" ["most"] (xaCons (xVar 0) xaNil)) (xaCons (exv0 "IsOver") (xaCons (exv0 "NothingToUndo") (xaCons (exvF "Broken" ["index", "shown"] (xaCons (xVar 0) (xaCons (xC (.int 7)) xaNil))) xaNil)))))) (gNm 1))
  (sSeq (sAsg (xLst (xaCons (exvF "InvalidText" ["given"] (xaCons (xVar 0) xaNil)) (xaCons (exvF "InvalidCount" ["given"] (xaCons (xVar 0) xaNil)) (xaCons (exvF "InvalidPlace" ["given"] (xaCons (xVar 0) xaNil)) xaNil)))) (gNm 2))
  (sSeq (sAsg (xOp addD (xVar 2) (xLst (xaCons (exvF "InvalidClaim" ["given"] (xaCons (xVar 0) xaNil)) (xaCons (exvF "NotABook" ["given"] (xaCons (xVar 0) xaNil)) (xaCons (exvF "InvalidPlans" ["index"] (xaCons (xVar 0) xaNil)) xaNil))))) (gNm 2))
  (sSeq (sAsg (xOp addD (xVar 2) (xLst (xaCons (exvF "InvalidPieces" ["index"] (xaCons (xVar 0) xaNil)) (xaCons (exvF "UnknownPlan" ["given"] (xaCons (xVar 0) xaNil)) (xaCons (exvF "TooLong" ["most"] (xaCons (xVar 0) xaNil)) (xaCons (exv0 "IsOver") xaNil)))))) (gNm 2))
  (sSeq (sAsg (xOp addD (xVar 2) (xLst (xaCons (exv0 "NothingToUndo") (xaCons (exvF "Broken" ["shown", "index"] (xaCons (xC (.int 7)) (xaCons (xVar 0) xaNil))) xaNil)))) (gNm 2))
  (sRet (xLst (xaCons (xVar 1) (xaCons (xVar 2) xaNil)))))))))))
def F__law_given : Fn := fnOf 3 false B__law_given
def B__law_right : XS := (sSeq (sFor (xiSeq (xCall F__law_given (xaCons (xVar 0) xaNil))) (gNm 1)
  (sSeq (sFor (xiRng1 (xaCons (xCall lenD (xaCons (xVar 1) xaNil)) xaNil)) (gNm 2)
  (sSeq (sAsg (xLc (xiRng1 (xaCons (xCall lenD (xaCons (xVar 1) xaNil)) xaNil)) [4] (gNm 4) xYes (xOp eqD (xVar 4) (xVar 2))) (gNm 3))
  (sIf (xOrT (xTest (xOp neD (xCall F__law_sorts (xaCons (xOp ixD (xVar 1) (xVar 2)) xaNil)) (xVar 3))) (xTest (xOp neD (xCall F__law_bases (xaCons (xOp ixD (xVar 1) (xVar 2)) xaNil)) (xCall F__law_due (xaCons (xVar 2) xaNil))))) (sRet (xC (.bl false))) sNil)))
  (sIf (xNotT (xTest (xCall F__law_kept_right (xaCons (xVar 1) (xaCons (xVar 0) xaNil))))) (sRet (xC (.bl false))) sNil)))
  (sRet (xCall F__law_raised_right (xaCons (xVar 0) xaNil))))
def F__law_right : Fn := fnOf 5 false B__law_right
def B_law : XS := (sSeq (sAsg (xLst (xaCons (xC (.int 4)) (xaCons (xC (.int 5)) (xaCons (xC (.int 3)) (xaCons (xC (.int 3)) (xaCons (xC (.int 4)) (xaCons (xC (.int 4)) (xaCons (xC (.int 4)) xaNil)))))))) (gNm 1))
  (sSeq (sAsg (xOp addD (xVar 1) (xLst (xaCons (xC (.int 100)) (xaCons (xC (.int 1000000000000)) (xaCons (xC (.int 1000000000000)) (xaCons (xC (.int 12)) (xaCons (xC (.int 1000)) xaNil))))))) (gNm 1))
  (sSeq (sIf (xTest (xOp neD (xVar 1) (xLst (xaCons (xC (.int 4)) (xaCons (xC (.int 5)) (xaCons (xC (.int 3)) (xaCons (xC (.int 3)) (xaCons (xC (.int 4)) (xaCons (xC (.int 4)) (xaCons (xC (.int 4)) (xaCons (xC (.int 100)) (xaCons (xOp powD (xC (.int 10)) (xC (.int 12))) (xaCons (xOp powD (xC (.int 10)) (xC (.int 12))) (xaCons (xC (.int 12)) (xaCons (xC (.int 1000)) xaNil))))))))))))))) (sRet (xC (.bl false))) sNil)
  (sSeq (sAsg (xOp addD (xLst (xaCons (xC .non) (xaCons (xC (.str "up")) (xaCons (xTup (xaCons (xC (.int 1)) (xaCons (xC (.str "x")) xaNil))) (xaCons (xC (.bl true)) (xaCons (xNeg (xC (.int 3))) xaNil)))))) (xLc (xiSeq (xSl (xVar 0) xoN (xoS (xC (.int 3))))) [3] (gNm 3) xYes (xOp modD (xCall intF (xaCons (xVar 3) xaNil)) (xOp powD (xC (.int 10)) (xC (.int 12)))))) (gNm 2))
  (sRet (xOp eqD (xLc (xiSeq (xVar 2)) [4] (gNm 4) (xNotT (xTest (xCall F__law_right (xaCons (xVar 4) xaNil)))) (xVar 4)) (xLst xaNil)))))))
def F_law : Fn := fnOf 5 false B_law
end J
namespace J
open PySem PySem.Spec PyProof.Rows L2 DS
def topS (i : Nat) : Stmt := PySem.Challenge.pw_joinrounds_k01_limits_and_errors.main.body.getD i (.Pass ⟨0, 0, 0, 0⟩)
def clsS (st : Stmt) (j : Nat) : Stmt := match st with
  | .ClassDef _ _ _ body _ _ _ _ _ _ _ => body.getD j (.Pass ⟨0, 0, 0, 0⟩)
  | _ => .Pass ⟨0, 0, 0, 0⟩
abbrev s__law_raised_right : Stmt := topS 34
abbrev N__law_raised_right : List Str := ["_law_thing", "_law_seen", "_law_e"]
abbrev P__law_raised_right : List Str := ["_law_thing"]
def d__law_raised_right : He.DefD := ⟨("_law_raised_right", none), "_law_raised_right", "_law_raised_right", defArgs s__law_raised_right, defBody s__law_raised_right, defScope s__law_raised_right, [], []⟩
abbrev s__law_kept_right : Stmt := topS 33
abbrev N__law_kept_right : List Str := ["_law_found", "_law_thing", "_law_some", "_law_last", "_law_k"]
abbrev P__law_kept_right : List Str := ["_law_found", "_law_thing"]
def d__law_kept_right : He.DefD := ⟨("_law_kept_right", none), "_law_kept_right", "_law_kept_right", defArgs s__law_kept_right, defBody s__law_kept_right, defScope s__law_kept_right, [], []⟩
abbrev s__law_due : Stmt := topS 31
abbrev N__law_due : List Str := ["_law_k", "_law_first", "_law_second", "_law_third"]
abbrev P__law_due : List Str := ["_law_k"]
def d__law_due : He.DefD := ⟨("_law_due", none), "_law_due", "_law_due", defArgs s__law_due, defBody s__law_due, defScope s__law_due, [], []⟩
abbrev s__law_bases : Stmt := topS 30
abbrev N__law_bases : List Str := ["_law_e", "_law_found"]
abbrev P__law_bases : List Str := ["_law_e"]
def d__law_bases : He.DefD := ⟨("_law_bases", none), "_law_bases", "_law_bases", defArgs s__law_bases, defBody s__law_bases, defScope s__law_bases, [], []⟩
abbrev s__law_sorts : Stmt := topS 29
abbrev N__law_sorts : List Str := ["_law_e", "_law_found"]
abbrev P__law_sorts : List Str := ["_law_e"]
def d__law_sorts : He.DefD := ⟨("_law_sorts", none), "_law_sorts", "_law_sorts", defArgs s__law_sorts, defBody s__law_sorts, defScope s__law_sorts, [], []⟩
abbrev s__law_given : Stmt := topS 32
abbrev N__law_given : List Str := ["_law_thing", "_law_found", "_law_named"]
abbrev P__law_given : List Str := ["_law_thing"]
def d__law_given : He.DefD := ⟨("_law_given", none), "_law_given", "_law_given", defArgs s__law_given, defBody s__law_given, defScope s__law_given, [], []⟩
abbrev s__law_right : Stmt := topS 35
abbrev N__law_right : List Str := ["_law_thing", "_law_found", "_law_k", "_law_due_here", "_law_at"]
abbrev P__law_right : List Str := ["_law_thing"]
def d__law_right : He.DefD := ⟨("_law_right", none), "_law_right", "_law_right", defArgs s__law_right, defBody s__law_right, defScope s__law_right, [], []⟩
abbrev s_law : Stmt := topS 36
abbrev N_law : List Str := ["_law_cells", "_law_some", "_law_things", "_law_cell", "_law_thing"]
abbrev P_law : List Str := ["_law_cells"]
def d_law : He.DefD := ⟨("law", none), "law", "law", defArgs s_law, defBody s_law, defScope s_law, [], []⟩
abbrev s_InvalidText_D_initD_ : Stmt := clsS (topS 2) 0
def xi_InvalidText : XiD := ⟨"InvalidText", "given", "ValueError", "InvalidText.__init__", defArgs s_InvalidText_D_initD_, defBody s_InvalidText_D_initD_, defScope s_InvalidText_D_initD_⟩
abbrev s_UnknownPlan_D_initD_ : Stmt := clsS (topS 10) 0
def xi_UnknownPlan : XiD := ⟨"UnknownPlan", "given", "LookupError", "UnknownPlan.__init__", defArgs s_UnknownPlan_D_initD_, defBody s_UnknownPlan_D_initD_, defScope s_UnknownPlan_D_initD_⟩
abbrev s_Broken_D_initD_ : Stmt := clsS (topS 15) 0
def xi_Broken : XiD := ⟨"Broken", "index", "ArithmeticError", "Broken.__init__", defArgs s_Broken_D_initD_, defBody s_Broken_D_initD_, defScope s_Broken_D_initD_⟩
abbrev s_InvalidCount_D_initD_ : Stmt := clsS (topS 3) 0
def xi_InvalidCount : XiD := ⟨"InvalidCount", "given", "ValueError", "InvalidCount.__init__", defArgs s_InvalidCount_D_initD_, defBody s_InvalidCount_D_initD_, defScope s_InvalidCount_D_initD_⟩
abbrev s_InvalidPlace_D_initD_ : Stmt := clsS (topS 4) 0
def xi_InvalidPlace : XiD := ⟨"InvalidPlace", "given", "ValueError", "InvalidPlace.__init__", defArgs s_InvalidPlace_D_initD_, defBody s_InvalidPlace_D_initD_, defScope s_InvalidPlace_D_initD_⟩
abbrev s_InvalidClaim_D_initD_ : Stmt := clsS (topS 5) 0
def xi_InvalidClaim : XiD := ⟨"InvalidClaim", "given", "ValueError", "InvalidClaim.__init__", defArgs s_InvalidClaim_D_initD_, defBody s_InvalidClaim_D_initD_, defScope s_InvalidClaim_D_initD_⟩
abbrev s_NotABook_D_initD_ : Stmt := clsS (topS 6) 0
def xi_NotABook : XiD := ⟨"NotABook", "given", "ValueError", "NotABook.__init__", defArgs s_NotABook_D_initD_, defBody s_NotABook_D_initD_, defScope s_NotABook_D_initD_⟩
abbrev s_InvalidPlans_D_initD_ : Stmt := clsS (topS 7) 0
def xi_InvalidPlans : XiD := ⟨"InvalidPlans", "index", "ValueError", "InvalidPlans.__init__", defArgs s_InvalidPlans_D_initD_, defBody s_InvalidPlans_D_initD_, defScope s_InvalidPlans_D_initD_⟩
abbrev s_InvalidPieces_D_initD_ : Stmt := clsS (topS 8) 0
def xi_InvalidPieces : XiD := ⟨"InvalidPieces", "index", "ValueError", "InvalidPieces.__init__", defArgs s_InvalidPieces_D_initD_, defBody s_InvalidPieces_D_initD_, defScope s_InvalidPieces_D_initD_⟩
abbrev s_TooLong_D_initD_ : Stmt := clsS (topS 12) 0
def xi_TooLong : XiD := ⟨"TooLong", "most", "ArithmeticError", "TooLong.__init__", defArgs s_TooLong_D_initD_, defBody s_TooLong_D_initD_, defScope s_TooLong_D_initD_⟩
def fa0 : List He.Fa := [.glo "NotRight", .free "repr", .free "super", .glo "InvalidText", .glo "NotThere", .glo "UnknownPlan", .glo "CannotBe", .glo "Broken"]
def fa1 : List He.Fa := [.free "len", .free "isinstance", .free "ValueError", .free "LookupError", .free "ArithmeticError", .free "KeyError", .free "IndexError", .free "ZeroDivisionError"]
def fa2 : List He.Fa := [.glo "InvalidCount", .glo "InvalidPlace", .glo "InvalidClaim", .glo "NotABook", .glo "InvalidPlans", .glo "InvalidPieces", .glo "TooLong", .glo "IsOver"]
def fa3 : List He.Fa := [.glo "NothingToUndo", .glo "_law_given", .free "range", .glo "_law_sorts", .glo "_law_bases", .glo "_law_due", .glo "_law_kept_right", .glo "_law_raised_right"]
def fa4 : List He.Fa := [.int "MOST_PLANS" 4, .int "MOST_ROUNDS" 5, .int "MOST_CLAUSES" 3, .int "MOST_CLASSES" 3, .int "MOST_FAR" 4, .int "MOST_LAST" 4, .int "MOST_BASE" 4, .int "MOST_LEVEL" 100]
def fa5 : List He.Fa := [.int "MOST_SIZE" 1000000000000, .int "MOST_CLAIMED" 1000000000000, .int "MOST_PIECES" 12, .int "MOST_SIGNS" 1000, .free "int", .glo "_law_right", .glo "law"]
def fa : List He.Fa := fa0 ++ (fa1 ++ (fa2 ++ (fa3 ++ (fa4 ++ (fa5)))))
def fn0 : List He.DefD := [d__law_raised_right, d__law_kept_right, d__law_due, d__law_bases, d__law_sorts, d__law_given, d__law_right, d_law]
def fn : List He.DefD := fn0
def pr : List PrD := []
def xf : List (PySem.W.Frag → Bool) := [xtB exT exFs exBs, smB, tkB "Broken" "shown", x0B "IsOver" "ArithmeticError", x0B "NothingToUndo" "ArithmeticError"]
def xi : List XiD := [xi_InvalidText, xi_UnknownPlan, xi_Broken, xi_InvalidCount, xi_InvalidPlace, xi_InvalidClaim, xi_NotABook, xi_InvalidPlans, xi_InvalidPieces, xi_TooLong]
def tb : List Str := []
def tl : Tl := ⟨fa, fn, pr, cs, xf, xi, tb, (PySem.Challenge.pw_joinrounds_k01_limits_and_errors.main.file : Str)⟩
def nmL0 : List PySem.Str := ["NotRight", "InvalidText", "InvalidCount", "InvalidPlace", "InvalidClaim", "NotABook", "InvalidPlans", "InvalidPieces", "NotThere", "UnknownPlan"]
def nmL1 : List PySem.Str := ["CannotBe", "TooLong", "IsOver", "NothingToUndo", "Broken", "MOST_PLANS", "MOST_ROUNDS", "MOST_CLAUSES", "MOST_CLASSES", "MOST_FAR"]
def nmL2 : List PySem.Str := ["MOST_LAST", "MOST_BASE", "MOST_LEVEL", "MOST_SIZE", "MOST_CLAIMED", "MOST_PIECES", "MOST_SIGNS", "_law_sorts", "_law_bases", "_law_due"]
def nmL3 : List PySem.Str := ["_law_given", "_law_kept_right", "_law_raised_right", "_law_right"]
def nmL : List PySem.Str := nmL0 ++ (nmL1 ++ (nmL2 ++ (nmL3)))
abbrev R : PySem.W.OpenRow := PySem.W.OpenLaw.row PySem.Challenge.rw_joinrounds_k01_limits_and_errors
abbrev hk : PySem.W.Hook := hookR 1500 tl
def ob (s : PySem.W.SharedT) : AlM := obsMR 1500 tl (HandSHeadRun.getT s)
theorem ob_eq (s : PySem.W.SharedT) : ob s = hk.obs s.abs := obsMR_eq (HandSHeadRun.getT_eq s)
set_option maxHeartbeats 0 in
theorem runA (w : World) : RunA R (PySem.W.view R.prog [36]) 20000 nmL w := by
  intro os
  kernel_rfl
set_option maxHeartbeats 0 in
theorem runB (w : World) : RunB R 20000 (fun s => (ob s).1) (valM tl).1 w := by
  intro os
  kernel_rfl
set_option maxHeartbeats 0 in
theorem runC (w : World) : RunB R 20000 (fun s => (ob s).2) (valM tl).2 w := by
  intro os
  kernel_rfl
theorem run (w : World) : HandSHeadRun.RunEq R (PySem.W.view R.prog [36]) hk ob 20000 nmL w := fun os => map3 (runA w os) (runB w os) (runC w os)
end J
namespace J
open PySem PySem.Spec PyProof.Rows L2 DS

end J
/-! # GA: lemmas on the combinators, no program in sight -/
namespace J
open PySem PySem.Spec PyProof.Rows L2 DS
theorem lc_map {α : Type} {i : Nat} {te : XE'} {r0 : Rho} {μ : Mu} (e : α → D) (f : α → D) {xs : List α}
    (h2 : ∀ x ∈ xs, ∀ acc, te (r0.set i (some (e x))) (μ ++ [.lst acc]) = .ok (f x) (μ ++ [.lst acc]))
    (h3 : ∀ x ∈ xs, (f x).inB μ.length = true) (hl : xs.length ≤ sizeLine) :
    lcD (gNm i) xYes te r0 (xs.map e) μ = .ok (.lst (xs.map f)) μ := by
  have go : ∀ (ys : List α) (acc : List D), (∀ y ∈ ys, y ∈ xs) → acc.length + ys.length ≤ sizeLine → lcF (gNm i) xYes te μ.length r0 (ys.map e) (μ ++ [.lst acc]) = .ok () (μ ++ [.lst (acc ++ ys.map f)]) := fun ys => by
    induction ys with
    | nil => intro acc _ _; simp [lcF]
    | cons y ys ih =>
      intro acc hm hl
      rw [List.length_cons] at hl
      have hy := hm y (List.mem_cons_self ..)
      have e : pushD μ.length (f y) (μ ++ [.lst acc]) = .ok () (μ ++ [.lst (acc ++ [f y])]) := by
        unfold pushD
        rw [List.getElem?_append_right (Nat.le_refl _), Nat.sub_self]
        simp only [List.getElem?_cons_zero]
        rw [if_pos ⟨h3 y hy, by omega⟩, List.set_append_right _ _ (Nat.le_refl _), Nat.sub_self]
        rfl
      rw [List.map_cons, lcF]
      simp only [gNm, Out.ne, Out.bind, xYes, if_true, h2 y hy acc, e]
      rw [ih (acc ++ [f y]) (fun z hz => hm z (List.mem_cons_of_mem _ hz)) (by rw [List.length_append]; simp; omega)]
      simp
  unfold lcD
  rw [go xs [] (fun _ h => h) (by simpa using hl)]
  simp [Out.bind, lcEnd]

theorem exit_in {n : Nat} {d : D} {m : Mu} (h : d.inB n = true) : exitD n d m = .ok d (m.take n) := by
  unfold exitD
  rw [if_pos h]
def cupC (a b c : Int) : Cell := .lst [.int a, .int b, .int c]
def Cup (n : Nat) (μ : Mu) : Prop := ∃ a b c, μ[n]? = some (cupC a b c)
def Sip (n : Nat) (μ μ' : Mu) : Prop := ∃ a b c, μ' = μ.set n (cupC a b c)
theorem Cup.lt {n : Nat} {μ : Mu} (h : Cup n μ) : n < μ.length := by
  obtain ⟨a, b, c, e⟩ := h
  exact (List.getElem?_eq_some_iff.mp e).1
theorem Sip.refl {n : Nat} {μ : Mu} (h : Cup n μ) : Sip n μ μ := by
  obtain ⟨a, b, c, e⟩ := h
  refine ⟨a, b, c, ?_⟩
  obtain ⟨hl, q⟩ := List.getElem?_eq_some_iff.mp e
  rw [← q, List.set_getElem_self]
theorem Sip.trans {n : Nat} {μ μ1 μ2 : Mu} (h : Sip n μ μ1) (g : Sip n μ1 μ2) : Sip n μ μ2 := by
  obtain ⟨a, b, c, rfl⟩ := h
  obtain ⟨a', b', c', rfl⟩ := g
  exact ⟨a', b', c', by rw [List.set_set]⟩
theorem Sip.len {n : Nat} {μ μ1 : Mu} (h : Sip n μ μ1) : μ1.length = μ.length := by
  obtain ⟨a, b, c, rfl⟩ := h
  rw [List.length_set]
theorem Sip.app {n : Nat} {μ μ1 ν : Mu} (h : Sip n (μ ++ ν) μ1) (g : n < μ.length) : ∃ μ2, Sip n μ μ2 ∧ μ1 = μ2 ++ ν := by
  obtain ⟨a, b, c, rfl⟩ := h
  exact ⟨μ.set n (cupC a b c), ⟨a, b, c, rfl⟩, by rw [List.set_append_left _ _ g]⟩
theorem Cup.app {n : Nat} {μ : Mu} (h : Cup n μ) (ν : Mu) : Cup n (μ ++ ν) := by
  have hl := h.lt
  obtain ⟨a, b, c, e⟩ := h
  exact ⟨a, b, c, by rw [List.getElem?_append_left hl]; exact e⟩
theorem Sip.take {n k : Nat} {μ μ1 : Mu} (h : Sip n μ μ1) (hk : k = μ.length) : μ1.take k = μ1 := by
  rw [List.take_of_length_le (by rw [h.len, hk]; exact Nat.le_refl _)]
theorem md_ok {i j : Int} {m : Mu} (hj : 0 < j) : modD (.int i) (.int j) m = .ok (.int (i % j)) m := by
  unfold modD DS.intD
  simp only [decide_eq_true hj, if_true]
theorem int_ok {i : Int} {m : Mu} : intF [.int i] m = .ok (.int i) m := rfl
structure Shw (p : PyData) (k w : Nat) : Prop where
  sh : p.showable = true
  dp : p.depth ≤ k
  nd : p.hasDict = false
  lv : p.leavesShort 30 = true
  wt : p.weight ≤ w
  ly : p.canLay0 = true
structure ShwL (p : List PyData) (k w : Nat) : Prop where
  sh : PyData.showableAll p = true
  dp : PyData.depthAll p ≤ k
  nd : PyData.hasDictAll p = false
  lv : PyData.leavesShortAll 30 p = true
  wt : PyData.weightAll p ≤ w
  ly : PyData.canLayAll0 p = true
theorem ShwL.nil {k w : Nat} : ShwL [] k w := ⟨rfl, Nat.zero_le _, rfl, rfl, Nat.zero_le _, rfl⟩
theorem ShwL.cons {p : PyData} {ps : List PyData} {k w v : Nat} (h : Shw p k w) (g : ShwL ps k v) : ShwL (p :: ps) k (w + 1 + v) :=
  ⟨by rw [PyData.showableAll, h.sh, g.sh]; rfl, by rw [PyData.depthAll]; exact Nat.max_le.mpr ⟨h.dp, g.dp⟩, by rw [PyData.hasDictAll, h.nd, g.nd]; rfl, by rw [PyData.leavesShortAll, h.lv, g.lv]; rfl, by rw [PyData.weightAll]; have := h.wt; have := g.wt; omega, by rw [PyData.canLayAll0, h.ly, g.ly]; rfl⟩
theorem ShwL.all {ps : List PyData} {k w : Nat} (h : ∀ p ∈ ps, Shw p k w) : ShwL ps k ((w + 1) * ps.length) := by
  induction ps with
  | nil => exact .nil
  | cons p ps ih =>
    have := ShwL.cons (h p (List.mem_cons_self ..)) (ih fun q hq => h q (List.mem_cons_of_mem _ hq))
    rw [List.length_cons, Nat.mul_succ, Nat.add_comm]
    exact this
theorem Shw.tup {ps : List PyData} {k w : Nat} (h : ShwL ps k w) : Shw (.tuple ps) (k + 1) w :=
  ⟨by rw [PyData.showable]; exact h.sh, by rw [PyData.depth]; exact Nat.succ_le_succ h.dp, by rw [PyData.hasDict]; exact h.nd, by rw [PyData.leavesShort]; exact h.lv, by rw [PyData.weight]; exact h.wt, by rw [PyData.canLay0]; exact h.ly⟩
theorem Shw.lst {ps : List PyData} {k w : Nat} (h : ShwL ps k w) : Shw (.list ps) (k + 1) w :=
  ⟨by rw [PyData.showable]; exact h.sh, by rw [PyData.depth]; exact Nat.succ_le_succ h.dp, by rw [PyData.hasDict]; exact h.nd, by rw [PyData.leavesShort]; exact h.lv, by rw [PyData.weight]; exact h.wt, by rw [PyData.canLay0]; exact h.ly⟩
theorem catX_ok {xs ys : List D} {m : Mu} (h : xs.length + ys.length ≤ 1000) : addD (.lst xs) (.lst ys) m = .ok (.lst (xs ++ ys)) m := by
  show (if xs.length + ys.length ≤ sizeLine then Out.ok (D.lst (xs ++ ys)) m else .stuck) = _
  rw [if_pos (by unfold sizeLine; omega)]
theorem cut_to' (xs : List D) (k : Nat) : DS.cutD xs none (some (k : Int)) = xs.take k := by
  unfold DS.cutD
  rw [HT.sIx_nat, HT.sIx_none, List.drop_zero, Nat.sub_zero]
  by_cases h : k ≤ xs.length
  · rw [Nat.min_eq_left h]
  · rw [Nat.min_eq_right (by omega), List.take_length, List.take_of_length_le (by omega)]
end J

/-! # GB: texts of books as lists of signs: what is read, no program in sight -/
namespace J
open PySem PySem.Spec PyProof.Rows L2 DS
open SX (S)
def K (s : String) : List Nat := s.toList.map Char.toNat
/-! ### signs, names, digits, classes -/
def low (c : Nat) : Bool := decide (97 ≤ c) && decide (c ≤ 122)
def dig (c : Nat) : Bool := decide (48 ≤ c) && decide (c ≤ 57)
def nameL : List Nat → Bool
  | [] => false
  | c :: r => low c && (decide (r.length < 8) && (c :: r).all fun x => low x || dig x)
def digL : List Nat → Option Nat
  | [c] => if dig c then some (c - 48) else none
  | _ => none
def clsL : List (List Nat) → Option (Nat × Nat)
  | [a, o, b] => if o = K "of" then (match digL a, digL b with
    | some r, some s => if 1 ≤ s ∧ s ≤ 3 ∧ r < s then some (r, s) else none
    | _, _ => none) else none
  | _ => none
/-- a clause that is read -/
structure Cu where
  w : List Nat
  rest : Nat
  step : Nat
  side : Option (List Nat)
  far : Option Nat
  goal : Option (List Nat)
def callW (ws : List (List Nat)) : Option Cu := match clsL (ws.drop 3) with
  | some (r, s) => if ws.getD 2 [] = K "on" ∧ nameL (ws.getD 1 []) = true then some ⟨K "call", r, s, none, none, some (ws.getD 1 [])⟩ else none
  | none => none
def clauseW (ws : List (List Nat)) : Option Cu := if ws.getD 0 [] = K "call" then callW ws else match clsL ((ws.drop 1).take 3) with
  | none => none
  | some (r, s) => if ws.getD 0 [] = K "clear" then (if ws.length = 4 then some ⟨K "clear", r, s, none, none, none⟩ else none) else
    if (ws.getD 0 [] = K "join" ∨ ws.getD 0 [] = K "take") ∧ ws.length = 6 ∧ (ws.getD 4 [] = K "left" ∨ ws.getD 4 [] = K "right") then (match digL (ws.getD 5 []) with
      | some d => if 1 ≤ d ∧ d ≤ 4 then some ⟨ws.getD 0 [], r, s, some (ws.getD 4 []), some d, none⟩ else none
      | none => none) else none
def clauseL (l : List Nat) : Option Cu := clauseW (TL.spl [32] 0 [] l)
def optS : Option (List Nat) → D
  | some l => .str (S l)
  | none => .non
def optN : Option Nat → D
  | some n => .int n
  | none => .non
def Cu.obj (c : Cu) : D := .obj "Clause" [("word", .str (S c.w)), ("rest", .int c.rest), ("step", .int c.step), ("side", optS c.side), ("far", optN c.far), ("goal", optS c.goal)]
def optC : Option Cu → D
  | some c => c.obj
  | none => .non
/-! ### rounds -/
def meetC (a b : Cu) : Bool := !(a.step == b.step) || a.rest == b.rest
def allSome {α : Type} : List (Option α) → Option (List α)
  | [] => some []
  | some x :: r => (allSome r).map (x :: ·)
  | none :: _ => none
def Cu.call (c : Cu) : Bool := decide (c.w = K "call")
def meets : List Cu → Bool
  | [] => false
  | c :: r => r.any (fun d => meetC d c) || meets r
def roundL (l : List Nat) : Option (List Cu) := match allSome ((TL.spl (K "; ") 0 [] l).map clauseL) with
  | none => none
  | some cs => if cs.length ≤ 3 ∧ (cs.all Cu.call = true ∨ cs.any Cu.call = false) ∧ meets cs = false then some cs else none
def optR : Option (List Cu) → D
  | some cs => .lst (cs.map Cu.obj)
  | none => .non
def goalL (l : List Nat) : Option (List Nat × Option Nat) := if l = K "all" ∨ l = K "before" then some (l, none) else if l.take 5 = K "last " then (match digL (l.drop 5) with
  | some d => if 1 ≤ d ∧ d ≤ 4 then some (K "last", some d) else none
  | none => none) else none
def optG : Option (List Nat × Option Nat) → D
  | some (w, n) => .tup [.str (S w), optN n]
  | none => .non
/-- which calls can stand -/
def standL (names above : List (List Nat)) (cs : List Cu) : Bool := cs.all fun c => match c.goal with
  | some g => decide (g ∈ names) && !(c.step == 1 && decide (g ∈ above))
  | none => true
/-! a def is run by its equations -/
end J

/-! # GS: what repr shows is a text of signs -/
namespace J
open PySem PySem.Spec PyProof.Rows L2 DS
open SX (S)
def Sok (x : Str) : Prop := ∀ c ∈ TL.tl x, c < 0x110000
theorem Sok.ok {x : Str} (h : Sok x) : PyData.strOk x = true := by
  show x.cps.all (· < 0x110000) = true
  rw [Array.all_eq_true']
  intro c hc
  exact decide_eq_true (h c (by show c ∈ x.cps.toList; simpa using hc))
theorem Sok.of {x : Str} (h : PyData.strOk x = true) : Sok x := fun c hc => by
  have h' : x.cps.all (· < 0x110000) = true := h
  rw [Array.all_eq_true'] at h'
  exact of_decide_eq_true (h' c (by have : c ∈ x.cps.toList := hc; simpa using this))
theorem Sok.app {x y : Str} (h : Sok x) (g : Sok y) : Sok (x ++ y) := fun c hc => by
  rw [TL.tl_append, List.mem_append] at hc
  exact hc.elim (h c) (g c)
theorem char_lt (c : Char) : c.toNat < 0x110000 := by
  have := c.valid
  rcases this with h | ⟨_, h⟩
  · have : c.toNat < 0xd800 := h
    omega
  · exact h
theorem Sok.lit (s : String) : Sok (Str.ofString s) := fun c hc => by
  rw [TL.tl_ofString] at hc
  obtain ⟨d, _, rfl⟩ := List.mem_map.mp hc
  exact char_lt d
theorem Sok.S {l : List Nat} (h : ∀ c ∈ l, c < 0x110000) : Sok (S l) := h
theorem reprChar_sok {q c : Nat} (hq : q < 0x110000) (hc : c < 0x110000) : ∀ d ∈ Builtin.Str.reprChar q c, d < 0x110000 := by
  have hex : ∀ w : Nat, ∀ d ∈ (let dd := (Nat.toDigits 16 c).map Char.toNat; List.replicate (w - dd.length) 48 ++ dd), d < 0x110000 := fun w d hd => by
    simp only [List.mem_append, List.mem_replicate, List.mem_map] at hd
    rcases hd with ⟨_, rfl⟩ | ⟨a, _, rfl⟩
    · decide
    · exact char_lt a
  intro d hd
  unfold Builtin.Str.reprChar at hd
  dsimp only at hd
  repeat' split at hd
  all_goals simp only [List.mem_append, List.mem_cons, List.not_mem_nil, or_false] at hd
  · rcases hd with rfl | rfl <;> omega
  · rcases hd with rfl | rfl <;> omega
  · rcases hd with rfl | rfl <;> omega
  · rcases hd with rfl | rfl <;> omega
  · rw [hd]; exact hc
  · rcases hd with (rfl | rfl) | hd
    · omega
    · omega
    · exact hex 2 d (by simpa using hd)
  · rcases hd with (rfl | rfl) | hd
    · omega
    · omega
    · exact hex 4 d (by simpa using hd)
  · rcases hd with (rfl | rfl) | hd
    · omega
    · omega
    · exact hex 8 d (by simpa using hd)
theorem Sok.repr {x : Str} (h : Sok x) : Sok (reprText x) := by
  have hq : reprQuote x < 0x110000 := by
    unfold reprQuote
    split <;> decide
  have go : ∀ (l : List Nat) (acc : Array Nat), (∀ c ∈ l, c < 0x110000) → (∀ c ∈ acc.toList, c < 0x110000) → ∀ c ∈ (l.foldl (fun out c => out ++ (Builtin.Str.reprChar (reprQuote x) c).toArray) acc).toList, c < 0x110000 := fun l => by
    induction l with
    | nil => intro acc _ ha; exact ha
    | cons a r ih =>
      intro acc hl ha
      rw [List.foldl_cons]
      refine ih _ (fun c hc => hl c (List.mem_cons_of_mem _ hc)) fun c hc => ?_
      rw [Array.toList_append, List.mem_append] at hc
      exact hc.elim (ha c) (reprChar_sok hq (hl a (List.mem_cons_self ..)) c)
  intro c hc
  have hc' : c ∈ ((x.cps.foldl (fun out c => out ++ (Builtin.Str.reprChar (reprQuote x) c).toArray) #[reprQuote x]).push (reprQuote x)).toList := hc
  rw [Array.toList_push, List.mem_append, ← Array.foldl_toList] at hc'
  rcases hc' with hc' | hc'
  · refine go x.cps.toList _ h ?_ c hc'
    intro d hd
    have : d = reprQuote x := by simpa using hd
    rw [this]; exact hq
  · have : c = reprQuote x := by simpa using hc'
    rw [this]; exact hq
theorem Sok.text : ∀ {ts : List Str} {k : Nat} {acc : Str}, Sok acc → (∀ t ∈ ts, Sok t) → Sok (textFrom k acc ts)
  | [], _, _, h, _ => h
  | t :: r, k, acc, h, g => Sok.text (ts := r) ((h.app (Sok.lit _)).app (g t (List.mem_cons_self ..))) fun t ht => g t (List.mem_cons_of_mem _ ht)
theorem memJ {sep : List Nat} {x : Nat} : ∀ {ps : List (List Nat)}, x ∈ TL.joinL sep ps → x ∈ sep ∨ ∃ p ∈ ps, x ∈ p
  | [], h => by simp [TL.joinL] at h
  | [p], h => .inr ⟨p, by simp, h⟩
  | p :: q :: r, h => by
    rw [TL.joinL, List.mem_append, List.mem_append] at h
    rcases h with h | h | h
    · exact .inr ⟨p, by simp, h⟩
    · exact .inl h
    · rcases memJ h with h | ⟨p', hp, h⟩
      · exact .inl h
      · exact .inr ⟨p', List.mem_cons_of_mem _ hp, h⟩
theorem Sok.join {y : Str} {ts : List Str} (h : Sok y) (g : ∀ t ∈ ts, Sok t) : Sok (Str.join y ts) := fun c hc => by
  rw [TL.tl_join] at hc
  rcases memJ hc with q | ⟨p, hp, q⟩
  · exact h c q
  · obtain ⟨t, ht, rfl⟩ := List.mem_map.mp hp
    exact g t ht c q
mutual
theorem shown_sok : ∀ p : PyData, p.canLay0 = true → Sok p.shown
  | .none, _ => by rw [PyData.shown]; exact Sok.lit _
  | .bool b, _ => by rw [PyData.shown]; cases b <;> exact Sok.lit _
  | .int i, _ => by rw [PyData.shown]; exact Sok.lit _
  | .str x, h => by rw [PyData.shown]; rw [PyData.canLay0] at h; exact (Sok.of h).repr
  | .list xs, h => by
    rw [PyData.shown]
    rw [PyData.canLay0] at h
    exact (Sok.text (Sok.lit _) (shownAll_sok xs h)).app (Sok.lit _)
  | .tuple xs, h => by
    rw [PyData.shown]
    rw [PyData.canLay0] at h
    exact ((Sok.lit _).app (Sok.join (Sok.lit _) (shownAll_sok xs h))).app (Sok.lit _)
  | .dict _, h => by rw [PyData.canLay0] at h; cases h
theorem shownAll_sok : ∀ ps : List PyData, PyData.canLayAll0 ps = true → ∀ t ∈ PyData.shownAll ps, Sok t
  | [], _, t, ht => by rw [PyData.shownAll] at ht; cases ht
  | p :: ps, h, t, ht => by
    rw [PyData.canLayAll0, Bool.and_eq_true] at h
    rw [PyData.shownAll, List.mem_cons] at ht
    rcases ht with rfl | ht
    · exact shown_sok p h.1
    · exact shownAll_sok ps h.2 t ht
end
end J

/-! # GT: a def is run step by step, each step by its outcome -/
namespace J
open PySem PySem.Spec PyProof.Rows L2 DS
open SX (S)
section
variable {r r1 r2 : Rho} {m m1 m2 m3 : Mu} {f g h : XE'} {a : XA} {d x y : D} {xs : List D} {i : Nat}
theorem w_var (e : r[i]? = some (some d)) : xVar i r m = .ok d m := by unfold xVar; rw [e]
theorem w_c : xC d r m = .ok d m := rfl
theorem w_op {o : D → D → Mu → Out D} {R : Out D} (ha : f r m = .ok x m1) (hb : g r m1 = .ok y m2) (e : o x y m2 = R) : xOp o f g r m = R := by
  show (f r m).bind _ = _
  rw [ha]
  show (g r m1).bind _ = _
  rw [hb]
  exact e
theorem wa_nil : xaNil r m = .ok [] m := rfl
theorem wa_cons (ha : f r m = .ok x m1) (hb : a r m1 = .ok xs m2) : xaCons f a r m = .ok (x :: xs) m2 := by
  show (f r m).bind _ = _
  rw [ha]
  show (a r m1).bind _ = _
  rw [hb]
  rfl
theorem wa_1 (ha : f r m = .ok x m1) : xaCons f xaNil r m = .ok [x] m1 := wa_cons ha rfl
theorem wa_2 (ha : f r m = .ok x m1) (hb : g r m1 = .ok y m2) : xaCons f (xaCons g xaNil) r m = .ok [x, y] m2 := wa_cons ha (wa_1 hb)
theorem w_call {G : Fn} {R : Out D} (ha : a r m = .ok xs m1) (e : G xs m1 = R) : xCall G a r m = R := by
  show (a r m).bind _ = _
  rw [ha]
  exact e
theorem w_lst (ha : a r m = .ok xs m1) : xLst a r m = .ok (.lst xs) m1 := by
  show (a r m).bind _ = _
  rw [ha]
  rfl
theorem w_tst {b : Bool} (e : f r m = .ok (.bl b) m1) : xTest f r m = .ok b m1 := by
  show (f r m).bind _ = _
  rw [e]
  rfl
theorem w_not {t : XT} {b : Bool} (e : t r m = .ok b m1) : xNotT t r m = .ok (!b) m1 := by
  show (t r m).bind _ = _
  rw [e]
  rfl
theorem v_and {b k : Bool} (e : f r m = .ok (.bl b) m1) (e2 : b = true → g r m1 = .ok (.bl k) m1) : xAnd f g r m = .ok (.bl (b && k)) m1 := by
  show ((f r m).bind asB).bind _ = _
  rw [e]
  show (if b = true then g r m1 else Out.ok (D.bl false) m1) = _
  cases b with
  | true => rw [if_pos rfl, e2 rfl]; rfl
  | false => rfl
theorem w_sl {lo hi : XO} {l k : Option Int} {R : Out D} (ha : f r m = .ok x m1) (hl : lo r m1 = .ok l m1) (hh : hi r m1 = .ok k m1) (e : slD x l k m1 = R) : xSl f lo hi r m = R := by
  show (f r m).bind _ = _
  rw [ha]
  show (lo r m1).bind _ = _
  rw [hl]
  show (hi r m1).bind _ = _
  rw [hh]
  exact e
theorem wo_n : xoN r m = .ok none m := rfl
theorem wo_s {k : Int} (e : f r m = .ok (.int k) m1) : xoS f r m = .ok (some k) m1 := by
  show (f r m).bind _ = _
  rw [e]
  rfl
theorem wi_seq (e : f r m = .ok x m1) {R : Out (List D)} (e2 : seqD x m1 = R) : xiSeq f r m = R := by
  show (f r m).bind _ = _
  rw [e]
  exact e2
theorem w_bm {T : String} {G : Fn} {R : Out D} (e : f r m = .ok x m1) (ht : tyD T m1 x = true) (ha : a r m1 = .ok xs m2) (e2 : G (x :: xs) m2 = R) : xBM T G f a r m = R := by
  show (f r m).bind _ = _
  rw [e]
  show (if tyD T m1 x then (a r m1).bind (fun ds m2 => G (x :: ds) m2) else .stuck) = _
  rw [if_pos ht, ha]
  exact e2
theorem w_lc {vs : List Nat} {gt : XG} {tt : XT} {it : XA} {R : Out D} (e : it r m = .ok xs m1) (e2 : lcD gt tt f (wipeR r vs) xs m1 = R) : xLc it vs gt tt f r m = R := by
  show (it r m).bind _ = _
  rw [e]
  exact e2
/-! statements -/
variable {s t : XS} {R : SO}
theorem s_seq (e : s r m = .next r1 m1) (e2 : t r1 m1 = R) : sSeq s t r m = R := by
  show (match s r m with
    | .next r' m' => t r' m'
    | o => o) = _
  rw [e]
  exact e2
theorem s_if0 {q : XT} (e : q r m = .ok false m1) (e2 : t r m1 = R) : sIf q s t r m = R := by
  show (q r m).stm r _ = _
  rw [e]
  exact e2
theorem s_no {q : XT} (e : q r m = .ok false m1) : sIf q s sNil r m = .next r m1 := s_if0 e rfl
theorem s_asg (e : f r m = .ok d m1) : sAsg f (gNm i) r m = .next (r.set i (some d)) m1 := by
  show (f r m).stm r _ = _
  rw [e]
  rfl
theorem s_for {gt : XG} (e : a r m = .ok xs m1) (e2 : loopF gt s xs r m1 = R) : sFor a gt s r m = R := by
  show (a r m).stm r _ = _
  rw [e]
  exact e2
theorem s_ret (e : f r m = .ok d m1) : sRet f r m = .ret d m1 := by
  show (f r m).stm r _ = _
  rw [e]
  rfl
theorem s_expr (e : f r m = .ok d m1) : sExpr f r m = .next r m1 := by
  show (f r m).stm r _ = _
  rw [e]
  rfl
/-! defs -/
variable {n : Nat} {ds : List D}
theorem f_ret (e : s (rho0 n ds) m = .ret d m1) (hi : d.inB m.length = true) : fnOf n false s ds m = .ok d (m1.take m.length) := by
  show (match s (rho0 n ds) m with
    | .next _ m' => Out.ok D.non (m'.take m.length)
    | .ret d m' => if false then .ok d m' else exitD m.length d m'
    | .exc c fs _ m' => if D.inF m.length fs then .exc c fs (m'.take m.length) else .stuck
    | _ => .stuck) = _
  rw [e]
  show exitD m.length d m1 = _
  exact exit_in hi
theorem f_ret' {μ' : Mu} (e : s (rho0 n ds) m = .ret d m1) (hi : d.inB m.length = true) (ht : m1.take m.length = μ') : fnOf n false s ds m = .ok d μ' := by rw [f_ret e hi, ht]
end
end J

/-! # K01: the law of errors and limits -/
namespace J
open PySem PySem.Spec PyProof.Rows L2 DS
abbrev hdl (f : Str) (a : XE') : XS := sExpr (xBM "list" appF (xVar 1) (xaCons (xCall reprF (xaCons a xaNil)) xaNil))
theorem xf_at {k : Hx} {fs : List (Str × D)} {f : Str} {r : Rho} {m : Mu} (hl : 2 < r.length) : xExF k exT f (xVar 2) (r.set 2 (some (.exn k fs))) m = (if k.c ∈ exT.nm then (match fs.lookup f with | some v => .ok v m | none => .stuck) else .stuck) := by
  have e : xVar 2 (r.set 2 (some (.exn k fs))) m = .ok (.exn k fs) m := w_var (List.getElem?_set_self hl)
  unfold xExF
  rw [e]
  show (if k = k ∧ k.c ∈ exT.nm then _ else _) = _
  by_cases h : k.c ∈ exT.nm
  · rw [if_pos ⟨rfl, h⟩, if_pos h]
    try rfl
  · rw [if_neg (fun z => h z.2), if_neg h]
theorem xf_no {k : Hx} {f : Str} {r : Rho} {m : Mu} (hl : r.length ≤ 2) : xExF k exT f (xVar 2) r m = .stuck := by
  have e : xVar 2 r m = .stuck := by
    unfold xVar
    rw [List.getElem?_eq_none hl]
  unfold xExF
  rw [e]
  rfl
theorem bm_args {r r' : Rho} {m : Mu} {a b : XA} (h1 : r[1]? = r'[1]?) (h : ∀ m1, a r m1 = b r' m1) : xBM "list" appF (xVar 1) a r m = xBM "list" appF (xVar 1) b r' m := by
  have e : xVar 1 r m = xVar 1 r' m := by unfold xVar; rw [h1]
  unfold xBM
  rw [e]
  cases xVar 1 r' m with
  | ok d m1 =>
    show (if tyD "list" m1 d then (a r m1).bind _ else _) = (if tyD "list" m1 d then (b r' m1).bind _ else _)
    rw [h m1]
  | exc _ _ _ => rfl
  | stuck => rfl
theorem un_expr {f : XE'} {g : XE'} {r r' : Rho} {m : Mu} (h : f r m = g r' m) (hr : r.set 2 none = r'.set 2 none) : (sExpr f r m).un 2 = (sExpr g r' m).un 2 := by
  unfold sExpr
  rw [h]
  cases g r' m with
  | ok d m1 =>
    show SO.next _ _ = SO.next _ _
    rw [hr]
  | exc _ _ _ => rfl
  | stuck => rfl
theorem iv_rp {f : Str} : IvE 2 (fun k => hdl f (xExF k exT f (xVar 2))) := by
  intro k k' fs r m hk
  have hr : (r.set 2 (some (.exn k fs))).set 2 none = (r.set 2 (some (.exn k' fs))).set 2 none := by rw [List.set_set, List.set_set]
  have h1 : (r.set 2 (some (.exn k fs)))[1]? = (r.set 2 (some (.exn k' fs)))[1]? := by rw [List.getElem?_set_ne (by decide), List.getElem?_set_ne (by decide)]
  have hx : ∀ m1, xExF k exT f (xVar 2) (r.set 2 (some (.exn k fs))) m1 = xExF k' exT f (xVar 2) (r.set 2 (some (.exn k' fs))) m1 := fun m1 => by
    by_cases hl : 2 < r.length
    · rw [xf_at hl, xf_at hl, hk]
    · have q : ∀ d : D, r.set 2 (some d) = r := fun d => List.set_eq_of_length_le (by omega)
      rw [q, q, xf_no (by omega), xf_no (by omega)]
  refine un_expr (bm_args h1 fun m1 => ?_) hr
  show ((((xExF k exT f (xVar 2) (r.set 2 (some (.exn k fs))) m1).bind _).bind _).bind _) = ((((xExF k' exT f (xVar 2) (r.set 2 (some (.exn k' fs))) m1).bind _).bind _).bind _)
  rw [hx m1]
  rfl
theorem iv__law_raised_right : IvE 2 (fun k => (sExpr (xBM "list" appF (xVar 1) (xaCons (xCall reprF (xaCons (xExF k exT "given" (xVar 2)) xaNil)) xaNil)))) := iv_rp
theorem iv__law_raised_rightx : IvE 2 (fun k => (sExpr (xBM "list" appF (xVar 1) (xaCons (xCall reprF (xaCons (xExF k exT "index" (xVar 2)) xaNil)) xaNil)))) := iv_rp

/-! ### numbers and their texts -/
theorem sh_small {n : Nat} (h : n < 10 ^ 12) : (PyData.int (n : Nat)).showable = true ∧ (PyData.shown (.int (n : Nat))).length ≤ 13 := by
  constructor
  · rw [PyData.showable, decide_eq_true_eq, Int.natAbs_natCast]
    by_cases h0 : n = 0
    · rw [h0]; decide
    · refine (Nat.log2_lt h0).mpr (Nat.lt_trans h ?_)
      decide +kernel
  · have e := int_text_length_le10 (a := (n : Nat)) (k := 12) (by decide) (by rw [Int.natAbs_natCast]; exact h)
    show (Str.ofString (toString ((n : Nat) : Int))).length ≤ 13
    rw [PySem.ofString_length]
    exact e
abbrev zN (n : Nat) : Str := (PyData.int (n : Nat)).shown
abbrev nX (n : Nat) : D := .int (n : Nat)
theorem zN_sok (n : Nat) : Sok (zN n) := shown_sok _ rfl
theorem rp_1 {n : Nat} (h : n < 10 ^ 12) (m : Mu) : reprF [nX n] m = .ok (.str (zN n)) m := by
  obtain ⟨a, b⟩ := sh_small h
  show (if (PyData.int (n : Nat)).showable = true ∧ (PyData.int (n : Nat)).depth ≤ 60 ∧ (PyData.int (n : Nat)).shown.length ≤ sizeLine then Out.ok (D.str (zN n)) m else .stuck) = _
  rw [if_pos ⟨a, Nat.zero_le _, by rw [sizeLine_eq]; omega⟩]
theorem rp_L {n : Nat} (h : n < 10 ^ 12) {ps : List PyData} (hs : ∀ p ∈ ps, p = .int (n : Nat) ∨ p = .int 7) (hl : ps.length ≤ 20) {d : D} {m : Mu} (hd : toPd (dere m d) = some (.list ps)) : reprF [d] m = .ok (.str (PyData.list ps).shown) m := by
  obtain ⟨a, b⟩ := sh_small h
  have h7 := sh_small (n := 7) (by decide)
  have s1 : (PyData.list ps).showable = true := by
    rw [PyData.showable]
    clear hl hd
    induction ps with
    | nil => rfl
    | cons p ps ih =>
      rw [PyData.showableAll, ih fun q hq => hs q (List.mem_cons_of_mem _ hq)]
      rcases hs p (List.mem_cons_self ..) with rfl | rfl
      · rw [a]; rfl
      · rw [show (PyData.int 7).showable = true from h7.1]; rfl
  have s2 : (PyData.list ps).depth ≤ 60 := by
    have : PyData.depthAll ps ≤ 0 := by
      clear hl hd s1
      induction ps with
      | nil => exact Nat.le_refl _
      | cons p ps ih =>
        rw [PyData.depthAll]
        refine Nat.max_le.mpr ⟨?_, ih fun q hq => hs q (List.mem_cons_of_mem _ hq)⟩
        rcases hs p (List.mem_cons_self ..) with rfl | rfl <;> exact Nat.zero_le _
    rw [PyData.depth]
    omega
  have lv : (PyData.list ps).leavesShort 401 = true := by
    rw [PyData.leavesShort]
    clear hl hd s1 s2
    induction ps with
    | nil => rfl
    | cons p ps ih =>
      rw [PyData.leavesShortAll, ih fun q hq => hs q (List.mem_cons_of_mem _ hq)]
      rcases hs p (List.mem_cons_self ..) with rfl | rfl
      · rw [PyData.leavesShort, decide_eq_true (show (PyData.shown (.int (n : Nat))).length ≤ 401 by omega)]; rfl
      · rw [PyData.leavesShort, decide_eq_true (show (PyData.shown (.int 7)).length ≤ 401 from Nat.le_trans h7.2 (by decide))]; rfl
  have wt : (PyData.list ps).weight ≤ 45 * ps.length := by
    rw [PyData.weight]
    clear hl hd s1 s2 lv
    have w1 : ∀ k : Nat, k < 10 ^ 12 → (PyData.int (k : Nat)).weight ≤ 40 := fun k hk => by
      rw [PyData.weight]
      split
      · exact Nat.zero_le _
      · rename_i h0
        have : k ≠ 0 := fun e => h0 (by rw [e]; rfl)
        rw [Int.natAbs_natCast]
        have : k.log2 < 40 := (Nat.log2_lt this).mpr (Nat.lt_trans hk (by decide +kernel))
        omega
    induction ps with
    | nil => exact Nat.le_refl _
    | cons p ps ih =>
      have i := ih fun q hq => hs q (List.mem_cons_of_mem _ hq)
      have wp : p.weight ≤ 40 := by
        rcases hs p (List.mem_cons_self ..) with rfl | rfl
        · exact w1 n h
        · exact w1 7 (by decide)
      rw [PyData.weightAll, List.length_cons]
      omega
  have h1 := PyData.shown_le 401 (by decide) _ lv
  unfold reprF
  simp only [hd]
  rw [if_pos ⟨s1, s2, by rw [sizeLine_eq]; omega⟩]

/-! ### the errors of a thing -/
abbrev L1 (d : D) : List D := [.exv "InvalidText" [("given", d)], .exv "InvalidCount" [("given", d)], .exv "InvalidPlace" [("given", d)], .exv "InvalidClaim" [("given", d)], .exv "NotABook" [("given", d)], .exv "InvalidPlans" [("index", d)], .exv "InvalidPieces" [("index", d)], .exv "UnknownPlan" [("given", d)], .exv "TooLong" [("most", d)], .exv "IsOver" [], .exv "NothingToUndo" [], .exv "Broken" [("index", d), ("shown", .int 7)]]
abbrev L2' (d : D) : List D := [.exv "InvalidText" [("given", d)], .exv "InvalidCount" [("given", d)], .exv "InvalidPlace" [("given", d)], .exv "InvalidClaim" [("given", d)], .exv "NotABook" [("given", d)], .exv "InvalidPlans" [("index", d)], .exv "InvalidPieces" [("index", d)], .exv "UnknownPlan" [("given", d)], .exv "TooLong" [("most", d)], .exv "IsOver" [], .exv "NothingToUndo" [], .exv "Broken" [("shown", .int 7), ("index", d)]]
theorem given_ok (n : Int) : F__law_given [.int n] [.lst []] = .ok (.lst [.lst (L1 (.int n)), .lst (L2' (.int n))]) [.lst []] := by kernel_rfl
end J

/-! # K01b: the law of errors and limits, what is asked -/
namespace J
open PySem PySem.Spec PyProof.Rows L2 DS
theorem lp_next {g : XG} {body : XS} {x : D} {xs : List D} {r r1 r2 : Rho} {m m1 m2 : Mu} {R : SO} (hg : g x r m = .ok r1 m1) (hb : body r1 m1 = .next r2 m2) (e : loopF g body xs r2 m2 = R) : loopF g body (x :: xs) r m = R := by
  unfold loopF
  rw [hg]
  show (match body r1 m1 with
    | .next r2 m2 => loopF g body xs r2 m2
    | .cont r2 m2 => loopF g body xs r2 m2
    | .brk r2 m2 => .next r2 m2
    | o => o) = R
  rw [hb]
  exact e
theorem eq_self (z : Str) (m : Mu) : eqD (.str z) (.str z) m = .ok (.bl true) m := by
  show Out.ok (D.bl (z == z)) m = _
  rw [beq_self_eq_true]
theorem mem9 {n : Nat} {k : Nat} : ∀ p ∈ List.replicate k (PyData.int (n : Nat)), p = .int (n : Nat) ∨ p = .int 7 := fun p hp => .inl (List.eq_of_mem_replicate hp)
theorem mem2 {n : Nat} : ∀ p ∈ [PyData.int (n : Nat), .int 7], p = .int (n : Nat) ∨ p = .int 7 := fun p hp => by
  rcases List.mem_cons.mp hp with rfl | hp
  · exact .inl rfl
  · exact .inr (List.mem_singleton.mp hp)
abbrev mN (n : Int) (k : Nat) : Mu := [.lst [], .lst (List.replicate k (.int n))]
/-- the readings of the law, on errors that are as due -/
theorem kept_gen {n : Nat} (h : n < 10 ^ 12) {l : List D}
    (e1 : (sAsg (xOp addN (xLc (xiSeq (xLst (xaCons (xC (.int 0)) (xaCons (xC (.int 1)) (xaCons (xC (.int 2)) (xaCons (xC (.int 3)) (xaCons (xC (.int 4)) (xaCons (xC (.int 7)) xaNil)))))))) [4] (gNm 4) xYes (xExV exT "given" (xOp ixD (xVar 0) (xVar 4)))) (xLc (xiSeq (xLst (xaCons (xC (.int 5)) (xaCons (xC (.int 6)) xaNil)))) [4] (gNm 4) xYes (xExV exT "index" (xOp ixD (xVar 0) (xVar 4))))) (gNm 2)) [some (.lst l), some (nX n), none, none, none] [.lst []] = .next [some (.lst l), some (nX n), some (.loc 1), none, none] (mN n 8))
    (e2 : (sExpr (xBM "list" appF (xVar 2) (xaCons (xExV exT "most" (xOp ixD (xVar 0) (xC (.int 8)))) xaNil))) [some (.lst l), some (nX n), some (.loc 1), none, none] (mN n 8) = .next [some (.lst l), some (nX n), some (.loc 1), none, none] (mN n 9))
    (e3 : (sAsg (xOp ixD (xVar 0) (xC (.int 11))) (gNm 3)) [some (.lst l), some (nX n), some (.loc 1), none, none] (mN n 9) = .next [some (.lst l), some (nX n), some (.loc 1), some x, none] (mN n 9))
    (e4 : (xaCons (xExV exT "index" (xVar 3)) (xaCons (xExV exT "shown" (xVar 3)) xaNil)) [some (.lst l), some (nX n), some (.loc 1), some x, none] (mN n 9) = .ok [nX n, .int 7] (mN n 9)) :
    F__law_kept_right [.lst l, nX n] [.lst []] = .ok (.bl true) [.lst []] := by
  have r1 : reprF [.loc 1] (mN n 9) = .ok (.str (PyData.list (List.replicate 9 (.int (n : Nat)))).shown) (mN n 9) := rp_L h mem9 (Nat.le_of_ble_eq_true rfl) rfl
  have r2 : reprF [.lst (List.replicate 9 (nX n))] (mN n 9) = .ok (.str (PyData.list (List.replicate 9 (.int (n : Nat)))).shown) (mN n 9) := rp_L h mem9 (Nat.le_of_ble_eq_true rfl) rfl
  have r3 : reprF [.lst [nX n, .int 7]] (mN n 9) = .ok (.str (PyData.list [.int (n : Nat), .int 7]).shown) (mN n 9) := rp_L h mem2 (Nat.le_of_ble_eq_true rfl) rfl
  have v1 : xVar 1 [some (.lst l), some (nX n), some (.loc 1), some x, none] (mN n 9) = .ok (nX n) (mN n 9) := rfl
  have v2 : xVar 2 [some (.lst l), some (nX n), some (.loc 1), some x, none] (mN n 9) = .ok (.loc 1) (mN n 9) := rfl
  refine f_ret' (s_seq e1 (s_seq e2 (s_seq e3 (s_ret (v_and (b := true) (k := true) (w_op (w_call (wa_1 v2) r1) (w_call (wa_1 (w_op (w_lst (wa_1 v1)) (w_call (wa_1 v2) (show lenD [.loc 1] (mN n 9) = .ok (.int 9) (mN n 9) from rfl)) (show mulD (.lst [nX n]) (.int 9) (mN n 9) = .ok (.lst (List.replicate 9 (nX n))) (mN n 9) from rfl))) r2) (eq_self _ _)) fun _ =>
    w_op (w_call (wa_1 (w_lst e4)) r3) (w_call (wa_1 (w_lst (wa_2 v1 w_c))) r3) (eq_self _ _)))))) rfl rfl
theorem kept1 {n : Nat} (h : n < 10 ^ 12) : F__law_kept_right [.lst (L1 (nX n)), nX n] [.lst []] = .ok (.bl true) [.lst []] :=
  kept_gen (x := .exv "Broken" [("index", nX n), ("shown", .int 7)]) h (by kernel_rfl) (by kernel_rfl) (by kernel_rfl) (by kernel_rfl)
theorem kept2 {n : Nat} (h : n < 10 ^ 12) : F__law_kept_right [.lst (L2' (nX n)), nX n] [.lst []] = .ok (.bl true) [.lst []] :=
  kept_gen (x := .exv "Broken" [("shown", .int 7), ("index", nX n)]) h (by kernel_rfl) (by kernel_rfl) (by kernel_rfl) (by kernel_rfl)
/-! ### errors raised and caught -/
theorem hdl_ok {f : Str} {a : XE'} {n : Nat} (h : n < 10 ^ 12) {e : D} {xs : List D} (hx : a [some (nX n), some (.loc 1), some e] [.lst [], .lst xs] = .ok (nX n) [.lst [], .lst xs]) (hp : appF [.loc 1, .str (zN n)] [.lst [], .lst xs] = .ok .non [.lst [], .lst (xs ++ [.str (zN n)])]) : (hdl f a [some (nX n), some (.loc 1), some e] [.lst [], .lst xs]).un 2 = .next [some (nX n), some (.loc 1), none] [.lst [], .lst (xs ++ [.str (zN n)])] := by
  have e : hdl f a [some (nX n), some (.loc 1), some e] [.lst [], .lst xs] = .next [some (nX n), some (.loc 1), some e] [.lst [], .lst (xs ++ [.str (zN n)])] := s_expr (w_bm (w_var rfl) rfl (wa_1 (w_call (wa_1 hx) (rp_1 h _))) hp)
  rw [e]
  rfl
theorem raised_ok {n : Nat} (h : n < 10 ^ 12) : F__law_raised_right [nX n] [.lst []] = .ok (.bl true) [.lst []] := by
  have t1 : ∀ H : Hx → XS, sTry exT (sRaise "InvalidText" "given" (xVar 0)) [(["NotRight"], some 2, H)] [some (nX n), some (.loc 1), none] [.lst [], .lst []] = (H ⟨0, none, "InvalidText"⟩ [some (nX n), some (.loc 1), some (.exn ⟨0, none, "InvalidText"⟩ [("given", nX n)])] [.lst [], .lst []]).un 2 := fun H => by kernel_rfl
  have t2 : ∀ H : Hx → XS, sTry exT (sRaise "UnknownPlan" "given" (xVar 0)) [(["NotThere"], some 2, H)] [some (nX n), some (.loc 1), none] [.lst [], .lst [.str (zN n)]] = (H ⟨0, none, "UnknownPlan"⟩ [some (nX n), some (.loc 1), some (.exn ⟨0, none, "UnknownPlan"⟩ [("given", nX n)])] [.lst [], .lst [.str (zN n)]]).un 2 := fun H => by kernel_rfl
  have t3 : ∀ H : Hx → XS, sTry exT (sRaise2 "Broken" "index" "shown" (xaCons (xVar 0) (xaCons (xC (.int 3)) xaNil))) [(["CannotBe"], some 2, H)] [some (nX n), some (.loc 1), none] [.lst [], .lst [.str (zN n), .str (zN n)]] = (H ⟨0, none, "Broken"⟩ [some (nX n), some (.loc 1), some (.exn ⟨0, none, "Broken"⟩ [("shown", .int 3), ("index", nX n)])] [.lst [], .lst [.str (zN n), .str (zN n)]]).un 2 := fun H => by kernel_rfl
  have a0 : sAsg (xNew xaNil) (gNm 1) (rho0 3 [nX n]) [.lst []] = .next [some (nX n), some (.loc 1), none] [.lst [], .lst []] := rfl
  have hs : SeqAt.shaped (.list [.str (zN n), .str (zN n), .str (zN n)]) = true := by
    unfold SeqAt.shaped
    rw [PyData.canLay0, PyData.canLayAll0, PyData.canLayAll0, PyData.canLayAll0, PyData.canLayAll0, PyData.canLay0, (zN_sok n).ok]
    rfl
  have hc : (PyData.list [.str (zN n), .str (zN n), .str (zN n)]).canLay0 = true := by
    rw [PyData.canLay0, PyData.canLayAll0, PyData.canLayAll0, PyData.canLayAll0, PyData.canLayAll0, PyData.canLay0, (zN_sok n).ok]
    rfl
  have eb : eqD (.loc 1) (.lst [.str (zN n), .str (zN n), .str (zN n)]) [.lst [], .lst [.str (zN n), .str (zN n), .str (zN n)]] = .ok (.bl true) [.lst [], .lst [.str (zN n), .str (zN n), .str (zN n)]] := by
    have e : eqB [.lst [], .lst [.str (zN n), .str (zN n), .str (zN n)]] (.loc 1) (.lst [.str (zN n), .str (zN n), .str (zN n)]) = some true := by
      show (if SeqAt.shaped (.list [.str (zN n), .str (zN n), .str (zN n)]) && SeqAt.shaped (.list [.str (zN n), .str (zN n), .str (zN n)]) then some (PyData.eqv (.list [.str (zN n), .str (zN n), .str (zN n)]) (.list [.str (zN n), .str (zN n), .str (zN n)])) else none) = _
      rw [hs, SeqAt.eqv_refl _ hc]
      rfl
    show (match eqB [.lst [], .lst [.str (zN n), .str (zN n), .str (zN n)]] (.loc 1) (.lst [.str (zN n), .str (zN n), .str (zN n)]) with
      | some b => Out.ok (D.bl b) _
      | none => .stuck) = _
    rw [e]
  refine f_ret' (s_seq a0 (s_seq ((t1 _).trans (hdl_ok h (f := "given") (by kernel_rfl) (by kernel_rfl))) (s_seq ((t2 _).trans (hdl_ok h (f := "given") (by kernel_rfl) (by kernel_rfl))) (s_seq ((t3 _).trans (hdl_ok h (f := "index") (by kernel_rfl) (by kernel_rfl))) (s_ret (w_op (w_var rfl) (w_op (w_lst (wa_1 (w_call (wa_1 (w_var rfl)) (rp_1 h _)))) w_c rfl) eb)))))) rfl rfl
/-! ### a thing -/
abbrev inB' : XS := (sSeq (sAsg (xLc (xiRng1 (xaCons (xCall lenD (xaCons (xVar 1) xaNil)) xaNil)) [4] (gNm 4) xYes (xOp eqD (xVar 4) (xVar 2))) (gNm 3))
  (sIf (xOrT (xTest (xOp neD (xCall F__law_sorts (xaCons (xOp ixD (xVar 1) (xVar 2)) xaNil)) (xVar 3))) (xTest (xOp neD (xCall F__law_bases (xaCons (xOp ixD (xVar 1) (xVar 2)) xaNil)) (xCall F__law_due (xaCons (xVar 2) xaNil))))) (sRet (xC (.bl false))) sNil))
abbrev due11 : D := .lst (List.replicate 11 (.bl false) ++ [.bl true])
theorem in1 (n : Int) : sFor (xiRng1 (xaCons (xCall lenD (xaCons (xVar 1) xaNil)) xaNil)) (gNm 2) inB' [some (.int n), some (.lst (L1 (.int n))), none, none, none] [.lst []] = .next [some (.int n), some (.lst (L1 (.int n))), some (.int 11), some due11, none] [.lst []] := by kernel_rfl
theorem in2 (n : Int) : sFor (xiRng1 (xaCons (xCall lenD (xaCons (xVar 1) xaNil)) xaNil)) (gNm 2) inB' [some (.int n), some (.lst (L2' (.int n))), some (.int 11), some due11, none] [.lst []] = .next [some (.int n), some (.lst (L2' (.int n))), some (.int 11), some due11, none] [.lst []] := by kernel_rfl
theorem right_n {n : Nat} (h : n < 10 ^ 12) : F__law_right [nX n] [.lst []] = .ok (.bl true) [.lst []] := by
  have b1 : ∀ (l : List D) (x y : Option D) , F__law_kept_right [.lst l, nX n] [.lst []] = .ok (.bl true) [.lst []] → sIf (xNotT (xTest (xCall F__law_kept_right (xaCons (xVar 1) (xaCons (xVar 0) xaNil))))) (sRet (xC (.bl false))) sNil [some (nX n), some (.lst l), x, y, none] [.lst []] = .next [some (nX n), some (.lst l), x, y, none] [.lst []] := fun l x y e =>
    s_no (w_not (b := true) (w_tst (w_call (wa_2 (w_var rfl) (w_var rfl)) e)))
  have lp : loopF (gNm 1) (sSeq (sFor (xiRng1 (xaCons (xCall lenD (xaCons (xVar 1) xaNil)) xaNil)) (gNm 2) inB') (sIf (xNotT (xTest (xCall F__law_kept_right (xaCons (xVar 1) (xaCons (xVar 0) xaNil))))) (sRet (xC (.bl false))) sNil)) [.lst (L1 (nX n)), .lst (L2' (nX n))] (rho0 5 [nX n]) [.lst []] = .next [some (nX n), some (.lst (L2' (nX n))), some (.int 11), some due11, none] [.lst []] := by
    have s1 : (sSeq (sFor (xiRng1 (xaCons (xCall lenD (xaCons (xVar 1) xaNil)) xaNil)) (gNm 2) inB') (sIf (xNotT (xTest (xCall F__law_kept_right (xaCons (xVar 1) (xaCons (xVar 0) xaNil))))) (sRet (xC (.bl false))) sNil)) [some (nX n), some (.lst (L1 (nX n))), none, none, none] [.lst []] = .next [some (nX n), some (.lst (L1 (nX n))), some (.int 11), some due11, none] [.lst []] := s_seq (in1 n) (b1 _ _ _ (kept1 h))
    have s2 : (sSeq (sFor (xiRng1 (xaCons (xCall lenD (xaCons (xVar 1) xaNil)) xaNil)) (gNm 2) inB') (sIf (xNotT (xTest (xCall F__law_kept_right (xaCons (xVar 1) (xaCons (xVar 0) xaNil))))) (sRet (xC (.bl false))) sNil)) [some (nX n), some (.lst (L2' (nX n))), some (.int 11), some due11, none] [.lst []] = .next [some (nX n), some (.lst (L2' (nX n))), some (.int 11), some due11, none] [.lst []] := s_seq (in2 n) (b1 _ _ _ (kept2 h))
    exact lp_next rfl s1 (lp_next rfl s2 rfl)
  exact f_ret' (s_seq (s_for (wi_seq (w_call (wa_1 (w_var rfl)) (given_ok n)) rfl) lp) (s_ret (w_call (wa_1 (w_var rfl)) (raised_ok h)))) rfl rfl
theorem right_non : F__law_right [.non] [.lst []] = .ok (.bl true) [.lst []] := by kernel_rfl
theorem right_up : F__law_right [.str "up"] [.lst []] = .ok (.bl true) [.lst []] := by kernel_rfl
theorem right_tup : F__law_right [.tup [.int 1, .str "x"]] [.lst []] = .ok (.bl true) [.lst []] := by kernel_rfl
theorem right_tru : F__law_right [.bl true] [.lst []] = .ok (.bl true) [.lst []] := by kernel_rfl
theorem right_neg : F__law_right [.int (-3)] [.lst []] = .ok (.bl true) [.lst []] := by kernel_rfl
/-! ### the law -/
abbrev things (ns : List Int) : List D := [.non, .str "up", .tup [.int 1, .str "x"], .bl true, .int (-3)] ++ (ns.take 3).map fun c => nX (c % 10 ^ 12).toNat
theorem mod_nat (c : Int) : (c % 1000000000000 : Int) = (((c % 10 ^ 12).toNat : Nat) : Int) := by
  have h : (10 ^ 12 : Int) = 1000000000000 := by decide +kernel
  rw [h, Int.toNat_of_nonneg (Int.emod_nonneg _ (by decide))]
theorem mod_lt (c : Int) : (c % 10 ^ 12).toNat < 10 ^ 12 := by
  have h : (10 ^ 12 : Int) = 1000000000000 := by decide +kernel
  have := Int.emod_lt_of_pos c (show (0 : Int) < 1000000000000 by decide)
  have h0 := Int.emod_nonneg c (show (1000000000000 : Int) ≠ 0 by decide)
  rw [h]
  have e : (10 ^ 12 : Nat) = 1000000000000 := by decide +kernel
  rw [e]
  omega
theorem right_any (ns : List Int) : ∀ d ∈ things ns, F__law_right [d] [.lst []] = .ok (.bl true) [.lst []] := fun d hd => by
  rcases List.mem_append.mp hd with hd | hd
  · rcases List.mem_cons.mp hd with rfl | hd
    · exact right_non
    rcases List.mem_cons.mp hd with rfl | hd
    · exact right_up
    rcases List.mem_cons.mp hd with rfl | hd
    · exact right_tup
    rcases List.mem_cons.mp hd with rfl | hd
    · exact right_tru
    rcases List.mem_cons.mp hd with rfl | hd
    · exact right_neg
    · cases hd
  · obtain ⟨c, _, rfl⟩ := List.mem_map.mp hd
    exact right_n (mod_lt c)
/-- a comprehension that keeps nothing -/
theorem lc_none {tt : XT} {te : XE'} {r0 : Rho} {i : Nat} : ∀ {xs : List D}, (∀ x ∈ xs, tt (r0.set i (some x)) [.lst []] = .ok false [.lst []]) → lcF (gNm i) tt te 0 r0 xs [.lst []] = .ok () [.lst []]
  | [], _ => rfl
  | x :: xs, h => by
    unfold lcF
    show ((tt (r0.set i (some x)) [.lst []]).ne.bind _) = _
    rw [h x (List.mem_cons_self ..)]
    exact lc_none fun y hy => h y (List.mem_cons_of_mem _ hy)
theorem law_true (ns : List Int) (hl : ns.length ≤ 63) : ∃ m', F_law [.fix (ns.map .int)] (mu0 []) = .ok (.bl true) m' := by
  have s1 : (sAsg (xLst (xaCons (xC (.int 4)) (xaCons (xC (.int 5)) (xaCons (xC (.int 3)) (xaCons (xC (.int 3)) (xaCons (xC (.int 4)) (xaCons (xC (.int 4)) (xaCons (xC (.int 4)) xaNil)))))))) (gNm 1)) (rho0 5 [.fix (ns.map .int)]) [] = .next [some (.fix (ns.map .int)), some (.lst [.int 4, .int 5, .int 3, .int 3, .int 4, .int 4, .int 4]), none, none, none] [] := rfl
  have s2 : (sAsg (xOp addD (xVar 1) (xLst (xaCons (xC (.int 100)) (xaCons (xC (.int 1000000000000)) (xaCons (xC (.int 1000000000000)) (xaCons (xC (.int 12)) (xaCons (xC (.int 1000)) xaNil))))))) (gNm 1)) [some (.fix (ns.map .int)), some (.lst [.int 4, .int 5, .int 3, .int 3, .int 4, .int 4, .int 4]), none, none, none] [] = .next [some (.fix (ns.map .int)), some (.lst [.int 4, .int 5, .int 3, .int 3, .int 4, .int 4, .int 4, .int 100, .int 1000000000000, .int 1000000000000, .int 12, .int 1000]), none, none, none] [] := rfl
  have s3 : (sIf (xTest (xOp neD (xVar 1) (xLst (xaCons (xC (.int 4)) (xaCons (xC (.int 5)) (xaCons (xC (.int 3)) (xaCons (xC (.int 3)) (xaCons (xC (.int 4)) (xaCons (xC (.int 4)) (xaCons (xC (.int 4)) (xaCons (xC (.int 100)) (xaCons (xOp powD (xC (.int 10)) (xC (.int 12))) (xaCons (xOp powD (xC (.int 10)) (xC (.int 12))) (xaCons (xC (.int 12)) (xaCons (xC (.int 1000)) xaNil))))))))))))))) (sRet (xC (.bl false))) sNil) [some (.fix (ns.map .int)), some (.lst [.int 4, .int 5, .int 3, .int 3, .int 4, .int 4, .int 4, .int 100, .int 1000000000000, .int 1000000000000, .int 12, .int 1000]), none, none, none] [] = .next [some (.fix (ns.map .int)), some (.lst [.int 4, .int 5, .int 3, .int 3, .int 4, .int 4, .int 4, .int 100, .int 1000000000000, .int 1000000000000, .int 12, .int 1000]), none, none, none] [] := by kernel_rfl
  have hsl : slD (.fix (ns.map .int)) none (some 3) [] = .ok (.lst ((ns.take 3).map .int)) [] := by
    show Out.ok (D.lst (DS.cutD (ns.map .int) none (some ((3 : Nat) : Int)))) [] = _
    rw [cut_to', List.map_take]
  have h2 : ∀ c ∈ ns.take 3, ∀ acc, (xOp modD (xCall intF (xaCons (xVar 3) xaNil)) (xOp powD (xC (.int 10)) (xC (.int 12)))) ([some (D.fix (ns.map .int)), some (.lst [.int 4, .int 5, .int 3, .int 3, .int 4, .int 4, .int 4, .int 100, .int 1000000000000, .int 1000000000000, .int 12, .int 1000]), none, none, none].set 3 (some (D.int c))) ([] ++ [.lst acc]) = .ok (nX (c % 10 ^ 12).toNat) ([] ++ [.lst acc]) := fun c _ acc => by
    have ep : powD (.int 10) (.int 12) ([] ++ [Cell.lst acc]) = .ok (.int 1000000000000) ([] ++ [.lst acc]) := by kernel_rfl
    refine (w_op (w_call (wa_1 (w_var rfl)) rfl) (w_op w_c w_c ep) (md_ok (by decide))).trans ?_
    rw [mod_nat]
  have e4 := lc_map (i := 3) (μ := []) D.int (fun c => nX (c % 10 ^ 12).toNat) h2 (fun _ _ => rfl) (by rw [sizeLine_eq, List.length_take]; omega)
  have s4 : (sAsg (xOp addD (xLst (xaCons (xC .non) (xaCons (xC (.str "up")) (xaCons (xTup (xaCons (xC (.int 1)) (xaCons (xC (.str "x")) xaNil))) (xaCons (xC (.bl true)) (xaCons (xNeg (xC (.int 3))) xaNil)))))) (xLc (xiSeq (xSl (xVar 0) xoN (xoS (xC (.int 3))))) [3] (gNm 3) xYes (xOp modD (xCall intF (xaCons (xVar 3) xaNil)) (xOp powD (xC (.int 10)) (xC (.int 12)))))) (gNm 2)) [some (.fix (ns.map .int)), some (.lst [.int 4, .int 5, .int 3, .int 3, .int 4, .int 4, .int 4, .int 100, .int 1000000000000, .int 1000000000000, .int 12, .int 1000]), none, none, none] [] = .next [some (.fix (ns.map .int)), some (.lst [.int 4, .int 5, .int 3, .int 3, .int 4, .int 4, .int 4, .int 100, .int 1000000000000, .int 1000000000000, .int 12, .int 1000]), some (.lst (things ns)), none, none] [] :=
    s_asg (w_op (show _ = Out.ok (D.lst [.non, .str "up", .tup [.int 1, .str "x"], .bl true, .int (-3)]) [] from rfl) (w_lc (wi_seq (w_sl (w_var rfl) wo_n (wo_s w_c) hsl) rfl) e4) (catX_ok (by rw [List.length_map, List.length_take]; show 5 + _ ≤ 1000; omega)))
  have hf := lc_none (i := 4) (te := xVar 4) (tt := xNotT (xTest (xCall F__law_right (xaCons (xVar 4) xaNil)))) (r0 := [some (D.fix (ns.map .int)), some (.lst [.int 4, .int 5, .int 3, .int 3, .int 4, .int 4, .int 4, .int 100, .int 1000000000000, .int 1000000000000, .int 12, .int 1000]), some (.lst (things ns)), none, none]) (xs := things ns) fun d hd =>
    w_not (b := true) (w_tst (w_call (wa_1 (w_var rfl)) (right_any ns d hd)))
  have e5 : lcD (gNm 4) (xNotT (xTest (xCall F__law_right (xaCons (xVar 4) xaNil)))) (xVar 4) [some (D.fix (ns.map .int)), some (.lst [.int 4, .int 5, .int 3, .int 3, .int 4, .int 4, .int 4, .int 100, .int 1000000000000, .int 1000000000000, .int 12, .int 1000]), some (.lst (things ns)), none, none] (things ns) [] = .ok (.lst []) [] := by
    unfold lcD
    show ((lcF _ _ _ 0 _ _ [.lst []]).bind _) = _
    rw [hf]
    rfl
  exact ⟨[], f_ret' (s_seq s1 (s_seq s2 (s_seq s3 (s_seq s4 (s_ret (w_op (w_lc (wi_seq (w_var rfl) rfl) e5) (w_lst wa_nil) (show eqD (.lst []) (.lst []) [] = .ok (.bl true) [] from rfl))))))) rfl rfl⟩
end J

namespace J
open PySem PySem.Spec PyProof.Rows L2 DS
theorem bt_repr : bootBuiltins ("repr" : Str) = some (.builtin "repr") := by decide +kernel
theorem bt_len : bootBuiltins ("len" : Str) = some (.builtin "len") := by decide +kernel
theorem bt_isinstance : bootBuiltins ("isinstance" : Str) = some (.builtin "isinstance") := by decide +kernel
theorem bt_ValueError : bootBuiltins ("ValueError" : Str) = some (.type "ValueError") := by decide +kernel
theorem bt_LookupError : bootBuiltins ("LookupError" : Str) = some (.type "LookupError") := by decide +kernel
theorem bt_ArithmeticError : bootBuiltins ("ArithmeticError" : Str) = some (.type "ArithmeticError") := by decide +kernel
theorem bt_KeyError : bootBuiltins ("KeyError" : Str) = some (.type "KeyError") := by decide +kernel
theorem bt_IndexError : bootBuiltins ("IndexError" : Str) = some (.type "IndexError") := by decide +kernel
theorem bt_ZeroDivisionError : bootBuiltins ("ZeroDivisionError" : Str) = some (.type "ZeroDivisionError") := by decide +kernel
theorem bt_int : bootBuiltins ("int" : Str) = some (.type "int") := by decide +kernel
theorem ini_InvalidText : ∃ ar p0 p1 p2 p3 p4 q0 q1 q2 q3, Ini1 xi_InvalidText ar p0 p1 p2 p3 p4 q0 q1 q2 q3 := ⟨_, _, _, _, _, _, _, _, _, _, ⟨rfl, rfl, rfl, rfl, rfl, rfl, rfl, by decide +kernel, rfl, rfl, by decide +kernel, by decide +kernel, by decide +kernel, fun _ _ _ _ => rfl, fun _ _ _ _ => rfl, fun _ _ _ _ => ⟨_, rfl⟩, fun _ _ _ _ _ _ _ _ _ _ _ => .of_eq rfl⟩⟩
theorem mx_InvalidText {b : Base} (T : Tx tl b) : MkX1 b "InvalidText" "given" := by
  obtain ⟨_, _, _, _, _, _, _, _, _, _, I⟩ := ini_InvalidText
  exact mkX1_of T (T.xi 0 (d := xi_InvalidText)) base_V (T.free 2) I
theorem ini_UnknownPlan : ∃ ar p0 p1 p2 p3 p4 q0 q1 q2 q3, Ini1 xi_UnknownPlan ar p0 p1 p2 p3 p4 q0 q1 q2 q3 := ⟨_, _, _, _, _, _, _, _, _, _, ⟨rfl, rfl, rfl, rfl, rfl, rfl, rfl, by decide +kernel, rfl, rfl, by decide +kernel, by decide +kernel, by decide +kernel, fun _ _ _ _ => rfl, fun _ _ _ _ => rfl, fun _ _ _ _ => ⟨_, rfl⟩, fun _ _ _ _ _ _ _ _ _ _ _ => .of_eq rfl⟩⟩
theorem mx_UnknownPlan {b : Base} (T : Tx tl b) : MkX1 b "UnknownPlan" "given" := by
  obtain ⟨_, _, _, _, _, _, _, _, _, _, I⟩ := ini_UnknownPlan
  exact mkX1_of T (T.xi 1 (d := xi_UnknownPlan)) base_L (T.free 2) I
theorem ini_Broken : ∃ ar p0 p1 p2 p3 p4 q0 q1 q2 q3 r0 r1 r2 r3, Ini2 xi_Broken "shown" ar p0 p1 p2 p3 p4 q0 q1 q2 q3 r0 r1 r2 r3 := ⟨_, _, _, _, _, _, _, _, _, _, _, _, _, _, ⟨rfl, rfl, rfl, rfl, rfl, rfl, rfl, rfl, by decide +kernel, rfl, rfl, by decide +kernel, by decide +kernel, by decide +kernel, by decide +kernel, by decide +kernel, by decide +kernel, fun _ _ _ _ => rfl, fun _ _ _ _ => rfl, fun _ _ _ _ => rfl, fun _ _ _ _ => ⟨_, rfl⟩, fun _ _ _ _ _ _ _ _ _ _ _ _ => .of_eq rfl⟩⟩
theorem mx_Broken {b : Base} (T : Tx tl b) : MkX2 b "Broken" "index" "shown" := by
  obtain ⟨_, _, _, _, _, _, _, _, _, _, _, _, _, _, I⟩ := ini_Broken
  exact mkX2_of T (T.xi 2 (d := xi_Broken)) (T.x 2) base_A (T.free 2) I
theorem inv_InvalidText_p : ∃ ar p0 p1 p2 p3 p4 q0 q1 q2 q3, Ini1 xi_InvalidText ar p0 p1 p2 p3 p4 q0 q1 q2 q3 ∧ ∀ u v, BdI xi_InvalidText ⟨u :: [v], []⟩ [(ar.arg, u), ("given", v)] := ⟨_, _, _, _, _, _, _, _, _, _, ⟨rfl, rfl, rfl, rfl, rfl, rfl, rfl, by decide +kernel, rfl, rfl, by decide +kernel, by decide +kernel, by decide +kernel, fun _ _ _ _ => rfl, fun _ _ _ _ => rfl, fun _ _ _ _ => ⟨_, rfl⟩, fun _ _ _ _ _ _ _ _ _ _ _ => .of_eq rfl⟩, fun _ _ _ _ _ _ _ _ _ _ _ => .of_eq rfl⟩
theorem mv_InvalidText_p {b : Base} (T : Tx tl b) : MkV b "InvalidText" ["given"] (fun ws => ⟨ws, []⟩) := by
  obtain ⟨_, _, _, _, _, _, _, _, _, _, I, hbd⟩ := inv_InvalidText_p
  exact mkV1_of (B := fun ws => ⟨ws, []⟩) T (T.xi 0 (d := xi_InvalidText)) base_V (T.free 2) I (fun _ => by rw [sizeLine_eq]; exact Nat.le_of_ble_eq_true rfl) (fun u v => hbd u v)
theorem inv_InvalidCount_p : ∃ ar p0 p1 p2 p3 p4 q0 q1 q2 q3, Ini1 xi_InvalidCount ar p0 p1 p2 p3 p4 q0 q1 q2 q3 ∧ ∀ u v, BdI xi_InvalidCount ⟨u :: [v], []⟩ [(ar.arg, u), ("given", v)] := ⟨_, _, _, _, _, _, _, _, _, _, ⟨rfl, rfl, rfl, rfl, rfl, rfl, rfl, by decide +kernel, rfl, rfl, by decide +kernel, by decide +kernel, by decide +kernel, fun _ _ _ _ => rfl, fun _ _ _ _ => rfl, fun _ _ _ _ => ⟨_, rfl⟩, fun _ _ _ _ _ _ _ _ _ _ _ => .of_eq rfl⟩, fun _ _ _ _ _ _ _ _ _ _ _ => .of_eq rfl⟩
theorem mv_InvalidCount_p {b : Base} (T : Tx tl b) : MkV b "InvalidCount" ["given"] (fun ws => ⟨ws, []⟩) := by
  obtain ⟨_, _, _, _, _, _, _, _, _, _, I, hbd⟩ := inv_InvalidCount_p
  exact mkV1_of (B := fun ws => ⟨ws, []⟩) T (T.xi 3 (d := xi_InvalidCount)) base_V (T.free 2) I (fun _ => by rw [sizeLine_eq]; exact Nat.le_of_ble_eq_true rfl) (fun u v => hbd u v)
theorem inv_InvalidPlace_p : ∃ ar p0 p1 p2 p3 p4 q0 q1 q2 q3, Ini1 xi_InvalidPlace ar p0 p1 p2 p3 p4 q0 q1 q2 q3 ∧ ∀ u v, BdI xi_InvalidPlace ⟨u :: [v], []⟩ [(ar.arg, u), ("given", v)] := ⟨_, _, _, _, _, _, _, _, _, _, ⟨rfl, rfl, rfl, rfl, rfl, rfl, rfl, by decide +kernel, rfl, rfl, by decide +kernel, by decide +kernel, by decide +kernel, fun _ _ _ _ => rfl, fun _ _ _ _ => rfl, fun _ _ _ _ => ⟨_, rfl⟩, fun _ _ _ _ _ _ _ _ _ _ _ => .of_eq rfl⟩, fun _ _ _ _ _ _ _ _ _ _ _ => .of_eq rfl⟩
theorem mv_InvalidPlace_p {b : Base} (T : Tx tl b) : MkV b "InvalidPlace" ["given"] (fun ws => ⟨ws, []⟩) := by
  obtain ⟨_, _, _, _, _, _, _, _, _, _, I, hbd⟩ := inv_InvalidPlace_p
  exact mkV1_of (B := fun ws => ⟨ws, []⟩) T (T.xi 4 (d := xi_InvalidPlace)) base_V (T.free 2) I (fun _ => by rw [sizeLine_eq]; exact Nat.le_of_ble_eq_true rfl) (fun u v => hbd u v)
theorem inv_InvalidClaim_p : ∃ ar p0 p1 p2 p3 p4 q0 q1 q2 q3, Ini1 xi_InvalidClaim ar p0 p1 p2 p3 p4 q0 q1 q2 q3 ∧ ∀ u v, BdI xi_InvalidClaim ⟨u :: [v], []⟩ [(ar.arg, u), ("given", v)] := ⟨_, _, _, _, _, _, _, _, _, _, ⟨rfl, rfl, rfl, rfl, rfl, rfl, rfl, by decide +kernel, rfl, rfl, by decide +kernel, by decide +kernel, by decide +kernel, fun _ _ _ _ => rfl, fun _ _ _ _ => rfl, fun _ _ _ _ => ⟨_, rfl⟩, fun _ _ _ _ _ _ _ _ _ _ _ => .of_eq rfl⟩, fun _ _ _ _ _ _ _ _ _ _ _ => .of_eq rfl⟩
theorem mv_InvalidClaim_p {b : Base} (T : Tx tl b) : MkV b "InvalidClaim" ["given"] (fun ws => ⟨ws, []⟩) := by
  obtain ⟨_, _, _, _, _, _, _, _, _, _, I, hbd⟩ := inv_InvalidClaim_p
  exact mkV1_of (B := fun ws => ⟨ws, []⟩) T (T.xi 5 (d := xi_InvalidClaim)) base_V (T.free 2) I (fun _ => by rw [sizeLine_eq]; exact Nat.le_of_ble_eq_true rfl) (fun u v => hbd u v)
theorem inv_NotABook_p : ∃ ar p0 p1 p2 p3 p4 q0 q1 q2 q3, Ini1 xi_NotABook ar p0 p1 p2 p3 p4 q0 q1 q2 q3 ∧ ∀ u v, BdI xi_NotABook ⟨u :: [v], []⟩ [(ar.arg, u), ("given", v)] := ⟨_, _, _, _, _, _, _, _, _, _, ⟨rfl, rfl, rfl, rfl, rfl, rfl, rfl, by decide +kernel, rfl, rfl, by decide +kernel, by decide +kernel, by decide +kernel, fun _ _ _ _ => rfl, fun _ _ _ _ => rfl, fun _ _ _ _ => ⟨_, rfl⟩, fun _ _ _ _ _ _ _ _ _ _ _ => .of_eq rfl⟩, fun _ _ _ _ _ _ _ _ _ _ _ => .of_eq rfl⟩
theorem mv_NotABook_p {b : Base} (T : Tx tl b) : MkV b "NotABook" ["given"] (fun ws => ⟨ws, []⟩) := by
  obtain ⟨_, _, _, _, _, _, _, _, _, _, I, hbd⟩ := inv_NotABook_p
  exact mkV1_of (B := fun ws => ⟨ws, []⟩) T (T.xi 6 (d := xi_NotABook)) base_V (T.free 2) I (fun _ => by rw [sizeLine_eq]; exact Nat.le_of_ble_eq_true rfl) (fun u v => hbd u v)
theorem inv_InvalidPlans_p : ∃ ar p0 p1 p2 p3 p4 q0 q1 q2 q3, Ini1 xi_InvalidPlans ar p0 p1 p2 p3 p4 q0 q1 q2 q3 ∧ ∀ u v, BdI xi_InvalidPlans ⟨u :: [v], []⟩ [(ar.arg, u), ("index", v)] := ⟨_, _, _, _, _, _, _, _, _, _, ⟨rfl, rfl, rfl, rfl, rfl, rfl, rfl, by decide +kernel, rfl, rfl, by decide +kernel, by decide +kernel, by decide +kernel, fun _ _ _ _ => rfl, fun _ _ _ _ => rfl, fun _ _ _ _ => ⟨_, rfl⟩, fun _ _ _ _ _ _ _ _ _ _ _ => .of_eq rfl⟩, fun _ _ _ _ _ _ _ _ _ _ _ => .of_eq rfl⟩
theorem mv_InvalidPlans_p {b : Base} (T : Tx tl b) : MkV b "InvalidPlans" ["index"] (fun ws => ⟨ws, []⟩) := by
  obtain ⟨_, _, _, _, _, _, _, _, _, _, I, hbd⟩ := inv_InvalidPlans_p
  exact mkV1_of (B := fun ws => ⟨ws, []⟩) T (T.xi 7 (d := xi_InvalidPlans)) base_V (T.free 2) I (fun _ => by rw [sizeLine_eq]; exact Nat.le_of_ble_eq_true rfl) (fun u v => hbd u v)
theorem inv_InvalidPieces_p : ∃ ar p0 p1 p2 p3 p4 q0 q1 q2 q3, Ini1 xi_InvalidPieces ar p0 p1 p2 p3 p4 q0 q1 q2 q3 ∧ ∀ u v, BdI xi_InvalidPieces ⟨u :: [v], []⟩ [(ar.arg, u), ("index", v)] := ⟨_, _, _, _, _, _, _, _, _, _, ⟨rfl, rfl, rfl, rfl, rfl, rfl, rfl, by decide +kernel, rfl, rfl, by decide +kernel, by decide +kernel, by decide +kernel, fun _ _ _ _ => rfl, fun _ _ _ _ => rfl, fun _ _ _ _ => ⟨_, rfl⟩, fun _ _ _ _ _ _ _ _ _ _ _ => .of_eq rfl⟩, fun _ _ _ _ _ _ _ _ _ _ _ => .of_eq rfl⟩
theorem mv_InvalidPieces_p {b : Base} (T : Tx tl b) : MkV b "InvalidPieces" ["index"] (fun ws => ⟨ws, []⟩) := by
  obtain ⟨_, _, _, _, _, _, _, _, _, _, I, hbd⟩ := inv_InvalidPieces_p
  exact mkV1_of (B := fun ws => ⟨ws, []⟩) T (T.xi 8 (d := xi_InvalidPieces)) base_V (T.free 2) I (fun _ => by rw [sizeLine_eq]; exact Nat.le_of_ble_eq_true rfl) (fun u v => hbd u v)
theorem inv_UnknownPlan_p : ∃ ar p0 p1 p2 p3 p4 q0 q1 q2 q3, Ini1 xi_UnknownPlan ar p0 p1 p2 p3 p4 q0 q1 q2 q3 ∧ ∀ u v, BdI xi_UnknownPlan ⟨u :: [v], []⟩ [(ar.arg, u), ("given", v)] := ⟨_, _, _, _, _, _, _, _, _, _, ⟨rfl, rfl, rfl, rfl, rfl, rfl, rfl, by decide +kernel, rfl, rfl, by decide +kernel, by decide +kernel, by decide +kernel, fun _ _ _ _ => rfl, fun _ _ _ _ => rfl, fun _ _ _ _ => ⟨_, rfl⟩, fun _ _ _ _ _ _ _ _ _ _ _ => .of_eq rfl⟩, fun _ _ _ _ _ _ _ _ _ _ _ => .of_eq rfl⟩
theorem mv_UnknownPlan_p {b : Base} (T : Tx tl b) : MkV b "UnknownPlan" ["given"] (fun ws => ⟨ws, []⟩) := by
  obtain ⟨_, _, _, _, _, _, _, _, _, _, I, hbd⟩ := inv_UnknownPlan_p
  exact mkV1_of (B := fun ws => ⟨ws, []⟩) T (T.xi 1 (d := xi_UnknownPlan)) base_L (T.free 2) I (fun _ => by rw [sizeLine_eq]; exact Nat.le_of_ble_eq_true rfl) (fun u v => hbd u v)
theorem inv_TooLong_p : ∃ ar p0 p1 p2 p3 p4 q0 q1 q2 q3, Ini1 xi_TooLong ar p0 p1 p2 p3 p4 q0 q1 q2 q3 ∧ ∀ u v, BdI xi_TooLong ⟨u :: [v], []⟩ [(ar.arg, u), ("most", v)] := ⟨_, _, _, _, _, _, _, _, _, _, ⟨rfl, rfl, rfl, rfl, rfl, rfl, rfl, by decide +kernel, rfl, rfl, by decide +kernel, by decide +kernel, by decide +kernel, fun _ _ _ _ => rfl, fun _ _ _ _ => rfl, fun _ _ _ _ => ⟨_, rfl⟩, fun _ _ _ _ _ _ _ _ _ _ _ => .of_eq rfl⟩, fun _ _ _ _ _ _ _ _ _ _ _ => .of_eq rfl⟩
theorem mv_TooLong_p {b : Base} (T : Tx tl b) : MkV b "TooLong" ["most"] (fun ws => ⟨ws, []⟩) := by
  obtain ⟨_, _, _, _, _, _, _, _, _, _, I, hbd⟩ := inv_TooLong_p
  exact mkV1_of (B := fun ws => ⟨ws, []⟩) T (T.xi 9 (d := xi_TooLong)) base_A (T.free 2) I (fun _ => by rw [sizeLine_eq]; exact Nat.le_of_ble_eq_true rfl) (fun u v => hbd u v)
theorem inv_Broken_p : ∃ ar p0 p1 p2 p3 p4 q0 q1 q2 q3 r0 r1 r2 r3, Ini2 xi_Broken "shown" ar p0 p1 p2 p3 p4 q0 q1 q2 q3 r0 r1 r2 r3 ∧ ∀ u v v2, BdI xi_Broken ⟨u :: [v, v2], []⟩ [(ar.arg, u), ("index", v), ("shown", v2)] := ⟨_, _, _, _, _, _, _, _, _, _, _, _, _, _, ⟨rfl, rfl, rfl, rfl, rfl, rfl, rfl, rfl, by decide +kernel, rfl, rfl, by decide +kernel, by decide +kernel, by decide +kernel, by decide +kernel, by decide +kernel, by decide +kernel, fun _ _ _ _ => rfl, fun _ _ _ _ => rfl, fun _ _ _ _ => rfl, fun _ _ _ _ => ⟨_, rfl⟩, fun _ _ _ _ _ _ _ _ _ _ _ _ => .of_eq rfl⟩, fun _ _ _ _ _ _ _ _ _ _ _ _ => .of_eq rfl⟩
theorem mv_Broken_p {b : Base} (T : Tx tl b) : MkV b "Broken" ["index", "shown"] (fun ws => ⟨ws, []⟩) := by
  obtain ⟨_, _, _, _, _, _, _, _, _, _, _, _, _, _, I, hbd⟩ := inv_Broken_p
  exact mkV2_of (B := fun ws => ⟨ws, []⟩) T (T.xi 2 (d := xi_Broken)) (T.x 2) base_A (T.free 2) I (fun _ _ => by rw [sizeLine_eq]; exact Nat.le_of_ble_eq_true rfl) (fun u v v2 => hbd u v v2)
theorem inv_InvalidText_k : ∃ ar p0 p1 p2 p3 p4 q0 q1 q2 q3, Ini1 xi_InvalidText ar p0 p1 p2 p3 p4 q0 q1 q2 q3 ∧ ∀ u v, BdI xi_InvalidText ⟨[u], [("given", v)]⟩ [(ar.arg, u), ("given", v)] := ⟨_, _, _, _, _, _, _, _, _, _, ⟨rfl, rfl, rfl, rfl, rfl, rfl, rfl, by decide +kernel, rfl, rfl, by decide +kernel, by decide +kernel, by decide +kernel, fun _ _ _ _ => rfl, fun _ _ _ _ => rfl, fun _ _ _ _ => ⟨_, rfl⟩, fun _ _ _ _ _ _ _ _ _ _ _ => .of_eq rfl⟩, fun _ _ _ _ _ _ _ _ _ _ _ => .of_eq rfl⟩
theorem mv_InvalidText_k {b : Base} (T : Tx tl b) : MkV b "InvalidText" ["given"] (fun ws => ⟨[], (["given"] : List Str).zip ws⟩) := by
  obtain ⟨_, _, _, _, _, _, _, _, _, _, I, hbd⟩ := inv_InvalidText_k
  exact mkV1_of (B := fun ws => ⟨[], (["given"] : List Str).zip ws⟩) T (T.xi 0 (d := xi_InvalidText)) base_V (T.free 2) I (fun _ => by rw [sizeLine_eq]; exact Nat.le_of_ble_eq_true rfl) (fun u v => hbd u v)
theorem inv_InvalidCount_k : ∃ ar p0 p1 p2 p3 p4 q0 q1 q2 q3, Ini1 xi_InvalidCount ar p0 p1 p2 p3 p4 q0 q1 q2 q3 ∧ ∀ u v, BdI xi_InvalidCount ⟨[u], [("given", v)]⟩ [(ar.arg, u), ("given", v)] := ⟨_, _, _, _, _, _, _, _, _, _, ⟨rfl, rfl, rfl, rfl, rfl, rfl, rfl, by decide +kernel, rfl, rfl, by decide +kernel, by decide +kernel, by decide +kernel, fun _ _ _ _ => rfl, fun _ _ _ _ => rfl, fun _ _ _ _ => ⟨_, rfl⟩, fun _ _ _ _ _ _ _ _ _ _ _ => .of_eq rfl⟩, fun _ _ _ _ _ _ _ _ _ _ _ => .of_eq rfl⟩
theorem mv_InvalidCount_k {b : Base} (T : Tx tl b) : MkV b "InvalidCount" ["given"] (fun ws => ⟨[], (["given"] : List Str).zip ws⟩) := by
  obtain ⟨_, _, _, _, _, _, _, _, _, _, I, hbd⟩ := inv_InvalidCount_k
  exact mkV1_of (B := fun ws => ⟨[], (["given"] : List Str).zip ws⟩) T (T.xi 3 (d := xi_InvalidCount)) base_V (T.free 2) I (fun _ => by rw [sizeLine_eq]; exact Nat.le_of_ble_eq_true rfl) (fun u v => hbd u v)
theorem inv_InvalidPlace_k : ∃ ar p0 p1 p2 p3 p4 q0 q1 q2 q3, Ini1 xi_InvalidPlace ar p0 p1 p2 p3 p4 q0 q1 q2 q3 ∧ ∀ u v, BdI xi_InvalidPlace ⟨[u], [("given", v)]⟩ [(ar.arg, u), ("given", v)] := ⟨_, _, _, _, _, _, _, _, _, _, ⟨rfl, rfl, rfl, rfl, rfl, rfl, rfl, by decide +kernel, rfl, rfl, by decide +kernel, by decide +kernel, by decide +kernel, fun _ _ _ _ => rfl, fun _ _ _ _ => rfl, fun _ _ _ _ => ⟨_, rfl⟩, fun _ _ _ _ _ _ _ _ _ _ _ => .of_eq rfl⟩, fun _ _ _ _ _ _ _ _ _ _ _ => .of_eq rfl⟩
theorem mv_InvalidPlace_k {b : Base} (T : Tx tl b) : MkV b "InvalidPlace" ["given"] (fun ws => ⟨[], (["given"] : List Str).zip ws⟩) := by
  obtain ⟨_, _, _, _, _, _, _, _, _, _, I, hbd⟩ := inv_InvalidPlace_k
  exact mkV1_of (B := fun ws => ⟨[], (["given"] : List Str).zip ws⟩) T (T.xi 4 (d := xi_InvalidPlace)) base_V (T.free 2) I (fun _ => by rw [sizeLine_eq]; exact Nat.le_of_ble_eq_true rfl) (fun u v => hbd u v)
theorem inv_InvalidClaim_k : ∃ ar p0 p1 p2 p3 p4 q0 q1 q2 q3, Ini1 xi_InvalidClaim ar p0 p1 p2 p3 p4 q0 q1 q2 q3 ∧ ∀ u v, BdI xi_InvalidClaim ⟨[u], [("given", v)]⟩ [(ar.arg, u), ("given", v)] := ⟨_, _, _, _, _, _, _, _, _, _, ⟨rfl, rfl, rfl, rfl, rfl, rfl, rfl, by decide +kernel, rfl, rfl, by decide +kernel, by decide +kernel, by decide +kernel, fun _ _ _ _ => rfl, fun _ _ _ _ => rfl, fun _ _ _ _ => ⟨_, rfl⟩, fun _ _ _ _ _ _ _ _ _ _ _ => .of_eq rfl⟩, fun _ _ _ _ _ _ _ _ _ _ _ => .of_eq rfl⟩
theorem mv_InvalidClaim_k {b : Base} (T : Tx tl b) : MkV b "InvalidClaim" ["given"] (fun ws => ⟨[], (["given"] : List Str).zip ws⟩) := by
  obtain ⟨_, _, _, _, _, _, _, _, _, _, I, hbd⟩ := inv_InvalidClaim_k
  exact mkV1_of (B := fun ws => ⟨[], (["given"] : List Str).zip ws⟩) T (T.xi 5 (d := xi_InvalidClaim)) base_V (T.free 2) I (fun _ => by rw [sizeLine_eq]; exact Nat.le_of_ble_eq_true rfl) (fun u v => hbd u v)
theorem inv_NotABook_k : ∃ ar p0 p1 p2 p3 p4 q0 q1 q2 q3, Ini1 xi_NotABook ar p0 p1 p2 p3 p4 q0 q1 q2 q3 ∧ ∀ u v, BdI xi_NotABook ⟨[u], [("given", v)]⟩ [(ar.arg, u), ("given", v)] := ⟨_, _, _, _, _, _, _, _, _, _, ⟨rfl, rfl, rfl, rfl, rfl, rfl, rfl, by decide +kernel, rfl, rfl, by decide +kernel, by decide +kernel, by decide +kernel, fun _ _ _ _ => rfl, fun _ _ _ _ => rfl, fun _ _ _ _ => ⟨_, rfl⟩, fun _ _ _ _ _ _ _ _ _ _ _ => .of_eq rfl⟩, fun _ _ _ _ _ _ _ _ _ _ _ => .of_eq rfl⟩
theorem mv_NotABook_k {b : Base} (T : Tx tl b) : MkV b "NotABook" ["given"] (fun ws => ⟨[], (["given"] : List Str).zip ws⟩) := by
  obtain ⟨_, _, _, _, _, _, _, _, _, _, I, hbd⟩ := inv_NotABook_k
  exact mkV1_of (B := fun ws => ⟨[], (["given"] : List Str).zip ws⟩) T (T.xi 6 (d := xi_NotABook)) base_V (T.free 2) I (fun _ => by rw [sizeLine_eq]; exact Nat.le_of_ble_eq_true rfl) (fun u v => hbd u v)
theorem inv_InvalidPlans_k : ∃ ar p0 p1 p2 p3 p4 q0 q1 q2 q3, Ini1 xi_InvalidPlans ar p0 p1 p2 p3 p4 q0 q1 q2 q3 ∧ ∀ u v, BdI xi_InvalidPlans ⟨[u], [("index", v)]⟩ [(ar.arg, u), ("index", v)] := ⟨_, _, _, _, _, _, _, _, _, _, ⟨rfl, rfl, rfl, rfl, rfl, rfl, rfl, by decide +kernel, rfl, rfl, by decide +kernel, by decide +kernel, by decide +kernel, fun _ _ _ _ => rfl, fun _ _ _ _ => rfl, fun _ _ _ _ => ⟨_, rfl⟩, fun _ _ _ _ _ _ _ _ _ _ _ => .of_eq rfl⟩, fun _ _ _ _ _ _ _ _ _ _ _ => .of_eq rfl⟩
theorem mv_InvalidPlans_k {b : Base} (T : Tx tl b) : MkV b "InvalidPlans" ["index"] (fun ws => ⟨[], (["index"] : List Str).zip ws⟩) := by
  obtain ⟨_, _, _, _, _, _, _, _, _, _, I, hbd⟩ := inv_InvalidPlans_k
  exact mkV1_of (B := fun ws => ⟨[], (["index"] : List Str).zip ws⟩) T (T.xi 7 (d := xi_InvalidPlans)) base_V (T.free 2) I (fun _ => by rw [sizeLine_eq]; exact Nat.le_of_ble_eq_true rfl) (fun u v => hbd u v)
theorem inv_InvalidPieces_k : ∃ ar p0 p1 p2 p3 p4 q0 q1 q2 q3, Ini1 xi_InvalidPieces ar p0 p1 p2 p3 p4 q0 q1 q2 q3 ∧ ∀ u v, BdI xi_InvalidPieces ⟨[u], [("index", v)]⟩ [(ar.arg, u), ("index", v)] := ⟨_, _, _, _, _, _, _, _, _, _, ⟨rfl, rfl, rfl, rfl, rfl, rfl, rfl, by decide +kernel, rfl, rfl, by decide +kernel, by decide +kernel, by decide +kernel, fun _ _ _ _ => rfl, fun _ _ _ _ => rfl, fun _ _ _ _ => ⟨_, rfl⟩, fun _ _ _ _ _ _ _ _ _ _ _ => .of_eq rfl⟩, fun _ _ _ _ _ _ _ _ _ _ _ => .of_eq rfl⟩
theorem mv_InvalidPieces_k {b : Base} (T : Tx tl b) : MkV b "InvalidPieces" ["index"] (fun ws => ⟨[], (["index"] : List Str).zip ws⟩) := by
  obtain ⟨_, _, _, _, _, _, _, _, _, _, I, hbd⟩ := inv_InvalidPieces_k
  exact mkV1_of (B := fun ws => ⟨[], (["index"] : List Str).zip ws⟩) T (T.xi 8 (d := xi_InvalidPieces)) base_V (T.free 2) I (fun _ => by rw [sizeLine_eq]; exact Nat.le_of_ble_eq_true rfl) (fun u v => hbd u v)
theorem inv_UnknownPlan_k : ∃ ar p0 p1 p2 p3 p4 q0 q1 q2 q3, Ini1 xi_UnknownPlan ar p0 p1 p2 p3 p4 q0 q1 q2 q3 ∧ ∀ u v, BdI xi_UnknownPlan ⟨[u], [("given", v)]⟩ [(ar.arg, u), ("given", v)] := ⟨_, _, _, _, _, _, _, _, _, _, ⟨rfl, rfl, rfl, rfl, rfl, rfl, rfl, by decide +kernel, rfl, rfl, by decide +kernel, by decide +kernel, by decide +kernel, fun _ _ _ _ => rfl, fun _ _ _ _ => rfl, fun _ _ _ _ => ⟨_, rfl⟩, fun _ _ _ _ _ _ _ _ _ _ _ => .of_eq rfl⟩, fun _ _ _ _ _ _ _ _ _ _ _ => .of_eq rfl⟩
theorem mv_UnknownPlan_k {b : Base} (T : Tx tl b) : MkV b "UnknownPlan" ["given"] (fun ws => ⟨[], (["given"] : List Str).zip ws⟩) := by
  obtain ⟨_, _, _, _, _, _, _, _, _, _, I, hbd⟩ := inv_UnknownPlan_k
  exact mkV1_of (B := fun ws => ⟨[], (["given"] : List Str).zip ws⟩) T (T.xi 1 (d := xi_UnknownPlan)) base_L (T.free 2) I (fun _ => by rw [sizeLine_eq]; exact Nat.le_of_ble_eq_true rfl) (fun u v => hbd u v)
theorem inv_TooLong_k : ∃ ar p0 p1 p2 p3 p4 q0 q1 q2 q3, Ini1 xi_TooLong ar p0 p1 p2 p3 p4 q0 q1 q2 q3 ∧ ∀ u v, BdI xi_TooLong ⟨[u], [("most", v)]⟩ [(ar.arg, u), ("most", v)] := ⟨_, _, _, _, _, _, _, _, _, _, ⟨rfl, rfl, rfl, rfl, rfl, rfl, rfl, by decide +kernel, rfl, rfl, by decide +kernel, by decide +kernel, by decide +kernel, fun _ _ _ _ => rfl, fun _ _ _ _ => rfl, fun _ _ _ _ => ⟨_, rfl⟩, fun _ _ _ _ _ _ _ _ _ _ _ => .of_eq rfl⟩, fun _ _ _ _ _ _ _ _ _ _ _ => .of_eq rfl⟩
theorem mv_TooLong_k {b : Base} (T : Tx tl b) : MkV b "TooLong" ["most"] (fun ws => ⟨[], (["most"] : List Str).zip ws⟩) := by
  obtain ⟨_, _, _, _, _, _, _, _, _, _, I, hbd⟩ := inv_TooLong_k
  exact mkV1_of (B := fun ws => ⟨[], (["most"] : List Str).zip ws⟩) T (T.xi 9 (d := xi_TooLong)) base_A (T.free 2) I (fun _ => by rw [sizeLine_eq]; exact Nat.le_of_ble_eq_true rfl) (fun u v => hbd u v)
theorem inv_Broken_k : ∃ ar p0 p1 p2 p3 p4 q0 q1 q2 q3 r0 r1 r2 r3, Ini2 xi_Broken "shown" ar p0 p1 p2 p3 p4 q0 q1 q2 q3 r0 r1 r2 r3 ∧ ∀ u v v2, BdI xi_Broken ⟨[u], [("shown", v2), ("index", v)]⟩ [(ar.arg, u), ("index", v), ("shown", v2)] := ⟨_, _, _, _, _, _, _, _, _, _, _, _, _, _, ⟨rfl, rfl, rfl, rfl, rfl, rfl, rfl, rfl, by decide +kernel, rfl, rfl, by decide +kernel, by decide +kernel, by decide +kernel, by decide +kernel, by decide +kernel, by decide +kernel, fun _ _ _ _ => rfl, fun _ _ _ _ => rfl, fun _ _ _ _ => rfl, fun _ _ _ _ => ⟨_, rfl⟩, fun _ _ _ _ _ _ _ _ _ _ _ _ => .of_eq rfl⟩, fun _ _ _ _ _ _ _ _ _ _ _ _ => .of_eq rfl⟩
theorem mv_Broken_k {b : Base} (T : Tx tl b) : MkV b "Broken" ["shown", "index"] (fun ws => ⟨[], (["shown", "index"] : List Str).zip ws⟩) := by
  obtain ⟨_, _, _, _, _, _, _, _, _, _, _, _, _, _, I, hbd⟩ := inv_Broken_k
  exact mkV2s_of (B := fun ws => ⟨[], (["shown", "index"] : List Str).zip ws⟩) T (T.xi 2 (d := xi_Broken)) (T.x 2) base_A (T.free 2) I (fun _ _ => by rw [sizeLine_eq]; exact Nat.le_of_ble_eq_true rfl) (fun u v v2 => hbd u v v2)
theorem mz_IsOver {b : Base} (T : Tx tl b) : MkX0 b "IsOver" := mkX0_of base_A (T.x 3)
theorem mz_NothingToUndo {b : Base} (T : Tx tl b) : MkX0 b "NothingToUndo" := mkX0_of base_A (T.x 4)
theorem sc__law_raised_right : FnScope N__law_raised_right P__law_raised_right (defScope s__law_raised_right) := ⟨rfl, rfl, rfl, by decide +kernel, rfl, by decide +kernel, by decide +kernel⟩
theorem k__law_raised_right {b : Base} (T : Tx tl b) : ∃ fd, FunD b.K "_law_raised_right" "_law_raised_right" (defArgs s__law_raised_right) (defBody s__law_raised_right) (defScope s__law_raised_right) [] [] (He.ga b.K "_law_raised_right") fd ∧ Binds b.K fd P__law_raised_right [] := by
  obtain ⟨fd, F⟩ := T.s.c.def_ 0 (d := d__law_raised_right) rfl
  exact ⟨fd, F, F.bindsN fun _ _ _ _ _ _ us hl => match us, hl with | [_], _ => rfl⟩
set_option maxHeartbeats 4000000 in
theorem e__law_raised_right {b : Base} (T : Tx tl b) (E : XK) : DSs (b.at N__law_raised_right (defScope s__law_raised_right) 1 true) (wOf E) (defBody s__law_raised_right) B__law_raised_right := by
  have sc := sc__law_raised_right
  exact (dss_cons (ds_asg [1] (de_new da_nil) (dg_name 1 sc.nd))
  (dss_cons (ds_try (.named (ct_name (xtB_ok (T.x 0)) (T.glo 0)) sc.nd rfl rfl (fun k ob => (dss_one (ds_expr (de_bm PySem.F.plainAttrs_list PySem.F.slot_list_append PySem.F.type_list_append m_append (de_var 1) (da_cons (de_callB (b_repr rfl (T.x 1)) (T.free 1) bt_repr (da_cons (de_xf (xtB_ok (T.x 0)) rfl (de_var 2)) da_nil)) da_nil))))) iv__law_raised_right .nil) (fun W' => (dss_one (ds_raise1 (mx_InvalidText T) (T.free 2) (T.glo 3) (de_var 0)))))
  (dss_cons (ds_try (.named (ct_name (xtB_ok (T.x 0)) (T.glo 4)) sc.nd rfl rfl (fun k ob => (dss_one (ds_expr (de_bm PySem.F.plainAttrs_list PySem.F.slot_list_append PySem.F.type_list_append m_append (de_var 1) (da_cons (de_callB (b_repr rfl (T.x 1)) (T.free 1) bt_repr (da_cons (de_xf (xtB_ok (T.x 0)) rfl (de_var 2)) da_nil)) da_nil))))) iv__law_raised_right .nil) (fun W' => (dss_one (ds_raise1 (mx_UnknownPlan T) (T.free 2) (T.glo 5) (de_var 0)))))
  (dss_cons (ds_try (.named (ct_name (xtB_ok (T.x 0)) (T.glo 6)) sc.nd rfl rfl (fun k ob => (dss_one (ds_expr (de_bm PySem.F.plainAttrs_list PySem.F.slot_list_append PySem.F.type_list_append m_append (de_var 1) (da_cons (de_callB (b_repr rfl (T.x 1)) (T.free 1) bt_repr (da_cons (de_xf (xtB_ok (T.x 0)) rfl (de_var 2)) da_nil)) da_nil))))) iv__law_raised_rightx .nil) (fun W' => (dss_one (ds_raise2 (mx_Broken T) (T.free 2) (T.glo 7) (da_cons (de_var 0) (da_cons de_int da_nil))))))
  (dss_one (ds_ret (de_cmp op_eqD' (de_var 1) (de_op op_mulD (de_lst (da_cons (de_callB (b_repr rfl (T.x 1)) (T.free 1) bt_repr (da_cons (de_var 0) da_nil)) da_nil)) de_int))))))))
theorem ok__law_raised_right {b : Base} (T : Tx tl b) : ∃ fd, FnG b 2 (He.ga b.K "_law_raised_right") fd P__law_raised_right F__law_raised_right ∧ PySem.W.keepIn b.K (.ref (He.ga b.K "_law_raised_right")) = true ∧ Binds b.K fd P__law_raised_right [] ∧ True := by
  obtain ⟨fd, F, B⟩ := k__law_raised_right T
  exact ⟨fd, fnG_ok false F sc__law_raised_right (fun E => e__law_raised_right T E), F.kp, B, trivial⟩
theorem sc__law_kept_right : FnScope N__law_kept_right P__law_kept_right (defScope s__law_kept_right) := ⟨rfl, rfl, rfl, by decide +kernel, rfl, by decide +kernel, by decide +kernel⟩
theorem k__law_kept_right {b : Base} (T : Tx tl b) : ∃ fd, FunD b.K "_law_kept_right" "_law_kept_right" (defArgs s__law_kept_right) (defBody s__law_kept_right) (defScope s__law_kept_right) [] [] (He.ga b.K "_law_kept_right") fd ∧ Binds b.K fd P__law_kept_right [] := by
  obtain ⟨fd, F⟩ := T.s.c.def_ 1 (d := d__law_kept_right) rfl
  exact ⟨fd, F, F.bindsN fun _ _ _ _ _ _ us hl => match us, hl with | [_, _], _ => rfl⟩
set_option maxHeartbeats 4000000 in
theorem e__law_kept_right {b : Base} (T : Tx tl b) (E : XK) : DSs (b.at N__law_kept_right (defScope s__law_kept_right) 0 true) (wOf E) (defBody s__law_kept_right) B__law_kept_right := by
  have sc := sc__law_kept_right
  exact (dss_cons (ds_asg [2] (de_op op_addN (de_lc [("_law_k", 4)] sc.nd (show blkC N__law_kept_right (defScope s__law_kept_right) _ _ = true by decide +kernel) (di_seq (de_lst (da_cons de_int (da_cons de_int (da_cons de_int (da_cons de_int (da_cons de_int (da_cons de_int da_nil)))))))) (dg_name 4 sc.nd) dts_nil (de_xv (xtB_ok (T.x 0)) (de_ix (de_var 0) (de_var 4)))) (de_lc [("_law_k", 4)] sc.nd (show blkC N__law_kept_right (defScope s__law_kept_right) _ _ = true by decide +kernel) (di_seq (de_lst (da_cons de_int (da_cons de_int da_nil)))) (dg_name 4 sc.nd) dts_nil (de_xv (xtB_ok (T.x 0)) (de_ix (de_var 0) (de_var 4))))) (dg_name 2 sc.nd))
  (dss_cons (ds_expr (de_bm PySem.F.plainAttrs_list PySem.F.slot_list_append PySem.F.type_list_append m_append (de_var 2) (da_cons (de_xv (xtB_ok (T.x 0)) (de_ix (de_var 0) de_int)) da_nil)))
  (dss_cons (ds_asg [3] (de_ix (de_var 0) de_int) (dg_name 3 sc.nd))
  (dss_one (ds_ret (de_and (de_cmp op_eqD' (de_callB (b_repr rfl (T.x 1)) (T.free 1) bt_repr (da_cons (de_var 2) da_nil)) (de_callB (b_repr rfl (T.x 1)) (T.free 1) bt_repr (da_cons (de_op op_mulD (de_lst (da_cons (de_var 1) da_nil)) (de_callB b_len (T.free 8) bt_len (da_cons (de_var 2) da_nil))) da_nil))) (de_one (de_cmp op_eqD' (de_callB (b_repr rfl (T.x 1)) (T.free 1) bt_repr (da_cons (de_lst (da_cons (de_xv (xtB_ok (T.x 0)) (de_var 3)) (da_cons (de_xv (xtB_ok (T.x 0)) (de_var 3)) da_nil))) da_nil)) (de_callB (b_repr rfl (T.x 1)) (T.free 1) bt_repr (da_cons (de_lst (da_cons (de_var 1) (da_cons de_int da_nil))) da_nil))))))))))
theorem ok__law_kept_right {b : Base} (T : Tx tl b) : ∃ fd, FnG b 1 (He.ga b.K "_law_kept_right") fd P__law_kept_right F__law_kept_right ∧ PySem.W.keepIn b.K (.ref (He.ga b.K "_law_kept_right")) = true ∧ Binds b.K fd P__law_kept_right [] ∧ True := by
  obtain ⟨fd, F, B⟩ := k__law_kept_right T
  exact ⟨fd, fnG_ok false F sc__law_kept_right (fun E => e__law_kept_right T E), F.kp, B, trivial⟩
theorem sc__law_due : FnScope N__law_due P__law_due (defScope s__law_due) := ⟨rfl, rfl, rfl, by decide +kernel, rfl, by decide +kernel, by decide +kernel⟩
theorem k__law_due {b : Base} (T : Tx tl b) : ∃ fd, FunD b.K "_law_due" "_law_due" (defArgs s__law_due) (defBody s__law_due) (defScope s__law_due) [] [] (He.ga b.K "_law_due") fd ∧ Binds b.K fd P__law_due [] := by
  obtain ⟨fd, F⟩ := T.s.c.def_ 2 (d := d__law_due) rfl
  exact ⟨fd, F, F.bindsN fun _ _ _ _ _ _ us hl => match us, hl with | [_], _ => rfl⟩
set_option maxHeartbeats 4000000 in
theorem e__law_due {b : Base} (T : Tx tl b) (E : XK) : DSs (b.at N__law_due (defScope s__law_due) 0 true) (wOf E) (defBody s__law_due) B__law_due := by
  have sc := sc__law_due
  exact (dss_cons (ds_par 1 2 sc.nd (da_cons (de_cmp op_ltD (de_var 0) de_int) (da_cons (de_chain op_ltD op_ltD de_int (de_var 0) de_int) da_nil)))
  (dss_cons (ds_asg [3] (de_and (de_not (de_var 1)) (de_one (de_not (de_var 2)))) (dg_name 3 sc.nd))
  (dss_one (ds_ret (de_op op_addD (de_op op_mulD (de_lst (da_cons (de_var 1) (da_cons (de_var 2) (da_cons (de_var 3) da_nil)))) de_int) (de_op op_mulD (de_lst (da_cons de_bl da_nil)) de_int))))))
theorem ok__law_due {b : Base} (T : Tx tl b) : ∃ fd, FnG b 1 (He.ga b.K "_law_due") fd P__law_due F__law_due ∧ PySem.W.keepIn b.K (.ref (He.ga b.K "_law_due")) = true ∧ Binds b.K fd P__law_due [] ∧ True := by
  obtain ⟨fd, F, B⟩ := k__law_due T
  exact ⟨fd, fnG_ok false F sc__law_due (fun E => e__law_due T E), F.kp, B, trivial⟩
theorem sc__law_bases : FnScope N__law_bases P__law_bases (defScope s__law_bases) := ⟨rfl, rfl, rfl, by decide +kernel, rfl, by decide +kernel, by decide +kernel⟩
theorem k__law_bases {b : Base} (T : Tx tl b) : ∃ fd, FunD b.K "_law_bases" "_law_bases" (defArgs s__law_bases) (defBody s__law_bases) (defScope s__law_bases) [] [] (He.ga b.K "_law_bases") fd ∧ Binds b.K fd P__law_bases [] := by
  obtain ⟨fd, F⟩ := T.s.c.def_ 3 (d := d__law_bases) rfl
  exact ⟨fd, F, F.bindsN fun _ _ _ _ _ _ us hl => match us, hl with | [_], _ => rfl⟩
set_option maxHeartbeats 4000000 in
theorem e__law_bases {b : Base} (T : Tx tl b) (E : XK) : DSs (b.at N__law_bases (defScope s__law_bases) 0 true) (wOf E) (defBody s__law_bases) B__law_bases := by
  have sc := sc__law_bases
  exact (dss_cons (ds_asg [1] (de_lst (da_cons (de_callB (b_isiV (xtB_ok (T.x 0))) (T.free 9) bt_isinstance (da_cons (de_var 0) (da_cons (de_glo (T.glo 0)) da_nil))) (da_cons (de_callB (b_isiV (xtB_ok (T.x 0))) (T.free 9) bt_isinstance (da_cons (de_var 0) (da_cons (de_glo (T.glo 4)) da_nil))) (da_cons (de_callB (b_isiV (xtB_ok (T.x 0))) (T.free 9) bt_isinstance (da_cons (de_var 0) (da_cons (de_glo (T.glo 6)) da_nil))) da_nil)))) (dg_name 1 sc.nd))
  (dss_cons (ds_asg [1] (de_op op_addD (de_var 1) (de_lst (da_cons (de_callB (b_isiV (xtB_ok (T.x 0))) (T.free 9) bt_isinstance (da_cons (de_var 0) (da_cons (de_ty (T.free 10) bt_ValueError) da_nil))) (da_cons (de_callB (b_isiV (xtB_ok (T.x 0))) (T.free 9) bt_isinstance (da_cons (de_var 0) (da_cons (de_ty (T.free 11) bt_LookupError) da_nil))) (da_cons (de_callB (b_isiV (xtB_ok (T.x 0))) (T.free 9) bt_isinstance (da_cons (de_var 0) (da_cons (de_ty (T.free 12) bt_ArithmeticError) da_nil))) da_nil))))) (dg_name 1 sc.nd))
  (dss_one (ds_ret (de_op op_addD (de_var 1) (de_lst (da_cons (de_callB (b_isiV (xtB_ok (T.x 0))) (T.free 9) bt_isinstance (da_cons (de_var 0) (da_cons (de_ty (T.free 13) bt_KeyError) da_nil))) (da_cons (de_callB (b_isiV (xtB_ok (T.x 0))) (T.free 9) bt_isinstance (da_cons (de_var 0) (da_cons (de_ty (T.free 14) bt_IndexError) da_nil))) (da_cons (de_callB (b_isiV (xtB_ok (T.x 0))) (T.free 9) bt_isinstance (da_cons (de_var 0) (da_cons (de_ty (T.free 15) bt_ZeroDivisionError) da_nil))) da_nil)))))))))
theorem ok__law_bases {b : Base} (T : Tx tl b) : ∃ fd, FnG b 1 (He.ga b.K "_law_bases") fd P__law_bases F__law_bases ∧ PySem.W.keepIn b.K (.ref (He.ga b.K "_law_bases")) = true ∧ Binds b.K fd P__law_bases [] ∧ True := by
  obtain ⟨fd, F, B⟩ := k__law_bases T
  exact ⟨fd, fnG_ok false F sc__law_bases (fun E => e__law_bases T E), F.kp, B, trivial⟩
theorem sc__law_sorts : FnScope N__law_sorts P__law_sorts (defScope s__law_sorts) := ⟨rfl, rfl, rfl, by decide +kernel, rfl, by decide +kernel, by decide +kernel⟩
theorem k__law_sorts {b : Base} (T : Tx tl b) : ∃ fd, FunD b.K "_law_sorts" "_law_sorts" (defArgs s__law_sorts) (defBody s__law_sorts) (defScope s__law_sorts) [] [] (He.ga b.K "_law_sorts") fd ∧ Binds b.K fd P__law_sorts [] := by
  obtain ⟨fd, F⟩ := T.s.c.def_ 4 (d := d__law_sorts) rfl
  exact ⟨fd, F, F.bindsN fun _ _ _ _ _ _ us hl => match us, hl with | [_], _ => rfl⟩
set_option maxHeartbeats 4000000 in
theorem e__law_sorts {b : Base} (T : Tx tl b) (E : XK) : DSs (b.at N__law_sorts (defScope s__law_sorts) 0 true) (wOf E) (defBody s__law_sorts) B__law_sorts := by
  have sc := sc__law_sorts
  exact (dss_cons (ds_asg [1] (de_lst (da_cons (de_callB (b_isiV (xtB_ok (T.x 0))) (T.free 9) bt_isinstance (da_cons (de_var 0) (da_cons (de_glo (T.glo 3)) da_nil))) (da_cons (de_callB (b_isiV (xtB_ok (T.x 0))) (T.free 9) bt_isinstance (da_cons (de_var 0) (da_cons (de_glo (T.glo 16)) da_nil))) (da_cons (de_callB (b_isiV (xtB_ok (T.x 0))) (T.free 9) bt_isinstance (da_cons (de_var 0) (da_cons (de_glo (T.glo 17)) da_nil))) da_nil)))) (dg_name 1 sc.nd))
  (dss_cons (ds_asg [1] (de_op op_addD (de_var 1) (de_lst (da_cons (de_callB (b_isiV (xtB_ok (T.x 0))) (T.free 9) bt_isinstance (da_cons (de_var 0) (da_cons (de_glo (T.glo 18)) da_nil))) (da_cons (de_callB (b_isiV (xtB_ok (T.x 0))) (T.free 9) bt_isinstance (da_cons (de_var 0) (da_cons (de_glo (T.glo 19)) da_nil))) (da_cons (de_callB (b_isiV (xtB_ok (T.x 0))) (T.free 9) bt_isinstance (da_cons (de_var 0) (da_cons (de_glo (T.glo 20)) da_nil))) da_nil))))) (dg_name 1 sc.nd))
  (dss_cons (ds_asg [1] (de_op op_addD (de_var 1) (de_lst (da_cons (de_callB (b_isiV (xtB_ok (T.x 0))) (T.free 9) bt_isinstance (da_cons (de_var 0) (da_cons (de_glo (T.glo 21)) da_nil))) (da_cons (de_callB (b_isiV (xtB_ok (T.x 0))) (T.free 9) bt_isinstance (da_cons (de_var 0) (da_cons (de_glo (T.glo 5)) da_nil))) (da_cons (de_callB (b_isiV (xtB_ok (T.x 0))) (T.free 9) bt_isinstance (da_cons (de_var 0) (da_cons (de_glo (T.glo 22)) da_nil))) da_nil))))) (dg_name 1 sc.nd))
  (dss_cons (ds_asg [1] (de_op op_addD (de_var 1) (de_lst (da_cons (de_callB (b_isiV (xtB_ok (T.x 0))) (T.free 9) bt_isinstance (da_cons (de_var 0) (da_cons (de_glo (T.glo 23)) da_nil))) (da_cons (de_callB (b_isiV (xtB_ok (T.x 0))) (T.free 9) bt_isinstance (da_cons (de_var 0) (da_cons (de_glo (T.glo 24)) da_nil))) (da_cons (de_callB (b_isiV (xtB_ok (T.x 0))) (T.free 9) bt_isinstance (da_cons (de_var 0) (da_cons (de_glo (T.glo 7)) da_nil))) da_nil))))) (dg_name 1 sc.nd))
  (dss_one (ds_ret (de_var 1)))))))
theorem ok__law_sorts {b : Base} (T : Tx tl b) : ∃ fd, FnG b 1 (He.ga b.K "_law_sorts") fd P__law_sorts F__law_sorts ∧ PySem.W.keepIn b.K (.ref (He.ga b.K "_law_sorts")) = true ∧ Binds b.K fd P__law_sorts [] ∧ True := by
  obtain ⟨fd, F, B⟩ := k__law_sorts T
  exact ⟨fd, fnG_ok false F sc__law_sorts (fun E => e__law_sorts T E), F.kp, B, trivial⟩
theorem sc__law_given : FnScope N__law_given P__law_given (defScope s__law_given) := ⟨rfl, rfl, rfl, by decide +kernel, rfl, by decide +kernel, by decide +kernel⟩
theorem k__law_given {b : Base} (T : Tx tl b) : ∃ fd, FunD b.K "_law_given" "_law_given" (defArgs s__law_given) (defBody s__law_given) (defScope s__law_given) [] [] (He.ga b.K "_law_given") fd ∧ Binds b.K fd P__law_given [] := by
  obtain ⟨fd, F⟩ := T.s.c.def_ 5 (d := d__law_given) rfl
  exact ⟨fd, F, F.bindsN fun _ _ _ _ _ _ us hl => match us, hl with | [_], _ => rfl⟩
set_option maxHeartbeats 4000000 in
theorem e__law_given {b : Base} (T : Tx tl b) (E : XK) : DSs (b.at N__law_given (defScope s__law_given) 1 true) (wOf E) (defBody s__law_given) B__law_given := by
  have sc := sc__law_given
  exact (dss_cons (ds_asg [1] (de_lst (da_cons (de_exvP (mv_InvalidText_p T) (T.free 2) (T.glo 3) (da_cons (de_var 0) da_nil)) (da_cons (de_exvP (mv_InvalidCount_p T) (T.free 2) (T.glo 16) (da_cons (de_var 0) da_nil)) (da_cons (de_exvP (mv_InvalidPlace_p T) (T.free 2) (T.glo 17) (da_cons (de_var 0) da_nil)) (da_cons (de_exvP (mv_InvalidClaim_p T) (T.free 2) (T.glo 18) (da_cons (de_var 0) da_nil)) da_nil))))) (dg_name 1 sc.nd))
  (dss_cons (ds_asg [1] (de_op op_addD (de_var 1) (de_lst (da_cons (de_exvP (mv_NotABook_p T) (T.free 2) (T.glo 19) (da_cons (de_var 0) da_nil)) (da_cons (de_exvP (mv_InvalidPlans_p T) (T.free 2) (T.glo 20) (da_cons (de_var 0) da_nil)) (da_cons (de_exvP (mv_InvalidPieces_p T) (T.free 2) (T.glo 21) (da_cons (de_var 0) da_nil)) (da_cons (de_exvP (mv_UnknownPlan_p T) (T.free 2) (T.glo 5) (da_cons (de_var 0) da_nil)) da_nil)))))) (dg_name 1 sc.nd))
  (dss_cons (ds_asg [1] (de_op op_addD (de_var 1) (de_lst (da_cons (de_exvP (mv_TooLong_p T) (T.free 2) (T.glo 22) (da_cons (de_var 0) da_nil)) (da_cons (de_exv0 (mz_IsOver T) (T.glo 23)) (da_cons (de_exv0 (mz_NothingToUndo T) (T.glo 24)) (da_cons (de_exvP (mv_Broken_p T) (T.free 2) (T.glo 7) (da_cons (de_var 0) (da_cons de_int da_nil))) da_nil)))))) (dg_name 1 sc.nd))
  (dss_cons (ds_asg [2] (de_lst (da_cons (de_exvK (mv_InvalidText_k T) (T.free 2) (T.glo 3) (dk_cons (de_var 0) dk_nil)) (da_cons (de_exvK (mv_InvalidCount_k T) (T.free 2) (T.glo 16) (dk_cons (de_var 0) dk_nil)) (da_cons (de_exvK (mv_InvalidPlace_k T) (T.free 2) (T.glo 17) (dk_cons (de_var 0) dk_nil)) da_nil)))) (dg_name 2 sc.nd))
  (dss_cons (ds_asg [2] (de_op op_addD (de_var 2) (de_lst (da_cons (de_exvK (mv_InvalidClaim_k T) (T.free 2) (T.glo 18) (dk_cons (de_var 0) dk_nil)) (da_cons (de_exvK (mv_NotABook_k T) (T.free 2) (T.glo 19) (dk_cons (de_var 0) dk_nil)) (da_cons (de_exvK (mv_InvalidPlans_k T) (T.free 2) (T.glo 20) (dk_cons (de_var 0) dk_nil)) da_nil))))) (dg_name 2 sc.nd))
  (dss_cons (ds_asg [2] (de_op op_addD (de_var 2) (de_lst (da_cons (de_exvK (mv_InvalidPieces_k T) (T.free 2) (T.glo 21) (dk_cons (de_var 0) dk_nil)) (da_cons (de_exvK (mv_UnknownPlan_k T) (T.free 2) (T.glo 5) (dk_cons (de_var 0) dk_nil)) (da_cons (de_exvK (mv_TooLong_k T) (T.free 2) (T.glo 22) (dk_cons (de_var 0) dk_nil)) (da_cons (de_exv0 (mz_IsOver T) (T.glo 23)) da_nil)))))) (dg_name 2 sc.nd))
  (dss_cons (ds_asg [2] (de_op op_addD (de_var 2) (de_lst (da_cons (de_exv0 (mz_NothingToUndo T) (T.glo 24)) (da_cons (de_exvK (mv_Broken_k T) (T.free 2) (T.glo 7) (dk_cons de_int (dk_cons (de_var 0) dk_nil))) da_nil)))) (dg_name 2 sc.nd))
  (dss_one (ds_ret (de_lst (da_cons (de_var 1) (da_cons (de_var 2) da_nil))))))))))))
theorem ok__law_given {b : Base} (T : Tx tl b) : ∃ fd, FnG b 2 (He.ga b.K "_law_given") fd P__law_given F__law_given ∧ PySem.W.keepIn b.K (.ref (He.ga b.K "_law_given")) = true ∧ Binds b.K fd P__law_given [] ∧ True := by
  obtain ⟨fd, F, B⟩ := k__law_given T
  exact ⟨fd, fnG_ok false F sc__law_given (fun E => e__law_given T E), F.kp, B, trivial⟩
theorem sc__law_right : FnScope N__law_right P__law_right (defScope s__law_right) := ⟨rfl, rfl, rfl, by decide +kernel, rfl, by decide +kernel, by decide +kernel⟩
theorem k__law_right {b : Base} (T : Tx tl b) : ∃ fd, FunD b.K "_law_right" "_law_right" (defArgs s__law_right) (defBody s__law_right) (defScope s__law_right) [] [] (He.ga b.K "_law_right") fd ∧ Binds b.K fd P__law_right [] := by
  obtain ⟨fd, F⟩ := T.s.c.def_ 6 (d := d__law_right) rfl
  exact ⟨fd, F, F.bindsN fun _ _ _ _ _ _ us hl => match us, hl with | [_], _ => rfl⟩
set_option maxHeartbeats 4000000 in
theorem e__law_right {b : Base} (T : Tx tl b) (E : XK) : DSs (b.at N__law_right (defScope s__law_right) 2 true) (wOf E) (defBody s__law_right) B__law_right := by
  obtain ⟨fdh0, h0⟩ := ok__law_given T
  obtain ⟨fdh1, h1⟩ := ok__law_sorts T
  obtain ⟨fdh2, h2⟩ := ok__law_bases T
  obtain ⟨fdh3, h3⟩ := ok__law_due T
  obtain ⟨fdh4, h4⟩ := ok__law_kept_right T
  obtain ⟨fdh5, h5⟩ := ok__law_raised_right T
  have sc := sc__law_right
  exact (dss_cons (ds_for [1] (di_seq (de_callG h0.1 (T.glo 25) h0.2.1 h0.2.2.1 (da_cons (de_var 0) da_nil))) (dg_name 1 sc.nd)
  (dss_cons (ds_for [2] (di_range1 (T.free 26) (da_cons (de_callB b_len (T.free 8) bt_len (da_cons (de_var 1) da_nil)) da_nil)) (dg_name 2 sc.nd)
  (dss_cons (ds_lc 3 [("_law_at", 4)] sc.nd (show blkC N__law_right (defScope s__law_right) _ _ = true by decide +kernel) (di_range1 (T.free 26) (da_cons (de_callB b_len (T.free 8) bt_len (da_cons (de_var 1) da_nil)) da_nil)) (dg_name 4 sc.nd) dts_nil (de_cmp op_eqD' (de_var 4) (de_var 2)))
  (dss_one (ds_if (dt_w (dw_or (dt_cmp op_neD' (de_callG h1.1 (T.glo 27) h1.2.1 h1.2.2.1 (da_cons (de_ix (de_var 1) (de_var 2)) da_nil)) (de_var 3)) (dw_or1 (dt_cmp op_neD' (de_callG h2.1 (T.glo 28) h2.2.1 h2.2.2.1 (da_cons (de_ix (de_var 1) (de_var 2)) da_nil)) (de_callG h3.1 (T.glo 29) h3.2.1 h3.2.2.1 (da_cons (de_var 2) da_nil)))))) (dss_one (ds_ret de_bl)) dss_nil))))
  (dss_one (ds_if (dt_not (dt_val (de_callG h4.1 (T.glo 30) h4.2.1 h4.2.2.1 (da_cons (de_var 1) (da_cons (de_var 0) da_nil))))) (dss_one (ds_ret de_bl)) dss_nil))))
  (dss_one (ds_ret (de_callG h5.1 (T.glo 31) h5.2.1 h5.2.2.1 (da_cons (de_var 0) da_nil)))))
theorem ok__law_right {b : Base} (T : Tx tl b) : ∃ fd, FnG b 3 (He.ga b.K "_law_right") fd P__law_right F__law_right ∧ PySem.W.keepIn b.K (.ref (He.ga b.K "_law_right")) = true ∧ Binds b.K fd P__law_right [] ∧ True := by
  obtain ⟨fd, F, B⟩ := k__law_right T
  exact ⟨fd, fnG_ok false F sc__law_right (fun E => e__law_right T E), F.kp, B, trivial⟩
theorem sc_law : FnScope N_law P_law (defScope s_law) := ⟨rfl, rfl, rfl, by decide +kernel, rfl, by decide +kernel, by decide +kernel⟩
set_option maxHeartbeats 4000000 in
theorem e_law {b : Base} (T : Tx tl b) (E : XK) : DSs (b.at N_law (defScope s_law) 3 true) (wOf E) (defBody s_law) B_law := by
  obtain ⟨fdh0, h0⟩ := ok__law_right T
  have sc := sc_law
  exact (dss_cons (ds_asg [1] (de_lst (da_cons (de_gint (T.int 32)) (da_cons (de_gint (T.int 33)) (da_cons (de_gint (T.int 34)) (da_cons (de_gint (T.int 35)) (da_cons (de_gint (T.int 36)) (da_cons (de_gint (T.int 37)) (da_cons (de_gint (T.int 38)) da_nil)))))))) (dg_name 1 sc.nd))
  (dss_cons (ds_asg [1] (de_op op_addD (de_var 1) (de_lst (da_cons (de_gint (T.int 39)) (da_cons (de_gint (T.int 40)) (da_cons (de_gint (T.int 41)) (da_cons (de_gint (T.int 42)) (da_cons (de_gint (T.int 43)) da_nil))))))) (dg_name 1 sc.nd))
  (dss_cons (ds_if (dt_cmp op_neD' (de_var 1) (de_lst (da_cons de_int (da_cons de_int (da_cons de_int (da_cons de_int (da_cons de_int (da_cons de_int (da_cons de_int (da_cons de_int (da_cons (de_op op_powD de_int de_int) (da_cons (de_op op_powD de_int de_int) (da_cons de_int (da_cons de_int da_nil)))))))))))))) (dss_one (ds_ret de_bl)) dss_nil)
  (dss_cons (ds_asg [2] (de_op op_addD (de_lst (da_cons de_non (da_cons de_str (da_cons (de_tup (da_cons de_int (da_cons de_str da_nil))) (da_cons de_bl (da_cons (de_neg de_int) da_nil)))))) (de_lc [("_law_cell", 3)] sc.nd (show blkC N_law (defScope s_law) _ _ = true by decide +kernel) (di_seq (de_sl (de_var 0) do_none (do_some de_int))) (dg_name 3 sc.nd) dts_nil (de_op op_modD (de_callT b_int (T.free 44) bt_int (da_cons (de_var 3) da_nil)) (de_op op_powD de_int de_int)))) (dg_name 2 sc.nd))
  (dss_one (ds_ret (de_cmp op_eqD' (de_lc [("_law_thing", 4)] sc.nd (show blkC N_law (defScope s_law) _ _ = true by decide +kernel) (di_seq (de_var 2)) (dg_name 4 sc.nd) (dts_one (dt_not (dt_val (de_callG h0.1 (T.glo 45) h0.2.1 h0.2.2.1 (da_cons (de_var 4) da_nil))))) (de_var 4)) (de_lst da_nil))))))))
theorem ok_law {b : Base} (T : Tx tl b) (fd : FuncData) (F : FunD b.K "law" "law" (defArgs s_law) (defBody s_law) (defScope s_law) [] [] (He.ga b.K "law") fd) : (∀ (s : Shared) (u : Value), BindsTo s fd ⟨[u], []⟩ [("_law_cells", u)]) ∧ FnG b 4 (He.ga b.K "law") fd P_law F_law := by
  have B := FunD.bindsA (ps := P_law) F fun _ _ _ _ _ _ us hl => match us, hl with | [_], _ => rfl
  exact ⟨fun s u => B s [u] rfl, fnG_ok false F sc_law (fun E => e_law T E)⟩
end J
open PySem PySem.W PySem.Calls PyProof.Rows in
set_option maxHeartbeats 0 in
theorem PySem.Challenge.cw_joinrounds_k01_limits_and_errors_holds : PySem.Challenge.rw_joinrounds_k01_limits_and_errors.Holds := by
  w_on; o_law
  refine HandSHeadRun.head_any (r := OpenLaw.row PySem.Challenge.rw_joinrounds_k01_limits_and_errors) (q := view (OpenLaw.row PySem.Challenge.rw_joinrounds_k01_limits_and_errors).prog [36]) (H := J.hk) (ob := J.ob) (M := 20000) (loose := J.nmL) (d := HandSHeadRun.topDef (OpenLaw.row PySem.Challenge.rw_joinrounds_k01_limits_and_errors).prog 36) (kwd := []) J.ob_eq
    (by kernel_rfl) (fun s => by kernel_rfl) J.run (by kernel_rfl) (by kernel_rfl) (by kernel_rfl) (by rfl) (by first | assumption | decide +kernel) (by decide +kernel) ⟨rfl, rfl, rfl, rfl, rfl, by decide +kernel⟩ ?hw ?hc
  case hw => w_witness2
  case hc =>
    exact DS.walkR (N := 1500) (l := PySem.Challenge.rw_joinrounds_k01_limits_and_errors) (n := 63) (k := 4) (L := J.tl) (G := J.F_law) rfl (by decide) (by kernel_rfl) (by kernel_rfl) ⟨rfl, by decide, by decide⟩ (by decide +kernel) (by decide +kernel) (fun K c => c.c.def_ 7 (d := J.d_law) rfl) (fun b _ T fd F => J.ok_law T fd F) ⟨46, rfl⟩ J.law_true
