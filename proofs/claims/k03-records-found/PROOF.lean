import PyProof.Rows.All
import Wide.All
import OpenK.AllK
import Wide.FinOn
import KE.KStateDown
import KE.DataEq
import HandS.ForMost
import HandS.More
import HandS.Exc
import HandS.TryOnly
import HandS.TryMany
import HandS.ExcOwn
import HandS.WordsExc
import HandS.Defaults
import HandS.MakeKwOnly
import HandS.IsInst
import HandS.Flow
import HandS.Evl
import HandS.Walk
import HandS.Wide
import HandS.FStr
import HandS.NoneIn
import HandS.Deep
import HandS.TupMul
import HandS.TupAny
import HandS.TupLe
import HandS.Conv
import HandS.Zip
import HandS.Lambda
import KE.KDictKeyed
import PyProof.ReprRoads
import PyProof.ReprText
import PyProof.StrBlock2
import HandS.ExcInit
import HandS.ExcField
import HandS.ExcIs
import KE.KExcIs
import PyProof.Draws
import PyProof.EnumMake
import HandS.MakeKw
import HandS.EndTab
import HandS.Head0
import HandS.Head1
import HandS.Head2
import HandS.HeadEnd
import HandS.HeadHook1
import HandS.HeadHook2
import HandS.Small
import KE.KExcInit
import PyProof.ExcBaseAll.LookupError
import PyProof.ExcBaseAll.IndexError
import PyProof.ExcBaseAll.RuntimeError
import PyProof.ExcBaseAll.OverflowError
import HandS.HeadHook4
import HandS.NestedK
import PyProof.FactsAll.subtypes_4
import PyProof.FactsAll.subtypes_1
import HandS.NamedTupSort
import HandS.Style
import KE.KEqDict
import HandS.Finally
import HandS.ExcValue
import HandS.ReplaceLit
import PySem.Challenge.RW_appendlease_k03_records_found
import HandS.Codes
set_option Elab.async false
set_option linter.all false
set_option maxRecDepth 100000
namespace Mi
open PySem
/-- the defs that make lambdas, and the names of these -/
def lamDefs : List (Str × Str) := []
end Mi

set_option maxHeartbeats 400000
/-! ### a plain reading of the language: values, heaps, meanings; and what it says of the hand layer's readings -/
namespace Mi
open PySem PySem.Spec PyProof.Rows L2
/-- the world of the run -/
class TheW where
  w : World
variable [TheW]
/-- values: tuples are values; a tmp is a new list that nothing else holds; a con is a list that never changes -/
inductive MV where
  | non | bl (b : Bool) | int (i : Int) | str (x : Str) | tup (xs : List MV) | tmp (xs : List MV) | con (xs : List MV) | ref (n : Nat) | ty (n : String) | cls (c : Str) | fn (f : Str) | exn (c : Str) (ns : List Str) (vs : List MV) | lam (f c : Addr) (q : Str) (xs : List MV) (vs : List V)
deriving Inhabited
/-- what stands at a place of the heap -/
inductive MO where
  | lst (xs : List MV) | ins (c : Str) (fs : List (Str × MV)) | dic (kvs : List (MV × MV)) | dct (kvs : List (MV × MV)) | fdc (kvs : List (MV × MV)) | fct (kvs : List (MV × MV))
deriving Inhabited
abbrev MH := List MO
structure XV where
  c : Str
  ns : List Str
  vs : List MV
inductive Res (α : Type) where
  | ok (a : α) (h : MH) | exc (x : XV) (h : MH) | stuck
def Res.bind {α β : Type} (r : Res α) (f : α → MH → Res β) : Res β := match r with
  | .ok a h => f a h
  | .exc x h => .exc x h
  | .stuck => .stuck
theorem Res.ok_bind {α β : Type} {a : α} {h : MH} {f : α → MH → Res β} : (Res.ok a h).bind f = f a h := rfl
theorem Res.exc_bind {α β : Type} {x : XV} {h : MH} {f : α → MH → Res β} : (Res.exc x h : Res α).bind f = .exc x h := rfl
theorem Res.stuck_bind {α β : Type} {f : α → MH → Res β} : (Res.stuck : Res α).bind f = .stuck := rfl
abbrev MS := List (Option MV)
abbrev ME := MS → MH → Res MV
abbrev MA := MS → MH → Res (List MV)
abbrev MT := MS → MH → Res Bool
inductive SR where
  | next (σ : MS) (h : MH) | ret (v : MV) (h : MH) | brk (σ : MS) (h : MH) | cont (σ : MS) (h : MH) | exc (x : XV) (σ : MS) (h : MH) | stuck
abbrev MSt := MS → MH → SR
/-- a tuple as a key of a dict -/
def nkOf : Nat → MV → Option NestedKey
  | 0, _ => none
  | n + 1, v => match v with
    | .non => some .none
    | .bl b => some (.num (if b = true then 1 else 0))
    | .int i => some (.num i)
    | .str x => some (.text x)
    | .tup xs => (xs.mapM (nkOf n)).map .tup
    | _ => none
/-- at a: a dict with these entries -/
def rawN (w : World) (a : Addr) (xs : List (NestedKey × Addr × Value)) : HO := .ext fun h => ∃ o es ep, h.get? a = some o ∧ o.ExactDict ∧ o.data = .dict es ep ∧ es.toList = xs.map fun x => (⟨x.1.hash w, .ref x.2.1, x.2.2⟩ : DictEntry)
/-- at a: an exception of the class cls, its dict d -/
def kx (a : Addr) (cls : Value) (d : Option Addr) : HO := .ext fun h => ∃ o vs, h.get? a = some o ∧ Zc cls d o ∧ o.data = .fields vs
section
variable (K : PySem.W.Frag) (mg : Str → Option Value) (m : List Addr) (H : Hp)
def TupK (a : Addr) (vs : List V) : Prop := ∃ (o : Obj) (its : Array Value) (n : Nat), K.lookup a = some o ∧ o.cls = .type "tuple" ∧ o.data = .seq its n ∧ its.size ≤ sizeLine ∧ Vals vs its.toList
def LstK (a : Addr) (vs : List V) : Prop := ∃ (o : Obj) (its : Array Value) (n : Nat), K.lookup a = some o ∧ o.cls = .type "list" ∧ o.dict = none ∧ o.data = .seq its n ∧ its.size ≤ sizeLine ∧ Vals vs its.toList
mutual
/-- a value here is a value there -/
inductive Dv : MV → V → Prop
  | non : Dv .non .non
  | bl (b : Bool) : Dv (.bl b) (.bl b)
  | int (i : Int) : Dv (.int i) (.int i)
  | str (x : Str) : Dv (.str x) (.str x)
  | tup {a : Addr} {vs : List V} {xs : List MV} : H a = some (.tup vs) → a ∉ m → DvAll xs vs → Dv (.tup xs) (.ref a)
  | tupK {a : Addr} {vs : List V} {xs : List MV} : TupK K a vs → DvAll xs vs → Dv (.tup xs) (.ref a)
  | con {a : Addr} {o : Obj} {vs : List V} {xs : List MV} : H a = some (.frz o (.lst vs)) → a ∉ m → DvAll xs vs → Dv (.con xs) (.ref a)
  | conK {a : Addr} {vs : List V} {xs : List MV} : LstK K a vs → DvAll xs vs → Dv (.con xs) (.ref a)
  | ref {n : Nat} {a : Addr} : m[n]? = some a → Dv (.ref n) (.ref a)
  | ty (n : String) : Dv (.ty n) (.ty n)
  | cls {c : Str} {C : Addr} : mg c = some (.ref C) → Dv (.cls c) (.ref C)
  | fn {f : Str} {a : Addr} : mg f = some (.ref a) → Dv (.fn f) (.ref a)
  | exn0 {c : Str} {a C : Addr} : mg c = some (.ref C) → H a = some (kx a (.ref C) none) → a ∉ m → Dv (.exn c [] []) (.ref a)
  | exnD {c : Str} {a C dd : Addr} {gs : List (Str × V)} {xs : List MV} : mg c = some (.ref C) → H a = some (kx a (.ref C) (some dd)) → a ∉ m → H dd = some (.xd gs) → dd ∉ m → DvAll xs (gs.map (·.2)) → Dv (.exn c (gs.map (·.1)) xs) (.ref a)
  | lam {f c : Addr} {q : Str} {xs : List MV} {vs : List V} : H c = some (LamX.CodeO c q) → c ∉ m → DvAll xs vs → Dv (.lam f c q xs vs) (.ref f)
inductive DvAll : List MV → List V → Prop
  | nil : DvAll [] []
  | cons {x : MV} {v : V} {xs : List MV} {vs : List V} : Dv x v → DvAll xs vs → DvAll (x :: xs) (v :: vs)
end
inductive DvF : List (Str × MV) → List (Str × V) → Prop
  | nil : DvF [] []
  | cons {f : Str} {x : MV} {v : V} {fs : List (Str × MV)} {gs : List (Str × V)} : Dv K mg m H x v → DvF fs gs → DvF ((f, x) :: fs) ((f, v) :: gs)
/-- keys: whole numbers and texts -/
def kM : Key → MV
  | .inl i => .int i
  | .inr x => .str x
inductive DvK : List (MV × MV) → List (Key × V) → Prop
  | nil : DvK [] []
  | cons {k : Key} {x : MV} {v : V} {ks : List (MV × MV)} {ls : List (Key × V)} : Dv K mg m H x v → DvK ks ls → DvK ((kM k, x) :: ks) ((k, v) :: ls)
/-- keys: tuples; where they stand -/
inductive DvN : List (MV × MV) → List (NestedKey × Addr × Value) → Prop
  | nil : DvN [] []
  | cons {k x : MV} {nk : NestedKey} {ka : Addr} {v : V} {u : Value} {ks : List (MV × MV)} {ls : List (NestedKey × Addr × Value)} : nkOf 8 k = some nk → Dv K mg m H k (.ref ka) → Dv K mg m H x v → RelV v u → DvN ks ls → DvN ((k, x) :: ks) ((nk, ka, u) :: ls)
/-- a dict of tuples -/
structure DctR (a : Addr) (kvs : List (MV × MV)) (xs : List (NestedKey × Addr × Value)) : Prop where
  sys : (a == sysModules) = false
  len : xs.length ≤ sizeLine
  nd : (xs.map (·.1)).Nodup
  all : DvN K mg m H kvs xs
/-- what stands at the place is what stands at the address; dct: a dict of tuples; fdc, fct: dicts that are being walked -/
def OR (a : Addr) : MO → Prop
  | .lst xs => ∃ vs, H a = some (.lst vs) ∧ DvAll K mg m H xs vs
  | .ins c fs => ∃ C dx gs, H a = some (.ins C dx gs) ∧ mg c = some (.ref C) ∧ dx ∉ m ∧ H dx = some (.own a) ∧ DvF K mg m H fs gs
  | .dic kvs => ∃ ls, H a = some (.dK ls) ∧ DvK K mg m H kvs ls
  | .dct kvs => ∃ xs, H a = some (rawN TheW.w a xs) ∧ DctR K mg m H a kvs xs
  | .fdc kvs => ∃ o ls, H a = some (.frz o (.dK ls)) ∧ DvK K mg m H kvs ls
  | .fct kvs => ∃ o xs, H a = some (.frz o (rawN TheW.w a xs)) ∧ DctR K mg m H a kvs xs
/-- the table of code objects of the def x -/
def TabOf (x : Str) (P : Addr) : Prop := ∃ (f c : Addr) (oc : Value) (od : Option Addr) (fd : FuncData) (osl : Array (Option Value)) (o : Obj) (us : Array Value), mg x = some (.ref f) ∧ K.lookup f = some ⟨oc, od, .func fd, osl⟩ ∧ fd.code = .ref c ∧ K.lookup c = some o ∧ o.data = .fields us ∧ us[11]? = some (.ref P)
/-- a table that grows; its code objects bear the name q -/
structure TabM (P : Addr) (q : Str) : Prop where
  out : P ∉ m
  at_ : ∃ ps : Array Value, H P = some (.tbl ps) ∧ TriplesOk ps.toList ∧ ∀ (pos : Pos) (cv : Value), codeAmong pos ps.toList = some cv → ∃ c, cv = .ref c ∧ H c = some (LamX.CodeO c q) ∧ c ∉ m
structure Rep (h : MH) : Prop where
  len : m.length = h.length
  nd : m.Nodup
  tab : ∀ (x q : Str) (P : Addr), (x, q) ∈ lamDefs → TabOf K mg x P → TabM m H P q
  ob : ∀ (n : Nat) (o : MO) (a : Addr), h[n]? = some o → m[n]? = some a → OR K mg m H a o
/-- the new state beside the old one: what is not a place's stands as it was -/
structure Ext (m : List Addr) (H : Hp) (m' : List Addr) (H' : Hp) : Prop where
  pre : ∃ r, m' = m ++ r
  keep : ∀ a o, H a = some o → (∀ ps, o ≠ .tbl ps) → a ∉ m → H' a = some o
  kept : ∀ a o, H a = some o → a ∉ m → ∃ o', H' a = some o'
  new : ∀ a, a ∈ m' → a ∉ m → H a = none
  frz : ∀ a o u, H a = some (.frz o u) → H' a = some (.frz o u)
structure SRel (σ : MS) (s : L2.St) : Prop where
  len : σ.length = s.length
  at_ : ∀ (i : Nat) (v : MV), σ[i]? = some (some v) → ∃ v', s[i]? = some (some v') ∧ Dv K mg m H v v'
/-- an exception: its class, its own dict -/
def XR (x : XV) (cls : Value) (d : Option Addr) : Prop := ∃ C, cls = .ref C ∧ mg x.c = some (.ref C) ∧ ((d = none ∧ x.ns = [] ∧ x.vs = []) ∨ ∃ dd gs, d = some dd ∧ dd ∉ m ∧ H dd = some (.xd gs) ∧ gs.map (·.1) = x.ns ∧ DvAll K mg m H x.vs (gs.map (·.2)))
end
section
variable {K : PySem.W.Frag} {mg : Str → Option Value} {m m1 m2 : List Addr} {H H1 H2 : Hp} {h h1 h2 : MH}
theorem Ext.refl : Ext m H m H := ⟨⟨[], by simp⟩, fun _ _ e _ _ => e, fun _ o e _ => ⟨o, e⟩, fun _ h1 h2 => absurd h1 h2, fun _ _ _ e => e⟩
theorem Ext.trans (a : Ext m H m1 H1) (b : Ext m1 H1 m2 H2) : Ext m H m2 H2 := by
  obtain ⟨r1, e1⟩ := a.pre
  obtain ⟨r2, e2⟩ := b.pre
  have out : ∀ c o, H c = some o → c ∉ m → c ∉ m1 := fun c o e n z => by
    have := a.new c z n
    rw [e] at this
    cases this
  refine ⟨⟨r1 ++ r2, by rw [e2, e1, List.append_assoc]⟩, fun c o e t n => b.keep c o (a.keep c o e t n) t (out c o e n), fun c o e n => ?_, fun c i n => ?_, fun c o u e => b.frz c o u (a.frz c o u e)⟩
  · obtain ⟨o1, k⟩ := a.kept c o e n
    exact b.kept c o1 k (out c o e n)
  · by_cases hc : c ∈ m1
    · exact a.new c hc n
    · have k := b.new c i hc
      cases q : H c with
      | none => rfl
      | some o =>
        obtain ⟨o1, z⟩ := a.kept c o q n
        rw [z] at k
        cases k
theorem Ext.get (e : Ext m H m1 H1) {n : Nat} {a : Addr} (h : m[n]? = some a) : m1[n]? = some a := by
  obtain ⟨r, rfl⟩ := e.pre
  rw [List.getElem?_append_left (List.getElem?_eq_some_iff.mp h).1]
  exact h
theorem Ext.out (e : Ext m H m1 H1) {a : Addr} {o : HO} (h : H a = some o) (n : a ∉ m) : a ∉ m1 := fun z => by
  have := e.new a z n
  rw [h] at this
  cases this
/-- as Ext; a list may become a place -/
structure Gro (m : List Addr) (H : Hp) (m' : List Addr) (H' : Hp) : Prop where
  pre : ∃ r, m' = m ++ r
  keep : ∀ a o, H a = some o → (∀ vs, o ≠ .lst vs) → (∀ vs, o ≠ .dK vs) → (∀ ps, o ≠ .tbl ps) → a ∉ m → H' a = some o
  out : ∀ a o, H a = some o → (∀ vs, o ≠ .lst vs) → (∀ vs, o ≠ .dK vs) → a ∉ m → a ∉ m'
theorem Ext.gro (e : Ext m H m1 H1) : Gro m H m1 H1 := ⟨e.pre, fun a o h _ _ t n => e.keep a o h t n, fun a o h _ _ n => e.out h n⟩
theorem Gro.get (e : Gro m H m1 H1) {n : Nat} {a : Addr} (h : m[n]? = some a) : m1[n]? = some a := by
  obtain ⟨r, rfl⟩ := e.pre
  rw [List.getElem?_append_left (List.getElem?_eq_some_iff.mp h).1]
  exact h
mutual
theorem Dv.mono (e : Gro m H m1 H1) : ∀ {x : MV} {v : V}, Dv K mg m H x v → Dv K mg m1 H1 x v
  | _, _, .non => .non
  | _, _, .bl b => .bl b
  | _, _, .int i => .int i
  | _, _, .str x => .str x
  | _, _, .tup h n r => .tup (e.keep _ _ h (fun _ z => by cases z) (fun _ z => by cases z) (fun _ z => by cases z) n) (e.out _ _ h (fun _ z => by cases z) (fun _ z => by cases z) n) (DvAll.mono e r)
  | _, _, .tupK h r => .tupK h (DvAll.mono e r)
  | _, _, .con h n r => .con (e.keep _ _ h (fun _ z => by cases z) (fun _ z => by cases z) (fun _ z => by cases z) n) (e.out _ _ h (fun _ z => by cases z) (fun _ z => by cases z) n) (DvAll.mono e r)
  | _, _, .conK h r => .conK h (DvAll.mono e r)
  | _, _, .ref h => .ref (e.get h)
  | _, _, .ty n => .ty n
  | _, _, .cls h => .cls h
  | _, _, .fn h => .fn h
  | _, _, .exn0 h1 h2 h3 => .exn0 h1 (e.keep _ _ h2 (fun _ z => by cases z) (fun _ z => by cases z) (fun _ z => by cases z) h3) (e.out _ _ h2 (fun _ z => by cases z) (fun _ z => by cases z) h3)
  | _, _, .exnD h1 h2 h3 h4 h5 r => .exnD h1 (e.keep _ _ h2 (fun _ z => by cases z) (fun _ z => by cases z) (fun _ z => by cases z) h3) (e.out _ _ h2 (fun _ z => by cases z) (fun _ z => by cases z) h3) (e.keep _ _ h4 (fun _ z => by cases z) (fun _ z => by cases z) (fun _ z => by cases z) h5) (e.out _ _ h4 (fun _ z => by cases z) (fun _ z => by cases z) h5) (DvAll.mono e r)
  | _, _, .lam h n r => .lam (e.keep _ _ h (fun _ z => by cases z) (fun _ z => by cases z) (fun _ z => by cases z) n) (e.out _ _ h (fun _ z => by cases z) (fun _ z => by cases z) n) (DvAll.mono e r)
theorem DvAll.mono (e : Gro m H m1 H1) : ∀ {xs : List MV} {vs : List V}, DvAll K mg m H xs vs → DvAll K mg m1 H1 xs vs
  | _, _, .nil => .nil
  | _, _, .cons h r => .cons (Dv.mono e h) (DvAll.mono e r)
end
theorem DvF.mono (e : Gro m H m1 H1) : ∀ {fs : List (Str × MV)} {gs : List (Str × V)}, DvF K mg m H fs gs → DvF K mg m1 H1 fs gs
  | _, _, .nil => .nil
  | _, _, .cons h r => .cons (h.mono e) (DvF.mono e r)
theorem DvK.mono (e : Gro m H m1 H1) : ∀ {ks : List (MV × MV)} {ls : List (Key × V)}, DvK K mg m H ks ls → DvK K mg m1 H1 ks ls
  | _, _, .nil => .nil
  | _, _, .cons h r => .cons (h.mono e) (DvK.mono e r)
theorem DvN.mono (e : Gro m H m1 H1) : ∀ {ks : List (MV × MV)} {ls : List (NestedKey × Addr × Value)}, DvN K mg m H ks ls → DvN K mg m1 H1 ks ls
  | _, _, .nil => .nil
  | _, _, .cons h0 h1 h2 h3 r => .cons h0 (h1.mono e) (h2.mono e) h3 (DvN.mono e r)
theorem DvN.length : ∀ {ks : List (MV × MV)} {ls : List (NestedKey × Addr × Value)}, DvN K mg m H ks ls → ks.length = ls.length
  | _, _, .nil => rfl
  | _, _, .cons _ _ _ _ r => by simp [DvN.length r]
theorem DctR.mono (e : Gro m H m1 H1) {a : Addr} {ks : List (MV × MV)} {ls : List (NestedKey × Addr × Value)} (d : DctR K mg m H a ks ls) : DctR K mg m1 H1 a ks ls := ⟨d.sys, d.len, d.nd, d.all.mono e⟩
theorem DvK.length : ∀ {ks : List (MV × MV)} {ls : List (Key × V)}, DvK K mg m H ks ls → ks.length = ls.length
  | _, _, .nil => rfl
  | _, _, .cons _ r => by simp [DvK.length r]
theorem SRel.mono (e : Gro m H m1 H1) {σ : MS} {s : L2.St} (r : SRel K mg m H σ s) : SRel K mg m1 H1 σ s := ⟨r.len, fun i v h => let ⟨v', h1, h2⟩ := r.at_ i v h; ⟨v', h1, h2.mono e⟩⟩
theorem DvAll.length : ∀ {xs : List MV} {vs : List V}, DvAll K mg m H xs vs → xs.length = vs.length
  | _, _, .nil => rfl
  | _, _, .cons _ r => by simp [DvAll.length r]
theorem DvAll.append : ∀ {xs ys : List MV} {vs ws : List V}, DvAll K mg m H xs vs → DvAll K mg m H ys ws → DvAll K mg m H (xs ++ ys) (vs ++ ws)
  | _, _, _, _, .nil, s => s
  | _, _, _, _, .cons r t, s => .cons r (DvAll.append t s)
theorem DvAll.get : ∀ {xs : List MV} {vs : List V} {i : Nat} {x : MV}, DvAll K mg m H xs vs → xs[i]? = some x → ∃ v, vs[i]? = some v ∧ Dv K mg m H x v
  | _, _, _, _, .nil, e => by simp at e
  | _, _, 0, _, .cons r _, e => by simp at e; subst e; exact ⟨_, rfl, r⟩
  | _, _, i + 1, x, .cons _ t, e => by
    obtain ⟨u, h1, h2⟩ := DvAll.get (i := i) (x := x) t (by simpa using e)
    exact ⟨u, by simpa using h1, h2⟩
theorem DvAll.take : ∀ {xs : List MV} {vs : List V} (n : Nat), DvAll K mg m H xs vs → DvAll K mg m H (xs.take n) (vs.take n)
  | _, _, 0, _ => .nil
  | _, _, _ + 1, .nil => .nil
  | _, _, n + 1, .cons r t => .cons r (DvAll.take n t)
theorem DvAll.drop : ∀ {xs : List MV} {vs : List V} (n : Nat), DvAll K mg m H xs vs → DvAll K mg m H (xs.drop n) (vs.drop n)
  | _, _, 0, r => r
  | _, _, _ + 1, .nil => .nil
  | _, _, n + 1, .cons _ t => DvAll.drop n t
theorem DvAll.set {x : MV} {v : V} (r : Dv K mg m H x v) : ∀ {xs : List MV} {vs : List V} (i : Nat), DvAll K mg m H xs vs → DvAll K mg m H (xs.set i x) (vs.set i v)
  | _, _, _, .nil => .nil
  | _, _, 0, .cons _ t => .cons r t
  | _, _, i + 1, .cons q t => .cons q (DvAll.set r i t)
theorem DvF.lookup : ∀ {fs : List (Str × MV)} {gs : List (Str × V)} {f : Str} {x : MV}, DvF K mg m H fs gs → fs.lookup f = some x → ∃ v, gs.lookup f = some v ∧ Dv K mg m H x v
  | _, _, _, _, .nil, e => by simp at e
  | _, _, f, x, .cons (f := g) r t, e => by
    rw [List.lookup_cons] at e ⊢
    cases q : f == g with
    | true =>
      rw [q] at e
      cases e
      exact ⟨_, rfl, r⟩
    | false =>
      rw [q] at e
      exact DvF.lookup t e
theorem DvF.lookup_none : ∀ {fs : List (Str × MV)} {gs : List (Str × V)} {f : Str}, DvF K mg m H fs gs → fs.lookup f = none → gs.lookup f = none
  | _, _, _, .nil, _ => rfl
  | _, _, f, .cons (f := g) r t, e => by
    rw [List.lookup_cons] at e ⊢
    cases q : f == g with
    | true => rw [q] at e; cases e
    | false =>
      rw [q] at e
      exact DvF.lookup_none t e
theorem DvF.length : ∀ {fs : List (Str × MV)} {gs : List (Str × V)}, DvF K mg m H fs gs → fs.length = gs.length
  | _, _, .nil => rfl
  | _, _, .cons _ r => by simp [DvF.length r]
/-- a field is put -/
def putM (f : Str) (v : MV) : List (Str × MV) → List (Str × MV)
  | [] => [(f, v)]
  | (g, w) :: r => if g = f then (g, v) :: r else (g, w) :: putM f v r
theorem SRel.set {σ : MS} {s : L2.St} {i : Nat} {x : MV} {v : V} (r : SRel K mg m H σ s) (d : Dv K mg m H x v) : SRel K mg m H (σ.set i (some x)) (s.set i (some v)) := by
  refine ⟨by simp [r.len], fun j y e => ?_⟩
  by_cases hj : i = j
  · subst hj
    rw [List.getElem?_set] at e
    simp only [if_true] at e
    split at e
    · rename_i hi
      cases e
      refine ⟨v, ?_, d⟩
      rw [List.getElem?_set]
      simp only [if_true]
      rw [if_pos (by rw [← r.len]; exact hi)]
    · cases e
  · rw [List.getElem?_set_ne hj] at e ⊢
    exact r.at_ j y e
/-- places are tracked -/
theorem Rep.tracked (R : Rep K mg m H h) {a : Addr} (i : a ∈ m) : ∃ o, H a = some o := by
  obtain ⟨n, hn, e⟩ := List.mem_iff_getElem.mp i
  have hl : n < h.length := by rw [← R.len]; exact hn
  have q := R.ob n h[n] a (List.getElem?_eq_getElem hl) (by rw [List.getElem?_eq_getElem hn, e])
  cases ho : h[n] with
  | lst xs => rw [ho] at q; obtain ⟨_, z, _⟩ := q; exact ⟨_, z⟩
  | ins c fs => rw [ho] at q; obtain ⟨_, _, _, z, _⟩ := q; exact ⟨_, z⟩
  | dic kvs => rw [ho] at q; obtain ⟨_, z, _⟩ := q; exact ⟨_, z⟩
  | dct kvs => rw [ho] at q; obtain ⟨_, z, _⟩ := q; exact ⟨_, z⟩
  | fdc kvs => rw [ho] at q; obtain ⟨_, _, z, _⟩ := q; exact ⟨_, z⟩
  | fct kvs => rw [ho] at q; obtain ⟨_, _, z, _⟩ := q; exact ⟨_, z⟩
theorem Rep.out (R : Rep K mg m H h) {a : Addr} (n : H a = none) : a ∉ m := fun i => by
  obtain ⟨o, e⟩ := R.tracked i
  rw [n] at e
  cases e
theorem Rep.get (R : Rep K mg m H h) {n : Nat} {o : MO} (e : h[n]? = some o) : ∃ a, m[n]? = some a ∧ OR K mg m H a o := by
  have hl : n < m.length := by rw [R.len]; exact (List.getElem?_eq_some_iff.mp e).1
  exact ⟨m[n], List.getElem?_eq_getElem hl, R.ob n o _ e (List.getElem?_eq_getElem hl)⟩
theorem Rep.at_ (R : Rep K mg m H h) {n : Nat} {o : MO} {a : Addr} (e : h[n]? = some o) (d : m[n]? = some a) : OR K mg m H a o := R.ob n o a e d
/-- something that no place holds is laid -/
theorem Ext.upd_new {a : Addr} {o : HO} (n : H a = none) : Ext m H m (upd H a o) := ⟨⟨[], by simp⟩, fun b u e _ _ => by rw [upd_ne (ne_of_none e n)]; exact e, fun b u e _ => ⟨u, by rw [upd_ne (ne_of_none e n)]; exact e⟩, fun _ h1 h2 => absurd h1 h2, fun b _ _ e => by rw [upd_ne (ne_of_none e n)]; exact e⟩
/-- a place is written -/
theorem Gro.upd_at {a : Addr} {o : HO} (i : a ∈ m) : Gro m H m (upd H a o) := ⟨⟨[], by simp⟩, fun b u e _ _ _ nb => by rw [upd_ne (fun z => nb (by rw [z]; exact i))]; exact e, fun _ _ _ _ _ nb => nb⟩
theorem Ext.upd_at {a : Addr} {o : HO} (i : a ∈ m) (nf : ∀ o' u, H a ≠ some (.frz o' u)) : Ext m H m (upd H a o) := ⟨⟨[], by simp⟩, fun b u e _ nb => by rw [upd_ne (fun z => nb (by rw [z]; exact i))]; exact e, fun b u e nb => ⟨u, by rw [upd_ne (fun z => nb (by rw [z]; exact i))]; exact e⟩, fun _ h1 h2 => absurd h1 h2, fun b o' u e => by rw [upd_ne (fun z => nf o' u (by rw [← z]; exact e))]; exact e⟩
/-- a new place -/
theorem Ext.snoc {a : Addr} {o : HO} (n : H a = none) : Ext m H (m ++ [a]) (upd H a o) := ⟨⟨[a], rfl⟩, fun b u e _ _ => by rw [upd_ne (ne_of_none e n)]; exact e, fun b u e _ => ⟨u, by rw [upd_ne (ne_of_none e n)]; exact e⟩, fun b h1 h2 => by
  rcases List.mem_append.mp h1 with z | z
  · exact absurd z h2
  · have : b = a := by simpa using z
    rw [this]
    exact n, fun b _ _ e => by rw [upd_ne (ne_of_none e n)]; exact e⟩
theorem OR.mono {a : Addr} {o : MO} (e : Gro m H m1 H1) (q : OR K mg m H a o) (st : H1 a = H a) : OR K mg m1 H1 a o := by
  cases o with
  | lst xs => obtain ⟨vs, h1, h2⟩ := q; exact ⟨vs, by rw [st]; exact h1, h2.mono e⟩
  | ins c fs => obtain ⟨C, dx, gs, h1, h2, h3, h4, h5⟩ := q; exact ⟨C, dx, gs, by rw [st]; exact h1, h2, e.out _ _ h4 (fun _ z => by cases z) (fun _ z => by cases z) h3, e.keep _ _ h4 (fun _ z => by cases z) (fun _ z => by cases z) (fun _ z => by cases z) h3, h5.mono e⟩
  | dic kvs => obtain ⟨ls, h1, h2⟩ := q; exact ⟨ls, by rw [st]; exact h1, h2.mono e⟩
  | dct kvs => obtain ⟨ls, h1, h2⟩ := q; exact ⟨ls, by rw [st]; exact h1, h2.mono e⟩
  | fdc kvs => obtain ⟨o, ls, h1, h2⟩ := q; exact ⟨o, ls, by rw [st]; exact h1, h2.mono e⟩
  | fct kvs => obtain ⟨o, ls, h1, h2⟩ := q; exact ⟨o, ls, by rw [st]; exact h1, h2.mono e⟩
/-- tables stay: what the state knows of them is kept -/
theorem TabM.mono {P : Addr} {q : Str} (t : TabM m H P q) (e : Gro m H m1 H1) (st : ∀ ps, H P = some (.tbl ps) → H1 P = some (.tbl ps)) : TabM m1 H1 P q := by
  obtain ⟨n, ps, h1, h2, h3⟩ := t
  refine ⟨e.out P _ h1 (fun _ z => by cases z) (fun _ z => by cases z) n, ps, st ps h1, h2, fun pos cv hc => ?_⟩
  obtain ⟨c, e1, e2, e3⟩ := h3 pos cv hc
  exact ⟨c, e1, e.keep _ _ e2 (fun _ z => by cases z) (fun _ z => by cases z) (fun _ z => by cases z) e3, e.out _ _ e2 (fun _ z => by cases z) (fun _ z => by cases z) e3⟩
/-- something that no place holds is laid -/
theorem Rep.lay (R : Rep K mg m H h) {a : Addr} {o : HO} (n : H a = none) : Rep K mg m (upd H a o) h := by
  refine ⟨R.len, R.nd, fun x q P h1 h2 => (R.tab x q P h1 h2).mono (Ext.upd_new n).gro fun ps e => by rw [upd_ne (ne_of_none e n)]; exact e, fun i u b e d => ?_⟩
  have hb : b ∈ m := List.mem_of_getElem? d
  obtain ⟨u', q⟩ := R.tracked hb
  exact (R.ob i u b e d).mono (Ext.upd_new n).gro (upd_ne (ne_of_none q n))
theorem getElem?_snoc {α : Type} {l : List α} {x y : α} {i : Nat} (e : (l ++ [x])[i]? = some y) : l[i]? = some y ∨ (i = l.length ∧ y = x) := by
  by_cases hi : i < l.length
  · rw [List.getElem?_append_left hi] at e
    exact .inl e
  · rw [List.getElem?_append_right (by omega)] at e
    have : i - l.length = 0 := by
      have := (List.getElem?_eq_some_iff.mp e).1
      simp at this
      omega
    rw [this] at e
    have e' : x = y := by simpa using e
    exact .inr ⟨by omega, e'.symm⟩
/-- something tracked becomes a place -/
theorem Rep.place (R : Rep K mg m H h) {a : Addr} {o : MO} (na : a ∉ m) (e : Gro m H (m ++ [a]) H1) (st : ∀ b, b ∈ m → H1 b = H b) (q : OR K mg (m ++ [a]) H1 a o) (sp : ∀ P ps, H P = some (.tbl ps) → H1 P = some (.tbl ps)) : Rep K mg (m ++ [a]) H1 (h ++ [o]) := by
  refine ⟨by simp [R.len], ?_, fun x q P h1 h2 => (R.tab x q P h1 h2).mono e (sp P), fun i u b hu hb => ?_⟩
  · rw [List.nodup_append]
    refine ⟨R.nd, by simp, fun x hx y hy z => na ?_⟩
    have hya : y = a := by simpa using hy
    rw [← hya, ← z]
    exact hx
  · rcases getElem?_snoc hu with hu | ⟨hi, rfl⟩
    · rcases getElem?_snoc hb with hb | ⟨hj, rfl⟩
      · exact (R.ob i u b hu hb).mono e (st b (List.mem_of_getElem? hb))
      · have := (List.getElem?_eq_some_iff.mp hu).1
        have := R.len
        omega
    · rcases getElem?_snoc hb with hb | ⟨hj, rfl⟩
      · have := (List.getElem?_eq_some_iff.mp hb).1
        have := R.len
        omega
      · exact q
/-- a place is written -/
theorem Rep.write (R : Rep K mg m H h) {n : Nat} {a : Addr} {o : MO} {ho : HO} (hn : m[n]? = some a) (q : OR K mg m (upd H a ho) a o) : Rep K mg m (upd H a ho) (h.set n o) := by
  have ha : a ∈ m := List.mem_of_getElem? hn
  refine ⟨by simp [R.len], R.nd, fun x q P h1 h2 => (R.tab x q P h1 h2).mono (Gro.upd_at ha) fun ps e => by rw [upd_ne (fun z => (R.tab x q P h1 h2).out (by rw [z]; exact ha))]; exact e, fun i u b hu hb => ?_⟩
  by_cases hi : n = i
  · subst hi
    rw [hn] at hb
    cases hb
    rw [List.getElem?_set] at hu
    simp only [if_true] at hu
    split at hu
    · cases hu; exact q
    · cases hu
  · rw [List.getElem?_set_ne hi] at hu
    have hba : b ≠ a := fun z => by
      subst z
      obtain ⟨h1, e1⟩ := List.getElem?_eq_some_iff.mp hn
      obtain ⟨h2, e2⟩ := List.getElem?_eq_some_iff.mp hb
      exact hi ((List.getElem_inj R.nd).mp (e1.trans e2.symm))
    exact (R.ob i u b hu hb).mono (Gro.upd_at ha) (upd_ne hba)
theorem Ext.none_of (e : Ext m H m1 H1) (R : Rep K mg m1 H1 h1) {a : Addr} (n : H1 a = none) : H a = none := by
  cases q : H a with
  | none => rfl
  | some o =>
    by_cases ha : a ∈ m
    · obtain ⟨r, rfl⟩ := e.pre
      obtain ⟨u, z⟩ := R.tracked (List.mem_append_left r ha)
      rw [n] at z
      cases z
    · obtain ⟨o1, z⟩ := e.kept a o q ha
      rw [z] at n
      cases n
end
/-! ### results -/
section
variable (K : PySem.W.Frag) (mg : Str → Option Value)
/-- a value in flight: a new list may be nobody's yet -/
inductive Dt (H0 : Hp) (m : List Addr) (H : Hp) : MV → V → Prop
  | v {x : MV} {v : V} : Dv K mg m H x v → Dt H0 m H x v
  | tmp {a : Addr} {vs : List V} {xs : List MV} : H a = some (.lst vs) → a ∉ m → H0 a = none → DvAll K mg m H xs vs → Dt H0 m H (.tmp xs) (.ref a)
def rg {α β : Type} (D : Hp → List Addr → Hp → α → β → Prop) (W : WX) (σ : L2.St) (m : List Addr) (H : Hp) (r : Res α) (Q : β → Hp → Prop) : Prop := match r with
  | .ok a h' => ∀ b m' H', Ext m H m' H' → Rep K mg m' H' h' → D H m' H' a b → Q b H'
  | .exc x h' => ∀ cls d m' H', Ext m H m' H' → Rep K mg m' H' h' → XR K mg m' H' x cls d → W cls d σ H'
  | .stuck => False
abbrev DV : Hp → List Addr → Hp → MV → V → Prop := fun H0 m H x v => Dt K mg H0 m H x v
abbrev DA : Hp → List Addr → Hp → List MV → List V → Prop := fun _ m H xs vs => DvAll K mg m H xs vs
abbrev DB : Hp → List Addr → Hp → Bool → Bool → Prop := fun _ _ _ a b => a = b
def tg {α β : Type} (D : Hp → List Addr → Hp → α → β → Prop) (W : WX) (A : MS → MH → Res α) : L2.St → Hp → (β → Hp → Prop) → Prop := fun σ H Q =>
  ∃ m σm h, Rep K mg m H h ∧ SRel K mg m H σm σ ∧ rg K mg D W σ m H (A σm h) Q
def rs (W : WX) (D : Ends) (m : List Addr) (H : Hp) (r : SR) : Prop := match r with
  | .next σ' h' => ∀ s' m' H', Ext m H m' H' → Rep K mg m' H' h' → SRel K mg m' H' σ' s' → D.nx s' H'
  | .ret v h' => ∀ v' m' H', Ext m H m' H' → Rep K mg m' H' h' → Dt K mg H m' H' v v' → D.rt v' H'
  | .brk σ' h' => ∀ s' m' H', Ext m H m' H' → Rep K mg m' H' h' → SRel K mg m' H' σ' s' → D.bk s' H'
  | .cont σ' h' => ∀ s' m' H', Ext m H m' H' → Rep K mg m' H' h' → SRel K mg m' H' σ' s' → D.ct s' H'
  | .exc x σ' h' => ∀ cls d s' m' H', Ext m H m' H' → Rep K mg m' H' h' → SRel K mg m' H' σ' s' → XR K mg m' H' x cls d → W cls d s' H'
  | .stuck => False
def tgS (W : WX) (A : MSt) : TS := fun D σ H => ∃ m σm h, Rep K mg m H h ∧ SRel K mg m H σm σ ∧ rs K mg W D m H (A σm h)
/-- D may be said of an earlier start -/
structure DM {α β : Type} (D : Hp → List Addr → Hp → α → β → Prop) : Prop where
  back : ∀ {m H m1 H1 h1 m2 H2 a b}, Ext m H m1 H1 → Rep K mg m1 H1 h1 → D H1 m2 H2 a b → D H m2 H2 a b
end
section
variable {K : PySem.W.Frag} {mg : Str → Option Value} {m m1 m2 : List Addr} {H H0 H1 H2 : Hp} {h h1 h2 : MH} {W : WX} {σ : L2.St}
theorem Dt.mono (e : Ext m H m1 H1) {x : MV} {v : V} (d : Dt K mg H0 m H x v) : Dt K mg H0 m1 H1 x v := by
  cases d with
  | v d => exact .v (d.mono e.gro)
  | tmp h1 h2 h3 h4 => exact .tmp (e.keep _ _ h1 (fun _ z => by cases z) h2) (e.out h1 h2) h3 (h4.mono e.gro)
theorem Dt.back (e : Ext m H m1 H1) (R : Rep K mg m1 H1 h1) {x : MV} {v : V} (d : Dt K mg H1 m2 H2 x v) : Dt K mg H m2 H2 x v := by
  cases d with
  | v d => exact .v d
  | tmp h1 h2 h3 h4 => exact .tmp h1 h2 (e.none_of R h3) h4
theorem dmV : DM K mg (DV K mg) := ⟨fun e R d => d.back e R⟩
theorem dmA : DM K mg (DA K mg) := ⟨fun _ _ d => d⟩
theorem dmB : DM K mg DB := ⟨fun _ _ d => d⟩
theorem rg.ext {α β : Type} {D : Hp → List Addr → Hp → α → β → Prop} {r : Res α} {Q : β → Hp → Prop} (dm : DM K mg D) (e : Ext m H m1 H1) (R : Rep K mg m1 H1 h1) (q : rg K mg D W σ m H r Q) : rg K mg D W σ m1 H1 r Q := by
  cases r with
  | ok a h' => exact fun b m' H' e' R' d => q b m' H' (e.trans e') R' (dm.back e R d)
  | exc x h' => exact fun cls d m' H' e' R' x => q cls d m' H' (e.trans e') R' x
  | stuck => exact q
theorem rg.bind {α β γ δ : Type} {D : Hp → List Addr → Hp → α → β → Prop} {D' : Hp → List Addr → Hp → γ → δ → Prop} {r : Res α} {f : α → MH → Res γ} {Q : δ → Hp → Prop} {Q' : β → Hp → Prop} (q : rg K mg D' W σ m H (r.bind f) Q)
    (k : ∀ a h1 b m1 H1, Ext m H m1 H1 → Rep K mg m1 H1 h1 → D H m1 H1 a b → rg K mg D' W σ m H (f a h1) Q → Q' b H1) : rg K mg D W σ m H r Q' := by
  cases r with
  | ok a h' => exact fun b m' H' e' R' d => k a h' b m' H' e' R' d q
  | exc x h' => exact q
  | stuck => exact q
/-- the answer at once -/
theorem rg.here {α β : Type} {D : Hp → List Addr → Hp → α → β → Prop} {a : α} {b : β} {Q : β → Hp → Prop} (q : rg K mg D W σ m H (.ok a h) Q) (R : Rep K mg m H h) (d : D H m H a b) : Q b H := q b m H Ext.refl R d
theorem _root_.L2.PE.imp {X : Cx} {e : Expr} {t t' : TE} (p : PE X e t) (h : ∀ σ H Q, t' σ H Q → t σ H Q) : PE X e t' := ⟨fun pins s σ H Q I q => p.run pins s σ H Q I (h σ H Q q)⟩
theorem _root_.L2.PT.imp {X : Cx} {e : Expr} {t t' : TT} (p : PT X e t) (h : ∀ σ H Q, t' σ H Q → t σ H Q) : PT X e t' := ⟨fun pins s σ H Q I q => p.run pins s σ H Q I (h σ H Q q)⟩
theorem _root_.L2.PW.imp {X : Cx} {e : Expr} {t t' : TT} (p : PW X e t) (h : ∀ σ H Q, t' σ H Q → t σ H Q) : PW X e t' := ⟨fun whole pins s σ H Q I q => p.run whole pins s σ H Q I (h σ H Q q)⟩
theorem _root_.L2.PA.imp {X : Cx} {e : List Expr} {t t' : TA} (p : PA X e t) (h : ∀ σ H Q, t' σ H Q → t σ H Q) : PA X e t' := ⟨fun pos pins s σ H Q I q => p.run pos pins s σ H Q I (h σ H Q q)⟩
theorem _root_.L2.PS.imp {X : Cx} {e : Stmt} {t t' : TS} (p : PS X e t) (h : ∀ D σ H, t' D σ H → t D σ H) : PS X e t' := ⟨fun pins s σ H D I q => p.run pins s σ H D I (h D σ H q)⟩
theorem _root_.L2.PSs.imp {X : Cx} {e : List Stmt} {t t' : TS} (p : PSs X e t) (h : ∀ D σ H, t' D σ H → t D σ H) : PSs X e t' := ⟨fun pins s σ H D I q => p.run pins s σ H D I (h D σ H q)⟩
end
section
variable (K : PySem.W.Frag) (mg : Str → Option Value) (W : WX) (X : Cx)
/-- an expression means A; a test, arguments, a statement, a block -/
abbrev SE (e : Expr) (A : ME) : Prop := PE X e (tg K mg (DV K mg) W A)
abbrev STt (e : Expr) (A : MT) : Prop := PT X e (tg K mg DB W A)
abbrev SWt (e : Expr) (A : MT) : Prop := PW X e (tg K mg DB W A)
abbrev SA (es : List Expr) (A : MA) : Prop := PA X es (tg K mg (DA K mg) W A)
abbrev SS (st : Stmt) (A : MSt) : Prop := PS X st (tgS K mg W A)
abbrev SSs (st : List Stmt) (A : MSt) : Prop := PSs X st (tgS K mg W A)
end
end Mi

set_option maxHeartbeats 400000
/-! ### expressions -/
namespace Mi
open PySem PySem.Spec PyProof.Rows L2
variable [TheW]
def settle (v : MV) (h : MH) : Res MV := match v with
  | .tmp xs => .ok (.ref h.length) (h ++ [.lst xs])
  | v => .ok v h
def eVar (i : Nat) : ME := fun σ h => match σ[i]? with
  | some (some v) => .ok v h
  | _ => .stuck
def eC (v : MV) : ME := fun _ h => .ok v h
def eSet (A : ME) : ME := fun σ h => (A σ h).bind settle
def eUn (op : MV → MH → Res MV) (A : ME) : ME := fun σ h => (A σ h).bind op
def eBin (op : MV → MV → MH → Res MV) (A B : ME) : ME := fun σ h => (A σ h).bind fun x h1 => (B σ h1).bind fun y h2 => op x y h2
def tB (A : ME) : MT := fun σ h => (A σ h).bind fun v h1 => match v with
  | .bl b => .ok b h1
  | _ => .stuck
/-- a list by its items -/
def asL (h : MH) (v : MV) : Option (List MV) := match v with
  | .tmp xs => some xs
  | .con xs => some xs
  | .ref n => match h[n]? with
    | some (.lst xs) => some xs
    | _ => none
  | _ => none
/-- .. that is no script -/
def asL0 (h : MH) (v : MV) : Option (List MV) := match v with
  | .tmp xs => some xs
  | .ref n => match h[n]? with
    | some (.lst xs) => some xs
    | _ => none
  | _ => none
def truM (h : MH) (v : MV) : Option Bool := match v with
  | .non => some false
  | .bl b => some b
  | .int i => some (i != 0)
  | .str x => if x.length ≤ sizeLine then some ((x.length : Int) != 0) else none
  | .tup xs => some (!xs.isEmpty)
  | v => (asL h v).map fun xs => !xs.isEmpty
def tTru (A : ME) : MT := fun σ h => (A σ h).bind fun v h1 => match truM h1 v with
  | some b => .ok b h1
  | none => .stuck
def tAndM (A B : MT) : MT := fun σ h => (A σ h).bind fun b h1 => if b = true then B σ h1 else .ok false h1
def tOrM (A B : MT) : MT := fun σ h => (A σ h).bind fun b h1 => if b = true then .ok true h1 else B σ h1
def tNotM (A : MT) : MT := fun σ h => (A σ h).bind fun b h1 => .ok (!b) h1
def eAnd (A B : ME) : ME := fun σ h => (A σ h).bind fun x h1 => match truM h1 x with
  | some true => B σ h1
  | some false => .ok x h1
  | none => .stuck
def eOr (A B : ME) : ME := fun σ h => (A σ h).bind fun x h1 => match truM h1 x with
  | some true => .ok x h1
  | some false => B σ h1
  | none => .stuck
def eNot (A : ME) : ME := fun σ h => (A σ h).bind fun x h1 => match truM h1 x with
  | some b => .ok (.bl (!b)) h1
  | none => .stuck
def eIf (T : MT) (A B : ME) : ME := fun σ h => (T σ h).bind fun b h1 => if b = true then A σ h1 else B σ h1
def eChain (op op' : MV → MV → MH → Res MV) (A B C : ME) : ME := fun σ h => (A σ h).bind fun x h1 => (B σ h1).bind fun y h2 => (op x y h2).bind fun z h3 => match z with
  | .bl true => (C σ h3).bind fun w h4 => op' y w h4
  | .bl false => .ok (.bl false) h3
  | _ => .stuck
def aNil : MA := fun _ h => .ok [] h
def aCons (A : ME) (R : MA) : MA := fun σ h => (A σ h).bind fun v h1 => (settle v h1).bind fun v h2 => (R σ h2).bind fun vs h3 => .ok (v :: vs) h3
def eTup (A : MA) : ME := fun σ h => (A σ h).bind fun xs h1 => .ok (.tup xs) h1
def eLst (A : MA) : ME := fun σ h => (A σ h).bind fun xs h1 => .ok (.tmp xs) h1
def eCB (f : List MV → MH → Res MV) (A : MA) : ME := fun σ h => (A σ h).bind f
/-- one argument that is only read -/
def eCB1 (f : MV → MH → Res MV) (A : ME) : ME := fun σ h => (A σ h).bind f
def LenA (A : MA) (n : Nat) : Prop := ∀ σ h xs h', A σ h = .ok xs h' → xs.length = n
theorem len_nil : LenA aNil 0 := fun _ _ _ _ e => by cases e; rfl
theorem len_cons {A : ME} {R : MA} {n : Nat} (l : LenA R n) : LenA (aCons A R) (n + 1) := fun σ h xs h' e => by
  unfold aCons at e
  cases q : A σ h with
  | ok v h1 =>
    rw [q, Res.ok_bind] at e
    cases q2 : settle v h1 with
    | ok v2 h2 =>
      rw [q2, Res.ok_bind] at e
      cases q3 : R σ h2 with
      | ok vs h3 =>
        rw [q3, Res.ok_bind] at e
        cases e
        simp [l _ _ _ _ q3]
      | exc x h3 => rw [q3] at e; cases e
      | stuck => rw [q3] at e; cases e
    | exc x h2 => rw [q2] at e; cases e
    | stuck => rw [q2] at e; cases e
  | exc x h1 => rw [q] at e; cases e
  | stuck => rw [q] at e; cases e
section
variable (K : PySem.W.Frag) (mg : Str → Option Value)
/-- readings by the plain meaning -/
def rOp (op : MV → MV → MH → Res MV) : R2 := fun x' y' H Q => ∃ m h x y H0 H1 σ W, Rep K mg m H h ∧ Dt K mg H0 m H x x' ∧ Dt K mg H1 m H y y' ∧ rg K mg (DV K mg) W σ m H (op x y h) Q
def rUn (op : MV → MH → Res MV) : V → Hp → VK → Prop := fun x' H Q => ∃ m h x H0 σ W, Rep K mg m H h ∧ Dt K mg H0 m H x x' ∧ rg K mg (DV K mg) W σ m H (op x h) Q
def rCl (f : List MV → MH → Res MV) : List V → Hp → VK → Prop := fun vs H Q => ∃ m h xs σ W, Rep K mg m H h ∧ DvAll K mg m H xs vs ∧ rg K mg (DV K mg) W σ m H (f xs h) Q
def rCl1 (f : MV → MH → Res MV) : List V → Hp → VK → Prop := fun vs H Q => ∃ m h x v H0 σ W, vs = [v] ∧ Rep K mg m H h ∧ Dt K mg H0 m H x v ∧ rg K mg (DV K mg) W σ m H (f x h) Q
def rMt (f : MV → List MV → MH → Res MV) : V → List V → Hp → VK → Prop := fun v vs H Q => ∃ m h x xs H0 σ W, Rep K mg m H h ∧ Dt K mg H0 m H x v ∧ DvAll K mg m H xs vs ∧ rg K mg (DV K mg) W σ m H (f x xs h) Q
end
section
variable {K : PySem.W.Frag} {mg : Str → Option Value} {m m1 m2 : List Addr} {H H0 H1 H2 : Hp} {h h1 h2 : MH} {W : WX} {σ : L2.St} {X : Cx} {a b c : Expr} {A B C : ME} {T U : MT} {pos : Pos}
/-! #### values -/
theorem Dv.notmp {x : MV} {v : V} (d : Dv K mg m H x v) : ∀ xs, x ≠ .tmp xs := by cases d <;> intro xs e <;> cases e
theorem Dt.dv {x : MV} {v : V} (d : Dt K mg H0 m H x v) (n : ∀ xs, x ≠ .tmp xs) : Dv K mg m H x v := by
  cases d with
  | v d => exact d
  | tmp _ _ _ _ => exact absurd rfl (n _)
theorem settle_notmp {x : MV} (n : ∀ xs, x ≠ .tmp xs) : settle x h = .ok x h := by
  cases x <;> first | rfl | exact absurd rfl (n _)
/-- a new list becomes a place -/
theorem rg.settle {x : MV} {v : V} {Q : VK} {D : Hp → List Addr → Hp → MV → V → Prop} (hD : ∀ {H m H1 x v}, Dv K mg m H1 x v → D H m H1 x v) (e : Ext m H m1 H1) (R : Rep K mg m1 H1 h1) (d : Dt K mg H m1 H1 x v) (q : rg K mg D W σ m H (settle x h1) Q) : Q v H1 := by
  cases d with
  | v d =>
    rw [settle_notmp d.notmp] at q
    exact q v m1 H1 e R (hD d)
  | @tmp a vs xs ha na n0 hv =>
    have e3 : Ext m H (m1 ++ [a]) H1 := by
      obtain ⟨r, hr⟩ := e.pre
      refine ⟨⟨r ++ [a], by rw [hr, List.append_assoc]⟩, e.keep, e.kept, fun b hb nb => ?_, e.frz⟩
      rcases List.mem_append.mp hb with z | z
      · exact e.new b z nb
      · have : b = a := by simpa using z
        rw [this]
        exact n0
    have g : Gro m1 H1 (m1 ++ [a]) H1 := by
      refine ⟨⟨[a], rfl⟩, fun _ _ h _ _ _ _ => h, fun b o hb hl _ nb z => ?_⟩
      rcases List.mem_append.mp z with z | z
      · exact nb z
      · have z' : b = a := by simpa using z
        subst z'
        rw [ha] at hb
        cases hb
        exact hl _ rfl
    exact q (.ref a) (m1 ++ [a]) H1 e3 (R.place na g (fun _ _ => rfl) ⟨vs, ha, hv.mono g⟩ fun _ _ z => z) (hD (.ref (by rw [← R.len]; simp)))
theorem sqt_of {K : PySem.W.Frag} {xs : List MV} {v : V} (d : Dv K mg m H (.tup xs) v) : ∃ a vs, v = .ref a ∧ SqT K H a vs ∧ DvAll K mg m H xs vs := by
  cases d with
  | tup h _ r => exact ⟨_, _, rfl, .inl (.inl h), r⟩
  | tupK h r => exact ⟨_, _, rfl, .inr h, r⟩
theorem Dt.tup {xs : List MV} {v : V} (d : Dt K mg H0 m H (.tup xs) v) : ∃ a vs, v = .ref a ∧ SqT K H a vs ∧ DvAll K mg m H xs vs := sqt_of (d.dv (fun _ => MV.noConfusion))
theorem Dt.asL (R : Rep K mg m H h) {x : MV} {v : V} (d : Dt K mg H0 m H x v) {xs : List MV} (e : asL h x = some xs) : ∃ a vs, v = .ref a ∧ SqL K H a vs ∧ DvAll K mg m H xs vs := by
  cases d with
  | tmp ha na n0 hv => cases e; exact ⟨_, _, rfl, SqL.of ha, hv⟩
  | v d =>
    cases d with
    | @ref n a hn =>
      cases q : h[n]? with
      | none => simp [Mi.asL, q] at e
      | some o =>
        have ob := R.at_ q hn
        cases o with
        | lst ys =>
          have : ys = xs := by simpa [Mi.asL, q] using e
          subst this
          obtain ⟨vs, h1, h2⟩ := ob
          exact ⟨a, vs, rfl, SqL.of h1, h2⟩
        | ins c fs => simp [Mi.asL, q] at e
        | dic kvs => simp [Mi.asL, q] at e
        | dct kvs => simp [Mi.asL, q] at e
        | fdc kvs => simp [Mi.asL, q] at e
        | fct kvs => simp [Mi.asL, q] at e
    | con h1 h2 h3 => cases e; exact ⟨_, _, rfl, .inl (.inr ⟨_, h1⟩), h3⟩
    | conK h1 h3 => cases e; exact ⟨_, _, rfl, .inr h1, h3⟩
    | _ => simp [Mi.asL] at e
theorem Dt.asL0 (R : Rep K mg m H h) {x : MV} {v : V} (d : Dt K mg H0 m H x v) {xs : List MV} (e : asL0 h x = some xs) : ∃ a vs, v = .ref a ∧ H a = some (.lst vs) ∧ DvAll K mg m H xs vs := by
  cases d with
  | tmp ha na n0 hv => cases e; exact ⟨_, _, rfl, ha, hv⟩
  | v d =>
    cases d with
    | @ref n a hn =>
      cases q : h[n]? with
      | none => simp [Mi.asL0, q] at e
      | some o =>
        have ob := R.at_ q hn
        cases o with
        | lst ys =>
          have : ys = xs := by simpa [Mi.asL0, q] using e
          subst this
          obtain ⟨vs, h1, h2⟩ := ob
          exact ⟨a, vs, rfl, h1, h2⟩
        | ins c fs => simp [Mi.asL0, q] at e
        | dic kvs => simp [Mi.asL0, q] at e
        | dct kvs => simp [Mi.asL0, q] at e
        | fdc kvs => simp [Mi.asL0, q] at e
        | fct kvs => simp [Mi.asL0, q] at e
    | _ => simp [Mi.asL0] at e
theorem DvAll.isEmpty {xs : List MV} {vs : List V} (r : DvAll K mg m H xs vs) : vs.isEmpty = xs.isEmpty := by cases r <;> rfl
theorem tru_of (R : Rep K mg m H h) {x : MV} {v : V} (d : Dt K mg H0 m H x v) {b : Bool} (e : truM h x = some b) : TruV K v H b := by
  cases x with
  | non => cases d.dv (fun _ => MV.noConfusion); cases e; rfl
  | bl b => cases d.dv (fun _ => MV.noConfusion); cases e; rfl
  | int i => cases d.dv (fun _ => MV.noConfusion); cases e; rfl
  | str x =>
    cases d.dv (fun _ => MV.noConfusion)
    unfold truM at e
    dsimp only at e
    split at e
    · rename_i hx
      cases e
      exact ⟨hx, rfl⟩
    · cases e
  | tup xs =>
    obtain ⟨a, vs, rfl, h1, h2⟩ := d.tup
    cases e
    exact .inr (.inl ⟨vs, h1, by rw [h2.isEmpty]⟩)
  | tmp xs =>
    obtain ⟨a, vs, rfl, h1, h2⟩ := d.asL R (xs := xs) rfl
    cases e
    exact .inl ⟨vs, h1, by rw [h2.isEmpty]⟩
  | con xs =>
    obtain ⟨a, vs, rfl, h1, h2⟩ := d.asL R (xs := xs) rfl
    cases e
    exact .inl ⟨vs, h1, by rw [h2.isEmpty]⟩
  | ref n =>
    cases q : Mi.asL h (.ref n) with
    | none => simp [truM, q] at e
    | some xs =>
      obtain ⟨a, vs, rfl, h1, h2⟩ := d.asL R q
      have : b = !xs.isEmpty := by simpa [truM, q] using e.symm
      subst this
      exact .inl ⟨vs, h1, by rw [h2.isEmpty]⟩
  | ty n => simp [truM, Mi.asL] at e
  | cls n => simp [truM, Mi.asL] at e
  | fn n => simp [truM, Mi.asL] at e
  | exn c ns vs => simp [truM, Mi.asL] at e
  | lam f c q ys ws => simp [truM, Mi.asL] at e
/-! #### rules -/
theorem se_var {i : Nat} {x : Str} {pos : Pos} (hN : X.N[i]? = some x) (hv : Vis X.env.scope x) (hd : (x == ("__debug__" : Str)) = false := by decide) (hcd : (x == ("__classdict__" : Str)) = false := by decide) : SE K mg W X (.Name x pos) (eVar i) :=
  (pe_var hN hv hd hcd).imp fun σ H Q ⟨m, σm, h, R, S, q⟩ => by
    unfold eVar at q
    cases e : σm[i]? with
    | none => rw [e] at q; exact q.elim
    | some o =>
      cases o with
      | none => rw [e] at q; exact q.elim
      | some v =>
        rw [e] at q
        obtain ⟨v', h1, h2⟩ := S.at_ i v e
        exact ⟨v', h1, rg.here q R (.v h2)⟩
theorem se_int {i j pos} : SE K mg W X (.Constant (.int i) j pos) (eC (.int i)) := pe_int.imp fun σ H Q ⟨m, σm, h, R, S, q⟩ => rg.here q R (.v (.int i))
theorem se_bl {i j pos} : SE K mg W X (.Constant (.bool i) j pos) (eC (.bl i)) := pe_bl.imp fun σ H Q ⟨m, σm, h, R, S, q⟩ => rg.here q R (.v (.bl i))
theorem se_non {j pos} : SE K mg W X (.Constant .none j pos) (eC .non) := pe_non.imp fun σ H Q ⟨m, σm, h, R, S, q⟩ => rg.here q R (.v .non)
theorem se_str {i j pos} : SE K mg W X (.Constant (.str i) j pos) (eC (.str i)) := pe_str.imp fun σ H Q ⟨m, σm, h, R, S, q⟩ => rg.here q R (.v (.str i))
/-- a module's constant -/
theorem se_glob {x : Str} {y : MV} {v : V} {u : Value} {pos : Pos} (hg : Gl X x) (hm : X.mg x = some u) (r : RelV v u) (d : ∀ m H, Dv K mg m H y v) (hd : (x == ("__debug__" : Str)) = false := by decide) : SE K mg W X (.Name x pos) (eC y) :=
  (pe_glob hg hm r hd).imp fun σ H Q ⟨m, σm, h, R, S, q⟩ => rg.here q R (.v (d m H))
theorem se_gint {x : Str} {i : Int} {pos : Pos} (hm : ∃ t, mg x = some (.int i t)) (hg : Gl X x) (hM : X.mg = mg := by rfl) (hd : (x == ("__debug__" : Str)) = false := by decide) : SE K mg W X (.Name x pos) (eC (.int i)) := by
  obtain ⟨t, hm⟩ := hm
  exact se_glob (v := .int i) hg (by rw [hM]; exact hm) ⟨t, rfl⟩ (fun _ _ => .int i) hd
theorem se_gstr {x : Str} {i : Str} {pos : Pos} (hm : ∃ t, mg x = some (.str i t)) (hg : Gl X x) (hM : X.mg = mg := by rfl) (hd : (x == ("__debug__" : Str)) = false := by decide) : SE K mg W X (.Name x pos) (eC (.str i)) := by
  obtain ⟨t, hm⟩ := hm
  exact se_glob (v := .str i) hg (by rw [hM]; exact hm) ⟨t, rfl⟩ (fun _ _ => .str i) hd
theorem se_cls {x : Str} {C : Addr} {pos : Pos} (hm : mg x = some (.ref C)) (hg : Gl X x) (hM : X.mg = mg := by rfl) (hd : (x == ("__debug__" : Str)) = false := by decide) : SE K mg W X (.Name x pos) (eC (.cls x)) :=
  se_glob (v := .ref C) hg (by rw [hM]; exact hm) rfl (fun _ _ => .cls hm) hd
theorem se_fn {x : Str} {C : Addr} {pos : Pos} (hm : mg x = some (.ref C)) (hg : Gl X x) (hM : X.mg = mg := by rfl) (hd : (x == ("__debug__" : Str)) = false := by decide) : SE K mg W X (.Name x pos) (eC (.fn x)) :=
  se_glob (v := .ref C) hg (by rw [hM]; exact hm) rfl (fun _ _ => .fn hm) hd
/-- a built-in class as a value -/
theorem se_ty {x : Str} {n : String} {pos : Pos} (hm : mg x = none) (hg : Gl X x) (hv : bootBuiltins x = some (.type n)) (hM : X.mg = mg := by rfl) (hn : x ≠ "__name__" := by decide) (hd : (x == ("__debug__" : Str)) = false := by decide) : SE K mg W X (.Name x pos) (eC (.ty n)) :=
  (pe_bltn (v := .ty n) hg (by rw [hM]; exact hm) hv rfl hn hd).imp fun σ H Q ⟨m, σm, h, R, S, q⟩ => rg.here q R (.v (.ty n))
theorem se_set (ha : SE K mg W X a A) : SE K mg W X a (eSet A) := ha.imp fun σ H Q ⟨m, σm, h, R, S, q⟩ => by
  refine ⟨m, σm, h, R, S, ?_⟩
  unfold eSet at q
  cases e : A σm h with
  | ok v h1 =>
    rw [e] at q
    exact fun v' m1 H1 e1 R1 d1 => rg.settle (D := DV K mg) (fun d => .v d) e1 R1 d1 q
  | exc x h1 => rw [e] at q; exact q
  | stuck => rw [e] at q; exact q
theorem tg_bin {op : MV → MV → MH → Res MV} {Q : VK} (t : tg K mg (DV K mg) W (eBin op A B) σ H Q) : tOp (rOp K mg op) (tg K mg (DV K mg) W A) (tg K mg (DV K mg) W B) σ H Q := by
  obtain ⟨m, σm, h, R, S, q⟩ := t
  refine ⟨m, σm, h, R, S, rg.bind q fun x h1 x' m1 H1 e1 R1 d1 q1 => ?_⟩
  refine ⟨m1, σm, h1, R1, S.mono e1.gro, rg.bind (rg.ext dmV e1 R1 q1) fun y h2 y' m2 H2 e2 R2 d2 q2 => ?_⟩
  exact ⟨m2, h2, x, y, H, H1, σ, W, R2, d1.mono e2, d2, rg.ext dmV e2 R2 q2⟩
theorem tg_un {op : MV → MH → Res MV} {Q : VK} (t : tg K mg (DV K mg) W (eUn op A) σ H Q) : tUn (rUn K mg op) (tg K mg (DV K mg) W A) σ H Q := by
  obtain ⟨m, σm, h, R, S, q⟩ := t
  refine ⟨m, σm, h, R, S, rg.bind q fun x h1 x' m1 H1 e1 R1 d1 q1 => ?_⟩
  exact ⟨m1, h1, x, H, σ, W, R1, d1, rg.ext dmV e1 R1 q1⟩
theorem se_op {o : Operator} {op : MV → MV → MH → Res MV} (hop : OpR X (binaryOp o) (rOp K mg op)) (ha : SE K mg W X a A) (hb : SE K mg W X b B) : SE K mg W X (.BinOp a o b pos) (eBin op A B) := (pe_op hop ha hb).imp fun _ _ _ => tg_bin
theorem se_un {o : UnaryOp} {op : MV → MH → Res MV} (hop : UnR X (unaryOp o) (rUn K mg op)) (ha : SE K mg W X a A) : SE K mg W X (.UnaryOp o a pos) (eUn op A) := (pe_un hop ha).imp fun _ _ _ => tg_un
theorem se_cmp {o : CmpOp} {op : MV → MV → MH → Res MV} (hop : OpR X (compareOp o) (rOp K mg op)) (ha : SE K mg W X a A) (hb : SE K mg W X b B) (hm : behindInMarks o b = false) : SE K mg W X (.Compare a [o] [b] pos) (eBin op A B) := (pe_cmpR hop ha hb hm).imp fun _ _ _ => tg_bin
theorem se_ix {op : MV → MV → MH → Res MV} (hop : IxR X (rOp K mg op)) (ha : SE K mg W X a A) (hb : SE K mg W X b B) (hs : PlainIx b) : SE K mg W X (.Subscript a b pos) (eBin op A B) := (pe_ix hop ha hb hs).imp fun _ _ _ => tg_bin
/-- a value that is a bool, as a test -/
theorem tg_test {Q : Bool → Hp → Prop} (t : tg K mg DB W (tB A) σ H Q) : tTest (tg K mg (DV K mg) W A) σ H Q := by
  obtain ⟨m, σm, h, R, S, q⟩ := t
  refine ⟨m, σm, h, R, S, rg.bind q fun x h1 x' m1 H1 e1 R1 d1 q1 => ?_⟩
  cases x with
  | bl b =>
    cases d1.dv (fun _ => MV.noConfusion)
    exact ⟨b, rfl, q1 b m1 H1 e1 R1 rfl⟩
  | _ => exact q1.elim
theorem tg_tB {Q : Bool → Hp → Prop} (t : tg K mg DB W (tB A) σ H Q) : tg K mg (DV K mg) W A σ H (fun x H' => ∃ k, x = .bl k ∧ Q k H') := tg_test t
theorem st_cmp {o : CmpOp} {op : MV → MV → MH → Res MV} (hop : OpR X (compareOp o) (rOp K mg op)) (ha : SE K mg W X a A) (hb : SE K mg W X b B) (hm : behindInMarks o b = false) : STt K mg W X (.Compare a [o] [b] pos) (tB (eBin op A B)) := (pt_cmpR hop ha hb hm).imp fun _ _ _ t => tg_bin (tg_tB t)
theorem tg_chain {op op' : MV → MV → MH → Res MV} {Q : VK} (t : tg K mg (DV K mg) W (eChain op op' A B C) σ H Q) : tChain (rOp K mg op) (rOp K mg op') (tg K mg (DV K mg) W A) (tg K mg (DV K mg) W B) (tg K mg (DV K mg) W C) σ H Q := by
  obtain ⟨m, σm, h, R, S, q⟩ := t
  refine ⟨m, σm, h, R, S, rg.bind q fun x h1 x' m1 H1 e1 R1 d1 q1 => ?_⟩
  refine ⟨m1, σm, h1, R1, S.mono e1.gro, rg.bind (rg.ext dmV e1 R1 q1) fun y h2 y' m2 H2 e2 R2 d2 q2 => ?_⟩
  refine ⟨m2, h2, x, y, H, H1, σ, W, R2, d1.mono e2, d2, rg.bind (rg.ext dmV e2 R2 q2) fun z h3 z' m3 H3 e3 R3 d3 q3 => ?_⟩
  cases z with
  | bl b =>
    cases d3.dv (fun _ => MV.noConfusion)
    refine ⟨b, rfl, ?_⟩
    cases b with
    | true =>
      rw [if_pos rfl]
      refine ⟨m3, σm, h3, R3, ((S.mono e1.gro).mono e2.gro).mono e3.gro, rg.bind (rg.ext dmV e3 R3 q3) fun w h4 w' m4 H4 e4 R4 d4 q4 => ?_⟩
      exact ⟨m4, h4, y, w, H1, H3, σ, W, R4, (d2.mono e3).mono e4, d4, rg.ext dmV e4 R4 q4⟩
    | false =>
      rw [if_neg Bool.false_ne_true]
      exact q3 _ _ _ e3 R3 (.v (.bl false))
  | _ => exact q3.elim
theorem se_chain {o o' : CmpOp} {op op' : MV → MV → MH → Res MV} (hop : OpR X (compareOp o) (rOp K mg op)) (hop' : OpR X (compareOp o') (rOp K mg op')) (ha : SE K mg W X a A) (hb : SE K mg W X b B) (hc : SE K mg W X c C)
    (hm : lastMarks [o, o'] [b, c] = false := by with_unfolding_all rfl) : SE K mg W X (.Compare a [o, o'] [b, c] pos) (eChain op op' A B C) := (pe_chain hop hop' ha hb hc hm).imp fun _ _ _ => tg_chain
theorem st_chain {o o' : CmpOp} {op op' : MV → MV → MH → Res MV} (hop : OpR X (compareOp o) (rOp K mg op)) (hop' : OpR X (compareOp o') (rOp K mg op')) (ha : SE K mg W X a A) (hb : SE K mg W X b B) (hc : SE K mg W X c C)
    (hm : lastMarks [o, o'] [b, c] = false := by with_unfolding_all rfl) : STt K mg W X (.Compare a [o, o'] [b, c] pos) (tB (eChain op op' A B C)) := (pt_chain hop hop' ha hb hc hm).imp fun _ _ _ t => tg_chain (tg_tB t)
/-- any other expression as a test -/
theorem st_tru (ha : SE K mg W X a A) (he : ∀ whole, isTrue a X.env whole = (do let v ← whole; standAt a.pos; holding [v] (truthy v)) := by intro _; rfl) (hK : X.K = K := by rfl) : STt K mg W X a (tTru A) := (pt_truth ha he).imp fun σ H Q ⟨m, σm, h, R, S, q⟩ => by
  refine ⟨m, σm, h, R, S, rg.bind q fun x h1 x' m1 H1 e1 R1 d1 q1 => ?_⟩
  cases e : truM h1 x with
  | none => rw [e] at q1; exact q1.elim
  | some b =>
    rw [e] at q1
    exact ⟨b, by rw [hK]; exact tru_of R1 d1 e, q1 b m1 H1 e1 R1 rfl⟩
theorem st_not (ha : STt K mg W X a T) : STt K mg W X (.UnaryOp .Not a pos) (tNotM T) := (pt_not ha).imp fun σ H Q ⟨m, σm, h, R, S, q⟩ =>
  ⟨m, σm, h, R, S, rg.bind q fun x h1 x' m1 H1 e1 R1 d1 q1 => q1 _ m1 H1 e1 R1 (congrArg not (show x = x' from d1))⟩
theorem sw_and1 (ha : STt K mg W X a T) : SWt K mg W X (.BoolOp .And [a] pos) T := pw_and1 ha
theorem sw_or1 (ha : STt K mg W X a T) : SWt K mg W X (.BoolOp .Or [a] pos) T := pw_or1 ha
theorem sw_and {r : List Expr} (ha : STt K mg W X a T) (hb : SWt K mg W X (.BoolOp .And (b :: r) pos) U) : SWt K mg W X (.BoolOp .And (a :: b :: r) pos) (tAndM T U) := (pw_and ha hb).imp fun σ H Q ⟨m, σm, h, R, S, q⟩ => by
  refine ⟨m, σm, h, R, S, rg.bind q fun x h1 x' m1 H1 e1 R1 d1 q1 => ?_⟩
  cases (show x = x' from d1)
  cases x with
  | true => exact ⟨m1, σm, h1, R1, S.mono e1.gro, rg.ext dmB e1 R1 q1⟩
  | false => exact q1 false m1 H1 e1 R1 rfl
theorem sw_or {r : List Expr} (ha : STt K mg W X a T) (hb : SWt K mg W X (.BoolOp .Or (b :: r) pos) U) : SWt K mg W X (.BoolOp .Or (a :: b :: r) pos) (tOrM T U) := (pw_or ha hb).imp fun σ H Q ⟨m, σm, h, R, S, q⟩ => by
  refine ⟨m, σm, h, R, S, rg.bind q fun x h1 x' m1 H1 e1 R1 d1 q1 => ?_⟩
  cases (show x = x' from d1)
  cases x with
  | true => exact q1 true m1 H1 e1 R1 rfl
  | false => exact ⟨m1, σm, h1, R1, S.mono e1.gro, rg.ext dmB e1 R1 q1⟩
theorem SWt.pt (h : SWt K mg W X a T) : STt K mg W X a T := PW.pt h
theorem se_one {op} (ha : SE K mg W X a A) : SE K mg W X (.BoolOp op [a] pos) A := pe_one ha
theorem se_and {r : List Expr} (ha : SE K mg W X a A) (hb : SE K mg W X (.BoolOp .And (b :: r) pos) B) (hK : X.K = K := by rfl) : SE K mg W X (.BoolOp .And (a :: b :: r) pos) (eAnd A B) := (pe_andT ha hb).imp fun σ H Q ⟨m, σm, h, R, S, q⟩ => by
  refine ⟨m, σm, h, R, S, rg.bind q fun x h1 x' m1 H1 e1 R1 d1 q1 => ?_⟩
  cases e : truM h1 x with
  | none => rw [e] at q1; exact q1.elim
  | some b =>
    rw [e] at q1
    refine ⟨b, by rw [hK]; exact tru_of R1 d1 e, ?_⟩
    cases b with
    | true => exact ⟨m1, σm, h1, R1, S.mono e1.gro, rg.ext dmV e1 R1 q1⟩
    | false => exact q1 x' m1 H1 e1 R1 d1
theorem se_or {r : List Expr} (ha : SE K mg W X a A) (hb : SE K mg W X (.BoolOp .Or (b :: r) pos) B) (hK : X.K = K := by rfl) : SE K mg W X (.BoolOp .Or (a :: b :: r) pos) (eOr A B) := (pe_orT ha hb).imp fun σ H Q ⟨m, σm, h, R, S, q⟩ => by
  refine ⟨m, σm, h, R, S, rg.bind q fun x h1 x' m1 H1 e1 R1 d1 q1 => ?_⟩
  cases e : truM h1 x with
  | none => rw [e] at q1; exact q1.elim
  | some b =>
    rw [e] at q1
    refine ⟨b, by rw [hK]; exact tru_of R1 d1 e, ?_⟩
    cases b with
    | true => exact q1 x' m1 H1 e1 R1 d1
    | false => exact ⟨m1, σm, h1, R1, S.mono e1.gro, rg.ext dmV e1 R1 q1⟩
theorem se_not (ha : SE K mg W X a A) (hK : X.K = K := by rfl) : SE K mg W X (.UnaryOp .Not a pos) (eNot A) := (pe_notT ha).imp fun σ H Q ⟨m, σm, h, R, S, q⟩ => by
  refine ⟨m, σm, h, R, S, rg.bind q fun x h1 x' m1 H1 e1 R1 d1 q1 => ?_⟩
  cases e : truM h1 x with
  | none => rw [e] at q1; exact q1.elim
  | some b =>
    rw [e] at q1
    exact ⟨b, by rw [hK]; exact tru_of R1 d1 e, q1 _ m1 H1 e1 R1 (.v (.bl _))⟩
theorem se_if (hc : STt K mg W X c T) (ha : SE K mg W X a A) (hb : SE K mg W X b B) : SE K mg W X (.IfExp c a b pos) (eIf T A B) := (pe_ifExp hc ha hb).imp fun σ H Q ⟨m, σm, h, R, S, q⟩ => by
  refine ⟨m, σm, h, R, S, rg.bind q fun x h1 x' m1 H1 e1 R1 d1 q1 => ?_⟩
  cases (show x = x' from d1)
  cases x with
  | true => exact ⟨m1, σm, h1, R1, S.mono e1.gro, rg.ext dmV e1 R1 q1⟩
  | false => exact ⟨m1, σm, h1, R1, S.mono e1.gro, rg.ext dmV e1 R1 q1⟩
/-! #### argument lists, displays, calls of built-ins -/
variable {AL : MA} {es : List Expr}
theorem sa_nil : SA K mg W X [] aNil := pa_nil.imp fun σ H Q ⟨m, σm, h, R, S, q⟩ => rg.here (D := DA K mg) q R .nil
theorem sa_cons (ha : SE K mg W X a A) (hr : SA K mg W X es AL) (hs : starEach (a :: es) X.env = (false, eval a X.env) :: starEach es X.env := by rfl) : SA K mg W X (a :: es) (aCons A AL) := (pa_cons (se_set ha) hr hs).imp fun σ H Q ⟨m, σm, h, R, S, q⟩ => by
  have q' : rg K mg (DA K mg) W σ m H ((eSet A σm h).bind fun v h2 => (AL σm h2).bind fun vs h3 => .ok (v :: vs) h3) Q := by
    unfold eSet
    unfold aCons at q
    cases e : A σm h with
    | ok v h1 => rw [e] at q; exact q
    | exc x h1 => rw [e] at q; exact q
    | stuck => rw [e] at q; exact q
  have ns : ∀ {x : MV} {h1 : MH}, eSet A σm h = .ok x h1 → ∀ xs, x ≠ .tmp xs := fun {x h1} e xs z => by
    unfold eSet at e
    cases e1 : A σm h with
    | ok v h2 =>
      rw [e1, Res.ok_bind] at e
      cases v <;> (cases e; cases z)
    | exc x h1 => rw [e1] at e; cases e
    | stuck => rw [e1] at e; cases e
  refine ⟨m, σm, h, R, S, ?_⟩
  cases e : eSet A σm h with
  | ok x h1 =>
    rw [e] at q'
    intro x' m1 H1 e1 R1 d1
    have d1' := d1.dv (ns e)
    refine ⟨m1, σm, h1, R1, S.mono e1.gro, rg.bind (rg.ext dmA e1 R1 q') fun vs h2 vs' m2 H2 e2 R2 d2 q2 => ?_⟩
    exact q2 _ m2 H2 e2 R2 (.cons (d1'.mono e2.gro) d2)
  | exc x h1 => rw [e] at q'; exact q'
  | stuck => rw [e] at q'; exact q'
theorem se_tup {x1} {n : Nat} (ha : SA K mg W X es AL) (l : LenA AL n) (hn : n ≤ 1000 := by decide) : SE K mg W X (.Tuple es x1 pos) (eTup AL) := (pe_tup ha).imp fun σ H Q ⟨m, σm, h, R, S, q⟩ => by
  refine ⟨m, σm, h, R, S, ?_⟩
  unfold eTup at q
  cases e : AL σm h with
  | ok xs h1 =>
    rw [e] at q
    intro vs m1 H1 e1 R1 d1
    have hl : vs.length ≤ sizeLine := by
      rw [← DvAll.length d1, l _ _ _ _ e, sizeLine_eq]
      omega
    refine ⟨hl, fun p np => q (.ref p) m1 _ (e1.trans (Ext.upd_new np)) (R1.lay np) (.v (.tup upd_same (R1.out np) (DvAll.mono (Ext.upd_new np).gro d1)))⟩
  | exc x h1 => rw [e] at q; exact q
  | stuck => rw [e] at q; exact q
theorem se_lst {n : Nat} (ha : SA K mg W X es AL) (l : LenA AL n) (hn : n ≤ 1000 := by decide) : SE K mg W X (.List es pos) (eLst AL) := (pe_lst ha).imp fun σ H Q ⟨m, σm, h, R, S, q⟩ => by
  refine ⟨m, σm, h, R, S, ?_⟩
  unfold eLst at q
  cases e : AL σm h with
  | ok xs h1 =>
    rw [e] at q
    intro vs m1 H1 e1 R1 d1
    have hl : vs.length ≤ sizeLine := by
      rw [← DvAll.length d1, l _ _ _ _ e, sizeLine_eq]
      omega
    refine ⟨hl, fun p np => q (.ref p) m1 _ (e1.trans (Ext.upd_new np)) (R1.lay np) (.tmp upd_same (R1.out np) (e1.none_of R1 np) (DvAll.mono (Ext.upd_new np).gro d1))⟩
  | exc x h1 => rw [e] at q; exact q
  | stuck => rw [e] at q; exact q
variable {x : Str} {id T' : String} {p : Pos} {es' : List Expr} {e : Expr}
theorem tg_cb {f : List MV → MH → Res MV} {Q : VK} (t : tg K mg (DV K mg) W (eCB f AL) σ H Q) : tCB (rCl K mg f) (tg K mg (DA K mg) W AL) σ H Q := by
  obtain ⟨m, σm, h, R, S, q⟩ := t
  refine ⟨m, σm, h, R, S, rg.bind q fun xs h1 vs m1 H1 e1 R1 d1 q1 => ?_⟩
  exact ⟨m1, h1, xs, σ, W, R1, d1, rg.ext dmV e1 R1 q1⟩
theorem se_callB {f : List MV → MH → Res MV} (hc : CallR X (.builtin id) (rCl K mg f)) (hm : mg x = none) (hv : bootBuiltins x = some (.builtin id)) (hg : Gl X x) (ha : SA K mg W X (e :: es) AL) (hM : X.mg = mg := by rfl) (hn : x ≠ "__name__" := by decide) (hdb : (x == ("__debug__" : Str)) = false := by decide)
    (he : starEach (e :: es) X.env = (false, eval e X.env) :: starEach es X.env := by rfl) (hpl : (backTo pos (starEach es X.env)).any (·.1) = false := by rfl) : SE K mg W X (.Call (.Name x p) (e :: es) [] pos) (eCB f AL) := (pe_callB hc hg (by rw [hM]; exact hm) hv ha hn hdb he hpl).imp fun _ _ _ => tg_cb
theorem se_callTy {f : List MV → MH → Res MV} (hc : CallR X (.type id) (rCl K mg f)) (hm : mg x = none) (hv : bootBuiltins x = some (.type id)) (hg : Gl X x) (ha : SA K mg W X (e :: es) AL) (hM : X.mg = mg := by rfl) (hn : x ≠ "__name__" := by decide) (hdb : (x == ("__debug__" : Str)) = false := by decide)
    (he : starEach (e :: es) X.env = (false, eval e X.env) :: starEach es X.env := by rfl) (hpl : (backTo pos (starEach es X.env)).any (·.1) = false := by rfl) : SE K mg W X (.Call (.Name x p) (e :: es) [] pos) (eCB f AL) := (pe_callTy hc hg (by rw [hM]; exact hm) hv ha hn hdb he hpl).imp fun _ _ _ => tg_cb
/-- one argument, which may be a new list -/
theorem tg_cb1 {f : MV → MH → Res MV} {Q : VK} (t : tg K mg (DV K mg) W (eCB1 f A) σ H Q) : tCB (rCl1 K mg f) (tCons (tg K mg (DV K mg) W A) tNil) σ H Q := by
  obtain ⟨m, σm, h, R, S, q⟩ := t
  refine ⟨m, σm, h, R, S, rg.bind q fun x h1 x' m1 H1 e1 R1 d1 q1 => ?_⟩
  exact ⟨m1, h1, x, x', H, σ, W, rfl, R1, d1, rg.ext dmV e1 R1 q1⟩
theorem se_callB1 {f : MV → MH → Res MV} (hc : CallR X (.builtin id) (rCl1 K mg f)) (hm : mg x = none) (hv : bootBuiltins x = some (.builtin id)) (hg : Gl X x) (ha : SE K mg W X e A) (hM : X.mg = mg := by rfl) (hn : x ≠ "__name__" := by decide) (hdb : (x == ("__debug__" : Str)) = false := by decide)
    (he : starEach [e] X.env = (false, eval e X.env) :: starEach [] X.env := by rfl) : SE K mg W X (.Call (.Name x p) [e] [] pos) (eCB1 f A) := (pe_callB hc hg (by rw [hM]; exact hm) hv (pa_cons ha pa_nil he) hn hdb he rfl).imp fun _ _ _ => tg_cb1
theorem se_callTy1 {f : MV → MH → Res MV} (hc : CallR X (.type id) (rCl1 K mg f)) (hm : mg x = none) (hv : bootBuiltins x = some (.type id)) (hg : Gl X x) (ha : SE K mg W X e A) (hM : X.mg = mg := by rfl) (hn : x ≠ "__name__" := by decide) (hdb : (x == ("__debug__" : Str)) = false := by decide)
    (he : starEach [e] X.env = (false, eval e X.env) :: starEach [] X.env := by rfl) : SE K mg W X (.Call (.Name x p) [e] [] pos) (eCB1 f A) := (pe_callTy hc hg (by rw [hM]; exact hm) hv (pa_cons ha pa_nil he) hn hdb he rfl).imp fun _ _ _ => tg_cb1
end
end Mi

set_option maxHeartbeats 400000
/-! ### operators and built-ins, by values -/
namespace Mi
open PySem PySem.Spec PyProof.Rows L2
variable [TheW]
/-! #### data -/
/-- a value as data: numbers, texts, lists, tuples; fuel for the depth -/
def snap : Nat → MH → MV → Option PyData
  | 0, _, _ => none
  | n + 1, h, v => match v with
    | .non => some .none
    | .bl b => some (.bool b)
    | .int i => some (.int i)
    | .str x => some (.str x)
    | .tup xs => (xs.mapM (snap n h)).map .tuple
    | .tmp xs => (xs.mapM (snap n h)).map .list
    | .con xs => (xs.mapM (snap n h)).map .list
    | .ref k => match h[k]? with
      | some (.lst xs) => (xs.mapM (snap n h)).map .list
      | _ => none
    | _ => none
section
variable {K : PySem.W.Frag} {mg : Str → Option Value} {m : List Addr} {H H0 H1 : Hp} {h : MH}
theorem mapM_cons {α β : Type} {f : α → Option β} {x : α} {xs : List α} {ys : List β} (e : (x :: xs).mapM f = some ys) : ∃ y zs, f x = some y ∧ xs.mapM f = some zs ∧ ys = y :: zs := by
  rw [List.mapM_cons] at e
  cases q : f x with
  | none => rw [q] at e; cases e
  | some y =>
    rw [q] at e
    cases q2 : xs.mapM f with
    | none => rw [q2] at e; cases e
    | some zs =>
      rw [q2] at e
      cases e
      exact ⟨y, zs, rfl, rfl, rfl⟩
/-- what is said of the data -/
structure DpM (K : PySem.W.Frag) (H : Hp) (n : Nat) (v : V) (d : PyData) : Prop where
  dp : Dp K H v d
  pl : d.plain = true
  dep : d.depth ≤ n
  nd : d.hasDict = false
theorem snap_all {n : Nat} (ih : ∀ {x : MV} {v : V} {d : PyData}, Dv K mg m H x v → snap n h x = some d → DpM K H n v d) : ∀ {xs : List MV} {vs : List V} {ds : List PyData}, DvAll K mg m H xs vs → xs.mapM (snap n h) = some ds → DpAll K H vs ds ∧ PyData.plainAll ds = true ∧ PyData.depthAll ds ≤ n ∧ PyData.hasDictAll ds = false
  | _, _, ds, .nil, e => by
    cases e
    exact ⟨.nil, rfl, Nat.zero_le _, rfl⟩
  | _, _, ds, .cons d r, e => by
    obtain ⟨y, zs, e1, e2, rfl⟩ := mapM_cons e
    obtain ⟨h1, h2, h3, h4⟩ := snap_all ih r e2
    obtain ⟨k1, k2, k3, k4⟩ := ih d e1
    refine ⟨.cons k1 h1, by simp [PyData.plainAll, k2, h2], ?_, by simp [PyData.hasDictAll, k4, h4]⟩
    simp only [PyData.depthAll]
    omega
theorem snap_dv (R : Rep K mg m H h) : ∀ {n : Nat} {x : MV} {v : V} {d : PyData}, Dv K mg m H x v → snap n h x = some d → DpM K H n v d
  | 0, _, _, _, _, e => by cases e
  | n + 1, x, v, d, dx, e => by
    have ih := @snap_dv R n
    have lstc : ∀ {xs : List MV} {vs : List V} {a : Addr}, DvAll K mg m H xs vs → SqL K H a vs → (xs.mapM (snap n h)).map PyData.list = some d → DpM K H (n + 1) (.ref a) d := fun {xs vs a} r s q => by
      cases q2 : xs.mapM (snap n h) with
      | none => rw [q2] at q; cases q
      | some ds =>
        rw [q2] at q
        cases q
        obtain ⟨h1, h2, h3, h4⟩ := snap_all ih r q2
        exact ⟨.lst s h1, by simpa [PyData.plain] using h2, by simp only [PyData.depth]; omega, by simpa [PyData.hasDict] using h4⟩
    cases x with
    | non => cases dx; cases e; exact ⟨.non, rfl, Nat.zero_le _, rfl⟩
    | bl b => cases dx; cases e; exact ⟨.bl b, rfl, Nat.zero_le _, rfl⟩
    | int i => cases dx; cases e; exact ⟨.int i, rfl, Nat.zero_le _, rfl⟩
    | str s => cases dx; cases e; exact ⟨.str s, rfl, Nat.zero_le _, rfl⟩
    | tup xs =>
      obtain ⟨a, vs, rfl, s, r⟩ := sqt_of dx
      have q : (xs.mapM (snap n h)).map PyData.tuple = some d := e
      cases q2 : xs.mapM (snap n h) with
      | none => rw [q2] at q; cases q
      | some ds =>
        rw [q2] at q
        cases q
        obtain ⟨h1, h2, h3, h4⟩ := snap_all ih r q2
        exact ⟨.tup s h1, by simpa [PyData.plain] using h2, by simp only [PyData.depth]; omega, by simpa [PyData.hasDict] using h4⟩
    | tmp xs => exact absurd rfl (dx.notmp xs)
    | con xs =>
      cases dx with
      | con h1 h2 h3 => exact lstc h3 (.inl (.inr ⟨_, h1⟩)) e
      | conK h1 h3 => exact lstc h3 (.inr h1) e
    | ref k =>
      cases dx with
      | @ref _ a hk =>
        have q : (match h[k]? with | some (.lst xs) => (xs.mapM (snap n h)).map PyData.list | _ => none) = some d := e
        cases q1 : h[k]? with
        | none => rw [q1] at q; cases q
        | some o =>
          rw [q1] at q
          have ob := R.at_ q1 hk
          cases o with
          | lst xs => obtain ⟨vs, h1, h2⟩ := ob; exact lstc h2 (SqL.of h1) q
          | ins c fs => cases q
          | dic kvs => cases q
          | dct kvs => cases q
          | fdc kvs => cases q
          | fct kvs => cases q
    | ty n => cases e
    | cls c => cases e
    | fn c => cases e
    | exn c ns vs => cases e
    | lam f c q ys ws => cases e
theorem snap_dt (R : Rep K mg m H h) {n : Nat} {x : MV} {v : V} {d : PyData} (dx : Dt K mg H0 m H x v) (e : snap n h x = some d) : DpM K H n v d := by
  cases dx with
  | v dx => exact snap_dv R dx e
  | @tmp a vs xs ha na n0 hv =>
    cases n with
    | zero => cases e
    | succ n =>
      have q : (xs.mapM (snap n h)).map PyData.list = some d := e
      cases q2 : xs.mapM (snap n h) with
      | none => rw [q2] at q; cases q
      | some ds =>
        rw [q2] at q
        cases q
        obtain ⟨h1, h2, h3, h4⟩ := snap_all (fun dx e => snap_dv R dx e) hv q2
        exact ⟨.lst (SqL.of ha) h1, by simpa [PyData.plain] using h2, by simp only [PyData.depth]; omega, by simpa [PyData.hasDict] using h4⟩
end
/-! #### operators -/
def addM (x y : MV) (h : MH) : Res MV := match x, y with
  | .int i, .int j => .ok (.int (i + j)) h
  | .str a, .str b => if a.length + b.length ≤ sizeLine then .ok (.str (a ++ b)) h else .stuck
  | .tup xs, .tup ys => if xs.length + ys.length ≤ sizeLine then .ok (.tup (xs ++ ys)) h else .stuck
  | x, y => match asL0 h x, asL0 h y with
    | some xs, some ys => if xs.length + ys.length ≤ sizeLine then .ok (.tmp (xs ++ ys)) h else .stuck
    | _, _ => .stuck
def subM (x y : MV) (h : MH) : Res MV := match x, y with
  | .int i, .int j => .ok (.int (i - j)) h
  | _, _ => .stuck
noncomputable def mulM (x y : MV) (h : MH) : Res MV := match x, y with
  | .int i, .int j => @ite _ ((-(2 ^ 64) < i ∧ i < 2 ^ 64) ∨ (-(2 ^ 64) < j ∧ j < 2 ^ 64)) (Classical.propDecidable _) (.ok (.int (i * j)) h) .stuck
  | .str a, .int j => if a.length * j.toNat ≤ 100000 ∧ j ≤ 100000 ∧ -100000 ≤ j then .ok (.str (Txt.mul a j)) h else .stuck
  | .tup xs, .int j => if xs ≠ [] ∧ 2 ≤ j ∧ j ≤ 1000 ∧ xs.length ≤ 1000 then .ok (.tup (List.replicate j.toNat xs).flatten) h else .stuck
  | x, .int j => match asL0 h x with
    | some xs => if -(2 ^ 63) ≤ j ∧ j < 2 ^ 63 ∧ xs.length * j.toNat ≤ sizeLine then .ok (.tmp (List.replicate j.toNat xs).flatten) h else .stuck
    | none => .stuck
  | _, _ => .stuck
def modM (x y : MV) (h : MH) : Res MV := match x, y with
  | .int i, .int j => if j ≠ 0 then .ok (.int (i.fmod j)) h else .stuck
  | _, _ => .stuck
def fdivM (x y : MV) (h : MH) : Res MV := match x, y with
  | .int i, .int j => if j ≠ 0 ∧ j.natAbs < 1073741824 then .ok (.int (i.fdiv j)) h else .stuck
  | _, _ => .stuck
def powM (x y : MV) (h : MH) : Res MV := match x, y with
  | .int i, .int j => if 0 ≤ j ∧ j ≤ 1000000 ∧ i.natAbs < 2 ^ 64 then .ok (.int (i ^ j.toNat)) h else .stuck
  | _, _ => .stuck
def negM (x : MV) (h : MH) : Res MV := match x with
  | .int i => .ok (.int (-i)) h
  | _ => .stuck
/-- two lists of unlike lengths -/
def farL (h : MH) (x y : MV) : Bool := match asL h x, asL h y with
  | some xs, some ys => xs.length != ys.length
  | _, _ => false
def eqM (x y : MV) (h : MH) : Res MV := if farL h x y = true then .ok (.bl false) h else match snap 30 h x, snap 30 h y with
  | some d, some e => .ok (.bl (PyData.eqv d e)) h
  | _, _ => .stuck
def neM (x y : MV) (h : MH) : Res MV := if farL h x y = true then .ok (.bl true) h else match snap 30 h x, snap 30 h y with
  | some d, some e => .ok (.bl (!PyData.eqv d e)) h
  | _, _ => .stuck
def ltM (x y : MV) (h : MH) : Res MV := match x, y with
  | .int i, .int j => .ok (.bl (decide (i < j))) h
  | .str a, .str b => .ok (.bl (decide (a.cps.toList < b.cps.toList))) h
  | _, _ => .stuck
def leM (x y : MV) (h : MH) : Res MV := match x, y with
  | .int i, .int j => .ok (.bl (decide (i ≤ j))) h
  | .str a, .str b => .ok (.bl (!decide (b.cps.toList < a.cps.toList))) h
  | _, _ => .stuck
def gtM (x y : MV) (h : MH) : Res MV := match x, y with
  | .int i, .int j => .ok (.bl (decide (j < i))) h
  | .str a, .str b => .ok (.bl (decide (b.cps.toList < a.cps.toList))) h
  | _, _ => .stuck
def geM (x y : MV) (h : MH) : Res MV := match x, y with
  | .int i, .int j => .ok (.bl (decide (j ≤ i))) h
  | .str a, .str b => .ok (.bl (!decide (a.cps.toList < b.cps.toList))) h
  | _, _ => .stuck
/-- a text within a text -/
def inStr (a b : Str) : Bool := !(Builtin.Str.occurrences b a 0 b.length 1).isEmpty
def inM (x y : MV) (h : MH) : Res MV := match x, y with
  | .str a, .str b => .ok (.bl (inStr a b)) h
  | x, .tup ys => match snap 30 h x, snap 30 h (.tup ys) with
    | some d, some (.tuple es) => .ok (.bl (es.any fun z => PyData.eqv z d)) h
    | _, _ => .stuck
  | x, y => match snap 30 h x, snap 30 h y with
    | some d, some (.list es) => .ok (.bl (es.any fun z => PyData.eqv z d)) h
    | _, _ => .stuck
def notInM (x y : MV) (h : MH) : Res MV := (inM x y h).bind fun v h => match v with
  | .bl b => .ok (.bl (!b)) h
  | _ => .stuck
def isNonM : MV → Bool
  | .non => true
  | _ => false
def isBl (x : MV) (b : Bool) : Option Bool := match x with
  | .bl a => some (decide (a = b))
  | _ => none
def isM (x y : MV) (h : MH) : Res MV := match y with
  | .non => .ok (.bl (isNonM x)) h
  | .bl b => (match isBl x b with
    | some r => .ok (.bl r) h
    | none => .stuck)
  | _ => .stuck
def isNotM (x y : MV) (h : MH) : Res MV := match y with
  | .non => .ok (.bl (!isNonM x)) h
  | .bl b => (match isBl x b with
    | some r => .ok (.bl (!r)) h
    | none => .stuck)
  | _ => .stuck
def ixM (x y : MV) (h : MH) : Res MV := match x, y with
  | .tup xs, .int i => match atI xs i with
    | some v => .ok v h
    | none => .stuck
  | .str z, .int i => if z.length ≤ sizeLine then (match atI z.cps.toList i with
    | some c => .ok (.str ⟨#[c]⟩) h
    | none => .stuck) else .stuck
  | x, .int i => match asL h x with
    | some xs => match atI xs i with
      | some v => .ok v h
      | none => .stuck
    | none => .stuck
  | _, _ => .stuck
/-- a slice's items -/
def cutM (xs : List MV) (lo hi : Option Int) : List MV := (xs.drop (HT.sIx xs.length 0 lo)).take (HT.sIx xs.length xs.length hi - HT.sIx xs.length 0 lo)
def slM (x : MV) (lo hi : Option Int) (h : MH) : Res MV := match x with
  | .str z => if z.length ≤ sizeLine then .ok (.str (cutS z lo hi)) h else .stuck
  | .tup xs => .ok (.tup (cutM xs lo hi)) h
  | x => match asL h x with
    | some xs => .ok (.tmp (cutM xs lo hi)) h
    | none => .stuck
def lenM (x : MV) (h : MH) : Res MV := match x with
  | .str z => if z.length ≤ sizeLine then .ok (.int z.length) h else .stuck
  | .tup xs => .ok (.int xs.length) h
  | x => match asL h x with
    | some xs => .ok (.int xs.length) h
    | none => .stuck
def max2M (xs : List MV) (h : MH) : Res MV := match xs with
  | [.int i, .int j] => .ok (.int (if j > i then j else i)) h
  | _ => .stuck
def min2M (xs : List MV) (h : MH) : Res MV := match xs with
  | [.int i, .int j] => .ok (.int (if j < i then j else i)) h
  | _ => .stuck
def intM (xs : List MV) (h : MH) : Res MV := match xs with
  | [.int i] => .ok (.int i) h
  | [.bl k] => .ok (.int (if k then 1 else 0)) h
  | [.str a] => match PySem.intText? a with
    | some n => if a.length ≤ 640 then .ok (.int n) h else .stuck
    | none => .stuck
  | _ => .stuck
def strM (xs : List MV) (h : MH) : Res MV := match xs with
  | [.int i] => if i.natAbs.log2 < 1920 then .ok (.str (toString i)) h else .stuck
  | _ => .stuck
def ordM (xs : List MV) (h : MH) : Res MV := match xs with
  | [.str x] => if x.length = 1 then .ok (.int (x.cps.getD 0 0 : Nat)) h else .stuck
  | _ => .stuck
def listM (x : MV) (h : MH) : Res MV := match x with
  | .tup xs => .ok (.tmp xs) h
  | x => match asL h x with
    | some xs => .ok (.tmp xs) h
    | none => .stuck
def tupleM (x : MV) (h : MH) : Res MV := match x with
  | .tup xs => .ok (.tup xs) h
  | x => match asL h x with
    | some xs => .ok (.tup xs) h
    | none => .stuck
def asB : MV → Option Bool
  | .bl b => some b
  | _ => none
def asI : MV → Option Int
  | .int i => some i
  | _ => none
def asS : MV → Option Str
  | .str x => some x
  | _ => none
def allM (x : MV) (h : MH) : Res MV := match (asL h x).bind fun xs => xs.mapM asB with
  | some bs => .ok (.bl (bs.all id)) h
  | none => .stuck
def anyM (x : MV) (h : MH) : Res MV := match (asL h x).bind fun xs => xs.mapM asB with
  | some bs => .ok (.bl (bs.any id)) h
  | none => .stuck
def sumM (x : MV) (h : MH) : Res MV := match (asL h x).bind fun xs => xs.mapM asI with
  | some ns => .ok (.int ns.sum) h
  | none => .stuck
/-- a list or a tuple by its items -/
def asQ (h : MH) (v : MV) : Option (List MV) := match v with
  | .tup xs => some xs
  | v => asL h v
def joinM (x y : MV) (h : MH) : Res MV := match x, (asQ h y).bind fun xs => xs.mapM asS with
  | .str a, some ys => if (ys.map (·.length)).sum + ys.length * a.length ≤ 16777216 then .ok (.str (Txt.join a ys)) h else .stuck
  | _, _ => .stuck
def upperM (x : MV) (h : MH) : Res MV := match x with
  | .str a => if a.length ≤ 5592405 then .ok (.str (Txt.upper a)) h else .stuck
  | _ => .stuck
/-- a key as data -/
def keyD : MV → Option PyData
  | .int i => some (.int i)
  | .str x => some (.str x)
  | _ => none
def encK : Key → PyData
  | .inl i => .int i
  | .inr x => .str x
/-- a value as data, dicts too -/
def snapR : Nat → MH → MV → Option PyData
  | 0, _, _ => none
  | n + 1, h, v => match v with
    | .non => some .none
    | .bl b => some (.bool b)
    | .int i => some (.int i)
    | .str x => some (.str x)
    | .tup xs => (xs.mapM (snapR n h)).map .tuple
    | .tmp xs => (xs.mapM (snapR n h)).map .list
    | .con xs => (xs.mapM (snapR n h)).map .list
    | .ref k => match h[k]? with
      | some (.lst xs) => (xs.mapM (snapR n h)).map .list
      | some (.dic kvs) => (kvs.mapM fun p => (keyD p.1).bind fun a => (snapR n h p.2).map fun b => (a, b)).map .dict
      | _ => none
    | _ => none
mutual
/-- no list lies within -/
def noLst : PyData → Bool
  | .list _ => false
  | .tuple xs => noLstAll xs
  | .dict kvs => noLstKv kvs
  | .none | .bool _ | .int _ | .str _ => true
def noLstAll : List PyData → Bool
  | [] => true
  | x :: xs => noLst x && noLstAll xs
def noLstKv : List (PyData × PyData) → Bool
  | [] => true
  | (k, v) :: r => noLst k && noLst v && noLstKv r
end
/-- lists and dicts are not mixed -/
def okR (d : PyData) : Bool := !d.hasDict || noLst d
/-- repr: of data -/
def reprM (x : MV) (h : MH) : Res MV := match snapR 30 h x with
  | some d => if okR d = true ∧ d.showable = true ∧ d.shown.length ≤ sizeLine then .ok (.str d.shown) h else .stuck
  | none => .stuck
section
variable {K : PySem.W.Frag} {mg : Str → Option Value} {X : Cx}
theorem om_add (hK : X.K = K := by rfl) : OpR X (binaryOp .Add) (rOp K mg addM) := by
  subst hK
  intro pins s σ H x' y' v u Q I rx ry ⟨m, h, x, y, H0, H1, σ', W, R, dx, dy, q⟩
  unfold addM at q
  split at q
  · cases dx.dv (fun _ => MV.noConfusion)
    cases dy.dv (fun _ => MV.noConfusion)
    exact op_add pins s σ H _ _ v u Q I rx ry ⟨_, _, rfl, rfl, rg.here q R (.v (.int _))⟩
  · cases dx.dv (fun _ => MV.noConfusion)
    cases dy.dv (fun _ => MV.noConfusion)
    split at q
    · rename_i hz
      exact op_add_str pins s σ H _ _ v u Q I rx ry ⟨_, _, rfl, rfl, hz, rg.here q R (.v (.str _))⟩
    · exact q.elim
  · obtain ⟨a, vs, rfl, s1, r1⟩ := dx.tup
    obtain ⟨b, ws, rfl, s2, r2⟩ := dy.tup
    split at q
    · rename_i hz
      rw [r1.length, r2.length] at hz
      refine op_catA pins s σ H _ _ v u Q I rx ry ⟨_, _, vs, ws, rfl, rfl, s1, s2, hz, fun e => ?_, fun e1 e2 => ?_, fun e1 e2 p np => ?_⟩
      · subst e
        cases r1
        exact rg.here q R (.v (dy.dv (fun _ => MV.noConfusion)))
      · subst e2
        cases r2
        rw [List.append_nil] at q
        exact rg.here q R (.v (dx.dv (fun _ => MV.noConfusion)))
      · exact q (.ref p) m _ (Ext.upd_new np) (R.lay np) (.v (.tup upd_same (R.out np) ((r1.append r2).mono (Ext.upd_new np).gro)))
    · exact q.elim
  · split at q
    · rename_i xs ys e1 e2
      obtain ⟨a, vs, rfl, s1, r1⟩ := dx.asL0 R e1
      obtain ⟨b, ws, rfl, s2, r2⟩ := dy.asL0 R e2
      split at q
      · rename_i hz
        rw [r1.length, r2.length] at hz
        exact op_cat pins s σ H _ _ v u Q I rx ry ⟨_, _, vs, ws, rfl, rfl, s1, s2, hz, fun p np => q (.ref p) m _ (Ext.upd_new np) (R.lay np) (.tmp upd_same (R.out np) np ((r1.append r2).mono (Ext.upd_new np).gro))⟩
      · exact q.elim
    · exact q.elim
/-- two whole numbers -/
theorem om_int {f : Value → Value → Sem Value} {op : MV → MV → MH → Res MV} {C : Int → Int → Prop} {g : Int → Int → MV} {g' : Int → Int → V} (hr : OpR X f (rI C g')) (hd : ∀ i j m H, Dv K mg m H (g i j) (g' i j))
    (ho : ∀ x y h, (∃ i j, x = .int i ∧ y = .int j ∧ C i j ∧ op x y h = .ok (g i j) h) ∨ op x y h = .stuck) : OpR X f (rOp K mg op) := by
  intro pins s σ H x' y' v u Q I rx ry ⟨m, h, x, y, H0, H1, σ', W, R, dx, dy, q⟩
  rcases ho x y h with ⟨i, j, rfl, rfl, c, e⟩ | e
  · rw [e] at q
    cases dx.dv (fun _ => MV.noConfusion)
    cases dy.dv (fun _ => MV.noConfusion)
    exact hr pins s σ H _ _ v u Q I rx ry ⟨i, j, rfl, rfl, c, rg.here q R (.v (hd i j m H))⟩
  · rw [e] at q
    exact q.elim
theorem r0 {f : Value → Value → Sem Value} {g : Int → Int → V} (h : OpR X f (rI0 g)) : OpR X f (rI (fun _ _ => True) g) := fun pins s σ H x y v u Q I rx ry ⟨i, j, e1, e2, _, q⟩ => h pins s σ H x y v u Q I rx ry ⟨i, j, e1, e2, q⟩
theorem om_sub : OpR X (binaryOp .Sub) (rOp K mg subM) := om_int (g := fun i j => .int (i - j)) (r0 op_sub) (fun _ _ _ _ => .int _) fun x y h => by
  unfold subM
  split
  · exact .inl ⟨_, _, rfl, rfl, trivial, rfl⟩
  · exact .inr rfl
theorem om_mod : OpR X (binaryOp .Mod) (rOp K mg modM) := om_int (g := fun i j => .int (i.fmod j)) op_modN (fun _ _ _ _ => .int _) fun x y h => by
  unfold modM
  split
  · split
    · rename_i c
      exact .inl ⟨_, _, rfl, rfl, c, rfl⟩
    · exact .inr rfl
  · exact .inr rfl
theorem om_fdiv : OpR X (binaryOp .FloorDiv) (rOp K mg fdivM) := om_int (g := fun i j => .int (i.fdiv j)) op_fdivN (fun _ _ _ _ => .int _) fun x y h => by
  unfold fdivM
  split
  · split
    · rename_i c
      exact .inl ⟨_, _, rfl, rfl, c, rfl⟩
    · exact .inr rfl
  · exact .inr rfl
theorem om_pow : OpR X (binaryOp .Pow) (rOp K mg powM) := om_int (g := fun i j => .int (i ^ j.toNat)) op_pow (fun _ _ _ _ => .int _) fun x y h => by
  unfold powM
  split
  · split
    · rename_i c
      exact .inl ⟨_, _, rfl, rfl, c, rfl⟩
    · exact .inr rfl
  · exact .inr rfl
theorem om_neg : UnR X (unaryOp .USub) (rUn K mg negM) := by
  intro pins s σ H x' v Q I rx ⟨m, h, x, H0, σ', W, R, dx, q⟩
  unfold negM at q
  split at q
  · cases dx.dv (fun _ => MV.noConfusion)
    exact un_neg pins s σ H _ v Q I rx ⟨_, rfl, rg.here q R (.v (.int _))⟩
  · exact q.elim
theorem mulOk_len {z : Str} {n : Int} (h : z.length * n.toNat ≤ 100000) (hn : n ≤ 100000) (hl : -100000 ≤ n) : MulOk z n := by
  have e63 : (2 : Int) ^ 63 = 9223372036854775808 := by decide
  refine ⟨?_, fun h1 h2 => ?_, fun h1 h2 => ?_⟩
  · rw [e63, Bool.or_eq_false_iff]
    exact ⟨decide_eq_false (by omega), decide_eq_false (by omega)⟩
  · rw [e63]
    have h3 : 0 < n.toNat := by omega
    have h4 : z.length ≤ 100000 := Nat.le_trans (Nat.le_mul_of_pos_right _ h3) h
    have h5 : (100000 : Int) ≤ (9223372036854775808 - 1) / n := Int.le_ediv_of_mul_le (by omega) (by omega)
    omega
  · exact decide_eq_false (show ¬ (_ > sizeLine) by rw [sizeLine_eq]; omega)
theorem op_mul_str : OpR X (binaryOp .Mult) (fun x y H Q => ∃ z i, x = .str z ∧ y = .int i ∧ MulOk z i ∧ Q (.str (Txt.mul z i)) H) := by
  intro pins s σ H x y v u Q I rx ry h
  obtain ⟨z, i, rfl, rfl, hm, q⟩ := h
  obtain ⟨t, rfl⟩ := rx
  obtain ⟨t', rfl⟩ := ry
  exact SB.mul hm fun t' k => ⟨.str _, H, I.tok _, ⟨_, rfl⟩, q⟩
theorem DvAll.rep {m : List Addr} {H : Hp} {xs : List MV} {vs : List V} (r : DvAll K mg m H xs vs) : ∀ k : Nat, DvAll K mg m H (List.replicate k xs).flatten (List.replicate k vs).flatten
  | 0 => .nil
  | k + 1 => by
    rw [List.replicate_succ, List.replicate_succ, List.flatten_cons, List.flatten_cons]
    exact r.append (DvAll.rep r k)
theorem om_mul (hK : X.K = K := by rfl) : OpR X (binaryOp .Mult) (rOp K mg mulM) := by
  subst hK
  intro pins s σ H x' y' v u Q I rx ry ⟨m, h, x, y, H0, H1, σ', W, R, dx, dy, q⟩
  unfold mulM at q
  split at q
  · cases dx.dv (fun _ => MV.noConfusion)
    cases dy.dv (fun _ => MV.noConfusion)
    split at q
    · rename_i c
      exact op_mul pins s σ H _ _ v u Q I rx ry ⟨_, _, rfl, rfl, c, rg.here q R (.v (.int _))⟩
    · exact q.elim
  · cases dx.dv (fun _ => MV.noConfusion)
    cases dy.dv (fun _ => MV.noConfusion)
    split at q
    · rename_i c
      exact op_mul_str pins s σ H _ _ v u Q I rx ry ⟨_, _, rfl, rfl, mulOk_len c.1 c.2.1 c.2.2, rg.here q R (.v (.str _))⟩
    · exact q.elim
  · obtain ⟨a, vs, rfl, s1, r1⟩ := dx.tup
    cases dy.dv (fun _ => MV.noConfusion)
    split at q
    · rename_i c
      refine op_repT pins s σ H _ _ v u Q I rx ry ⟨_, _, vs, rfl, rfl, s1, fun e => ?_, c.2.1, c.2.2.1, by rw [← r1.length]; exact c.2.2.2, fun p np => ?_⟩
      · subst e
        cases r1
        exact c.1 rfl
      · exact q (.ref p) m _ (Ext.upd_new np) (R.lay np) (.v (.tup upd_same (R.out np) ((r1.rep _).mono (Ext.upd_new np).gro)))
    · exact q.elim
  · split at q
    · rename_i xs e1
      obtain ⟨a, vs, rfl, s1, r1⟩ := dx.asL0 R e1
      cases dy.dv (fun _ => MV.noConfusion)
      split at q
      · rename_i c
        exact op_rep pins s σ H _ _ v u Q I rx ry ⟨_, _, vs, rfl, rfl, s1, c.1, c.2.1, by rw [← r1.length]; exact c.2.2, fun p np => q (.ref p) m _ (Ext.upd_new np) (R.lay np) (.tmp upd_same (R.out np) np ((r1.rep _).mono (Ext.upd_new np).gro))⟩
      · exact q.elim
    · exact q.elim
  · exact q.elim
theorem far_lists {pins : List (Addr × Obj)} {σ : L2.St} {s : Shared} {x y : MV} {x' y' : V} {v u : Value} (I : Inv X pins σ H s) (hK : X.K = K) (R : Rep K mg m H h) (dx : Dt K mg H0 m H x x') (dy : Dt K mg H1 m H y y') (rx : RelV x' v) (ry : RelV y' u) (f : farL h x y = true) :
    ∃ a b vs ws, v = .ref a ∧ u = .ref b ∧ s.heap.IsList a vs ∧ s.heap.IsList b ws ∧ (vs.size != ws.size) = true := by
  subst hK
  unfold farL at f
  split at f
  · rename_i xs ys e1 e2
    obtain ⟨a, as, rfl, s1, d1⟩ := Dt.asL R dx e1
    obtain ⟨b, bs, rfl, s2, d2⟩ := Dt.asL R dy e2
    obtain ⟨i1, v1, p1, _⟩ := I.list s1
    obtain ⟨i2, v2, p2, _⟩ := I.list s2
    refine ⟨a, b, _, _, rx, ry, PlainL.isList p1, PlainL.isList p2, ?_⟩
    have l1 := d1.length
    have l2 := d2.length
    have l3 := v1.length
    have l4 := v2.length
    rw [bne_iff_ne] at f ⊢
    simp only [List.size_toArray]
    omega
  · cases f
theorem om_eq (hu : X.A.units + 64 < cLine) (hK : X.K = K := by rfl) : OpR X (compareOp .Eq) (rOp K mg eqM) := by
  subst hK
  intro pins s σ H x' y' v u Q I rx ry ⟨m, h, x, y, H0, H1, σ', W, R, dx, dy, q⟩
  unfold eqM at q
  split at q
  · rename_i f
    obtain ⟨a, b, vs, ws, rfl, rfl, l1, l2, l3⟩ := far_lists I rfl R dx dy rx ry f
    exact SeqAt.RcAt.lists_lengths l1 l2 l3 (by omega) X.prog X.w _ _ ⟨.bl _, H, I, rfl, rg.here q R (.v (.bl _))⟩
  split at q
  · rename_i d e e1 e2
    obtain ⟨p1, p2, p3, _⟩ := snap_dt R dx e1
    obtain ⟨k1, k2, k3, _⟩ := snap_dt R dy e2
    obtain ⟨as, ra⟩ := Dp.reads I d x' v p1 rx
    obtain ⟨bs, rb⟩ := Dp.reads I e y' u k1 ry
    exact SeqAt.eq_plain ra rb p2 k2 (by omega) ⟨.bl _, H, I, rfl, rg.here q R (.v (.bl _))⟩
  · exact q.elim
theorem om_ne (hu : X.A.units + 64 < cLine) (hK : X.K = K := by rfl) : OpR X (compareOp .NotEq) (rOp K mg neM) := by
  subst hK
  intro pins s σ H x' y' v u Q I rx ry ⟨m, h, x, y, H0, H1, σ', W, R, dx, dy, q⟩
  unfold neM at q
  split at q
  · rename_i f
    obtain ⟨a, b, vs, ws, rfl, rfl, l1, l2, l3⟩ := far_lists I rfl R dx dy rx ry f
    exact SeqAt.RcNeAt.lists_lengths l1 l2 l3 (by omega) X.prog X.w _ _ ⟨.bl _, H, I, rfl, rg.here q R (.v (.bl _))⟩
  split at q
  · rename_i d e e1 e2
    obtain ⟨p1, p2, p3, _⟩ := snap_dt R dx e1
    obtain ⟨k1, k2, k3, _⟩ := snap_dt R dy e2
    obtain ⟨as, ra⟩ := Dp.reads I d x' v p1 rx
    obtain ⟨bs, rb⟩ := Dp.reads I e y' u k1 ry
    exact SeqAt.ne_plain ra rb p2 k2 (by omega) ⟨.bl _, H, I, rfl, rg.here q R (.v (.bl _))⟩
  · exact q.elim
/-- orders -/
theorem om_ord {o : CmpOp} {op : MV → MV → MH → Res MV} {fi : Int → Int → Bool} {fs : Str → Str → Bool} (hi : OpR X (compareOp o) (rI0 fun i j => .bl (fi i j))) (hs : OpR X (compareOp o) (fun x y H Q => ∃ i j, x = .str i ∧ y = .str j ∧ Q (.bl (fs i j)) H))
    (ho : ∀ x y h, (∃ i j, x = .int i ∧ y = .int j ∧ op x y h = .ok (.bl (fi i j)) h) ∨ (∃ i j, x = .str i ∧ y = .str j ∧ op x y h = .ok (.bl (fs i j)) h) ∨ op x y h = .stuck) : OpR X (compareOp o) (rOp K mg op) := by
  intro pins s σ H x' y' v u Q I rx ry ⟨m, h, x, y, H0, H1, σ', W, R, dx, dy, q⟩
  rcases ho x y h with ⟨i, j, rfl, rfl, e⟩ | ⟨i, j, rfl, rfl, e⟩ | e
  · rw [e] at q
    cases dx.dv (fun _ => MV.noConfusion)
    cases dy.dv (fun _ => MV.noConfusion)
    exact hi pins s σ H _ _ v u Q I rx ry ⟨i, j, rfl, rfl, rg.here q R (.v (.bl _))⟩
  · rw [e] at q
    cases dx.dv (fun _ => MV.noConfusion)
    cases dy.dv (fun _ => MV.noConfusion)
    exact hs pins s σ H _ _ v u Q I rx ry ⟨i, j, rfl, rfl, rg.here q R (.v (.bl _))⟩
  · rw [e] at q
    exact q.elim
theorem om_lt : OpR X (compareOp .Lt) (rOp K mg ltM) := om_ord op_lt op_lt_str fun x y h => by
  unfold ltM
  split
  · exact .inl ⟨_, _, rfl, rfl, rfl⟩
  · exact .inr (.inl ⟨_, _, rfl, rfl, rfl⟩)
  · exact .inr (.inr rfl)
theorem om_le : OpR X (compareOp .LtE) (rOp K mg leM) := om_ord op_le op_le_str fun x y h => by
  unfold leM
  split
  · exact .inl ⟨_, _, rfl, rfl, rfl⟩
  · exact .inr (.inl ⟨_, _, rfl, rfl, rfl⟩)
  · exact .inr (.inr rfl)
theorem om_gt : OpR X (compareOp .Gt) (rOp K mg gtM) := om_ord op_gt op_gt_str fun x y h => by
  unfold gtM
  split
  · exact .inl ⟨_, _, rfl, rfl, rfl⟩
  · exact .inr (.inl ⟨_, _, rfl, rfl, rfl⟩)
  · exact .inr (.inr rfl)
theorem om_ge : OpR X (compareOp .GtE) (rOp K mg geM) := om_ord op_ge op_ge_str fun x y h => by
  unfold geM
  split
  · exact .inl ⟨_, _, rfl, rfl, rfl⟩
  · exact .inr (.inl ⟨_, _, rfl, rfl, rfl⟩)
  · exact .inr (.inr rfl)
theorem snap_tup {n : Nat} {h : MH} {ys : List MV} {es : List PyData} (e : snap n h (.tup ys) = some (.tuple es)) : ∃ k, n = k + 1 ∧ ys.mapM (snap k h) = some es := by
  cases n with
  | zero => cases e
  | succ k =>
    have q : (ys.mapM (snap k h)).map PyData.tuple = some (.tuple es) := e
    cases q2 : ys.mapM (snap k h) with
    | none => rw [q2] at q; cases q
    | some ds =>
      rw [q2] at q
      have : ds = es := by simpa using q
      subst this
      exact ⟨k, rfl, q2⟩
theorem om_in (hu : X.A.units + 64 < cLine) (hK : X.K = K := by rfl) : OpR X (compareOp .In) (rOp K mg inM) := by
  subst hK
  intro pins s σ H x' y' v u Q I rx ry ⟨m, h, x, y, H0, H1, σ', W, R, dx, dy, q⟩
  unfold inM at q
  split at q
  · cases dx.dv (fun _ => MV.noConfusion)
    cases dy.dv (fun _ => MV.noConfusion)
    exact op_in_str pins s σ H _ _ v u Q I rx ry ⟨_, _, rfl, rfl, rg.here q R (.v (.bl _))⟩
  · split at q
    · rename_i d es e1 e2
      obtain ⟨p1, p2, p3, _⟩ := snap_dt R dx e1
      obtain ⟨k1, k2, k3, _⟩ := snap_dt R dy e2
      obtain ⟨as, ra⟩ := Dp.reads I d x' v p1 rx
      obtain ⟨bs, rb⟩ := Dp.reads I _ y' u k1 ry
      exact SeqAt.in_tuple_data rb ra (by simpa [PyData.plain] using k2) p2 (by omega) ⟨.bl _, H, I, rfl, rg.here q R (.v (.bl _))⟩
    · exact q.elim
  · split at q
    · rename_i d es e1 e2
      obtain ⟨p1, p2, p3, _⟩ := snap_dt R dx e1
      obtain ⟨k1, k2, k3, _⟩ := snap_dt R dy e2
      obtain ⟨as, ra⟩ := Dp.reads I d x' v p1 rx
      obtain ⟨bs, rb⟩ := Dp.reads I _ y' u k1 ry
      exact SeqAt.in_list_data rb ra (by simpa [PyData.plain] using k2) p2 (by omega) ⟨.bl _, H, I, rfl, rg.here q R (.v (.bl _))⟩
    · exact q.elim
theorem notInM_eq {x y : MV} {h : MH} : notInM x y h = match x, y with
  | .str a, .str b => .ok (.bl (!inStr a b)) h
  | x, .tup ys => (match snap 30 h x, snap 30 h (.tup ys) with
    | some d, some (.tuple es) => .ok (.bl (!es.any fun z => PyData.eqv z d)) h
    | _, _ => .stuck)
  | x, y => (match snap 30 h x, snap 30 h y with
    | some d, some (.list es) => .ok (.bl (!es.any fun z => PyData.eqv z d)) h
    | _, _ => .stuck) := by
  unfold notInM inM
  split
  · rfl
  · split <;> rfl
  · split <;> rfl
theorem om_notIn (hu : X.A.units + 64 < cLine) (hK : X.K = K := by rfl) : OpR X (compareOp .NotIn) (rOp K mg notInM) := by
  subst hK
  intro pins s σ H x' y' v u Q I rx ry ⟨m, h, x, y, H0, H1, σ', W, R, dx, dy, q⟩
  rw [notInM_eq] at q
  split at q
  · cases dx.dv (fun _ => MV.noConfusion)
    cases dy.dv (fun _ => MV.noConfusion)
    exact op_notin_str pins s σ H _ _ v u Q I rx ry ⟨_, _, rfl, rfl, rg.here q R (.v (.bl _))⟩
  · split at q
    · rename_i d es e1 e2
      obtain ⟨p1, p2, p3, _⟩ := snap_dt R dx e1
      obtain ⟨k1, k2, k3, _⟩ := snap_dt R dy e2
      obtain ⟨as, ra⟩ := Dp.reads I d x' v p1 rx
      obtain ⟨bs, rb⟩ := Dp.reads I _ y' u k1 ry
      exact SeqAt.notIn_tuple_data rb ra (by simpa [PyData.plain] using k2) p2 (by omega) ⟨.bl _, H, I, rfl, rg.here q R (.v (.bl _))⟩
    · exact q.elim
  · split at q
    · rename_i d es e1 e2
      obtain ⟨p1, p2, p3, _⟩ := snap_dt R dx e1
      obtain ⟨k1, k2, k3, _⟩ := snap_dt R dy e2
      obtain ⟨as, ra⟩ := Dp.reads I d x' v p1 rx
      obtain ⟨bs, rb⟩ := Dp.reads I _ y' u k1 ry
      exact SeqAt.notIn_list_data rb ra (by simpa [PyData.plain] using k2) p2 (by omega) ⟨.bl _, H, I, rfl, rg.here q R (.v (.bl _))⟩
    · exact q.elim
theorem isNon_of {m : List Addr} {H H0 : Hp} {x : MV} {v : V} (d : Dt K mg H0 m H x v) : decide (v = .non) = isNonM x := by
  cases d with
  | v d => cases d <;> rfl
  | tmp _ _ _ _ => rfl
theorem om_is : OpR X (compareOp .Is) (rOp K mg isM) := by
  intro pins s σ H x' y' v u Q I rx ry ⟨m, h, x, y, H0, H1, σ', W, R, dx, dy, q⟩
  unfold isM at q
  split at q
  · cases dy.dv (fun _ => MV.noConfusion)
    exact op_isN pins s σ H _ _ v u Q I rx ry ⟨rfl, by rw [isNon_of dx]; exact rg.here q R (.v (.bl _))⟩
  · rename_i b
    cases dy.dv (fun _ => MV.noConfusion)
    cases x with
    | bl a =>
      cases dx.dv (fun _ => MV.noConfusion)
      exact op_is_bl pins s σ H _ _ v u Q I rx ry ⟨_, _, rfl, rfl, rg.here q R (.v (.bl _))⟩
    | _ => exact q.elim
  · exact q.elim
theorem om_isNot : OpR X (compareOp .IsNot) (rOp K mg isNotM) := by
  intro pins s σ H x' y' v u Q I rx ry ⟨m, h, x, y, H0, H1, σ', W, R, dx, dy, q⟩
  unfold isNotM at q
  split at q
  · cases dy.dv (fun _ => MV.noConfusion)
    exact op_notN pins s σ H _ _ v u Q I rx ry ⟨rfl, by rw [isNon_of dx]; exact rg.here q R (.v (.bl _))⟩
  · rename_i b
    cases dy.dv (fun _ => MV.noConfusion)
    cases x with
    | bl a =>
      cases dx.dv (fun _ => MV.noConfusion)
      exact op_isnot_bl pins s σ H _ _ v u Q I rx ry ⟨_, _, rfl, rfl, rg.here q R (.v (.bl _))⟩
    | _ => exact q.elim
  · exact q.elim
theorem DvAll.atI {m : List Addr} {H : Hp} {xs : List MV} {vs : List V} {i : Int} {x : MV} (r : DvAll K mg m H xs vs) (e : L2.atI xs i = some x) : ∃ v, L2.atI vs i = some v ∧ Dv K mg m H x v := by
  unfold L2.atI at e ⊢
  rw [← r.length]
  cases q : ixN xs.length i with
  | none => rw [q] at e; cases e
  | some j =>
    rw [q] at e
    exact r.get e
theorem om_ix (hK : X.K = K := by rfl) : IxR X (rOp K mg ixM) := by
  subst hK
  intro ve sl pins s σ H x' y' v u Q I rx ry hh hsub
  obtain ⟨m, h, x, y, H0, H1, σ', W, R, dx, dy, q⟩ := hh
  unfold ixM at q
  split at q
  · obtain ⟨a, vs, rfl, s1, r1⟩ := dx.tup
    cases dy.dv (fun _ => MV.noConfusion)
    split at q
    · rename_i z e
      obtain ⟨w, e1, e2⟩ := r1.atI e
      exact ix_tup ve sl pins s σ H _ _ v u Q I rx ry ⟨_, _, _, w, rfl, rfl, s1, e1, rg.here q R (.v e2)⟩ hsub
    · exact q.elim
  · cases dx.dv (fun _ => MV.noConfusion)
    cases dy.dv (fun _ => MV.noConfusion)
    split at q
    · rename_i hz
      split at q
      · rename_i c e
        exact ix_str ve sl pins s σ H _ _ v u Q I rx ry ⟨_, _, c, rfl, rfl, hz, e, rg.here q R (.v (.str _))⟩ hsub
      · exact q.elim
    · exact q.elim
  · split at q
    · rename_i xs e1
      obtain ⟨a, vs, rfl, s1, r1⟩ := dx.asL R e1
      cases dy.dv (fun _ => MV.noConfusion)
      split at q
      · rename_i z e
        obtain ⟨w, e1, e2⟩ := r1.atI e
        exact ix_list ve sl pins s σ H _ _ v u Q I rx ry ⟨_, _, _, w, rfl, rfl, s1, e1, rg.here q R (.v e2)⟩ hsub
      · exact q.elim
    · exact q.elim
  · exact q.elim
/-- a slice's reading -/
def rSl (K : PySem.W.Frag) (mg : Str → Option Value) (f : MV → Option Int → Option Int → MH → Res MV) : V → Option Int → Option Int → Hp → VK → Prop := fun x' lo hi H Q => ∃ m h x H0 σ W, Rep K mg m H h ∧ Dt K mg H0 m H x x' ∧ rg K mg (DV K mg) W σ m H (f x lo hi h) Q
theorem DvAll.cut {m : List Addr} {H : Hp} {xs : List MV} {vs : List V} (r : DvAll K mg m H xs vs) (lo hi : Option Int) : DvAll K mg m H (cutM xs lo hi) (cutV vs lo hi) := by
  unfold cutM cutV
  rw [r.length]
  exact (r.drop _).take _
theorem om_sl (hK : X.K = K := by rfl) : SlR X (rSl K mg slM) := by
  subst hK
  intro pins s σ H x' v vl vu lo hi sl Q I rx hs pl pu hh
  obtain ⟨m, h, x, H0, σ', W, R, dx, q⟩ := hh
  unfold slM at q
  split at q
  · cases dx.dv (fun _ => MV.noConfusion)
    split at q
    · rename_i hz
      exact sl_str pins s σ H _ v vl vu lo hi sl Q I rx hs pl pu ⟨_, rfl, hz, rg.here q R (.v (.str _))⟩
    · exact q.elim
  · obtain ⟨a, vs, rfl, s1, r1⟩ := dx.tup
    refine sl_tupA pins s σ H _ v vl vu lo hi sl Q I rx hs pl pu ⟨_, vs, rfl, s1, fun e => ?_, fun _ p np => ?_⟩
    · have hc : cutM ‹List MV› lo hi = ‹List MV› := by
        unfold cutM
        rw [r1.length, e.1, e.2, ← r1.length]
        simp
      rw [hc] at q
      exact rg.here q R (.v (dx.dv (fun _ => MV.noConfusion)))
    · exact q (.ref p) m _ (Ext.upd_new np) (R.lay np) (.v (.tup upd_same (R.out np) ((r1.cut lo hi).mono (Ext.upd_new np).gro)))
  · split at q
    · rename_i xs e1
      obtain ⟨a, vs, rfl, s1, r1⟩ := dx.asL R e1
      exact sl_list pins s σ H _ v vl vu lo hi sl Q I rx hs pl pu ⟨_, vs, rfl, s1, fun p np => q (.ref p) m _ (Ext.upd_new np) (R.lay np) (.tmp upd_same (R.out np) np ((r1.cut lo hi).mono (Ext.upd_new np).gro))⟩
    · exact q.elim
end
/-! #### slices as expressions -/
abbrev MO' := MS → MH → Res (Option Int)
def oNo : MO' := fun _ h => .ok none h
def oSo (A : ME) : MO' := fun σ h => (A σ h).bind fun v h => match v with
  | .int i => .ok (some i) h
  | _ => .stuck
def eSl (f : MV → Option Int → Option Int → MH → Res MV) (A : ME) (L U : MO') : ME := fun σ h => (A σ h).bind fun x h1 => (L σ h1).bind fun lo h2 => (U σ h2).bind fun hi h3 => f x lo hi h3
section
variable {K : PySem.W.Frag} {mg : Str → Option Value} {X : Cx} {W : WX} {A : ME} {e : Expr} {lo hi : Option Expr} {L U : MO'} {p2 pos : Pos}
abbrev DO : Hp → List Addr → Hp → Option Int → Option Int → Prop := fun _ _ _ a b => a = b
theorem dmO : DM K mg DO := ⟨fun _ _ d => d⟩
abbrev SO (K : PySem.W.Frag) (mg : Str → Option Value) (W : WX) (X : Cx) (e : Option Expr) (L : MO') : Prop := PO X e (tg K mg DO W L)
theorem so_none : SO K mg W X none oNo := ⟨fun pins s σ H Q I ⟨m, σm, h, R, S, q⟩ => po_none.run pins s σ H Q I (rg.here (b := none) q R rfl)⟩
theorem so_some (ha : SE K mg W X e A) : SO K mg W X (some e) (oSo A) := ⟨fun pins s σ H Q I ⟨m, σm, h, R, S, q⟩ => (po_some ha).run pins s σ H Q I (by
  refine ⟨m, σm, h, R, S, rg.bind q fun x h1 x' m1 H1 e1 R1 d1 q1 => ?_⟩
  cases x with
  | int i =>
    cases d1.dv (fun _ => MV.noConfusion)
    exact ⟨i, rfl, q1 _ m1 H1 e1 R1 rfl⟩
  | _ => exact q1.elim)⟩
theorem se_slice {f : MV → Option Int → Option Int → MH → Res MV} (hr : SlR X (rSl K mg f)) (ha : SE K mg W X e A) (hl : SO K mg W X lo L) (hu : SO K mg W X hi U) : SE K mg W X (.Subscript e (.Slice lo hi none p2) pos) (eSl f A L U) := (pe_slice hr ha hl hu).imp fun σ H Q ⟨m, σm, h, R, S, q⟩ => by
  refine ⟨m, σm, h, R, S, rg.bind q fun x h1 x' m1 H1 e1 R1 d1 q1 => ?_⟩
  refine ⟨m1, σm, h1, R1, S.mono e1.gro, rg.bind (rg.ext dmV e1 R1 q1) fun l h2 l' m2 H2 e2 R2 d2 q2 => ?_⟩
  cases (show l = l' from d2)
  refine ⟨m2, σm, h2, R2, (S.mono e1.gro).mono e2.gro, rg.bind (rg.ext dmV e2 R2 q2) fun u h3 u' m3 H3 e3 R3 d3 q3 => ?_⟩
  cases (show u = u' from d3)
  exact ⟨m3, h3, x, H, σ, W, R3, (d1.mono e2).mono e3, rg.ext dmV e3 R3 q3⟩
end
end Mi

set_option maxHeartbeats 400000
/-! ### built-in functions and methods -/
namespace Mi
open PySem PySem.Spec PyProof.Rows L2
variable [TheW]
/-- what a value is an instance of -/
inductive Tg where
  | b (n : String) | o (c : Str) | x (c : Str)
deriving DecidableEq
def tgOf (h : MH) : MV → Option Tg
  | .non => some (.b "NoneType")
  | .bl _ => some (.b "bool")
  | .int _ => some (.b "int")
  | .str _ => some (.b "str")
  | .tup _ => some (.b "tuple")
  | .tmp _ => some (.b "list")
  | .con _ => some (.b "list")
  | .ref n => match h[n]? with
    | some (.lst _) => some (.b "list")
    | some (.ins c _) => some (.o c)
    | some (.dic _) => some (.b "dict")
    | _ => none
  | .exn c _ _ => some (.x c)
  | _ => none
def tgC : MV → Option Tg
  | .ty n => some (.b n)
  | .cls c => some (.o c)
  | _ => none
abbrev KT := List (Tg × Tg × Bool)
def kitT (kt : KT) (t c : Tg) : Option Bool := match t, c with
  | .b a, .b n => kitB a n
  | t, c => (kt.find? fun e => decide (e.1 = t ∧ e.2.1 = c)).map (·.2.2)
def isiM (kt : KT) (xs : List MV) (h : MH) : Res MV := match xs with
  | [x, c] => match tgOf h x, tgC c with
    | some t, some c => match kitT kt t c with
      | some b => .ok (.bl b) h
      | none => .stuck
    | _, _ => .stuck
  | _ => .stuck
section
variable {K : PySem.W.Frag} {mg : Str → Option Value} {X : Cx} {m : List Addr} {H H0 : Hp} {h : MH}
/-- what instances of an own class ask -/
structure InsF (K : PySem.W.Frag) (C : Addr) : Prop where
  cl : Cls K C
  ha : PySem.W.findIn K (.ref C) "__class__" = some (some (.builtin "object.__class__"))
  hn : PySem.W.specialIn K (.builtin "object.__class__") "__get__" = some (some (.builtin "getset_descriptor.__get__"))
  htk : PySem.W.takesIn K (.builtin "object.__class__") = some true
  hm : PySem.W.mroIn K C (.type "object") = some true
def TgV (mg : Str → Option Value) : Tg → Value → Prop
  | .b n, v => v = .type n
  | .o c, v => ∃ C, mg c = some (.ref C) ∧ v = .ref C
  | .x c, v => ∃ C, mg c = some (.ref C) ∧ v = .ref C
/-- the table is right; own classes in it are known -/
structure KTok (K : PySem.W.Frag) (mg : Str → Option Value) (kt : KT) : Prop where
  kit : ∀ t c r tv cv, (t, c, r) ∈ kt → TgV mg t tv → TgV mg c cv → PySem.W.kitOne K tv cv = some r
  ins : ∀ x c r C, (Tg.o x, c, r) ∈ kt → mg x = some (.ref C) → InsF K C
  exc : ∀ x c r C, (Tg.x x, c, r) ∈ kt → mg x = some (.ref C) → ExcC K C
theorem kitT_ok {kt : KT} (ok : KTok K mg kt) {t c : Tg} {b : Bool} {tv cv : Value} (e : kitT kt t c = some b) (ht : TgV mg t tv) (hc : TgV mg c cv) : PySem.W.kitOne K tv cv = some b := by
  unfold kitT at e
  split at e
  · cases (show tv = _ from ht)
    cases (show cv = _ from hc)
    exact kit_ty e
  · cases q : kt.find? (fun e => decide (e.1 = t ∧ e.2.1 = c)) with
    | none => rw [q] at e; cases e
    | some p =>
      rw [q] at e
      obtain ⟨t', c', r⟩ := p
      have h1 := List.mem_of_find?_eq_some q
      have h2 : decide (t' = t ∧ c' = c) = true := List.find?_some (p := fun e : Tg × Tg × Bool => decide (e.1 = t ∧ e.2.1 = c)) q
      have h2 := of_decide_eq_true h2
      have hr : r = b := by simpa using e
      rw [← hr]
      rw [h2.1, h2.2] at h1
      exact ok.kit t c r tv cv h1 ht hc
theorem kitT_mem {kt : KT} {t c : Tg} {b : Bool} (hb : ∀ n, t ≠ .b n) (e : kitT kt t c = some b) : (t, c, b) ∈ kt := by
  have e' : (kt.find? fun e => decide (e.1 = t ∧ e.2.1 = c)).map (·.2.2) = some b := by
    unfold kitT at e
    split at e
    · exact absurd rfl (hb _)
    · exact e
  cases q : kt.find? (fun e => decide (e.1 = t ∧ e.2.1 = c)) with
  | none => rw [q] at e'; cases e'
  | some p =>
    rw [q] at e'
    obtain ⟨t', c', r⟩ := p
    have h1 := List.mem_of_find?_eq_some q
    have h2 : decide (t' = t ∧ c' = c) = true := List.find?_some (p := fun e : Tg × Tg × Bool => decide (e.1 = t ∧ e.2.1 = c)) q
    have h2 := of_decide_eq_true h2
    have hr : r = b := by simpa using e'
    rw [h2.1, h2.2, hr] at h1
    exact h1
/-- a value's type -/
theorem tyx_of (R : Rep K mg m H h) {kt : KT} (ok : KTok K mg kt) {x : MV} {v : V} (d : Dv K mg m H x v) {t c : Tg} {b : Bool} (e : tgOf h x = some t) (k : kitT kt t c = some b) (nx : ∀ c ns vs, x ≠ .exn c ns vs) : ∃ tv, TgV mg t tv ∧ TyX K H v tv := by
  cases d with
  | non => cases e; exact ⟨_, rfl, .base .non⟩
  | bl b => cases e; exact ⟨_, rfl, .base (.bl b)⟩
  | int i => cases e; exact ⟨_, rfl, .base (.int i)⟩
  | str x => cases e; exact ⟨_, rfl, .base (.str x)⟩
  | tup h1 h2 h3 => cases e; exact ⟨_, rfl, .base (.tup h1)⟩
  | tupK h1 h2 =>
    cases e
    obtain ⟨o, its, n, k1, k2, _⟩ := h1
    exact ⟨_, rfl, .kTuple k1 k2⟩
  | @ref n a hn =>
    cases q : h[n]? with
    | none => simp [tgOf, q] at e
    | some o =>
      have ob := R.at_ q hn
      cases o with
      | lst xs =>
        have : t = .b "list" := by simpa [tgOf, q] using e.symm
        subst this
        obtain ⟨vs, h1, _⟩ := ob
        exact ⟨_, rfl, .base (.lst h1)⟩
      | ins x fs =>
        have : t = .o x := by simpa [tgOf, q] using e.symm
        subst this
        obtain ⟨C, dx, gs, h1, h2, _⟩ := ob
        have f := ok.ins x c b C (kitT_mem (fun _ => Tg.noConfusion) k) h2
        exact ⟨_, ⟨C, h2, rfl⟩, .base (.ins h1 f.cl f.ha f.hn f.htk f.hm)⟩
      | dic kvs =>
        have : t = .b "dict" := by simpa [tgOf, q] using e.symm
        subst this
        obtain ⟨ls, h1, _⟩ := ob
        exact ⟨_, rfl, .base (.dK h1)⟩
      | dct kvs => simp [tgOf, q] at e
      | fdc kvs => simp [tgOf, q] at e
      | fct kvs => simp [tgOf, q] at e
  | con h1 h2 h3 => cases e; exact ⟨_, rfl, .base (.frz h1)⟩
  | conK h1 h2 =>
    cases e
    obtain ⟨o, its, n, k1, k2, _⟩ := h1
    exact ⟨_, rfl, .kList k1 k2⟩
  | ty n => cases e
  | cls h => cases e
  | fn h => cases e
  | exn0 _ _ _ => exact absurd rfl (nx _ _ _)
  | exnD _ _ _ _ _ _ => exact absurd rfl (nx _ _ _)
  | lam _ _ _ => cases e
theorem clsv_of {x : MV} {v : V} (d : Dv K mg m H x v) {t : Tg} (e : tgC x = some t) : ∃ cv, TgV mg t cv ∧ ClsV v cv := by
  cases d with
  | ty n => cases e; exact ⟨_, rfl, .ty n⟩
  | cls hm => cases e; exact ⟨_, ⟨_, hm, rfl⟩, .own _⟩
  | _ => cases e
/-- an exception that is a value -/
theorem kx_at {P : Program} {w : World} {h : Heap} {a : Addr} {cls : Value} {d : Option Addr} (hok : HOk P w H h) (e : H a = some (kx a cls d)) : ∃ o vs, h.get? a = some o ∧ Zc cls d o ∧ o.data = .fields vs := by
  have x : ObjOk P w H h a (.ext fun h => ∃ o vs, h.get? a = some o ∧ Zc cls d o ∧ o.data = .fields vs) := hok a _ e
  exact x.1
theorem kx_inst {pins : List (Addr × Obj)} {σ : L2.St} {s : Shared} (I : L2.Inv X pins σ H s) {a C : Addr} {d : Option Addr} (h1 : H a = some (kx a (.ref C) d)) (h2 : d = none ∨ ∃ dd fs, d = some dd ∧ H dd = some (.xd fs)) : ∃ o od, PySem.W.InstAt s.heap a o C od := by
  obtain ⟨⟨oc, od, dt, sl⟩, vs, ho, ⟨hz1, hz2⟩, hd⟩ := kx_at I.hok h1
  dsimp only at hz1 hz2 hd
  subst hz1 hz2 hd
  rcases h2 with rfl | ⟨dd, fs, rfl, h2⟩
  · exact ⟨_, none, ho, rfl, rfl, trivial⟩
  · have hx : ObjOk X.prog X.w H s.heap dd (.xd fs) := I.hok dd _ h2
    obtain ⟨mA, hns, _⟩ := hx
    obtain ⟨o2, ho2, _⟩ := lookIn_ns hns
    exact ⟨_, some o2, ho, rfl, rfl, ho2⟩
theorem exc_kit {C x : Addr} {ox : Obj} {od : Option Obj} (c : ExcC K C) : PySem.W.KitX K (.ref x) (.ref C) (fun h => PySem.W.InstAt h x ox C od) := by
  obtain ⟨cd, hc, _⟩ := PySem.W.any_some c.hd
  exact PySem.W.kitx_exc (by rw [hc]; rfl) c.hg c.hk c.hs c.ha c.hn c.ht c.hm
theorem exn_at {c : Str} {ns : List Str} {xs : List MV} {v : V} (d : Dv K mg m H (.exn c ns xs) v) : ∃ a C dd, v = .ref a ∧ mg c = some (.ref C) ∧ H a = some (kx a (.ref C) dd) ∧ (dd = none ∨ ∃ d fs, dd = some d ∧ H d = some (.xd fs)) := by
  cases d with
  | exn0 h1 h2 h3 => exact ⟨_, _, _, rfl, h1, h2, .inl rfl⟩
  | exnD h1 h2 h3 h4 h5 r => exact ⟨_, _, _, rfl, h1, h2, .inr ⟨_, _, rfl, h4⟩⟩
theorem exn_or (x : MV) : (∀ c ns vs, x ≠ .exn c ns vs) ∨ ∃ c ns vs, x = .exn c ns vs := by
  cases x <;> first | exact .inr ⟨_, _, _, rfl⟩ | exact .inl fun _ _ _ => MV.noConfusion
theorem cm_isi {kt : KT} (ok : KTok K mg kt) (hK : X.K = K := by rfl) : CallR X (.builtin "isinstance") (rCl K mg (isiM kt)) := by
  subst hK
  intro pins s σ H vs us Q I r ⟨m, h, xs, σ', W, R, dxs, q⟩
  unfold isiM at q
  split at q
  · rename_i x c
    cases dxs with
    | cons d1 d2 =>
      cases d2 with
      | cons d2 d3 =>
        cases d3
        split at q
        · rename_i t tc e1 e2
          split at q
          · rename_i b e3
            obtain ⟨cv, k1, k2⟩ := clsv_of d2 e2
            have q' : Q (.bl b) H := rg.here q R (.v (.bl b))
            rcases exn_or x with nx | nx
            · obtain ⟨tv, h1, h2⟩ := tyx_of R ok d1 e1 e3 nx
              exact call_isi pins s σ H _ us Q I r ⟨_, _, tv, cv, b, rfl, k2, h2, kitT_ok ok e3 h1 k1, q'⟩
            · obtain ⟨c', ns, ws, rfl⟩ := nx
              cases e1
              obtain ⟨a, C, dd, rfl, hm, ha, hd⟩ := exn_at d1
              have hk := kitT_ok ok e3 (tv := .ref C) ⟨C, hm, rfl⟩ k1
              have ec := ok.exc c' tc b C (kitT_mem (fun _ => Tg.noConfusion) e3) hm
              obtain ⟨u1, u2, rfl, r1, r2⟩ := vals2 r
              have e2 := k2.eq r2
              subst e2
              cases (show u1 = Value.ref a from r1)
              obtain ⟨o, od, J⟩ := kx_inst I ha hd
              exact PySem.W.kia_one (exc_kit ec) I.kIn J hk (fun z => nomatch z) fun tk => ⟨.bl b, H, I.tok tk, rfl, q'⟩
          · exact q.elim
        · exact q.elim
  · exact q.elim
theorem Dt.asQ (R : Rep K mg m H h) {x : MV} {v : V} (d : Dt K mg H0 m H x v) {xs : List MV} (e : Mi.asQ h x = some xs) : ∃ a vs, v = .ref a ∧ (SqL K H a vs ∨ SqT K H a vs) ∧ DvAll K mg m H xs vs := by
  unfold Mi.asQ at e
  split at e
  · cases e
    obtain ⟨a, vs, rfl, s1, r1⟩ := d.tup
    exact ⟨a, vs, rfl, .inr s1, r1⟩
  · obtain ⟨a, vs, rfl, s1, r1⟩ := d.asL R e
    exact ⟨a, vs, rfl, .inl s1, r1⟩
theorem cm_len (hK : X.K = K := by rfl) : CallR X (.builtin "len") (rCl1 K mg lenM) := by
  subst hK
  intro pins s σ H vs us Q I r ⟨m, h, x, v, H0, σ', W, e, R, dx, q⟩
  subst e
  unfold lenM at q
  split at q
  · cases dx.dv (fun _ => MV.noConfusion)
    split at q
    · rename_i hz
      exact call_len_str pins s σ H _ us Q I r ⟨_, rfl, hz, rg.here q R (.v (.int _))⟩
    · exact q.elim
  · obtain ⟨a, vs, rfl, s1, r1⟩ := dx.tup
    exact call_len_seq pins s σ H _ us Q I r ⟨_, vs, rfl, .inr s1, by rw [← r1.length]; exact rg.here q R (.v (.int _))⟩
  · split at q
    · rename_i xs e1
      obtain ⟨a, vs, rfl, s1, r1⟩ := dx.asL R e1
      exact call_len_seq pins s σ H _ us Q I r ⟨_, vs, rfl, .inl s1, by rw [← r1.length]; exact rg.here q R (.v (.int _))⟩
    · exact q.elim
theorem cm_list (hK : X.K = K := by rfl) : CallR X (.type "list") (rCl1 K mg listM) := by
  subst hK
  intro pins s σ H vs us Q I r ⟨m, h, x, v, H0, σ', W, e, R, dx, q⟩
  subst e
  unfold listM at q
  split at q
  · obtain ⟨a, vs, rfl, s1, r1⟩ := dx.tup
    exact call_list_of pins s σ H _ us Q I r ⟨_, vs, rfl, .inr s1, fun p np => q (.ref p) m _ (Ext.upd_new np) (R.lay np) (.tmp upd_same (R.out np) np (r1.mono (Ext.upd_new np).gro))⟩
  · split at q
    · rename_i xs e1
      obtain ⟨a, vs, rfl, s1, r1⟩ := dx.asL R e1
      exact call_list_of pins s σ H _ us Q I r ⟨_, vs, rfl, .inl s1, fun p np => q (.ref p) m _ (Ext.upd_new np) (R.lay np) (.tmp upd_same (R.out np) np (r1.mono (Ext.upd_new np).gro))⟩
    · exact q.elim
theorem cm_tuple (hK : X.K = K := by rfl) : CallR X (.type "tuple") (rCl1 K mg tupleM) := by
  subst hK
  intro pins s σ H vs us Q I r ⟨m, h, x, v, H0, σ', W, e, R, dx, q⟩
  subst e
  unfold tupleM at q
  split at q
  · obtain ⟨a, vs, rfl, s1, r1⟩ := dx.tup
    exact call_tuple_of pins s σ H _ us Q I r ⟨_, vs, rfl, .inr ⟨s1, rg.here q R (.v (dx.dv (fun _ => MV.noConfusion)))⟩⟩
  · split at q
    · rename_i xs e1
      obtain ⟨a, vs, rfl, s1, r1⟩ := dx.asL R e1
      exact call_tuple_of pins s σ H _ us Q I r ⟨_, vs, rfl, .inl ⟨s1, fun p np => q (.ref p) m _ (Ext.upd_new np) (R.lay np) (.v (.tup upd_same (R.out np) (r1.mono (Ext.upd_new np).gro)))⟩⟩
    · exact q.elim
theorem all_asB : ∀ {xs : List MV} {vs : List V} {bs : List Bool}, DvAll K mg m H xs vs → xs.mapM asB = some bs → vs = bs.map V.bl
  | _, _, bs, .nil, e => by cases e; rfl
  | _, _, bs, .cons d r, e => by
    obtain ⟨y, zs, e1, e2, rfl⟩ := mapM_cons e
    rw [all_asB r e2]
    cases d <;> first | (cases e1; rfl) | cases e1
theorem all_asI : ∀ {xs : List MV} {vs : List V} {bs : List Int}, DvAll K mg m H xs vs → xs.mapM asI = some bs → vs = bs.map V.int
  | _, _, bs, .nil, e => by cases e; rfl
  | _, _, bs, .cons d r, e => by
    obtain ⟨y, zs, e1, e2, rfl⟩ := mapM_cons e
    rw [all_asI r e2]
    cases d <;> first | (cases e1; rfl) | cases e1
theorem all_asS : ∀ {xs : List MV} {vs : List V} {bs : List Str}, DvAll K mg m H xs vs → xs.mapM asS = some bs → vs = bs.map V.str
  | _, _, bs, .nil, e => by cases e; rfl
  | _, _, bs, .cons d r, e => by
    obtain ⟨y, zs, e1, e2, rfl⟩ := mapM_cons e
    rw [all_asS r e2]
    cases d <;> first | (cases e1; rfl) | cases e1
theorem cm_all (hc : X.calm = true) (hK : X.K = K := by rfl) : CallR X (.builtin "all") (rCl1 K mg allM) := by
  subst hK
  intro pins s σ H vs us Q I r ⟨m, h, x, v, H0, σ', W, e, R, dx, q⟩
  subst e
  unfold allM at q
  cases e1 : asL h x with
  | none => rw [e1] at q; exact q.elim
  | some xs =>
    rw [e1, Option.bind_some] at q
    obtain ⟨a, vs, rfl, s1, r1⟩ := dx.asL R e1
    cases e2 : xs.mapM asB with
    | none => rw [e2] at q; exact q.elim
    | some bs =>
      rw [e2] at q
      rw [all_asB r1 e2] at s1
      exact cr_all hc pins s σ H _ us Q I r ⟨a, bs, rfl, s1, rg.here q R (.v (.bl _))⟩
theorem cm_any (hc : X.calm = true) (hK : X.K = K := by rfl) : CallR X (.builtin "any") (rCl1 K mg anyM) := by
  subst hK
  intro pins s σ H vs us Q I r ⟨m, h, x, v, H0, σ', W, e, R, dx, q⟩
  subst e
  unfold anyM at q
  cases e1 : asL h x with
  | none => rw [e1] at q; exact q.elim
  | some xs =>
    rw [e1, Option.bind_some] at q
    obtain ⟨a, vs, rfl, s1, r1⟩ := dx.asL R e1
    cases e2 : xs.mapM asB with
    | none => rw [e2] at q; exact q.elim
    | some bs =>
      rw [e2] at q
      rw [all_asB r1 e2] at s1
      exact cr_any hc pins s σ H _ us Q I r ⟨a, bs, rfl, s1, rg.here q R (.v (.bl _))⟩
theorem cm_sum (hc : X.calm = true) (hK : X.K = K := by rfl) : CallR X (.builtin "sum") (rCl1 K mg sumM) := by
  subst hK
  intro pins s σ H vs us Q I r ⟨m, h, x, v, H0, σ', W, e, R, dx, q⟩
  subst e
  unfold sumM at q
  cases e1 : asL h x with
  | none => rw [e1] at q; exact q.elim
  | some xs =>
    rw [e1, Option.bind_some] at q
    obtain ⟨a, vs, rfl, s1, r1⟩ := dx.asL R e1
    cases e2 : xs.mapM asI with
    | none => rw [e2] at q; exact q.elim
    | some bs =>
      rw [e2] at q
      rw [all_asI r1 e2] at s1
      exact cr_sum hc pins s σ H _ us Q I r ⟨a, bs, rfl, s1, rg.here q R (.v (.int _))⟩
theorem cm_max2 (hc : X.calm = true) : CallR X (.builtin "max") (rCl K mg max2M) := by
  intro pins s σ H vs us Q I r ⟨m, h, xs, σ', W, R, dxs, q⟩
  unfold max2M at q
  split at q
  · obtain ⟨d1, d2⟩ : ∃ v w, vs = [v, w] := by cases dxs with | cons _ d => cases d with | cons _ d => cases d; exact ⟨_, _, rfl⟩
    cases dxs with | cons a1 d => cases d with | cons a2 d => cases d; cases a1; cases a2; exact call_max2 hc pins s σ H _ us Q I r ⟨_, _, rfl, rg.here q R (.v (.int _))⟩
  · exact q.elim
theorem cm_min2 (hc : X.calm = true) : CallR X (.builtin "min") (rCl K mg min2M) := by
  intro pins s σ H vs us Q I r ⟨m, h, xs, σ', W, R, dxs, q⟩
  unfold min2M at q
  split at q
  · cases dxs with | cons a1 d => cases d with | cons a2 d => cases d; cases a1; cases a2; exact call_min2 hc pins s σ H _ us Q I r ⟨_, _, rfl, rg.here q R (.v (.int _))⟩
  · exact q.elim
theorem cm_int : CallR X (.type "int") (rCl K mg intM) := by
  intro pins s σ H vs us Q I r ⟨m, h, xs, σ', W, R, dxs, q⟩
  unfold intM at q
  split at q
  · cases dxs with | cons a1 d => cases d; cases a1; exact call_int1 pins s σ H _ us Q I r (.inl ⟨_, rfl, rg.here q R (.v (.int _))⟩)
  · cases dxs with | cons a1 d => cases d; cases a1; exact call_int1 pins s σ H _ us Q I r (.inr ⟨_, rfl, rg.here q R (.v (.int _))⟩)
  · cases dxs with
    | cons a1 d =>
      cases d
      cases a1
      split at q
      · rename_i n e
        split at q
        · rename_i hz
          exact call_int_str pins s σ H _ us Q I r ⟨_, n, rfl, e, hz, rg.here q R (.v (.int _))⟩
        · exact q.elim
      · exact q.elim
  · exact q.elim
theorem cm_str : CallR X (.type "str") (rCl K mg strM) := by
  intro pins s σ H vs us Q I r ⟨m, h, xs, σ', W, R, dxs, q⟩
  unfold strM at q
  split at q
  · split at q
    · rename_i hz
      cases dxs with | cons a1 d => cases d; cases a1; exact call_str_int pins s σ H _ us Q I r ⟨_, rfl, hz, rg.here q R (.v (.str _))⟩
    · exact q.elim
  · exact q.elim
theorem cm_ord : CallR X (.builtin "ord") (rCl K mg ordM) := by
  intro pins s σ H vs us Q I r ⟨m, h, xs, σ', W, R, dxs, q⟩
  unfold ordM at q
  split at q
  · split at q
    · rename_i hz
      cases dxs with | cons a1 d => cases d; cases a1; exact call_ord pins s σ H _ us Q I r ⟨_, rfl, hz, rg.here q R (.v (.int _))⟩
    · exact q.elim
  · exact q.elim
/-- what the heap's value reads as, dicts too -/
theorem reads_all {s : Shared} {n : Nat} (ih : ∀ {x : MV} {v : V} {u : Value} {d : PyData}, Dv K mg m H x v → RelV v u → snapR n h x = some d → ∃ as, Reads s.heap u d as ∧ (noLst d = true → sysModules ∉ as) ∧ d.depth ≤ n) :
    ∀ {xs : List MV} {vs : List V} {us : List Value} {ds : List PyData}, DvAll K mg m H xs vs → Vals vs us → xs.mapM (snapR n h) = some ds → ∃ as, ReadsAll s.heap us ds as ∧ (noLstAll ds = true → sysModules ∉ as) ∧ PyData.depthAll ds ≤ n
  | _, _, _, _, .nil, .nil, e => by
    cases e
    exact ⟨_, .nil, fun _ => by simp, Nat.zero_le _⟩
  | _, _, _, _, .cons d r, .cons rv rs, e => by
    obtain ⟨y, zs, e1, e2, rfl⟩ := mapM_cons e
    obtain ⟨as, a1, a2, a3⟩ := ih d rv e1
    obtain ⟨bs, b1, b2, b3⟩ := reads_all ih r rs e2
    refine ⟨as ++ bs, .cons a1 b1, fun z => ?_, by simp only [PyData.depthAll]; omega⟩
    rw [noLstAll, Bool.and_eq_true] at z
    rw [List.mem_append]
    exact fun q => q.elim (a2 z.1) (b2 z.2)
theorem reads_kv {s : Shared} {n : Nat} (ih : ∀ {x : MV} {v : V} {u : Value} {d : PyData}, Dv K mg m H x v → RelV v u → snapR n h x = some d → ∃ as, Reads s.heap u d as ∧ (noLst d = true → sysModules ∉ as) ∧ d.depth ≤ n) :
    ∀ {kvs : List (MV × MV)} {ls : List (Key × V)} {vs : List (Key × Value)} {D : List (PyData × PyData)}, DvK K mg m H kvs ls → KV ls vs → kvs.mapM (fun p => (keyD p.1).bind fun a => (snapR n h p.2).map fun b => (a, b)) = some D → ∃ bs, PyProof.V.PairsRead s.heap encK vs D bs ∧ (noLstKv D = true → sysModules ∉ bs) ∧ PyData.depthKv D ≤ n
  | _, _, _, _, .nil, .nil, e => by
    cases e
    exact ⟨_, .nil, fun _ => by simp, Nat.zero_le _⟩
  | _, _, _, _, .cons (k := k) d r, .cons (b := q) rv rs, e => by
    obtain ⟨y, zs, e1, e2, rfl⟩ := mapM_cons e
    obtain ⟨h1, h2⟩ := rv
    obtain ⟨k', u⟩ := q
    dsimp only at h1 h2
    subst h1
    have ek : keyD (kM k) = some (encK k) := by cases k <;> rfl
    dsimp only at e1
    rw [ek, Option.bind_some] at e1
    cases es : snapR n h _ with
    | none => rw [es] at e1; cases e1
    | some b =>
      rw [es] at e1
      have e1' : (encK k, b) = y := by simpa using e1
      subst e1'
      obtain ⟨as, a1, a2, a3⟩ := ih d h2 es
      obtain ⟨bs, b1, b2, b3⟩ := reads_kv ih r rs e2
      have dk : (encK k).depth = 0 := by cases k <;> rfl
      refine ⟨as ++ bs, .cons a1 b1, fun z => ?_, by simp only [PyData.depthKv]; omega⟩
      simp only [noLstKv, Bool.and_eq_true] at z
      rw [List.mem_append]
      exact fun q => q.elim (a2 z.1.2) (b2 z.2)
theorem key_reads {P : Program} {w : World} {hp : Heap} (k : Key) (v : Value) (e : (mixKind P w).is k v = true) : Reads hp v (encK k) [] := by
  rcases keyIs_shape (show keyIs k v = true from e) with ⟨i, t, rfl, rfl⟩ | ⟨x, t, rfl, rfl⟩
  · exact .int i t
  · exact .str x t
theorem reads_dv {pins : List (Addr × Obj)} {σ : L2.St} {s : Shared} (I : L2.Inv X pins σ H s) (R : Rep X.K mg m H h) : ∀ {n : Nat} {x : MV} {v : V} {u : Value} {d : PyData}, Dv X.K mg m H x v → RelV v u → snapR n h x = some d → ∃ as, Reads s.heap u d as ∧ (noLst d = true → sysModules ∉ as) ∧ d.depth ≤ n
  | 0, _, _, _, _, _, _, e => by cases e
  | n + 1, x, v, u, d, dx, rv, e => by
    have ih := fun {x v u d} => @reads_dv pins σ s I R n x v u d
    have lstc : ∀ {xs : List MV} {vs : List V} {a : Addr}, v = .ref a → DvAll X.K mg m H xs vs → SqL X.K H a vs → (xs.mapM (snapR n h)).map PyData.list = some d → ∃ as, Reads s.heap u d as ∧ (noLst d = true → sysModules ∉ as) ∧ d.depth ≤ n + 1 := fun {xs vs a} ev r sq q => by
      subst ev
      cases (show u = Value.ref a from rv)
      cases q2 : xs.mapM (snapR n h) with
      | none => rw [q2] at q; cases q
      | some ds =>
        rw [q2] at q
        cases q
        obtain ⟨its, rr, ⟨o, k, ho, hc, hd, hs⟩, _⟩ := I.list sq
        obtain ⟨as, a1, a2, a3⟩ := reads_all ih r rr q2
        exact ⟨a :: as, .list ho hc hs (by simpa using a1), (fun z => by cases z), (by simp only [PyData.depth]; omega)⟩
    cases x with
    | non => cases dx; cases e; cases rv; exact ⟨_, .none, fun _ => by simp, Nat.zero_le _⟩
    | bl b => cases dx; cases e; cases rv; exact ⟨_, .bool b, fun _ => by simp, Nat.zero_le _⟩
    | int i => cases dx; cases e; obtain ⟨t, rfl⟩ := rv; exact ⟨_, .int i t, fun _ => by simp, Nat.zero_le _⟩
    | str x => cases dx; cases e; obtain ⟨t, rfl⟩ := rv; exact ⟨_, .str x t, fun _ => by simp, Nat.zero_le _⟩
    | tup xs =>
      obtain ⟨a, vs, rfl, sq, r⟩ := sqt_of dx
      have q : (xs.mapM (snapR n h)).map PyData.tuple = some d := e
      cases (show u = Value.ref a from rv)
      cases q2 : xs.mapM (snapR n h) with
      | none => rw [q2] at q; cases q
      | some ds =>
        rw [q2] at q
        cases q
        obtain ⟨its, rr, ⟨o, ho, hc, k, hs⟩, _⟩ := I.tuple sq
        obtain ⟨as, a1, a2, a3⟩ := reads_all ih r rr q2
        exact ⟨as, .tuple ho hc hs (by simpa using a1), fun z => a2 (by simpa [noLst] using z), by simp only [PyData.depth]; omega⟩
    | tmp xs => exact absurd rfl (dx.notmp xs)
    | con xs =>
      cases dx with
      | con h1 h2 h3 => exact lstc rfl h3 (.inl (.inr ⟨_, h1⟩)) e
      | conK h1 h3 => exact lstc rfl h3 (.inr h1) e
    | ref k =>
      cases dx with
      | @ref _ a hk =>
        unfold snapR at e
        dsimp only at e
        cases q1 : h[k]? with
        | none => rw [q1] at e; cases e
        | some o =>
          rw [q1] at e
          have ob := R.at_ q1 hk
          cases o with
          | lst xs => obtain ⟨vs, h1, h2⟩ := ob; exact lstc rfl h2 (SqL.of h1) e
          | ins c fs => cases e
          | dic kvs =>
            obtain ⟨ls, h1, h2⟩ := ob
            cases (show u = Value.ref a from rv)
            dsimp only at e
            cases q2 : kvs.mapM (fun p => (keyD p.1).bind fun a => (snapR n h p.2).map fun b => (a, b)) with
            | none => rw [q2] at e; cases e
            | some D =>
              rw [q2] at e
              cases e
              obtain ⟨_, hsm, vs, rel, dd⟩ := dk_of I.hok h1
              obtain ⟨bs, b1, b2, b3⟩ := reads_kv ih h2 rel q2
              refine ⟨a :: bs, PyProof.V.reads_dictOf key_reads dd b1, fun z => ?_, by simp only [PyData.depth]; omega⟩
              rw [List.mem_cons, not_or]
              exact ⟨fun q => by rw [← q] at hsm; simp at hsm, b2 (by simpa [noLst] using z)⟩
          | dct kvs => cases e
          | fdc kvs => cases e
          | fct kvs => cases e
    | ty n => cases e
    | cls c => cases e
    | fn c => cases e
    | exn c ns vs => cases e
    | lam f c q ys ws => cases e
theorem noLst_dict : ∀ d : PyData, okR d = true → d.hasDict = true → noLst d = true := fun d h1 h2 => by
  unfold okR at h1
  rw [h2] at h1
  simpa using h1
theorem cm_repr (hu : X.A.units + 64 < cLine) (hg : X.A.guards = some []) (hK : X.K = K := by rfl) : CallR X (.builtin "repr") (rCl1 K mg reprM) := by
  subst hK
  intro pins s σ H vs us Q I r ⟨m, h, x, v, H0, σ', W, e, R, dx, q⟩
  subst e
  obtain ⟨u, rfl, ru⟩ := Vals.one r
  unfold reprM at q
  split at q
  · rename_i d e1
    split at q
    · rename_i c
      have q' : Q (.str d.shown) H := rg.here q R (.v (.str _))
      obtain ⟨as, ra, rs, rd⟩ : ∃ as, Reads s.heap u d as ∧ (noLst d = true → sysModules ∉ as) ∧ d.depth ≤ 30 := by
        cases dx with
        | v dx => exact reads_dv I R dx ru e1
        | @tmp a ws xs ha na n0 hv =>
          have e1' : (xs.mapM (snapR 29 h)).map PyData.list = some d := e1
          cases (show u = Value.ref a from ru)
          cases q2 : xs.mapM (snapR 29 h) with
          | none => rw [q2] at e1'; cases e1'
          | some ds =>
            rw [q2] at e1'
            cases e1'
            obtain ⟨its, rr, ⟨o, k, ho, hc, hd, hs⟩, _⟩ := I.list (SqL.of ha)
            obtain ⟨as, a1, a2, a3⟩ := reads_all (fun dx rv e => reads_dv I R dx rv e) hv rr q2
            exact ⟨a :: as, .list ho hc hs (by simpa using a1), (fun z => by cases z), (by simp only [PyData.depth]; omega)⟩
      have hsm : d.hasDict = true → sysModules ∉ as := fun z => rs (noLst_dict d c.1 z)
      have cs := c.2.1
      have cl := c.2.2
      cases ra with
      | none => exact PySem.P.repr_of_none ⟨.str _, H, I.tok _, ⟨_, rfl⟩, by simpa [PyData.shown] using q'⟩
      | bool b => exact PySem.P.repr_of_bool ⟨.str _, H, I.tok _, ⟨_, rfl⟩, by simpa [PyData.shown] using q'⟩
      | int i t => exact PySem.P.repr_of_int (by simpa [PyData.showable] using cs) ⟨.str _, H, I.tok _, ⟨_, rfl⟩, by simpa [PyData.shown] using q'⟩
      | str z t => exact PySem.P.repr_of_str ⟨.str _, H, I.tok _, ⟨_, rfl⟩, by simpa [PyData.shown] using q'⟩ (by simpa [PyData.shown] using cl)
      | list h1 h2 h3 h4 => exact repr_of_reads' (h₀ := s.heap) (.list h1 h2 h3 h4) cs hsm hg (by omega) (fun _ _ z => z) (fun h' t tk k => ⟨.str _, H, I.kept k, ⟨_, rfl⟩, q'⟩) cl
      | tuple h1 h2 h3 h4 => exact repr_of_reads' (h₀ := s.heap) (.tuple h1 h2 h3 h4) cs hsm hg (by omega) (fun _ _ z => z) (fun h' t tk k => ⟨.str _, H, I.kept k, ⟨_, rfl⟩, q'⟩) cl
      | dict h1 h2 h3 h4 h5 => exact repr_of_reads' (h₀ := s.heap) (.dict h1 h2 h3 h4 h5) cs hsm hg (by omega) (fun _ _ z => z) (fun h' t tk k => ⟨.str _, H, I.kept k, ⟨_, rfl⟩, q'⟩) cl
    · exact q.elim
  · exact q.elim
/-! #### {} -/
def eDic0 : ME := fun _ h => .ok (.ref h.length) (h ++ [.dic []])
theorem se_dic0 {W : WX} {pos : Pos} : SE K mg W X (.Dict [] [] pos) eDic0 := pe_dnewK.imp fun σ H Q ⟨m, σm, h, R, S, q⟩ => fun p np => by
  have e : Ext m H (m ++ [p]) (upd H p (.dK [])) := Ext.snoc np
  refine q (.ref p) (m ++ [p]) _ e (R.place (o := .dic []) (R.out np) e.gro (fun b hb => ?_) ⟨[], upd_same, .nil⟩ fun P ps z => by rw [upd_ne (ne_of_none z np)]; exact z) (.v (.ref (by rw [← R.len]; simp)))
  obtain ⟨u, hu⟩ := R.tracked hb
  exact upd_ne (ne_of_none hu np)
/-! #### methods of texts -/
variable {W : WX} {A B : ME} {o e : Expr} {apos pos : Pos}
def eM0 (f : MV → MH → Res MV) (A : ME) : ME := fun σ h => (A σ h).bind fun x h1 => match x with
  | .str a => f (.str a) h1
  | _ => .stuck
def eM1 (f : MV → MV → MH → Res MV) (A B : ME) : ME := fun σ h => (A σ h).bind fun x h1 => match x with
  | .str a => (B σ h1).bind fun y h2 => f (.str a) y h2
  | _ => .stuck
def rM0 (K : PySem.W.Frag) (mg : Str → Option Value) (f : MV → MH → Res MV) : V → List V → Hp → VK → Prop := fun v vs H Q => ∃ m h x H0 σ W, vs = [] ∧ Rep K mg m H h ∧ Dt K mg H0 m H x v ∧ rg K mg (DV K mg) W σ m H (f x h) Q
def rM1 (K : PySem.W.Frag) (mg : Str → Option Value) (f : MV → MV → MH → Res MV) : V → List V → Hp → VK → Prop := fun v vs H Q => ∃ m h x y w H0 H1 σ W, vs = [w] ∧ Rep K mg m H h ∧ Dt K mg H0 m H x v ∧ Dt K mg H1 m H y w ∧ rg K mg (DV K mg) W σ m H (f x y h) Q
theorem se_m0 {id : String} {name : Str} {f : MV → MH → Res MV} (slot : Slot "str" name id) (ty : typeOf (.builtin id) = pure (.type "method_descriptor")) (rule : MtR X id (rM0 K mg f)) (ho : SE K mg W X o A)
    (hbase : attributeBase o name X.env (eval o X.env) = eval o X.env := by rfl) (hline : (apos.endLine == pos.line) = true := by rfl) : SE K mg W X (.Call (.Attribute o name apos) [] [] pos) (eM0 f A) := (pe_m0 slot ty rule ho hbase hline).imp fun σ H Q ⟨m, σm, h, R, S, q⟩ => by
  refine ⟨m, σm, h, R, S, rg.bind q fun x h1 x' m1 H1 e1 R1 d1 q1 => ?_⟩
  cases x with
  | str a =>
    cases d1.dv (fun _ => MV.noConfusion)
    exact ⟨⟨a, rfl⟩, m1, h1, .str a, H, σ, W, rfl, R1, d1, rg.ext dmV e1 R1 q1⟩
  | _ => exact q1.elim
theorem se_m1 {id : String} {name : Str} {f : MV → MV → MH → Res MV} (slot : Slot "str" name id) (ty : typeOf (.builtin id) = pure (.type "method_descriptor")) (rule : MtR X id (rM1 K mg f)) (ho : SE K mg W X o A) (he : SE K mg W X e B)
    (hs : starEach [e] X.env = [(false, eval e X.env)] := by rfl) (hbase : attributeBase o name X.env (eval o X.env) = eval o X.env := by rfl) (hline : (apos.endLine == pos.line) = true := by rfl) :
    SE K mg W X (.Call (.Attribute o name apos) [e] [] pos) (eM1 f A B) := (pe_m1 slot ty rule ho he hs hbase hline).imp fun σ H Q ⟨m, σm, h, R, S, q⟩ => by
  refine ⟨m, σm, h, R, S, rg.bind q fun x h1 x' m1 H1 e1 R1 d1 q1 => ?_⟩
  cases x with
  | str a =>
    cases d1.dv (fun _ => MV.noConfusion)
    refine ⟨⟨a, rfl⟩, m1, σm, h1, R1, S.mono e1.gro, rg.bind (rg.ext dmV e1 R1 q1) fun y h2 y' m2 H2 e2 R2 d2 q2 => ?_⟩
    exact ⟨m2, h2, .str a, y, y', H, H1, σ, W, rfl, R2, .v (.str a), d2, rg.ext dmV e2 R2 q2⟩
  | _ => exact q1.elim
theorem mm_upper : MtR X "str.upper" (rM0 K mg upperM) := by
  intro pins s σ H x' xs v us Q I rx rs ⟨m, h, x, H0, σ', W, e, R, dx, q⟩
  subst e
  unfold upperM at q
  split at q
  · cases dx.dv (fun _ => MV.noConfusion)
    split at q
    · rename_i hz
      exact mt_upper pins s σ H _ _ v us Q I rx rs ⟨_, rfl, rfl, hz, rg.here q R (.v (.str _))⟩
    · exact q.elim
  · exact q.elim
theorem mm_join (hK : X.K = K := by rfl) : MtR X "str.join" (rM1 K mg joinM) := by
  subst hK
  intro pins s σ H x' xs v us Q I rx rs ⟨m, h, x, y, w, H0, H1, σ', W, e, R, dx, dy, q⟩
  subst e
  unfold joinM at q
  split at q
  · rename_i a ys e1
    cases dx.dv (fun _ => MV.noConfusion)
    obtain ⟨zs, e2, e3⟩ := Option.bind_eq_some_iff.mp e1
    obtain ⟨p, vs, rfl, s1, r1⟩ := dy.asQ R e2
    rw [all_asS r1 e3] at s1
    split at q
    · rename_i hz
      exact mt_join pins s σ H _ _ v us Q I rx rs ⟨a, p, ys, rfl, rfl, s1, hz, rg.here q R (.v (.str _))⟩
    · exact q.elim
  · exact q.elim
end
end Mi

set_option maxHeartbeats 400000
/-! ### statements, loops, comprehensions -/
namespace Mi
open PySem PySem.Spec PyProof.Rows L2
variable [TheW]
def Res.st {α : Type} (r : Res α) (σ : MS) (k : α → MH → SR) : SR := match r with
  | .ok a h => k a h
  | .exc x h => .exc x σ h
  | .stuck => .stuck
theorem Res.ok_st {α : Type} {a : α} {h : MH} {σ : MS} {k : α → MH → SR} : (Res.ok a h).st σ k = k a h := rfl
theorem Res.exc_st {α : Type} {x : XV} {h : MH} {σ : MS} {k : α → MH → SR} : (Res.exc x h : Res α).st σ k = .exc x σ h := rfl
def sNil : MSt := fun σ h => .next σ h
def sSeq (s t : MSt) : MSt := fun σ h => match s σ h with
  | .next σ' h' => t σ' h'
  | r => r
def sAsg (i : Nat) (A : ME) : MSt := fun σ h => (A σ h).st σ fun v h1 => (settle v h1).st σ fun v h2 => .next (σ.set i (some v)) h2
def sDrop (A : ME) : MSt := fun σ h => (A σ h).st σ fun _ h1 => .next σ h1
def sRet (A : ME) : MSt := fun σ h => (A σ h).st σ fun v h1 => .ret v h1
def sRetN : MSt := fun _ h => .ret .non h
def sIf (T : MT) (s t : MSt) : MSt := fun σ h => (T σ h).st σ fun b h1 => if b = true then s σ h1 else t σ h1
def sBrk : MSt := fun σ h => .brk σ h
def sCont : MSt := fun σ h => .cont σ h
def sPar (i j : Nat) (A : MA) : MSt := fun σ h => (A σ h).st σ fun vs h1 => match vs with
  | [v, w] => .next ((σ.set i (some v)).set j (some w)) h1
  | _ => .stuck
def sAug (i : Nat) (op : MV → MV → MH → Res MV) (A : ME) : MSt := fun σ h => match σ[i]? with
  | some (some x) => (A σ h).st σ fun y h1 => (op x y h1).st σ fun v h2 => (settle v h2).st σ fun v h3 => .next (σ.set i (some v)) h3
  | _ => .stuck
def sWhile (T : MT) (s : MSt) : Nat → MSt
  | 0 => fun _ _ => .stuck
  | n + 1 => fun σ h => (T σ h).st σ fun b h1 => if b = true then (match s σ h1 with
    | .next σ2 h2 => sWhile T s n σ2 h2
    | .cont σ2 h2 => sWhile T s n σ2 h2
    | .brk σ2 h2 => .next σ2 h2
    | .ret v h2 => .ret v h2
    | .exc x σ2 h2 => .exc x σ2 h2
    | .stuck => .stuck) else .next σ h1
/-- what is walked: its items; what must stand still -/
structure MW where
  items : List MV
  still : MH → Bool
abbrev MI := MS → MH → Res MW
abbrev MG := MV → MS → MH → Res MS
def sForL (st : MH → Bool) (g : MG) (s : MSt) : List MV → MSt
  | [] => fun σ h => if st h = true then .next σ h else .stuck
  | x :: xs => fun σ h => if st h = true then (g x σ h).st σ fun σ1 h1 => (match s σ1 h1 with
    | .next σ2 h2 => sForL st g s xs σ2 h2
    | .cont σ2 h2 => sForL st g s xs σ2 h2
    | .brk σ2 h2 => .next σ2 h2
    | .ret v h2 => .ret v h2
    | .exc x σ2 h2 => .exc x σ2 h2
    | .stuck => .stuck) else .stuck
def sFor (I : MI) (g : MG) (s : MSt) : MSt := fun σ h => (I σ h).st σ fun w h1 => sForL w.still g s w.items σ h1
/-- nothing is raised within -/
def Res.bn {α β : Type} (r : Res α) (f : α → MH → Res β) : Res β := match r with
  | .ok a h => f a h
  | _ => .stuck
theorem Res.ok_bn {α β : Type} {a : α} {h : MH} {f : α → MH → Res β} : (Res.ok a h).bn f = f a h := rfl
def compL (st : MH → Bool) (g : MG) (tt : MT) (te : ME) (σ : MS) : List MV → List MV → MH → Res MV
  | [], acc, h => if st h = true then .ok (.tmp acc) h else .stuck
  | x :: xs, acc, h => if st h = true then (g x σ h).bn fun σ1 h1 => (tt σ1 h1).bn fun b h2 => if b = true then (if acc.length < sizeLine then ((eSet te) σ1 h2).bn fun v h4 => compL st g tt te σ xs (acc ++ [v]) h4 else .stuck) else compL st g tt te σ xs acc h2 else .stuck
def wipeM (σ : MS) : List Nat → MS
  | [] => σ
  | v :: vs => (wipeM σ vs).set v none
def eComp (I : MI) (g : MG) (tt : MT) (te : ME) (vs : List Nat) : ME := fun σ h => (I σ h).bind fun w h1 => compL w.still g tt te (wipeM σ vs) w.items [] h1
def tYesM : MT := fun _ h => .ok true h
section
variable {K : PySem.W.Frag} {mg : Str → Option Value} {X : Cx} {W : WX} {m m1 : List Addr} {H H0 H1 : Hp} {h h1 : MH} {σ : L2.St} {σm : MS} {D : Ends}
theorem rs.ext {r : SR} (e : Ext m H m1 H1) (R : Rep K mg m1 H1 h1) (q : rs K mg W D m H r) : rs K mg W D m1 H1 r := by
  cases r with
  | next σ' h' => exact fun s' m' H' e' R' S => q s' m' H' (e.trans e') R' S
  | ret v h' => exact fun s' m' H' e' R' S => q s' m' H' (e.trans e') R' (S.back e R)
  | brk σ' h' => exact fun s' m' H' e' R' S => q s' m' H' (e.trans e') R' S
  | cont σ' h' => exact fun s' m' H' e' R' S => q s' m' H' (e.trans e') R' S
  | exc x σ' h' => exact fun cls d s' m' H' e' R' S x => q cls d s' m' H' (e.trans e') R' S x
  | stuck => exact q
/-- a part of a statement -/
theorem rs.part {α β : Type} {Dd : Hp → List Addr → Hp → α → β → Prop} {r : Res α} {k : α → MH → SR} {Q : β → Hp → Prop} (S : SRel K mg m H σm σ) (q : rs K mg W D m H (r.st σm k))
    (hk : ∀ a h1 b m1 H1, Ext m H m1 H1 → Rep K mg m1 H1 h1 → Dd H m1 H1 a b → rs K mg W D m H (k a h1) → Q b H1) : rg K mg Dd W σ m H r Q := by
  cases r with
  | ok a h' => exact fun b m' H' e' R' d => hk a h' b m' H' e' R' d q
  | exc x h' => exact fun cls d m' H' e' R' x => q cls d σ m' H' e' R' (S.mono e'.gro) x
  | stuck => exact q
variable {st : Stmt} {rest : List Stmt} {A B : ME} {T : MT} {sa sb : MSt} {e : Expr} {pos : Pos}
theorem sss_nil : SSs K mg W X [] sNil := pss_nil.imp fun D σ H ⟨m, σm, h, R, S, q⟩ => q σ m H Ext.refl R S
theorem sss_cons (h1 : SS K mg W X st sa) (h2 : SSs K mg W X rest sb) : SSs K mg W X (st :: rest) (sSeq sa sb) := (pss_cons h1 h2).imp fun D σ H ⟨m, σm, h, R, S, q⟩ => by
  refine ⟨m, σm, h, R, S, ?_⟩
  unfold sSeq at q
  cases e : sa σm h with
  | next σ' h' => rw [e] at q; exact fun s' m' H' e' R' S' => ⟨m', σ', h', R', S', rs.ext e' R' q⟩
  | ret v h' => rw [e] at q; exact q
  | brk σ' h' => rw [e] at q; exact q
  | cont σ' h' => rw [e] at q; exact q
  | exc x σ' h' => rw [e] at q; exact q
  | stuck => rw [e] at q; exact q
theorem sss_one (h1 : SS K mg W X st sa) : SSs K mg W X [st] sa := pss_one h1
theorem ss_pass : SS K mg W X (.Pass pos) sNil := ps_pass.imp fun D σ H ⟨m, σm, h, R, S, q⟩ => q σ m H Ext.refl R S
theorem ss_brk : SS K mg W X (.Break pos) sBrk := ps_break.imp fun D σ H ⟨m, σm, h, R, S, q⟩ => q σ m H Ext.refl R S
theorem ss_cont : SS K mg W X (.Continue pos) sCont := ps_continue.imp fun D σ H ⟨m, σm, h, R, S, q⟩ => q σ m H Ext.refl R S
theorem ss_doc {x j pos pos'} : SS K mg W X (.Expr (.Constant (.str x) j pos) pos') sNil := ps_doc.imp fun D σ H ⟨m, σm, h, R, S, q⟩ => q σ m H Ext.refl R S
theorem ss_expr (ha : SE K mg W X e A) (hs : swapsWith e none pos.line X.env = pure false := by rfl) : SS K mg W X (.Expr e pos) (sDrop A) := (ps_expr ha hs).imp fun D σ H ⟨m, σm, h, R, S, q⟩ =>
  ⟨m, σm, h, R, S, rs.part S q fun x h1 x' m1 H1 e1 R1 d1 q1 => q1 σ m1 H1 e1 R1 (S.mono e1.gro)⟩
theorem ss_ret (ha : SE K mg W X e A) : SS K mg W X (.Return (some e) pos) (sRet A) := (ps_ret ha).imp fun D σ H ⟨m, σm, h, R, S, q⟩ =>
  ⟨m, σm, h, R, S, rs.part S q fun x h1 x' m1 H1 e1 R1 d1 q1 => q1 x' m1 H1 e1 R1 d1⟩
theorem ss_retN : SS K mg W X (.Return none pos) sRetN := ps_retN.imp fun D σ H ⟨m, σm, h, R, S, q⟩ => q .non m H Ext.refl R (.v .non)
theorem ss_if {c : Expr} {a b : List Stmt} (hc : STt K mg W X c T) (ha : SSs K mg W X a sa) (hb : SSs K mg W X b sb) : SS K mg W X (.If c a b pos) (sIf T sa sb) := (ps_if hc ha hb).imp fun D σ H ⟨m, σm, h, R, S, q⟩ => by
  refine ⟨m, σm, h, R, S, rs.part S q fun x h1 x' m1 H1 e1 R1 d1 q1 => ?_⟩
  cases (show x = x' from d1)
  cases x with
  | true => exact ⟨m1, σm, h1, R1, S.mono e1.gro, rs.ext e1 R1 q1⟩
  | false => exact ⟨m1, σm, h1, R1, S.mono e1.gro, rs.ext e1 R1 q1⟩
/-- a settled value in a statement -/
theorem rs.settled {x : MV} {v : V} {k : MV → MH → SR} {P : Prop} (e : Ext m H m1 H1) (R : Rep K mg m1 H1 h1) (d : Dt K mg H m1 H1 x v) (S : SRel K mg m H σm σ) (q : rs K mg W D m H ((settle x h1).st σm k))
    (hk : ∀ y h2 m2, Ext m H m2 H1 → Rep K mg m2 H1 h2 → Gro m1 H1 m2 H1 → Dv K mg m2 H1 y v → rs K mg W D m H (k y h2) → P) : P := by
  cases d with
  | v d =>
    rw [settle_notmp d.notmp] at q
    exact hk x h1 m1 e R Ext.refl.gro d q
  | @tmp a vs xs ha na n0 hv =>
    have g : Gro m1 H1 (m1 ++ [a]) H1 := by
      refine ⟨⟨[a], rfl⟩, fun _ _ h _ _ _ _ => h, fun b o hb hl _ nb z => ?_⟩
      rcases List.mem_append.mp z with z | z
      · exact nb z
      · have z' : b = a := by simpa using z
        subst z'
        rw [ha] at hb
        cases hb
        exact hl _ rfl
    refine hk (.ref h1.length) _ (m1 ++ [a]) ?_ (R.place (o := .lst xs) na g (fun _ _ => rfl) ⟨vs, ha, hv.mono g⟩ fun _ _ z => z) g (.ref (by rw [← R.len]; simp)) q
    obtain ⟨r, hr⟩ := e.pre
    refine ⟨⟨r ++ [a], by rw [hr, List.append_assoc]⟩, e.keep, e.kept, fun b hb nb => ?_, e.frz⟩
    rcases List.mem_append.mp hb with z | z
    · exact e.new b z nb
    · have : b = a := by simpa using z
      rw [this]
      exact n0
theorem ss_set {i : Nat} {x : Str} {pos' : Pos} (hN : X.N.Nodup) (hi : X.N[i]? = some x) (hx : Loc X.env.scope x) (ha : SE K mg W X e A) (hs : swapsWith e (some (.Name x pos')) pos.line X.env = pure false := by rfl)
    (hf : X.fn x = true ∨ X.env.scope.names.lookup x = some .local := by first | exact .inl rfl | exact .inr rfl | assumption) : SS K mg W X (.Assign [.Name x pos'] e pos) (sAsg i A) := (ps_set hN hi hx ha hs hf).imp fun D σ H ⟨m, σm, h, R, S, q⟩ => by
  refine ⟨m, σm, h, R, S, rs.part S q fun x h1 x' m1 H1 e1 R1 d1 q1 => ?_⟩
  refine rs.settled e1 R1 d1 S q1 fun y h2 m2 e2 R2 g d2 q2 => ?_
  exact q2 _ m2 H1 e2 R2 ((S.mono e2.gro).set d2)
theorem ss_par {i j : Nat} {x y : Str} {a b : Expr} {AL : MA} {px py pt : Pos} {kt k2 pt2} (hc : X.calm = true) (hN : X.N.Nodup) (hi : X.N[i]? = some x) (hj : X.N[j]? = some y) (hij : i ≠ j)
    (hx : X.env.scope.names.lookup x = some .local) (hy : X.env.scope.names.lookup y = some .local) (ha : SA K mg W X [a, b] AL)
    (hw : swappedStores [.Tuple [.Name x px, .Name y py] kt pt] (.Tuple [a, b] k2 pt2) X.env = pure (some [x, y]) := by rfl)
    (hs : swapsWithSole [.Tuple [.Name x px, .Name y py] kt pt] (.Tuple [a, b] k2 pt2) pos.line X.env = pure false := by rfl) :
    SS K mg W X (.Assign [.Tuple [.Name x px, .Name y py] kt pt] (.Tuple [a, b] k2 pt2) pos) (sPar i j AL) := (ps_par hc hN hi hj hij hx hy ha hw hs).imp fun D σ H ⟨m, σm, h, R, S, q⟩ => by
  refine ⟨m, σm, h, R, S, rs.part S q fun xs h1 vs m1 H1 e1 R1 d1 q1 => ?_⟩
  split at q1
  · cases d1 with
    | cons d1 d2 =>
      cases d2 with
      | cons d2 d3 =>
        cases d3
        exact ⟨_, _, rfl, q1 _ m1 H1 e1 R1 (((S.mono e1.gro).set d1).set d2)⟩
  · exact q1.elim
/-- x op= e -/
theorem ss_aug {i : Nat} {x : Str} {op : Operator} {f : MV → MV → MH → Res MV} {pos' : Pos} (hN : X.N.Nodup) (hi : X.N[i]? = some x) (hx : Loc X.env.scope x) (ha : SE K mg W X e A) (ho : PIp X op (rOp K mg f))
    (hf : X.fn x = true ∨ X.env.scope.names.lookup x = some .local := by first | exact .inl rfl | exact .inr rfl | assumption) : SS K mg W X (.AugAssign (.Name x pos') op e pos) (sAug i f A) := (ps_aug hN hi hx ha ho hf).imp fun D σ H ⟨m, σm, h, R, S, q⟩ => by
  unfold sAug at q
  cases ex : σm[i]? with
  | none => rw [ex] at q; exact q.elim
  | some o =>
    cases o with
    | none => rw [ex] at q; exact q.elim
    | some v =>
      rw [ex] at q
      obtain ⟨v', h1, h2⟩ := S.at_ i v ex
      refine ⟨v', h1, m, σm, h, R, S, rs.part S q fun y h1 y' m1 H1 e1 R1 d1 q1 => ?_⟩
      have hk : rg K mg (DV K mg) W σ m1 H1 (f v y h1) (fun z H2 => D.nx (σ.set i (some z)) H2) := by
        refine rs.part (S.mono e1.gro) (rs.ext e1 R1 q1) fun z h2 z' m2 H2 e2 R2 d2 q2 => ?_
        refine rs.settled e2 R2 d2 (S.mono e1.gro) q2 fun y h3 m3 e3 R3 g d3 q3 => ?_
        exact q3 _ m3 H2 e3 R3 (((S.mono e1.gro).mono e3.gro).set d3)
      exact ⟨m1, h1, v, y, H, H, σ, W, R1, .v (h2.mono e1.gro), d1, hk⟩
theorem ss_while {c : Expr} {body : List Stmt} {n : Nat} (hp : PassesOwn (model X.prog X.w) X.A X.env X.xe) (hc : STt K mg W X c T) (hb : SSs K mg W X body sb) : SS K mg W X (.While c body [] pos) (sWhile T sb n) := (ps_while hp hc hb).imp fun D σ H ⟨m, σm, h, R, S, q⟩ => by
  refine ⟨fun k σ' H' => ∃ m' σm' h', Rep K mg m' H' h' ∧ SRel K mg m' H' σm' σ' ∧ rs K mg W D m' H' (sWhile T sb k σm' h'), ⟨n, m, σm, h, R, S, q⟩, ?_⟩
  rintro k σ' H' ⟨m', σm', h', R', S', q'⟩
  cases k with
  | zero => exact q'.elim
  | succ k =>
    refine ⟨m', σm', h', R', S', rs.part S' q' fun b h1 b' m1 H1 e1 R1 d1 q1 => ?_⟩
    cases (show b = b' from d1)
    cases b with
    | false => exact q1 σ' m1 H1 e1 R1 (S'.mono e1.gro)
    | true =>
      rw [if_pos rfl]
      refine ⟨fun σ2 H2 => ∃ m2 σm2 h2, Rep K mg m2 H2 h2 ∧ SRel K mg m2 H2 σm2 σ2 ∧ rs K mg W D m2 H2 (sWhile T sb k σm2 h2), fun σ2 H2 z => ⟨k, Nat.lt_succ_self k, z⟩, m1, σm', h1, R1, S'.mono e1.gro, ?_⟩
      have q2 := rs.ext e1 R1 q1
      simp only [if_true] at q2
      cases es : sb σm' h1 with
      | next σ2 h2 => rw [es] at q2; exact fun s2 m2 H2 e2 R2 S2 => ⟨m2, σ2, h2, R2, S2, rs.ext e2 R2 q2⟩
      | cont σ2 h2 => rw [es] at q2; exact fun s2 m2 H2 e2 R2 S2 => ⟨m2, σ2, h2, R2, S2, rs.ext e2 R2 q2⟩
      | brk σ2 h2 => rw [es] at q2; exact q2
      | ret v h2 => rw [es] at q2; exact q2
      | exc x σ2 h2 => rw [es] at q2; exact q2
      | stuck => rw [es] at q2; exact q2
end
/-! #### what is walked -/
section
variable (K : PySem.W.Frag) (mg : Str → Option Value)
structure WkM (J : It) (w : MW) (m1 : List Addr) (H1 : Hp) : Prop where
  goes : ∀ (i : Nat) (H : Hp) (mm : List Addr) (h : MH), i < w.items.length → Rep K mg mm H h → Ext m1 H1 mm H → w.still h = true → J.go i H
  stops : ∀ (H : Hp) (mm : List Addr) (h : MH), Rep K mg mm H h → Ext m1 H1 mm H → w.still h = true → J.stop w.items.length H
  yields : ∀ (i : Nat) (H : Hp) (x : V) (H' : Hp) (mm : List Addr) (h : MH), i < w.items.length → Rep K mg mm H h → Ext m1 H1 mm H → w.still h = true → J.yld i H x H' → ∃ z, w.items[i]? = some z ∧ Ext mm H mm H' ∧ Rep K mg mm H' h ∧ Dv K mg mm H' z x
abbrev DI : Hp → List Addr → Hp → MW → It → Prop := fun _ m H w J => WkM K mg J w m H
def tgI (W : WX) (A : MI) : TI := tg K mg (DI K mg) W A
abbrev SI (W : WX) (X : Cx) (tg iter : Expr) (A : MI) : Prop := PI X tg iter (tgI K mg W A)
/-- the slots differ at vs alone -/
def Upto (vs : List Nat) (σ s : L2.St) : Prop := s.length = σ.length ∧ ∀ j, j ∉ vs → s[j]? = σ[j]?
abbrev DS (vs : List Nat) (σ : L2.St) : Hp → List Addr → Hp → MS → L2.St → Prop := fun _ m H σm s => SRel K mg m H σm s ∧ Upto vs σ s
def tgG (W : WX) (vs : List Nat) (G : MG) : TG := fun v σ H Q => ∃ m σm h x, Rep K mg m H h ∧ SRel K mg m H σm σ ∧ Dv K mg m H x v ∧ rg K mg (DS K mg vs σ) W σ m H (G x σm h) Q
abbrev SG (W : WX) (X : Cx) (vs : List Nat) (t : Expr) (G : MG) : Prop := PG X t (tgG K mg W vs G)
end
def gN (i : Nat) : MG := fun v σ h => .ok (σ.set i (some v)) h
def gsNil : List MV → MS → MH → Res MS := fun vs σ h => match vs with
  | [] => .ok σ h
  | _ => .stuck
def gsCons (g : MG) (r : List MV → MS → MH → Res MS) : List MV → MS → MH → Res MS := fun vs σ h => match vs with
  | v :: vs => (g v σ h).bind fun σ1 h1 => r vs σ1 h1
  | [] => .stuck
def gT (n : Nat) (r : List MV → MS → MH → Res MS) : MG := fun v σ h => match v with
  | .tup xs => if xs.length = n then r xs σ h else .stuck
  | _ => .stuck
section
variable {K : PySem.W.Frag} {mg : Str → Option Value} {X : Cx} {W : WX} {m m1 : List Addr} {H H0 H1 : Hp} {h h1 : MH} {σ : L2.St} {σm : MS} {D : Ends} {pos : Pos} {vs : List Nat}
theorem dmI : DM K mg (DI K mg) := ⟨fun _ _ d => d⟩
theorem dmS : DM K mg (DS K mg vs σ) := ⟨fun _ _ d => d⟩
theorem Upto.refl : Upto vs σ σ := ⟨rfl, fun _ _ => rfl⟩
theorem Upto.trans {s t : L2.St} (a : Upto vs σ s) (b : Upto vs s t) : Upto vs σ t := ⟨b.1.trans a.1, fun j hj => (b.2 j hj).trans (a.2 j hj)⟩
theorem Upto.set {i : Nat} {o : Option V} (hi : i ∈ vs) : Upto vs σ (σ.set i o) := ⟨by simp, fun j hj => List.getElem?_set_ne (fun z => hj (by rw [← z]; exact hi))⟩
theorem sg_name {i : Nat} {x : Str} (hN : X.N.Nodup) (hi : X.N[i]? = some x) (hx : Loc X.env.scope x) (hv : i ∈ vs) (hf : X.fn x = true ∨ X.env.scope.names.lookup x = some .local := by first | exact .inl rfl | exact .inr rfl | assumption) : SG K mg W X vs (.Name x pos) (gN i) :=
  ⟨fun pins s σ H v u Q I r ⟨m, σm, h, x, R, S, d, q⟩ => (pg_name hN hi hx hf).run pins s σ H v u Q I r (q _ m H Ext.refl R ⟨S.set d, Upto.set hv⟩)⟩
def tgGs (K : PySem.W.Frag) (mg : Str → Option Value) (W : WX) (vs : List Nat) (G : List MV → MS → MH → Res MS) : TGs := fun ws σ H Q => ∃ m σm h xs, Rep K mg m H h ∧ SRel K mg m H σm σ ∧ DvAll K mg m H xs ws ∧ rg K mg (DS K mg vs σ) W σ m H (G xs σm h) Q
abbrev SGs (K : PySem.W.Frag) (mg : Str → Option Value) (W : WX) (X : Cx) (vs : List Nat) (t : List Expr) (G : List MV → MS → MH → Res MS) : Prop := PGs X t (tgGs K mg W vs G)
theorem sgs_nil : SGs K mg W X vs [] gsNil := ⟨fun pins s σ H ws us Q I r ⟨m, σm, h, xs, R, S, d, q⟩ => pgs_nil.run pins s σ H ws us Q I r (by
  cases d with
  | nil => exact ⟨rfl, q _ m H Ext.refl R ⟨S, Upto.refl⟩⟩
  | cons _ _ => exact q.elim)⟩
/-- no target raises: the wish at other slots is nothing -/
theorem rg.noexc {α β : Type} {Dd : Hp → List Addr → Hp → α → β → Prop} {W' : WX} {σ' : L2.St} {r : Res α} {Q : β → Hp → Prop} (ne : ∀ x h, r ≠ .exc x h) (q : rg K mg Dd W σ m H r Q) : rg K mg Dd W' σ' m H r Q := by
  cases r with
  | ok a h => exact q
  | exc x h => exact absurd rfl (ne x h)
  | stuck => exact q
def NoX (G : MG) : Prop := ∀ v σ h x h', G v σ h ≠ .exc x h'
def NoXs (G : List MV → MS → MH → Res MS) : Prop := ∀ v σ h x h', G v σ h ≠ .exc x h'
theorem nox_name {i : Nat} : NoX (gN i) := fun _ _ _ _ _ z => by cases z
theorem nox_nil : NoXs gsNil := fun v _ _ _ _ z => by unfold gsNil at z; split at z <;> cases z
theorem nox_cons {g : MG} {r : List MV → MS → MH → Res MS} (h1 : NoX g) (h2 : NoXs r) : NoXs (gsCons g r) := fun v σ h x h' z => by
  unfold gsCons at z
  split at z
  · rename_i v vs
    cases e : g v σ h with
    | ok s h1' => rw [e] at z; exact h2 _ _ _ _ _ z
    | exc y h1' => exact h1 _ _ _ _ _ e
    | stuck => rw [e] at z; cases z
  · cases z
theorem nox_tup {n : Nat} {r : List MV → MS → MH → Res MS} (h2 : NoXs r) : NoX (gT n r) := fun v σ h x h' z => by
  unfold gT at z
  split at z
  · split at z
    · exact h2 _ _ _ _ _ z
    · cases z
  · cases z
theorem sgs_cons {e : Expr} {es : List Expr} {g : MG} {r : List MV → MS → MH → Res MS} (h1 : SG K mg W X vs e g) (h2 : SGs K mg W X vs es r) (nx : NoXs r)
    (hs : (assignEach (e :: es) X.env).map (·.2) = assign e X.env :: (assignEach es X.env).map (·.2) := by rfl) : SGs K mg W X vs (e :: es) (gsCons g r) := ⟨fun pins s σ H ws us Q I rr ⟨m, σm, h, xs, R, S, d, q⟩ => (pgs_cons h1 h2 hs).run pins s σ H ws us Q I rr (by
  cases d with
  | nil => exact q.elim
  | @cons x v xs vs' d1 d2 =>
    refine ⟨v, vs', rfl, m, σm, h, x, R, S, d1, rg.bind q fun σ1 h1 s1 m1 H1 e1 R1 d3 q1 => ?_⟩
    obtain ⟨S1, U1⟩ := d3
    refine ⟨m1, σ1, h1, xs, R1, S1, d2.mono e1.gro, ?_⟩
    have q2 := rg.noexc (W' := W) (σ' := s1) (nx _ _ _) (rg.ext dmS e1 R1 q1)
    cases er : r xs σ1 h1 with
    | ok s2 h2 => rw [er] at q2; exact fun b m' H' e' R' d' => q2 b m' H' e' R' ⟨d'.1, U1.trans d'.2⟩
    | exc x h2 => exact (nx _ _ _ _ _ er).elim
    | stuck => rw [er] at q2; exact q2)⟩
theorem sg_tup {es : List Expr} {k n : Nat} {r : List MV → MS → MH → Res MS} (hc : X.calm = true) (h1 : SGs K mg W X vs es r) (hn : (assignEach es X.env).length = n := by rfl) (hst : (assignEach es X.env).findIdx? (·.1) = none := by rfl) (hK : X.K = K := by rfl) :
    SG K mg W X vs (.Tuple es k pos) (gT n r) := ⟨fun pins s σ H v u Q I rr ⟨m, σm, h, x, R, S, d, q⟩ => (pg_tup hc h1 hn hst).run pins s σ H v u Q I rr (by
  cases x with
  | tup xs =>
    obtain ⟨a, ws, rfl, s1, r1⟩ := sqt_of d
    have q' : rg K mg (DS K mg vs σ) W σ m H (if xs.length = n then r xs σm h else .stuck) Q := q
    by_cases hl : xs.length = n
    · rw [if_pos hl] at q'
      exact ⟨a, ws, rfl, by rw [hK]; exact s1, by rw [← r1.length]; exact hl, m, σm, h, xs, R, S, r1, q'⟩
    · rw [if_neg hl] at q'
      exact q'.elim
  | _ => exact q.elim)⟩
/-! #### for -/
theorem ss_for {t iter : Expr} {body : List Stmt} {I : MI} {G : MG} {sb : MSt} (hp : PassesOwn (model X.prog X.w) X.A X.env X.xe) (hc : X.calm = true) (hi : SI K mg W X t iter I) (hg : SG K mg W X vs t G) (hb : SSs K mg W X body sb)
    (hs : ∀ x, foldedSetIterable iter X.env x = pure x := by intro _; rfl) : SS K mg W X (.For t iter body [] pos) (sFor I G sb) := (ps_for hp hc hi hg hb hs).imp fun D σ H ⟨m, σm, h, R, S, q⟩ => by
  refine ⟨m, σm, h, R, S, rs.part S q fun w h1 J m1 H1 e1 R1 wk q1 => ?_⟩
  refine ⟨fun i k σ' H' => ∃ m' σm' h', Ext m1 H1 m' H' ∧ Rep K mg m' H' h' ∧ SRel K mg m' H' σm' σ' ∧ i ≤ w.items.length ∧ k = w.items.length - i ∧ rs K mg W D m' H' (sForL w.still G sb (w.items.drop i) σm' h'), ⟨_, m1, σm, h1, Ext.refl, R1, S.mono e1.gro, Nat.zero_le _, rfl, rs.ext e1 R1 q1⟩, ?_⟩
  rintro i k σ' H' ⟨m', σm', h', e', R', S', hi', rfl, q'⟩
  by_cases hlt : i < w.items.length
  · rw [List.drop_eq_getElem_cons hlt] at q'
    unfold sForL at q'
    by_cases hst : w.still h' = true
    · rw [if_pos hst] at q'
      refine .inr ⟨wk.goes i H' m' h' hlt R' e' hst, fun σ2 H2 => ∃ m2 σm2 h2, Ext m1 H1 m2 H2 ∧ Rep K mg m2 H2 h2 ∧ SRel K mg m2 H2 σm2 σ2 ∧ i + 1 ≤ w.items.length ∧ w.items.length - (i + 1) = w.items.length - (i + 1) ∧ rs K mg W D m2 H2 (sForL w.still G sb (w.items.drop (i + 1)) σm2 h2), fun σ2 H2 z => ⟨_, by omega, z⟩, fun x H'' y => ?_⟩
      obtain ⟨z, hz, e2, R2, d2⟩ := wk.yields i H' x H'' m' h' hlt R' e' hst y
      rw [List.getElem?_eq_getElem hlt] at hz
      cases hz
      refine ⟨m', σm', h', _, R2, S'.mono e2.gro, d2, rs.part (S'.mono e2.gro) (rs.ext e2 R2 q') fun σ1 h2 s1 m2 H2 e3 R3 d3 q3 => ?_⟩
      refine ⟨m2, σ1, h2, R3, d3.1, ?_⟩
      have q4 := rs.ext e3 R3 q3
      have e4 := (e'.trans e2).trans e3
      cases es : sb σ1 h2 with
      | next σ2 h3 => rw [es] at q4; exact fun s2 m3 H3 e5 R5 S5 => ⟨m3, σ2, h3, e4.trans e5, R5, S5, hlt, rfl, rs.ext e5 R5 q4⟩
      | cont σ2 h3 => rw [es] at q4; exact fun s2 m3 H3 e5 R5 S5 => ⟨m3, σ2, h3, e4.trans e5, R5, S5, hlt, rfl, rs.ext e5 R5 q4⟩
      | brk σ2 h3 => rw [es] at q4; exact q4
      | ret v h3 => rw [es] at q4; exact q4
      | exc x σ2 h3 => rw [es] at q4; exact q4
      | stuck => rw [es] at q4; exact q4
    · rw [if_neg hst] at q'
      exact q'.elim
  · have hi2 : i = w.items.length := by omega
    subst hi2
    rw [List.drop_length] at q'
    unfold sForL at q'
    by_cases hst : w.still h' = true
    · rw [if_pos hst] at q'
      exact .inl ⟨wk.stops H' m' h' R' e' hst, q' σ' m' H' Ext.refl R' S'⟩
    · rw [if_neg hst] at q'
      exact q'.elim
/-! #### comprehensions -/
theorem rg.bn {α β γ δ : Type} {D : Hp → List Addr → Hp → α → β → Prop} {D' : Hp → List Addr → Hp → γ → δ → Prop} {W' : WX} {σ' : L2.St} {m' : List Addr} {H' : Hp} {r : Res α} {f : α → MH → Res γ} {Q : δ → Hp → Prop} {Q' : β → Hp → Prop} (q : rg K mg D' W σ m H (r.bn f) Q)
    (k : ∀ a h1 b m1 H1, Ext m' H' m1 H1 → Rep K mg m1 H1 h1 → D H' m1 H1 a b → rg K mg D' W σ m H (f a h1) Q → Q' b H1) : rg K mg D W' σ' m' H' r Q' := by
  cases r with
  | ok a h' => exact fun b m' H' e' R' d => k a h' b m' H' e' R' d q
  | exc x h' => exact q.elim
  | stuck => exact q.elim
theorem eSet_ns {A : ME} {σm : MS} {x : MV} (e : eSet A σm h = .ok x h1) : ∀ xs, x ≠ .tmp xs := fun xs z => by
  unfold eSet at e
  cases e1 : A σm h with
  | ok v h2 =>
    rw [e1, Res.ok_bind] at e
    cases v <;> (cases e; cases z)
  | exc x h1 => rw [e1] at e; cases e
  | stuck => rw [e1] at e; cases e
theorem wipe_rel {σ : L2.St} {σm : MS} (S : SRel K mg m H σm σ) : ∀ vs : List Nat, SRel K mg m H (wipeM σm vs) (wipe σ vs)
  | [] => S
  | v :: vs => by
    have ih := wipe_rel S vs
    refine ⟨by simp [wipeM, wipe, ih.len], fun i x e => ?_⟩
    have e' : ((wipeM σm vs).set v none)[i]? = some (some x) := e
    by_cases hv : v = i
    · subst hv
      rw [List.getElem?_set] at e'
      simp only [if_true] at e'
      split at e' <;> cases e'
    · rw [List.getElem?_set_ne hv] at e'
      obtain ⟨v', h1, h2⟩ := ih.at_ i x e'
      exact ⟨v', by show ((wipe σ vs).set v none)[i]? = _; rw [List.getElem?_set_ne hv]; exact h1, h2⟩
theorem wipe_get {σ : L2.St} {j : Nat} : ∀ {vs : List Nat}, (wipe σ vs)[j]? = if j < σ.length then (if j ∈ vs then some none else σ[j]?) else none
  | [] => by
    unfold wipe
    by_cases hj : j < σ.length
    · rw [if_pos hj]; simp
    · rw [if_neg hj]; exact List.getElem?_eq_none (by omega)
  | v :: vs => by
    show ((wipe σ vs).set v none)[j]? = _
    rw [List.getElem?_set]
    have ih := wipe_get (σ := σ) (j := j) (vs := vs)
    have hl := wipe_length σ vs
    by_cases hj : j < σ.length
    · rw [if_pos hj] at ih ⊢
      by_cases hv : v = j
      · subst hv
        simp [hl, hj]
      · rw [if_neg hv, ih]
        by_cases hm : j ∈ vs
        · simp [hm]
        · simp [hm, Ne.symm hv]
    · rw [if_neg hj] at ih ⊢
      by_cases hv : v = j
      · subst hv
        simp [hl, hj]
      · rw [if_neg hv]
        exact ih
theorem wipe_upto {σ s : L2.St} (u : Upto vs (wipe σ vs) s) : wipe s vs = wipe σ vs := by
  apply List.ext_getElem?
  intro j
  have hl := wipe_length σ vs
  rw [wipe_get, wipe_get, u.1, hl]
  by_cases hj : j < σ.length
  · rw [if_pos hj, if_pos hj]
    by_cases hm : j ∈ vs
    · rw [if_pos hm, if_pos hm]
    · rw [if_neg hm, if_neg hm, u.2 j hm, wipe_get, if_pos hj, if_neg hm]
  · rw [if_neg hj, if_neg hj]
abbrev W0 : WX := fun _ _ _ _ => False
abbrev SPTs (K : PySem.W.Frag) (mg : Str → Option Value) (W : WX) (X : Cx) (ifs : List Expr) (T : MT) : Prop := PTs X ifs (tg K mg DB W T)
theorem spts_nil : SPTs K mg W X [] tYesM := ⟨fun pins s σ H Q I ⟨m, σm, h, R, S, q⟩ => pts_nil.run pins s σ H Q I (q true m H Ext.refl R rfl)⟩
theorem spts_one {c : Expr} {T : MT} (h : STt K mg W X c T) : SPTs K mg W X [c] T := pts_one h
theorem Ext.upd_free (e : Ext m H m1 H1) {D : Addr} {o : HO} (n : H D = none) : Ext m H m1 (upd H1 D o) := ⟨e.pre, fun a u h t na => by rw [upd_ne (ne_of_none h n)]; exact e.keep a u h t na, fun a u h na => by rw [upd_ne (ne_of_none h n)]; exact e.kept a u h na, e.new, fun a o' u h => by rw [upd_ne (ne_of_none h n)]; exact e.frz a o' u h⟩
theorem gro_lst {D : Addr} {acc : List V} {o : HO} (hD : H D = some (.lst acc)) : Gro m H m (upd H D o) := ⟨⟨[], by simp⟩, fun a u h hl _ _ na => by
  rw [upd_ne (fun z => by rw [z, hD] at h; cases h; exact hl _ rfl)]
  exact h, fun _ _ _ _ _ n => n⟩
theorem Rep.lst (R : Rep K mg m H h) {D : Addr} {acc : List V} {o : HO} (hD : H D = some (.lst acc)) (nD : D ∉ m) : Rep K mg m (upd H D o) h :=
  ⟨R.len, R.nd, fun x q P h1 h2 => (R.tab x q P h1 h2).mono (gro_lst hD) fun ps e => by rw [upd_ne (fun z => by rw [z, hD] at e; cases e)]; exact e, fun i u b e d => (R.ob i u b e d).mono (gro_lst hD) (upd_ne (fun z => nD (by rw [← z]; exact List.mem_of_getElem? d)))⟩
theorem tg_lc {I : MI} {G : MG} {T : MT} {A : ME} {Q : VK} {σ : L2.St} (t : tg K mg (DV K mg) W (eComp I G T A vs) σ H Q) : tLc (tgI K mg W I) (tgG K mg W0 vs G) (tg K mg DB W0 T) (tg K mg (DV K mg) W0 A) vs σ H Q := by
  obtain ⟨m, σm, h, R, S, q⟩ := t
  refine ⟨m, σm, h, R, S, rg.bind q fun w h1 J m1 H1 e1 R1 wk q1 => ?_⟩
  intro D nD
  have nD0 : H D = none := e1.none_of R1 nD
  refine ⟨fun i k H' => ∃ m' h' accm acc, Ext m1 H1 m' H' ∧ Rep K mg m' H' h' ∧ H' D = some (.lst acc) ∧ D ∉ m' ∧ DvAll K mg m' H' accm acc ∧ i ≤ w.items.length ∧ k = w.items.length - i ∧ rg K mg (DV K mg) W σ m H (compL w.still G T A (wipeM σm vs) (w.items.drop i) accm h') Q,
    ⟨_, m1, h1, [], [], Ext.upd_new nD, R1.lay nD, upd_same, R1.out nD, .nil, Nat.zero_le _, rfl, q1⟩, ?_⟩
  rintro i k H' ⟨m', h', accm, acc, e', R', hD, nDm, dA, hi', rfl, q'⟩
  have eH : Ext m H m' H' := e1.trans e'
  by_cases hlt : i < w.items.length
  · rw [List.drop_eq_getElem_cons hlt] at q'
    unfold compL at q'
    by_cases hst : w.still h' = true
    · rw [if_pos hst] at q'
      refine .inr ⟨wk.goes i H' m' h' hlt R' e' hst, fun H2 => ∃ m2 h2 accm acc, Ext m1 H1 m2 H2 ∧ Rep K mg m2 H2 h2 ∧ H2 D = some (.lst acc) ∧ D ∉ m2 ∧ DvAll K mg m2 H2 accm acc ∧ i + 1 ≤ w.items.length ∧ w.items.length - (i + 1) = w.items.length - (i + 1) ∧ rg K mg (DV K mg) W σ m H (compL w.still G T A (wipeM σm vs) (w.items.drop (i + 1)) accm h2) Q, fun H2 z => ⟨_, by omega, z⟩, fun x H'' y => ?_⟩
      obtain ⟨z, hz, e2, R2, d2⟩ := wk.yields i H' x H'' m' h' hlt R' e' hst y
      rw [List.getElem?_eq_getElem hlt] at hz
      cases hz
      have S2 := wipe_rel (S.mono (eH.trans e2).gro) vs
      refine ⟨m', wipeM σm vs, h', _, R2, S2, d2, rg.bn q' fun σ1 h2 s1 m2 H2 e3 R3 d3 q3 => ?_⟩
      obtain ⟨S3, U3⟩ := d3
      refine ⟨wipe_upto U3, m2, σ1, h2, R3, S3, rg.bn q3 fun b h3 b' m3 H3 e4 R4 d4 q4 => ?_⟩
      cases (show b = b' from d4)
      have e14 := ((e'.trans e2).trans e3).trans e4
      have e24 := (e2.trans e3).trans e4
      have hD4 := e24.keep _ _ hD (fun _ z => by cases z) nDm
      have nD4 := e24.out hD nDm
      cases b with
      | false =>
        rw [if_neg Bool.false_ne_true]
        simp only [Bool.false_eq_true, if_false] at q4
        exact ⟨m3, h3, accm, acc, e14, R4, hD4, nD4, dA.mono e24.gro, hlt, rfl, q4⟩
      | true =>
        rw [if_pos rfl]
        simp only [if_true] at q4
        by_cases hsz : accm.length < sizeLine
        · rw [if_pos hsz] at q4
          have hS : ∀ {Q' : VK}, rg K mg (DV K mg) W0 s1 m3 H3 (eSet A σ1 h3) Q' → tg K mg (DV K mg) W0 A s1 H3 Q' := fun {Q'} qq => by
            refine ⟨m3, σ1, h3, R4, S3.mono e4.gro, ?_⟩
            unfold eSet at qq
            cases e : A σ1 h3 with
            | ok v h1 =>
              rw [e] at qq
              exact fun v' m1 H1 e1 R1 d1 => rg.settle (D := DV K mg) (fun d => .v d) e1 R1 d1 qq
            | exc x h1 => rw [e] at qq; exact qq
            | stuck => rw [e] at qq; exact qq
          refine hS ?_
          cases ev : eSet A σ1 h3 with
          | ok v h4 =>
            rw [ev] at q4
            intro v' m4 H4 e5 R5 d5
            have d5' := d5.dv (eSet_ns ev)
            have hD5 := e5.keep _ _ hD4 (fun _ z => by cases z) nD4
            have nD5 := e5.out hD4 nD4
            have g5 : Gro m4 H4 m4 (upd H4 D (.lst (acc ++ [v']))) := gro_lst hD5
            refine ⟨acc, hD5, by rw [← dA.length]; exact hsz, m4, h4, accm ++ [v], acc ++ [v'], (e14.trans e5).upd_free nD, R5.lst hD5 nD5, upd_same, nD5, ?_, hlt, rfl, q4⟩
            exact (((dA.mono e24.gro).mono e5.gro).append (.cons d5' .nil)).mono g5
          | exc x h4 => rw [ev] at q4; exact q4.elim
          | stuck => rw [ev] at q4; exact q4.elim
        · rw [if_neg hsz] at q4
          exact q4.elim
    · rw [if_neg hst] at q'
      exact q'.elim
  · have hi2 : i = w.items.length := by omega
    subst hi2
    rw [List.drop_length] at q'
    unfold compL at q'
    by_cases hst : w.still h' = true
    · rw [if_pos hst] at q'
      exact .inl ⟨wk.stops H' m' h' R' e' hst, q' (.ref D) m' H' eH R' (.tmp hD nDm nD0 dA)⟩
    · rw [if_neg hst] at q'
      exact q'.elim
theorem se_lc {elt t iter : Expr} {ifs : List Expr} {scope : Scope} {own : List (Str × Nat)} {I : MI} {G : MG} {T : MT} {A : ME} (hc : X.calm = true) (hN : X.N.Nodup) (hi : SI K mg W X t iter I) (ok : BlkOk X.N X.env.scope scope own)
    (hg : ∀ (s : Shared) (H : Hp) (C : Addr) (cl : List (Str × Addr)) (fp : List Addr), SG K mg W0 (X.blk s H scope (compEnvC scope cl C X.env) fp) (own.map (·.2)) t G) (ht : ∀ (s : Shared) (H : Hp) (C : Addr) (cl : List (Str × Addr)) (fp : List Addr), SPTs K mg W0 (X.blk s H scope (compEnvC scope cl C X.env) fp) ifs T)
    (he : ∀ (s : Shared) (H : Hp) (C : Addr) (cl : List (Str × Addr)) (fp : List Addr), SE K mg W0 (X.blk s H scope (compEnvC scope cl C X.env) fp) elt A) (hs : ∀ x, foldedSetIterable iter X.env x = pure x := by intro _; rfl) :
    SE K mg W X (.ListComp elt [⟨t, iter, ifs, 0⟩] scope pos) (eComp I G T A (own.map (·.2))) := (pe_lc hc hN hi ok hg ht he hs).imp fun _ _ _ => tg_lc
theorem ss_setLc {i : Nat} {y : Str} {py spos : Pos} {elt t iter : Expr} {ifs : List Expr} {scope : Scope} {own : List (Str × Nat)} {I : MI} {G : MG} {T : MT} {A : ME} (hc : X.calm = true) (hN : X.N.Nodup) (hy : X.N[i]? = some y) (hyl : X.env.scope.names.lookup y = some .local)
    (hsw : swapsWith (.ListComp elt [⟨t, iter, ifs, 0⟩] scope pos) (some (.Name y py)) spos.line X.env = pure true) (hi : SI K mg W X t iter I) (ok : BlkOk X.N X.env.scope scope own)
    (hg : ∀ (s : Shared) (H : Hp) (C : Addr) (cl : List (Str × Addr)) (fp : List Addr), SG K mg W0 (X.blk s H scope (compEnvC scope cl C X.env) fp) (own.map (·.2)) t G) (ht : ∀ (s : Shared) (H : Hp) (C : Addr) (cl : List (Str × Addr)) (fp : List Addr), SPTs K mg W0 (X.blk s H scope (compEnvC scope cl C X.env) fp) ifs T)
    (he : ∀ (s : Shared) (H : Hp) (C : Addr) (cl : List (Str × Addr)) (fp : List Addr), SE K mg W0 (X.blk s H scope (compEnvC scope cl C X.env) fp) elt A) (hs : ∀ x, foldedSetIterable iter X.env x = pure x := by intro _; rfl) :
    SS K mg W X (.Assign [.Name y py] (.ListComp elt [⟨t, iter, ifs, 0⟩] scope pos) spos) (sAsg i (eComp I G T A (own.map (·.2)))) := (ps_setLc hc hN hy hyl hsw hi ok hg ht he hs).imp fun D σ H ⟨m, σm, h, R, S, q⟩ => by
  refine tg_lc ⟨m, σm, h, R, S, rs.part S q fun x h1 x' m1 H1 e1 R1 d1 q1 => ?_⟩
  refine rs.settled e1 R1 d1 S q1 fun y h2 m2 e2 R2 g d2 q2 => ?_
  exact q2 _ m2 H1 e2 R2 ((S.mono e2.gro).set d2)
end
end Mi

set_option maxHeartbeats 400000
/-! ### what is walked; fields; stores -/
namespace Mi
open PySem PySem.Spec PyProof.Rows L2
variable [TheW]
def upInts (lo : Int) (n : Nat) : List MV := (List.range n).map fun (i : Nat) => .int (lo + (i : Int))
noncomputable def iR1 (A : MA) : MI := fun σ h => (A σ h).bind fun vs h1 => match vs with
  | [.int j] => @ite _ (-(2 ^ 62) ≤ j ∧ j < 2 ^ 62) (Classical.propDecidable _) (.ok ⟨upInts 0 j.toNat, fun _ => true⟩ h1) .stuck
  | _ => .stuck
noncomputable def iR2 (A : MA) : MI := fun σ h => (A σ h).bind fun vs h1 => match vs with
  | [.int i, .int j] => @ite _ (-(2 ^ 62) ≤ i ∧ i < 2 ^ 62 ∧ -(2 ^ 62) ≤ j ∧ j < 2 ^ 62) (Classical.propDecidable _) (.ok ⟨upInts i (j - i).toNat, fun _ => true⟩ h1) .stuck
  | _ => .stuck
open Classical in
/-- what must stand still while the value's items are walked -/
noncomputable def stillL (v : MV) (xs : List MV) : MH → Bool := match v with
  | .ref n => fun h => decide (h[n]? = some (.lst xs))
  | _ => fun _ => true
def signs (z : Str) : List MV := z.cps.toList.map fun c => .str ⟨#[c]⟩
noncomputable def iSeq (A : ME) : MI := fun σ h => (A σ h).bind fun v h1 => match v with
  | .str z => .ok ⟨signs z, fun _ => true⟩ h1
  | .tup xs => .ok ⟨xs, fun _ => true⟩ h1
  | v => match asL h1 v with
    | some xs => .ok ⟨xs, stillL v xs⟩ h1
    | none => .stuck
def enumL (k : Nat) : List MV → List MV
  | [] => []
  | x :: xs => .tup [.int k, x] :: enumL (k + 1) xs
noncomputable def iEnm (A : ME) : MI := fun σ h => (A σ h).bind fun v h1 => match v with
  | .str z => .ok ⟨enumL 0 (signs z), fun _ => true⟩ h1
  | v => match asL h1 v with
    | some xs => .ok ⟨enumL 0 xs, stillL v xs⟩ h1
    | none => .stuck
def eFld (c f : Str) (A : ME) : ME := fun σ h => (A σ h).bind fun x h1 => match x with
  | .ref n => match h1[n]? with
    | some (.ins c' fs) => if c' = c then (match fs.lookup f with
      | some v => .ok v h1
      | none => .stuck) else .stuck
    | _ => .stuck
  | _ => .stuck
def putFld (c f : Str) (x v : MV) (h : MH) : Option MH := match x with
  | .ref n => match h[n]? with
    | some (.ins c' fs) => if c' = c ∧ fs.length < 1000 then some (h.set n (.ins c (putM f v fs))) else none
    | _ => none
  | _ => none
def sFldM (c f : Str) (A V : ME) : MSt := fun σ h => (eSet V σ h).st σ fun v h1 => (A σ h1).st σ fun x h2 => match putFld c f x v h2 with
  | some h3 => .next σ h3
  | none => .stuck
def sFldAugM (c f : Str) (op : MV → MV → MH → Res MV) (A V : ME) : MSt := fun σ h => (A σ h).st σ fun x h1 => match x with
  | .ref n => (match h1[n]? with
    | some (.ins c' fs) => if c' = c then (match fs.lookup f with
      | some w => (V σ h1).st σ fun y h2 => (op w y h2).st σ fun z h3 => match z with
        | .tmp _ => .stuck
        | z => (match putFld c f (.ref n) z h3 with
          | some h4 => .next σ h4
          | none => .stuck)
      | none => .stuck) else .stuck
    | _ => .stuck)
  | _ => .stuck
/-- n += k of whole numbers -/
def addI (x y : MV) (h : MH) : Res MV := match x, y with
  | .int i, .int j => .ok (.int (i + j)) h
  | _, _ => .stuck
/-- o[i] = v -/
def setM (o i v : MV) (h : MH) : Option MH := match o, i with
  | .ref n, .int k => match h[n]? with
    | some (.lst xs) => (match ixN xs.length k with
      | some j => some (h.set n (.lst (xs.set j v)))
      | none => none)
    | _ => none
  | _, _ => none
def sSub (O I V : ME) : MSt := fun σ h => (eSet V σ h).st σ fun v h1 => (O σ h1).st σ fun o h2 => (I σ h2).st σ fun i h3 => match setM o i v h3 with
  | some h4 => .next σ h4
  | none => .stuck
def appM (x : MV) (xs : List MV) (h : MH) : Res MV := match x, xs with
  | .ref n, [v] => match h[n]? with
    | some (.lst ys) => if ys.length < sizeLine then .ok .non (h.set n (.lst (ys ++ [v]))) else .stuck
    | _ => .stuck
  | _, _ => .stuck
/-- a method of a list -/
def eLM (f : MV → List MV → MH → Res MV) (A : ME) (AL : MA) : ME := fun σ h => (eSet A σ h).bind fun x h1 => match asL h1 x with
  | some _ => (AL σ h1).bind fun xs h2 => f x xs h2
  | none => .stuck
section
variable {K : PySem.W.Frag} {mg : Str → Option Value} {X : Cx} {W : WX} {m m1 : List Addr} {H H0 H1 : Hp} {h h1 : MH} {σ : L2.St} {σm : MS} {D : Ends} {pos : Pos} {vs : List Nat} {e t : Expr} {A B V' : ME}
theorem upInts_get {lo : Int} {n i : Nat} (hi : i < n) : (upInts lo n)[i]? = some (.int (lo + (i : Int))) := by simp [upInts, hi]
theorem upInts_len {lo : Int} {n : Nat} : (upInts lo n).length = n := by simp [upInts]
theorem wk_range {lo : Int} {n : Nat} : WkM K mg (Itr lo n) ⟨upInts lo n, fun _ => true⟩ m H where
  goes := fun i _ _ _ hi _ _ _ => by rw [upInts_len] at hi; exact hi
  stops := fun _ _ _ _ _ _ => by show n ≤ _; rw [upInts_len]; exact Nat.le_refl _
  yields := fun i H x H' mm h hi R _ _ y => by
    rw [upInts_len] at hi
    obtain ⟨rfl, rfl⟩ := y
    exact ⟨_, upInts_get hi, Ext.refl, R, .int _⟩
theorem si_range1 {p : Pos} {AL : MA} (hm : mg "range" = none) (hg : Gl X "range") (ha : SA K mg W X [e] AL) (hM : X.mg = mg := by rfl) (hs : starEach [e] X.env = [(false, eval e X.env)] := by rfl) : SI K mg W X t (.Call (.Name "range" p) [e] [] pos) (iR1 AL) :=
  ⟨fun pins s σ H R I ⟨m, σm, h, Rp, S, q⟩ => (pi_range1 hg (by rw [hM]; exact hm) ha hs).run pins s σ H R I (by
    refine ⟨m, σm, h, Rp, S, rg.bind q fun xs h1 vs m1 H1 e1 R1 d1 q1 => ?_⟩
    split at q1
    · split at q1
      · rename_i hb
        cases d1 with | cons a d => cases d; cases a; exact ⟨_, rfl, hb.1, hb.2, q1 _ m1 H1 e1 R1 wk_range⟩
      · exact q1.elim
    · exact q1.elim)⟩
theorem si_range2 {p : Pos} {AL : MA} {e2 : Expr} (hm : mg "range" = none) (hg : Gl X "range") (ha : SA K mg W X [e, e2] AL) (hM : X.mg = mg := by rfl) (hs : starEach [e, e2] X.env = [(false, eval e X.env), (false, eval e2 X.env)] := by rfl) (hs2 : starEach [e2] X.env = [(false, eval e2 X.env)] := by rfl) : SI K mg W X t (.Call (.Name "range" p) [e, e2] [] pos) (iR2 AL) :=
  ⟨fun pins s σ H R I ⟨m, σm, h, Rp, S, q⟩ => (pi_range2 hg (by rw [hM]; exact hm) ha hs hs2).run pins s σ H R I (by
    refine ⟨m, σm, h, Rp, S, rg.bind q fun xs h1 vs m1 H1 e1 R1 d1 q1 => ?_⟩
    split at q1
    · split at q1
      · rename_i hb
        cases d1 with | cons a d => cases d with | cons b d => cases d; cases a; cases b; exact ⟨_, _, rfl, hb, q1 _ m1 H1 e1 R1 wk_range⟩
      · exact q1.elim
    · exact q1.elim)⟩
/-- while it stands still, the list stands -/
theorem still_sql {v : MV} {xs : List MV} {a : Addr} {mm : List Addr} {H2 : Hp} {h2 : MH} (d : Dt K mg H0 m1 H1 v (.ref a)) (el : asL h1 v = some xs) (R : Rep K mg mm H2 h2) (e : Ext m1 H1 mm H2) (st : stillL v xs h2 = true) : ∃ ws, SqL K H2 a ws ∧ DvAll K mg mm H2 xs ws := by
  have d2 := d.mono e
  cases v with
  | ref n =>
    have el2 : asL h2 (.ref n) = some xs := by
      have z : h2[n]? = some (.lst xs) := by simpa [stillL] using st
      unfold asL
      dsimp only
      rw [z]
    obtain ⟨b, ws, e1, s1, r1⟩ := d2.asL R el2
    cases e1
    exact ⟨ws, s1, r1⟩
  | tmp ys =>
    obtain ⟨b, ws, e1, s1, r1⟩ := d2.asL R (xs := xs) el
    cases e1
    exact ⟨ws, s1, r1⟩
  | con ys =>
    obtain ⟨b, ws, e1, s1, r1⟩ := d2.asL R (xs := xs) el
    cases e1
    exact ⟨ws, s1, r1⟩
  | _ => cases el
theorem wk_list {v : MV} {xs : List MV} {a : Addr} (d : Dt K mg H0 m1 H1 v (.ref a)) (el : asL h1 v = some xs) : WkM K mg (Itl K a) ⟨xs, stillL v xs⟩ m1 H1 where
  goes := fun i H mm h hi R e st => by
    obtain ⟨ws, s1, r1⟩ := still_sql d el R e st
    have hi' : i < ws.length := by rw [← r1.length]; exact hi
    exact ⟨ws, ws[i], s1, by simp [hi']⟩
  stops := fun H mm h R e st => by
    obtain ⟨ws, s1, r1⟩ := still_sql d el R e st
    exact ⟨ws, s1, by rw [← r1.length]; exact Nat.le_refl _⟩
  yields := fun i H x H' mm h hi R e st y => by
    obtain ⟨ws, s1, r1⟩ := still_sql d el R e st
    obtain ⟨rfl, y⟩ := y
    have hi' : i < xs.length := hi
    obtain ⟨w, h1, h2⟩ := r1.get (List.getElem?_eq_getElem hi')
    have := y ws s1
    rw [h1] at this
    cases this
    exact ⟨_, List.getElem?_eq_getElem hi', Ext.refl, R, h2⟩
theorem Dv.sqt {xs : List MV} {a : Addr} (d : Dv K mg m H (.tup xs) (.ref a)) : ∃ ws, SqT K H a ws ∧ DvAll K mg m H xs ws := by
  obtain ⟨b, ws, e, s, r⟩ := sqt_of d
  cases e
  exact ⟨ws, s, r⟩
theorem wk_tup {xs : List MV} {a : Addr} (d : Dv K mg m1 H1 (.tup xs) (.ref a)) : WkM K mg (Itt K a) ⟨xs, fun _ => true⟩ m1 H1 where
  goes := fun i H mm h hi R e st => by
    obtain ⟨ws, s1, r1⟩ := (d.mono e.gro).sqt
    have hi' : i < ws.length := by rw [← r1.length]; exact hi
    exact ⟨ws, ws[i], s1, by simp [hi']⟩
  stops := fun H mm h R e st => by
    obtain ⟨ws, s1, r1⟩ := (d.mono e.gro).sqt
    exact ⟨ws, s1, by rw [← r1.length]; exact Nat.le_refl _⟩
  yields := fun i H x H' mm h hi R e st y => by
    obtain ⟨ws, s1, r1⟩ := (d.mono e.gro).sqt
    obtain ⟨rfl, y⟩ := y
    have hi' : i < xs.length := hi
    obtain ⟨w, h1, h2⟩ := r1.get (List.getElem?_eq_getElem hi')
    have := y ws s1
    rw [h1] at this
    cases this
    exact ⟨_, List.getElem?_eq_getElem hi', Ext.refl, R, h2⟩
theorem signs_len {z : Str} : (signs z).length = z.cps.size := by simp [signs]
theorem signs_get {z : Str} {i c : Nat} (e : z.cps[i]? = some c) : (signs z)[i]? = some (.str ⟨#[c]⟩) := by
  unfold signs
  rw [List.getElem?_map, Array.getElem?_toList, e]
  rfl
theorem wk_str {z : Str} : WkM K mg (Its z) ⟨signs z, fun _ => true⟩ m H where
  goes := fun i _ _ _ hi _ _ _ => by rw [signs_len] at hi; exact hi
  stops := fun _ _ _ _ _ _ => by show z.cps.size ≤ _; rw [signs_len]; exact Nat.le_refl _
  yields := fun i H x H' mm h hi R _ _ y => by
    obtain ⟨rfl, c, hc, rfl⟩ := y
    exact ⟨_, signs_get hc, Ext.refl, R, .str _⟩
theorem si_seq (ha : SE K mg W X e A) (hK : X.K = K := by rfl) : SI K mg W X t e (iSeq A) := ⟨fun pins s σ H Rr I ⟨m, σm, h, R, S, q⟩ => by
  have q : rg K mg (DI K mg) W σ m H (iSeq A σm h) Rr := q
  unfold iSeq at q
  cases ev : A σm h with
  | stuck => rw [ev] at q; exact q.elim
  | exc x h1 => rw [ev] at q; exact (pi_list ha).run pins s σ H Rr I ⟨m, σm, h, R, S, by rw [ev]; exact q⟩
  | ok v h1 =>
    rw [ev, Res.ok_bind] at q
    have lst : ∀ {xs}, asL h1 v = some xs → rg K mg (DI K mg) W σ m H (.ok ⟨xs, stillL v xs⟩ h1) Rr → wpAny (model X.prog X.w) X.A (eval e X.env) (fun v s1 => wpAny (model X.prog X.w) X.A (pyIter v) (PIE X pins σ t Rr) X.xe s1) X.xe s := fun {xs} el q => by
      refine (pi_list ha).run pins s σ H Rr I ⟨m, σm, h, R, S, ?_⟩
      rw [ev]
      intro v' m1 H1 e1 R1 d1
      obtain ⟨a, ws, rfl, s1, r1⟩ := d1.asL R1 el
      subst hK
      exact ⟨a, rfl, ⟨ws, s1⟩, q _ m1 H1 e1 R1 (wk_list d1 el)⟩
    cases v with
    | str z =>
      refine (pi_str ha).run pins s σ H Rr I ⟨m, σm, h, R, S, ?_⟩
      rw [ev]
      intro v' m1 H1 e1 R1 d1
      cases d1.dv (fun _ => MV.noConfusion)
      exact ⟨z, rfl, q _ m1 H1 e1 R1 wk_str⟩
    | tup xs =>
      refine (pi_tup ha).run pins s σ H Rr I ⟨m, σm, h, R, S, ?_⟩
      rw [ev]
      intro v' m1 H1 e1 R1 d1
      obtain ⟨a, ws, rfl, s1, r1⟩ := d1.tup
      subst hK
      exact ⟨a, rfl, ⟨ws, s1⟩, q _ m1 H1 e1 R1 (wk_tup (d1.dv (fun _ => MV.noConfusion)))⟩
    | tmp xs => exact lst rfl q
    | con xs => exact lst rfl q
    | ref n =>
      cases el : asL h1 (.ref n) with
      | none => dsimp only at q; rw [el] at q; exact q.elim
      | some xs => dsimp only at q; rw [el] at q; exact lst el q
    | _ => exact q.elim⟩
theorem enumL_len {k : Nat} : ∀ {xs : List MV}, (enumL k xs).length = xs.length
  | [] => rfl
  | x :: xs => by simp [enumL, enumL_len (k := k + 1) (xs := xs)]
theorem enumL_get : ∀ {xs : List MV} {k i : Nat} {x : MV}, xs[i]? = some x → (enumL k xs)[i]? = some (.tup [.int ((k + i : Nat) : Int), x])
  | [], _, _, _, e => by simp at e
  | y :: ys, k, 0, x, e => by
    have : y = x := by simpa using e
    subst this
    simp [enumL]
  | y :: ys, k, i + 1, x, e => by
    have h : ys[i]? = some x := by simpa using e
    have ih := enumL_get (k := k + 1) h
    show (enumL (k + 1) ys)[i]? = _
    rw [ih, show k + 1 + i = k + (i + 1) by omega]
theorem wk_enum {v : MV} {xs : List MV} {a : Addr} (d : Dt K mg H0 m1 H1 v (.ref a)) (el : asL h1 v = some xs) : WkM K mg (Ite K a) ⟨enumL 0 xs, stillL v xs⟩ m1 H1 where
  goes := fun i H mm h hi R e st => by
    obtain ⟨ws, s1, r1⟩ := still_sql d el R e st
    have hi' : i < ws.length := by rw [← r1.length, ← enumL_len (k := 0)]; exact hi
    exact ⟨ws, ws[i], s1, by simp [hi']⟩
  stops := fun H mm h R e st => by
    obtain ⟨ws, s1, r1⟩ := still_sql d el R e st
    refine ⟨ws, s1, ?_⟩
    show ws.length ≤ (enumL 0 xs).length
    rw [enumL_len, r1.length]
    exact Nat.le_refl _
  yields := fun i H x H' mm h hi R e st y => by
    obtain ⟨ws, s1, r1⟩ := still_sql d el R e st
    obtain ⟨T, z, rfl, nT, rfl, y⟩ := y
    have hi' : i < xs.length := by rw [← enumL_len (k := 0)]; exact hi
    obtain ⟨w, h1, h2⟩ := r1.get (List.getElem?_eq_getElem hi')
    have := y ws s1
    rw [h1] at this
    cases this
    refine ⟨_, enumL_get (List.getElem?_eq_getElem hi'), Ext.upd_new nT, R.lay nT, .tup upd_same (R.out nT) (.cons ?_ (.cons (h2.mono (Ext.upd_new nT).gro) .nil))⟩
    rw [Nat.zero_add]
    exact .int _
end
/-! ### enumerate(text) -/
theorem draws_str {prog : Program} {w : World} {A : Around} (hh : A.handled = none) (it : Addr) (x : Str) (t : Tok) :
    Draws prog w A it [it] x.cps.size (fun i v => ∃ c u, x.cps[i]? = some c ∧ v = .str ⟨#[c]⟩ u) (fun i h => h.IsStrIter it (strIterType x) x t i) := by
  unfold strIterType
  cases x.cps.all (· < 128) with
  | true => exact Draws.strAscii hh it x t
  | false => exact Draws.strWide hh it x t
def ItES (x : Str) : It := ⟨fun i _ => i < x.cps.size, fun i H v H' => ∃ T c, v = .ref T ∧ H T = none ∧ H' = upd H T (.tup [.int (i : Nat), .str ⟨#[c]⟩]) ∧ x.cps[i]? = some c, fun i _ => i = x.cps.size⟩
theorem turn_enumS {P : Program} {w : World} {K : PySem.W.Frag} {elts : List Expr} {kk : Nat} {tpos : Pos} (x : Str) (t : Tok) (e it : Addr) :
    Turn P w K (.Tuple elts kk tpos) (ItES x) [e, it] e (fun i h => (∃ old, IsEnum h e it ((i : Nat) : Int) old) ∧ h.IsStrIter it (strIterType x) x t i ∧ e ≠ it) where
  mem := by simp
  obj := fun i h st b hb => by
    obtain ⟨⟨old, he⟩, ⟨o, ho, hc, hd⟩, _⟩ := st
    have e' : b = e ∨ b = it := by simpa using hb
    rcases e' with z | z
    · rw [z]; exact ⟨_, he, fun v q => nomatch q⟩
    · rw [z]; exact ⟨o, ho, fun v q => by rw [hd] at q; cases q⟩
  keep := fun i h h' st k => let ⟨⟨old, he⟩, ⟨o, ho, hr⟩, hne⟩ := st; ⟨⟨old, k e (by simp) _ he⟩, ⟨o, k it (by simp) _ ho, hr⟩, hne⟩
  item := by
    intro X hP hw hK hc i pins s σ H E I hf st hg
    subst hP hw hK
    obtain ⟨⟨old, he⟩, hit, hne⟩ := st
    have hel : e < s.heap.objs.size := Heap.lt_size he
    have hil : it < s.heap.objs.size := by obtain ⟨_, q, _⟩ := hit; exact Heap.lt_size q
    refine wpAny_pyNext_enum_itemD (draws_str (show X.A.in1.handled = none from I.ok.hd hc) it x t) he hit hg hne (by simp [hne]) fun v h' tk hP ho hit' hT hsz hk => ?_
    obtain ⟨c, u, hcx, rfl⟩ := hP
    refine ⟨_, rfl, wpAny_letOwnedTupleGo_enum (s := { s with heap := h', toks := tk + 1 }) ho fun h'' he' sb => ?_⟩
    have hT2 : h''.get? s.heap.objs.size = some { cls := .type "tuple", data := .seq #[.int i tk, .str ⟨#[c]⟩ u] } := (sb.2 _ (Nat.ne_of_gt hel)).trans hT
    have new : ObjOk X.prog X.w (upd H s.heap.objs.size (.tup [.int (i : Nat), .str ⟨#[c]⟩])) h'' s.heap.objs.size (.tup [.int (i : Nat), .str ⟨#[c]⟩]) :=
      ⟨by show 2 ≤ sizeLine; decide, [.int i tk, .str ⟨#[c]⟩ u], .cons ⟨_, rfl⟩ (.cons ⟨_, rfl⟩ .nil), ⟨_, hT2, rfl, _, rfl⟩⟩
    have I1 : Inv X pins σ (upd H s.heap.objs.size (.tup [.int (i : Nat), .str ⟨#[c]⟩])) { s with heap := h'', toks := tk + 1 } :=
      I.turnedNew (ch := [e, it]) (fun b ob hb q => (sb.2 b (fun z => hb (by simp [z]))).trans (hk b ob (fun z => hb (by simp [z])) (fun z => hb (by simp [z])) q)) hf (Nat.le_refl _) new
    refine ⟨.ref s.heap.objs.size, _, I1, rfl, ⟨_, c, rfl, I.hok.fresh (Nat.le_refl _), rfl, hcx⟩, ⟨⟨.str ⟨#[c]⟩ u, ?_⟩, ?_, hne⟩, fun b hb => ?_⟩
    · have e1 : ((i + 1 : Nat) : Int) = (i : Int) + 1 := by omega
      rw [e1]; exact he'
    · obtain ⟨o, ho', hr⟩ := hit'
      exact ⟨o, (sb.2 it (Ne.symm hne)).trans ho', hr⟩
    · have hb' : b < s.heap.objs.size := by
        have e' : b = e ∨ b = it := by simpa using hb
        rcases e' with z | z
        · rw [z]; exact hel
        · rw [z]; exact hil
      rw [upd_ne (Nat.ne_of_lt hb')]
      exact (hf b hb).1
  done := by
    intro X hP hw hK hc i pins s σ H E I hf st hg
    subst hP hw hK
    obtain ⟨⟨old, he⟩, hit, hne⟩ := st
    have hg' : i = x.cps.size := hg
    subst hg'
    obtain ⟨f0, f1, f2, f3, f4, f5⟩ := hf it (by simp)
    exact wpAny_pyNext_enum_endD (draws_str (show X.A.in1.handled = none from I.ok.hd hc) it x t) he hit fun h' eb => ⟨rfl, I.turned (t' := s.toks) (fun b o hb q => eb b o hb q) f0 f1 f3 f4 f5⟩
  self := fun A i s Q E st h => let ⟨⟨_, he⟩, _⟩ := st; wpAny_pyIter_enum he h
def iEnumS (ta : TA) : TI := fun σ H R => ta σ H fun vs H1 => ∃ x, vs = [.str x] ∧ R (ItES x) H1
theorem pi_enumS {X : Cx} {e : Expr} {ta : TA} {p pos tpos : Pos} {elts : List Expr} {kk : Nat} (hg : Gl X "enumerate") (hm : X.mg "enumerate" = none) (ha : PA X [e] ta) (hs : starEach [e] X.env = [(false, eval e X.env)] := by rfl) :
    PI X (.Tuple elts kk tpos) (.Call (.Name "enumerate" p) [e] [] pos) (iEnumS ta) := by
  refine ⟨fun pins s σ H R I h => ?_⟩
  refine Call_ (ld_blt I hg hm boot_enumerate (PyProof.Rows.callWith_type1 (thn (ha.run pos pins s σ H _ I h) fun us s1 ⟨vs, H1, I1, r1, q1⟩ => ?_) hs rfl))
  obtain ⟨x, ex, q⟩ := q1
  subst ex
  cases r1 with
  | cons r rr =>
    cases rr
    obtain ⟨t, rfl⟩ := r
    refine call_enumerate_str fun h' he hit hsz hk => wpAny_pyIter_enum he ?_
    have I2 : Inv X pins σ H1 { s1 with heap := h' } := I1.kept (t' := s1.toks) hk
    refine ⟨s1.heap.objs.size + 1, [s1.heap.objs.size + 1, s1.heap.objs.size], _, _, H1, rfl, I2, turn_enumS x t (s1.heap.objs.size + 1) s1.heap.objs.size, ⟨⟨.none, he⟩, hit, Nat.succ_ne_self _⟩, fun b hb => ?_, q⟩
    have e' : b = s1.heap.objs.size + 1 ∨ b = s1.heap.objs.size := by simpa using hb
    have hle : s1.heap.objs.size ≤ b := by
      rcases e' with z | z
      · rw [z]; exact Nat.le_add_right _ _
      · rw [z]; exact Nat.le_refl _
    exact I1.fpOk hle (I1.hok.fresh hle)
section
variable {K : PySem.W.Frag} {mg : Str → Option Value} {X : Cx} {W : WX} {m m1 : List Addr} {H H0 H1 : Hp} {h h1 : MH} {σ : L2.St} {σm : MS} {D : Ends} {pos : Pos} {vs : List Nat} {e t : Expr} {A B V' : ME}
theorem wk_enumS {z : Str} : WkM K mg (ItES z) ⟨enumL 0 (signs z), fun _ => true⟩ m H where
  goes := fun i _ _ _ hi _ _ _ => by rw [enumL_len, signs_len] at hi; exact hi
  stops := fun _ _ _ _ _ _ => by show _ = z.cps.size; rw [enumL_len, signs_len]
  yields := fun i H x H' mm h hi R _ _ y => by
    obtain ⟨T, c, rfl, nT, rfl, hc⟩ := y
    refine ⟨_, enumL_get (signs_get hc), Ext.upd_new nT, R.lay nT, .tup upd_same (R.out nT) (.cons ?_ (.cons (.str _) .nil))⟩
    rw [Nat.zero_add]
    exact .int _
theorem si_enum {p tpos : Pos} {elts : List Expr} {kk : Nat} (hm : mg "enumerate" = none) (hg : Gl X "enumerate") (ha : SE K mg W X e A) (hM : X.mg = mg := by rfl) (hs : starEach [e] X.env = [(false, eval e X.env)] := by rfl) (hK : X.K = K := by rfl) :
    SI K mg W X (.Tuple elts kk tpos) (.Call (.Name "enumerate" p) [e] [] pos) (iEnm A) := ⟨fun pins s σ H Rr I ⟨m, σm, h, R, S, q⟩ => by
  have q : rg K mg (DI K mg) W σ m H (iEnm A σm h) Rr := q
  have hm' : X.mg "enumerate" = none := by rw [hM]; exact hm
  unfold iEnm at q
  cases ev : A σm h with
  | stuck => rw [ev] at q; exact q.elim
  | exc x h1 => rw [ev] at q; exact (pi_enum hg hm' (pa_cons ha pa_nil hs) hs).run pins s σ H Rr I ⟨m, σm, h, R, S, by rw [ev]; exact q⟩
  | ok v h1 =>
    rw [ev, Res.ok_bind] at q
    have lst : ∀ {xs}, asL h1 v = some xs → rg K mg (DI K mg) W σ m H (.ok ⟨enumL 0 xs, stillL v xs⟩ h1) Rr → wpAny (model X.prog X.w) X.A (eval (.Call (.Name "enumerate" p) [e] [] pos) X.env) (fun v s1 => wpAny (model X.prog X.w) X.A (pyIter v) (PIE X pins σ (.Tuple elts kk tpos) Rr) X.xe s1) X.xe s := fun {xs} el q => by
      refine (pi_enum hg hm' (pa_cons ha pa_nil hs) hs).run pins s σ H Rr I ⟨m, σm, h, R, S, ?_⟩
      rw [ev]
      intro v' m1 H1 e1 R1 d1
      obtain ⟨a, ws, rfl, s1, r1⟩ := d1.asL R1 el
      subst hK
      exact ⟨a, ws, rfl, s1, q _ m1 H1 e1 R1 (wk_enum d1 el)⟩
    cases v with
    | str z =>
      refine (pi_enumS hg hm' (pa_cons ha pa_nil hs) hs).run pins s σ H Rr I ⟨m, σm, h, R, S, ?_⟩
      rw [ev]
      intro v' m1 H1 e1 R1 d1
      cases d1.dv (fun _ => MV.noConfusion)
      exact ⟨z, rfl, q _ m1 H1 e1 R1 wk_enumS⟩
    | tmp xs => exact lst rfl q
    | con xs => exact lst rfl q
    | ref n =>
      cases el : asL h1 (.ref n) with
      | none => dsimp only at q; rw [el] at q; exact q.elim
      | some xs => dsimp only at q; rw [el] at q; exact lst el q
    | _ => exact q.elim⟩
/-! #### fields -/
/-- f is no attribute of the class c itself -/
def AtF (K : PySem.W.Frag) (mg : Str → Option Value) (c f : Str) : Prop := ∀ C, mg c = some (.ref C) → Cls K C ∧ NoAttr K C f
theorem se_fld {c f : Str} (F : AtF K mg c f) (ha : SE K mg W X e A) (hb : attributeBase e f X.env (eval e X.env) = eval e X.env := by rfl) (hK : X.K = K := by rfl) : SE K mg W X (.Attribute e f pos) (eFld c f A) := (pe_fld ha hb).imp fun σ H Q ⟨m, σm, h, R, S, q⟩ => by
  subst hK
  refine ⟨m, σm, h, R, S, rg.bind q fun x h1 x' m1 H1 e1 R1 d1 q1 => ?_⟩
  cases x with
  | ref n =>
    cases d1.dv (fun _ => MV.noConfusion) with
    | @ref _ a hn =>
      dsimp only at q1
      cases eo : h1[n]? with
      | none => rw [eo] at q1; exact q1.elim
      | some o =>
        rw [eo] at q1
        have ob := R1.at_ eo hn
        cases o with
        | ins c' fs =>
          obtain ⟨C, dx, gs, k1, k2, k3, k4, k5⟩ := ob
          dsimp only at q1
          by_cases hc : c' = c
          · subst hc
            rw [if_pos rfl] at q1
            cases el : fs.lookup f with
            | none => rw [el] at q1; exact q1.elim
            | some v =>
              rw [el] at q1
              obtain ⟨v', l1, l2⟩ := k5.lookup el
              exact ⟨a, C, dx, gs, v', rfl, k1, (F C k2).1, (F C k2).2, l1, q1 v' m1 H1 e1 R1 (.v l2)⟩
          · rw [if_neg hc] at q1
            exact q1.elim
        | _ => exact q1.elim
  | _ => exact q1.elim
theorem DvF.put {f : Str} {x : MV} {v : V} (d : Dv K mg m H x v) : ∀ {fs : List (Str × MV)} {gs : List (Str × V)}, DvF K mg m H fs gs → DvF K mg m H (putM f x fs) (putF f v gs)
  | _, _, .nil => .cons d .nil
  | _, _, .cons (f := g) r t => by
    unfold putM putF
    by_cases hg : g = f
    · rw [if_pos hg, if_pos hg]; exact .cons d t
    · rw [if_neg hg, if_neg hg]; exact .cons r (DvF.put d t)
/-- a field is written -/
theorem put_ok {c f : Str} (F : AtF K mg c f) {x v : MV} {x' v' : V} {h3 : MH} (R : Rep K mg m H h) (dx : Dt K mg H0 m H x x') (dv : Dv K mg m H v v') (e : putFld c f x v h = some h3) : ∃ a C dd gs, x' = .ref a ∧ H a = some (.ins C dd gs) ∧ Cls K C ∧ NoAttr K C f ∧ gs.length < 1000 ∧ Ext m H m (upd H a (.ins C dd (putF f v' gs))) ∧ Rep K mg m (upd H a (.ins C dd (putF f v' gs))) h3 := by
  unfold putFld at e
  cases x with
  | ref n =>
    cases dx.dv (fun _ => MV.noConfusion) with
    | @ref _ a hn =>
      dsimp only at e
      cases eo : h[n]? with
      | none => rw [eo] at e; cases e
      | some o =>
        rw [eo] at e
        have ob := R.at_ eo hn
        cases o with
        | ins c' fs =>
          obtain ⟨C, dx, gs, k1, k2, k3, k4, k5⟩ := ob
          dsimp only at e
          by_cases hc : c' = c ∧ fs.length < 1000
          · rw [if_pos hc] at e
            obtain ⟨hc, hl⟩ := hc
            subst hc
            cases e
            have ha : a ∈ m := List.mem_of_getElem? hn
            have ex : Ext m H m (upd H a (.ins C dx (putF f v' gs))) := Ext.upd_at ha (fun _ _ z => by rw [k1] at z; cases z)
            refine ⟨a, C, dx, gs, rfl, k1, (F C k2).1, (F C k2).2, by rw [← k5.length]; exact hl, ex, R.write hn ⟨C, dx, _, upd_same, k2, k3, ex.keep _ _ k4 (fun _ z => by cases z) k3, ?_⟩⟩
            exact (k5.put dv).mono ex.gro
          · rw [if_neg hc] at e
            cases e
        | _ => cases e
  | _ => cases e
theorem ss_fld {c f : Str} {o value : Expr} {pos' : Pos} (F : AtF K mg c f) (ha : SE K mg W X o A) (hv : SE K mg W X value V') (hs : swapsWith value (some (.Attribute o f pos')) pos.line X.env = pure false := by rfl) (hK : X.K = K := by rfl) :
    SS K mg W X (.Assign [.Attribute o f pos'] value pos) (sFldM c f A V') := (ps_fld ha (se_set hv) hs).imp fun D σ H ⟨m, σm, h, R, S, q⟩ => by
  subst hK
  refine ⟨m, σm, h, R, S, ?_⟩
  unfold sFldM at q
  cases ev : eSet V' σm h with
  | stuck => rw [ev] at q; exact q.elim
  | exc x h1 => rw [ev] at q; exact fun cls d m' H' e' R' x => q cls d σ m' H' e' R' (S.mono e'.gro) x
  | ok v h1 =>
    rw [ev, Res.ok_st] at q
    intro v' m1 H1 e1 R1 d1
    have d1' := d1.dv (eSet_ns ev)
    refine ⟨m1, σm, h1, R1, S.mono e1.gro, rs.part (S.mono e1.gro) (rs.ext e1 R1 q) fun x h2 x' m2 H2 e2 R2 d2 q2 => ?_⟩
    cases ep : putFld c f x v h2 with
    | none => rw [ep] at q2; exact q2.elim
    | some h3 =>
      rw [ep] at q2
      obtain ⟨a, C, dd, gs, k1, k2, k3, k4, k5, k6, k7⟩ := put_ok F R2 d2 (d1'.mono e2.gro) ep
      exact ⟨a, C, dd, gs, k1, k2, k3, k4, k5, q2 σ m2 _ (e2.trans k6) k7 (((S.mono e1.gro).mono e2.gro).mono k6.gro)⟩
theorem ss_fldAug {c f : Str} {o value : Expr} {tpos : Pos} {op : Operator} {g : MV → MV → MH → Res MV} (F : AtF K mg c f) (ha : SE K mg W X o A) (hv : SE K mg W X value V') (hop : InOp X op (rOp K mg g)) (hK : X.K = K := by rfl) :
    SS K mg W X (.AugAssign (.Attribute o f tpos) op value pos) (sFldAugM c f g A V') := (ps_fldaug ha hv hop).imp fun D σ H ⟨m, σm, h, R, S, q⟩ => by
  subst hK
  refine ⟨m, σm, h, R, S, rs.part S q fun x h1 x' m1 H1 e1 R1 d1 q1 => ?_⟩
  cases x with
  | ref n =>
    cases d1.dv (fun _ => MV.noConfusion) with
    | @ref _ a hn =>
      dsimp only at q1
      cases eo : h1[n]? with
      | none => rw [eo] at q1; exact q1.elim
      | some o =>
        rw [eo] at q1
        have ob := R1.at_ eo hn
        cases o with
        | ins c' fs =>
          obtain ⟨C, dx, gs, k1, k2, k3, k4, k5⟩ := ob
          dsimp only at q1
          by_cases hc : c' = c
          · subst hc
            rw [if_pos rfl] at q1
            cases el : fs.lookup f with
            | none => rw [el] at q1; exact q1.elim
            | some w =>
              rw [el] at q1
              obtain ⟨w', l1, l2⟩ := k5.lookup el
              refine ⟨a, C, dx, gs, w', rfl, k1, (F C k2).1, (F C k2).2, l1, m1, σm, h1, R1, S.mono e1.gro, rs.part (S.mono e1.gro) (rs.ext e1 R1 q1) fun y h2 y' m2 H2 e2 R2 d2 q2 => ?_⟩
              refine ⟨m2, h2, w, y, H, H1, σ, W, R2, .v (l2.mono e2.gro), d2, rs.part ((S.mono e1.gro).mono e2.gro) (rs.ext e2 R2 q2) fun z h3 z' m3 H3 e3 R3 d3 q3 => ?_⟩
              have hn3 : m3[n]? = some a := e3.get (e2.get hn)
              split at q3
              · exact q3.elim
              · rename_i zz hz
                cases ep : putFld c' f (.ref n) z h3 with
                | none => rw [ep] at q3; exact q3.elim
                | some h4 =>
                  rw [ep] at q3
                  obtain ⟨a', C', dd, gs', j1, j2, j3, j4, j5, j6, j7⟩ := put_ok F (x' := .ref a) (H0 := H3) R3 (.v (.ref hn3)) (d3.dv hz) ep
                  cases j1
                  have hcc : C' = C := by
                    have hn3' := hn3
                    obtain ⟨ob3, ho3⟩ : ∃ o, h3[n]? = some o := by
                      have hl : n < h3.length := by rw [← R3.len]; exact (List.getElem?_eq_some_iff.mp hn3).1
                      exact ⟨_, List.getElem?_eq_getElem hl⟩
                    have o3 := R3.at_ ho3 hn3
                    unfold putFld at ep
                    dsimp only at ep
                    rw [ho3] at ep
                    cases ob3 with
                    | ins c3 fs3 =>
                      dsimp only at ep
                      by_cases hc3 : c3 = c' ∧ fs3.length < 1000
                      · obtain ⟨C3, dx3, gs3, i1, i2, _⟩ := o3
                        rw [hc3.1, k2] at i2
                        rw [i1] at j2
                        cases j2
                        cases i2
                        rfl
                      · rw [if_neg hc3] at ep; cases ep
                    | _ => cases ep
                  subst hcc
                  exact ⟨dd, gs', j2, j5, q3 σ m3 _ (e3.trans j6) j7 ((((S.mono e1.gro).mono e2.gro).mono e3.gro).mono j6.gro)⟩
          · rw [if_neg hc] at q1
            exact q1.elim
        | _ => exact q1.elim
  | _ => exact q1.elim
/-! #### stores to places of a list -/
def rSet (K : PySem.W.Frag) (mg : Str → Option Value) : TSet := fun o' i' v' H Q => ∃ m h o i v H0 H1 h2, Rep K mg m H h ∧ Dt K mg H0 m H o o' ∧ Dt K mg H1 m H i i' ∧ Dv K mg m H v v' ∧ setM o i v h = some h2 ∧ ∀ H', Ext m H m H' → Rep K mg m H' h2 → Q H'
theorem om_set : PSet X (rSet K mg) := by
  intro pins s σ H o' i' v' ov iv u Q I ro ri rv ⟨m, h, o, i, v, H0, H1, h2, R, d1, d2, d3, e, q⟩
  unfold setM at e
  split at e
  · rename_i n k
    cases d2.dv (fun _ => MV.noConfusion)
    cases d1.dv (fun _ => MV.noConfusion) with
    | @ref _ a hn =>
      split at e
      · rename_i xs eo
        obtain ⟨ws, k1, k2⟩ := R.at_ eo hn
        split at e
        · rename_i j ej
          cases e
          have ha : a ∈ m := List.mem_of_getElem? hn
          have ex : Ext m H m (upd H a (.lst (ws.set j v'))) := Ext.upd_at ha (fun _ _ z => by rw [k1] at z; cases z)
          exact set_list pins s σ H _ _ _ ov iv u Q I ro ri rv ⟨a, ws, k, j, rfl, rfl, k1, by rw [← k2.length]; exact ej, q _ ex (R.write hn ⟨_, upd_same, (k2.set d3 j).mono ex.gro⟩)⟩
        · cases e
      · cases e
  · cases e
theorem ss_sub {o i value : Expr} {pos' : Pos} {O J : ME} (ho : SE K mg W X o O) (hi : SE K mg W X i J) (hv : SE K mg W X value V')
    (ha : ∀ v, assign (.Subscript o i pos') X.env v = (do
      let ov ← holding [v] (eval o X.env)
      let iv ← holding [v, ov] (eval i X.env)
      standAt pos'
      holding [v, ov, iv] (setItem ov iv v)
      release [v, ov, iv] []) := by intro _; rfl)
    (hs : swapsWithSole [.Subscript o i pos'] value pos.line X.env = pure false := by rfl) (hw : swappedStores [.Subscript o i pos'] value X.env = pure none := by rfl) (h1 : (assignEach [.Subscript o i pos'] X.env).map (·.2) = [assign (.Subscript o i pos') X.env] := by rfl) :
    SS K mg W X (.Assign [.Subscript o i pos'] value pos) (sSub O J V') := (ps_asg (se_set hv) (pg_sub ho hi (om_set (K := K) (mg := mg)) ha) hs hw h1).imp fun D σ H ⟨m, σm, h, R, S, q⟩ => by
  refine ⟨m, σm, h, R, S, ?_⟩
  unfold sSub at q
  cases ev : eSet V' σm h with
  | stuck => rw [ev] at q; exact q.elim
  | exc x h1 => rw [ev] at q; exact fun cls d m' H' e' R' x => q cls d σ m' H' e' R' (S.mono e'.gro) x
  | ok v h1 =>
    rw [ev, Res.ok_st] at q
    intro v' m1 H1 e1 R1 d1
    have d1' := d1.dv (eSet_ns ev)
    have S1 := S.mono e1.gro
    refine ⟨m1, σm, h1, R1, S1, rs.part S1 (rs.ext e1 R1 q) fun x h2 x' m2 H2 e2 R2 d2 q2 => ?_⟩
    have S2 := S1.mono e2.gro
    refine ⟨m2, σm, h2, R2, S2, rs.part S2 (rs.ext e2 R2 q2) fun y h3 y' m3 H3 e3 R3 d3 q3 => ?_⟩
    cases ep : setM x y v h3 with
    | none => rw [ep] at q3; exact q3.elim
    | some h4 =>
      rw [ep] at q3
      exact ⟨m3, h3, x, y, v, H1, H2, h4, R3, d2.mono e3, d3, (d1'.mono e2.gro).mono e3.gro, ep, fun H' e' R' => q3 σ m3 H' (e3.trans e') R' ((S2.mono e3.gro).mono e'.gro)⟩
/-! #### methods of lists -/
theorem se_lm {id : String} {name : Str} {f : MV → List MV → MH → Res MV} {o : Expr} {es : List Expr} {AL : MA} {apos cpos : Pos} (slot : Slot "list" name id) (hty : typeOf (.builtin id) = pure (.type "method_descriptor")) (hm : MtR X id (rMt K mg f)) (ho : SE K mg W X o A) (ha : SA K mg W X (e :: es) AL)
    (hbase : attributeBase o name X.env (eval o X.env) = eval o X.env := by rfl)
    (hfew : ((backTo cpos (starEach (e :: es) X.env)).all (fun x => !x.1) && (backToKw cpos (keywordEach [] X.env)).all (fun x => x.1.isSome) && decide ((e :: es).length + ([] : List Keyword).length + (if ([] : List Keyword).isEmpty then 0 else 1) < 30)) = true := by rfl)
    (hline : (apos.endLine == cpos.line) = true := by rfl) (hs : starEach (e :: es) X.env = (false, eval e X.env) :: starEach es X.env := by rfl) (hplain : (backTo cpos (starEach es X.env)).any (·.1) = false := by rfl) (hK : X.K = K := by rfl) :
    SE K mg W X (.Call (.Attribute o name apos) (e :: es) [] cpos) (eLM f A AL) := (pe_bm PySem.F.plainAttrs_list slot hty hm (se_set ho) ha hbase hfew hline hs hplain).imp fun σ H Q ⟨m, σm, h, R, S, q⟩ => by
  subst hK
  refine ⟨m, σm, h, R, S, rg.bind q fun x h1 x' m1 H1 e1 R1 d1 q1 => ?_⟩
  cases el : asL h1 x with
  | none => rw [el] at q1; exact q1.elim
  | some xs =>
    rw [el] at q1
    obtain ⟨a, ws, rfl, s1, r1⟩ := d1.asL R1 el
    refine ⟨.inl ⟨rfl, ws, s1⟩, m1, σm, h1, R1, S.mono e1.gro, rg.bind (rg.ext dmV e1 R1 q1) fun ys h2 vs m2 H2 e2 R2 d2 q2 => ?_⟩
    exact ⟨m2, h2, x, ys, H, σ, W, R2, d1.mono e2, d2, rg.ext dmV e2 R2 q2⟩
theorem mm_append : MtR X "list.append" (rMt K mg appM) := by
  intro pins s σ H x' xs' v us Q I rx rs ⟨m, h, x, xs, H0, σ', W, R, dx, dxs, q⟩
  unfold appM at q
  split at q
  · rename_i n y
    cases dx.dv (fun _ => MV.noConfusion) with
    | @ref _ a hn =>
      cases dxs with
      | cons d1 d2 =>
        cases d2
        split at q
        · rename_i ys eo
          obtain ⟨ws, k1, k2⟩ := R.at_ eo hn
          split at q
          · rename_i hl
            have ex : ∀ o, Ext m H m (upd H a o) := fun o => Ext.upd_at (List.mem_of_getElem? hn) (fun _ _ z => by rw [k1] at z; cases z)
            exact mt_append pins s σ H _ _ v us Q I rx rs ⟨a, ws, _, rfl, rfl, k1, by rw [← k2.length]; exact hl, q .non m _ (ex _) (R.write hn ⟨_, upd_same, (k2.append (.cons d1 .nil)).mono (ex _).gro⟩) (.v .non)⟩
          · exact q.elim
        · exact q.elim
  · exact q.elim
theorem inop_add : InOp X .Add (rOp K mg addI) := by
  intro pins s σ H x' y' u v Q I rx ry ⟨m, h, x, y, H0, H1, σ', W, R, dx, dy, q⟩
  unfold addI at q
  split at q
  · cases dx.dv (fun _ => MV.noConfusion)
    cases dy.dv (fun _ => MV.noConfusion)
    exact in_add pins s σ H _ _ u v Q I rx ry ⟨_, _, rfl, rfl, rg.here q R (.v (.int _))⟩
  · exact q.elim
theorem ip_addM : PIp X .Add (rOp K mg addI) := fun pins s σ H x y v u Q I rx ry h => inop_add pins s σ H x y v u Q I rx ry h
end
end Mi

set_option maxHeartbeats 400000
/-! ### defs, methods, makers: what they mean, their calls -/
namespace Mi
open PySem PySem.Spec PyProof.Rows L2
variable [TheW]
abbrev MF := List MV → MH → Res MV
def fnCode (n : Nat) (B : MSt) : MF := fun xs h => match B (xs.map some ++ List.replicate (n - xs.length) none) h with
  | .ret v h' => .ok v h'
  | .next _ h' => .ok .non h'
  | .exc x _ h' => .exc x h'
  | _ => .stuck
section
variable (P : Program) (w : World) (K : PySem.W.Frag) (mg : Str → Option Value) (base : Heap)
/-- the def at f means code, by at most k calls within -/
structure FnM (k : Nat) (f : Addr) (fd : FuncData) (ps : List Str) (code : MF) : Prop where
  run : ∀ (A : Around) (outer : List Env) (s : Shared) (H : Hp) (args : Args) (us : List Value) (vs : List V) (Q : VK) (E : XK) (m : List Addr) (h : MH) (xs : List MV), Room k A → A.guards = some [] → Env0 P w K mg base A outer s H → BindsTo s fd args (ps.zip us) → Vals vs us → vs.length = ps.length →
    Rep K mg m H h → DvAll K mg m H xs vs → rg K mg (DV K mg) (fun cls d _ H => E cls d H) [] m H (code xs h) Q → codeAny (model P w) A (.call (.ref f) args) (CR (L2.CX P w) outer P w H s Q E) s
end
section
variable {P : Program} {w : World} {K : PySem.W.Frag} {mg : Str → Option Value} {base : Heap}
theorem FnM.mono {j k : Nat} {f : Addr} {fd : FuncData} {ps : List Str} {code : MF} (F : FnM P w K mg base j f fd ps code) (h : j ≤ k) : FnM P w K mg base k f fd ps code := ⟨fun A outer s H args us vs Q E m hh xs hr => F.run A outer s H args us vs Q E m hh xs (hr.mono h)⟩
/-- a meaning that says more -/
theorem FnM.imp {k : Nat} {f : Addr} {fd : FuncData} {ps : List Str} {code code' : MF} (F : FnM P w K mg base k f fd ps code) (h : ∀ xs hh, code' xs hh = .stuck ∨ code' xs hh = code xs hh) : FnM P w K mg base k f fd ps code' := ⟨fun A outer s H args us vs Q E m hh xs hr hg e0 hb r hl R d q => by
  rcases h xs hh with e | e
  · rw [e] at q; exact q.elim
  · rw [e] at q; exact F.run A outer s H args us vs Q E m hh xs hr hg e0 hb r hl R d q⟩
theorem srel_start {N : List Str} {m : List Addr} {H : Hp} {xs : List MV} {vs : List V} (d : DvAll K mg m H xs vs) : SRel K mg m H (xs.map some ++ List.replicate (N.length - xs.length) none) (L2.start N vs) := by
  have hl := d.length
  refine ⟨by simp [L2.start, hl], fun i v e => ?_⟩
  unfold L2.start
  by_cases hi : i < xs.length
  · rw [List.getElem?_append_left (by simpa using hi), List.getElem?_map] at e
    rw [List.getElem?_append_left (by rw [List.length_map, ← hl]; exact hi), List.getElem?_map]
    cases q : xs[i]? with
    | none => rw [q] at e; cases e
    | some x =>
      rw [q] at e
      cases e
      obtain ⟨v', h1, h2⟩ := d.get q
      exact ⟨v', by rw [h1]; rfl, h2⟩
  · rw [List.getElem?_append_right (by simpa using hi), List.getElem?_replicate] at e
    split at e <;> cases e
theorem fnM_of {x qual : Str} {params : Arguments} {body : List Stmt} {scope : Scope} {dvs : List V} {kws : List (Str × V)} {f : Addr} {fd : FuncData} {N ps : List Str} {k : Nat} {B : MSt} (F : FunD K x qual params body scope dvs kws f fd) (S : FnScope N ps scope)
    (hbody : ∀ (cdv : Value) (A : Around) (outer : List Env) (s : Shared) (H : Hp) (E : XK), Room k (A.deeper (envOfC qual scope s.heap.objs.size f cdv)) → (A.deeper (envOfC qual scope s.heap.objs.size f cdv)).guards = some [] →
      SSs K mg (fun cls d _ H => E cls d H) (cxOf (L2.CX P w) P w K mg base N qual scope f cdv A outer s H E) body B) : FnM P w K mg base (k + 1) f fd ps (fnCode N.length B) := by
  obtain ⟨oc, od, dV, kV, doc, pm, an, cdv, ct, osl, rfl, lk, hcd, _, _⟩ := F.ex
  refine ⟨fun A outer s H args us vs Q E m h xs hr hg e0 hb r hl R d q => ?_⟩
  refine LamX.run_ofS lk hcd S hr e0 hb r hl fun hr' => ⟨_, hbody cdv A outer s H E hr' hg, m, _, h, R, srel_start (N := N) d, ?_⟩
  unfold fnCode at q
  split at q
  · rename_i v h' eb; rw [eb]; exact q
  · rename_i σ' h' eb; rw [eb]; exact fun s' m' H' e' R' _ => q .non m' H' e' R' (.v .non)
  · rename_i y σ' h' eb; rw [eb]; exact fun cls d _ m' H' e' R' _ x => q cls d m' H' e' R' x
  · exact q.elim
end
/-- how a call's values come to the parameters -/
structure BnM (K : PySem.W.Frag) (mg : Str → Option Value) (fd : FuncData) (ps : List Str) (n : Nat) (ks : List Str) (g : List MV → List MV → List MV) : Prop where
  to : ∀ (s : Shared) (us ws : List Value), K.In s.heap → us.length = n → ws.length = ks.length → ∃ zs : List Value, BindsTo s fd ⟨us, ks.zip ws⟩ (ps.zip zs) ∧ zs.length = ps.length ∧
    ∀ (m : List Addr) (H : Hp) (xs ys : List MV) (va vb : List V), DvAll K mg m H xs va → Vals va us → DvAll K mg m H ys vb → Vals vb ws → ∃ vc, DvAll K mg m H (g xs ys) vc ∧ Vals vc zs
def eCall (g : List MV → List MV → List MV) (code : MF) (AL KL : MA) : ME := fun σ h => (AL σ h).bind fun xs h1 => (KL σ h1).bind fun ys h2 => code (g xs ys) h2
/-- x is an instance of c that has no own m -/
def onIns (c m : Str) (x : MV) (h : MH) (k : Nat → Res MV) : Res MV := match x with
  | .ref n => (match h[n]? with
    | some (.ins c' fs) => if c' = c ∧ fs.lookup m = none then k n else .stuck
    | _ => .stuck)
  | _ => .stuck
/-- o.m(..), o an instance of c -/
def eMeth (c m : Str) (g : List MV → List MV → List MV) (code : MF) (A : ME) (AL KL : MA) : ME := fun σ h => (A σ h).bind fun x h1 => onIns c m x h1 fun n => (AL σ h1).bind fun xs h2 => (KL σ h2).bind fun ys h3 => code (g (.ref n :: xs) ys) h3
/-- c(..) -/
def eMake (c : Str) (g : List MV → List MV → List MV) (code : MF) (AL KL : MA) : ME := fun σ h => (AL σ h).bind fun xs h1 => (KL σ h1).bind fun ys h2 => (code (g (.ref h2.length :: xs) ys) (h2 ++ [.ins c []])).bind fun v h3 => match v with
  | .non => .ok (.ref h2.length) h3
  | _ => .stuck
section
variable {K : PySem.W.Frag} {mg : Str → Option Value} {X : Cx} {W : WX} {m : List Addr} {H : Hp} {h : MH} {σ : L2.St} {k n j : Nat} {f C : Addr} {fd : FuncData} {ps ks : List Str} {g : List MV → List MV → List MV} {code : MF} {x c mm : Str} {p pos apos : Pos} {e o : Expr} {es : List Expr} {kws : List Keyword} {A : ME} {AL KL : MA}
abbrev SK (K : PySem.W.Frag) (mg : Str → Option Value) (W : WX) (X : Cx) (kws : List Keyword) (A : MA) : Prop := PK X kws (tg K mg (DA K mg) W A)
theorem sk_nil : SK K mg W X [] aNil := ⟨fun pos pins s σ H Q I ⟨m, σm, h, R, S, q⟩ => pk_nil.run pos pins s σ H Q I (rg.here (D := DA K mg) q R .nil)⟩
theorem tg_cons {Q : List V → Hp → Prop} (t : tg K mg (DA K mg) W (aCons A AL) σ H Q) : tCons (tg K mg (DV K mg) W (eSet A)) (tg K mg (DA K mg) W AL) σ H Q := by
  obtain ⟨m, σm, h, R, S, q⟩ := t
  have q' : rg K mg (DA K mg) W σ m H ((eSet A σm h).bind fun v h2 => (AL σm h2).bind fun vs h3 => .ok (v :: vs) h3) Q := by
    unfold eSet
    unfold aCons at q
    cases e : A σm h with
    | ok v h1 => rw [e] at q; exact q
    | exc x h1 => rw [e] at q; exact q
    | stuck => rw [e] at q; exact q
  refine ⟨m, σm, h, R, S, ?_⟩
  cases e : eSet A σm h with
  | ok x h1 =>
    rw [e] at q'
    intro x' m1 H1 e1 R1 d1
    have d1' := d1.dv (eSet_ns e)
    refine ⟨m1, σm, h1, R1, S.mono e1.gro, rg.bind (rg.ext dmA e1 R1 q') fun vs h2 vs' m2 H2 e2 R2 d2 q2 => ?_⟩
    exact q2 _ m2 H2 e2 R2 (.cons (d1'.mono e2.gro) d2)
  | exc x h1 => rw [e] at q'; exact q'
  | stuck => rw [e] at q'; exact q'
theorem sk_cons {nm : Option Str} {kpos : Pos} (ha : SE K mg W X e A) (hr : SK K mg W X kws AL) : SK K mg W X (⟨nm, e, kpos⟩ :: kws) (aCons A AL) := ⟨fun pos pins s σ H Q I t => (pk_cons (se_set ha) hr).run pos pins s σ H Q I (tg_cons t)⟩
/-- the callee runs -/
theorem run_fnM {pins : List (Addr × Obj)} {s : Shared} {Q : VK} {us ws : List Value} {va vb : List V} {xs ys : List MV} (F : FnM X.prog X.w X.K X.mg X.base k f fd ps code) (hr : Room k X.A) (hgd : X.A.guards = some []) (hb : BnM X.K X.mg fd ps n ks g) (tk : Takes X W)
    (I : L2.Inv X pins σ H s) (r1 : Vals va us) (r2 : Vals vb ws) (l1 : us.length = n) (l2 : ws.length = ks.length) (R : Rep X.K X.mg m H h) (d1 : DvAll X.K X.mg m H xs va) (d2 : DvAll X.K X.mg m H ys vb) (q : rg X.K X.mg (DV X.K X.mg) W σ m H (code (g xs ys) h) Q) :
    wpAny (model X.prog X.w) X.A (call (.ref f) us (ks.zip ws)) (EP X pins σ Q) X.xe s := by
  obtain ⟨zs, b, lz, bv⟩ := hb.to s us ws I.kIn l1 l2
  obtain ⟨vc, d3, r3⟩ := bv m H xs ys va vb d1 r1 d2 r2
  refine wpAny_call (codeAny_mono (F.run X.A X.stack s H ⟨us, ks.zip ws⟩ zs vc Q (fun cls d H2 => W cls d σ H2) m h (g xs ys) hr hgd I.env0 b r3 (by rw [r3.length]; exact lz) R d3 ?_) fun r s' hq => ?_)
  · cases ec : code (g xs ys) h with
    | ok v h' => rw [ec] at q; exact q
    | exc x h' => rw [ec] at q; exact q
    | stuck => rw [ec] at q; exact q
  · cases r with
    | error e => exact tk e s' (XE.of_call I (fun cls d H' h => h) hq)
    | ok fl =>
      cases fl with
      | ret u => exact I.after hq
      | _ => exact False.elim hq
theorem lenA_of {va : List V} {us : List Value} {xs : List MV} (d : DvAll K mg m H xs va) (r : Vals va us) : us.length = xs.length := by rw [← r.length, d.length]
section
variable (F : FnM X.prog X.w K mg X.base k f fd ps code) (hr : Room k X.A) (hgd : X.A.guards = some []) (hb : BnM K mg fd ps n ks g) (tk : Takes X W)
include F hr hgd hb tk
/-- f(e, ..) -/
theorem se_call (hm : mg x = some (.ref f)) (hk : PySem.W.keepIn K (.ref f) = true) (hg : Gl X x) (hks : ks = []) (ha : SA K mg W X (e :: es) AL) (l : LenA AL n) (hK : X.K = K := by rfl) (hM : X.mg = mg := by rfl)
    (hdb : (x == ("__debug__" : Str)) = false := by decide) (he : starEach (e :: es) X.env = (false, eval e X.env) :: starEach es X.env := by rfl) (hpl : (backTo pos (starEach es X.env)).any (·.1) = false := by rfl) :
    SE K mg W X (.Call (.Name x p) (e :: es) [] pos) (eCall g code AL aNil) := by
  subst hK hM hks
  refine ⟨fun pins s σ H Q I ⟨m, σm, h, R, S, q⟩ => wpAny_Call_Name_kw (ld_glob I hg hm ?_ hdb)⟩
  refine PySem.W.callWith_K (h₀ := X.base) I.ok.mod.kin hk (thn (ha.run pos pins s σ H (fun vs H1 => ∃ m1 h1 xs, xs.length = n ∧ Rep X.K X.mg m1 H1 h1 ∧ DvAll X.K X.mg m1 H1 xs vs ∧ rg X.K X.mg (DV X.K X.mg) W σ m1 H1 (code (g xs []) h1) Q) I ⟨m, σm, h, R, S, ?_⟩) fun us s1 ⟨vs, H1, I1, r, m1, h1, xs, lx, R1, d1, q1⟩ => ⟨I1.kIn, ?_⟩) he hpl
  · unfold eCall at q
    cases ea : AL σm h with
    | ok xs h1 => rw [ea] at q; exact fun vs m1 H1 e1 R1 d1 => ⟨m1, h1, xs, l _ _ _ _ ea, R1, d1, rg.ext dmV e1 R1 q⟩
    | exc y h1 => rw [ea] at q; exact q
    | stuck => rw [ea] at q; exact q
  · exact run_fnM (ws := []) (vb := []) (ys := []) F hr hgd hb tk I1 r .nil ((lenA_of d1 r).trans lx) rfl R1 d1 .nil q1
/-- f() -/
theorem se_call0 (hm : mg x = some (.ref f)) (hk : PySem.W.keepIn K (.ref f) = true) (hg : Gl X x) (hks : ks = []) (hn : n = 0) (hK : X.K = K := by rfl) (hM : X.mg = mg := by rfl) (hdb : (x == ("__debug__" : Str)) = false := by decide) :
    SE K mg W X (.Call (.Name x p) [] [] pos) (eCall g code aNil aNil) := by
  subst hK hM hks hn
  refine ⟨fun pins s σ H Q I ⟨m, σm, h, R, S, q⟩ => wpAny_Call_Name_kw (ld_glob I hg hm ?_ hdb)⟩
  exact PySem.W.callWith_K0 I.kIn hk (run_fnM (us := []) (ws := []) (va := []) (vb := []) (xs := []) (ys := []) F hr hgd hb tk I .nil .nil rfl rfl R .nil .nil q)
/-- f(e, .., k = v, ..) -/
theorem se_callK {j : Nat} (hm : mg x = some (.ref f)) (hk : PySem.W.keepIn K (.ref f) = true) (hg : Gl X x) (ha : SA K mg W X (e :: es) AL) (l : LenA AL n) (hkw : SK K mg W X kws KL) (l2 : LenA KL j) (hj : j = ks.length) (hK : X.K = K := by rfl) (hM : X.mg = mg := by rfl)
    (hall : (backToKw pos (keywordEach kws X.env)).all (·.1.isSome) = true := by rfl) (hks : (backToKw pos (keywordEach kws X.env)).filterMap (·.1) = ks := by rfl)
    (hdb : (x == ("__debug__" : Str)) = false := by decide) (he : starEach (e :: es) X.env = (false, eval e X.env) :: starEach es X.env := by rfl)
    (hpl : ((backTo pos (starEach (e :: es) X.env)).any (·.1) || (backToKw pos (keywordEach kws X.env)).any (·.1.isNone)) = false := by rfl) :
    SE K mg W X (.Call (.Name x p) (e :: es) kws pos) (eCall g code AL KL) := by
  subst hK hM hj
  refine ⟨fun pins s σ H Q I ⟨m, σm, h, R, S, q⟩ => wpAny_Call_Name_kw (ld_glob I hg hm ?_ hdb)⟩
  unfold eCall at q
  refine PySem.W.callWith_KW (h₀ := X.base) I.ok.mod.kin hk hall (thn (ha.run pos pins s σ H (fun vs H1 => ∃ m1 h1 xs, xs.length = n ∧ Ext m H m1 H1 ∧ Rep X.K X.mg m1 H1 h1 ∧ DvAll X.K X.mg m1 H1 xs vs ∧ rg X.K X.mg (DV X.K X.mg) W σ m1 H1 ((KL σm h1).bind fun ys h2 => code (g xs ys) h2) Q) I ⟨m, σm, h, R, S, ?_⟩) fun us s1 ⟨vs, H1, I1, r, m1, h1, xs, lx, e1, R1, d1, q1⟩ => ?_) hpl he
  · cases ea : AL σm h with
    | ok xs h1 => rw [ea] at q; exact fun vs m1 H1 e1 R1 d1 => ⟨m1, h1, xs, l _ _ _ _ ea, e1, R1, d1, rg.ext dmV e1 R1 q⟩
    | exc y h1 => rw [ea] at q; exact q
    | stuck => rw [ea] at q; exact q
  · refine thn (hkw.run pos pins s1 σ H1 (fun vs2 H2 => ∃ m2 h2 ys, ys.length = ks.length ∧ Rep X.K X.mg m2 H2 h2 ∧ DvAll X.K X.mg m2 H2 xs vs ∧ DvAll X.K X.mg m2 H2 ys vs2 ∧ rg X.K X.mg (DV X.K X.mg) W σ m2 H2 (code (g xs ys) h2) Q) I1 ⟨m1, σm, h1, R1, S.mono e1.gro, ?_⟩) fun ws s2 ⟨zs, H2, I2, rz, m2, h2, ys, ly, R2, d2, d3, q2⟩ => ⟨I2.kIn, ?_⟩
    · cases ea : KL σm h1 with
      | ok ys h2 => rw [ea] at q1; exact fun vs m2 H2 e2 R2 d2 => ⟨m2, h2, ys, l2 _ _ _ _ ea, R2, d1.mono e2.gro, d2, rg.ext dmV e2 R2 q1⟩
      | exc y h1 => rw [ea] at q1; exact q1
      | stuck => rw [ea] at q1; exact q1
    · rw [hks]
      exact run_fnM F hr hgd hb tk I2 r rz ((lenA_of d2 r).trans lx) ((lenA_of d3 rz).trans ly) R2 d2 d3 q2
/-- f(k = v, ..) -/
theorem se_callK0 {j : Nat} (hm : mg x = some (.ref f)) (hk : PySem.W.keepIn K (.ref f) = true) (hg : Gl X x) (hn : n = 0) (hkw : SK K mg W X kws KL) (l2 : LenA KL j) (hj : j = ks.length) (hK : X.K = K := by rfl) (hM : X.mg = mg := by rfl)
    (hall : (backToKw pos (keywordEach kws X.env)).all (·.1.isSome) = true := by rfl) (hks : (backToKw pos (keywordEach kws X.env)).filterMap (·.1) = ks := by rfl) (hdb : (x == ("__debug__" : Str)) = false := by decide)
    (hpl : ((backTo pos (starEach [] X.env)).any (·.1) || (backToKw pos (keywordEach kws X.env)).any (·.1.isNone)) = false := by rfl) : SE K mg W X (.Call (.Name x p) [] kws pos) (eCall g code aNil KL) := by
  subst hK hM hj hn
  refine ⟨fun pins s σ H Q I ⟨m, σm, h, R, S, q⟩ => wpAny_Call_Name_kw (ld_glob I hg hm ?_ hdb)⟩
  refine PySem.W.callWith_KW0 (h₀ := X.base) I.ok.mod.kin hk hall ?_ hpl
  refine thn (hkw.run pos pins s σ H (fun vs2 H2 => ∃ m2 h2 ys, ys.length = ks.length ∧ Rep X.K X.mg m2 H2 h2 ∧ DvAll X.K X.mg m2 H2 ys vs2 ∧ rg X.K X.mg (DV X.K X.mg) W σ m2 H2 (code (g [] ys) h2) Q) I ⟨m, σm, h, R, S, ?_⟩) fun ws s2 ⟨zs, H2, I2, rz, m2, h2, ys, ly, R2, d3, q2⟩ => ⟨I2.kIn, ?_⟩
  · have q : rg X.K X.mg (DV X.K X.mg) W σ m H ((KL σm h).bind fun ys h2 => code (g [] ys) h2) Q := q
    cases ea : KL σm h with
    | ok ys h2 => rw [ea] at q; exact fun vs m2 H2 e2 R2 d2 => ⟨m2, h2, ys, l2 _ _ _ _ ea, R2, d2, rg.ext dmV e2 R2 q⟩
    | exc y h1 => rw [ea] at q; exact q
    | stuck => rw [ea] at q; exact q
  · rw [hks]
    exact run_fnM (us := []) (va := []) (xs := []) F hr hgd hb tk I2 .nil rz rfl ((lenA_of d3 rz).trans ly) R2 .nil d3 q2
end
/-! #### methods -/
/-- what a receiver gives -/
theorem recv {xv : MV} {x' : V} {h1 : MH} {m1 : List Addr} {H1 H0 : Hp} {kk : Nat → Res MV} {Q : VK} {m0 : List Addr} (R1 : Rep K mg m1 H1 h1) (d1 : Dt K mg H0 m1 H1 xv x') (q1 : rg K mg (DV K mg) W σ m0 H (onIns c mm xv h1 kk) Q) : ∃ n a C dx fs, xv = .ref n ∧ x' = .ref a ∧ m1[n]? = some a ∧ mg c = some (.ref C) ∧ H1 a = some (.ins C dx fs) ∧ fs.lookup mm = none ∧ rg K mg (DV K mg) W σ m0 H (kk n) Q := by
  unfold onIns at q1
  cases xv with
  | ref n =>
    cases d1.dv (fun _ => MV.noConfusion) with
    | @ref _ a hn =>
      dsimp only at q1
      cases eo : h1[n]? with
      | none => rw [eo] at q1; exact q1.elim
      | some o =>
        rw [eo] at q1
        have ob := R1.at_ eo hn
        cases o with
        | ins c' fs =>
          obtain ⟨C, dx, gs, k1, k2, k3, k4, k5⟩ := ob
          dsimp only at q1
          by_cases hc : c' = c ∧ fs.lookup mm = none
          · rw [if_pos hc] at q1
            obtain ⟨hc, hl⟩ := hc
            subst hc
            exact ⟨n, a, C, dx, gs, rfl, rfl, hn, k2, k1, k5.lookup_none hl, q1⟩
          · rw [if_neg hc] at q1
            exact q1.elim
        | _ => exact q1.elim
  | _ => exact q1.elim
section
variable (F : FnM X.prog X.w K mg X.base k f fd ps code) (hr : Room k X.A) (hgd : X.A.guards = some []) (hb : BnM K mg fd ps (n + 1) ks g) (tk : Takes X W) (hC : mg c = some (.ref C)) (cl : Cls K C) (hmt : Meth K C mm f)
include F hr hgd hb tk hC cl hmt
/-- o.m(e, ..) -/
theorem se_meth {pl : Sem Bool} (hks : ks = []) (ho : SE K mg W X o A) (ha : SA K mg W X (e :: es) AL) (l : LenA AL n) (hK : X.K = K := by rfl) (hM : X.mg = mg := by rfl)
    (hst : starEach (e :: es) X.env = (false, eval e X.env) :: starEach es X.env := by rfl) (hpl : (backTo pos (starEach es X.env)).any (·.1) = false := by rfl)
    (ht : eval (.Call (.Attribute o mm apos) (e :: es) [] pos) X.env = (do
      let ov ← eval o X.env
      standAt apos.atName
      let (f, first) ← holding [ov] (getMethod ov mm pl)
      callWith pos f first (backTo pos (starEach (e :: es) X.env)) (backToKw pos (keywordEach [] X.env))) := by rfl) :
    SE K mg W X (.Call (.Attribute o mm apos) (e :: es) [] pos) (eMeth c mm g code A AL aNil) := by
  subst hK hM hks
  refine ⟨fun pins s σ H Q I ⟨m, σm, h, R, S, q⟩ => ?_⟩
  refine PySem.W.methodCall_KW (pl := pl) (thn (ho.run pins s σ H (fun x' H1 => ∃ m1 h1 n' a dx fs, Ext m H m1 H1 ∧ Rep X.K X.mg m1 H1 h1 ∧ x' = .ref a ∧ m1[n']? = some a ∧ H1 a = some (.ins C dx fs) ∧ fs.lookup mm = none ∧
    rg X.K X.mg (DV X.K X.mg) W σ m1 H1 ((AL σm h1).bind fun xs h2 => code (g (.ref n' :: xs) []) h2) Q) I ⟨m, σm, h, R, S, rg.bind q fun xv h1 x' m1 H1 e1 R1 d1 q1 => ?_⟩) fun u s1 ⟨x', H1, I1, rx, m1, h1, n', a, dx, fs, e1, R1, ex, hn, ea, lf, q1⟩ => ?_) ht
  · obtain ⟨n', a, C', dx, fs, rfl, rfl, hn, hC', ea, lf, q2⟩ := recv R1 d1 q1
    rw [hC] at hC'
    cases hC'
    exact ⟨m1, h1, n', a, dx, fs, e1, R1, rfl, hn, ea, lf, rg.ext dmV e1 R1 q2⟩
  · subst ex
    obtain rfl : u = Value.ref a := rx
    refine getmeth_ok I1 ea cl hmt lf ?_
    refine PySem.W.callWith_K (first := [.ref a]) (h₀ := X.base) I.ok.mod.kin hmt.kp (thn (ha.run pos pins s1 σ H1 (fun vs H2 => ∃ m2 h2 xs, xs.length = n ∧ Rep X.K X.mg m2 H2 h2 ∧ m2[n']? = some a ∧ DvAll X.K X.mg m2 H2 xs vs ∧ rg X.K X.mg (DV X.K X.mg) W σ m2 H2 (code (g (.ref n' :: xs) []) h2) Q) I1 ⟨m1, σm, h1, R1, S.mono e1.gro, ?_⟩) fun us s2 ⟨vs, H2, I2, r, m2, h2, xs, lx, R2, hn2, d2, q2⟩ => ⟨I2.kIn, ?_⟩) hst hpl
    · cases ea : AL σm h1 with
      | ok xs h2 => rw [ea] at q1; exact fun vs m2 H2 e2 R2 d2 => ⟨m2, h2, xs, l _ _ _ _ ea, R2, e2.get hn, d2, rg.ext dmV e2 R2 q1⟩
      | exc y h1 => rw [ea] at q1; exact q1
      | stuck => rw [ea] at q1; exact q1
    · exact run_fnM (us := .ref a :: us) (va := .ref a :: vs) (xs := .ref n' :: xs) (ws := []) (vb := []) (ys := []) F hr hgd hb tk I2 (.cons rfl r) .nil (congrArg Nat.succ ((lenA_of d2 r).trans lx)) rfl R2 (.cons (.ref hn2) d2) .nil q2
/-- o.m() -/
theorem se_meth0 {pl : Sem Bool} (hks : ks = []) (hn0 : n = 0) (ho : SE K mg W X o A) (hK : X.K = K := by rfl) (hM : X.mg = mg := by rfl)
    (ht : eval (.Call (.Attribute o mm apos) [] [] pos) X.env = (do
      let ov ← eval o X.env
      standAt apos.atName
      let (f, first) ← holding [ov] (getMethod ov mm pl)
      callWith pos f first (backTo pos (starEach [] X.env)) (backToKw pos (keywordEach [] X.env))) := by rfl) :
    SE K mg W X (.Call (.Attribute o mm apos) [] [] pos) (eMeth c mm g code A aNil aNil) := by
  subst hK hM hks hn0
  refine ⟨fun pins s σ H Q I ⟨m, σm, h, R, S, q⟩ => ?_⟩
  refine PySem.W.methodCall_KW (pl := pl) (thn (ho.run pins s σ H (fun x' H1 => ∃ m1 h1 n' a dx fs, Ext m H m1 H1 ∧ Rep X.K X.mg m1 H1 h1 ∧ x' = .ref a ∧ m1[n']? = some a ∧ H1 a = some (.ins C dx fs) ∧ fs.lookup mm = none ∧
    rg X.K X.mg (DV X.K X.mg) W σ m1 H1 (code (g [.ref n'] []) h1) Q) I ⟨m, σm, h, R, S, rg.bind q fun xv h1 x' m1 H1 e1 R1 d1 q1 => ?_⟩) fun u s1 ⟨x', H1, I1, rx, m1, h1, n', a, dx, fs, e1, R1, ex, hn, ea, lf, q1⟩ => ?_) ht
  · obtain ⟨n', a, C', dx, fs, rfl, rfl, hn, hC', ea, lf, q2⟩ := recv (kk := fun n => (aNil σm h1).bind fun xs h2 => (aNil σm h2).bind fun ys h3 => code (g (.ref n :: xs) ys) h3) R1 d1 q1
    rw [hC] at hC'
    cases hC'
    exact ⟨m1, h1, n', a, dx, fs, e1, R1, rfl, hn, ea, lf, rg.ext dmV e1 R1 q2⟩
  · subst ex
    obtain rfl : u = Value.ref a := rx
    refine getmeth_ok I1 ea cl hmt lf ?_
    exact PySem.W.callWith_K0 (first := [.ref a]) I1.kIn hmt.kp (run_fnM (us := [.ref a]) (va := [.ref a]) (xs := [.ref n']) (ws := []) (vb := []) (ys := []) F hr hgd hb tk I1 (.cons rfl .nil) .nil rfl rfl R1 (.cons (.ref hn) .nil) .nil q1)
/-- o.m(e, .., k = v, ..) -/
theorem se_methK {pl : Sem Bool} {j : Nat} (ho : SE K mg W X o A) (ha : SA K mg W X (e :: es) AL) (l : LenA AL n) (hkw : SK K mg W X kws KL) (l2 : LenA KL j) (hj : j = ks.length) (hK : X.K = K := by rfl) (hM : X.mg = mg := by rfl)
    (hall : (backToKw pos (keywordEach kws X.env)).all (·.1.isSome) = true := by rfl) (hks : (backToKw pos (keywordEach kws X.env)).filterMap (·.1) = ks := by rfl)
    (hst : starEach (e :: es) X.env = (false, eval e X.env) :: starEach es X.env := by rfl) (hpl : ((backTo pos (starEach (e :: es) X.env)).any (·.1) || (backToKw pos (keywordEach kws X.env)).any (·.1.isNone)) = false := by rfl)
    (ht : eval (.Call (.Attribute o mm apos) (e :: es) kws pos) X.env = (do
      let ov ← eval o X.env
      standAt apos.atName
      let (f, first) ← holding [ov] (getMethod ov mm pl)
      callWith pos f first (backTo pos (starEach (e :: es) X.env)) (backToKw pos (keywordEach kws X.env))) := by rfl) :
    SE K mg W X (.Call (.Attribute o mm apos) (e :: es) kws pos) (eMeth c mm g code A AL KL) := by
  subst hK hM hj
  refine ⟨fun pins s σ H Q I ⟨m, σm, h, R, S, q⟩ => ?_⟩
  refine PySem.W.methodCall_KW (pl := pl) (thn (ho.run pins s σ H (fun x' H1 => ∃ m1 h1 n' a dx fs, Ext m H m1 H1 ∧ Rep X.K X.mg m1 H1 h1 ∧ x' = .ref a ∧ m1[n']? = some a ∧ H1 a = some (.ins C dx fs) ∧ fs.lookup mm = none ∧
    rg X.K X.mg (DV X.K X.mg) W σ m1 H1 ((AL σm h1).bind fun xs h2 => (KL σm h2).bind fun ys h3 => code (g (.ref n' :: xs) ys) h3) Q) I ⟨m, σm, h, R, S, rg.bind q fun xv h1 x' m1 H1 e1 R1 d1 q1 => ?_⟩) fun u s1 ⟨x', H1, I1, rx, m1, h1, n', a, dx, fs, e1, R1, ex, hn, ea, lf, q1⟩ => ?_) ht
  · obtain ⟨n', a, C', dx, fs, rfl, rfl, hn, hC', ea, lf, q2⟩ := recv R1 d1 q1
    rw [hC] at hC'
    cases hC'
    exact ⟨m1, h1, n', a, dx, fs, e1, R1, rfl, hn, ea, lf, rg.ext dmV e1 R1 q2⟩
  · subst ex
    obtain rfl : u = Value.ref a := rx
    have S1 := S.mono e1.gro
    refine getmeth_ok I1 ea cl hmt lf ?_
    refine PySem.W.callWith_KW (first := [.ref a]) (h₀ := X.base) I.ok.mod.kin hmt.kp hall (thn (ha.run pos pins s1 σ H1 (fun vs H2 => ∃ m2 h2 xs, xs.length = n ∧ Ext m1 H1 m2 H2 ∧ Rep X.K X.mg m2 H2 h2 ∧ m2[n']? = some a ∧ DvAll X.K X.mg m2 H2 xs vs ∧ rg X.K X.mg (DV X.K X.mg) W σ m2 H2 ((KL σm h2).bind fun ys h3 => code (g (.ref n' :: xs) ys) h3) Q) I1 ⟨m1, σm, h1, R1, S1, ?_⟩) fun us s2 ⟨vs, H2, I2, r, m2, h2, xs, lx, e2, R2, hn2, d2, q2⟩ => ?_) hpl hst
    · cases ea : AL σm h1 with
      | ok xs h2 => rw [ea] at q1; exact fun vs m2 H2 e2 R2 d2 => ⟨m2, h2, xs, l _ _ _ _ ea, e2, R2, e2.get hn, d2, rg.ext dmV e2 R2 q1⟩
      | exc y h1 => rw [ea] at q1; exact q1
      | stuck => rw [ea] at q1; exact q1
    · refine thn (hkw.run pos pins s2 σ H2 (fun vs2 H3 => ∃ m3 h3 ys, ys.length = ks.length ∧ Rep X.K X.mg m3 H3 h3 ∧ m3[n']? = some a ∧ DvAll X.K X.mg m3 H3 xs vs ∧ DvAll X.K X.mg m3 H3 ys vs2 ∧ rg X.K X.mg (DV X.K X.mg) W σ m3 H3 (code (g (.ref n' :: xs) ys) h3) Q) I2 ⟨m2, σm, h2, R2, S1.mono e2.gro, ?_⟩) fun ws s3 ⟨zs, H3, I3, rz, m3, h3, ys, ly, R3, hn3, d3, d4, q3⟩ => ⟨I3.kIn, ?_⟩
      · cases ea : KL σm h2 with
        | ok ys h3 => rw [ea] at q2; exact fun vs m3 H3 e3 R3 d3 => ⟨m3, h3, ys, l2 _ _ _ _ ea, R3, e3.get hn2, d2.mono e3.gro, d3, rg.ext dmV e3 R3 q2⟩
        | exc y h1 => rw [ea] at q2; exact q2
        | stuck => rw [ea] at q2; exact q2
      · rw [hks]
        exact run_fnM (us := .ref a :: us) (va := .ref a :: vs) (xs := .ref n' :: xs) F hr hgd hb tk I3 (.cons rfl r) rz (congrArg Nat.succ ((lenA_of d3 r).trans lx)) ((lenA_of d4 rz).trans ly) R3 (.cons (.ref hn3) d3) d4 q3
end
/-! #### makers -/
/-- a new instance is a place -/
theorem Rep.made (R : Rep K mg m H h) (hC : mg c = some (.ref C)) {x dx : Addr} (nx : H x = none) (nd : H dx = none) (ne : dx ≠ x) : Ext m H (m ++ [x]) (upd (upd H dx (.own x)) x (.ins C dx [])) ∧ Rep K mg (m ++ [x]) (upd (upd H dx (.own x)) x (.ins C dx [])) (h ++ [.ins c []]) := by
  have nx2 : upd H dx (.own x) x = none := by rw [upd_ne (Ne.symm ne)]; exact nx
  have e : Ext m H (m ++ [x]) (upd (upd H dx (.own x)) x (.ins C dx [])) := by
    refine ⟨⟨[x], rfl⟩, fun b u hb _ nb => ?_, fun b u hb nb => ⟨u, ?_⟩, fun b hb nb => ?_, fun b _ _ hb => by rw [upd_ne (ne_of_none hb nx), upd_ne (ne_of_none hb nd)]; exact hb⟩
    · rw [upd_ne (ne_of_none hb nx), upd_ne (ne_of_none hb nd)]
      exact hb
    · rw [upd_ne (ne_of_none hb nx), upd_ne (ne_of_none hb nd)]
      exact hb
    · rcases List.mem_append.mp hb with z | z
      · exact absurd z nb
      · have : b = x := by simpa using z
        rw [this]
        exact nx
  refine ⟨e, R.place (R.out nx) e.gro (fun b hb => ?_) ⟨C, dx, [], upd_same, hC, fun z => ?_, ?_, .nil⟩ fun P ps z => by rw [upd_ne (ne_of_none z nx), upd_ne (ne_of_none z nd)]; exact z⟩
  · obtain ⟨u, hu⟩ := R.tracked hb
    rw [upd_ne (ne_of_none hu nx), upd_ne (ne_of_none hu nd)]
  · rcases List.mem_append.mp z with z | z
    · exact R.out nd z
    · exact ne (by simpa using z)
  · rw [upd_ne ne]
    exact upd_same
theorem run_makeM {pins : List (Addr × Obj)} {s : Shared} {Q : VK} {us ws : List Value} {va vb : List V} {xs ys : List MV} (M : Mk X.K C f) (hC : X.mg c = some (.ref C)) (F : FnM X.prog X.w X.K X.mg X.base k f fd ps code) (hr : Room (k + 1) X.A) (hgd : X.A.guards = some []) (hb : BnM X.K X.mg fd ps (n + 1) ks g) (tk : Takes X W)
    (I : L2.Inv X pins σ H s) (r1 : Vals va us) (r2 : Vals vb ws) (l1 : us.length = n) (l2 : ws.length = ks.length) (R : Rep X.K X.mg m H h) (d1 : DvAll X.K X.mg m H xs va) (d2 : DvAll X.K X.mg m H ys vb)
    (q : rg X.K X.mg (DV X.K X.mg) W σ m H ((code (g (.ref h.length :: xs) ys) (h ++ [.ins c []])).bind fun v h3 => match v with
      | .non => .ok (.ref h.length) h3
      | _ => .stuck) Q) : wpAny (model X.prog X.w) X.A (call (.ref C) us (ks.zip ws)) (EP X pins σ Q) X.xe s := by
  have nx := I.hok.fresh (Nat.le_succ s.heap.objs.size)
  have nd := I.hok.fresh (Nat.le_refl s.heap.objs.size)
  obtain ⟨e1, R1⟩ := R.made hC nx nd (Nat.ne_of_lt (Nat.lt_succ_self _))
  have I2 := Inv.made (C := C) I
  obtain ⟨zs, b, lz, bv⟩ := hb.to _ (.ref (s.heap.objs.size + 1) :: us) ws I2.kIn (congrArg Nat.succ l1) l2
  have hn : (m ++ [s.heap.objs.size + 1])[h.length]? = some (s.heap.objs.size + 1) := by rw [← R.len]; simp
  obtain ⟨vc, d3, r3⟩ := bv _ _ (.ref h.length :: xs) ys (.ref (s.heap.objs.size + 1) :: va) vb (.cons (.ref hn) (d1.mono e1.gro)) (.cons rfl r1) (d2.mono e1.gro) r2
  refine wpAny_call (make_map (f := f) I.kIn M.makes M.init (beq_iff_eq.mp M.fn) (codeAny_mono (F.run _ X.stack _ _ ⟨Value.ref (s.heap.objs.size + 1) :: us, ks.zip ws⟩ zs vc (fun v H2 => v = .non ∧ Q (.ref (s.heap.objs.size + 1)) H2) (fun cls d H2 => W cls d σ H2) _ _ _ (hr.make C us _)
    ?_ (I2.env0.make C us _) b r3 (by rw [r3.length]; exact lz) R1 d3 ?_) fun r s' hq' => ?_))
  · first | exact hgd | simpa [Around.under, Code.isGuard, guardIds] using hgd
  · cases ec : code (g (.ref h.length :: xs) ys) (h ++ [.ins c []]) with
    | ok v h' =>
      rw [ec] at q
      intro v' m' H' e' R' d'
      cases v with
      | non =>
        cases d'.dv (fun _ => MV.noConfusion)
        exact ⟨rfl, q (.ref (s.heap.objs.size + 1)) m' H' (e1.trans e') R' (.v (.ref (e'.get hn)))⟩
      | _ => exact q.elim
    | exc y h' =>
      rw [ec] at q
      exact fun cls d m' H' e' R' x => q cls d m' H' (e1.trans e') R' x
    | stuck => rw [ec] at q; exact q
  · cases r with
    | error e => exact tk e s' (XE.of_call I2 (fun cls d H' h => h) hq')
    | ok fl =>
      cases fl with
      | ret u =>
        obtain ⟨v, H', I3, rv, ev, q3⟩ := I2.after hq'
        subst ev
        exact ⟨rv, ⟨V.ref (s.heap.objs.size + 1), H', I3, rfl, q3⟩⟩
      | _ => exact False.elim hq'
end
end Mi

set_option maxHeartbeats 400000
/-! ### makers' calls; how arguments are bound; a law's end -/
namespace Mi
open PySem PySem.Spec PyProof.Rows L2
variable [TheW]
section
variable {K : PySem.W.Frag} {mg : Str → Option Value} {X : Cx} {W : WX} {m : List Addr} {H : Hp} {h : MH} {σ : L2.St} {k n j : Nat} {f C : Addr} {fd : FuncData} {ps ks : List Str} {g : List MV → List MV → List MV} {code : MF} {c : Str} {p pos : Pos} {e : Expr} {es : List Expr} {kws : List Keyword} {AL KL : MA}
variable (F : FnM X.prog X.w K mg X.base k f fd ps code) (hr : Room (k + 1) X.A) (hgd : X.A.guards = some []) (hb : BnM K mg fd ps (n + 1) ks g) (tk : Takes X W) (M : Mk K C f) (hC : mg c = some (.ref C))
include F hr hgd hb tk M hC
theorem se_make (hg : Gl X c) (hks : ks = []) (ha : SA K mg W X (e :: es) AL) (l : LenA AL n) (hK : X.K = K := by rfl) (hM : X.mg = mg := by rfl)
    (hdb : (c == ("__debug__" : Str)) = false := by decide) (he : starEach (e :: es) X.env = (false, eval e X.env) :: starEach es X.env := by rfl) (hpl : (backTo pos (starEach es X.env)).any (·.1) = false := by rfl) :
    SE K mg W X (.Call (.Name c p) (e :: es) [] pos) (eMake c g code AL aNil) := by
  subst hK hM hks
  refine ⟨fun pins s σ H Q I ⟨m, σm, h, R, S, q⟩ => wpAny_Call_Name_kw (ld_glob I hg hC ?_ hdb)⟩
  refine PySem.W.callWith_K (h₀ := X.base) I.ok.mod.kin M.kp (thn (ha.run pos pins s σ H (fun vs H1 => ∃ m1 h1 xs, xs.length = n ∧ Rep X.K X.mg m1 H1 h1 ∧ DvAll X.K X.mg m1 H1 xs vs ∧ rg X.K X.mg (DV X.K X.mg) W σ m1 H1 ((code (g (.ref h1.length :: xs) []) (h1 ++ [.ins c []])).bind fun v h3 => match v with
      | .non => .ok (.ref h1.length) h3
      | _ => .stuck) Q) I ⟨m, σm, h, R, S, ?_⟩) fun us s1 ⟨vs, H1, I1, r, m1, h1, xs, lx, R1, d1, q1⟩ => ⟨I1.kIn, ?_⟩) he hpl
  · unfold eMake at q
    cases ea : AL σm h with
    | ok xs h1 => rw [ea] at q; exact fun vs m1 H1 e1 R1 d1 => ⟨m1, h1, xs, l _ _ _ _ ea, R1, d1, rg.ext dmV e1 R1 q⟩
    | exc y h1 => rw [ea] at q; exact q
    | stuck => rw [ea] at q; exact q
  · exact run_makeM (ws := []) (vb := []) (ys := []) M hC F hr hgd hb tk I1 r .nil ((lenA_of d1 r).trans lx) rfl R1 d1 .nil q1
theorem se_make0 (hg : Gl X c) (hks : ks = []) (hn : n = 0) (hK : X.K = K := by rfl) (hM : X.mg = mg := by rfl) (hdb : (c == ("__debug__" : Str)) = false := by decide) : SE K mg W X (.Call (.Name c p) [] [] pos) (eMake c g code aNil aNil) := by
  subst hK hM hks hn
  refine ⟨fun pins s σ H Q I ⟨m, σm, h, R, S, q⟩ => wpAny_Call_Name_kw (ld_glob I hg hC ?_ hdb)⟩
  exact PySem.W.callWith_K0 I.kIn M.kp (run_makeM (us := []) (va := []) (xs := []) (ws := []) (vb := []) (ys := []) M hC F hr hgd hb tk I .nil .nil rfl rfl R .nil .nil q)
theorem se_makeK {j : Nat} (hg : Gl X c) (ha : SA K mg W X (e :: es) AL) (l : LenA AL n) (hkw : SK K mg W X kws KL) (l2 : LenA KL j) (hj : j = ks.length) (hK : X.K = K := by rfl) (hM : X.mg = mg := by rfl)
    (hall : (backToKw pos (keywordEach kws X.env)).all (·.1.isSome) = true := by rfl) (hks : (backToKw pos (keywordEach kws X.env)).filterMap (·.1) = ks := by rfl)
    (hdb : (c == ("__debug__" : Str)) = false := by decide) (he : starEach (e :: es) X.env = (false, eval e X.env) :: starEach es X.env := by rfl)
    (hpl : ((backTo pos (starEach (e :: es) X.env)).any (·.1) || (backToKw pos (keywordEach kws X.env)).any (·.1.isNone)) = false := by rfl) :
    SE K mg W X (.Call (.Name c p) (e :: es) kws pos) (eMake c g code AL KL) := by
  subst hK hM hj
  refine ⟨fun pins s σ H Q I ⟨m, σm, h, R, S, q⟩ => wpAny_Call_Name_kw (ld_glob I hg hC ?_ hdb)⟩
  unfold eMake at q
  refine PySem.W.callWith_KW (h₀ := X.base) I.ok.mod.kin M.kp hall (thn (ha.run pos pins s σ H (fun vs H1 => ∃ m1 h1 xs, xs.length = n ∧ Ext m H m1 H1 ∧ Rep X.K X.mg m1 H1 h1 ∧ DvAll X.K X.mg m1 H1 xs vs ∧ rg X.K X.mg (DV X.K X.mg) W σ m1 H1 ((KL σm h1).bind fun ys h2 => (code (g (.ref h2.length :: xs) ys) (h2 ++ [.ins c []])).bind fun v h3 => match v with
      | .non => .ok (.ref h2.length) h3
      | _ => .stuck) Q) I ⟨m, σm, h, R, S, ?_⟩) fun us s1 ⟨vs, H1, I1, r, m1, h1, xs, lx, e1, R1, d1, q1⟩ => ?_) hpl he
  · cases ea : AL σm h with
    | ok xs h1 => rw [ea] at q; exact fun vs m1 H1 e1 R1 d1 => ⟨m1, h1, xs, l _ _ _ _ ea, e1, R1, d1, rg.ext dmV e1 R1 q⟩
    | exc y h1 => rw [ea] at q; exact q
    | stuck => rw [ea] at q; exact q
  · refine thn (hkw.run pos pins s1 σ H1 (fun vs2 H2 => ∃ m2 h2 ys, ys.length = ks.length ∧ Rep X.K X.mg m2 H2 h2 ∧ DvAll X.K X.mg m2 H2 xs vs ∧ DvAll X.K X.mg m2 H2 ys vs2 ∧ rg X.K X.mg (DV X.K X.mg) W σ m2 H2 ((code (g (.ref h2.length :: xs) ys) (h2 ++ [.ins c []])).bind fun v h3 => match v with
      | .non => .ok (.ref h2.length) h3
      | _ => .stuck) Q) I1 ⟨m1, σm, h1, R1, S.mono e1.gro, ?_⟩) fun ws s2 ⟨zs, H2, I2, rz, m2, h2, ys, ly, R2, d2, d3, q2⟩ => ⟨I2.kIn, ?_⟩
    · cases ea : KL σm h1 with
      | ok ys h2 => rw [ea] at q1; exact fun vs m2 H2 e2 R2 d2 => ⟨m2, h2, ys, l2 _ _ _ _ ea, R2, d1.mono e2.gro, d2, rg.ext dmV e2 R2 q1⟩
      | exc y h1 => rw [ea] at q1; exact q1
      | stuck => rw [ea] at q1; exact q1
    · rw [hks]
      exact run_makeM M hC F hr hgd hb tk I2 r rz ((lenA_of d2 r).trans lx) ((lenA_of d3 rz).trans ly) R2 d2 d3 q2
theorem se_makeK0 {j : Nat} (hg : Gl X c) (hn : n = 0) (hkw : SK K mg W X kws KL) (l2 : LenA KL j) (hj : j = ks.length) (hK : X.K = K := by rfl) (hM : X.mg = mg := by rfl)
    (hall : (backToKw pos (keywordEach kws X.env)).all (·.1.isSome) = true := by rfl) (hks : (backToKw pos (keywordEach kws X.env)).filterMap (·.1) = ks := by rfl) (hdb : (c == ("__debug__" : Str)) = false := by decide)
    (hpl : ((backTo pos (starEach [] X.env)).any (·.1) || (backToKw pos (keywordEach kws X.env)).any (·.1.isNone)) = false := by rfl) : SE K mg W X (.Call (.Name c p) [] kws pos) (eMake c g code aNil KL) := by
  subst hK hM hj hn
  refine ⟨fun pins s σ H Q I ⟨m, σm, h, R, S, q⟩ => wpAny_Call_Name_kw (ld_glob I hg hC ?_ hdb)⟩
  refine PySem.W.callWith_KW0 (h₀ := X.base) I.ok.mod.kin M.kp hall ?_ hpl
  refine thn (hkw.run pos pins s σ H (fun vs2 H2 => ∃ m2 h2 ys, ys.length = ks.length ∧ Rep X.K X.mg m2 H2 h2 ∧ DvAll X.K X.mg m2 H2 ys vs2 ∧ rg X.K X.mg (DV X.K X.mg) W σ m2 H2 ((code (g [.ref h2.length] ys) (h2 ++ [.ins c []])).bind fun v h3 => match v with
      | .non => .ok (.ref h2.length) h3
      | _ => .stuck) Q) I ⟨m, σm, h, R, S, ?_⟩) fun ws s2 ⟨zs, H2, I2, rz, m2, h2, ys, ly, R2, d3, q2⟩ => ⟨I2.kIn, ?_⟩
  · have q : rg X.K X.mg (DV X.K X.mg) W σ m H ((KL σm h).bind fun ys h2 => (code (g [.ref h2.length] ys) (h2 ++ [.ins c []])).bind fun v h3 => match v with
      | .non => .ok (.ref h2.length) h3
      | _ => .stuck) Q := q
    cases ea : KL σm h with
    | ok ys h2 => rw [ea] at q; exact fun vs m2 H2 e2 R2 d2 => ⟨m2, h2, ys, l2 _ _ _ _ ea, R2, d2, rg.ext dmV e2 R2 q⟩
    | exc y h1 => rw [ea] at q; exact q
    | stuck => rw [ea] at q; exact q
  · rw [hks]
    exact run_makeM (us := []) (va := []) (xs := []) M hC F hr hgd hb tk I2 .nil rz rfl ((lenA_of d3 rz).trans ly) R2 .nil d3 q2
end
/-! #### how arguments are bound -/
inductive Src where
  | p (i : Nat) | d (i : Nat) | m (i : Nat) | k (i : Nat)
/-- the parameters' values: positional ones, defaults, lacking keyword-only ones, keywords -/
def gI1 {α : Type} (s : Src) (us ds mz ws : List α) : Option α := match s with
  | .p i => us[i]?
  | .d i => ds[i]?
  | .m i => mz[i]?
  | .k i => ws[i]?
def gI {α : Type} (src : List Src) (us ds mz ws : List α) : List α := match src with
  | [] => []
  | s :: r => (gI1 s us ds mz ws).toList ++ gI r us ds mz ws
theorem Vals.get2 {xs : List V} {us : List Value} (r : Vals xs us) (i : Nat) : (xs[i]? = none ∧ us[i]? = none) ∨ ∃ x u, xs[i]? = some x ∧ us[i]? = some u ∧ RelV x u := by
  cases e : xs[i]? with
  | none => exact .inl ⟨rfl, r.none_of e⟩
  | some x =>
    obtain ⟨u, h1, h2⟩ := r.get e
    exact .inr ⟨x, u, rfl, h1, h2⟩
theorem gI_vals {va da ma ka : List V} {us ds mz ws : List Value} (r1 : Vals va us) (r2 : Vals da ds) (r3 : Vals ma mz) (r4 : Vals ka ws) : ∀ src : List Src, Vals (gI src va da ma ka) (gI src us ds mz ws)
  | [] => .nil
  | s :: src => by
    refine Vals.append ?_ (gI_vals r1 r2 r3 r4 src)
    have step : ∀ {a : Option V} {b : Option Value}, ((a = none ∧ b = none) ∨ ∃ x u, a = some x ∧ b = some u ∧ RelV x u) → Vals a.toList b.toList := fun {a b} z => by
      rcases z with ⟨rfl, rfl⟩ | ⟨x, u, rfl, rfl, r⟩
      · exact .nil
      · exact .cons r .nil
    cases s with
    | p i => exact step (Vals.get2 r1 i)
    | d i => exact step (Vals.get2 r2 i)
    | m i => exact step (Vals.get2 r3 i)
    | k i => exact step (Vals.get2 r4 i)
section
variable {K : PySem.W.Frag} {mg : Str → Option Value} {m : List Addr} {H : Hp}
theorem DvAll.get2 {xs : List MV} {us : List V} (r : DvAll K mg m H xs us) (i : Nat) : (xs[i]? = none ∧ us[i]? = none) ∨ ∃ x u, xs[i]? = some x ∧ us[i]? = some u ∧ Dv K mg m H x u := by
  cases e : xs[i]? with
  | none =>
    refine .inl ⟨rfl, ?_⟩
    have := List.getElem?_eq_none_iff.mp e
    rw [r.length] at this
    exact List.getElem?_eq_none_iff.mpr this
  | some x =>
    obtain ⟨u, h1, h2⟩ := r.get e
    exact .inr ⟨x, u, rfl, h1, h2⟩
theorem gI_dv {va da ma ka : List MV} {us ds mz ws : List V} (r1 : DvAll K mg m H va us) (r2 : DvAll K mg m H da ds) (r3 : DvAll K mg m H ma mz) (r4 : DvAll K mg m H ka ws) : ∀ src : List Src, DvAll K mg m H (gI src va da ma ka) (gI src us ds mz ws)
  | [] => .nil
  | s :: src => by
    refine DvAll.append ?_ (gI_dv r1 r2 r3 r4 src)
    have step : ∀ {a : Option MV} {b : Option V}, ((a = none ∧ b = none) ∨ ∃ x u, a = some x ∧ b = some u ∧ Dv K mg m H x u) → DvAll K mg m H a.toList b.toList := fun {a b} z => by
      rcases z with ⟨rfl, rfl⟩ | ⟨x, u, rfl, rfl, r⟩
      · exact .nil
      · exact .cons r .nil
    cases s with
    | p i => exact step (DvAll.get2 r1 i)
    | d i => exact step (DvAll.get2 r2 i)
    | m i => exact step (DvAll.get2 r3 i)
    | k i => exact step (DvAll.get2 r4 i)
/-- constants as default values -/
def cV : MV → V
  | .bl b => .bl b
  | .int i => .int i
  | .str x => .str x
  | _ => .non
def isC : MV → Bool
  | .non | .bl _ | .int _ | .str _ => true
  | _ => false
theorem dv_const : ∀ {xs : List MV}, xs.all isC = true → DvAll K mg m H xs (xs.map cV)
  | [], _ => .nil
  | x :: xs, h => by
    rw [List.all_cons, Bool.and_eq_true] at h
    refine .cons ?_ (dv_const h.2)
    cases x with
    | non => exact .non
    | bl b => exact .bl b
    | int i => exact .int i
    | str x => exact .str x
    | _ => cases h.1
end
section
variable {K : PySem.W.Frag} {mg : Str → Option Value} {x qual : Str} {params : Arguments} {body : List Stmt} {scope : Scope} {f : Addr} {fd : FuncData} {ps : List Str}
/-- no defaults -/
theorem bnN (F : FunD K x qual params body scope [] [] f fd) (n : Nat) (ks : List Str) (src : List Src) (hl : ∀ us ws : List Value, us.length = n → ws.length = ks.length → (gI src us [] [] ws).length = ps.length)
    (h : ∀ (kV doc pm : Value) (an : Option Addr) (cdv ct : Value) (us ws : List Value), us.length = n → ws.length = ks.length → bindArgs (PySem.W.fnOf x qual params body scope .none kV doc pm an cdv ct) ⟨us, ks.zip ws⟩ = pure (ps.zip (gI src us [] [] ws))) : BnM K mg fd ps n ks (fun xs ys => gI src xs [] [] ys) := by
  obtain ⟨oc, od, dV, kV, doc, pm, an, cdv, ct, osl, rfl, lk, hcd, hD, hK⟩ := F.ex
  rcases hD with ⟨_, rfl⟩ | ⟨e, _⟩
  · exact ⟨fun s us ws _ e1 e2 => ⟨gI src us [] [] ws, .of_eq (h kV doc pm an cdv ct us ws e1 e2), hl us ws e1 e2, fun m H xs ys va vb d1 r1 d2 r2 => ⟨gI src va [] [] vb, gI_dv d1 .nil .nil d2 src, gI_vals r1 .nil .nil r2 src⟩⟩⟩
  · exact absurd rfl e
/-- positional defaults -/
theorem bnT {dvs : List V} {dms : List MV} (F : FunD K x qual params body scope dvs [] f fd) (n : Nat) (ks : List Str) (src : List Src) (hd : dvs ≠ []) (hdm : dms.map cV = dvs) (hc : dms.all isC = true) (hl : ∀ us its ws : List Value, us.length = n → its.length = dms.length → ws.length = ks.length → (gI src us its [] ws).length = ps.length)
    (h : ∀ (T : Addr) (kV doc pm : Value) (an : Option Addr) (cdv ct : Value) (us its ws : List Value), us.length = n → its.length = dvs.length → ws.length = ks.length →
      ∃ k, bindArgs (PySem.W.fnOf x qual params body scope (.ref T) kV doc pm an cdv ct) ⟨us, ks.zip ws⟩ = seqItems? (.ref T) >>= k ∧ k (some its.toArray) = pure (ps.zip (gI src us its [] ws))) : BnM K mg fd ps n ks (fun xs ys => gI src xs dms [] ys) := by
  obtain ⟨oc, od, dV, kV, doc, pm, an, cdv, ct, osl, rfl, lk, hcd, hD, hK⟩ := F.ex
  rcases hD with ⟨e, _⟩ | ⟨_, T, o, its, mm, rfl, lT, oT, rT⟩
  · exact absurd e hd
  · have li : its.length = dms.length := by rw [← rT.length, ← hdm, List.length_map]
    refine ⟨fun s us ws kin e1 e2 => ⟨gI src us its [] ws, ?_, hl us its ws e1 li e2, fun m H xs ys va vb d1 r1 d2 r2 => ⟨gI src va dvs [] vb, ?_, gI_vals r1 rT .nil r2 src⟩⟩⟩
    · obtain ⟨k, q1, q2⟩ := h T kV doc pm an cdv ct us its ws e1 rT.length.symm e2
      refine BindsTo.of_looks fun M => ?_
      rw [q1]
      exact looks_items kin lT oT (.of_pure q2)
    · rw [← hdm]
      exact gI_dv d1 (dv_const hc) .nil d2 src
/-- keyword-only parameters with defaults -/
theorem bnD {kws : List (Str × V)} {mms : List MV} (F : FunD K x qual params body scope [] kws f fd) (n : Nat) (ks : List Str) (src : List Src) (ms : List (Str × V)) (hk : kws ≠ []) (hms : ∀ q ∈ ms, q ∈ kws) (hmm : mms.map cV = ms.map (·.2)) (hc : mms.all isC = true)
    (hl : ∀ us mv ws : List Value, us.length = n → mv.length = ms.length → ws.length = ks.length → (gI src us [] mv ws).length = ps.length)
    (h : ∀ (D : Addr) (doc pm : Value) (an : Option Addr) (cdv ct : Value) (us mv ws : List Value), us.length = n → mv.length = ms.length → ws.length = ks.length →
      KwChain D ((ms.map (·.1)).zip mv) (bindArgs (PySem.W.fnOf x qual params body scope .none (.ref D) doc pm an cdv ct) ⟨us, ks.zip ws⟩) (ps.zip (gI src us [] mv ws))) : BnM K mg fd ps n ks (fun xs ys => gI src xs [] mms ys) := by
  obtain ⟨oc, od, dV, kV, doc, pm, an, cdv, ct, osl, rfl, lk, hcd, hD, hK⟩ := F.ex
  rcases hD with ⟨_, rfl⟩ | ⟨e, _⟩
  · rcases hK with e | ⟨D, rfl, hq⟩
    · exact absurd e hk
    · obtain ⟨mv, lm, rk, hks⟩ := kwd_vals (ms := ms) fun q hm => hq q (hms q hm)
      refine ⟨fun s us ws kin e1 e2 => ⟨gI src us [] mv ws, BindsTo.of_looks fun M => KwChain.looks kin hks (h D doc pm an cdv ct us mv ws e1 lm e2), hl us mv ws e1 lm e2, fun m H xs ys va vb d1 r1 d2 r2 => ⟨gI src va [] (ms.map (·.2)) vb, ?_, gI_vals r1 .nil rk r2 src⟩⟩⟩
      rw [← hmm]
      exact gI_dv d1 .nil (dv_const hc) d2 src
  · exact absurd rfl e
end
/-! #### the end of a law -/
/-- what the law's start asks of the tables of code objects -/
structure Tabd (K : PySem.W.Frag) (mg : Str → Option Value) (h : Heap) (cs : List (Addr × Addr)) : Prop where
  bare : ∀ p ∈ cs, h.get? p.2 = some { cls := .none, data := .fields #[] }
  free : ∀ p ∈ cs, K.lookup p.2 = none
  code : ∀ p ∈ cs, PySem.W.CodeHd h p.1 p.2
  all : ∀ (x q : Str) (P : Addr), (x, q) ∈ lamDefs → TabOf K mg x P → ∃ c, (c, P) ∈ cs
theorem Tabd.none {K : PySem.W.Frag} {mg : Str → Option Value} {h : Heap} (e : lamDefs = []) : Tabd K mg h [] := ⟨(fun _ y => nomatch y), (fun _ y => nomatch y), (fun _ y => nomatch y), fun x q P y => by rw [e] at y; exact nomatch y⟩
open Classical in
theorem callM {P : Program} {w : World} {K : PySem.W.Frag} {mg mb : Str → Option Value} {k : Nat} {fa a : Addr} {cs : List (Addr × Addr)} {fd : FuncData} {x : Str} {code : MF} {z : Shared} {vs : List Value} {ns : List Int} (kin : K.In z.heap) (hns : z.heap.Ns mainGlobals mg) (hbn : z.heap.Ns builtinsNs mb)
    (hbb : ∀ x : Str, x ≠ "__name__" → mb x = bootBuiltins x) (hlim : z.heap.NoLimit) (hg : z.gens = #[]) (td : Tabd K mg z.heap cs) (hbm : ∃ (bm : Addr) (ob : Obj), mg "__builtins__" = some (.ref bm) ∧ bm ≠ builtinsNs ∧ z.heap.get? bm = some ob ∧ ob.cls = .type "module" ∧ ob.dict = some builtinsNs ∧ ob.data = .plain)
    (ha : z.heap.get? a = some { cls := .type "list", data := .seq vs.toArray }) (hi : IntsAre vs ns) (hl : ns.length ≤ sizeLine) (hr : Room k callerA)
    (F : ∀ base : Heap, K.In base → base.Ns mainGlobals mg → (∀ p ∈ cs, LamX.TabB base mg p.1 p.2) → FnM P w K mg base k fa fd [x] code) (hbind : ∀ (s : Shared) (u : Value), BindsTo s fd ⟨[u], []⟩ [(x, u)]) (hc : ∃ h', code [.con (ns.map MV.int)] [] = .ok (.bl true) h') :
    codeAny (model P w) callerA (.call (.ref fa) ⟨[.ref a], []⟩) (fun r t => r = .ok (.ret (.bool true)) ∧ OldK z.heap t.heap ∧ t.os = z.os ∧ AllBare t.gens) z := by
  have rv := vals_ints hi
  have lv := hi.length
  have dvi : ∀ {m : List Addr} {H : Hp} (l : List Int), DvAll K mg m H (l.map MV.int) (l.map V.int) := fun {m H} l => by
    induction l with
    | nil => exact .nil
    | cons i l ih => exact .cons (.int i) ih
  have tb0 : ∀ b, (∃ c, (c, b) ∈ cs) → z.heap.get? b = some { cls := .none, data := .fields #[] } := fun b ⟨c, y⟩ => td.bare _ y
  have at0 : ¬ ∃ c, (c, a) ∈ cs := fun y => by
    have q := tb0 a y
    rw [ha] at q
    exact nomatch (show Data.seq vs.toArray _ = Data.fields #[] from congrArg Obj.data (Option.some.inj q))
  have main : ∀ H : Hp, HOk P w H z.heap → (∀ p ∈ cs, H p.2 = some (.tbl #[])) → (∀ b, H b ≠ none → (∃ c, (c, b) ∈ cs) ∨ (b = a ∧ K.lookup a = none ∧ H a = some (.frz { cls := .type "list", data := .seq vs.toArray } (.lst (ns.map V.int))))) → Dv K mg [] H (.con (ns.map MV.int)) (.ref a) →
      codeAny (model P w) callerA (.call (.ref fa) ⟨[.ref a], []⟩) (fun r t => r = .ok (.ret (.bool true)) ∧ OldK z.heap t.heap ∧ t.os = z.os ∧ AllBare t.gens) z := by
    intro H hok hT only dv
    have free : ∀ {b : Addr} {o : Obj}, z.heap.get? b = some o → (∀ its n, o.data ≠ .seq its n) → o.data ≠ .fields #[] → H b = none := fun {b o} e nd nf => by
      cases q : H b with
      | none => rfl
      | some u =>
        rcases only b (by rw [q]; simp) with y | ⟨rfl, _⟩
        · rw [tb0 b y] at e
          cases e
          exact absurd rfl nf
        · rw [ha] at e
          cases e
          exact absurd rfl (nd _ _)
    have ns1 : ∀ {b : Addr} {mm : Str → Option Value}, z.heap.Ns b mm → (hidT z.heap H).Ns b mm := fun {b mm} ⟨o, es, ep, e, d, r⟩ => ⟨o, es, ep, hidT_get e (free e (fun _ _ y => by rw [d] at y; cases y) fun y => by rw [d] at y; cases y), d, r⟩
    have kb : K.In (hidT z.heap H) := fun b o e => hidT_get (kin b o e) (by
      cases q : H b with
      | none => rfl
      | some u =>
        rcases only b (by rw [q]; simp) with ⟨c, y⟩ | ⟨rfl, hk, _⟩
        · have y2 := td.free _ y
          rw [show K.lookup b = none from y2] at e
          cases e
        · rw [hk] at e
          cases e)
    have md : Mod K mg (hidT z.heap H) := ⟨kb, ns1 hns, ⟨mb, ns1 hbn, hbb⟩, let ⟨mc, y1, y2⟩ := hlim; ⟨mc, ns1 y1, y2⟩⟩
    have tbs : ∀ p ∈ cs, LamX.TabB (hidT z.heap H) mg p.1 p.2 := fun p hp => by
      refine ⟨?_, ?_, fun y => ?_⟩
      · obtain ⟨o, us, f1, f2, f3, f4, f5, f6, f7, e1, r1, r2, r3, rr⟩ := td.code p hp
        refine ⟨o, us, f1, f2, f3, f4, f5, f6, f7, hidT_get e1 (free e1 (fun _ _ y => by rw [r2] at y; cases y) fun y => ?_), r1, r2, r3, rr⟩
        rw [r2] at y
        cases y
        simp at r3
      · obtain ⟨bm, ob, b1, b2, b3, b4, b5, b6⟩ := hbm
        refine ⟨bm, ob, b1, b2, fun y => ?_, fun y => ?_, hidT_get b3 (free b3 (fun _ _ y => by rw [b6] at y; cases y) fun y => by rw [b6] at y; cases y), b4, b5, b6⟩
        · obtain ⟨o, es, ep, e, hd, _⟩ := hns
          rw [y, e] at b3
          cases b3
          rw [hd] at b6
          cases b6
        · have q := td.bare p hp
          rw [← y, b3] at q
          cases q
          cases b6
      · obtain ⟨o, es, ep, e, hd, _⟩ := hns
        have q := td.bare p hp
        rw [← y, e] at q
        cases q
        cases hd
    have e0 : Env0 P w K mg (hidT z.heap H) callerA [] z H := ⟨rfl, md, fun b o e => of_hidT e, Nat.le_of_eq (hidT_size _ _), trivial, (fun b hb => nomatch (show b ∈ ([] : List Addr) from hb)), hok, .of_eq hg⟩
    obtain ⟨h', hc⟩ := hc
    have R0 : Rep K mg [] H [] := ⟨rfl, List.nodup_nil, fun x q P y1 y2 => by
      obtain ⟨c, y⟩ := td.all x q P y1 y2
      refine ⟨by simp, #[], hT _ y, trivial, fun pos cv hc => ?_⟩
      simp [codeAmong] at hc, fun n o a e => by simp at e⟩
    refine codeAny_mono ((F _ kb (ns1 hns) tbs).run callerA [] z H ⟨[.ref a], []⟩ [.ref a] [.ref a] (fun v _ => v = .bl true) (fun _ _ _ => False) [] [] [.con (ns.map MV.int)] hr rfl e0 (hbind z (.ref a)) (.cons rfl .nil) rfl R0 (.cons dv .nil) ?_) fun r t y => ?_
    · rw [hc]
      intro v' m' H' _ _ d
      cases d.dv (fun _ => MV.noConfusion)
      rfl
    · cases r with
      | error e =>
        obtain ⟨_, _, _, _, _, _, _, _, _, _, _, _, no⟩ := y
        exact no.elim
      | ok fl =>
        cases fl with
        | ret u =>
          obtain ⟨v, H', os, bare, un, hok', r', q⟩ := y
          have q' : v = .bl true := q
          subst q'
          obtain rfl : u = Value.bool true := r'
          have same : ∀ b o, z.heap.get? b = some o → (¬ ∃ c, (c, b) ∈ cs) → t.heap.get? b = some o := fun b o e nb => by
            cases q : H b with
            | none => exact un.keep b o e q (fun y => nomatch (show b ∈ ([] : List Addr) from y)) (by simp)
            | some u =>
              rcases only b (by rw [q]; simp) with y | ⟨rfl, _, fz⟩
              · exact absurd y nb
              · obtain ⟨e1, _⟩ := hok b _ fz
                obtain ⟨e2, _⟩ := hok' b _ (un.frzs b _ _ fz)
                rw [e] at e1
                cases e1
                exact e2
          have more : ∀ p ∈ cs, ∃ vs : Array Value, t.heap.get? p.2 = some { cls := .none, data := .fields vs } := fun p hp => by
            obtain ⟨vs, y⟩ := un.tbls p.2 #[] (hT p hp)
            exact ⟨_, hok' p.2 _ y⟩
          refine ⟨rfl, ⟨fun b o e => ?_, fun b o e => ?_⟩, os, bare⟩
          · by_cases hb : ∃ c, (c, b) ∈ cs
            · obtain ⟨c, hb⟩ := hb
              obtain ⟨vs, hm⟩ := more _ hb
              rw [show z.heap.get? b = _ from td.bare _ hb] at e
              cases e
              exact .inr (.inl ⟨((td.code _ hb).tab (td.bare _ hb)).isCodeTable, rfl, #[], vs, rfl, by rw [Array.empty_append]; exact hm⟩)
            · exact .inl (same b o e hb)
          · by_cases hb : ∃ c, (c, b) ∈ cs
            · obtain ⟨c, hb⟩ := hb
              obtain ⟨vs, hm⟩ := more _ hb
              exact ⟨_, hm⟩
            · exact ⟨o, same b o e hb⟩
        | _ => exact False.elim y
  have tm : ∀ {b : Addr}, (∃ c, (c, b) ∈ cs) → b ≠ a := fun {b} y e => at0 (by rw [← e]; exact y)
  cases hk : K.lookup a with
  | some o =>
    have e := kin a o hk
    rw [ha] at e
    cases e
    refine main (fun b => if ∃ c, (c, b) ∈ cs then some (.tbl #[]) else none) (fun b u y => ?_) (fun p hp => if_pos ⟨p.1, hp⟩) (fun b y => .inl (Classical.byContradiction fun nb => y (if_neg nb))) (.conK ⟨_, vs.toArray, _, hk, rfl, rfl, rfl, by rw [List.size_toArray, lv]; exact hl, by simpa using rv⟩ (dvi ns))
    by_cases hb : ∃ c, (c, b) ∈ cs
    · have y := (if_pos hb).symm.trans y
      cases y
      exact tb0 b hb
    · have y := (if_neg hb).symm.trans y
      cases y
  | none =>
    let H0 : Hp := fun b => if b = a then some (.frz { cls := .type "list", data := .seq vs.toArray } (.lst (ns.map V.int))) else if ∃ c, (c, b) ∈ cs then some (.tbl #[]) else none
    have at_a : H0 a = some (.frz { cls := .type "list", data := .seq vs.toArray } (.lst (ns.map V.int))) := if_pos rfl
    have at_t : ∀ b, (∃ c, (c, b) ∈ cs) → H0 b = some (.tbl #[]) := fun b y => (if_neg (tm y)).trans (if_pos y)
    have at_n : ∀ b, b ≠ a → (¬ ∃ c, (c, b) ∈ cs) → H0 b = none := fun b y1 y2 => (if_neg y1).trans (if_neg y2)
    refine main H0 (fun b u y => ?_) (fun p hp => at_t _ ⟨p.1, hp⟩) (fun b y => ?_) (.con at_a (by simp) (dvi ns))
    · by_cases hb : b = a
      · subst hb
        rw [at_a] at y
        cases y
        exact ⟨ha, by rw [List.length_map]; exact hl, vs, _, rv, ha⟩
      · by_cases hb2 : ∃ c, (c, b) ∈ cs
        · rw [at_t b hb2] at y
          cases y
          exact tb0 b hb2
        · rw [at_n b hb hb2] at y
          cases y
    · by_cases hb : b = a
      · exact .inr ⟨hb, hk, at_a⟩
      · exact .inl (Classical.byContradiction fun nb => y (at_n b hb nb))
omit [TheW] in
/-- a law: F gives the written part, the def's meaning over every base -/
theorem walkM {l : PySem.W.OpenLaw} {n k : Nat} {q : Program} {loose : List Str} {XP : (Str → Option Value) → Heap → Prop} {YP : World → Heap → Prop} {d : DefRec} {x : Str} (hn : l.most = some n) (hn2 : n ≤ sizeLine) (hdf : d.params.defaults = []) (hr : Room k callerA)
    (F : ∀ (w : World) (mg : Str → Option Value) (fa : Addr) (h : Heap), YP w h → h.Ns mainGlobals mg → mg d.name = some (.ref fa) → ∃ (K : PySem.W.Frag) (fd : FuncData) (code : MF) (cs : List (Addr × Addr)), K.In h ∧ Tabd K mg h cs ∧ (∀ (s : Shared) (u : Value), BindsTo s fd ⟨[u], []⟩ [(x, u)]) ∧
      (∀ ns : List Int, ns.length ≤ n → ∃ h', code [.con (ns.map MV.int)] [] = .ok (.bl true) h') ∧ ∀ base : Heap, K.In base → base.Ns mainGlobals mg → (∀ p ∈ cs, LamX.TabB base mg p.1 p.2) → (letI : TheW := ⟨w⟩; FnM l.prog w K mg base k fa fd [x] code)) : PySem.W.WalkO q loose XP YP l.row.toRowW d [] (fun f vs => PySem.call f vs) := by
  refine Att.attach_call hn hdf fun w s₀ s₁ mg mb fa o pm cd doc a vs ns G Y ho hd hcd hmg hobj hints hlen hg => ?_
  obtain ⟨K, fd, code, cs, kin, td, hb, hc, hF⟩ := F w mg fa _ Y G.T.g hmg
  letI : TheW := ⟨w⟩
  exact callM kin G.T.g G.T.b G.T.builtins G.T.nolimit hg td G.T.bmain hobj hints (Nat.le_trans hlen hn2) hr hF hb (hc ns hlen)
end Mi

set_option maxHeartbeats 400000
namespace Mi
open PySem PySem.Spec PyProof.Rows L2
variable [TheW]
section
variable {K : PySem.W.Frag} {mg : Str → Option Value} {X : Cx} {W : WX}
theorem sv (i : Nat) {x : Str} {pos : Pos} (hN : X.N[i]? = some x := by rfl) (hv : Vis X.env.scope x := by first | exact Or.inl rfl | exact Or.inr (Or.inl rfl) | exact Or.inr (Or.inr rfl)) (hd : (x == ("__debug__" : Str)) = false := by decide) (hcd : (x == ("__classdict__" : Str)) = false := by decide) : SE K mg W X (.Name x pos) (eVar i) := se_var hN hv hd hcd
theorem atF {c f : Str} {C : Addr} (gl : mg c = some (.ref C)) (cl : Cls K C) (na : NoAttr K C f) : AtF K mg c f := fun C' h => by
  rw [gl] at h
  cases h
  exact ⟨cl, na⟩
/-- how arguments come to the parameters -/
def gb (src : List Src) (ds mz : List MV) (xs ys : List MV) : List MV := gI src xs ds mz ys
/-- a, b = e -/
def sAsgT (g : MG) (A : ME) : MSt := fun σ h => (eSet A σ h).st σ fun v h1 => (g v σ h1).st σ fun σ1 h2 => .next σ1 h2
theorem ss_asgT {t e : Expr} {A : ME} {g : MG} {vs : List Nat} {pos : Pos} (ha : SE K mg W X e A) (hg : SG K mg W X vs t g) (nx : NoX g) (hs : swapsWithSole [t] e pos.line X.env = pure false := by rfl) (hw : swappedStores [t] e X.env = pure none := by rfl)
    (h1 : (assignEach [t] X.env).map (·.2) = [assign t X.env] := by rfl) : SS K mg W X (.Assign [t] e pos) (sAsgT g A) := (ps_asg (se_set ha) hg hs hw h1).imp fun D σ H ⟨m, σm, h, R, S, q⟩ => by
  refine ⟨m, σm, h, R, S, ?_⟩
  unfold sAsgT at q
  cases ev : eSet A σm h with
  | stuck => rw [ev] at q; exact q.elim
  | exc x h1 => rw [ev] at q; exact fun cls d m' H' e' R' x => q cls d σ m' H' e' R' (S.mono e'.gro) x
  | ok v h1 =>
    rw [ev, Res.ok_st] at q
    intro v' m1 H1 e1 R1 d1
    have S1 := S.mono e1.gro
    refine ⟨m1, σm, h1, v, R1, S1, d1.dv (eSet_ns ev), rs.part S1 (rs.ext e1 R1 q) fun σ1 h2 s1 m2 H2 e2 R2 d2 q2 => ?_⟩
    exact q2 s1 m2 H2 e2 R2 d2.1
end
/-! ### the head's hook with facts of our own -/
abbrev AlB : Type := He.AlD × List Bool
def obsB (fa : List He.Fa) (fn : List He.DefD) (bs : List (PySem.W.Frag → Bool)) (K : PySem.W.Frag) : AlB := (He.obsD fa fn K, bs.map fun b => b K)
def valB (fn : List He.DefD) (bs : List (PySem.W.Frag → Bool)) : AlB := (He.valD fn, bs.map fun _ => true)
def SaysB (fa : List He.Fa) (fn : List He.DefD) (bs : List (PySem.W.Frag → Bool)) (K : PySem.W.Frag) : Prop := obsB fa fn bs K = valB fn bs
def obsBG (n : Nat) (fa : List He.Fa) (fn : List He.DefD) (bs : List (PySem.W.Frag → Bool)) (g : Addr → Option Obj) : AlB := obsB fa fn bs (He.frG g (He.asD g n))
def hookB (n : Nat) (fa : List He.Fa) (fn : List He.DefD) (bs : List (PySem.W.Frag → Bool)) : PySem.W.Hook where
  α := AlB
  obs := fun s => obsBG n fa fn bs s.heap.get?
  val := fun _ => valB fn bs
  says := fun _ h => ∃ K : PySem.W.Frag, K.In h ∧ SaysB fa fn bs K
  of := fun _ _ e => ⟨_, He.frG_in, e⟩
  keeps := fun _ _ _ ⟨K, hK, c⟩ k => ⟨K, PySem.W.Frag.In.keeps hK k, c⟩
theorem obsBG_eq {n : Nat} {fa : List He.Fa} {fn : List He.DefD} {bs : List (PySem.W.Frag → Bool)} {g : Addr → Option Obj} {s : Shared} (h : ∀ a, g a = s.heap.get? a) : obsBG n fa fn bs g = (hookB n fa fn bs).obs s := by
  have e : g = s.heap.get? := funext h
  rw [e] <;> rfl
theorem SaysB.d {fa : List He.Fa} {fn : List He.DefD} {bs : List (PySem.W.Frag → Bool)} {K : PySem.W.Frag} (c : SaysB fa fn bs K) : He.SaysD fa fn K := congrArg (fun z : AlB => z.1) c
theorem SaysB.own {fa : List He.Fa} {fn : List He.DefD} {bs : List (PySem.W.Frag → Bool)} {K : PySem.W.Frag} (c : SaysB fa fn bs K) (i : Nat) {b : PySem.W.Frag → Bool} (h : bs[i]? = some b := by rfl) : b K = true := by
  have e : bs.map (fun b => b K) = bs.map fun _ => true := congrArg (fun z : AlB => z.2) c
  have e2 : (bs.map fun b => b K)[i]? = (bs.map fun _ => true)[i]? := by rw [e]
  rw [List.getElem?_map, List.getElem?_map, h] at e2
  exact Option.some.inj e2
/-! own facts about exception classes -/
/-- the object of an exception class over ValueError, with a dict -/
def oexL (K : PySem.W.Frag) (C : Addr) : Bool := match K.lookup C with
  | some ⟨.type "type", _, .cls cd, sl⟩ => (match cd.mro, sl.toList with
    | .ref C' :: bm, [_, _, _, _, some (.builtin n), _] => C' == C && (n == "ValueError.__new__" && (!cd.hasDel && (cd.hasDict && PySem.HandSPX.refsVE bm)))
    | _, _ => false)
  | _ => false
def oexB (x : Str) (K : PySem.W.Frag) : Bool := oexL K (He.ga K x) && (decide (PySem.W.findIn K (.ref (He.ga K x)) "__setattr__" = some (some (.builtin "object.__setattr__"))) && (decide (PySem.W.subIn K (.ref (He.ga K x)) (.type "BaseException") = some true) &&
  (decide (PySem.W.typeIn K (.ref (He.ga K x)) = some (.type "type")) && PySem.W.keepIn K (.ref (He.ga K x)))))
theorem oexB_ok {x : Str} {K : PySem.W.Frag} (h : oexB x K = true) : OexC K (He.ga K x) := by
  obtain ⟨h1, h⟩ := Bool.and_eq_true_iff.mp h
  obtain ⟨h2, h⟩ := Bool.and_eq_true_iff.mp h
  obtain ⟨h3, h⟩ := Bool.and_eq_true_iff.mp h
  obtain ⟨h4, h5⟩ := Bool.and_eq_true_iff.mp h
  refine ⟨?_, of_decide_eq_true h2, of_decide_eq_true h3, of_decide_eq_true h4, h5⟩
  unfold oexL at h1
  split at h1
  · rename_i dd cd sl ho
    split at h1
    · rename_i C' bm k0 k1 k2 k3 n k5 hm hs
      simp only [Bool.and_eq_true, beq_iff_eq, Bool.not_eq_true'] at h1
      obtain ⟨rfl, rfl, hdel, hdic, hb⟩ := h1
      obtain ⟨nm, bs, mro, ns, qn, hd, sn, sub, ab, col, del⟩ := cd
      obtain ⟨sl⟩ := sl
      dsimp only at hm hdel hdic hs
      subst hm hdel hdic hs
      exact ⟨nm, qn, ns, bs, bm, sn, sub, ab, col, dd, k0, k1, k2, k3, k5, ho, hb⟩
    · cases h1
  · cases h1
/-- isinstance and fields of instances -/
def ecB (x : Str) (K : PySem.W.Frag) : Bool := xfB K (He.ga K x) && (decide (PySem.W.findIn K (.ref (He.ga K x)) "__class__" = some (some (.builtin "object.__class__"))) && (decide (PySem.W.specialIn K (.builtin "object.__class__") "__get__" = some (some (.builtin "getset_descriptor.__get__"))) &&
  (decide (PySem.W.takesIn K (.builtin "object.__class__") = some true) && decide (PySem.W.mroIn K (He.ga K x) (.type "object") = some true))))
theorem ecB_ok {x : Str} {K : PySem.W.Frag} (h : ecB x K = true) : ExcC K (He.ga K x) ∧ XfC K (He.ga K x) := by
  obtain ⟨h1, h⟩ := Bool.and_eq_true_iff.mp h
  obtain ⟨h2, h⟩ := Bool.and_eq_true_iff.mp h
  obtain ⟨h3, h⟩ := Bool.and_eq_true_iff.mp h
  obtain ⟨h4, h5⟩ := Bool.and_eq_true_iff.mp h
  have f := xfB_ok h1
  exact ⟨⟨f.ga, f.gg, f.exC, f.hdC, of_decide_eq_true h2, of_decide_eq_true h3, of_decide_eq_true h4, of_decide_eq_true h5⟩, f⟩
def kitF (x y : Str) (b : Bool) (K : PySem.W.Frag) : Bool := decide (PySem.W.kitOne K (.ref (He.ga K x)) (.ref (He.ga K y)) = some b)
theorem kitF_ok {x y : Str} {b : Bool} {K : PySem.W.Frag} (h : kitF x y b K = true) : PySem.W.kitOne K (.ref (He.ga K x)) (.ref (He.ga K y)) = some b := of_decide_eq_true h
def noatB (x f : Str) (K : PySem.W.Frag) : Bool := decide (PySem.W.findIn K (.ref (He.ga K x)) f = some none)
theorem noatB_ok {x f : Str} {K : PySem.W.Frag} (h : noatB x f K = true) : PySem.W.findIn K (.ref (He.ga K x)) f = some none := of_decide_eq_true h
/-- x.__init__ is ValueError's -/
structure LeC (K : PySem.W.Frag) (C : Addr) : Prop where
  rd : PySem.W.readsIn K C (.type "type") = true
  ga : PySem.W.specialIn K (.ref C) "__getattribute__" = some (some (.builtin "type.__getattribute__"))
  vV : PySem.W.findCls K (.ref C) (.type "type") "__init__" = some (.val (.builtin "ValueError.__init__"))
def leB (x : Str) (K : PySem.W.Frag) : Bool := PySem.W.readsIn K (He.ga K x) (.type "type") && (decide (PySem.W.specialIn K (.ref (He.ga K x)) "__getattribute__" = some (some (.builtin "type.__getattribute__"))) && (match PySem.W.findCls K (.ref (He.ga K x)) (.type "type") "__init__" with
  | some (.val (.builtin n)) => n == "ValueError.__init__"
  | _ => false))
theorem leB_ok {x : Str} {K : PySem.W.Frag} (h : leB x K = true) : LeC K (He.ga K x) := by
  obtain ⟨h1, h⟩ := Bool.and_eq_true_iff.mp h
  obtain ⟨h2, h3⟩ := Bool.and_eq_true_iff.mp h
  refine ⟨h1, of_decide_eq_true h2, ?_⟩
  split at h3
  · rename_i n e
    rw [e, beq_iff_eq.mp h3]
  · cases h3
end Mi

set_option maxHeartbeats 400000
/-! ### reckoning with plain meanings -/
namespace Mi
open PySem PySem.Spec PyProof.Rows L2
variable [TheW]
section
variable {α β : Type} {a : α} {h : MH} {σ : MS} {x : XV} {v : MV}
@[simp ↓] theorem bind_at {r : Res α} {f : α → MH → Res β} : r.bind f = match r with
  | .ok a h => f a h
  | .exc x h => .exc x h
  | .stuck => .stuck := id rfl
@[simp ↓] theorem bn_at {r : Res α} {f : α → MH → Res β} : r.bn f = match r with
  | .ok a h => f a h
  | _ => .stuck := id rfl
@[simp ↓] theorem st_at {r : Res α} {σ : MS} {f : α → MH → SR} : r.st σ f = match r with
  | .ok a h => f a h
  | .exc x h => .exc x σ h
  | .stuck => .stuck := id rfl
theorem bind_ok {f : α → MH → Res β} : (Res.ok a h).bind f = f a h := rfl
theorem bind_exc {f : α → MH → Res β} : (Res.exc x h : Res α).bind f = .exc x h := rfl
theorem bind_stuck {f : α → MH → Res β} : (Res.stuck : Res α).bind f = .stuck := rfl
theorem bn_ok {f : α → MH → Res β} : (Res.ok a h).bn f = f a h := rfl
theorem st_ok {f : α → MH → SR} : (Res.ok a h).st σ f = f a h := rfl
theorem st_exc {f : α → MH → SR} : (Res.exc x h : Res α).st σ f = .exc x σ h := rfl
def SR.thn (r : SR) (t : MSt) : SR := match r with
  | .next σ' h' => t σ' h'
  | r => r
def SR.out (r : SR) : Res MV := match r with
  | .ret v h' => .ok v h'
  | .next _ h' => .ok .non h'
  | .exc x _ h' => .exc x h'
  | _ => .stuck
@[simp ↓] theorem thn_at {r : SR} {t : MSt} : r.thn t = match r with
  | .next σ' h' => t σ' h'
  | r => r := id rfl
@[simp ↓] theorem out_at {r : SR} : r.out = match r with
  | .ret v h' => .ok v h'
  | .next _ h' => .ok .non h'
  | .exc x _ h' => .exc x h'
  | _ => .stuck := id rfl
theorem thn_next {t : MSt} : (SR.next σ h).thn t = t σ h := rfl
theorem thn_ret {t : MSt} : (SR.ret v h).thn t = .ret v h := rfl
theorem thn_exc {t : MSt} : (SR.exc x σ h).thn t = .exc x σ h := rfl
theorem thn_brk {t : MSt} : (SR.brk σ h).thn t = .brk σ h := rfl
theorem thn_cont {t : MSt} : (SR.cont σ h).thn t = .cont σ h := rfl
theorem out_ret : (SR.ret v h).out = .ok v h := rfl
theorem out_next : (SR.next σ h).out = .ok .non h := rfl
theorem out_exc : (SR.exc x σ h).out = .exc x h := rfl
end
section
variable {σ : MS} {h : MH} {A B C : ME} {T U : MT} {i j n : Nat} {v : MV} {s t : MSt} {AL KL : MA} {xs : List MV}
@[simp] theorem eVar_ap : eVar i σ h = match σ[i]? with
  | some (some v) => .ok v h
  | _ => .stuck := id rfl
@[simp] theorem eC_ap : eC v σ h = .ok v h := id rfl
@[simp] theorem eSet_ap : eSet A σ h = (A σ h).bind settle := id rfl
@[simp] theorem eUn_ap {op : MV → MH → Res MV} : eUn op A σ h = (A σ h).bind op := id rfl
@[simp] theorem eBin_ap {op : MV → MV → MH → Res MV} : eBin op A B σ h = (A σ h).bind fun x h1 => (B σ h1).bind fun y h2 => op x y h2 := id rfl
def tbK (v : MV) (h1 : MH) : Res Bool := match v with
  | .bl b => .ok b h1
  | _ => .stuck
@[simp] theorem tbK_bl {b : Bool} : tbK (.bl b) h = .ok b h := id rfl
@[simp] theorem tB_ap : tB A σ h = (A σ h).bind tbK := id rfl
def truK (v : MV) (h1 : MH) : Res Bool := match truM h1 v with
  | some b => .ok b h1
  | none => .stuck
@[simp] theorem truK_bl {b : Bool} : truK (.bl b) h = .ok b h := id rfl
@[simp] theorem tTru_ap : tTru A σ h = (A σ h).bind truK := id rfl
@[simp] theorem tAndM_ap : tAndM T U σ h = (T σ h).bind fun b h1 => if b = true then U σ h1 else .ok false h1 := id rfl
@[simp] theorem tOrM_ap : tOrM T U σ h = (T σ h).bind fun b h1 => if b = true then .ok true h1 else U σ h1 := id rfl
@[simp] theorem tNotM_ap : tNotM T σ h = (T σ h).bind fun b h1 => .ok (!b) h1 := id rfl
@[simp] theorem tYesM_ap : tYesM σ h = .ok true h := id rfl
def andK (σ : MS) (B : ME) (x : MV) (h1 : MH) : Res MV := match truM h1 x with
  | some true => B σ h1
  | some false => .ok x h1
  | none => .stuck
@[simp] theorem andK_t : andK σ B (.bl true) h = B σ h := id rfl
@[simp] theorem andK_f : andK σ B (.bl false) h = .ok (.bl false) h := id rfl
theorem andK_b {b : Bool} : andK σ B (.bl b) h = if b = true then B σ h else .ok (.bl false) h := by cases b <;> rfl
@[simp] theorem eAnd_ap : eAnd A B σ h = (A σ h).bind (andK σ B) := id rfl
def orK (σ : MS) (B : ME) (x : MV) (h1 : MH) : Res MV := match truM h1 x with
  | some true => .ok x h1
  | some false => B σ h1
  | none => .stuck
@[simp] theorem orK_t : orK σ B (.bl true) h = .ok (.bl true) h := id rfl
@[simp] theorem orK_f : orK σ B (.bl false) h = B σ h := id rfl
theorem orK_b {b : Bool} : orK σ B (.bl b) h = if b = true then .ok (.bl true) h else B σ h := by cases b <;> rfl
@[simp] theorem eOr_ap : eOr A B σ h = (A σ h).bind (orK σ B) := id rfl
def notK (x : MV) (h1 : MH) : Res MV := match truM h1 x with
  | some b => .ok (.bl (!b)) h1
  | none => .stuck
@[simp] theorem notK_bl {b : Bool} : notK (.bl b) h = .ok (.bl (!b)) h := id rfl
@[simp] theorem eNot_ap : eNot A σ h = (A σ h).bind notK := id rfl
@[simp] theorem eIf_ap : eIf T A B σ h = (T σ h).bind fun b h1 => if b = true then A σ h1 else B σ h1 := id rfl
def chK (op' : MV → MV → MH → Res MV) (y : MV) (C : ME) (σ : MS) (z : MV) (h3 : MH) : Res MV := match z with
  | .bl true => (C σ h3).bind fun w h4 => op' y w h4
  | .bl false => .ok (.bl false) h3
  | _ => .stuck
@[simp] theorem chK_t {op' : MV → MV → MH → Res MV} {y : MV} : chK op' y C σ (.bl true) h = (C σ h).bind fun w h4 => op' y w h4 := id rfl
@[simp] theorem chK_f {op' : MV → MV → MH → Res MV} {y : MV} : chK op' y C σ (.bl false) h = .ok (.bl false) h := id rfl
theorem chK_b {op' : MV → MV → MH → Res MV} {y : MV} {b : Bool} : chK op' y C σ (.bl b) h = if b = true then ((C σ h).bind fun w h4 => op' y w h4) else .ok (.bl false) h := by cases b <;> rfl
@[simp] theorem eChain_ap {op op' : MV → MV → MH → Res MV} : eChain op op' A B C σ h = (A σ h).bind fun x h1 => (B σ h1).bind fun y h2 => (op x y h2).bind (chK op' y C σ) := id rfl
@[simp] theorem aNil_ap : aNil σ h = .ok [] h := id rfl
@[simp] theorem aCons_ap : aCons A AL σ h = (A σ h).bind fun v h1 => (settle v h1).bind fun v h2 => (AL σ h2).bind fun vs h3 => .ok (v :: vs) h3 := id rfl
@[simp] theorem eTup_ap : eTup AL σ h = (AL σ h).bind fun xs h1 => .ok (.tup xs) h1 := id rfl
@[simp] theorem eLst_ap : eLst AL σ h = (AL σ h).bind fun xs h1 => .ok (.tmp xs) h1 := id rfl
@[simp] theorem eCB_ap {f : List MV → MH → Res MV} : eCB f AL σ h = (AL σ h).bind f := id rfl
@[simp] theorem eCB1_ap {f : MV → MH → Res MV} : eCB1 f A σ h = (A σ h).bind f := id rfl
@[simp] theorem settle_non : settle .non h = .ok .non h := id rfl
@[simp] theorem settle_bl {b : Bool} : settle (.bl b) h = .ok (.bl b) h := id rfl
@[simp] theorem settle_int {b : Int} : settle (.int b) h = .ok (.int b) h := id rfl
@[simp] theorem settle_str {b : Str} : settle (.str b) h = .ok (.str b) h := id rfl
@[simp] theorem settle_tup : settle (.tup xs) h = .ok (.tup xs) h := id rfl
@[simp] theorem settle_con : settle (.con xs) h = .ok (.con xs) h := id rfl
@[simp] theorem settle_ref : settle (.ref n) h = .ok (.ref n) h := id rfl
@[simp] theorem settle_ty {b : String} : settle (.ty b) h = .ok (.ty b) h := id rfl
@[simp] theorem settle_cls {b : Str} : settle (.cls b) h = .ok (.cls b) h := id rfl
@[simp] theorem settle_tmp : settle (.tmp xs) h = .ok (.ref h.length) (h ++ [.lst xs]) := id rfl
/-- a value that is no list in flight -/
def Set : MV → Prop
  | .tmp _ => False
  | _ => True
theorem settle_set (e : Set v) : settle v h = .ok v h := by cases v <;> first | rfl | cases e
def eM0K (f : MV → MH → Res MV) (x : MV) (h1 : MH) : Res MV := match x with
  | .str a => f (.str a) h1
  | _ => .stuck
@[simp] theorem eM0K_str {f : MV → MH → Res MV} {a : Str} : eM0K f (.str a) h = f (.str a) h := id rfl
@[simp] theorem eM0_ap {f : MV → MH → Res MV} : eM0 f A σ h = (A σ h).bind (eM0K f) := id rfl
def eM1K (f : MV → MV → MH → Res MV) (B : ME) (σ : MS) (x : MV) (h1 : MH) : Res MV := match x with
  | .str a => (B σ h1).bind fun y h2 => f (.str a) y h2
  | _ => .stuck
@[simp] theorem eM1K_str {f : MV → MV → MH → Res MV} {a : Str} : eM1K f B σ (.str a) h = (B σ h).bind fun y h2 => f (.str a) y h2 := id rfl
@[simp] theorem eM1_ap {f : MV → MV → MH → Res MV} : eM1 f A B σ h = (A σ h).bind (eM1K f B σ) := id rfl
@[simp] theorem eDic0_ap : eDic0 σ h = .ok (.ref h.length) (h ++ [.dic []]) := id rfl
@[simp] theorem eSl_ap {f : MV → Option Int → Option Int → MH → Res MV} {L U : MO'} : eSl f A L U σ h = (A σ h).bind fun x h1 => (L σ h1).bind fun lo h2 => (U σ h2).bind fun hi h3 => f x lo hi h3 := id rfl
@[simp] theorem oNo_ap : oNo σ h = .ok none h := id rfl
def oSoK (v : MV) (h : MH) : Res (Option Int) := match v with
  | .int i => .ok (some i) h
  | _ => .stuck
@[simp] theorem oSoK_int {i : Int} : oSoK (.int i) h = .ok (some i) h := id rfl
@[simp] theorem oSo_ap : oSo A σ h = (A σ h).bind oSoK := id rfl
@[simp] theorem eCall_ap {g : List MV → List MV → List MV} {code : MF} : eCall g code AL KL σ h = (AL σ h).bind fun xs h1 => (KL σ h1).bind fun ys h2 => code (g xs ys) h2 := id rfl
@[simp] theorem gb_ap {src : List Src} {ds mz ys : List MV} : gb src ds mz xs ys = gI src xs ds mz ys := id rfl
@[simp] theorem gI_nil {us ds mz ws : List MV} : gI [] us ds mz ws = [] := id rfl
@[simp] theorem gI_p {r : List Src} {us ds mz ws : List MV} : gI (.p i :: r) us ds mz ws = (us[i]?).toList ++ gI r us ds mz ws := id rfl
@[simp] theorem gI_d {r : List Src} {us ds mz ws : List MV} : gI (.d i :: r) us ds mz ws = (ds[i]?).toList ++ gI r us ds mz ws := id rfl
@[simp] theorem gI_k {r : List Src} {us ds mz ws : List MV} : gI (.k i :: r) us ds mz ws = (ws[i]?).toList ++ gI r us ds mz ws := id rfl
@[simp] theorem gI_m {r : List Src} {us ds mz ws : List MV} : gI (.m i :: r) us ds mz ws = (mz[i]?).toList ++ gI r us ds mz ws := id rfl
@[simp] theorem fnCode_ap {b : MSt} : fnCode n b xs h = (b (xs.map some ++ List.replicate (n - xs.length) none) h).out := id rfl
@[simp] theorem sNil_ap : sNil σ h = .next σ h := id rfl
@[simp] theorem sSeq_ap : sSeq s t σ h = (s σ h).thn t := id rfl
@[simp] theorem sAsg_ap : sAsg i A σ h = (A σ h).st σ fun v h1 => (settle v h1).st σ fun v h2 => .next (σ.set i (some v)) h2 := id rfl
@[simp] theorem sDrop_ap : sDrop A σ h = (A σ h).st σ fun _ h1 => .next σ h1 := id rfl
@[simp] theorem sRet_ap : sRet A σ h = (A σ h).st σ fun v h1 => .ret v h1 := id rfl
@[simp] theorem sRetN_ap : sRetN σ h = .ret .non h := id rfl
@[simp] theorem sIf_ap : sIf T s t σ h = (T σ h).st σ fun b h1 => if b = true then s σ h1 else t σ h1 := id rfl
@[simp] theorem sBrk_ap : sBrk σ h = .brk σ h := id rfl
@[simp] theorem sCont_ap : sCont σ h = .cont σ h := id rfl
def sSubK (o v : MV) (σ : MS) (i : MV) (h3 : MH) : SR := match setM o i v h3 with
  | some h4 => .next σ h4
  | none => .stuck
theorem sSubK_at {o v iv : MV} {h4 : MH} (e : setM o iv v h = some h4) : sSubK o v σ iv h = .next σ h4 := by unfold sSubK; rw [e]
@[simp] theorem sSub_ap {O I V : ME} : sSub O I V σ h = (eSet V σ h).st σ fun v h1 => (O σ h1).st σ fun o h2 => (I σ h2).st σ (sSubK o v σ) := id rfl
@[simp] theorem gN_ap : gN i v σ h = .ok (σ.set i (some v)) h := id rfl
@[simp] theorem eComp_ap {I : MI} {g : MG} {tt : MT} {te : ME} {vs : List Nat} : eComp I g tt te vs σ h = (I σ h).bind fun w h1 => compL w.still g tt te (wipeM σ vs) w.items [] h1 := id rfl
@[simp] theorem sFor_ap {I : MI} {g : MG} : sFor I g s σ h = (I σ h).st σ fun w h1 => sForL w.still g s w.items σ h1 := id rfl
@[simp] theorem wipe_nil : wipeM σ [] = σ := id rfl
@[simp] theorem wipe_cons {vs : List Nat} : wipeM σ (i :: vs) = (wipeM σ vs).set i none := id rfl
noncomputable def iSeqK (v : MV) (h1 : MH) : Res MW := match v with
  | .str z => .ok ⟨signs z, fun _ => true⟩ h1
  | .tup xs => .ok ⟨xs, fun _ => true⟩ h1
  | v => match asL h1 v with
    | some xs => .ok ⟨xs, stillL v xs⟩ h1
    | none => .stuck
@[simp] theorem iSeq_ap : iSeq A σ h = (A σ h).bind iSeqK := id rfl
@[simp] theorem iSeqK_str {z : Str} : iSeqK (.str z) h = .ok ⟨signs z, fun _ => true⟩ h := id rfl
@[simp] theorem iSeqK_tup : iSeqK (.tup xs) h = .ok ⟨xs, fun _ => true⟩ h := id rfl
@[simp] theorem iSeqK_tmp : iSeqK (.tmp xs) h = .ok ⟨xs, fun _ => true⟩ h := id rfl
@[simp] theorem iSeqK_con : iSeqK (.con xs) h = .ok ⟨xs, fun _ => true⟩ h := id rfl
theorem iSeqK_ref (e : h[n]? = some (.lst xs)) : iSeqK (.ref n) h = .ok ⟨xs, stillL (.ref n) xs⟩ h := by
  unfold iSeqK
  simp only [asL, e]
noncomputable def iR1K (vs : List MV) (h1 : MH) : Res MW := match vs with
  | [.int j] => @ite _ (-(2 ^ 62) ≤ j ∧ j < 2 ^ 62) (Classical.propDecidable _) (.ok ⟨upInts 0 j.toNat, fun _ => true⟩ h1) .stuck
  | _ => .stuck
@[simp] theorem iR1_ap : iR1 AL σ h = (AL σ h).bind iR1K := id rfl
theorem iR1K_int {j : Int} (a : -(2 ^ 62) ≤ j ∧ j < 2 ^ 62) : iR1K [.int j] h = .ok ⟨upInts 0 j.toNat, fun _ => true⟩ h := by
  exact if_pos a
end
/-! #### walks -/
section
variable {ι : Type} {st : MH → Bool} {g : MG} {tt : MT} {te : ME} {σ : MS} {s : MSt}
/-- a comprehension that changes nothing -/
theorem compL_pure (φ : ι → MV) (p : ι → Bool) (e : ι → MV) (h : MH) (hs : st h = true) : ∀ (l : List ι) (acc : List MV), acc.length + l.length ≤ sizeLine →
    (∀ x ∈ l, ∃ σ1, g (φ x) σ h = .ok σ1 h ∧ tt σ1 h = .ok (p x) h ∧ (p x = true → eSet te σ1 h = .ok (e x) h)) →
    compL st g tt te σ (l.map φ) acc h = .ok (.tmp (acc ++ (l.filter p).map e)) h
  | [], acc, _, _ => by simp [compL, hs]
  | x :: l, acc, len, H => by
    obtain ⟨σ1, e1, e2, e3⟩ := H x (List.mem_cons_self ..)
    rw [List.length_cons] at len
    show (if st h = true then (g (φ x) σ h).bn fun σ1 h1 => (tt σ1 h1).bn fun b h2 => if b = true then (if acc.length < sizeLine then ((eSet te) σ1 h2).bn fun v h4 => compL st g tt te σ (l.map φ) (acc ++ [v]) h4 else .stuck) else compL st g tt te σ (l.map φ) acc h2 else .stuck) = _
    rw [if_pos hs, e1, Res.ok_bn, e2, Res.ok_bn]
    cases q : p x with
    | true =>
      rw [if_pos rfl, if_pos (by omega), e3 q, Res.ok_bn, compL_pure φ p e h hs l (acc ++ [e x]) (by rw [List.length_append, List.length_singleton]; omega) fun y hy => H y (List.mem_cons_of_mem _ hy), List.filter_cons_of_pos q, List.map_cons, List.append_assoc]
      rfl
    | false =>
      rw [if_neg (by decide), compL_pure φ p e h hs l acc (by omega) fun y hy => H y (List.mem_cons_of_mem _ hy), List.filter_cons_of_neg (by rw [q]; decide)]
theorem compL_map (φ : ι → MV) (e : ι → MV) (h : MH) (hs : st h = true) (l : List ι) (len : l.length ≤ sizeLine)
    (H : ∀ x ∈ l, ∃ σ1, g (φ x) σ h = .ok σ1 h ∧ tt σ1 h = .ok true h ∧ eSet te σ1 h = .ok (e x) h) : compL st g tt te σ (l.map φ) [] h = .ok (.tmp (l.map e)) h := by
  have q := compL_pure φ (fun _ => true) e h hs l [] (by simpa using len) fun x hx => by
    obtain ⟨σ1, a, b, c⟩ := H x hx
    exact ⟨σ1, a, b, fun _ => c⟩
  rw [q, List.nil_append, List.filter_eq_self.mpr fun _ _ => rfl]
theorem compL_flt (φ : ι → MV) (p : ι → Bool) (h : MH) (hs : st h = true) (l : List ι) (len : l.length ≤ sizeLine)
    (H : ∀ x ∈ l, ∃ σ1, g (φ x) σ h = .ok σ1 h ∧ tt σ1 h = .ok (p x) h ∧ (p x = true → eSet te σ1 h = .ok (φ x) h)) : compL st g tt te σ (l.map φ) [] h = .ok (.tmp ((l.filter p).map φ)) h := by
  have q := compL_pure φ p φ h hs l [] (by simpa using len) H
  rw [q, List.nil_append]
theorem compL_flt1 (p : MV → Bool) (h : MH) (hs : st h = true) (l : List MV) (len : l.length ≤ sizeLine)
    (H : ∀ x ∈ l, ∃ σ1, g x σ h = .ok σ1 h ∧ tt σ1 h = .ok (p x) h ∧ (p x = true → eSet te σ1 h = .ok x h)) : compL st g tt te σ l [] h = .ok (.tmp (l.filter p)) h := by
  have q := compL_flt (st := st) (g := g) (tt := tt) (te := te) (σ := σ) id p h hs l len H
  simpa using q
theorem compL_map1 (e : MV → MV) (h : MH) (hs : st h = true) (l : List MV) (len : l.length ≤ sizeLine)
    (H : ∀ x ∈ l, ∃ σ1, g x σ h = .ok σ1 h ∧ tt σ1 h = .ok true h ∧ eSet te σ1 h = .ok (e x) h) : compL st g tt te σ l [] h = .ok (.tmp (l.map e)) h := by
  have q := compL_map (st := st) (g := g) (tt := tt) (te := te) (σ := σ) id e h hs l len H
  simpa using q
/-- a comprehension by a property of what was told so far; every item tells one -/
theorem compL_inv (P : List MV → List MV → MH → Prop) : ∀ (xs done acc : List MV) (h : MH), acc.length + xs.length ≤ sizeLine → P done acc h →
    (∀ done acc h, P done acc h → st h = true) →
    (∀ done x acc h, x ∈ xs → P done acc h → ∃ σ1 h1 h2 v h3, g x σ h = .ok σ1 h1 ∧ tt σ1 h1 = .ok true h2 ∧ eSet te σ1 h2 = .ok v h3 ∧ P (done ++ [x]) (acc ++ [v]) h3) →
    ∃ ys h', compL st g tt te σ xs acc h = .ok (.tmp ys) h' ∧ P (done ++ xs) ys h' ∧ ys.length = acc.length + xs.length
  | [], done, acc, h, _, p, hs, _ => ⟨acc, h, by simp [compL, hs _ _ _ p], by simpa using p, rfl⟩
  | x :: xs, done, acc, h, len, p, hs, H => by
    rw [List.length_cons] at len
    obtain ⟨σ1, h1, h2, v, h3, e1, e2, e3, p2⟩ := H done x acc h (List.mem_cons_self ..) p
    obtain ⟨ys, h', e4, p4, l4⟩ := compL_inv P xs (done ++ [x]) (acc ++ [v]) h3 (by rw [List.length_append, List.length_singleton]; omega) p2 hs fun d y a z m pp => H d y a z (List.mem_cons_of_mem _ m) pp
    refine ⟨ys, h', ?_, by simpa using p4, by rw [l4, List.length_append, List.length_singleton, List.length_cons]; omega⟩
    show (if st h = true then (g x σ h).bn fun σ1 h1 => (tt σ1 h1).bn fun b h2 => if b = true then (if acc.length < sizeLine then ((eSet te) σ1 h2).bn fun v h4 => compL st g tt te σ xs (acc ++ [v]) h4 else .stuck) else compL st g tt te σ xs acc h2 else .stuck) = _
    rw [if_pos (hs _ _ _ p), e1, Res.ok_bn, e2, Res.ok_bn, if_pos rfl, if_pos (by omega), e3, Res.ok_bn, e4]
/-- a walk by a property -/
theorem sForL_inv (P : List MV → MS → MH → Prop) : ∀ (xs done : List MV) (σ : MS) (h : MH), P done σ h →
    (∀ done σ h, P done σ h → st h = true) →
    (∀ done x σ h, x ∈ xs → P done σ h → ∃ σ1 h1 σ2 h2, g x σ h = .ok σ1 h1 ∧ (s σ1 h1 = .next σ2 h2 ∨ s σ1 h1 = .cont σ2 h2) ∧ P (done ++ [x]) σ2 h2) →
    ∃ σ' h', sForL st g s xs σ h = .next σ' h' ∧ P (done ++ xs) σ' h'
  | [], done, σ, h, p, hs, _ => ⟨σ, h, by simp [sForL, hs _ _ _ p], by simpa using p⟩
  | x :: xs, done, σ, h, p, hs, H => by
    obtain ⟨σ1, h1, σ2, h2, e1, e2, p2⟩ := H done x σ h (List.mem_cons_self ..) p
    obtain ⟨σ', h', e3, p3⟩ := sForL_inv P xs (done ++ [x]) σ2 h2 p2 hs fun d y a z m pp => H d y a z (List.mem_cons_of_mem _ m) pp
    refine ⟨σ', h', ?_, by simpa using p3⟩
    rcases e2 with e2 | e2 <;> simp [sForL, hs _ _ _ p, e1, e2, e3]
end
/-! #### texts by their signs -/
def st (l : List Nat) : Str := ⟨l.toArray⟩
theorem st_codes (l : List Nat) : (st l).cps.toList = l := by simp [st]
theorem st_len (l : List Nat) : (st l).length = l.length := by
  show l.toArray.size = l.length
  simp
theorem st_app (a b : List Nat) : st a ++ st b = st (a ++ b) := by
  show Str.append (st a) (st b) = st (a ++ b)
  unfold Str.append st
  simp
theorem st_of (z : Str) : st z.cps.toList = z := by
  cases z
  simp [st]
theorem cps_len (z : Str) : z.length = z.cps.toList.length := by
  show z.cps.size = _
  simp
theorem cps_app (a b : Str) : (a ++ b).cps.toList = a.cps.toList ++ b.cps.toList := by
  show (Str.append a b).cps.toList = _
  simp [Str.append]
theorem sizeJ (l : List Nat) (h : l.length ≤ 1000) : ((l.map fun c => st [c]).map (·.length)).sum + (l.map fun c => st [c]).length * (st []).length ≤ 16777216 := by
  rw [List.map_map, st_len, List.length_nil, Nat.mul_zero, Nat.add_zero]
  have : ∀ l : List Nat, (l.map ((fun x : Str => x.length) ∘ fun c => st [c])).sum = l.length := fun l => by
    induction l with
    | nil => rfl
    | cons c l ih =>
      rw [List.map_cons, List.sum_cons, ih]
      show (st [c]).length + l.length = l.length + 1
      rw [st_len, List.length_singleton]
      omega
  rw [this]
  omega
theorem join_st (l : List Nat) : Txt.join (st []) (l.map fun c => st [c]) = st l := by
  have h : ∀ l : List Nat, TL.joinL [] (l.map fun c => [c]) = l := by
    intro l
    induction l with
    | nil => rfl
    | cons a l ih =>
      cases l with
      | nil => rfl
      | cons b l =>
        show [a] ++ ([] ++ TL.joinL [] ((b :: l).map fun c => [c])) = a :: b :: l
        rw [ih]
        rfl
  have e := TL.tl_join (st []) (l.map fun c => st [c])
  rw [← TL.join_eq] at e
  have e2 : (l.map fun c => st [c]).map TL.tl = l.map fun c => [c] := by
    rw [List.map_map]
    rfl
  rw [e2] at e
  have e3 : TL.tl (st []) = [] := rfl
  rw [e3, h] at e
  rw [← st_of (Txt.join (st []) (l.map fun c => st [c]))]
  exact congrArg st e
theorem cut_sub (z : Str) (lo hi : Option Int) : (cutS z lo hi).cps.toList.Sublist z.cps.toList := by
  unfold cutS
  simp only [List.toList_toArray]
  exact (List.take_sublist _ _).trans (List.drop_sublist _ _)
theorem cutM_sub (xs : List MV) (lo hi : Option Int) : (cutM xs lo hi).Sublist xs := (List.take_sublist _ _).trans (List.drop_sublist _ _)
end Mi

set_option maxHeartbeats 400000
/-! ### dicts -/
namespace Mi
open PySem PySem.Spec PyProof.Rows L2
variable [TheW]
section
variable {K : PySem.W.Frag} {mg : Str → Option Value} {X : Cx} {m : List Addr} {H H0 H1 : Hp} {h : MH}
theorem ix_dict (hu : X.A.units + 1 < cLine) : IxR X (fun x y H Q => ∃ a v, x = .ref a ∧ DGet H a y (some v) ∧ Q v H) := by
  intro value slice pins s σ H x y v u Q I rx ry hh hs
  obtain ⟨a, w, rfl, g, q⟩ := hh
  obtain rfl : v = Value.ref a := rx
  have hT := dict_typeIs I g
  unfold subscriptTail
  refine wpAny_bind ?_
  rw [getitemInPython_of_ne hT.not_modules]
  refine wpAny_bind (wpAny_specialOf hT PySem.F.slot_dict_getitem.lookup ?_)
  have fin : wpAny (model X.prog X.w) X.A (subscripted slice false (.ref a) u) (fun r s₃ => wpAny (model X.prog X.w) X.A (letTemporaryGo value (.ref a) r >>= fun _ => pure r) (EP X pins σ Q) X.xe s₃) X.xe s := by
    rw [hs]
    exact wpAny_operating (wpAny_mono (d_getItem hu I g ry fun w' s3 I3 rw' => (⟨w, H, I3, rw', q⟩ : EP X pins σ Q w' s3)) (fun r s₃ h₃ => wpAny_bind (wpAny_letTemporaryGo (wpAny_pure h₃))) fun _ _ x => x)
  first
    | exact wpAny_pure (wpAny_bind fin)
    | exact wpAny_bind (wpAny_pure (wpAny_bind fin))
    | exact wpAny_bind fin
/-- a dict by its pairs -/
def asD (h : MH) (v : MV) : Option (List (MV × MV)) := match v with
  | .ref n => match h[n]? with
    | some (.dic kvs) => some kvs
    | _ => none
  | _ => none
/-- a value as a key -/
def asK : MV → Option Key
  | .int i => some (.inl i)
  | .str x => some (.inr x)
  | _ => none
theorem asK_kM (k : Key) : asK (kM k) = some k := by cases k <;> rfl
theorem asK_eq {v : MV} {k : Key} (e : asK v = some k) : v = kM k := by
  cases v with
  | int i => cases e; rfl
  | str x => cases e; rfl
  | _ => cases e
def getD (kvs : List (MV × MV)) (k : Key) : Option MV := (kvs.find? fun p => decide (asK p.1 = some k)).map (·.2)
theorem Dt.asD (R : Rep K mg m H h) {x : MV} {v : V} (d : Dt K mg H0 m H x v) {kvs : List (MV × MV)} (e : asD h x = some kvs) : ∃ n a ls, x = .ref n ∧ v = .ref a ∧ h[n]? = some (.dic kvs) ∧ m[n]? = some a ∧ H a = some (.dK ls) ∧ DvK K mg m H kvs ls := by
  cases x with
  | ref n =>
    cases d.dv (fun _ => MV.noConfusion) with
    | @ref _ a hn =>
      cases q : h[n]? with
      | none => simp [Mi.asD, q] at e
      | some o =>
        have ob := R.at_ q hn
        cases o with
        | dic ks =>
          have : ks = kvs := by simpa [Mi.asD, q] using e
          subst this
          obtain ⟨ls, h1, h2⟩ := ob
          exact ⟨n, a, ls, rfl, rfl, q, hn, h1, h2⟩
        | lst _ => simp [Mi.asD, q] at e
        | ins _ _ => simp [Mi.asD, q] at e
        | dct _ => simp [Mi.asD, q] at e
        | fdc _ => simp [Mi.asD, q] at e
        | fct _ => simp [Mi.asD, q] at e
  | _ => cases e
theorem DvK.get {kvs : List (MV × MV)} {ls : List (Key × V)} (r : DvK K mg m H kvs ls) (k : Key) : (getD kvs k = none ∧ valV ls k = none) ∨ ∃ z w, getD kvs k = some z ∧ valV ls k = some w ∧ Dv K mg m H z w := by
  induction r with
  | nil => exact .inl ⟨rfl, rfl⟩
  | @cons j x v ks ls d r ih =>
    by_cases e : j = k
    · subst e
      exact .inr ⟨x, v, by simp [getD, asK_kM], valV_pos rfl, d⟩
    · have e2 : ¬ asK (kM j) = some k := by rw [asK_kM]; exact fun q => e (Option.some.inj q)
      have e3 : getD ((kM j, x) :: ks) k = getD ks k := by simp [getD, e2]
      rw [e3, valV_neg e]
      exact ih
theorem key_dt {y : MV} {y' : V} {k : Key} (d : Dt K mg H0 m H y y') (e : asK y = some k) : y' = kV k := by
  cases asK_eq e
  cases k with
  | inl i => cases d.dv (fun _ => MV.noConfusion); rfl
  | inr x => cases d.dv (fun _ => MV.noConfusion); rfl
/-- x[y], x a dict too -/
noncomputable def ixD (x y : MV) (h : MH) : Res MV := match asD h x with
  | some kvs => (match asK y with
    | some k => (match getD kvs k with
      | some v => .ok v h
      | none => .stuck)
    | none => .stuck)
  | none => ixM x y h
theorem om_ixD (hu : X.A.units + 64 < cLine) (hK : X.K = K := by rfl) : IxR X (rOp K mg ixD) := by
  subst hK
  intro ve sl pins s σ H x' y' v u Q I rx ry hh hsub
  obtain ⟨m, h, x, y, H0, H1, σ', W, R, dx, dy, q⟩ := hh
  unfold ixD at q
  split at q
  · rename_i kvs e1
    obtain ⟨n, a, ls, rfl, rfl, e2, e3, e4, e5⟩ := Dt.asD R dx e1
    split at q
    · rename_i k e6
      cases key_dt dy e6
      split at q
      · rename_i z e7
        rcases e5.get k with ⟨g1, _⟩ | ⟨z', w, g1, g2, g3⟩
        · rw [g1] at e7; cases e7
        · rw [g1] at e7
          cases e7
          exact ix_dict (by omega) ve sl pins s σ H _ _ v u Q I rx ry ⟨a, w, rfl, g2 ▸ DGet.k e4, rg.here q R (.v g3)⟩ hsub
      · exact q.elim
    · exact q.elim
  · exact om_ix rfl ve sl pins s σ H x' y' v u Q I rx ry ⟨m, h, x, y, H0, H1, σ', W, R, dx, dy, q⟩ hsub
/-- y in x, x a dict too -/
noncomputable def inD (x y : MV) (h : MH) : Res MV := match asD h y with
  | some kvs => (match asK x with
    | some k => .ok (.bl (getD kvs k).isSome) h
    | none => .stuck)
  | none => inM x y h
noncomputable def notInD (x y : MV) (h : MH) : Res MV := match asD h y with
  | some kvs => (match asK x with
    | some k => .ok (.bl (!(getD kvs k).isSome)) h
    | none => .stuck)
  | none => notInM x y h
theorem DvK.some_eq {kvs : List (MV × MV)} {ls : List (Key × V)} (r : DvK K mg m H kvs ls) (k : Key) : (valV ls k).isSome = (getD kvs k).isSome := by
  rcases r.get k with ⟨g1, g2⟩ | ⟨z', w, g1, g2, g3⟩
  · rw [g1, g2]; rfl
  · rw [g1, g2]; rfl
theorem om_inD (hu : X.A.units + 64 < cLine) (hK : X.K = K := by rfl) : OpR X (compareOp .In) (rOp K mg inD) := by
  subst hK
  intro pins s σ H x' y' v u Q I rx ry ⟨m, h, x, y, H0, H1, σ', W, R, dx, dy, q⟩
  unfold inD at q
  split at q
  · rename_i kvs e1
    obtain ⟨n, a, ls, rfl, rfl, e2, e3, e4, e5⟩ := Dt.asD R dy e1
    split at q
    · rename_i k e6
      cases key_dt dx e6
      obtain rfl : u = Value.ref a := ry
      exact d_in (by omega) I (DGet.k (k := k) e4) rx fun s' I' => ⟨.bl _, H, I', by rw [e5.some_eq k]; rfl, rg.here q R (.v (.bl _))⟩
    · exact q.elim
  · exact om_in hu rfl pins s σ H x' y' v u Q I rx ry ⟨m, h, x, y, H0, H1, σ', W, R, dx, dy, q⟩
theorem om_notInD (hu : X.A.units + 64 < cLine) (hK : X.K = K := by rfl) : OpR X (compareOp .NotIn) (rOp K mg notInD) := by
  subst hK
  intro pins s σ H x' y' v u Q I rx ry ⟨m, h, x, y, H0, H1, σ', W, R, dx, dy, q⟩
  unfold notInD at q
  split at q
  · rename_i kvs e1
    obtain ⟨n, a, ls, rfl, rfl, e2, e3, e4, e5⟩ := Dt.asD R dy e1
    split at q
    · rename_i k e6
      cases key_dt dx e6
      obtain rfl : u = Value.ref a := ry
      exact d_notIn (by omega) I (DGet.k (k := k) e4) rx fun s' I' => ⟨.bl _, H, I', by rw [e5.some_eq k]; rfl, rg.here q R (.v (.bl _))⟩
    · exact q.elim
  · exact om_notIn hu rfl pins s σ H x' y' v u Q I rx ry ⟨m, h, x, y, H0, H1, σ', W, R, dx, dy, q⟩
/-- len(x), x a dict too -/
def lenD (x : MV) (h : MH) : Res MV := match asD h x with
  | some kvs => .ok (.int kvs.length) h
  | none => lenM x h
theorem cm_lenD (hK : X.K = K := by rfl) : CallR X (.builtin "len") (rCl1 K mg lenD) := by
  subst hK
  intro pins s σ H vs us Q I r ⟨m, h, x, v, H0, σ', W, e, R, dx, q⟩
  subst e
  unfold lenD at q
  split at q
  · rename_i kvs e1
    obtain ⟨n, a, ls, rfl, rfl, e2, e3, e4, e5⟩ := Dt.asD R dx e1
    cases r with
    | cons r1 r2 =>
      cases r2
      cases (show _ = Value.ref a from r1)
      exact d_len I (.inl e4) fun t s' I' => ⟨.int _, H, I', ⟨t, by rw [e5.length]⟩, rg.here q R (.v (.int _))⟩
  · exact cm_len rfl pins s σ H _ us Q I r ⟨m, h, x, v, H0, σ', W, rfl, R, dx, q⟩
/-- d[k] = v -/
def putD (kvs : List (MV × MV)) (k : Key) (v : MV) : List (MV × MV) := if (getD kvs k).isSome = true then kvs.map (fun p => if asK p.1 = some k then (p.1, v) else p) else kvs ++ [(kM k, v)]
theorem DvK.put {kvs : List (MV × MV)} {ls : List (Key × V)} {z : MV} {w : V} (r : DvK K mg m H kvs ls) (k : Key) (d : Dv K mg m H z w) : DvK K mg m H (putD kvs k z) (putK ls k w) := by
  unfold putD putK
  rw [valV_any, r.some_eq]
  have app : ∀ {kvs : List (MV × MV)} {ls : List (Key × V)}, DvK K mg m H kvs ls → DvK K mg m H (kvs ++ [(kM k, z)]) (ls ++ [(k, w)]) := fun {kvs ls} r => by
    induction r with
    | nil => exact .cons d .nil
    | cons d r ih => exact .cons d ih
  have rep : ∀ {kvs : List (MV × MV)} {ls : List (Key × V)}, DvK K mg m H kvs ls → DvK K mg m H (kvs.map fun p => if asK p.1 = some k then (p.1, z) else p) (ls.map fun kv => if kv.1 = k then (kv.1, w) else kv) := fun {kvs ls} r => by
    induction r with
    | nil => exact .nil
    | @cons j x v ks ls d' r ih =>
      rw [List.map_cons, List.map_cons]
      by_cases e : j = k
      · rw [if_pos (show asK (kM j) = some k by rw [asK_kM, e]), if_pos (show j = k from e)]
        exact .cons d ih
      · rw [if_neg (show ¬ asK (kM j) = some k by rw [asK_kM]; exact fun q => e (Option.some.inj q)), if_neg (show ¬ j = k from e)]
        exact .cons d' ih
  split
  · exact rep r
  · exact app r
def setD (o i v : MV) (h : MH) : Option MH := match asD h o, o with
  | some kvs, .ref n => (match asK i with
    | some k => if kvs.length < sizeLine then some (h.set n (.dic (putD kvs k v))) else none
    | none => none)
  | _, _ => setM o i v h
def rSetM (K : PySem.W.Frag) (mg : Str → Option Value) (f : MV → MV → MV → MH → Option MH) : TSet := fun o' i' v' H Q => ∃ m h o i v H0 H1 h2, Rep K mg m H h ∧ Dt K mg H0 m H o o' ∧ Dt K mg H1 m H i i' ∧ Dv K mg m H v v' ∧ f o i v h = some h2 ∧ ∀ H', Ext m H m H' → Rep K mg m H' h2 → Q H'
theorem om_setD (hu : X.A.units + 64 < cLine) : PSet X (rSetM K mg setD) := by
  intro pins s σ H o' i' v' ov iv u Q I ro ri rv ⟨m, h, o, i, v, H0, H1, h2, R, d1, d2, d3, e, q⟩
  unfold setD at e
  split at e
  · rename_i kvs n e1
    obtain ⟨n', a, ls, en, rfl, e2, e3, e4, e5⟩ := Dt.asD R d1 e1
    cases en
    split at e
    · rename_i k e6
      cases key_dt d2 e6
      split at e
      · rename_i hl
        cases e
        have ha : a ∈ m := List.mem_of_getElem? e3
        have ex : Ext m H m (upd H a (.dK (putK ls k v'))) := Ext.upd_at ha (fun _ _ z => by rw [e4] at z; cases z)
        exact set_dict (by omega) pins s σ H _ _ _ ov iv u Q I ro ri rv ⟨a, _, rfl, DPut.k e4 (by rw [← e5.length]; exact hl), q _ ex (R.write e3 ⟨_, upd_same, (e5.put k d3).mono ex.gro⟩)⟩
      · cases e
    · cases e
  · exact om_set (K := K) (mg := mg) pins s σ H o' i' v' ov iv u Q I ro ri rv ⟨m, h, _, i, v, H0, H1, h2, R, d1, d2, d3, e, q⟩
def sSubD (O I V : ME) : MSt := fun σ h => (eSet V σ h).st σ fun v h1 => (O σ h1).st σ fun o h2 => (I σ h2).st σ fun i h3 => match setD o i v h3 with
  | some h4 => .next σ h4
  | none => .stuck
theorem ss_subD {W : WX} {o i value : Expr} {pos pos' : Pos} {O J V' : ME} (hu : X.A.units + 64 < cLine) (ho : SE K mg W X o O) (hi : SE K mg W X i J) (hv : SE K mg W X value V')
    (ha : ∀ v, assign (.Subscript o i pos') X.env v = (do
      let ov ← holding [v] (eval o X.env)
      let iv ← holding [v, ov] (eval i X.env)
      standAt pos'
      holding [v, ov, iv] (setItem ov iv v)
      release [v, ov, iv] []) := by intro _; rfl)
    (hs : swapsWithSole [.Subscript o i pos'] value pos.line X.env = pure false := by rfl) (hw : swappedStores [.Subscript o i pos'] value X.env = pure none := by rfl) (h1 : (assignEach [.Subscript o i pos'] X.env).map (·.2) = [assign (.Subscript o i pos') X.env] := by rfl) :
    SS K mg W X (.Assign [.Subscript o i pos'] value pos) (sSubD O J V') := (ps_asg (se_set hv) (pg_sub ho hi (om_setD (K := K) (mg := mg) hu) ha) hs hw h1).imp fun D σ H ⟨m, σm, h, R, S, q⟩ => by
  refine ⟨m, σm, h, R, S, ?_⟩
  unfold sSubD at q
  cases ev : eSet V' σm h with
  | stuck => rw [ev] at q; exact q.elim
  | exc x h1 => rw [ev] at q; exact fun cls d m' H' e' R' x => q cls d σ m' H' e' R' (S.mono e'.gro) x
  | ok v h1 =>
    rw [ev, Res.ok_st] at q
    intro v' m1 H1 e1 R1 d1
    have d1' := d1.dv (eSet_ns ev)
    have S1 := S.mono e1.gro
    refine ⟨m1, σm, h1, R1, S1, rs.part S1 (rs.ext e1 R1 q) fun x h2 x' m2 H2 e2 R2 d2 q2 => ?_⟩
    have S2 := S1.mono e2.gro
    refine ⟨m2, σm, h2, R2, S2, rs.part S2 (rs.ext e2 R2 q2) fun y h3 y' m3 H3 e3 R3 d3 q3 => ?_⟩
    cases ep : setD x y v h3 with
    | none => rw [ep] at q3; exact q3.elim
    | some h4 =>
      rw [ep] at q3
      exact ⟨m3, h3, x, y, v, H1, H2, h4, R3, d2.mono e3, d3, (d1'.mono e2.gro).mono e3.gro, ep, fun H' e' R' => q3 σ m3 H' (e3.trans e') R' ((S2.mono e3.gro).mono e'.gro)⟩
end
end Mi

set_option maxHeartbeats 400000
/-! ### exceptions: their classes, over any base -/
namespace Mi
open PySem PySem.Spec PyProof.Rows L2 Builtin Builtin.ObjectAttr
/-- what is asked of a base's __init__ -/
structure XIni (B ini : String) : Prop where
  slot : Slot B "__init__" ini
  entry : entryFor table ini = some Builtin.«BaseException.__init__»
  split : splitId ini = some (B, "__init__")
  kind : builtinKind ini = some .slot
  row : Manifest.signature? ini = some ⟨.positional, "*", B, .self, [⟨"args", .varPos, false⟩]⟩
  noStar : (B != "*") = true
theorem XIni.of {B nw ini : String} (F : ExcCallFacts B nw ini) : XIni B ini := ⟨F.init, F.initEntry, F.initSplit, F.initKind, F.initRow, F.noStar⟩
theorem ini_KeyError : XIni "KeyError" "KeyError.__init__" where
  slot := .of (owner := "KeyError") (n := "__init__") (by rw [typeLookup_type, builtinLookup_eq_fast]; kernel_rfl) (by decide +kernel) (by decide +kernel) (by decide +kernel) (by first | exact .inl (by decide +kernel) | exact .inr (by decide +kernel)) (by rw [isSubtype_type]; kernel_rfl)
  entry := entryFor_alias (id' := "BaseException.__init__") (by rw [fastTable_eq_tree]; kernel_rfl) (by first | rfl | decide +kernel) (by decide +kernel) (by rw [fastTable_eq_tree]; kernel_rfl)
  split := by kernel_rfl
  kind := by kernel_rfl
  row := by kernel_rfl
  noStar := by decide +kernel
/-- own classes, then the tail tl -/
def refsT (tl : List Value) : List Value → Bool
  | .ref _ :: r => refsT tl r
  | l => decide (l = tl)
theorem refsT_cases {tl : List Value} : ∀ {l : List Value}, refsT tl l = true → (∃ c r, l = .ref c :: r ∧ refsT tl r = true) ∨ l = tl
  | [], e => .inr (of_decide_eq_true e)
  | v :: r, e => by cases v <;> first | exact .inl ⟨_, _, rfl, e⟩ | exact .inr (of_decide_eq_true e)
/-- a base class: its maker, its __init__, the tail of its classes -/
structure XB (B ini N nw nini : String) (tl tN : List Value) : Prop where
  make : ExcBaseFacts N nw nini tN
  init : XIni B ini
  pass : ∀ self, refuseLoop self "__setattr__" tl = pure ()
  obj : tl.contains (.type "object") = true
  hasN : tl.contains (.type N) = true
  hasB : tl.contains (.type B) = true
  noA : tl.contains (.type "AttributeError") = false
  noM : tl.contains (.type "NameError") = false
theorem refsT_pass {tl : List Value} {self : Value} (p : refuseLoop self "__setattr__" tl = pure ()) : ∀ {l : List Value}, refsT tl l = true → refuseLoop self "__setattr__" l = pure ()
  | [], e => by
    rcases refsT_cases e with ⟨_, _, q, _⟩ | q
    · cases q
    · rw [q]; exact p
  | v :: r, e => by
    rcases refsT_cases e with ⟨c, r', q, h⟩ | q
    · cases q
      rw [refuseLoop_ref]
      exact refsT_pass p h
    · rw [q]; exact p
theorem refsT_has {tl : List Value} {n : String} {b : Bool} (p : tl.contains (.type n) = b) : ∀ {l : List Value}, refsT tl l = true → l.contains (.type n) = b
  | [], e => by
    rcases refsT_cases e with ⟨_, _, q, _⟩ | q
    · cases q
    · rw [q]; exact p
  | v :: r, e => by
    rcases refsT_cases e with ⟨c, r', q, h⟩ | q
    · cases q
      rw [List.contains_cons, refsT_has p h]
      cases b <;> rfl
    · rw [q]; exact p
theorem refsT_ne {tl l : List Value} (p : tl.contains (.type "object") = true) (e : refsT tl l = true) : l.isEmpty = false := by
  have q := refsT_has p e
  cases l with
  | nil => cases q
  | cons _ _ => rfl
section
variable {prog : Program} {w : World} {M : Model} {A : Around} {E : Value → Shared → Prop} {R : Result → Shared → Prop} {hp : Heap} {g : Array GenState} {d : Drawn} {t : Nat} {os : OsState}
variable {nm q : Str} {C N : Addr} {bs bm bmB : List Value} {hdct : Bool} {sn : List Str} {sub : List Value} {ab : Bool} {col : Option Bool} {dd : Option Addr} {k0 k1 k2 k3 k5 : Option Value} {B nw ini : String}
theorem xnew_check (F : ExcBaseFacts B nw ini bmB) (hB : bm.contains (.type B) = true) {rest : List Value} {Q : Unit → Shared → Prop} (hC : hp.get? C = some (excClassObj nm q C N bs bm hdct sn sub ab col dd k0 k1 k2 k3 k5 nw)) (hq : Q () ⟨hp, g, d, t, os⟩) :
    wpAny M A (checkBuiltinCall nw ⟨.ref C :: rest, []⟩) Q E ⟨hp, g, d, t, os⟩ := by
  have has : (Value.ref C :: bm).contains (.type B) = true := by rw [List.contains_cons, hB, Bool.or_true]
  have star := F.noStar
  simp only [checkBuiltinCall, F.newKind, F.newSplit, F.newRow]
  repeat (first | refine wpAny_loadPart_at hC ?_ | (refine wpAny_isSubtype_exc hC ?_; rw [has]) | refine wpAny_staticBase_exc hC ?_ | refine wpAny_madeBy_exc hC ?_ | simp only [bne_self_eq_false, Bool.false_eq_true, if_false] | wp_step)
  exact hq
theorem xnew (F : ExcBaseFacts B nw ini bmB) (hB : bm.contains (.type B) = true) (hA : bm.contains (.type "AttributeError") = false) (hN : bm.contains (.type "NameError") = false) {rest : List Value} (hC : hp.get? C = some (excClassObj nm q C N bs bm hdct sn sub ab col dd k0 k1 k2 k3 k5 nw))
    (hq : R (.ok (.ret (.ref (hp.objs.size + 1)))) ⟨(hp.push (W.kdv_tup rest)).push (HandSPX.excO C hp.objs.size), g, d, t, os⟩) (hz : rest.length ≤ sizeLine) : codeAny (model prog w) A (.builtin nw ⟨.ref C :: rest, []⟩) R ⟨hp, g, d, t, os⟩ := by
  have ends := F.ends
  have has : (Value.ref C :: bm).contains (.type B) = true := by rw [List.contains_cons, hB, Bool.or_true]
  have hasA : (Value.ref C :: bm).contains (.type "AttributeError") = false := by rw [List.contains_cons, hA] <;> rfl
  have hasN : (Value.ref C :: bm).contains (.type "NameError") = false := by rw [List.contains_cons, hN] <;> rfl
  refine codeAny_builtinAt F.entry ?_
  unfold Builtin.«BaseException.__new__»
  refine PySem.wpAt_bind ?_
  show PySem.wpAt _ _ _ (PySem.stack >>= _) _ _ _
  refine PySem.wpAt_bind (PySem.wpAt_stack fun p below => PySem.wpAt_of_wpAny ?_)
  wp_walk
  refine PySem.wpAt_of_wpAny ?_
  rw [F.owner]
  repeat (first | with_reducible refine wpAny_madeHere_exc F.canon hC ?_ | with_reducible refine wpAny_loadPart_at hC ?_ | (with_reducible refine wpAny_isSubtype_exc hC ?_; first | rw [has] | rw [hasA] | rw [hasN]) | wp_step)
  show R _ _
  rw [Heap.size_push]
  exact hq
theorem xtype (F : ExcBaseFacts B nw ini bmB) (hB : bm.contains (.type B) = true) (hA : bm.contains (.type "AttributeError") = false) (hN : bm.contains (.type "NameError") = false) {rest : List Value} {fI : Addr} {Q : Fin → Shared → Prop} (hC : hp.get? C = some (excClassObj nm q C N bs bm hdct sn sub ab col dd k0 k1 k2 k3 k5 nw))
    (hi : W.Looks (model prog w) hp (typeLookup (.ref C) "__init__") (some (.ref fI))) (hb : ∀ self, W.Looks (model prog w) hp (bindSpecial (.ref fI) self) (.ref fI, [self])) (hz : rest.length ≤ sizeLine)
    (hq : codeAny (model prog w) A (.call (.ref fI) ⟨.ref (hp.objs.size + 1) :: rest, []⟩) (fun r s' => match r with | .ok (.ret v) => v = .none ∧ Q (.done (.ret (.ref (hp.objs.size + 1)))) s' | .ok _ => False | .error e => E e s') ⟨(hp.push (W.kdv_tup rest)).push (HandSPX.excO C hp.objs.size), g, d, t, os⟩) :
    wpAny (model prog w) A (Builtin.«type.__call__» ⟨.ref C :: rest, []⟩) Q E ⟨hp, g, d, t, os⟩ := by
  repeat (first | with_reducible refine wpAny_loadPart_at hC ?_ | with_reducible refine wpAny_madeBy_exc hC ?_ | wp_step)
  refine codeAny_call_builtin_code (Code.quiet_builtin _ F.quiet) (xnew_check F hB hC (xnew F hB hA hN hC ?_ hz))
  show wpAny _ _ _ _ _ _
  have k : ∀ b o, hp.get? b = some o → ((hp.push (W.kdv_tup rest)).push (HandSPX.excO C hp.objs.size)).get? b = some o := fun b o e => Heap.get?_push_of_some _ (Heap.get?_push_of_some _ e)
  have hC₁ := k _ _ hC
  have got : ((hp.push (W.kdv_tup rest)).push (HandSPX.excO C hp.objs.size)).get? (hp.objs.size + 1) = some (HandSPX.excO C hp.objs.size) := by heap_get
  have own : (Value.ref C :: bm).contains (.ref C) = true := by simp
  have i1 := hi.keeps k
  have b1 := (hb (.ref (hp.objs.size + 1))).keeps k
  unfold isInstance
  repeat (first | with_reducible refine wpAny_loadPart_at got ?_ | (with_reducible refine wpAny_isSubtype_exc hC₁ ?_; rw [own]) | wp_step)
  show wpAny _ _ (typeLookup (.ref C) _) _ _ _
  refine i1.at (wpAny_holding (wpAny_bind (b1.at (wpAny_bind (wpAny_call (codeAny_mono hq fun r s' z => ?_))))))
  rcases r with e | (v | _ | _ | _) <;> first | exact z | exact z.elim | skip
  obtain ⟨rfl, z⟩ := z
  first
    | exact wpAny_pure (wpAny_pure z)
    | (wp_walk; exact z)
theorem xcall (F : ExcBaseFacts B nw ini bmB) (hB : bm.contains (.type B) = true) (hA : bm.contains (.type "AttributeError") = false) (hN : bm.contains (.type "NameError") = false) {rest : List Value} {fI : Addr} (hC : hp.get? C = some (excClassObj nm q C N bs bm hdct sn sub ab col dd k0 k1 k2 k3 k5 nw))
    (hi : W.Looks (model prog w) hp (typeLookup (.ref C) "__init__") (some (.ref fI))) (hb : ∀ self, W.Looks (model prog w) hp (bindSpecial (.ref fI) self) (.ref fI, [self])) (hz : rest.length ≤ sizeLine)
    (hq : codeAny (model prog w) (A.under (.builtin "type.__call__" ⟨.ref C :: rest, []⟩)) (.call (.ref fI) ⟨.ref (hp.objs.size + 1) :: rest, []⟩) (W.InitBack (hp.objs.size + 1) R) ⟨(hp.push (W.kdv_tup rest)).push (HandSPX.excO C hp.objs.size), g, d, t, os⟩) :
    codeAny (model prog w) A (.call (.ref C) ⟨rest, []⟩) R ⟨hp, g, d, t, os⟩ := by
  have f1 := tc_lookup
  have f2 := tc_bind (.ref C)
  have ty : (⟨hp, g, d, t, os⟩ : Shared).TypeIs (.ref C) "type" := ⟨_, hC, rfl⟩
  refine codeAny_of_tree ?_
  show wpAny _ _ (callAny (.ref C) _) _ _ _
  repeat (any_goals (first | assumption | with_reducible refine wpAny_loadPart_at hC ?_ | wp_step))
  refine ⟨rfl, codeAny_call_builtin_at (Code.quiet_builtin _ (by decide +kernel)) entry_typeCall (wpAny_check_type_call_sub hC (xtype F hB hA hN hC hi hb hz (codeAny_mono hq fun r s' z => ?_)))⟩
  rcases r with e | (v | _ | _ | _) <;> exact z
/-- B.__init__(e, ..) -/
theorem xinit (F : XIni B ini) (hB : bm.contains (.type B) = true) {e t0 : Addr} {rest : List Value} (hC : hp.get? C = some (excClassObj nm q C N bs bm hdct sn sub ab col dd k0 k1 k2 k3 k5 nw)) (he : hp.get? e = some (HandSPX.excO C t0)) (hz : rest.length ≤ sizeLine)
    (hq : ∀ h' t1, (∀ b o, b ≠ e → hp.get? b = some o → h'.get? b = some o) → h'.get? e = some (HandSPX.excO C t1) → R (.ok (.ret .none)) ⟨h', g, d, t, os⟩) : codeAny (model prog w) A (.call (.builtin ini) ⟨.ref e :: rest, []⟩) R ⟨hp, g, d, t, os⟩ := by
  have chk : ∀ {Q : Unit → Shared → Prop} {E : Value → Shared → Prop} {A : Around}, Q () ⟨hp, g, d, t, os⟩ → wpAny (model prog w) A (checkBuiltinCall ini ⟨.ref e :: rest, []⟩) Q E ⟨hp, g, d, t, os⟩ := fun {Q E A} hq => by
    have has : (Value.ref C :: bm).contains (.type B) = true := by rw [List.contains_cons, hB, Bool.or_true]
    have star := F.noStar
    simp only [checkBuiltinCall, F.kind, F.split, F.row]
    repeat (first | with_reducible refine wpAny_loadPart_at he ?_ | with_reducible refine wpAny_loadPart_at hC ?_ | (with_reducible refine wpAny_isSubtype_exc hC ?_; rw [has]) | wp_step)
    refine wpAny_onRaise ?_
    rw [show ∀ (a b : String) (n : Nat), Bind.check ⟨.positional, "*", B, .self, [⟨"args", .varPos, false⟩]⟩ a b n (List.map (fun x => x.fst) ({ pos := Value.ref e :: rest } : Args).kw) = pure () from fun a b n => check_star_args _ _ _ _ _ _]
    exact wpAny_pure hq
  refine codeAny_call_builtin F.slot.plain F.entry (chk ?_)
  wp_walk
  refine hq _ hp.objs.size (fun b o hb ho => ?_) ?_
  · rw [Heap.get?_update_other _ _ (Ne.symm hb)]
    exact Heap.get?_push_of_some _ ho
  · rw [Heap.get?_update_self _ (Heap.get?_push_of_some _ he) rfl] <;> rfl
end
end Mi

set_option maxHeartbeats 400000
/-! ### exceptions with fields: their making -/
namespace Mi
open PySem PySem.Spec PyProof.Rows L2 Builtin Builtin.ObjectAttr
variable [TheW]
section
variable {prog : Program} {w : World} {A : Around} {E : Value → Shared → Prop} {R : Result → Shared → Prop} {hp : Heap} {g : Array GenState} {d : Drawn} {t : Nat} {os : OsState} {K : PySem.W.Frag} {name : Str} {tk : Tok} {v : Value} {x C dx : Addr} {fv : Array Value} {cd : ClassData} {tl : List Value}
/-- the first field of an exception -/
theorem xstore_new (X : K.In hp) (hx : hp.get? x = some { cls := .ref C, data := .fields fv }) (hcd : W.clsIn K C = some cd) (hm : refsT tl cd.mro = true) (pass : ∀ self, refuseLoop self "__setattr__" tl = pure ()) (obj : tl.contains (.type "object") = true) (hh : cd.hasDict = true) (ha : W.findIn K (.ref C) name = some none)
    (hq : ∀ h' tk' dx, (∀ b o, b ≠ x → hp.get? b = some o → h'.get? b = some o) → hp.objs.size ≤ dx → dx ≠ x → h'.get? x = some { cls := .ref C, dict := some dx, data := .fields fv } →
      h'.Ns1 dx (fun y => if y = name then some v else none) → R (.ok (.ret .none)) ⟨h', g, d, tk', os⟩) : codeAny (model prog w) A (.call (.builtin "object.__setattr__") ⟨[.ref x, .str name tk, v], []⟩) R ⟨hp, g, d, t, os⟩ := by
  have I : W.InstAt hp x { cls := .ref C, data := .fields fv } C none := ⟨hx, rfl, rfl, trivial⟩
  have SF := F.store_object
  have hob : cd.mro.contains (.type "object") = true := refsT_has obj hm
  have hxs : x ≠ hp.objs.size := Nat.ne_of_lt (Heap.lt_size hx)
  have sub : W.Looks (model prog w) hp (isInstance (.ref x) (.type "object")) true := I.type.andThen (W.looks_mroIn X (by unfold W.mroIn; rw [hcd, Option.bind_some, if_neg (by rw [refsT_ne obj hm]; decide), hob]))
  refine codeAny_call_builtin SF.slot.plain SF.entry (@W.check_slot (model prog w) _ _ ⟨hp, g, d, t, os⟩ "object.__setattr__" "object" "__setattr__" (.ref x) [.str name tk, v] [] _ SF.kind SF.split sub (SF.args (.ref x) (.str name tk) v) ?_)
  have mr : W.Looks (model prog w) hp (mroOf (.ref C)) cd.mro := (W.looks_clsIn X hcd).andThen .now
  have no : W.Looks (model prog w) hp (storeTaker? none) none := .now
  have cl : W.Looks (model prog w) hp (classData C) cd := W.looks_clsIn X hcd
  rw [W.osa_eq, refuse_eq]
  refine wpAny_bind (wpAny_bind (I.type.at (wpAny_bind (mr.at ?_))))
  rw [refsT_pass (pass _) hm]
  refine wpAny_pure (wpAny_bind (I.type.at (wpAny_bind ((W.looks_findIn X ha).at (wpAny_bind (no.at ?_))))))
  show wpAny _ _ (storeInOwnDict (.ref x) (.ref C) (.str name tk) name v false) _ _ _
  obtain ⟨nm, bs, mro, ns, qn, hd, sn, sb, ab, col, del⟩ := cd
  dsimp only at hh
  subst hh
  unfold storeInOwnDict ownDictForStores
  repeat (first | with_reducible refine HandSPX.store_in_new ?_ ?_ | with_reducible refine wpAny_loadPart_at hx ?_ | with_reducible refine cl.at ?_ | wp_step)
  · exact ⟨_, #[], _, (Heap.get?_update_ne _ _ _ _ hxs.symm).trans (Heap.get?_push_at rfl rfl), rfl, fun e he => absurd he (by simp), fun _ => rfl⟩
  · intro h' tk' hn' hs
    have hx₁ : (hp.push { cls := .type "dict", data := .dict #[] }).get? x = some { cls := .ref C, data := .fields fv } := Heap.get?_push_of_some _ hx
    refine hq h' tk' hp.objs.size (fun b o hb ho => ?_) (Nat.le_refl _) hxs.symm ((hs.2 x hxs).trans (Heap.get?_update_self _ hx₁ rfl)) hn'
    exact (hs.2 b (Nat.ne_of_lt (Heap.lt_size ho))).trans ((Heap.get?_update_ne _ _ _ _ hb).trans (Heap.get?_push_of_some _ ho))
/-- a further one -/
theorem xstore_old {m0 : Str → Option Value} {nl : List Str} (X : K.In hp) (hx : hp.get? x = some { cls := .ref C, dict := some dx, data := .fields fv }) (hns : hp.Ns1 dx m0) (hw : Within m0 nl) (hz : nl.length ≤ 1000) (hcd : W.clsIn K C = some cd) (hm : refsT tl cd.mro = true)
    (pass : ∀ self, refuseLoop self "__setattr__" tl = pure ()) (obj : tl.contains (.type "object") = true) (hh : cd.hasDict = true) (ha : W.findIn K (.ref C) name = some none)
    (hq : ∀ h' tk', (∀ b o, b ≠ dx → hp.get? b = some o → h'.get? b = some o) → h'.Ns1 dx (fun y => if y = name then some v else m0 y) → R (.ok (.ret .none)) ⟨h', g, d, tk', os⟩) :
    codeAny (model prog w) A (.call (.builtin "object.__setattr__") ⟨[.ref x, .str name tk, v], []⟩) R ⟨hp, g, d, t, os⟩ := by
  obtain ⟨oD, esD, epD, hoD, hdD, _⟩ := hns.count hw
  have I : W.InstAt hp x { cls := .ref C, dict := some dx, data := .fields fv } C (some oD) := ⟨hx, rfl, rfl, hoD⟩
  have SF := F.store_object
  have hob : cd.mro.contains (.type "object") = true := refsT_has obj hm
  have sub : W.Looks (model prog w) hp (isInstance (.ref x) (.type "object")) true := I.type.andThen (W.looks_mroIn X (by unfold W.mroIn; rw [hcd, Option.bind_some, if_neg (by rw [refsT_ne obj hm]; decide), hob]))
  refine codeAny_call_builtin SF.slot.plain SF.entry (@W.check_slot (model prog w) _ _ ⟨hp, g, d, t, os⟩ "object.__setattr__" "object" "__setattr__" (.ref x) [.str name tk, v] [] _ SF.kind SF.split sub (SF.args (.ref x) (.str name tk) v) ?_)
  have mr : W.Looks (model prog w) hp (mroOf (.ref C)) cd.mro := (W.looks_clsIn X hcd).andThen .now
  have no : W.Looks (model prog w) hp (storeTaker? none) none := .now
  have cl : W.Looks (model prog w) hp (classData C) cd := W.looks_clsIn X hcd
  rw [W.osa_eq, refuse_eq]
  refine wpAny_bind (wpAny_bind (I.type.at (wpAny_bind (mr.at ?_))))
  rw [refsT_pass (pass _) hm]
  refine wpAny_pure (wpAny_bind (I.type.at (wpAny_bind ((W.looks_findIn X ha).at (wpAny_bind (no.at ?_))))))
  show wpAny _ _ (storeInOwnDict (.ref x) (.ref C) (.str name tk) name v false) _ _ _
  obtain ⟨nm, bs, mro, ns, qn, hd, sn, sb, ab, col, del⟩ := cd
  dsimp only at hh
  subst hh
  unfold storeInOwnDict ownDictForStores
  repeat (first | with_reducible refine PySem.OEX.store_in_old hns hw hz ?_ | with_reducible refine wpAny_loadPart_at hx ?_ | with_reducible refine cl.at ?_ | wp_step)
  intro h' tk' hn' hs
  exact hq h' tk' (fun b o hb ho => (hs.2 b hb).trans ho) hn'
end
/-- what the written part says of an exception class -/
structure XT (K : PySem.W.Frag) (C : Addr) (nw : String) (tl : List Value) : Prop where
  cls : ∃ nm q N bs bm sn sub ab col dd k0 k1 k2 k3 k5, K.lookup C = some (excClassObj nm q C N bs bm true sn sub ab col dd k0 k1 k2 k3 k5 nw) ∧ refsT tl bm = true
  sa : PySem.W.findIn K (.ref C) "__setattr__" = some (some (.builtin "object.__setattr__"))
  exC : PySem.W.subIn K (.ref C) (.type "BaseException") = some true
  tyC : PySem.W.typeIn K (.ref C) = some (.type "type")
  kC : PySem.W.keepIn K (.ref C) = true
section
variable {X : Cx} {pins : List (Addr × Obj)} {σ : L2.St} {H : Hp} {s : Shared} {a C dx : Addr} {f : Str} {y : V} {u : Value} {fs : List (Str × V)} {Q : Unit → Shared → Prop} {E : Value → Shared → Prop} {A : Around} {B ini Nn nw nini : String} {tl tN : List Value}
theorem xfld_new (T : XT X.K C nw tl) (b : XB B ini Nn nw nini tl tN) (I : L2.Inv X pins σ H s) (e : H a = some (exo a C none)) (no : PySem.W.findIn X.K (.ref C) f = some none) (ry : RelV y u)
    (h : ∀ dx s', H dx = none → dx ≠ a → L2.Inv X pins σ (upd (upd H dx (exd dx [(f, y)])) a (exo a C (some dx))) s' → Q () s') : wpAny (model X.prog X.w) A (setAttr (.ref a) f u) Q E s := by
  obtain ⟨nm, q, N, bs, bm, sn, sub, ab, col, dd, k0, k1, k2, k3, k5, hC, hbm⟩ := T.cls
  have hcl : PySem.W.clsIn X.K C = some { name := nm, bases := bs, mro := .ref C :: bm, ns := N, qualname := q, hasDict := true, slotNames := sn, subclasses := sub, abstract := ab, collection := col, hasDel := false } := by unfold PySem.W.clsIn; rw [hC] <;> rfl
  obtain ⟨t1, ho⟩ := exo_at I.hok e
  obtain ⟨hp, g, d, t, os⟩ := s
  refine PySem.W.set_plain I.kIn (od := none) ⟨ho, rfl, rfl, trivial⟩ T.sa ?_
  refine xstore_new (tl := tl) I.kIn ho hcl (show refsT tl (.ref C :: bm) = true from hbm) b.pass b.obj rfl no fun h' tk' dx k dn dne hx hn => ?_
  have hnd : H dx = none := I.hok.fresh dn
  have nd : ∀ {b : Addr} {o : Obj}, hp.get? b = some o → b ≠ dx := fun {b o} q => Nat.ne_of_lt (Nat.lt_of_lt_of_le (Heap.lt_size q) dn)
  have na : ∀ {b : Addr}, H b = none → b ≠ a := fun {b} n z => by rw [z, e] at n; cases n
  have U : Un X.fs [] H (upd (upd H dx (exd dx [(f, y)])) a (exo a C (some dx))) hp h' := ⟨fun b o q n _ _ => k b o (na n) q, fun b o q n _ _ => ⟨o.slots, k b o (na n) q⟩, fun b o q n _ => by rw [upd_ne (na n), upd_ne (nd q)]; exact n,
    fun b o q _ => by
      by_cases hb : b = a
      · rw [hb]; exact ⟨_, hx⟩
      · exact ⟨o, k b o hb q⟩,
    fun b xs q => by rw [upd_ne (at_ne e q exo_tup), upd_ne (ne_of_none q hnd)]; exact q, fun b o v q => by rw [upd_ne (at_ne e q exo_frz), upd_ne (ne_of_none q hnd)]; exact q, fun b ps q => ⟨#[], by rw [upd_ne (at_ne e q exo_tbl), upd_ne (ne_of_none q hnd), q]; simp⟩⟩
  refine h dx _ hnd dne (I.un (t' := tk') U fun b o q => ?_)
  by_cases hb : b = a
  · subst hb
    rw [upd_same] at q
    cases q
    exact exo_ok hx
  rw [upd_ne hb] at q
  by_cases hd : b = dx
  · subst hd
    rw [upd_same] at q
    cases q
    exact exd_ok hn (relO_put (fs := []) ry fun g => True.intro)
  rw [upd_ne hd] at q
  refine (I.hok b o q).stay (fun c v hc z => k c v ?_ z) (fun c hc => by rw [upd_ne (at_ne e hc exo_own), upd_ne (ne_of_none hc hnd)]; exact hc) (fun c xs hc => by rw [upd_ne (at_ne e hc exo_tup), upd_ne (ne_of_none hc hnd)]; exact hc)
  rcases hc with hc | hc
  · rw [hc]; exact hb
  · exact at_ne e hc exo_own
theorem xfld_old (T : XT X.K C nw tl) (b : XB B ini Nn nw nini tl tN) (I : L2.Inv X pins σ H s) (e : H a = some (exo a C (some dx))) (ed : H dx = some (exd dx fs)) (hl : fs.length ≤ 900) (no : PySem.W.findIn X.K (.ref C) f = some none) (ry : RelV y u)
    (h : ∀ s', L2.Inv X pins σ (upd H dx (exd dx ((f, y) :: fs))) s' → Q () s') : wpAny (model X.prog X.w) A (setAttr (.ref a) f u) Q E s := by
  obtain ⟨nm, q, N, bs, bm, sn, sub, ab, col, dd, k0, k1, k2, k3, k5, hC, hbm⟩ := T.cls
  have hcl : PySem.W.clsIn X.K C = some { name := nm, bases := bs, mro := .ref C :: bm, ns := N, qualname := q, hasDict := true, slotNames := sn, subclasses := sub, abstract := ab, collection := col, hasDel := false } := by unfold PySem.W.clsIn; rw [hC] <;> rfl
  obtain ⟨t1, ho⟩ := exo_at I.hok e
  obtain ⟨mA, hns, rel⟩ := exd_at I.hok ed
  have hw := within_of rel
  obtain ⟨hp, g, d, t, os⟩ := s
  obtain ⟨oD, _, _, hoD, _, _⟩ := hns.count hw
  refine PySem.W.set_plain I.kIn (od := some oD) ⟨ho, rfl, rfl, hoD⟩ T.sa ?_
  refine xstore_old (tl := tl) I.kIn ho hns hw (by rw [List.length_map]; omega) hcl (show refsT tl (.ref C :: bm) = true from hbm) b.pass b.obj rfl no fun h' tk' k hn => ?_
  have hd : ∃ o, h'.get? dx = some o := let ⟨o, _, _, e', _⟩ := hn; ⟨o, e'⟩
  exact h _ (I.write (t' := tk') (x := dx) (e := dx) (o := exd dx ((f, y) :: fs)) (by rw [ed]; exact True.intro) (.inl rfl) k hd (exd_ok hn (relO_put ry rel)))
/-- B.__init__(self, ..) -/
theorem xini_ok {us : List Value} {Q : Value → Shared → Prop} (T : XT X.K C nw tl) (b : XB B ini Nn nw nini tl tN) (I : L2.Inv X pins σ H s) (e : H a = some (exo a C none)) (hl : us.length ≤ sizeLine) (h : ∀ s', L2.Inv X pins σ H s' → Q .none s') :
    wpAny (model X.prog X.w) A (call (.builtin ini) (.ref a :: us)) Q E s := by
  obtain ⟨nm, q, N, bs, bm, sn, sub, ab, col, dd, k0, k1, k2, k3, k5, hC, hbm⟩ := T.cls
  obtain ⟨t1, ho⟩ := exo_at I.hok e
  obtain ⟨hp, g, d, t, os⟩ := s
  refine wpAny_call (xinit b.init (refsT_has b.hasB hbm) (I.kIn _ _ hC) ho hl fun h' t2 k hx => ?_)
  have J := I.write (t' := t) (x := a) (e := a) (o := exo a C none) (by rw [e]; exact True.intro) (.inl rfl) k ⟨_, hx⟩ (exo_ok hx)
  have eu : upd H a (exo a C none) = H := by
    funext b
    by_cases hb : b = a
    · rw [hb, upd_same, e]
    · rw [upd_ne hb]
  rw [eu] at J
  exact h _ J
end
/-- self.f = e, self an exception that is being made -/
def tXst (K : PySem.W.Frag) (nw : String) (tl : List Value) (f : Str) (to te : TE) : TS := fun D σ H => te σ H fun y H1 => to σ H1 fun x H2 => ∃ a C : Addr, x = .ref a ∧ XT K C nw tl ∧ PySem.W.findIn K (.ref C) f = some none ∧
  ((H2 a = some (exo a C none) ∧ ∀ dx, H2 dx = none → dx ≠ a → D.nx σ (upd (upd H2 dx (exd dx [(f, y)])) a (exo a C (some dx)))) ∨
    ∃ (dx : Addr) (fs : List (Str × V)), H2 a = some (exo a C (some dx)) ∧ H2 dx = some (exd dx fs) ∧ fs.length ≤ 900 ∧ D.nx σ (upd H2 dx (exd dx ((f, y) :: fs))))
/-- B.__init__(self, ..) -/
def tXin (K : PySem.W.Frag) (nw : String) (tl : List Value) (ta : TA) : TE := fun σ H Q => ta σ H fun vs H1 => ∃ (a C : Addr) (ws : List V), vs = .ref a :: ws ∧ ws.length ≤ 1000 ∧ XT K C nw tl ∧ H1 a = some (exo a C none) ∧ Q .non H1
section
variable {X : Cx} {o e : Expr} {es : List Expr} {to te : TE} {ta : TA} {f x : Str} {p p' p1 p2 pos : Pos} {B ini Nn nw nini : String} {tl tN : List Value} {K : PySem.W.Frag}
theorem px_st (b : XB B ini Nn nw nini tl tN) (ho : PE X o to) (he : PE X e te) (hK : X.K = K := by rfl) (hs : swapsWith e (some (.Attribute o f p')) pos.line X.env = pure false := by rfl) : PS X (.Assign [.Attribute o f p'] e pos) (tXst K nw tl f to te) := by
  subst hK
  refine ⟨fun pins s σ H D I h => ?_⟩
  refine plainObj_wpAny_Assign_Attribute (thn (he.run pins s σ H _ I h) fun v s1 ⟨y, H1, I1, r1, q1⟩ => thn (ho.run pins s1 σ H1 _ I1 q1) fun u s2 ⟨x, H2, I2, r2, a, C, ex, T, no, q⟩ => ?_) hs
  subst ex
  obtain rfl : u = Value.ref a := r2
  rcases q with ⟨ea, q⟩ | ⟨dx, fs, ea, ed, hl, q⟩
  · exact xfld_new T b I2 ea no r1 fun dx s' n ne J => ⟨σ, _, J, q dx n ne⟩
  · exact xfld_old T b I2 ea ed hl no r1 fun s' J => ⟨σ, _, J, q⟩
theorem xini_tail {pins : List (Addr × Obj)} {σ : L2.St} {Q : VK} {us : List Value} {vs : List V} {s1 : Shared} {H1 : Hp} (b : XB B ini Nn nw nini tl tN) (I1 : L2.Inv X pins σ H1 s1) (r1 : Vals vs us)
    (h : ∃ (a C : Addr) (ws : List V), vs = .ref a :: ws ∧ ws.length ≤ 1000 ∧ XT X.K C nw tl ∧ H1 a = some (exo a C none) ∧ Q .non H1) : wpAny (model X.prog X.w) X.A (call (.builtin ini) us) (EP X pins σ Q) X.xe s1 := by
  obtain ⟨a, C, ws, ev, hl, T, ea, q⟩ := h
  subst ev
  cases r1 with
  | @cons _ u0 _ ur ra rw' =>
    obtain rfl : u0 = Value.ref a := ra
    have hlen : ur.length ≤ sizeLine := by
      rw [← Paired.length rw', sizeLine_eq]
      omega
    exact xini_ok T b I1 ea hlen fun s' J => ⟨.non, H1, J, rfl, q⟩
/-- C.__init__(self, ..), C an own class without own __init__ -/
theorem px_iniC {pl : Sem Bool} {C : Addr} (b : XB B ini Nn nw nini tl tN) (rd : PySem.W.readsIn K C (.type "type") = true) (ga : PySem.W.specialIn K (.ref C) "__getattribute__" = some (some (.builtin "type.__getattribute__"))) (vV : PySem.W.findCls K (.ref C) (.type "type") "__init__" = some (.val (.builtin ini))) (hh : PySem.W.handedIn (.builtin ini) = true)
    (hg : Gl X x) (hm : X.mg x = some (.ref C)) (ha : PA X (e :: es) ta) (hK : X.K = K := by rfl)
    (hc : eval (.Call (.Attribute (.Name x p1) "__init__" p2) (e :: es) [] pos) X.env = (do
      let ov ← eval (.Name x p1) X.env
      standAt p2.atName
      let (f, first) ← holding [ov] (getMethod ov "__init__" pl)
      callWith pos f first (backTo pos (starEach (e :: es) X.env)) (backToKw pos (keywordEach [] X.env))) := by rfl)
    (hdb : (x == ("__debug__" : Str)) = false := by decide) (he : starEach (e :: es) X.env = (false, eval e X.env) :: starEach es X.env := by rfl) (hpl : (backTo pos (starEach es X.env)).any (·.1) = false := by rfl) :
    PE X (.Call (.Attribute (.Name x p1) "__init__" p2) (e :: es) [] pos) (tXin K nw tl ta) := by
  subst hK
  refine ⟨fun pins s σ H Q I h => ?_⟩
  refine PySem.W.methodCall_KW (ld_glob I hg hm ?_ hdb) hc
  refine PySem.W.method_cls I.kIn ga (PySem.W.cls_value I.kIn rd vV hh ?_)
  exact PyProof.Rows.callWith_method1 (thn (ha.run pos pins _ σ H _ (I.tok _) h) fun us s1 ⟨vs, H1, I1, r1, hh⟩ => xini_tail b I1 r1 hh) he hpl
/-- B.__init__(self, ..), B a built-in class -/
theorem px_iniB {pl : Sem Bool} (b : XB B ini Nn nw nini tl tN) (ty : typeOf (.type B) = pure (.type "type")) (stub : Manifest.isStub B = false) (vV : PySem.W.findCls K (.type B) (.type "type") "__init__" = some (.val (.builtin ini))) (hh : PySem.W.handedIn (.builtin ini) = true)
    (hg : Gl X x) (hm : X.mg x = none) (bo : bootBuiltins x = some (.type B)) (ha : PA X (e :: es) ta) (hK : X.K = K := by rfl)
    (hc : eval (.Call (.Attribute (.Name x p1) "__init__" p2) (e :: es) [] pos) X.env = (do
      let ov ← eval (.Name x p1) X.env
      standAt p2.atName
      let (f, first) ← holding [ov] (getMethod ov "__init__" pl)
      callWith pos f first (backTo pos (starEach (e :: es) X.env)) (backToKw pos (keywordEach [] X.env))) := by rfl)
    (hn : x ≠ "__name__" := by decide) (hdb : (x == ("__debug__" : Str)) = false := by decide) (he : starEach (e :: es) X.env = (false, eval e X.env) :: starEach es X.env := by rfl) (hpl : (backTo pos (starEach es X.env)).any (·.1) = false := by rfl) :
    PE X (.Call (.Attribute (.Name x p1) "__init__" p2) (e :: es) [] pos) (tXin K nw tl ta) := by
  subst hK
  refine ⟨fun pins s σ H Q I h => ?_⟩
  refine PySem.W.methodCall_KW (ld_blt I hg hm bo ?_ hn hdb) hc
  obtain ⟨m, fr⟩ := I.fr
  refine PySem.W.method_type fr I.ok.mod.kin ty stub vV hh ?_
  show wpAny _ _ (callWith pos (Value.builtin ini) [] (backTo pos (starEach (e :: es) X.env)) []) _ _ _
  exact PyProof.Rows.callWith_method1 (thn (ha.run pos pins _ σ H _ (I.tok _) h) fun us s1 ⟨vs, H1, I1, r1, hh⟩ => xini_tail b I1 r1 hh) he hpl
end
/-- what an exception's __init__ promises: its fields, the newest first -/
def spX (C : Addr) (n : Nat) (fl : List V → List (Str × V)) : Sp := fun vs H Q _ => ∃ (a : Addr) (ws : List V), vs = .ref a :: ws ∧ ws.length = n ∧ H a = some (exo a C none) ∧
  ∀ (dx : Addr) (H2 : Hp), H dx = none → dx ≠ a → H2 a = some (exo a C (some dx)) → H2 dx = some (exd dx (fl ws)) → (∀ b, b ≠ a → b ≠ dx → H2 b = H b) → Q .non H2
/-- an exception class with an __init__, as it is called -/
structure XcI (P : Program) (w : World) (K : PySem.W.Frag) (mg : Str → Option Value) (base : Heap) (k : Nat) (C : Addr) (n : Nat) (fl : List V → List (Str × V)) : Prop where
  kp : PySem.W.keepIn K (.ref C) = true
  run : ∀ {X : Cx} {pins : List (Addr × Obj)} {σ : L2.St} {H : Hp} {s : Shared} {vs : List V} {us : List Value} {Q : XK}, X.prog = P → X.w = w → X.K = K → X.mg = mg → X.base = base → Room (k + 1) X.A → L2.Inv X pins σ H s → Vals vs us → vs.length = n →
    (∀ d, H d = none → Q (.ref C) (some d) (upd H d (.xd (fl vs)))) → wpAny (model X.prog X.w) X.A (call (.ref C) us) (MkP X pins σ Q) X.xe s
theorem xci_of {P : Program} {w : World} {K : PySem.W.Frag} {mg : Str → Option Value} {base : Heap} {k n : Nat} {C fI : Addr} {fd : FuncData} {ps : List Str} {fl : List V → List (Str × V)} {ds : List Value} {dvs : List V} {B ini Nn nw nini : String} {tl tN : List Value} (b : XB B ini Nn nw nini tl tN) (T : XT K C nw tl)
    (iC : PySem.W.findIn K (.ref C) "__init__" = some (some (.ref fI))) (tI : PySem.W.typeIn K (.ref fI) = some (.type "function")) (F1 : FnOk P w K mg base CX0 k fI fd ps (spX C (n + dvs.length) fl)) (hb : Binds K fd ps ds) (hd : Vals dvs ds) (hn : n ≤ 1000) :
    XcI P w K mg base k C n (fun vs => fl (vs ++ dvs)) := by
  refine ⟨T.kC, ?_⟩
  intro X pins σ H s vs us Q hP hw hK hM hB hr I r1 hl h
  subst hP hw hK hM hB
  obtain ⟨nm, q, N, bs, bm, sn, sub, ab, col, dd, k0, k1, k2, k3, k5, hC, hbm⟩ := T.cls
  obtain ⟨hp, g, dr, tk, os⟩ := s
  have hsz : hp.objs.size ≤ hp.objs.size + 1 := Nat.le_succ _
  have hn0 : H (hp.objs.size + 1) = none := I.hok.fresh hsz
  have hq : spX C (n + dvs.length) fl (.ref (hp.objs.size + 1) :: (vs ++ dvs)) (upd H (hp.objs.size + 1) (exo (hp.objs.size + 1) C none))
      (fun v H2 => v = .non ∧ ∃ (d : Addr) (fs : List (Str × V)), H2 (hp.objs.size + 1) = some (exo (hp.objs.size + 1) C (some d)) ∧ H2 d = some (exd d fs) ∧ H d = none ∧ Q (.ref C) (some d) (upd (del H2 (hp.objs.size + 1)) d (.xd fs))) (fun _ _ _ => False) := by
    refine ⟨_, _, rfl, by rw [List.length_append, hl], upd_same, fun dx H2 n1 n2 e1 e2 e3 => ⟨rfl, dx, _, e1, e2, ?_, ?_⟩⟩
    · rw [upd_ne n2] at n1
      exact n1
    · have n1' : H dx = none := by rw [upd_ne n2] at n1; exact n1
      have eq : upd (del H2 (hp.objs.size + 1)) dx (.xd (fl (vs ++ dvs))) = upd H dx (.xd (fl (vs ++ dvs))) := by
        funext c
        by_cases hc : c = dx
        · rw [hc, upd_same, upd_same]
        · rw [upd_ne hc, upd_ne hc]
          by_cases hc2 : c = hp.objs.size + 1
          · rw [hc2, del_same, hn0]
          · rw [del_ne hc2, e3 c hc2 hc, upd_ne hc2]
      rw [eq]
      exact h dx n1'
  have kk : ∀ b o, hp.get? b = some o → ((hp.push (PySem.W.kdv_tup us)).push (PySem.HandSPX.excO C hp.objs.size)).get? b = some o := fun b o e => Heap.get?_push_of_some _ (Heap.get?_push_of_some _ e)
  have got : ((hp.push (PySem.W.kdv_tup us)).push (PySem.HandSPX.excO C hp.objs.size)).get? (hp.objs.size + 1) = some (PySem.HandSPX.excO C hp.objs.size) := by heap_get
  have I2 := I.laid (t' := tk) (a := hp.objs.size + 1) (o := exo (hp.objs.size + 1) C none) (h' := (hp.push (PySem.W.kdv_tup us)).push (PySem.HandSPX.excO C hp.objs.size)) kk hsz (exo_ok got)
  have r2 : Vals (V.ref (hp.objs.size + 1) :: (vs ++ dvs)) (Value.ref (hp.objs.size + 1) :: (us ++ ds)) := .cons rfl (r1.append hd)
  have hll : (Value.ref (hp.objs.size + 1) :: us ++ ds).length = ps.length := by
    have e := r2.length
    rw [F1.len _ _ _ _ hq] at e
    exact e.symm
  have hus : us.length ≤ sizeLine := by
    rw [← Paired.length r1, sizeLine_eq]
    omega
  refine wpAny_call (xcall b.make (refsT_has b.hasN hbm) (refsT_has b.noA hbm) (refsT_has b.noM hbm) (I.kIn _ _ hC) (PySem.W.looks_findIn I.kIn iC) (fun self => PySem.W.bind_fn I.kIn self tI) hus
    (codeAny_mono (F1.run _ X.stack _ _ ⟨Value.ref (hp.objs.size + 1) :: us, []⟩ (Value.ref (hp.objs.size + 1) :: (us ++ ds)) _ _ (fun _ _ _ => False) (hr.make C us []) (I2.env0.make C us []) (hb _ (Value.ref (hp.objs.size + 1) :: us) I2.kIn hll) r2 hq) fun r s' hq' => ?_))
  cases r with
  | error er => exact False.elim hq'
  | ok fl =>
    cases fl with
    | ret u =>
      obtain ⟨v, H2, os2, bare2, un2, hok2, rv, ev, d, fs, ea, ed, hd1, q2⟩ := hq'
      subst ev
      obtain ⟨h2, g2, d2, t2, os'⟩ := s'
      exact ⟨rv, mk_end (raises_own T.exC T.tyC) I hsz kk un2 hok2 os2 bare2 ea ed hd1 q2⟩
    | next => exact False.elim hq'
    | brk => exact False.elim hq'
    | cont => exact False.elim hq'
end Mi

set_option maxHeartbeats 400000
/-! ### raise; exceptions as values -/
namespace Mi
open PySem PySem.Spec PyProof.Rows L2
variable [TheW]
/-- the fields of an exception: names, places of the arguments -/
def flV (l : List (Str × Nat)) (vs : List V) : List (Str × V) := l.filterMap fun p => (vs[p.2]?).map fun v => (p.1, v)
def flM (l : List (Str × Nat)) (xs : List MV) : List MV := l.filterMap fun p => xs[p.2]?
section
variable {K : PySem.W.Frag} {mg : Str → Option Value} {m : List Addr} {H : Hp}
theorem flV_dv {xs : List MV} {vs : List V} (d : DvAll K mg m H xs vs) : ∀ {l : List (Str × Nat)}, (∀ p ∈ l, p.2 < xs.length) → (flV l vs).map (·.1) = l.map (·.1) ∧ DvAll K mg m H (flM l xs) ((flV l vs).map (·.2))
  | [], _ => ⟨rfl, .nil⟩
  | p :: l, h => by
    obtain ⟨ih1, ih2⟩ := flV_dv d (l := l) fun q hq => h q (List.mem_cons_of_mem _ hq)
    have hp := h p (List.mem_cons_self ..)
    obtain ⟨v, e1, e2⟩ := d.get (List.getElem?_eq_getElem hp)
    have q1 : flV (p :: l) vs = (p.1, v) :: flV l vs := by unfold flV; rw [List.filterMap_cons_some (by rw [e1]; rfl)]
    have q2 : flM (p :: l) xs = xs[p.2] :: flM l xs := List.filterMap_cons_some (f := fun p : Str × Nat => xs[p.2]?) (List.getElem?_eq_getElem hp)
    rw [q1, q2]
    exact ⟨by rw [List.map_cons, List.map_cons, ih1], .cons e2 ih2⟩
end
/-- an exception class, as it is called -/
structure XcM (P : Program) (w : World) (K : PySem.W.Frag) (mg : Str → Option Value) (base : Heap) (k : Nat) (C : Addr) (n : Nat) (l : List (Str × Nat)) (dvs : List V) : Prop where
  kp : PySem.W.keepIn K (.ref C) = true
  run : ∀ {X : Cx} {pins : List (Addr × Obj)} {σ : L2.St} {H : Hp} {s : Shared} {vs : List V} {us : List Value} {Q : XK}, X.prog = P → X.w = w → X.K = K → X.mg = mg → X.base = base → Room (k + 1) X.A → L2.Inv X pins σ H s → Vals vs us → vs.length = n →
    (l = [] → Q (.ref C) none H) → (l ≠ [] → ∀ d, H d = none → Q (.ref C) (some d) (upd H d (.xd (flV l (vs ++ dvs))))) → wpAny (model X.prog X.w) X.A (call (.ref C) us) (MkP X pins σ Q) X.xe s
theorem XcM.ofI {P : Program} {w : World} {K : PySem.W.Frag} {mg : Str → Option Value} {base : Heap} {k : Nat} {C : Addr} {n : Nat} {l : List (Str × Nat)} {dvs : List V} (F : XcI P w K mg base k C n (fun vs => flV l (vs ++ dvs))) (hl : l ≠ []) : XcM P w K mg base k C n l dvs :=
  ⟨F.kp, fun a1 a2 a3 a4 a5 a6 a7 a8 a9 _ a10 => F.run a1 a2 a3 a4 a5 a6 a7 a8 a9 (a10 hl)⟩
theorem XcM.own {P : Program} {w : World} {K : PySem.W.Frag} {mg : Str → Option Value} {base : Heap} {C : Addr} {n : Nat} {bmB : List Value} {B nw ini : String} (F : ExcBaseFacts B nw ini bmB) (q : PySem.W.excIn K C bmB nw = true) (kC : PySem.W.keepIn K (.ref C) = true)
    (h1 : PySem.W.subIn K (.ref C) (.type "BaseException") = some true) (h2 : PySem.W.typeIn K (.ref C) = some (.type "type")) (hn : n ≤ 1000) : XcM P w K mg base 0 C n [] [] := by
  refine ⟨kC, ?_⟩
  intro X pins σ H s vs us Q hP hw hK hM hB hr I r1 hl h _
  subst hP hw hK hM hB
  obtain ⟨bm, N, nm, qn, bs, hdct, sn, sub, ab, col, dd, k0, k1, k2, k3, k5, mN, hC, hN, hni, T⟩ := exc_obj I.kIn q
  refine wpAny_call_exc_subT F T hC hN hni (fun h' e hm => mk_of I hm (raises_own h1 h2) (h rfl) (I.hok.gone hm.new)) ?_
  rw [← r1.length, hl, sizeLine_eq]
  omega
/-- raise c(..) -/
def sRaise (c : Str) (l : List (Str × Nat)) (dms : List MV) (AL : MA) : MSt := fun σ h => (AL σ h).st σ fun xs h1 => .exc ⟨c, l.map (·.1), flM l (xs ++ dms)⟩ σ h1
section
variable {K : PySem.W.Frag} {mg : Str → Option Value} {X : Cx} {W : WX} {m : List Addr} {H : Hp} {h : MH} {σ : L2.St} {k n : Nat} {C : Addr} {c : Str} {l : List (Str × Nat)} {dvs : List V} {dms : List MV} {p pos pos' : Pos} {e : Expr} {es : List Expr} {AL : MA}
/-- what the making of an exception gives -/
theorem xr_made {x : List MV} {vs : List V} {m1 : List Addr} {H1 : Hp} {σm : MS} {h1 : MH} {D : Ends} (hC : mg c = some (.ref C)) (hd : ∀ m H, DvAll K mg m H dms dvs) (hl : ∀ p ∈ l, p.2 < n + dms.length) (hx : x.length = n) (S : SRel K mg m H σm σ) (e1 : Ext m H m1 H1) (R1 : Rep K mg m1 H1 h1) (d1 : DvAll K mg m1 H1 x vs)
    (q1 : rs K mg W D m H (.exc ⟨c, l.map (·.1), flM l (x ++ dms)⟩ σm h1)) : (l = [] → W (.ref C) none σ H1) ∧ (l ≠ [] → ∀ d, H1 d = none → W (.ref C) (some d) σ (upd H1 d (.xd (flV l (vs ++ dvs))))) := by
  refine ⟨fun hl0 => ?_, fun hl0 d nd => ?_⟩
  · subst hl0
    exact q1 _ none σ m1 H1 e1 R1 (S.mono e1.gro) ⟨C, rfl, hC, .inl ⟨rfl, rfl, rfl⟩⟩
  · have ex := e1.trans (Ext.upd_new (m := m1) (o := .xd (flV l (vs ++ dvs))) nd)
    have da := (d1.append (hd m1 H1)).mono (Ext.upd_new (m := m1) (o := .xd (flV l (vs ++ dvs))) nd).gro
    obtain ⟨w1, w2⟩ := flV_dv da (l := l) (by rw [List.length_append, hx]; exact hl)
    exact q1 _ (some d) σ m1 _ ex (R1.lay nd) (S.mono ex.gro) ⟨C, rfl, hC, .inr ⟨d, _, rfl, R1.out nd, upd_same, w1, w2⟩⟩
theorem ss_raise (F : XcM X.prog X.w K mg X.base k C n l dvs) (hr : Room (k + 1) X.A) (hd : ∀ m H, DvAll K mg m H dms dvs) (hl : ∀ p ∈ l, p.2 < n + dms.length) (tk : Takes X W) (hc : X.calm = true) (hC : mg c = some (.ref C)) (hg : Gl X c) (ha : SA K mg W X (e :: es) AL) (ln : LenA AL n) (hK : X.K = K := by rfl) (hM : X.mg = mg := by rfl)
    (hdb : (c == ("__debug__" : Str)) = false := by decide) (he : starEach (e :: es) X.env = (false, eval e X.env) :: starEach es X.env := by rfl) (hpl : (backTo pos (starEach es X.env)).any (·.1) = false := by rfl) :
    SS K mg W X (.Raise (some (.Call (.Name c p) (e :: es) [] pos)) none pos') (sRaise c l dms AL) := by
  subst hK hM
  have mk : PMk X (.Call (.Name c p) (e :: es) [] pos) (fun σ H Q => tg X.K X.mg (DA X.K X.mg) W AL σ H fun vs H1 => vs.length = n ∧ (l = [] → Q (.ref C) none H1) ∧ (l ≠ [] → ∀ d, H1 d = none → Q (.ref C) (some d) (upd H1 d (.xd (flV l (vs ++ dvs)))))) := by
    intro pins s σ H Q I t
    refine wpAny_Call_Name_kw (ld_glob I hg hC ?_ hdb)
    refine PySem.W.callWith_K (h₀ := X.base) I.ok.mod.kin F.kp (thn (ha.run pos pins s σ H _ I t) fun us s1 ⟨vs, H1, I1, r1, hz, q1, q2⟩ => ⟨I1.kIn, ?_⟩) he hpl
    exact F.run rfl rfl rfl rfl rfl hr I1 r1 hz q1 q2
  refine (ps_raise hc tk mk).imp fun D σ H ⟨m, σm, h, R, S, q⟩ => ⟨m, σm, h, R, S, ?_⟩
  unfold sRaise at q
  cases ea : AL σm h with
  | stuck => rw [ea] at q; exact q.elim
  | exc x h1 => rw [ea] at q; exact fun cls d m' H' e' R' x => q cls d σ m' H' e' R' (S.mono e'.gro) x
  | ok xs h1 =>
    rw [ea] at q
    intro vs m1 H1 e1 R1 d1
    exact ⟨by rw [← DvAll.length d1]; exact ln _ _ _ _ ea, xr_made hC hd hl (ln _ _ _ _ ea) S e1 R1 d1 q⟩
theorem ss_raise0 (F : XcM X.prog X.w K mg X.base k C 0 l dvs) (hr : Room (k + 1) X.A) (hd : ∀ m H, DvAll K mg m H dms dvs) (hl : ∀ p ∈ l, p.2 < 0 + dms.length) (tk : Takes X W) (hc : X.calm = true) (hC : mg c = some (.ref C)) (hg : Gl X c) (hK : X.K = K := by rfl) (hM : X.mg = mg := by rfl)
    (hdb : (c == ("__debug__" : Str)) = false := by decide) : SS K mg W X (.Raise (some (.Call (.Name c p) [] [] pos)) none pos') (sRaise c l dms aNil) := by
  subst hK hM
  have mk : PMk X (.Call (.Name c p) [] [] pos) (fun σ H Q => (l = [] → Q (.ref C) none H) ∧ (l ≠ [] → ∀ d, H d = none → Q (.ref C) (some d) (upd H d (.xd (flV l ([] ++ dvs)))))) := by
    intro pins s σ H Q I t
    refine wpAny_Call_Name_kw (ld_glob I hg hC ?_ hdb)
    exact PySem.W.callWith_K0 I.kIn F.kp (F.run rfl rfl rfl rfl rfl hr I .nil rfl t.1 t.2)
  refine (ps_raise hc tk mk).imp fun D σ H ⟨m, σm, h, R, S, q⟩ => ?_
  exact xr_made (x := []) hC hd hl rfl S Ext.refl R .nil q
/-! #### what no law reaches -/
def sNo : MSt := fun _ _ => .stuck
theorem ss_no {st : Stmt} : SS K mg W X st sNo := ⟨fun pins s σ H D I t => by
  obtain ⟨m, σm, h, R, S, q⟩ := t
  exact q.elim⟩
theorem sss_no {st : List Stmt} : SSs K mg W X st sNo := ⟨fun pins s σ H D I t => by
  obtain ⟨m, σm, h, R, S, q⟩ := t
  exact q.elim⟩
def eNo : ME := fun _ _ => .stuck
theorem se_no : SE K mg W X e eNo := ⟨fun pins s σ H D I t => by
  obtain ⟨m, σm, h, R, S, q⟩ := t
  exact q.elim⟩
end
end Mi

set_option maxHeartbeats 400000
/-! ### try .. except -/
namespace Mi
open PySem PySem.Spec PyProof.Rows L2
variable [TheW]
/-- which classes stand under which -/
abbrev XS := Str → Str → Option Bool
def exAny (sub : XS) (c : Str) : List Str → Option Bool
  | [] => some false
  | d :: r => match sub c d, exAny sub c r with
    | some b, some b' => some (b || b')
    | _, _ => none
def tryS (i : Option Nat) (S : MSt) (x : XV) : MSt := fun σ h => match i with
  | some i => (match S (σ.set i (some (.exn x.c x.ns x.vs))) h with
    | .next σ' h' => .next (σ'.set i none) h'
    | .ret v h' => .ret v h'
    | _ => .stuck)
  | none => (match S σ h with
    | .next σ' h' => .next σ' h'
    | .ret v h' => .ret v h'
    | _ => .stuck)
abbrev MHd := List Str × Option Nat × MSt
def tryH (sub : XS) : List MHd → XV → MSt
  | [], _ => fun _ _ => .stuck
  | (cs, i, S) :: r, x => fun σ h => match exAny sub x.c cs with
    | some true => tryS i S x σ h
    | some false => tryH sub r x σ h
    | none => .stuck
def sTry (sub : XS) (B : MSt) (hs : List MHd) : MSt := fun σ h => match B σ h with
  | .exc x σ1 h1 => tryH sub hs x σ1 h1
  | r => r
def XSok (K : PySem.W.Frag) (mg : Str → Option Value) (sub : XS) : Prop := ∀ c d b C D, sub c d = some b → mg c = some (.ref C) → mg d = some (.ref D) → PySem.W.exmOne K (.ref C) (.ref D) = some b
section
variable {K : PySem.W.Frag} {M : Model}
theorem loopU {α : Type} {A : Around} {E : Value → Shared → Prop} {s : Shared} {f : α → PUnit → Sem (ForInStep PUnit)} {R : PUnit → Shared → Prop} (q : R PUnit.unit s) : ∀ {cs : List α}, (∀ c ∈ cs, ∀ R' : ForInStep PUnit → Shared → Prop, R' (.yield PUnit.unit) s → wpAny M A (f c PUnit.unit) R' E s) → wpAny M A (forIn cs PUnit.unit f) R E s
  | [], _ => by
    rw [List.forIn_nil]
    exact wpAny_pure q
  | c :: cs, h => by
    rw [List.forIn_cons]
    exact wpAny_bind (h c (List.mem_cons_self ..) _ (loopU q fun d hd => h d (List.mem_cons_of_mem _ hd)))
theorem loopB {α : Type} {A : Around} {E : Value → Shared → Prop} {s : Shared} {f : α → Option Bool × Unit → Sem (ForInStep (Option Bool × Unit))} {g : α → Bool} {R : Option Bool × Unit → Shared → Prop} : ∀ {cs : List α}, R (if cs.any g then (some true, ()) else (none, ())) s →
    (∀ c ∈ cs, ∀ R' : ForInStep (Option Bool × Unit) → Shared → Prop, R' (if g c then .done (some true, ()) else .yield (none, ())) s → wpAny M A (f c (none, ())) R' E s) → wpAny M A (forIn cs (none, ()) f) R E s
  | [], q, _ => by
    rw [List.forIn_nil]
    exact wpAny_pure q
  | c :: cs, q, h => by
    rw [List.forIn_cons]
    refine wpAny_bind (h c (List.mem_cons_self ..) _ ?_)
    rw [List.any_cons] at q
    cases e : g c with
    | true =>
      rw [e] at q
      exact wpAny_pure q
    | false =>
      rw [e] at q
      exact loopB q fun d hd => h d (List.mem_cons_of_mem _ hd)
theorem exmAny_mem {cls : Value} : ∀ {cs : List Value} {b : Bool}, PySem.W.exmAny K cls cs = some b → (∀ c ∈ cs, ∃ b1, PySem.W.exmOne K cls c = some b1) ∧ b = cs.any fun c => decide (PySem.W.exmOne K cls c = some true)
  | [], b, h => by
    have : some false = some b := h
    cases this
    exact ⟨fun _ z => by simp at z, rfl⟩
  | c :: cs, b, h => by
    obtain ⟨b1, d1, x1, y1, z1⟩ := PySem.W.exmAny_cons h
    obtain ⟨i1, i2⟩ := exmAny_mem y1
    refine ⟨fun d hd => ?_, ?_⟩
    · rcases List.mem_cons.mp hd with e | e
      · rw [e]; exact ⟨b1, x1⟩
      · exact i1 d e
    · rw [List.any_cons, z1, x1, i2]
      cases b1 <;> simp
/-- an exception against a tuple of classes -/
theorem exm_tupN {cls : Value} {tp e : Addr} {cs : List Value} {b : Bool} {h : Heap} (X : K.In h) (LT : PySem.W.Looks M h (typeOf (.ref e)) cls) (hp : h.get? tp = some { cls := .type "tuple", data := .seq cs.toArray }) (hx : PySem.W.exmAny K cls cs = some b) : PySem.W.Looks M h (excMatches (.ref e) (.ref tp)) b := by
  intro A Q E s k₀ q
  obtain ⟨hh, g, d, tk, os⟩ := s
  have k : ∀ b o, h.get? b = some o → hh.get? b = some o := k₀
  have LT0 : PySem.W.Looks M h (isInstance (.ref tp) (.type "tuple")) true := ((PySem.W.Looks.ld hp).andThen .now).andThen (PySem.W.Looks.of_pure isSubtype_tuple_tuple)
  have LT0 := LT0.keeps k
  have hp' := k _ _ hp
  unfold excMatches
  refine wpAny_bind (LT0.at ?_)
  dsimp only
  rw [if_pos rfl]
  first
    | refine wpAny_bind (wpAny_seqItems hp' rfl ?_)
    | refine wpAny_bind (wpAny_bind (wpAny_seqItems hp' rfl (wpAny_pure ?_)))
  dsimp only [Option.getD_some, Option.getD]
  obtain ⟨all, hb⟩ := exmAny_mem hx
  have LT := LT.keeps k
  refine wpAny_bind (wpAny_pure (wpAny_bind (loopU (wpAny_bind (LT.at (wpAny_bind (loopB (g := fun c => decide (PySem.W.exmOne K cls c = some true)) ?_ fun c hc R' r => ?_)))) fun c hc R' r => ?_)))
  · rw [← hb]
    cases b <;> exact wpAny_pure q
  · obtain ⟨b1, e1⟩ := all c hc
    obtain ⟨_, S1⟩ := PySem.W.exm_cls (M := M) X e1
    have S1 := S1.keeps k
    rw [e1] at r
    refine wpAny_bind (S1.at ?_)
    cases b1
    · rw [if_neg Bool.false_ne_true]
      exact wpAny_pure (by simpa using r)
    · rw [if_pos rfl]
      exact wpAny_pure (by simpa using r)
  · obtain ⟨b1, e1⟩ := all c hc
    obtain ⟨S1, _⟩ := PySem.W.exm_cls (M := M) X e1
    have S1 := S1.keeps k
    refine wpAny_bind (S1.at ?_)
    rw [if_neg (by decide)]
    exact wpAny_pure r
end
inductive TstXs (mg : Str → Option Value) (X : Cx) : List Expr → List Str → Prop
  | nil : TstXs mg X [] []
  | cons {x : Str} {p : Pos} {C : Addr} {es : List Expr} {cs : List Str} : Gl X x → mg x = some (.ref C) → (x == ("__debug__" : Str)) = false → TstXs mg X es cs → starEach (.Name x p :: es) X.env = (false, eval (.Name x p) X.env) :: starEach es X.env → TstXs mg X (.Name x p :: es) (x :: cs)
/-- the test of a clause: names of own classes -/
inductive TstX (mg : Str → Option Value) (X : Cx) : Expr → List Str → Prop
  | one {x : Str} {p : Pos} {C : Addr} : Gl X x → mg x = some (.ref C) → (x == ("__debug__" : Str)) = false → TstX mg X (.Name x p) [x]
  | tup {es : List Expr} {cs : List Str} {k : Nat} {p : Pos} : TstXs mg X es cs → cs.length ≤ 1000 → TstX mg X (.Tuple es k p) cs
section
variable {X : Cx} {pins : List (Addr × Obj)} {σ : L2.St} {H : Hp} {s : Shared} {a : Addr}
/-- an object of ours that was not tracked is tracked from now on -/
theorem inv_track {φ : Heap → Prop} {o : Obj} (I : L2.Inv X pins σ H s) (ho : s.heap.get? a = some o) (hc : ∀ v, o.data ≠ .cell v) (na : H a = none) (nL : a ≠ X.env.locals) (n0 : X.s_0.heap.get? a = none) (np : ∀ p ∈ X.pn ++ pins, p.1 ≠ a)
    (new : ObjOk X.prog X.w (upd H a (.ext φ)) s.heap a (.ext φ)) : L2.Inv X pins σ (upd H a (.ext φ)) s := by
  refine ⟨I.ok, I.os, I.bare, ⟨I.base.keep, I.base.slot, fun b u e n hx => ?_, I.base.there, fun b xs e => ?_, fun b u v e => ?_, fun b ps e => ?_⟩, I.loc, I.cell, ?_, fun x c e => ?_, fun p hp => ?_, fun b u e => ?_, I.len⟩
  · rw [upd_ne (fun z => by rw [z, n0] at e; cases e)]
    exact I.base.free b u e n hx
  · have q := I.base.tups b xs e
    rw [upd_ne (ne_of_none q na)]
    exact q
  · have q := I.base.frzs b u v e
    rw [upd_ne (ne_of_none q na)]
    exact q
  · obtain ⟨m, q⟩ := I.base.tbls b ps e
    exact ⟨m, by rw [upd_ne (ne_of_none q na)]; exact q⟩
  · rw [upd_ne (Ne.symm nL)]
    exact I.free
  · obtain ⟨v, u, hu, hd⟩ := I.cell x c e
    rw [upd_ne (fun z => by rw [z, ho] at hu; cases hu; exact hc _ hd)]
    exact I.freeC x c e
  · obtain ⟨h1, h2, h3⟩ := I.pin p hp
    exact ⟨h1, by rw [upd_ne (np p hp)]; exact h2, h3⟩
  · by_cases hb : b = a
    · subst hb
      rw [upd_same] at e
      cases e
      exact new
    · rw [upd_ne hb] at e
      exact (I.hok b u e).stay (fun _ _ _ q => q) (fun c q => by rw [upd_ne (ne_of_none q na)]; exact q) fun c xs q => by rw [upd_ne (ne_of_none q na)]; exact q
theorem kx_ok {P : Program} {w : World} {h : Heap} {cls : Value} {d : Option Addr} {o : Obj} {vs : Array Value} (e : h.get? a = some o) (z : Zc cls d o) (q : o.data = .fields vs) : ObjOk P w H h a (kx a cls d) :=
  ⟨⟨o, vs, e, z, q⟩, ⟨o, e⟩, fun _ _ ⟨o, vs, e, z, q⟩ k => ⟨o, vs, k o e, z, q⟩⟩
theorem inv_suite (I : L2.Inv X pins σ H s) : L2.Inv (X.suite a (X.pn ++ pins)) [] σ H s :=
  ⟨I.ok.suite _ _, I.os, I.bare, I.base, I.loc, I.cell, I.free, I.freeC, fun p hp => I.pin p (by rw [List.append_nil] at hp; exact hp), I.hok, I.len⟩
theorem inv_unsuite {pn' : List (Addr × Obj)} (I : L2.Inv (X.suite a (X.pn ++ pins)) pn' σ H s) (ok : X.Ok) : L2.Inv X pins σ H s :=
  ⟨ok, I.os, I.bare, I.base, I.loc, I.cell, I.free, I.freeC, fun p hp => I.pin p (List.mem_append_left _ hp), I.hok, I.len⟩
theorem flying_push {B h : Heap} {l : List Env} {Z : Obj → Prop} {o : Obj} (f : HandSPX.FlyingZ B l a Z h) : HandSPX.FlyingZ B l a Z (h.push o) := by
  obtain ⟨f1, f2, f3, oe, vs, T, oT, ts, q1, q2, q3, q4, q5, q6, q7, q8, q9⟩ := f
  have k : ∀ b u, h.get? b = some u → (h.push o).get? b = some u := fun b u e => Heap.get?_push_of_some _ e
  exact ⟨fun b u e => k b u (f1 b u e), f2, f3.of_keeps fun b u e _ => ⟨u, k b u e, rfl⟩, oe, vs, T, oT, ts, k _ _ q1, q2, q3, q4, q5, q6, k _ _ q7, q8, q9⟩
theorem tst_list {es : List Expr} {cs : List Str} {pos : Pos} (I : L2.Inv X pins σ H s) (t : TstXs X.mg X es cs) : ∃ us : List Value, (∀ {E : Value → Shared → Prop} {Q : List Value → Shared → Prop}, Q us s → wpAny (model X.prog X.w) (X.A.mark (some (.ref a))) (spliced (backTo pos (starEach es X.env))) Q E s) ∧ us.length = cs.length ∧ Paired (fun c u => ∃ C, u = Value.ref C ∧ X.mg c = some (.ref C)) cs us := by
  induction t with
  | nil => exact ⟨[], fun q => PyProof.Rows.spliced_none q, rfl, .nil⟩
  | @cons x p C es cs hg hm hd r hs ih =>
    obtain ⟨us, w, l, pr⟩ := ih
    exact ⟨.ref C :: us, fun q => PyProof.Rows.spliced_more (ld_glob (X := X.suite a (X.pn ++ pins)) (inv_suite I) hg hm (w q) hd) hs, congrArg Nat.succ l, .cons ⟨C, rfl, hm⟩ pr⟩
end
/-- how a clause binds its name -/
inductive NmX (X : Cx) : Option Str → Option Nat → Prop
  | no : NmX X none none
  | as_ {n : Str} {i : Nat} : X.N[i]? = some n → X.env.kindOf n = some .local → NmX X (some n) (some i)
section
variable (K : PySem.W.Frag) (mg : Str → Option Value) (X : Cx)
inductive HdM : List ExceptHandler → List MHd → Prop
  | nil : HdM [] []
  | cons {t : Expr} {cs : List Str} {nm : Option Str} {i : Option Nat} {S : MSt} {b₀ : Stmt} {suite : List Stmt} {pos' : Pos} {hds : List ExceptHandler} {l : List MHd} (ht : TstX mg X t cs) (hn : NmX X nm i)
      (hsu : ∀ (a : Addr) (pn : List (Addr × Obj)), SSs K mg W0 (X.suite a pn) (b₀ :: suite) S) (r : HdM hds l) : HdM (.ExceptHandler (some t) nm (b₀ :: suite) pos' :: hds) ((cs, i, S) :: l)
end
section
variable {K : PySem.W.Frag} {mg : Str → Option Value} {sub : XS}
theorem exAny_ok (so : XSok K mg sub) {c : Str} {C : Addr} (hc : mg c = some (.ref C)) : ∀ {cs : List Str} {us : List Value} {b : Bool}, Paired (fun c u => ∃ C, u = Value.ref C ∧ mg c = some (.ref C)) cs us → exAny sub c cs = some b → PySem.W.exmAny K (.ref C) us = some b
  | _, _, b, .nil, e => e
  | _, _, b, @Paired.cons _ _ _ d _ _ _ ⟨D, e1, e2⟩ r, e => by
    subst e1
    unfold exAny at e
    split at e
    · rename_i b1 b2 h1 h2
      unfold PySem.W.exmAny
      rw [so _ _ _ _ _ h1 hc e2, exAny_ok so hc r h2]
      exact e
    · cases e
variable {X : Cx} {body : List Stmt} {h₀ : ExceptHandler} {hds : List ExceptHandler} {l : List MHd} {pos : Pos} {B : MSt} {W : WX}
/-- an exception in the air is a value in the suite -/
theorem exn_dv {m : List Addr} {H : Hp} {h : MH} {x : XV} {cls : Value} {d : Option Addr} {a : Addr} (R : Rep K mg m H h) (xr : XR K mg m H x cls d) (na : H a = none) : Dv K mg m (upd H a (kx a cls d)) (.exn x.c x.ns x.vs) (.ref a) := by
  obtain ⟨xc, xn, xv⟩ := x
  obtain ⟨C, rfl, hc, ⟨rfl, e1, e2⟩ | ⟨dd, gs, rfl, h1, h2, h3, h4⟩⟩ := xr
  · dsimp only at e1 e2 hc ⊢
    subst e1 e2
    exact .exn0 hc upd_same (R.out na)
  · dsimp only at h3 h4 hc ⊢
    subst h3
    exact .exnD hc upd_same (R.out na) (by rw [upd_ne (ne_of_none h2 na)]; exact h2) h1 (h4.mono (Ext.upd_new na).gro)
theorem ss_try (so : XSok K mg sub) (hx : X.ex = []) (hs : X.stack = X.env :: X.outer) (hf : X.env.frame = some X.env.locals) (hN : X.N.Nodup) (hb : ∀ (W : WX) (pn : List (Addr × Obj)) (xe : Value → Shared → Prop), Takes (X.tr pn xe) W → PassesOwn (model X.prog X.w) X.A X.env xe → SSs K mg W (X.tr pn xe) body B)
    (hh : HdM K mg X (h₀ :: hds) l) (hK : X.K = K := by rfl) (hM : X.mg = mg := by rfl) : SS K mg W X (.Try body (h₀ :: hds) [] [] pos) (sTry sub B l) := by
  subst hK hM
  refine ⟨fun pins s σ H D I t => ?_⟩
  obtain ⟨m, σm, h, R, S, q⟩ := t
  have ok := I.ok
  have hfr : X.A.frames = some (X.env :: X.outer) := by rw [ok.frames, hs]
  let WW : WX := fun cls d s' H' => ∃ x σ1 h1 m', Ext m H m' H' ∧ Rep X.K X.mg m' H' h1 ∧ SRel X.K X.mg m' H' σ1 s' ∧ XR X.K X.mg m' H' x cls d ∧ rs X.K X.mg W D m H (tryH sub l x σ1 h1)
  refine wpAny_Try_except (wpAny_mono ((hb WW (X.pn ++ pins) (fun e s₁ => wpAny (model X.prog X.w) X.A (noteFrame e X.env) (fun _ s₂ => wpAny (model X.prog X.w) X.A (setFlight e none) (fun _ s₃ =>
    wpAny (model X.prog X.w) X.A (handleBy e X.env (h₀ :: hds)) (SP X pins D) X.xe s₃) X.xe s₂) X.xe s₁) (fun u s' air => ?_) PassesOwn.looking).run [] s σ H D (I.toTry _) ⟨m, σm, h, R, S, ?_⟩) (fun f s1 hsp => ?_) fun _ _ z => z)
  · obtain ⟨a, Bh, sI, pins', σ', H', cls, d, rfl, J', nb, up, sky, na, os, ag, x, σ1, h1, m', e1, R1, S1, xr, q1⟩ := air
    have J : L2.Inv X pins σ' H' sI := J'.ofTry ok
    have sky' : Sky Bh (X.env :: X.outer) a (Zc cls d) X.env.locals s'.heap := by rw [← hs]; exact sky
    refine Sky.land Zc.steady hfr hf sky' fun h3 fl3 up3 => ?_
    have notFr : ∀ {h : Heap} {o : Obj} {vs : Array Value}, h.FunFrames Bh (X.env :: X.outer) → h.get? a = some o → o.data = .fields vs → a ∉ frs (X.env :: X.outer) := fun {h o vs} ff e dd hm => by
      obtain ⟨_, o', e', hnf⟩ := ff.mem hm
      rw [e] at e'
      cases e'
      exact hnf _ dd
    obtain ⟨oe3, vs3, he3, hz3, hd3⟩ := fl3.there
    have nfr := notFr fl3.2.2.1 he3 hd3
    have nL : a ≠ X.env.locals := fun z => nfr (List.mem_filterMap.mpr ⟨X.env, List.mem_cons_self, by rw [hf, z]⟩)
    have nI : sI.heap.get? a = none := by
      cases e : sI.heap.get? a with
      | none => rfl
      | some u =>
        have z := nb a u e (by rw [hs]; exact nfr)
        rw [fl3.2.1] at z
        cases z
    have n0 : X.s_0.heap.get? a = none := by
      cases e : X.s_0.heap.get? a with
      | none => rfl
      | some u =>
        obtain ⟨u', z⟩ := J.base.there a u e (by rw [hx]; exact fun z => nomatch z)
        rw [nI] at z
        cases z
    have npin : ∀ p ∈ X.pn ++ pins, p.1 ≠ a := fun p hp z => by
      have q := (J.pin p hp).1
      rw [z, nI] at q
      cases q
    have cl : ∃ C, cls = .ref C ∧ X.mg x.c = some (.ref C) := let ⟨C, z1, z2, _⟩ := xr; ⟨C, z1, z2⟩
    obtain ⟨C, ec, hC⟩ := cl
    have go : ∀ {hds' : List ExceptHandler} {l' : List MHd} (hp : Heap), HdM X.K X.mg X hds' l' → HandSPX.FlyingZ Bh (X.env :: X.outer) a (Zc cls d) hp → sI.heap.UpToSlots hp → rs X.K X.mg W D m H (tryH sub l' x σ1 h1) → wpAny (model X.prog X.w) X.A (handleBy (.ref a) X.env hds') (SP X pins D) X.xe { s' with heap := hp } := by
      intro hds' l' hp hk
      induction hk generalizing hp with
      | nil => exact fun _ _ w => w.elim
      | @cons t cs nm i Sm b₀ suite pos' hds2 l2 ht hn hsu r ih =>
        intro fl up w
        refine wpAny_handleBy_cons (codeAny_handlers_test ?_) (by intro q; cases q)
        have JJ : ∀ hp, HandSPX.FlyingZ Bh (X.env :: X.outer) a (Zc cls d) hp → sI.heap.UpToSlots hp → L2.Inv X pins σ' H' { s' with heap := hp } := fun hp fl up => J.landed nb fl.1 up os ag
        have fin : ∀ (b : Bool) (hp : Heap), HandSPX.FlyingZ Bh (X.env :: X.outer) a (Zc cls d) hp → sI.heap.UpToSlots hp → exAny sub x.c cs = some b →
            (match (Except.ok (if b then Flow.brk else Flow.next) : Result) with
            | .ok .brk => codeAny (model X.prog X.w) (X.A.mark (some (.ref a))) (.handlers (.ref a) [.ExceptHandler none nm (b₀ :: suite) pos'] X.env) (fun r s₂ => match r with
                | .ok f => (match (generalizing := false) nm with
                  | none => SP X pins D f s₂
                  | some n => wpAny (model X.prog X.w) X.A (do bindName X.env n .none; unbindBehindTheSuite X.env n pos') (fun _ s₃ => SP X pins D f s₃) X.xe s₂)
                | .error x => cameBackBy (model X.prog X.w) X.A X.env X.xe x s₂) { s' with heap := hp }
            | .ok _ => wpAny (model X.prog X.w) X.A (handleBy (.ref a) X.env hds2) (SP X pins D) X.xe { s' with heap := hp }
            | .error x => cameBackBy (model X.prog X.w) X.A X.env X.xe x { s' with heap := hp }) := by
          intro b hp fl up eb
          unfold tryH at w
          try dsimp only at w
          rw [eb] at w
          cases b with
          | false => exact ih hp fl up w
          | true =>
            have trk : ∀ hp, HandSPX.FlyingZ Bh (X.env :: X.outer) a (Zc cls d) hp → sI.heap.UpToSlots hp → L2.Inv X pins σ' (upd H' a (kx a cls d)) { s' with heap := hp } := fun hp fl up => by
              obtain ⟨o4, vs4, he4, hz4, hd4⟩ := fl.there
              exact inv_track (JJ hp fl up) he4 (fun v z => by rw [hd4] at z; cases z) na nL n0 npin (kx_ok he4 hz4 hd4)
            have R2 : Rep X.K X.mg m' (upd H' a (kx a cls d)) h1 := R1.lay na
            have e2 : Ext m H m' (upd H' a (kx a cls d)) := e1.trans (Ext.upd_new na)
            have S2 := S1.mono (Ext.upd_new (m := m') (o := kx a cls d) na).gro
            cases hn with
            | no =>
              refine codeAny_handlers_suite (HandSPX.lands_againZ fl fun h4 fl4 up4 => ?_)
              have T4 := trk h4 fl4 (up.trans up4)
              have w : rs X.K X.mg W D m H (tryS none Sm x σ1 h1) := w
              unfold tryS at w
              dsimp only at w
              refine wpAny_mono ((hsu a (X.pn ++ pins)).run [] _ _ (upd H' a (kx a cls d)) { nx := D.nx, rt := D.rt, bk := fun _ _ => False, ct := fun _ _ => False } (inv_suite T4) ⟨m', σ1, h1, R2, S2, ?_⟩) (fun f s6 hsp => ?_) (fun _ _ z => False.elim z)
              · cases es : Sm σ1 h1 with
                | next σ2 h2 => rw [es] at w; exact fun s2 m2 H2 x2 R3 S3 => w s2 m2 H2 (e2.trans x2) R3 S3
                | ret v h2 => rw [es] at w; exact fun v2 m2 H2 x2 R3 d3 => w v2 m2 H2 (e2.trans x2) R3 (d3.back e2 R2)
                | brk σ2 h2 => rw [es] at w; exact w.elim
                | cont σ2 h2 => rw [es] at w; exact w.elim
                | exc x σ2 h2 => rw [es] at w; exact w.elim
                | stuck => rw [es] at w; exact w.elim
              · cases f with
                | next => exact let ⟨σ6, H6, S6, q6⟩ := hsp; ⟨_, _, inv_unsuite S6 ok, q6⟩
                | brk => exact let ⟨_, _, _, q⟩ := hsp; q.elim
                | cont => exact let ⟨_, _, _, q⟩ := hsp; q.elim
                | ret u => exact let ⟨v6, σ6, H6, S6, r6, q6⟩ := hsp; ⟨_, _, _, inv_unsuite S6 ok, r6, q6⟩
            | @as_ n j hi hln =>
              refine codeAny_handlers_suite_as (HandSPX.lands_againZ fl fun h4 fl4 up4 => ?_)
              have T4 := trk h4 fl4 (up.trans up4)
              refine store_ok (X := X.suite a (X.pn ++ pins)) (v := .ref a) (inv_suite T4) hN hi (.inl hln) rfl (fun s5 S5 => ?_) (.inr hln)
              have w : rs X.K X.mg W D m H (tryS (some j) Sm x σ1 h1) := w
              unfold tryS at w
              dsimp only at w
              refine wpAny_mono ((hsu a (X.pn ++ pins)).run [] _ _ (upd H' a (kx a cls d)) { nx := fun s2 H2 => D.nx (s2.set j none) H2, rt := D.rt, bk := fun _ _ => False, ct := fun _ _ => False } S5 ⟨m', σ1.set j (some (.exn x.c x.ns x.vs)), h1, R2, S2.set (exn_dv R1 xr na), ?_⟩) (fun f s6 hsp => ?_) (fun _ _ z => False.elim z)
              · cases es : Sm (σ1.set j (some (.exn x.c x.ns x.vs))) h1 with
                | next σ2 h2 =>
                  rw [es] at w
                  intro s2 m2 H2 x2 R3 S3
                  refine w (s2.set j none) m2 H2 (e2.trans x2) R3 ⟨by simp [S3.len], fun k y e => ?_⟩
                  by_cases hk : j = k
                  · subst hk
                    rw [List.getElem?_set] at e
                    simp only [if_true] at e
                    split at e <;> cases e
                  · rw [List.getElem?_set_ne hk] at e ⊢
                    exact S3.at_ k y e
                | ret v h2 => rw [es] at w; exact fun v2 m2 H2 x2 R3 d3 => w v2 m2 H2 (e2.trans x2) R3 (d3.back e2 R2)
                | brk σ2 h2 => rw [es] at w; exact w.elim
                | cont σ2 h2 => rw [es] at w; exact w.elim
                | exc x σ2 h2 => rw [es] at w; exact w.elim
                | stuck => rw [es] at w; exact w.elim
              · cases f with
                | next =>
                  obtain ⟨σ6, H6, S6, q6⟩ := hsp
                  exact gone_ok (inv_unsuite S6 ok) hN hi hln fun s7 J7 => ⟨_, _, J7, q6⟩
                | brk => exact let ⟨_, _, _, q⟩ := hsp; q.elim
                | cont => exact let ⟨_, _, _, q⟩ := hsp; q.elim
                | ret u =>
                  obtain ⟨v6, σ6, H6, S6, r6, q6⟩ := hsp
                  exact gone_ok (inv_unsuite S6 ok) hN hi hln fun s7 J7 => ⟨_, _, _, J7, r6, q6⟩
        have LT : ∀ hp, HandSPX.FlyingZ Bh (X.env :: X.outer) a (Zc cls d) hp → PySem.W.Looks (model X.prog X.w) hp (typeOf (.ref a)) cls := fun hp fl => by
          obtain ⟨o4, vs4, he4, hz4, hd4⟩ := fl.there
          exact fun A Q E s k q => wpAny_typeOf_ref (k _ _ he4) (by rw [hz4.1]; exact q)
        have J3 := JJ hp fl up
        cases eb : exAny sub x.c cs with
        | none =>
          unfold tryH at w
          try dsimp only at w
          rw [eb] at w
          exact w.elim
        | some b =>
          subst ec
          cases ht with
          | @one x' p D' hg hm hdb =>
            have ex := exAny_ok so hC (us := [.ref D']) (.cons ⟨D', rfl, hm⟩ .nil) eb
            obtain ⟨b1, d1, z1, z2, z3⟩ := PySem.W.exmAny_cons ex
            have z2 : some false = some d1 := z2
            cases z2
            rw [Bool.or_false] at z3
            subst z3
            exact ld_glob (X := X.suite a (X.pn ++ pins)) (inv_suite J3) hg hm ((PySem.W.exm_one (M := model X.prog X.w) J3.kIn (LT hp fl) z1).here (fin b hp fl up eb)) hdb
          | @tup es cs' k p hts hl =>
            obtain ⟨us, wsp, lus, pr⟩ := tst_list (a := a) (pos := p) J3 hts
            refine Tuple_ (wsp (wpAny_newObj_type ?_ ?_))
            · have fl5 := flying_push (o := { cls := .type "tuple", data := .seq us.toArray }) fl
              have up5 : hp.UpToSlots (hp.push { cls := .type "tuple", data := .seq us.toArray }) := fun b o e _ => ⟨o.slots, Heap.get?_push_of_some _ e⟩
              have J5 := JJ _ fl5 (up.trans up5)
              exact (exm_tupN (M := model X.prog X.w) J5.kIn (LT _ fl5) (Heap.get?_push_size _ rfl) (exAny_ok so hC pr eb)).here (fin b _ fl5 (up.trans up5) eb)
            · show us.toArray.size ≤ sizeLine
              rw [List.size_toArray, lus, sizeLine_eq]
              omega
    exact go h3 hh fl3 (up.trans up3) q1
  · unfold sTry at q
    cases eB : B σm h with
    | exc x σ1 h1 => rw [eB] at q; exact fun cls d s' m' H' e' R' S' x' => ⟨x, σ1, h1, m', e', R', S', x', q⟩
    | next σ1 h1 => rw [eB] at q; exact q
    | ret v h1 => rw [eB] at q; exact q
    | brk σ1 h1 => rw [eB] at q; exact q
    | cont σ1 h1 => rw [eB] at q; exact q
    | stuck => rw [eB] at q; exact q
  · cases f with
    | next => exact let ⟨σ', H', J', q⟩ := hsp; wpAny_execs_nil ⟨σ', H', J'.ofTry ok, q⟩
    | brk => exact let ⟨σ', H', J', q⟩ := hsp; ⟨σ', H', J'.ofTry ok, q⟩
    | cont => exact let ⟨σ', H', J', q⟩ := hsp; ⟨σ', H', J'.ofTry ok, q⟩
    | ret u => exact let ⟨v, σ', H', J', r, q⟩ := hsp; ⟨v, σ', H', J'.ofTry ok, r, q⟩
end
end Mi

set_option maxHeartbeats 400000
/-! ### fields of exceptions; facts of their classes -/
namespace Mi
open PySem PySem.Spec PyProof.Rows L2
variable [TheW]
abbrev CF := List (Str × Str)
/-- e.f, e an exception -/
def eXf (cf : CF) (f : Str) (A : ME) : ME := fun σ h => (A σ h).bind fun x h1 => match x with
  | .exn c ns vs => if (c, f) ∈ cf then (match (ns.zip vs).lookup f with
    | some v => .ok v h1
    | none => .stuck) else .stuck
  | _ => .stuck
def CFok (K : PySem.W.Frag) (mg : Str → Option Value) (cf : CF) : Prop := ∀ c f C, (c, f) ∈ cf → mg c = some (.ref C) → XfC K C ∧ PySem.W.findIn K (.ref C) f = some none
section
variable {K : PySem.W.Frag} {mg : Str → Option Value} {X : Cx} {W : WX} {m : List Addr} {H H0 : Hp} {h : MH} {σ : L2.St}
theorem zip_lookup {f : Str} : ∀ {gs : List (Str × V)} {xs : List MV} {v : MV}, DvAll K mg m H xs (gs.map (·.2)) → ((gs.map (·.1)).zip xs).lookup f = some v → ∃ w, gs.lookup f = some w ∧ Dv K mg m H v w
  | [], _, _, _, e => by simp at e
  | (g, w) :: gs, _, v, .cons d r, e => by
    rw [List.map_cons, List.zip_cons_cons, List.lookup_cons] at e
    rw [List.lookup_cons]
    cases q : f == g with
    | true =>
      rw [q] at e
      cases e
      exact ⟨w, rfl, d⟩
    | false =>
      rw [q] at e
      exact zip_lookup r e
theorem se_xf {cf : CF} {e : Expr} {A : ME} {pos : Pos} {f : Str} (ok : CFok K mg cf) (ha : SE K mg W X e A) (hK : X.K = K := by rfl) (hb : attributeBase e f X.env (eval e X.env) = eval e X.env := by rfl) : SE K mg W X (.Attribute e f pos) (eXf cf f A) := by
  subst hK
  refine ⟨fun pins s σ H Q I ⟨m, σm, h, R, S, q⟩ => attr_of hb (thn (ha.run pins s σ H (fun x' H1 => ∃ m1 h1 x, Rep X.K mg m1 H1 h1 ∧ Dt X.K mg H m1 H1 x x' ∧ rg X.K mg (DV X.K mg) W σ m1 H1 (match x with
    | .exn c ns vs => if (c, f) ∈ cf then (match (ns.zip vs).lookup f with
      | some v => .ok v h1
      | none => .stuck) else .stuck
    | _ => .stuck) Q) I ⟨m, σm, h, R, S, rg.bind q fun x h1 x' m1 H1 e1 R1 d1 q1 => ⟨m1, h1, x, R1, d1, rg.ext dmV e1 R1 q1⟩⟩) fun u s1 hh => ?_)⟩
  obtain ⟨x', H1, I1, rx, m1, h1, x, R1, d1, q1⟩ := hh
  cases x with
  | exn c ns vs =>
    dsimp only at q1
    by_cases hc : (c, f) ∈ cf
    · rw [if_pos hc] at q1
      cases d1.dv (fun _ => MV.noConfusion) with
      | exn0 g1 g2 g3 => exact q1.elim
      | @exnD _ a C dd gs _ g1 g2 g3 g4 g5 g6 =>
        cases el : ((gs.map (·.1)).zip vs).lookup f with
        | none => rw [el] at q1; exact q1.elim
        | some v =>
          rw [el] at q1
          obtain ⟨w, lw, dw⟩ := zip_lookup g6 el
          obtain rfl : u = Value.ref a := rx
          obtain ⟨T, no⟩ := ok c f C hc g1
          obtain ⟨o, us, ho, hz, hd⟩ := kx_at I1.hok g2
          obtain ⟨mA, hns, hr⟩ := (show ObjOk X.prog X.w H1 s1.heap dd (.xd gs) from I1.hok dd _ g4)
          obtain ⟨od, h2, hl⟩ := lookIn_ns hns
          obtain ⟨u, hu, ru⟩ := RelO.some_of (v := w) (o := mA f) (by rw [← lw]; exact hr f)
          have J : PySem.W.InstAt s1.heap a o C (some od) := ⟨ho, hz.1, by unfold PySem.W.notCls; rw [hd], by rw [hz.2]; exact h2⟩
          exact HandSPX.exc_get I1.kIn J T.ga T.gg T.exC (PySem.W.findObj_own T.hdC no rfl (by rw [hl, hu])) (handed_of ru) ⟨w, H1, I1.tok _, ru, rg.here q1 R1 (.v dw)⟩
    · rw [if_neg hc] at q1
      exact q1.elim
  | _ => exact q1.elim
end
/-! #### facts -/
/-- the object of an exception class, its maker nw, the tail tl of its classes -/
def xtL (nw : String) (tl : List Value) (K : PySem.W.Frag) (C : Addr) : Bool := match K.lookup C with
  | some ⟨.type "type", _, .cls cd, sl⟩ => (match cd.mro, sl.toList with
    | .ref C' :: bm, [_, _, _, _, some (.builtin n), _] => C' == C && (n == nw && (!cd.hasDel && (cd.hasDict && refsT tl bm)))
    | _, _ => false)
  | _ => false
def xtB (nw : String) (tl : List Value) (x : Str) (K : PySem.W.Frag) : Bool := xtL nw tl K (He.ga K x) && (decide (PySem.W.findIn K (.ref (He.ga K x)) "__setattr__" = some (some (.builtin "object.__setattr__"))) && (decide (PySem.W.subIn K (.ref (He.ga K x)) (.type "BaseException") = some true) &&
  (decide (PySem.W.typeIn K (.ref (He.ga K x)) = some (.type "type")) && PySem.W.keepIn K (.ref (He.ga K x)))))
theorem xtB_ok {nw : String} {tl : List Value} {x : Str} {K : PySem.W.Frag} (h : xtB nw tl x K = true) : XT K (He.ga K x) nw tl := by
  obtain ⟨h1, h⟩ := Bool.and_eq_true_iff.mp h
  obtain ⟨h2, h⟩ := Bool.and_eq_true_iff.mp h
  obtain ⟨h3, h⟩ := Bool.and_eq_true_iff.mp h
  obtain ⟨h4, h5⟩ := Bool.and_eq_true_iff.mp h
  refine ⟨?_, of_decide_eq_true h2, of_decide_eq_true h3, of_decide_eq_true h4, h5⟩
  unfold xtL at h1
  split at h1
  · rename_i dd cd sl ho
    split at h1
    · rename_i C' bm k0 k1 k2 k3 n k5 hm hs
      simp only [Bool.and_eq_true, beq_iff_eq, Bool.not_eq_true'] at h1
      obtain ⟨rfl, rfl, hdel, hdic, hb⟩ := h1
      obtain ⟨nm, bs, mro, ns, qn, hd, sn, sub, ab, col, del⟩ := cd
      obtain ⟨sl⟩ := sl
      dsimp only at hm hdel hdic hs
      subst hm hdel hdic hs
      exact ⟨nm, qn, ns, bs, bm, sn, sub, ab, col, dd, k0, k1, k2, k3, k5, ho, hb⟩
    · cases h1
  · cases h1
/-- its __init__ is an own def -/
def xiB (x : Str) (K : PySem.W.Frag) : Bool := decide (PySem.W.findIn K (.ref (He.ga K x)) "__init__" = some (some (.ref (He.ma K (He.ga K x) "__init__")))) && decide (PySem.W.typeIn K (.ref (He.ma K (He.ga K x) "__init__")) = some (.type "function"))
theorem xiB_ok {x : Str} {K : PySem.W.Frag} (h : xiB x K = true) : PySem.W.findIn K (.ref (He.ga K x)) "__init__" = some (some (.ref (He.ma K (He.ga K x) "__init__"))) ∧ PySem.W.typeIn K (.ref (He.ma K (He.ga K x) "__init__")) = some (.type "function") :=
  ⟨of_decide_eq_true (Bool.and_eq_true_iff.mp h).1, of_decide_eq_true (Bool.and_eq_true_iff.mp h).2⟩
/-- an own class's __init__ is the built-in ini -/
def xcB (ini : String) (x : Str) (K : PySem.W.Frag) : Bool := PySem.W.readsIn K (He.ga K x) (.type "type") && (decide (PySem.W.specialIn K (.ref (He.ga K x)) "__getattribute__" = some (some (.builtin "type.__getattribute__"))) && (match PySem.W.findCls K (.ref (He.ga K x)) (.type "type") "__init__" with
  | some (.val (.builtin n)) => n == ini
  | _ => false))
theorem xcB_ok {ini : String} {x : Str} {K : PySem.W.Frag} (h : xcB ini x K = true) : PySem.W.readsIn K (He.ga K x) (.type "type") = true ∧ PySem.W.specialIn K (.ref (He.ga K x)) "__getattribute__" = some (some (.builtin "type.__getattribute__")) ∧ PySem.W.findCls K (.ref (He.ga K x)) (.type "type") "__init__" = some (.val (.builtin ini)) := by
  obtain ⟨h1, h⟩ := Bool.and_eq_true_iff.mp h
  obtain ⟨h2, h3⟩ := Bool.and_eq_true_iff.mp h
  refine ⟨h1, of_decide_eq_true h2, ?_⟩
  split at h3
  · rename_i n e
    rw [e, beq_iff_eq.mp h3]
  · cases h3
/-- a built-in class's __init__ -/
def xbB (B ini : String) (K : PySem.W.Frag) : Bool := match PySem.W.findCls K (.type B) (.type "type") "__init__" with
  | some (.val (.builtin n)) => n == ini
  | _ => false
theorem xbB_ok {B ini : String} {K : PySem.W.Frag} (h : xbB B ini K = true) : PySem.W.findCls K (.type B) (.type "type") "__init__" = some (.val (.builtin ini)) := by
  unfold xbB at h
  split at h
  · rename_i n e
    rw [e, beq_iff_eq.mp h]
  · cases h
/-- an exception class without own __init__ -/
def xoB (nw : String) (tl : List Value) (x : Str) (K : PySem.W.Frag) : Bool := PySem.W.excIn K (He.ga K x) tl nw && (PySem.W.keepIn K (.ref (He.ga K x)) && (decide (PySem.W.subIn K (.ref (He.ga K x)) (.type "BaseException") = some true) && decide (PySem.W.typeIn K (.ref (He.ga K x)) = some (.type "type"))))
theorem xoB_ok {nw : String} {tl : List Value} {x : Str} {K : PySem.W.Frag} (h : xoB nw tl x K = true) : PySem.W.excIn K (He.ga K x) tl nw = true ∧ PySem.W.keepIn K (.ref (He.ga K x)) = true ∧ PySem.W.subIn K (.ref (He.ga K x)) (.type "BaseException") = some true ∧ PySem.W.typeIn K (.ref (He.ga K x)) = some (.type "type") := by
  obtain ⟨h1, h⟩ := Bool.and_eq_true_iff.mp h
  obtain ⟨h2, h⟩ := Bool.and_eq_true_iff.mp h
  obtain ⟨h3, h4⟩ := Bool.and_eq_true_iff.mp h
  exact ⟨h1, h2, of_decide_eq_true h3, of_decide_eq_true h4⟩
/-- classes against classes -/
def xsB (sub : XS) (cs : List Str) (K : PySem.W.Frag) : Bool := cs.all fun c => cs.all fun d => decide (PySem.W.exmOne K (.ref (He.ga K c)) (.ref (He.ga K d)) = sub c d)
def xfsB (cf : CF) (K : PySem.W.Frag) : Bool := cf.all fun p => ecB p.1 K && noatB p.1 p.2 K
/-! #### bases -/
abbrev tlV : List Value := [.type "ValueError", .type "Exception", .type "BaseException", .type "object"]
abbrev tlL : List Value := [.type "LookupError", .type "Exception", .type "BaseException", .type "object"]
abbrev tlK : List Value := [.type "KeyError", .type "LookupError", .type "Exception", .type "BaseException", .type "object"]
abbrev tlI : List Value := [.type "IndexError", .type "LookupError", .type "Exception", .type "BaseException", .type "object"]
abbrev tlO : List Value := [.type "OverflowError", .type "ArithmeticError", .type "Exception", .type "BaseException", .type "object"]
abbrev tlR : List Value := [.type "RuntimeError", .type "Exception", .type "BaseException", .type "object"]
theorem xb_ValueError : XB "ValueError" "ValueError.__init__" "ValueError" "ValueError.__new__" "ValueError.__init__" tlV tlV := ⟨F.excBase_ValueError, .of F.excCall_ValueError, F.store_ValueError.passes, by decide +kernel, by decide +kernel, by decide +kernel, by decide +kernel, by decide +kernel⟩
theorem xb_LookupError : XB "LookupError" "LookupError.__init__" "LookupError" "LookupError.__new__" "LookupError.__init__" tlL tlL := ⟨F.excBase_LookupError, .of F.excCall_LookupError, F.store_LookupError.passes, by decide +kernel, by decide +kernel, by decide +kernel, by decide +kernel, by decide +kernel⟩
theorem xb_IndexError : XB "IndexError" "IndexError.__init__" "IndexError" "IndexError.__new__" "IndexError.__init__" tlI tlI := ⟨F.excBase_IndexError, .of F.excCall_IndexError, F.store_IndexError.passes, by decide +kernel, by decide +kernel, by decide +kernel, by decide +kernel, by decide +kernel⟩
theorem xb_RuntimeError : XB "RuntimeError" "RuntimeError.__init__" "RuntimeError" "RuntimeError.__new__" "RuntimeError.__init__" tlR tlR := ⟨F.excBase_RuntimeError, .of F.excCall_RuntimeError, F.store_RuntimeError.passes, by decide +kernel, by decide +kernel, by decide +kernel, by decide +kernel, by decide +kernel⟩
theorem xb_KeyError : XB "KeyError" "KeyError.__init__" "LookupError" "LookupError.__new__" "LookupError.__init__" tlK tlL := ⟨F.excBase_LookupError, ini_KeyError, fun self => by kernel_rfl, by decide +kernel, by decide +kernel, by decide +kernel, by decide +kernel, by decide +kernel⟩
end Mi

set_option maxHeartbeats 400000
/-! ### lambdas handed to a def -/
namespace Mi
open PySem PySem.Spec PyProof.Rows L2
variable [TheW]
/-- x(), x the lambda l that means act -/
noncomputable def eAct (i : Nat) (l : MV) (act : MH → Res MV) : ME := fun σ h => match σ[i]? with
  | some (some v) => @ite _ (v = l) (Classical.propDecidable _) (act h) .stuck
  | _ => .stuck
def pkM : MS → List MV
  | [] => []
  | some v :: r => v :: pkM r
  | none :: r => pkM r
def pkV : MS → L2.St → List V
  | some _ :: r, some v :: s => v :: pkV r s
  | none :: r, _ :: s => pkV r s
  | some _ :: r, none :: s => pkV r s
  | _, _ => []
section
variable {K : PySem.W.Frag} {mg : Str → Option Value} {m m1 : List Addr} {H H1 : Hp}
theorem srel_tail {a : Option MV} {b : Option V} {σm : MS} {σ : L2.St} (S : SRel K mg m H (a :: σm) (b :: σ)) : SRel K mg m H σm σ :=
  ⟨by simpa using S.len, fun i v e => S.at_ (i + 1) v (by simpa using e)⟩
theorem pk_dv : ∀ {σm : MS} {σ : L2.St}, SRel K mg m H σm σ → DvAll K mg m H (pkM σm) (pkV σm σ)
  | [], [], _ => .nil
  | [], _ :: _, _ => .nil
  | some v :: r, [], S => by cases S.len
  | none :: r, [], S => by cases S.len
  | some v :: r, some w :: s, S => by
    obtain ⟨w', e1, e2⟩ := S.at_ 0 v rfl
    cases e1
    exact .cons e2 (pk_dv (srel_tail S))
  | some v :: r, none :: s, S => by
    obtain ⟨w', e1, e2⟩ := S.at_ 0 v rfl
    cases e1
  | none :: r, w :: s, S => pk_dv (σm := r) (σ := s) (srel_tail S)
theorem pk_srel : ∀ {σm : MS} {σ : L2.St}, SRel K mg m H σm σ → DvAll K mg m1 H1 (pkM σm) (pkV σm σ) → SRel K mg m1 H1 σm σ
  | [], [], _, _ => ⟨rfl, fun i v e => by simp at e⟩
  | [], _ :: _, S, _ => by cases S.len
  | some v :: r, [], S, _ => by cases S.len
  | none :: r, [], S, _ => by cases S.len
  | some v :: r, none :: s, S, _ => by
    obtain ⟨w', e1, e2⟩ := S.at_ 0 v rfl
    cases e1
  | some v :: r, some w :: s, S, d => by
    cases d with
    | cons d1 d2 =>
      have ih := pk_srel (srel_tail S) d2
      refine ⟨by simp [ih.len], fun i u e => ?_⟩
      cases i with
      | zero => cases e; exact ⟨w, rfl, d1⟩
      | succ i => exact ih.at_ i u (by simpa using e)
  | none :: r, w :: s, S, d => by
    have ih := pk_srel (σm := r) (σ := s) (srel_tail S) d
    refine ⟨by simp [ih.len], fun i u e => ?_⟩
    cases i with
    | zero => cases e
    | succ i => exact ih.at_ i u (by simpa using e)
end
/-! #### the making -/
section
variable {X : Cx} {pins : List (Addr × Obj)} {σ : L2.St} {H : Hp} {s : Shared}
theorem lam_mk {c P : Addr} {params : Arguments} {body : Expr} {scope : Scope} {pos : Pos} {E : Value → Shared → Prop} {Q : Value → Shared → Prop} {ps : Array Value} (I : L2.Inv X pins σ H s) (TB : LamX.TabB X.base X.mg c P) (hcode : X.env.code = .ref c) (hP : H P = some (.tbl ps)) (ht : TriplesOk ps.toList)
    (ha : ∀ (pos : Pos) (cv : Value), codeAmong pos ps.toList = some cv → ∃ c, cv = .ref c ∧ H c = some (LamX.CodeO c (X.env.qual ++ "<lambda>"))) (hdef : defaultsOf params X.env = ([], [])) (hfree : ∀ y ∈ scope.names, y.2 = .free → ∃ c, X.env.cells.lookup y.1 = some c)
    (h : ∀ (f c' : Addr) (pm ctv : Value) (H1 : Hp) (s' : Shared), L2.Inv X pins σ H1 s' → ((H1 = H ∧ ∃ pos, codeAmong pos ps.toList = some (.ref c')) ∨ ∃ ps' : Array Value, H c' = none ∧ H1 = upd (upd H P (.tbl ps')) c' (LamX.CodeO c' (X.env.qual ++ "<lambda>")) ∧ TriplesOk ps'.toList ∧ ∀ (pos : Pos) (cv : Value), codeAmong pos ps'.toList = some cv → codeAmong pos ps.toList = some cv ∨ cv = .ref c') →
      s'.heap.get? f = some (PySem.W.kla_obj "<lambda>" (X.env.qual ++ "<lambda>") params body scope (cloFrom X.env.cells scope.names []) pm c' ctv) → H1 f = none → f ∉ frs X.stack → Q (.ref f) s') :
    wpAny (model X.prog X.w) X.A (eval (.Lambda params body scope pos) X.env) Q E s := by
  refine PySem.W.kla_eval hdef ?_
  have bP : s.heap.BuiltinsAt X.mg P := TB.bm.keeps I.bk
  have gP : s.heap.get? P = some { cls := .none, data := .fields ps } := I.hok P _ hP
  have out : ∀ f, s.heap.objs.size ≤ f → f ∉ frs X.stack := fun f hf z => by
    rcases List.mem_cons.mp (I.stkSub _ z) with e | e
    · have h1 := I.lt
      rw [← e] at h1
      exact absurd hf (Nat.not_le_of_lt h1)
    · exact I.nofs hf e
  cases hc : codeAmong pos ps.toList with
  | none =>
    refine PySem.W.kla_makeFunction (mg := X.mg) (c := c) (P := P) (ps := ps) (closure_ok hfree) I.ok.glob (I.mod.glob.keeps I.bk) hcode (TB.code.keeps I.bk) gP ht hc TB.gP bP fun c' ctv h' tk hx hge hlt hrec htb => ?_
    obtain ⟨c2, oc, vs, t, e2, hoc, hd, hv⟩ := hrec
    cases e2
    have hsz : s.heap.objs.size ≤ h'.objs.size := Nat.le_trans hge (Nat.le_of_lt hlt)
    have nC : H c' = none := I.hok.fresh hge
    have I1 := LamX.inv_table (t' := tk) (more := #[rawInt pos.line, rawInt pos.col, .ref c']) (h' := h'.push (PySem.W.kla_obj "<lambda>" (X.env.qual ++ "<lambda>") params body scope (cloFrom X.env.cells scope.names []) ((X.mg "__name__").getD .none) c' ctv)) I hP
      (fun b o hb e => Heap.get?_push_of_some _ (hx b o hb e)) (Heap.get?_push_of_some _ htb) hge ⟨oc, vs, t, Heap.get?_push_of_some _ hoc, hd, hv⟩
    have eL : (ps ++ #[rawInt pos.line, rawInt pos.col, .ref c']).toList = ps.toList ++ [rawInt pos.line, rawInt pos.col, .ref c'] := by simp
    refine h h'.objs.size c' ((X.mg "__name__").getD .none) ctv _ _ I1 (.inr ⟨_, nC, rfl, by rw [eL]; exact PySem.TriplesOk_snoc _ _ _ _ ht, fun p' cv hcv => ?_⟩) (Heap.get?_push_size _ rfl) ?_ (out _ hsz)
    · rw [eL] at hcv
      exact LamX.among_app _ ht hcv
    · have n1 : h'.objs.size ≠ c' := Nat.ne_of_gt hlt
      have n2 : h'.objs.size ≠ P := Nat.ne_of_gt (Nat.lt_of_lt_of_le (Heap.lt_size gP) hsz)
      rw [upd_ne n1, upd_ne n2]
      exact I.hok.fresh hsz
  | some cv =>
    obtain ⟨c', e, hco⟩ := ha pos cv hc
    subst e
    refine PySem.W.kla_makeFunctionHit (mg := X.mg) (c := c) (P := P) (ps := ps) (closure_ok hfree) I.ok.glob (I.mod.glob.keeps I.bk) hcode (TB.code.keeps I.bk) gP ht hc bP fun ctv h' tk hx hsz => ?_
    have I1 : L2.Inv X pins σ H { s with heap := h'.push (PySem.W.kla_obj "<lambda>" (X.env.qual ++ "<lambda>") params body scope (cloFrom X.env.cells scope.names []) ((X.mg "__name__").getD .none) c' ctv), toks := tk } := I.kept fun b o e => Heap.get?_push_of_some _ (hx b o e)
    exact h h'.objs.size c' ((X.mg "__name__").getD .none) ctv H _ I1 (.inl ⟨rfl, pos, hc⟩) (Heap.get?_push_size _ rfl) (I.hok.fresh hsz) (out _ hsz)
end
/-- the state behind it -/
theorem lam_rep {K : PySem.W.Frag} {mg : Str → Option Value} {m : List Addr} {H H1 : Hp} {h : MH} {x q : Str} {P c' : Addr} {ps : Array Value} (R : Rep K mg m H h) (hx : (x, q) ∈ lamDefs) (tP : TabOf K mg x P) (uq : ∀ x' q', (x', q') ∈ lamDefs → TabOf K mg x' P → q' = q) (hP : H P = some (.tbl ps))
    (e : (H1 = H ∧ ∃ pos, codeAmong pos ps.toList = some (.ref c')) ∨ ∃ ps' : Array Value, H c' = none ∧ H1 = upd (upd H P (.tbl ps')) c' (LamX.CodeO c' q) ∧ TriplesOk ps'.toList ∧ ∀ (pos : Pos) (cv : Value), codeAmong pos ps'.toList = some cv → codeAmong pos ps.toList = some cv ∨ cv = .ref c') :
    Ext m H m H1 ∧ Rep K mg m H1 h ∧ H1 c' = some (LamX.CodeO c' q) ∧ c' ∉ m := by
  obtain ⟨nP, ps0, hP0, ht, ha⟩ := R.tab x q P hx tP
  rw [hP] at hP0
  cases hP0
  rcases e with ⟨rfl, pos, hc⟩ | ⟨ps', nc, rfl, ht', ha'⟩
  · obtain ⟨c, e1, e2, e3⟩ := ha pos _ hc
    cases e1
    exact ⟨Ext.refl, R, e2, e3⟩
  · have hPc : P ≠ c' := ne_of_none hP nc
    have at_ : ∀ b o, H b = some o → (∀ ps, o ≠ .tbl ps) → upd (upd H P (.tbl ps')) c' (LamX.CodeO c' q) b = some o := fun b o hb t => by
      rw [upd_ne (ne_of_none hb nc), upd_ne (fun z => by rw [z, hP] at hb; cases hb; exact t _ rfl)]
      exact hb
    have ex : Ext m H m (upd (upd H P (.tbl ps')) c' (LamX.CodeO c' q)) := by
      refine ⟨⟨[], by simp⟩, fun a o ha t _ => at_ a o ha t, fun a o ha _ => ?_, fun a h1 h2 => absurd h1 h2, fun a o u ha => at_ a _ ha (fun _ z => by cases z)⟩
      by_cases hb : a = P
      · subst hb
        exact ⟨_, by rw [upd_ne hPc, upd_same]⟩
      · exact ⟨o, by rw [upd_ne (ne_of_none ha nc), upd_ne hb]; exact ha⟩
    refine ⟨ex, ⟨R.len, R.nd, fun x' q' P' h1 h2 => ?_, fun i u b hu hb => ?_⟩, upd_same, R.out nc⟩
    · obtain ⟨n2, ps2, hP2, t2, a2⟩ := R.tab x' q' P' h1 h2
      by_cases hb : P' = P
      · subst hb
        cases uq x' q' h1 h2
        refine ⟨nP, ps', by rw [upd_ne hPc, upd_same], ht', fun pos cv hc => ?_⟩
        rcases ha' pos cv hc with z | z
        · obtain ⟨c, e1, e2, e3⟩ := ha pos cv z
          exact ⟨c, e1, at_ c _ e2 (fun _ z => by cases z), e3⟩
        · exact ⟨c', z, upd_same, R.out nc⟩
      · refine ⟨n2, ps2, by rw [upd_ne (ne_of_none hP2 nc), upd_ne hb]; exact hP2, t2, fun pos cv hc => ?_⟩
        obtain ⟨c, e1, e2, e3⟩ := a2 pos cv hc
        exact ⟨c, e1, at_ c _ e2 (fun _ z => by cases z), e3⟩
    · obtain ⟨o, ho⟩ := R.tracked (List.mem_of_getElem? hb)
      refine (R.ob i u b hu hb).mono ex.gro ?_
      rw [upd_ne (ne_of_none ho nc), upd_ne (fun z => nP (by rw [← z]; exact List.mem_of_getElem? hb))]
/-! #### the def that calls it -/
section
variable (P : Program) (w : World) (K : PySem.W.Frag) (mg : Str → Option Value) (base : Heap)
/-- the def g, its first argument a lambda, means code -/
structure FnL (k : Nat) (g : Addr) (fd : FuncData) (ps : List Str) (a : Str) (code : (MH → Res MV) → MF) : Prop where
  run : ∀ (A : Around) (outer : List Env) (s : Shared) (H : Hp) (args : Args) (us : List Value) (vs : List V) (Q : VK) (E : XK) (m : List Addr) (h : MH) (l : MV) (xs : List MV) (act : MH → Res MV), Room (k + 1) A → A.guards = some [] → Env0 P w K mg base A outer s H → BindsTo s fd args (ps.zip us) → Vals vs us → vs.length = ps.length →
    Rep K mg m H h → DvAll K mg m H (l :: xs) vs →
    (∀ (N : List Str) (qual : Str) (scope : Scope) (cdv : Value), N[0]? = some a → Vis scope a → Room k (A.deeper (envOfC qual scope s.heap.objs.size g cdv)) → ∀ (pn : List (Addr × Obj)) (xe : Value → Shared → Prop) (W : WX) (p1 p2 : Pos), Takes ((cxOf (L2.CX P w) P w K mg base N qual scope g cdv A outer s H E).tr pn xe) W →
      SE K mg W ((cxOf (L2.CX P w) P w K mg base N qual scope g cdv A outer s H E).tr pn xe) (.Call (.Name a p1) [] [] p2) (eAct 0 l act)) →
    rg K mg (DV K mg) (fun cls d _ H => E cls d H) [] m H (code act (l :: xs) h) Q → codeAny (model P w) A (.call (.ref g) args) (CR (L2.CX P w) outer P w H s Q E) s
end
section
variable {P : Program} {w : World} {K : PySem.W.Frag} {mg : Str → Option Value} {base : Heap}
theorem fnL_of {x qual : Str} {params : Arguments} {body : List Stmt} {scope : Scope} {dvs : List V} {kws : List (Str × V)} {f : Addr} {fd : FuncData} {N ps : List Str} {k : Nat} {a : Str} {B : (MH → Res MV) → MV → MSt} (F : FunD K x qual params body scope dvs kws f fd) (S : FnScope N ps scope) (hN : N[0]? = some a) (hv : Vis scope a)
    (hbody : ∀ (cdv : Value) (A : Around) (outer : List Env) (s : Shared) (H : Hp) (E : XK) (l : MV) (act : MH → Res MV), Room k (A.deeper (envOfC qual scope s.heap.objs.size f cdv)) → (A.deeper (envOfC qual scope s.heap.objs.size f cdv)).guards = some [] →
      (∀ (pn : List (Addr × Obj)) (xe : Value → Shared → Prop) (W : WX) (p1 p2 : Pos), Takes ((cxOf (L2.CX P w) P w K mg base N qual scope f cdv A outer s H E).tr pn xe) W → SE K mg W ((cxOf (L2.CX P w) P w K mg base N qual scope f cdv A outer s H E).tr pn xe) (.Call (.Name a p1) [] [] p2) (eAct 0 l act)) →
      SSs K mg (fun cls d _ H => E cls d H) (cxOf (L2.CX P w) P w K mg base N qual scope f cdv A outer s H E) body (B act l)) : FnL P w K mg base k f fd ps a (fun act xs => fnCode N.length (B act (xs.headD .non)) xs) := by
  obtain ⟨oc, od, dV, kV, doc, pm, an, cdv, ct, osl, rfl, lk, hcd, _, _⟩ := F.ex
  refine ⟨fun A outer s H args us vs Q E m h l xs act hr hg e0 hb r hl R d ha q => ?_⟩
  refine LamX.run_ofS lk hcd S hr e0 hb r hl fun hr' => ⟨_, hbody cdv A outer s H E l act hr' hg (ha N qual scope cdv hN hv hr'), m, _, h, R, srel_start (N := N) d, ?_⟩
  have q : rg K mg (DV K mg) (fun cls d _ H => E cls d H) [] m H (fnCode N.length (B act l) (l :: xs) h) Q := q
  unfold fnCode at q
  split at q
  · rename_i v h' eb; rw [eb]; exact q
  · rename_i σ' h' eb; rw [eb]; exact fun s' m' H' e' R' _ => q .non m' H' e' R' (.v .non)
  · rename_i y σ' h' eb; rw [eb]; exact fun cls d _ m' H' e' R' _ x => q cls d m' H' e' R' x
  · exact q.elim
end
theorem FnL.mono {P : Program} {w : World} {K : PySem.W.Frag} {mg : Str → Option Value} {base : Heap} {k k' : Nat} {g : Addr} {fd : FuncData} {ps : List Str} {a : Str} {code : (MH → Res MV) → MF} (F : FnL P w K mg base k g fd ps a code) (h : k ≤ k') : FnL P w K mg base k' g fd ps a code :=
  ⟨fun A outer s H args us vs Q E m hh l xs act hr hg e0 hb r hl R d ha q => F.run A outer s H args us vs Q E m hh l xs act (hr.mono (Nat.succ_le_succ h)) hg e0 hb r hl R d (fun N qual sc cdv h1 h2 _ => ha N qual sc cdv h1 h2 (hr.deeper _)) q⟩
@[simp] theorem eAct_hd {l : MV} {act : MH → Res MV} {σ : MS} {h : MH} : eAct 0 l act (some l :: σ) h = act h := by
  unfold eAct
  simp
/-- no lambda -/
abbrev lam0 : MV := .lam 0 0 ⟨#[]⟩ [] []
/-- g(lambda: ..) -/
def eLam (code : (MH → Res MV) → MF) (A : ME) : ME := fun σ h => code (fun h' => A σ h') [lam0] h
section
variable {K : PySem.W.Frag} {mg : Str → Option Value} {X : Cx} {W : WX} {σ : L2.St} {A : ME} {k j : Nat}
/-- the lambda's call, in the def that got it -/
theorem act_ok {pins : List (Addr × Obj)} {H : Hp} {s : Shared} {m : List Addr} {σm : MS} {E : XK} {Ng : List Str} {qg : Str} {sg : Scope} {g f c' : Addr} {cdg pm ctv : Value} {params : Arguments} {body : Expr} {scope : Scope} {a : Str} {pn : List (Addr × Obj)} {xe : Value → Shared → Prop} {p1 p2 : Pos} {WZ : WX}
    (I : L2.Inv X pins σ H s) (S : SRel X.K X.mg m H σm σ) (L : LamX.LamS X.env.scope scope) (hf : s.heap.get? f = some (PySem.W.kla_obj "<lambda>" (X.env.qual ++ "<lambda>") params body scope (cloFrom X.env.cells scope.names []) pm c' ctv)) (hfn : H f = none) (hfr : f ∉ frs X.stack)
    (hbind : bindArgs (PySem.W.kla_fn "<lambda>" (X.env.qual ++ "<lambda>") params body scope (cloFrom X.env.cells scope.names []) pm (.ref c') ctv) ⟨[], []⟩ = pure [])
    (tk : Takes ((cxOf (L2.CX X.prog X.w) X.prog X.w X.K X.mg X.base Ng qg sg g cdg X.A X.stack s H E).tr pn xe) WZ) (hr : Room (j + 1) (X.A.deeper (envOfC qg sg s.heap.objs.size g cdg))) (hgd : X.A.guards = some [])
    (hbody : ∀ (A' : Around) (outer : List Env) (s : Shared) (H : Hp) (E : XK) (f c' : Addr), Room j (A'.deeper (LamX.lamEnv X scope s.heap.objs.size f c')) → (A'.deeper (LamX.lamEnv X scope s.heap.objs.size f c')).guards = some [] → Takes (LamX.lamCx X A' outer s H E scope f c') (fun cls d _ H => E cls d H) → SE X.K X.mg (fun cls d _ H => E cls d H) (LamX.lamCx X A' outer s H E scope f c') body A)
    (hN : Ng[0]? = some a) (hv : Vis sg a) (hd : (a == ("__debug__" : Str)) = false := by decide) (hcd : (a == ("__classdict__" : Str)) = false := by decide) :
    SE X.K X.mg WZ ((cxOf (L2.CX X.prog X.w) X.prog X.w X.K X.mg X.base Ng qg sg g cdg X.A X.stack s H E).tr pn xe) (.Call (.Name a p1) [] [] p2) (eAct 0 (.lam f c' (X.env.qual ++ "<lambda>") (pkM σm) (pkV σm σ)) fun h' => A σm h') := by
  refine ⟨fun pinsZ sZ σZ HZ Q IZ t => ?_⟩
  obtain ⟨mZ, σZm, hZ, RZ, SZ, q⟩ := t
  unfold eAct at q
  cases ev : σZm[0]? with
  | none => rw [ev] at q; exact q.elim
  | some o =>
    cases o with
    | none => rw [ev] at q; exact q.elim
    | some v =>
      rw [ev] at q
      dsimp only at q
      by_cases hl : v = .lam f c' (X.env.qual ++ "<lambda>") (pkM σm) (pkV σm σ)
      · subst hl
        rw [if_pos rfl] at q
        obtain ⟨v', e1, d1⟩ := SZ.at_ 0 _ ev
        cases d1 with
        | lam hc nc dc =>
          refine wpAny_Call_Name_kw (thn ((pe_var (pos := p1) (i := 0) hN hv hd hcd).run pinsZ sZ σZ HZ (fun v H1 => v = .ref f ∧ H1 = HZ) IZ ⟨.ref f, e1, rfl, rfl⟩) fun u s1 ⟨v, H1, I1, r1, ev, eH⟩ => ?_)
          subst ev
          rw [eH] at I1
          obtain rfl : u = Value.ref f := r1
          have of1 := I1.base.keep f _ hf hfn hfr (fun z => nomatch (show f ∈ ([] : List Addr) from z))
          refine PySem.W.callWith_F0 ⟨_, _, _, _, of1⟩ ?_
          have un : Un (frs X.stack) [] H HZ s.heap s1.heap := I1.base
          obtain ⟨⟨oc, vs, t, hoc, hdc, hvc⟩, _, _⟩ := I1.hok c' _ hc
          have S2 := pk_srel S dc
          have rc : codeAny (model X.prog X.w) (X.A.deeper (envOfC qg sg s.heap.objs.size g cdg)) (.call (.ref f) ⟨[], []⟩) (CR (L2.CX X.prog X.w) (envOfC qg sg s.heap.objs.size g cdg :: X.stack) X.prog X.w HZ s1 Q (fun cls d H' => WZ cls d σZ H')) s1 := by
            refine PySem.W.kla_callFunE hr.depth of1 rfl L.co L.gen rfl ⟨c', oc, vs, t, rfl, hoc, hdc, hvc⟩ ?_
            rw [hbind]
            refine wpAny_pure (wpAny_newFunctionEnv (fun y hy => (L.own y hy).2) (fun y hy => absurd hy (by simp)) (fun h₁ hns hsb => ⟨I1.nolimit.fresh _ hsb, ?_⟩) L.kind)
            show codeAny _ _ (.expr body (LamX.lamEnv X scope s1.heap.objs.size f c')) _ _
            have kp : ∀ b o, s1.heap.get? b = some o → h₁.get? b = some o := fun b o e => hsb.extBut b o (Nat.ne_of_lt (Heap.lt_size e)) (Heap.get?_push_of_some _ e)
            have J := LamX.lam_start2 (E := fun cls d H' => WZ cls d σZ H') (f := f) (c' := c') (tk := s1.toks + ([] : List (Str × Value)).length) I L I1.env0 hr.hd un hns kp
            refine PySem.W.kla_codeExpr (wpAny_mono ((hbody _ _ s1 HZ (fun cls d H' => WZ cls d σZ H') f c' (hr.deeper _) hgd (takes_of rfl rfl rfl rfl)).run [] _ _ HZ Q J ⟨mZ, σm, hZ, RZ, S2, ?_⟩) (fun v s' hq => ?_) fun e s' hq => hq)
            · cases ea : A σm hZ with
              | ok v h' => rw [ea] at q; exact q
              | exc y h' => rw [ea] at q; exact q
              | stuck => rw [ea] at q; exact q
            · obtain ⟨w', H', J', rv, q⟩ := hq
              exact ⟨w', H', J'.os, J'.bare, J'.base, J'.hok, rv, q⟩
          refine wpAny_call (codeAny_mono rc fun r s' hq => ?_)
          cases r with
          | error e => exact tk e s' (XE.of_call I1 (fun cls d H' h => h) hq)
          | ok fl =>
            cases fl with
            | ret u => exact I1.after hq
            | next => exact False.elim hq
            | brk => exact False.elim hq
            | cont => exact False.elim hq
      · rw [if_neg hl] at q
        exact q.elim
theorem se_lam {x dn a : Str} {g c P : Addr} {fd : FuncData} {code : (MH → Res MV) → MF} {params : Arguments} {body : Expr} {scope : Scope} {p lpos pos : Pos} (G : FnL X.prog X.w K mg X.base (j + 1) g fd [a] a code) (ind : ∀ l act h, code act [l] h = code act [lam0] h) (hr : Room (j + 2) X.A) (hgd : X.A.guards = some []) (hb : BnM K mg fd [a] 1 [] (fun xs ys => gI [.p 0] xs [] [] ys)) (tk : Takes X W)
    (hm : mg x = some (.ref g)) (hk : PySem.W.keepIn K (.ref g) = true) (hg : Gl X x) (hx : (dn, X.env.qual ++ "<lambda>") ∈ lamDefs) (tP : TabOf K mg dn P) (uq : ∀ x' q', (x', q') ∈ lamDefs → TabOf K mg x' P → q' = X.env.qual ++ "<lambda>") (TB : LamX.TabB X.base mg c P) (hcode : X.env.code = .ref c) (L : LamX.LamS X.env.scope scope) (hdef : defaultsOf params X.env = ([], []))
    (hbind : ∀ (q : Str) (cl : List (Str × Addr)) (pm cv ctv : Value), bindArgs (PySem.W.kla_fn "<lambda>" q params body scope cl pm cv ctv) ⟨[], []⟩ = pure [])
    (hbody : ∀ (A' : Around) (outer : List Env) (s : Shared) (H : Hp) (E : XK) (f c' : Addr), Room j (A'.deeper (LamX.lamEnv X scope s.heap.objs.size f c')) → (A'.deeper (LamX.lamEnv X scope s.heap.objs.size f c')).guards = some [] → Takes (LamX.lamCx X A' outer s H E scope f c') (fun cls d _ H => E cls d H) → SE K mg (fun cls d _ H => E cls d H) (LamX.lamCx X A' outer s H E scope f c') body A)
    (hK : X.K = K := by rfl) (hM : X.mg = mg := by rfl) (hdb : (x == ("__debug__" : Str)) = false := by decide) (hd : (a == ("__debug__" : Str)) = false := by decide) (hcd : (a == ("__classdict__" : Str)) = false := by decide) :
    SE K mg W X (.Call (.Name x p) [.Lambda params body scope lpos] [] pos) (eLam code A) := by
  subst hK hM
  refine ⟨fun pins s σ H Q I ⟨m, σm, h, R, S, q⟩ => ?_⟩
  refine wpAny_Call_Name_kw (ld_glob I hg hm ?_ hdb)
  refine PySem.W.callWith_K (h₀ := X.base) I.ok.mod.kin hk ?_ (by rfl) (by rfl)
  show wpAny _ _ (spliced ((false, eval (.Lambda params body scope lpos) X.env) :: backTo pos (starEach [] X.env))) _ _ s
  obtain ⟨nP, ps, hP, ht, ha⟩ := R.tab dn _ P hx tP
  refine Calls.spliced_cons (lam_mk I TB hcode hP ht (fun pos cv z => let ⟨c, e1, e2, _⟩ := ha pos cv z; ⟨c, e1, e2⟩) hdef (L.has I.ok) fun f c' pm' ctv H1 s' I1 how hf hfn hfr => ?_)
  obtain ⟨e1, R1, hc', nc'⟩ := lam_rep R hx tP uq hP how
  refine Calls.spliced_nil ⟨I1.kIn, ?_⟩
  have S1 := S.mono e1.gro
  obtain ⟨zs, b, lz, bv⟩ := hb.to s' [.ref f] [] I1.kIn rfl rfl
  obtain ⟨vc, d3, r3⟩ := bv m H1 [.lam f c' (X.env.qual ++ "<lambda>") (pkM σm) (pkV σm σ)] [] [.ref f] [] (.cons (.lam hc' nc' (pk_dv S1)) .nil) (.cons rfl .nil) .nil .nil
  refine wpAny_call (codeAny_mono (G.run X.A X.stack s' H1 ⟨[.ref f], []⟩ zs vc Q (fun cls d H2 => W cls d σ H2) m h _ [] (fun h' => A σm h') hr hgd I1.env0 b r3 (by rw [r3.length]; exact lz) R1 d3 (fun N qual sc cdv hN hv hr' pn xe W' p1 p2 tk' => ?_) ?_) fun r s2 hq => ?_)
  · exact act_ok I1 S1 L hf hfn hfr (hbind _ _ _ _ _) tk' hr' hgd hbody hN hv hd hcd
  · rw [ind]
    have q2 := rg.ext dmV e1 R1 q
    have q2 : rg X.K X.mg (DV X.K X.mg) W σ m H1 (code (fun h' => A σm h') [lam0] h) Q := q2
    cases ec : code (fun h' => A σm h') [lam0] h with
    | ok v h' => rw [ec] at q2; exact q2
    | exc y h' => rw [ec] at q2; exact q2
    | stuck => rw [ec] at q2; exact q2
  · cases r with
    | error e => exact tk e s2 (XE.of_call I1 (fun cls d H' h => h) hq)
    | ok fl =>
      cases fl with
      | ret u => exact I1.after hq
      | next => exact False.elim hq
      | brk => exact False.elim hq
      | cont => exact False.elim hq
end
end Mi

set_option maxHeartbeats 400000
/-! ### facts of the head; the tables of code objects -/
namespace Mi
open PySem PySem.Spec PyProof.Rows L2
variable [TheW]
def allB (bs : List (PySem.W.Frag → Bool)) (K : PySem.W.Frag) : Bool := bs.all fun b => b K
theorem allB.own {bs : List (PySem.W.Frag → Bool)} {K : PySem.W.Frag} (c : allB bs K = true) (i : Nat) {b : PySem.W.Frag → Bool} (h : bs[i]? = some b := by rfl) : b K = true := List.all_eq_true.mp c b (List.mem_of_getElem? h)
def gloB (cs : List Str) (K : PySem.W.Frag) : Bool := cs.all fun c => (He.Fa.glo c).ok K
section
variable {K : PySem.W.Frag} {mg : Str → Option Value} {h : Heap}
theorem gloB_ok {cs : List Str} (KX : K.In h) (G : h.Ns mainGlobals mg) (e : gloB cs K = true) {c : Str} (hc : c ∈ cs) : mg c = some (.ref (He.ga K c)) := He.glo_ok KX G (List.all_eq_true.mp e c hc)
theorem gloB_eq {cs : List Str} (KX : K.In h) (G : h.Ns mainGlobals mg) (e : gloB cs K = true) {c : Str} {C : Addr} (hc : c ∈ cs) (q : mg c = some (.ref C)) : C = He.ga K c := by
  have z := gloB_ok KX G e hc
  rw [q] at z
  cases z
  rfl
theorem xsok_of {sub : XS} {cs : List Str} (hs : ∀ c d b, sub c d = some b → c ∈ cs ∧ d ∈ cs) (KX : K.In h) (G : h.Ns mainGlobals mg) (e1 : gloB cs K = true) (e2 : xsB sub cs K = true) : XSok K mg sub := fun c d b C D q hC hD => by
  obtain ⟨h1, h2⟩ := hs c d b q
  rw [gloB_eq KX G e1 h1 hC, gloB_eq KX G e1 h2 hD]
  have z := of_decide_eq_true (List.all_eq_true.mp (List.all_eq_true.mp e2 c h1) d h2)
  rw [z, q]
theorem cfok_of {cf : CF} (KX : K.In h) (G : h.Ns mainGlobals mg) (e1 : gloB (cf.map (·.1)) K = true) (e2 : xfsB cf K = true) : CFok K mg cf := fun c f C hc hC => by
  have z := gloB_eq KX G e1 (List.mem_map.mpr ⟨_, hc, rfl⟩) hC
  subst z
  obtain ⟨z1, z2⟩ := Bool.and_eq_true_iff.mp (List.all_eq_true.mp e2 _ hc)
  exact ⟨(ecB_ok z1).2, noatB_ok z2⟩
def tgA (K : PySem.W.Frag) : Tg → Value
  | .b n => .type n
  | .o c => .ref (He.ga K c)
  | .x c => .ref (He.ga K c)
def tgN : Tg → List Str
  | .b _ => []
  | .o c => [c]
  | .x c => [c]
def insB (x : Str) (K : PySem.W.Frag) : Bool := (He.Fa.cls x).ok K && (decide (PySem.W.findIn K (.ref (He.ga K x)) "__class__" = some (some (.builtin "object.__class__"))) && (decide (PySem.W.specialIn K (.builtin "object.__class__") "__get__" = some (some (.builtin "getset_descriptor.__get__"))) &&
  (decide (PySem.W.takesIn K (.builtin "object.__class__") = some true) && decide (PySem.W.mroIn K (He.ga K x) (.type "object") = some true))))
theorem insB_ok {x : Str} (h : insB x K = true) : InsF K (He.ga K x) := by
  obtain ⟨h1, h⟩ := Bool.and_eq_true_iff.mp h
  obtain ⟨h2, h⟩ := Bool.and_eq_true_iff.mp h
  obtain ⟨h3, h⟩ := Bool.and_eq_true_iff.mp h
  obtain ⟨h4, h5⟩ := Bool.and_eq_true_iff.mp h
  exact ⟨He.cls_ok h1, of_decide_eq_true h2, of_decide_eq_true h3, of_decide_eq_true h4, of_decide_eq_true h5⟩
def ktW : Tg → PySem.W.Frag → Bool
  | .x c => ecB c
  | .o c => insB c
  | .b _ => fun _ => true
def ktB (kt : KT) (K : PySem.W.Frag) : Bool := kt.all fun e => decide (PySem.W.kitOne K (tgA K e.1) (tgA K e.2.1) = some e.2.2) && (gloB (tgN e.1 ++ tgN e.2.1) K && ktW e.1 K)
theorem tgA_eq {t : Tg} {cs : List Str} {v : Value} (KX : K.In h) (G : h.Ns mainGlobals mg) (e : gloB cs K = true) (hc : ∀ c ∈ tgN t, c ∈ cs) (q : TgV mg t v) : v = tgA K t := by
  cases t with
  | b n => exact q
  | o c =>
    obtain ⟨C, q1, rfl⟩ := q
    rw [gloB_eq KX G e (hc c (by simp [tgN])) q1] <;> rfl
  | x c =>
    obtain ⟨C, q1, rfl⟩ := q
    rw [gloB_eq KX G e (hc c (by simp [tgN])) q1] <;> rfl
theorem ktok_of {kt : KT} (KX : K.In h) (G : h.Ns mainGlobals mg) (e : ktB kt K = true) : KTok K mg kt := by
  have key : ∀ {t c r}, (t, c, r) ∈ kt → PySem.W.kitOne K (tgA K t) (tgA K c) = some r ∧ gloB (tgN t ++ tgN c) K = true ∧ ktW t K = true := fun {t c r} hm => by
    obtain ⟨z1, z⟩ := Bool.and_eq_true_iff.mp (List.all_eq_true.mp e _ hm)
    obtain ⟨z2, z3⟩ := Bool.and_eq_true_iff.mp z
    exact ⟨of_decide_eq_true z1, z2, z3⟩
  refine ⟨fun t c r tv cv hm ht hc => ?_, fun x c r C hm hC => ?_, fun x c r C hm hC => ?_⟩
  · obtain ⟨z1, z2, _⟩ := key hm
    rw [tgA_eq KX G z2 (fun d hd => List.mem_append_left _ hd) ht, tgA_eq KX G z2 (fun d hd => List.mem_append_right _ hd) hc]
    exact z1
  · obtain ⟨_, z2, z3⟩ := key hm
    rw [gloB_eq KX G z2 (by simp [tgN]) hC]
    exact insB_ok z3
  · obtain ⟨_, z2, z3⟩ := key hm
    rw [gloB_eq KX G z2 (by simp [tgN]) hC]
    exact (ecB_ok z3).1
end
/-! #### tables -/
section
variable {K : PySem.W.Frag} {mg : Str → Option Value} {h : Heap}
theorem tabOf_at {c P : Addr} {o : Obj} {us : Array Value} (e1 : K.lookup c = some o) (e2 : o.data = .fields us) (e3 : us[11]? = some (.ref P)) : He.tabOf K c = P := by
  obtain ⟨oc, od, dt, sl⟩ := o
  dsimp only at e2
  subst e2
  unfold He.tabOf
  rw [e1]
  have : us.getD 11 .none = .ref P := by rw [Array.getD_eq_getD_getElem?, e3] <;> rfl
  show (match us.getD 11 .none with | .ref P => P | _ => 0) = P
  rw [this]
theorem tabOf_cT {x : Str} {P : Addr} (gl : mg x = some (.ref (He.ga K x))) (t : TabOf K mg x P) : ∃ c, (c, P) = He.cT K (x, none) := by
  obtain ⟨f, c, oc, od, fd, osl, o, us, h1, h2, h3, h4, h5, h6⟩ := t
  rw [gl] at h1
  cases h1
  have ec : He.codeOf K (x, none) = c := He.codeOf_eq (p := (x, none)) h2 h3
  exact ⟨c, by unfold He.cT; rw [ec, tabOf_at h4 h5 h6]⟩
theorem tabd_of {fa : List He.Fa} {fn : List He.DefD} {ts : List He.Tab} {tf : List He.Defn} {ex : PySem.W.Frag → Bool} {w : World} (KX : K.In h) (S : He.SaysX fa fn ts tf ex w h K) (G : ∀ x q, (x, q) ∈ lamDefs → (x, none) ∈ tf ∧ mg x = some (.ref (He.ga K x))) : Tabd K mg h (tf.map (He.cT K)) := by
  refine ⟨fun p hp => ?_, fun p hp => ?_, fun p hp => ?_, fun x q P hx t => ?_⟩
  · obtain ⟨d, hd, rfl⟩ := List.mem_map.mp hp
    exact S.empty d hd
  · obtain ⟨d, hd, rfl⟩ := List.mem_map.mp hp
    exact S.out d hd
  · obtain ⟨d, hd, rfl⟩ := List.mem_map.mp hp
    exact PySem.W.codeHd_of_K KX (S.hd d hd)
  · obtain ⟨g1, g2⟩ := G x q hx
    obtain ⟨c, e⟩ := tabOf_cT g2 t
    exact ⟨c, by rw [e]; exact List.mem_map.mpr ⟨_, g1, rfl⟩⟩
/-- the table of a def, by the head -/
theorem tabOf_of {x qual : Str} {params : Arguments} {body : List Stmt} {scope : Scope} {dvs : List V} {kws : List (Str × V)} {fd : FuncData} (F : FunD K x qual params body scope dvs kws (He.ga K x) fd) (gl : mg x = some (.ref (He.ga K x))) (hh : PySem.W.codeHdIn K (He.cT K (x, none)).1 (He.cT K (x, none)).2 = true) :
    TabOf K mg x (He.cT K (x, none)).2 ∧ fd.code = .ref (He.cT K (x, none)).1 := by
  obtain ⟨oc, od, dV, kV, doc, pm, an, cdv, ct, osl, rfl, lk, hcd, _, _⟩ := F.ex
  obtain ⟨c, rfl⟩ := He.codeIn_ref hcd
  have ec : He.codeOf K (x, none) = c := He.codeOf_eq (p := (x, none)) lk rfl
  have e1 : (He.cT K (x, none)).1 = c := ec
  refine ⟨?_, by rw [e1]⟩
  unfold PySem.W.codeHdIn at hh
  rw [e1] at hh
  split at hh
  · rename_i od' vs sl' lk'
    simp only [Bool.and_eq_true] at hh
    have z := hh.1.1.1.1.1
    split at z
    · rename_i P' h11
      have hP : P' = (He.cT K (x, none)).2 := beq_iff_eq.mp z
      exact ⟨_, c, oc, od, _, osl, _, vs, gl, lk, rfl, lk', rfl, by rw [h11, hP]⟩
    · cases z
  · cases hh
/-- as fnM_of; the code object is known -/
theorem fnM_ofC {P : Program} {w : World} {base : Heap} {x qual : Str} {params : Arguments} {body : List Stmt} {scope : Scope} {dvs : List V} {kws : List (Str × V)} {f : Addr} {fd : FuncData} {N ps : List Str} {k : Nat} {B : MSt} (F : FunD K x qual params body scope dvs kws f fd) (S : FnScope N ps scope)
    (hbody : ∀ (cdv : Value) (A : Around) (outer : List Env) (s : Shared) (H : Hp) (E : XK), fd.code = cdv → Room k (A.deeper (envOfC qual scope s.heap.objs.size f cdv)) → (A.deeper (envOfC qual scope s.heap.objs.size f cdv)).guards = some [] →
      SSs K mg (fun cls d _ H => E cls d H) (cxOf (L2.CX P w) P w K mg base N qual scope f cdv A outer s H E) body B) : FnM P w K mg base (k + 1) f fd ps (fnCode N.length B) := by
  obtain ⟨oc, od, dV, kV, doc, pm, an, cdv, ct, osl, rfl, lk, hcd, _, _⟩ := F.ex
  refine ⟨fun A outer s H args us vs Q E m h xs hr hg e0 hb r hl R d q => ?_⟩
  refine LamX.run_ofS lk hcd S hr e0 hb r hl fun hr' => ⟨_, hbody cdv A outer s H E rfl hr' hg, m, _, h, R, srel_start (N := N) d, ?_⟩
  unfold fnCode at q
  split at q
  · rename_i v h' eb; rw [eb]; exact q
  · rename_i σ' h' eb; rw [eb]; exact fun s' m' H' e' R' _ => q .non m' H' e' R' (.v .non)
  · rename_i y σ' h' eb; rw [eb]; exact fun cls d _ m' H' e' R' _ x => q cls d m' H' e' R' x
  · exact q.elim
end
/-! #### the hook: what stands at the places as -/
def obsZ (as : List Addr) (fa : List He.Fa) (fn : List He.DefD) (ts : List He.Tab) (tf : List He.Defn) (ex : PySem.W.Frag → Bool) (g : Addr → Option Obj) : He.AlX := (He.obsT fa fn ts (He.frT g as), ex (He.frT g as) && He.tabsB g tf (He.frT g as))
omit [TheW] in
theorem saysZ_of {as : List Addr} {fa : List He.Fa} {fn : List He.DefD} {ts : List He.Tab} {tf : List He.Defn} {ex : PySem.W.Frag → Bool} {w : World} {h : Heap} (e : obsZ as fa fn ts tf ex h.get? = He.valX fn ts w) : He.SaysX fa fn ts tf ex w h (He.frT h.get? as) := by
  generalize hK : He.frT h.get? as = K
  have e1 : He.obsT fa fn ts K = He.valT fn ts w := by rw [← hK]; exact congrArg (fun z : He.AlX => z.1) e
  have e2 : (ex K && He.tabsB h.get? tf K) = true := by rw [← hK]; exact congrArg (fun z : He.AlX => z.2) e
  obtain ⟨h1, h2⟩ := Bool.and_eq_true_iff.mp e2
  have key : ∀ p ∈ tf, PySem.W.codeHdIn K (He.cT K p).1 (He.cT K p).2 = true ∧ ∃ o, h.get? (He.cT K p).2 = some o ∧ He.emptyTab o = true := fun p hp => by
    obtain ⟨h3, h4⟩ := Bool.and_eq_true_iff.mp (List.all_eq_true.mp h2 p hp)
    refine ⟨h3, ?_⟩
    cases q : h.get? (He.cT K p).2 with
    | none => rw [q] at h4; cases h4
    | some o => rw [q] at h4; exact ⟨o, rfl, h4⟩
  refine ⟨e1, h1, fun p hp => (key p hp).1, fun p hp => ?_, fun p hp => ?_⟩
  · obtain ⟨_, o, q, z⟩ := key p hp
    have := He.frT_none (as := as) q z
    rw [hK] at this
    exact this
  · obtain ⟨_, o, q, z⟩ := key p hp
    rw [q, He.emptyTab_eq z]
def hookZ (as : List Addr) (fa : List He.Fa) (fn : List He.DefD) (ts : List He.Tab) (tf : List He.Defn) (ex : PySem.W.Frag → Bool) : PySem.W.Hook where
  α := He.AlX
  obs := fun s => obsZ as fa fn ts tf ex s.heap.get?
  val := fun w => He.valX fn ts w
  says := fun w h => ∃ K : PySem.W.Frag, K.In h ∧ He.SaysX fa fn ts tf ex w h K
  of := fun _ _ e => ⟨_, He.frT_in, saysZ_of e⟩
  keeps := fun _ _ _ ⟨K, hK, c⟩ k => ⟨K, PySem.W.Frag.In.keeps hK k, c.t, c.more, c.hd, c.out, fun p hp => k _ _ (c.empty p hp)⟩
omit [TheW] in
theorem obsZ_eq {as : List Addr} {fa : List He.Fa} {fn : List He.DefD} {ts : List He.Tab} {tf : List He.Defn} {ex : PySem.W.Frag → Bool} {g : Addr → Option Obj} {s : Shared} (h : ∀ a, g a = s.heap.get? a) : obsZ as fa fn ts tf ex g = (hookZ as fa fn ts tf ex).obs s := by
  have e : g = s.heap.get? := funext h
  rw [e] <;> rfl
end Mi

set_option maxHeartbeats 400000
/-! ### which lambda it is does not matter -/
namespace Mi
open PySem PySem.Spec PyProof.Rows L2
variable [TheW]
def RE {α : Type} (l l' : MV) (A A' : MS → MH → Res α) : Prop := ∀ σ h, A (some l :: σ) h = A' (some l' :: σ) h
inductive RS (l l' : MV) : SR → SR → Prop
  | next (σ h) : RS l l' (.next (some l :: σ) h) (.next (some l' :: σ) h)
  | ret (v h) : RS l l' (.ret v h) (.ret v h)
  | brk (σ h) : RS l l' (.brk (some l :: σ) h) (.brk (some l' :: σ) h)
  | cont (σ h) : RS l l' (.cont (some l :: σ) h) (.cont (some l' :: σ) h)
  | exc (x σ h) : RS l l' (.exc x (some l :: σ) h) (.exc x (some l' :: σ) h)
  | stuck : RS l l' .stuck .stuck
def RST (l l' : MV) (s s' : MSt) : Prop := ∀ σ h, RS l l' (s (some l :: σ) h) (s' (some l' :: σ) h)
section
variable {l l' : MV} {A A' B B' C C' : ME} {T T' U U' : MT} {AL AL' KL KL' : MA} {s s' t t' : MSt} {act : MH → Res MV} {i : Nat} {v : MV}
theorem re_act : RE l l' (eAct 0 l act) (eAct 0 l' act) := fun σ h => by rw [eAct_hd, eAct_hd]
theorem re_v : RE l l' (eVar (i + 1)) (eVar (i + 1)) := fun σ h => rfl
theorem re_c : RE l l' (eC v) (eC v) := fun σ h => rfl
theorem re_bin {op : MV → MV → MH → Res MV} (a : RE l l' A A') (b : RE l l' B B') : RE l l' (eBin op A B) (eBin op A' B') := fun σ h => by
  unfold eBin
  rw [a σ h]
  cases A' (some l' :: σ) h with
  | ok x h1 => simp only [Res.ok_bind, b σ h1]
  | exc x h1 => rfl
  | stuck => rfl
theorem re_un {op : MV → MH → Res MV} (a : RE l l' A A') : RE l l' (eUn op A) (eUn op A') := fun σ h => by unfold eUn; rw [a σ h]
theorem re_cb {f : List MV → MH → Res MV} (a : RE l l' AL AL') : RE l l' (eCB f AL) (eCB f AL') := fun σ h => by unfold eCB; rw [a σ h]
theorem re_cb1 {f : MV → MH → Res MV} (a : RE l l' A A') : RE l l' (eCB1 f A) (eCB1 f A') := fun σ h => by unfold eCB1; rw [a σ h]
theorem re_xf {cf : CF} {f : Str} (a : RE l l' A A') : RE l l' (eXf cf f A) (eXf cf f A') := fun σ h => by unfold eXf; rw [a σ h]
theorem re_tb (a : RE l l' A A') : RE l l' (tB A) (tB A') := fun σ h => by unfold tB; rw [a σ h]
theorem re_tru (a : RE l l' A A') : RE l l' (tTru A) (tTru A') := fun σ h => by unfold tTru; rw [a σ h]
theorem re_nil : RE l l' aNil aNil := fun σ h => rfl
theorem re_cons (a : RE l l' A A') (b : RE l l' AL AL') : RE l l' (aCons A AL) (aCons A' AL') := fun σ h => by
  unfold aCons
  rw [a σ h]
  cases A' (some l' :: σ) h with
  | ok x h1 =>
    simp only [Res.ok_bind]
    cases settle x h1 with
    | ok y h2 => simp only [Res.ok_bind, b σ h2]
    | exc x h1 => rfl
    | stuck => rfl
  | exc x h1 => rfl
  | stuck => rfl
theorem re_lst (a : RE l l' AL AL') : RE l l' (eLst AL) (eLst AL') := fun σ h => by unfold eLst; rw [a σ h]
theorem re_tup (a : RE l l' AL AL') : RE l l' (eTup AL) (eTup AL') := fun σ h => by unfold eTup; rw [a σ h]
theorem re_if (c : RE l l' T T') (a : RE l l' A A') (b : RE l l' B B') : RE l l' (eIf T A B) (eIf T' A' B') := fun σ h => by
  unfold eIf
  rw [c σ h]
  cases T' (some l' :: σ) h with
  | ok x h1 => simp only [Res.ok_bind, a σ h1, b σ h1]
  | exc x h1 => rfl
  | stuck => rfl
theorem rs_ret (a : RE l l' A A') : RST l l' (sRet A) (sRet A') := fun σ h => by
  unfold sRet
  rw [a σ h]
  cases A' (some l' :: σ) h with
  | ok x h1 => exact .ret x h1
  | exc x h1 => exact .exc x σ h1
  | stuck => exact .stuck
theorem rs_drop (a : RE l l' A A') : RST l l' (sDrop A) (sDrop A') := fun σ h => by
  unfold sDrop
  rw [a σ h]
  cases A' (some l' :: σ) h with
  | ok x h1 => exact .next σ h1
  | exc x h1 => exact .exc x σ h1
  | stuck => exact .stuck
theorem rs_asg (a : RE l l' A A') : RST l l' (sAsg (i + 1) A) (sAsg (i + 1) A') := fun σ h => by
  unfold sAsg
  rw [a σ h]
  cases A' (some l' :: σ) h with
  | ok x h1 =>
    simp only [Res.ok_st]
    cases settle x h1 with
    | ok y h2 => exact .next _ h2
    | exc x h1 => exact .exc x σ h1
    | stuck => exact .stuck
  | exc x h1 => exact .exc x σ h1
  | stuck => exact .stuck
theorem rs_nil : RST l l' sNil sNil := fun σ h => .next σ h
theorem rs_no : RST l l' sNo sNo := fun σ h => .stuck
theorem rs_seq (a : RST l l' s s') (b : RST l l' t t') : RST l l' (sSeq s t) (sSeq s' t') := fun σ h => by
  unfold sSeq
  have q := a σ h
  generalize s (some l :: σ) h = r at q
  generalize s' (some l' :: σ) h = r' at q
  cases q with
  | next σ1 h1 => exact b σ1 h1
  | ret v h1 => exact .ret v h1
  | brk σ1 h1 => exact .brk σ1 h1
  | cont σ1 h1 => exact .cont σ1 h1
  | exc x σ1 h1 => exact .exc x σ1 h1
  | stuck => exact .stuck
theorem rs_if (c : RE l l' T T') (a : RST l l' s s') (b : RST l l' t t') : RST l l' (sIf T s t) (sIf T' s' t') := fun σ h => by
  unfold sIf
  rw [c σ h]
  cases T' (some l' :: σ) h with
  | ok x h1 => cases x with
    | true => exact a σ h1
    | false => exact b σ h1
  | exc x h1 => exact .exc x σ h1
  | stuck => exact .stuck
inductive RHD (l l' : MV) : List MHd → List MHd → Prop
  | nil : RHD l l' [] []
  | cons {cs : List Str} {S S' : MSt} {r r' : List MHd} : RST l l' S S' → RHD l l' r r' → RHD l l' ((cs, none, S) :: r) ((cs, none, S') :: r')
  | conS {cs : List Str} {j : Nat} {S S' : MSt} {r r' : List MHd} : RST l l' S S' → RHD l l' r r' → RHD l l' ((cs, some (j + 1), S) :: r) ((cs, some (j + 1), S') :: r')
theorem rs_hds {sub : XS} {hs hs' : List MHd} (q : RHD l l' hs hs') (x : XV) : RST l l' (tryH sub hs x) (tryH sub hs' x) := by
  induction q with
  | nil => exact fun _ _ => .stuck
  | @cons cs S S' r r' a _ ih =>
    intro σ h
    unfold tryH
    cases exAny sub x.c cs with
    | none => exact .stuck
    | some b => cases b with
      | false => exact ih σ h
      | true =>
        unfold tryS
        have q := a σ h
        dsimp only
        generalize S (some l :: σ) h = u at q
        generalize S' (some l' :: σ) h = u' at q
        cases q with
        | next σ1 h1 => exact .next σ1 h1
        | ret v h1 => exact .ret v h1
        | brk σ1 h1 => exact .stuck
        | cont σ1 h1 => exact .stuck
        | exc x σ1 h1 => exact .stuck
        | stuck => exact .stuck
  | @conS cs j S S' r r' a _ ih =>
    intro σ h
    unfold tryH
    cases exAny sub x.c cs with
    | none => exact .stuck
    | some b => cases b with
      | false => exact ih σ h
      | true =>
        unfold tryS
        have q := a (σ.set j (some (.exn x.c x.ns x.vs))) h
        dsimp only [List.set_cons_succ]
        generalize S (some l :: σ.set j (some (.exn x.c x.ns x.vs))) h = u at q
        generalize S' (some l' :: σ.set j (some (.exn x.c x.ns x.vs))) h = u' at q
        cases q with
        | next σ1 h1 => exact .next _ h1
        | ret v h1 => exact .ret v h1
        | brk σ1 h1 => exact .stuck
        | cont σ1 h1 => exact .stuck
        | exc x σ1 h1 => exact .stuck
        | stuck => exact .stuck
theorem rs_try {sub : XS} {hs hs' : List MHd} (a : RST l l' s s') (q : RHD l l' hs hs') : RST l l' (sTry sub s hs) (sTry sub s' hs') := fun σ h => by
  unfold sTry
  have z := a σ h
  generalize s (some l :: σ) h = r at z
  generalize s' (some l' :: σ) h = r' at z
  cases z with
  | next σ1 h1 => exact .next σ1 h1
  | ret v h1 => exact .ret v h1
  | brk σ1 h1 => exact .brk σ1 h1
  | cont σ1 h1 => exact .cont σ1 h1
  | exc x σ1 h1 => exact rs_hds q x σ1 h1
  | stuck => exact .stuck
theorem ind_of {n : Nat} {b : (MH → Res MV) → MV → MSt} (h : ∀ l l' act, RST l l' (b act l) (b act l')) (l : MV) (act : MH → Res MV) (hh : MH) : fnCode n (b act l) [l] hh = fnCode n (b act lam0) [lam0] hh := by
  unfold fnCode
  have z := h l lam0 act (List.replicate (n - 1) none) hh
  simp only [List.map_cons, List.map_nil, List.cons_append, List.nil_append, List.length_cons, List.length_nil] at z ⊢
  generalize b act l (some l :: List.replicate (n - 1) none) hh = r at z
  generalize b act lam0 (some lam0 :: List.replicate (n - 1) none) hh = r' at z
  cases z <;> rfl
end
end Mi

set_option maxHeartbeats 400000
/-! ### == of dicts -/
namespace Mi
open PySem PySem.Spec PyProof.Rows L2
variable [TheW]
theorem dict_eq_no_int (a : Addr) (es : Array DictEntry) (n : Nat) (dd : Option Addr) (sl : Array (Option Value)) (b : Int) (u : Tok) :
    Meets (Builtin.«dict.__eq__» ⟨[.ref a, .int b u], []⟩) (fun _ R s => s.heap.get? a = some { cls := .type "dict", dict := dd, data := .dict es n, slots := sl } ∧ R (.ok (.ret .notImplemented)) s) :=
  .of_wp fun prog w A R s h => by
    obtain ⟨hp, g, d, tk, os⟩ := s
    obtain ⟨hl, h⟩ := h
    have f1 := F.sub_int_dict
    have f2 : isSubtype (.type "dict") (.type "dict") = pure true := by rw [isSubtype_type]; kernel_rfl
    wp_walk using AutoSeq1.wpAny_loadPart' hl, wpAny_load hl
    exact ⟨_, rfl, h⟩
theorem int_eq_no_dict (b : Int) (u : Tok) (l : Addr) (es : Array DictEntry) (n : Nat) (dd : Option Addr) (sl : Array (Option Value)) :
    Meets (Builtin.«int.__eq__» ⟨[.int b u, .ref l], []⟩) (fun _ R s => s.heap.get? l = some { cls := .type "dict", dict := dd, data := .dict es n, slots := sl } ∧ R (.ok (.ret .notImplemented)) s) :=
  .of_wp fun prog w A R s h => by
    obtain ⟨hp, g, d, tk, os⟩ := s
    obtain ⟨hl, h⟩ := h
    wp_walk using AutoSeq1.wpAny_loadPart' hl, wpAny_load hl
    exact ⟨_, rfl, h⟩
theorem rc_dict_int {A : Around} {s : Shared} {a : Addr} {o : Obj} {es : Array DictEntry} {n : Nat} (b : Int) (u : Tok) (ho : s.heap.get? a = some o) (hx : o.ExactDict) (hd : o.data = .dict es n) (hu : A.units < cLine) : SeqAt.RcAt A s (.ref a) (.int b u) false := fun prog w E Q h => by
  have hc : o.cls = .type "dict" := by first | exact hx.1 | exact hx
  obtain ⟨oc, od, dt, sl⟩ := o
  dsimp only at hc hd
  subst hc hd
  exact SeqAt.rc_eq_decline_or (k := false) ⟨_, ho, rfl⟩ (typeIs_int s b u) (by decide) F.sub_int_dict F.slot_dict_eq F.slot_int_eq_refl
    (fun _ hq => call_meets F.slot_dict_eq ⟨_, ho, rfl⟩ F.entry_dict_eq (F.args_dict_eq_2 _ _) (dict_eq_no_int a es n od sl b u) ⟨ho, hq⟩)
    (fun _ hq => call_meets F.slot_int_eq_refl (typeIs_int s b u) F.entry_int_eq (F.args_int_eq_2 _ _) (int_eq_no_dict b u a es n od sl) ⟨ho, hq⟩)
    (fun _ hq => wpAny_of_eq (rfl : isSame (.ref a) (.int b u) = pure false) hq) (.inr hu) h
/-- x == y, x a dict too -/
def eqQ (x y : MV) (h : MH) : Res MV := match asD h x, y with
  | some _, .int _ => .ok (.bl false) h
  | _, _ => eqM x y h
section
variable {K : PySem.W.Frag} {mg : Str → Option Value} {X : Cx} {m : List Addr} {H H0 H1 : Hp} {h : MH}
theorem om_eqQ (hu : X.A.units + 64 < cLine) (hK : X.K = K := by rfl) : OpR X (compareOp .Eq) (rOp K mg eqQ) := by
  subst hK
  intro pins s σ H x' y' v u Q I rx ry ⟨m, h, x, y, H0, H1, σ', W, R, dx, dy, q⟩
  unfold eqQ at q
  split at q
  · rename_i kvs i e1
    obtain ⟨n, a, ls, rfl, rfl, e2, e3, e4, e5⟩ := Dt.asD R dx e1
    cases dy.dv (fun _ => MV.noConfusion)
    obtain ⟨_, _, vs, _, o, es, ep, g1, g2, g3, _⟩ := (show ObjOk X.prog X.w H s.heap a (.dK ls) from I.hok a _ e4)
    cases (show v = Value.ref a from rx)
    obtain ⟨t, rfl⟩ := ry
    exact rc_dict_int i t g1 g2 g3 (by omega) X.prog X.w _ _ ⟨.bl false, H, I, rfl, rg.here q R (.v (.bl _))⟩
  · exact om_eq hu rfl pins s σ H x' y' v u Q I rx ry ⟨m, h, x, _, H0, H1, σ', W, R, dx, dy, q⟩
end
end Mi

set_option maxHeartbeats 400000
/-! ### reckoning with objects -/
namespace Mi
open PySem PySem.Spec PyProof.Rows L2
variable [TheW]
/-- written texts differ as they are written -/
@[simp] theorem ofs_eq {a b : String} : (Str.ofString a = Str.ofString b) = (a = b) := by
  refine propext ⟨fun h => ?_, fun h => by rw [h]⟩
  rw [Str.ofString_eq_toList, Str.ofString_eq_toList] at h
  have h2 := congrArg (fun z : Str => z.cps.toList) h
  simp only [List.toList_toArray] at h2
  have h3 : a.toList = b.toList := (List.map_inj_right (fun x y e => Char.ext (UInt32.toNat_inj.mp e))).mp h2
  exact String.toList_inj.mp h3
@[simp] theorem ofs_beq {a b : String} : (Str.ofString a == Str.ofString b) = (a == b) := by
  rw [Bool.eq_iff_iff, beq_iff_eq, beq_iff_eq, ofs_eq]
section
variable {σ : MS} {h : MH} {A B V : ME} {AL KL : MA} {c f m : Str} {n : Nat} {fs : List (Str × MV)} {v w : MV} {code : MF} {g : List MV → List MV → List MV} {k : Nat → Res MV}
def fldK (c f : Str) (x : MV) (h1 : MH) : Res MV := match x with
  | .ref n => match h1[n]? with
    | some (.ins c' fs) => if c' = c then (match fs.lookup f with
      | some v => .ok v h1
      | none => .stuck) else .stuck
    | _ => .stuck
  | _ => .stuck
@[simp] theorem eFld_ap : eFld c f A σ h = (A σ h).bind (fldK c f) := id rfl
theorem fldK_at (e : h[n]? = some (.ins c fs)) (l : fs.lookup f = some v) : fldK c f (.ref n) h = .ok v h := by
  unfold fldK
  simp only [e, if_pos, l]
@[simp] theorem eMeth_ap : eMeth c m g code A AL KL σ h = (A σ h).bind fun x h1 => onIns c m x h1 fun n => (AL σ h1).bind fun xs h2 => (KL σ h2).bind fun ys h3 => code (g (.ref n :: xs) ys) h3 := id rfl
theorem onIns_at (e : h[n]? = some (.ins c fs)) (l : fs.lookup m = none) : onIns c m (.ref n) h k = k n := by
  unfold onIns
  simp only [e, l, and_self, if_true]
def makK (n : Nat) (v : MV) (h3 : MH) : Res MV := match v with
  | .non => .ok (.ref n) h3
  | _ => .stuck
@[simp] theorem makK_non : makK n .non h = .ok (.ref n) h := id rfl
@[simp] theorem eMake_ap : eMake c g code AL KL σ h = (AL σ h).bind fun xs h1 => (KL σ h1).bind fun ys h2 => (code (g (.ref h2.length :: xs) ys) (h2 ++ [.ins c []])).bind (makK h2.length) := id rfl
def putK (c f : Str) (v : MV) (σ : MS) (x : MV) (h2 : MH) : SR := match putFld c f x v h2 with
  | some h3 => .next σ h3
  | none => .stuck
@[simp] theorem sFldM_ap : sFldM c f A V σ h = (eSet V σ h).st σ fun v h1 => (A σ h1).st σ (putK c f v σ) := id rfl
theorem putK_at (e : h[n]? = some (.ins c fs)) (l : fs.length < 1000) : putK c f v σ (.ref n) h = .next σ (h.set n (.ins c (putM f v fs))) := by
  unfold putK putFld
  simp only [e, l, and_self, if_true]
def augK (c f : Str) (op : MV → MV → MH → Res MV) (V : ME) (σ : MS) (x : MV) (h1 : MH) : SR := match x with
  | .ref n => (match h1[n]? with
    | some (.ins c' fs) => if c' = c then (match fs.lookup f with
      | some w => (V σ h1).st σ fun y h2 => (op w y h2).st σ fun z h3 => match z with
        | .tmp _ => .stuck
        | z => (match putFld c f (.ref n) z h3 with
          | some h4 => .next σ h4
          | none => .stuck)
      | none => .stuck) else .stuck
    | _ => .stuck)
  | _ => .stuck
@[simp] theorem sFldAugM_ap {op : MV → MV → MH → Res MV} : sFldAugM c f op A V σ h = (A σ h).st σ (augK c f op V σ) := id rfl
theorem augK_int {op : MV → MV → MH → Res MV} {y : MV} {i : Int} (e : h[n]? = some (.ins c fs)) (l : fs.lookup f = some w) (q : V σ h = .ok y h) (q2 : op w y h = .ok (.int i) h) (z : fs.length < 1000) : augK c f op V σ (.ref n) h = .next σ (h.set n (.ins c (putM f (.int i) fs))) := by
  unfold augK
  simp only [e, if_true, l, q, Res.ok_st, q2, putFld, z, and_self]
def xfK (cf : CF) (f : Str) (x : MV) (h1 : MH) : Res MV := match x with
  | .exn c ns vs => if (c, f) ∈ cf then (match (ns.zip vs).lookup f with
    | some v => .ok v h1
    | none => .stuck) else .stuck
  | _ => .stuck
@[simp] theorem eXf_ap {cf : CF} : eXf cf f A σ h = (A σ h).bind (xfK cf f) := id rfl
@[simp] theorem sRaise_ap {l : List (Str × Nat)} {dms : List MV} : sRaise c l dms AL σ h = (AL σ h).st σ fun xs h1 => .exc ⟨c, l.map (·.1), flM l (xs ++ dms)⟩ σ h1 := id rfl
@[simp] theorem eLam_ap {cd : (MH → Res MV) → MF} : eLam cd A σ h = cd (fun h' => A σ h') [lam0] h := id rfl
@[simp] theorem sNo_ap : sNo σ h = .stuck := id rfl
def tryK (sub : XS) (hs : List MHd) (r : SR) : SR := match r with
  | .exc x σ1 h1 => tryH sub hs x σ1 h1
  | r => r
@[simp] theorem sTry_ap {sub : XS} {hs : List MHd} {s : MSt} : sTry sub s hs σ h = tryK sub hs (s σ h) := id rfl
@[simp] theorem tryK_exc {sub : XS} {hs : List MHd} {x : XV} : tryK sub hs (.exc x σ h) = tryH sub hs x σ h := id rfl
@[simp] theorem tryK_next {sub : XS} {hs : List MHd} : tryK sub hs (.next σ h) = .next σ h := id rfl
@[simp] theorem tryK_ret {sub : XS} {hs : List MHd} : tryK sub hs (.ret v h) = .ret v h := id rfl
theorem tryH_hit {sub : XS} {cs : List Str} {i : Option Nat} {S : MSt} {r : List MHd} {x : XV} (e : exAny sub x.c cs = some true) : tryH sub ((cs, i, S) :: r) x σ h = tryS i S x σ h := by
  show (match exAny sub x.c cs with | some true => tryS i S x σ h | some false => tryH sub r x σ h | none => .stuck) = _
  rw [e]
theorem tryH_miss {sub : XS} {cs : List Str} {i : Option Nat} {S : MSt} {r : List MHd} {x : XV} (e : exAny sub x.c cs = some false) : tryH sub ((cs, i, S) :: r) x σ h = tryH sub r x σ h := by
  show (match exAny sub x.c cs with | some true => tryS i S x σ h | some false => tryH sub r x σ h | none => .stuck) = _
  rw [e]
theorem set_last {o o' : MO} : (h ++ [o]).set h.length o' = h ++ [o'] := by simp
theorem get_last {o : MO} : (h ++ [o])[h.length]? = some o := by simp
theorem get_app {o : MO} {l : List MO} (e : h[n]? = some o) : (h ++ l)[n]? = some o := by
  rw [List.getElem?_append_left (List.getElem?_eq_some_iff.mp e).1]
  exact e
end
/-! #### numbers, places of lists -/
section
variable {h : MH} {σ : MS} {r : Nat} {a b v : MV} {x y : Int} {xs ys : List MV}
theorem at0 : atI [a, b] 0 = some a := rfl
theorem at1 : atI [a, b] 1 = some b := rfl
theorem ix0 (e : h[r]? = some (.lst [a, b])) : ixM (.ref r) (.int 0) h = .ok a h := by simp [ixM, asL, e, at0]
theorem ix1 (e : h[r]? = some (.lst [a, b])) : ixM (.ref r) (.int 1) h = .ok b h := by simp [ixM, asL, e, at1]
theorem set0 (e : h[r]? = some (.lst [a, b])) : sSubK (.ref r) v σ (.int 0) h = .next σ (h.set r (.lst [v, b])) := by
  refine sSubK_at ?_
  simp only [setM, e]
  rfl
theorem set1 (e : h[r]? = some (.lst [a, b])) : sSubK (.ref r) v σ (.int 1) h = .next σ (h.set r (.lst [a, v])) := by
  refine sSubK_at ?_
  simp only [setM, e]
  rfl
theorem fmod_lt {a m : Int} (h : 0 < m) : a.fmod m < m := Int.fmod_lt_of_pos a h
theorem fmod_nn {a m : Int} (h : 0 < m) : 0 ≤ a.fmod m := Int.fmod_nonneg_of_pos a h
theorem mul_r (a : -18446744073709551616 < y) (b : y < 18446744073709551616) : mulM (.int x) (.int y) h = .ok (.int (x * y)) h := if_pos (.inr ⟨a, b⟩)
theorem mul_l (a : -18446744073709551616 < x) (b : x < 18446744073709551616) : mulM (.int x) (.int y) h = .ok (.int (x * y)) h := if_pos (.inl ⟨a, b⟩)
theorem mod_at (a : y ≠ 0) : modM (.int x) (.int y) h = .ok (.int (x.fmod y)) h := if_pos a
theorem fdiv_at (a : y ≠ 0) (b : y.natAbs < 1073741824) : fdivM (.int x) (.int y) h = .ok (.int (x.fdiv y)) h := if_pos ⟨a, b⟩
@[simp] theorem add_at : addM (.int x) (.int y) h = .ok (.int (x + y)) h := rfl
@[simp] theorem addI_at : addI (.int x) (.int y) h = .ok (.int (x + y)) h := rfl
@[simp] theorem sub_at : subM (.int x) (.int y) h = .ok (.int (x - y)) h := rfl
@[simp] theorem neg_at : negM (.int x) h = .ok (.int (-x)) h := rfl
@[simp] theorem lt_at : ltM (.int x) (.int y) h = .ok (.bl (decide (x < y))) h := rfl
@[simp] theorem le_at : leM (.int x) (.int y) h = .ok (.bl (decide (x ≤ y))) h := rfl
@[simp] theorem gt_at : gtM (.int x) (.int y) h = .ok (.bl (decide (y < x))) h := rfl
@[simp] theorem ge_at : geM (.int x) (.int y) h = .ok (.bl (decide (y ≤ x))) h := rfl
@[simp] theorem max2_at : max2M [.int x, .int y] h = .ok (.int (if y > x then y else x)) h := rfl
@[simp] theorem min2_at : min2M [.int x, .int y] h = .ok (.int (if y < x then y else x)) h := rfl
@[simp] theorem int_bl {k : Bool} : intM [.bl k] h = .ok (.int (if k then 1 else 0)) h := rfl
@[simp] theorem int_int : intM [.int x] h = .ok (.int x) h := rfl
theorem add_tmp (l : xs.length + ys.length ≤ 16777216) : addM (.tmp xs) (.tmp ys) h = .ok (.tmp (xs ++ ys)) h := by
  show (if xs.length + ys.length ≤ sizeLine then _ else _) = _
  exact if_pos (by rw [sizeLine_eq]; exact l)
theorem ix_tmp0 {z : MV} : ixM (.tmp (z :: xs)) (.int 0) h = .ok z h := by
  have q : atI (z :: xs) 0 = some z := by
    unfold atI ixN
    rw [if_pos (by omega), if_pos (by simp)]
    rfl
  simp [ixM, asL, q]
theorem len_con : lenM (.con xs) h = .ok (.int xs.length) h := rfl
theorem len_ref (e : h[r]? = some (.lst xs)) : lenM (.ref r) h = .ok (.int xs.length) h := by simp [lenM, asL, e]
theorem atI_nn {α : Type} {xs : List α} {v : Int} (a : 0 ≤ v) (b : v < xs.length) : ∃ x, atI xs v = some x ∧ x ∈ xs := by
  have hb : v.toNat < xs.length := by omega
  refine ⟨xs[v.toNat], ?_, List.getElem_mem hb⟩
  unfold atI ixN
  rw [if_pos a, if_pos b]
  exact List.getElem?_eq_getElem hb
theorem ix_ref (q : h[r]? = some (.lst xs)) (a : 0 ≤ x) (b : x < xs.length) : ∃ z, ixM (.ref r) (.int x) h = .ok z h ∧ z ∈ xs := by
  obtain ⟨z, e1, e2⟩ := atI_nn a b
  exact ⟨z, by simp [ixM, asL, q, e1], e2⟩
theorem cut1 (ns : List Int) (k : Nat) : cutM (ns.map MV.int) (some (k : Int)) (some ((k : Int) + 1)) = ((ns[k]?).toList).map MV.int := by
  have e2 : ((k : Int) + 1) = ((k + 1 : Nat) : Int) := by omega
  unfold cutM
  rw [e2, HT.sIx_nat, HT.sIx_nat, List.length_map]
  by_cases hk : k < ns.length
  · rw [Nat.min_eq_left (by omega), Nat.min_eq_left (by omega), show k + 1 - k = 1 by omega, List.drop_eq_getElem_cons (by simpa using hk)]
    simp [hk]
  · rw [Nat.min_eq_right (by omega), Nat.min_eq_right (by omega)]
    simp [hk]
end
/-- all but the place r stands -/
def Fr (r : Nat) (h h' : MH) : Prop := ∀ k o, k ≠ r → h[k]? = some o → h'[k]? = some o
theorem Fr.refl {r : Nat} {h : MH} : Fr r h h := fun _ _ _ e => e
theorem Fr.trans {r : Nat} {h h1 h2 : MH} (a : Fr r h h1) (b : Fr r h1 h2) : Fr r h h2 := fun k o n e => b k o n (a k o n e)
theorem Fr.set {r : Nat} {h : MH} {o : MO} : Fr r h (h.set r o) := fun k u n e => by rw [List.getElem?_set_ne (Ne.symm n)]; exact e
theorem Fr.app {r : Nat} {h : MH} {l : List MO} : Fr r h (h ++ l) := fun k u n e => get_app e
def Rm (h : MH) (r : Nat) : Prop := ∃ a b : Int, h[r]? = some (.lst [.int a, .int b])
theorem Rm.app {h : MH} {r : Nat} {o : List MO} (p : Rm h r) : Rm (h ++ o) r := by
  obtain ⟨a, b, e⟩ := p
  exact ⟨a, b, get_app e⟩
theorem Rm.lt {h : MH} {r : Nat} (p : Rm h r) : r < h.length := by
  obtain ⟨a, b, e⟩ := p
  exact (List.getElem?_eq_some_iff.mp e).1
end Mi

set_option maxHeartbeats 400000
/-! ### dict displays, own len and repr, f-strings -/
namespace Mi
open PySem PySem.Spec PyProof.Rows L2
variable [TheW]
/-- {k: v, ..}, the keys written -/
def eDict (ks : List Key) (AL : MA) : ME := fun σ h => (AL σ h).bind fun vs h1 => .ok (.ref h1.length) (h1 ++ [.dic ((ks.zip vs).map fun p => (kM p.1, p.2))])
section
variable {K : PySem.W.Frag} {mg : Str → Option Value} {X : Cx} {W : WX} {pos : Pos}
/-- the pairs of a display -/
inductive SDs (K : PySem.W.Frag) (mg : Str → Option Value) (W : WX) (X : Cx) : List (Option Expr) → List Expr → List Key → MA → List (TE × TE) → Prop
  | nil : SDs K mg W X [] [] [] aNil []
  | cons {k v : Expr} {ks : List (Option Expr)} {vs : List Expr} {key : Key} {keys : List Key} {A : ME} {AL : MA} {trs : List (TE × TE)} : PE X k (fun _ H Q => Q (kV key) H) → SE K mg W X v A → SDs K mg W X ks vs keys AL trs →
      SDs K mg W X (some k :: ks) (v :: vs) (key :: keys) (aCons A AL) ((fun _ H Q => Q (kV key) H, tg K mg (DV K mg) W (eSet A)) :: trs)
theorem kp_str {x : Str} {j : Nat} {p : Pos} : PE X (.Constant (.str x) j p) (fun _ H Q => Q (kV (.inr x)) H) := pe_str
theorem kp_int {i : Int} {j : Nat} {p : Pos} : PE X (.Constant (.int i) j p) (fun _ H Q => Q (kV (.inl i)) H) := pe_int
theorem SDs.pps {ks : List (Option Expr)} {vs : List Expr} {keys : List Key} {AL : MA} {trs : List (TE × TE)} (s : SDs K mg W X ks vs keys AL trs) : PPs X pos ks vs trs := by
  induction s with
  | nil => exact pps_nil
  | cons hk hv _ ih => exact pps_cons hk (se_set hv) ih
theorem SDs.len {ks : List (Option Expr)} {vs : List Expr} {keys : List Key} {AL : MA} {trs : List (TE × TE)} (s : SDs K mg W X ks vs keys AL trs) : LenA AL keys.length := by
  induction s with
  | nil => exact len_nil
  | cons hk hv _ ih => exact len_cons ih
theorem SDs.read {ks : List (Option Expr)} {vs : List Expr} {keys : List Key} {AL : MA} {trs : List (TE × TE)} (s : SDs K mg W X ks vs keys AL trs) : ∀ {σ : L2.St} {H : Hp} {Q : List (V × V) → Hp → Prop}, tg K mg (DA K mg) W AL σ H (fun ws H1 => ws.length = keys.length → Q ((keys.zip ws).map fun p => (kV p.1, p.2)) H1) → tPairs trs σ H Q := by
  induction s with
  | nil =>
    intro σ H Q t
    obtain ⟨m, σm, h, R, S, q⟩ := t
    exact rg.here (D := DA K mg) (b := []) q R .nil rfl
  | @cons k v ks vs key keys A AL trs hk hv s ih =>
    intro σ H Q t
    have t := tg_cons t
    show tg K mg (DV K mg) W (eSet A) σ H _
    obtain ⟨m, σm, h, R, S, q⟩ := t
    refine ⟨m, σm, h, R, S, ?_⟩
    cases ea : eSet A σm h with
    | stuck => rw [ea] at q; exact q
    | exc x h1 => rw [ea] at q; exact q
    | ok x h1 =>
      rw [ea] at q
      intro x' m1 H1 e1 R1 d1
      have q1 := q x' m1 H1 e1 R1 d1
      refine ih ?_
      obtain ⟨m2, σ2, h2, R2, S2, q2⟩ := q1
      refine ⟨m2, σ2, h2, R2, S2, ?_⟩
      cases eb : AL σ2 h2 with
      | stuck => rw [eb] at q2; exact q2
      | exc x h1 => rw [eb] at q2; exact q2
      | ok xs h3 =>
        rw [eb] at q2
        intro ws m3 H3 e3 R3 d3 hl
        exact q2 ws m3 H3 e3 R3 d3 (by simp [hl])
theorem merge_nodup : ∀ (more acc : List (Key × V)), ((acc ++ more).map (·.1)).Nodup → mergeK acc more = acc ++ more
  | [], acc, _ => by simp [mergeK]
  | (k, v) :: r, acc, h => by
    have n : valV acc k = none := by
      cases q : valV acc k with
      | none => rfl
      | some w =>
        exfalso
        rw [List.map_append, List.map_cons, List.nodup_append] at h
        have hm : k ∈ acc.map (·.1) := by
          unfold valV at q
          cases z : acc.find? (fun kv => decide (kv.1 = k)) with
          | none => rw [z] at q; cases q
          | some p => exact List.mem_map.mpr ⟨p, List.mem_of_find?_eq_some z, by simpa using List.find?_some z⟩
        exact h.2.2 k hm k (by simp) rfl
    show mergeK (L2.putK acc k v) r = _
    rw [L2.putK_new v n, merge_nodup r (acc ++ [(k, v)]) (by simpa using h)]
    simp
theorem dvk_zip {m : List Addr} {H : Hp} : ∀ {keys : List Key} {xs : List MV} {ws : List V}, DvAll K mg m H xs ws → xs.length = keys.length → DvK K mg m H ((keys.zip xs).map fun p => (kM p.1, p.2)) (keys.zip ws)
  | [], _, _, .nil, _ => .nil
  | [], _, _, .cons _ _, e => by cases e
  | k :: ks, _, _, .nil, e => by cases e
  | k :: ks, _, _, .cons d r, e => .cons d (dvk_zip r (by simpa using e))
theorem se_dict {ks : List (Option Expr)} {vs : List Expr} {keys : List Key} {AL : MA} {trs : List (TE × TE)} (s : SDs K mg W X ks vs keys AL trs) (nd : keys.Nodup := by decide +kernel) (hall : ks.all (·.isSome) = true := by rfl) (hl : ks.length = vs.length := by rfl) (h0 : ks ≠ [] := by simp) (h15 : ks.length ≤ 15 := by decide)
    (hkl : keys.length ≤ 15 := by decide) : SE K mg W X (.Dict ks vs pos) (eDict keys AL) := (pe_disp s.pps hall hl h0 h15).imp fun σ H Q ⟨m, σm, h, R, S, q⟩ => by
  intro p np
  refine s.read ?_
  have x0 : Ext m H m (upd H p (.dK [])) := Ext.upd_new np
  refine ⟨m, σm, h, R.lay np, S.mono x0.gro, ?_⟩
  unfold eDict at q
  cases ea : AL σm h with
  | stuck => rw [ea] at q; exact q.elim
  | exc x h1 => rw [ea] at q; exact fun cls d m' H' e' R' x => q cls d m' H' (x0.trans e') R' x
  | ok xs h1 =>
    rw [ea] at q
    intro ws m1 H1 e1 R1 d1 hw
    have pm : p ∉ m := R.out np
    have hp1 : H1 p = some (.dK []) := e1.keep _ _ upd_same (fun _ z => by cases z) pm
    have pm1 : p ∉ m1 := e1.out upd_same pm
    have d1 : DvAll K mg m1 H1 xs ws := d1
    have lx : xs.length = keys.length := by rw [d1.length, hw]
    have lz : ((keys.zip ws).map (·.1)) = keys := by
      rw [List.map_fst_zip]
      omega
    have em : mergeK [] (keys.zip ws) = keys.zip ws := merge_nodup _ [] (by rw [List.nil_append, lz]; exact nd)
    refine ⟨hp1, keys.zip ws, rfl, by rw [List.length_zip]; omega, ?_⟩
    rw [em]
    have ne : ∀ {a : Addr} {o : HO}, H1 a = some o → (∀ vs, o ≠ .dK vs) → a ≠ p := fun {a o} e n z => by
      rw [z, hp1] at e
      cases e
      exact n _ rfl
    have g : Gro m1 H1 (m1 ++ [p]) (upd H1 p (.dK (keys.zip ws))) := by
      refine ⟨⟨[p], rfl⟩, fun a o e _ n _ _ => by rw [upd_ne (ne e n)]; exact e, fun a o e _ n na z => ?_⟩
      rcases List.mem_append.mp z with z | z
      · exact na z
      · exact ne e n (by simpa using z)
    have x2 : Ext m H (m1 ++ [p]) (upd H1 p (.dK (keys.zip ws))) := by
      have e01 := x0.trans e1
      obtain ⟨r, hr⟩ := e01.pre
      refine ⟨⟨r ++ [p], by rw [hr, List.append_assoc]⟩, fun a o e t na => ?_, fun a o e na => ?_, fun a ha na => ?_, fun a o u e => by rw [upd_ne (ne_of_none e np)]; exact e01.frz a o u e⟩
      · rw [upd_ne (ne_of_none e np)]
        exact e01.keep a o e t na
      · rw [upd_ne (ne_of_none e np)]
        exact e01.kept a o e na
      · rcases List.mem_append.mp ha with z | z
        · exact e01.new a z na
        · have : a = p := by simpa using z
          rw [this]
          exact np
    refine q (.ref p) (m1 ++ [p]) _ x2 (R1.place pm1 g (fun b hb => upd_ne (fun z => pm1 (by rw [← z]; exact hb))) ⟨_, upd_same, (dvk_zip d1 lx).mono g⟩ fun P ps z => by rw [upd_ne (ne z (fun _ y => by cases y))]; exact z) (.v (.ref ?_))
    rw [← R1.len]
    simp
/-! #### row[a:b] = xs -/
def slsM (o v : MV) (lo hi : Option Int) (h : MH) : Option MH := match o, v, lo, hi with
  | .ref n, .ref k, some a, some b => (match h[n]?, h[k]? with
    | some (.lst xs), some (.lst ys) => if n ≠ k ∧ 0 ≤ a ∧ a ≤ b ∧ a ≤ xs.length ∧ xs.length + ys.length ≤ sizeLine then some (h.set n (.lst (xs.take a.toNat ++ ys ++ xs.drop b.toNat))) else none
    | _, _ => none)
  | _, _, _, _ => none
def sSlS (O : ME) (L U : MO') (V : ME) : MSt := fun σ h => (eSet V σ h).st σ fun v h1 => (O σ h1).st σ fun o h2 => (L σ h2).st σ fun lo h3 => (U σ h3).st σ fun hi h4 => match slsM o v lo hi h4 with
  | some h5 => .next σ h5
  | none => .stuck
end
section
variable {prog : Program} {w : World} {A : Around} {E : Value → Shared → Prop} {s : Shared}
theorem cut_run {a c n : Nat} (hac : a ≤ c) (ha : a ≤ n) : sliceBounds (some (a : Int)) (some (c : Int)) none n = ((a : Int), ((min c n : Nat) : Int), 1) := by
  simp only [sliceBounds, Option.getD_none]
  have z1 : ¬ ((a : Int) < 0) := by omega
  have z2 : ¬ ((c : Int) < 0) := by omega
  simp only [z1, z2, if_false, show (1 : Int) > 0 by decide, if_true]
  congr 1
  · omega
  · congr 1
    omega
theorem setItem_cut {l b sl : Addr} {items new : Array Value} {n n2 : Nat} {vl vu : Value} {a c : Nat} {Q : Unit → Shared → Prop}
    (e : s.heap.get? l = some { cls := .type "list", data := .seq items n }) (e2 : s.heap.get? b = some { cls := .type "list", data := .seq new n2 }) (hne : l ≠ b)
    (hs : s.heap.IsSliceOf sl vl vu .none) (pl : IsPart vl (some (a : Int))) (pu : IsPart vu (some (c : Int))) (hac : a ≤ c) (ha : a ≤ items.size)
    (hsz : items.size + new.size ≤ sizeLine) (h : Q () { s with heap := s.heap.update l (Obj.mapSeq fun xs => xs.extract 0 a ++ new ++ xs.extract (min c items.size) xs.size) }) :
    wpAny (model prog w) A (setItem (.ref l) (.ref sl) (.ref b)) Q E s := by
  have tl : s.heap.IsList l items := PySem.IsL.isList e
  have tb : s.heap.IsList b new := PySem.IsL.isList e2
  obtain ⟨os, hos, hcs, hds⟩ := id hs
  have ts : s.TypeIs (.ref sl) "slice" := ⟨os, hos, hcs⟩
  have ap : Builtin.List.listSameRef (.ref l) (.ref b) = false := by
    unfold Builtin.List.listSameRef
    exact beq_eq_false_iff_ne.mpr hne
  have top : (max (a : Int) ((min c items.size : Nat) : Int)).toNat = min c items.size := by omega
  have big : ((fun xs : Array Value => xs.extract 0 a ++ new ++ xs.extract (min c items.size) xs.size) items).size ≤ sizeLine + 1 := by
    simp only [Array.size_append, Array.size_extract]
    omega
  unfold setItem
  try with_reducible refine wpAny_holding ?_
  first | refine wpAny_bind (wpAny_pure ?_) | skip
  refine wpAny_bind (wpAny_sequenceKey tl.typeIs (by decide) ?_)
  refine wpAny_bind (wpAny_callSpecial?_slot (name := Str.ofString "__setitem__") tl.typeIs slot_list_setitem (wpAny_call_entry slot_list_setitem tl.typeIs entry_list_setitem ?_ (args_list_setitem _ _ _)))
  show wpAny _ _ (Builtin.List.listSubscript? (.ref sl) >>= _) _ _ s
  refine wpAny_bind ?_
  unfold Builtin.List.listSubscript?
  refine wpAny_bind (wpAny_specialOf ts slice_no_index ?_)
  simp only [Option.isNone_none, if_true]
  refine wpAny_pure ?_
  show wpAny _ _ (typeOf (.ref sl) >>= _) _ _ s
  refine wpAny_bind (wpAny_typeOf ts ?_)
  first | rw [if_neg (by decide)] | refine PySem.W.KFB.if_not (by decide) ?_
  rw [listSliceParts_eq]
  refine wpAny_bind (wpAny_bind (wpAny_field hos hds (x := .none) rfl (wpAny_bind (wpAny_listPart .none ?_))))
  rw [if_neg (show ¬ ((rawPart none == rawInt 0) = true) from Bool.false_ne_true)]
  refine wpAny_bind (wpAny_field hos hds (x := vl) rfl (wpAny_bind (wpAny_listPart pl (wpAny_bind (wpAny_field hos hds (x := vu) rfl (wpAny_bind (wpAny_listPart pu (wpAny_pure ?_))))))))
  first | simp only [ap, Bool.false_eq_true, if_false] | refine PySem.W.KFB.if_not ap ?_ | (dsimp only; rw [if_neg (by rw [ap]; exact Bool.false_ne_true)])
  refine wpAny_bind (m := Builtin.List.listAllItems (.ref b) "must assign iterable to extended slice") ?_
  unfold Builtin.List.listAllItems
  refine wpAny_bind (wpAny_typeOf tb.typeIs ?_)
  first | refine PySem.W.KFB.if_so (by decide) ?_ | rw [if_pos (by decide)] | simp only [beq_self_eq_true, Bool.true_or, if_true]
  unfold Builtin.List.listItems
  refine wpAny_bind (wpAny_seqItems e2 rfl (wpAny_pure (wpAny_bind (wpAny_bind (wpAny_seqItems e rfl (wpAny_pure ?_))))))
  refine wpAny_bind (wpAny_of_eq ((sliceIndices_raw (some (a : Int)) (some (c : Int)) none items.size (by simp)).trans (congrArg (pure : Int × Int × Int → Sem (Int × Int × Int)) (cut_run hac ha))) ?_)
  show wpAny _ _ (if ((1 : Int) == 1) = true then _ else _) _ _ s
  rw [if_pos (by decide)]
  refine wpAny_bind (wpAny_rule ?_)
  first | simp only [notLongL hsz, Bool.false_eq_true, if_false] | refine PySem.W.KFB.if_not (notLongL hsz) ?_
  first | refine wpAny_bind (wpAny_pure ?_) | skip
  show wpAny _ _ (updateSeq l (fun xs => xs.extract 0 ((a : Int)).toNat ++ new ++ xs.extract (max (a : Int) ((min c items.size : Nat) : Int)).toNat xs.size) >>= _) _ _ s
  rw [top, Int.toNat_natCast]
  refine wpAny_bind (wpAny_updateSeq (hz := Nat.le_trans (Nat.le_add_right _ _) hsz) (_hz' := big) e rfl (wpAny_bind (wpAny_letGo ?_)))
  first | exact wpAny_bind (wpAny_pure (wpAny_pure ⟨.none, rfl, wpAny_pure h⟩)) | exact wpAny_pure ⟨.none, rfl, wpAny_pure h⟩
end
section
variable {X : Cx} {o : Expr} {lo hi : Option Expr} {to : TE} {tl th : TO} {pos p2 : Pos}
def gSlS (to : TE) (tl th : TO) : TG := fun v σ H Q => to σ H fun x H1 => tl σ H1 fun l H2 => th σ H2 fun u H3 => ∃ (a b : Addr) (xs ys : List V) (i j : Nat), x = .ref a ∧ v = .ref b ∧ l = some (i : Int) ∧ u = some (j : Int) ∧ H3 a = some (.lst xs) ∧ H3 b = some (.lst ys) ∧ a ≠ b ∧ i ≤ j ∧ i ≤ xs.length ∧
  xs.length + ys.length ≤ sizeLine ∧ Q σ (upd H3 a (.lst (xs.take i ++ ys ++ xs.drop j)))
theorem pg_slS (ho : PE X o to) (hl : PO X lo tl) (hu : PO X hi th)
    (ha : ∀ v, assign (.Subscript o (.Slice lo hi none p2) pos) X.env v = (do
      let ov ← holding [v] (eval o X.env)
      let iv ← holding [v, ov] (eval (.Slice lo hi none p2) X.env)
      standAt pos
      holding [v, ov, iv] (setItem ov iv v)
      release [iv, v, ov] []) := by intro _; rfl) : PG X (.Subscript o (.Slice lo hi none p2) pos) (gSlS to tl th) := by
  refine ⟨fun pins s σ H v u Q I r h => ?_⟩
  rw [ha]
  refine wpAny_bind (wpAny_holding (thn (ho.run pins s σ H _ I h) fun ov s1 ⟨x, H1, I1, r1, q1⟩ => ?_))
  refine wpAny_bind (wpAny_holding ?_)
  refine wpAny_Slice (thn (hl.run pins s1 σ H1 _ I1 q1) fun vl s2 ⟨l, H2, I2, pl, q2⟩ => thn (hu.run pins s2 σ H2 _ I2 q2) fun vu s3 ⟨m, H3, I3, pu, q3⟩ => ?_)
  rw [evalPart_none]
  refine wpAny_pure ?_
  obtain ⟨a, b, xs, ys, i, j, rfl, rfl, rfl, rfl, ha', hb', hne, hij, hi, hz, q⟩ := q3
  obtain rfl : ov = Value.ref a := r1
  obtain rfl : u = Value.ref b := r
  have I4 : Inv X pins σ H3 { s3 with heap := s3.heap.push { cls := .type "slice", data := .fields #[vl, vu, .none] } } := I3.kept (t' := s3.toks) fun b ob q => Heap.get?_push_of_some _ q
  refine wpAny_bind (wpAny_standAt (wpAny_bind (wpAny_holding ?_)))
  obtain ⟨z, its, n, rv, hl1, e⟩ := I4.lstM ha'
  obtain ⟨z2, its2, n2, rv2, hl2, e2⟩ := I4.lstM hb'
  refine setItem_cut e e2 hne (Heap.IsSliceOf.new ..) pl pu hij (by rw [List.size_toArray]; omega) (by rw [List.size_toArray, List.size_toArray]; omega) (wpAny_release ⟨σ, _, ?_, q⟩)
  have hl1' := rv.length
  refine I4.lset (its' := its.take i ++ its2 ++ its.drop j) (t' := s3.toks) ha' e ?_ (Vals.append (Vals.append (rv.take _) rv2) (rv.drop _)) ?_
  · rw [show (its.toArray).size = its.length by simp]
    have := splice_eq its its2 i (min j its.length)
    rw [List.size_toArray] at this
    show its.toArray.extract 0 i ++ its2.toArray ++ its.toArray.extract (min j its.length) its.toArray.size = _
    rw [List.size_toArray, this]
    have ed : its.drop (min j its.length) = its.drop j := by
      by_cases hj : j ≤ its.length
      · rw [Nat.min_eq_left hj]
      · rw [List.drop_of_length_le (by omega), List.drop_of_length_le (by omega)]
    rw [ed]
  · rw [List.length_append, List.length_append, List.length_take, List.length_drop]
    omega
end
section
variable {K : PySem.W.Frag} {mg : Str → Option Value} {X : Cx} {W : WX} {pos p2 spos : Pos} {O V' : ME} {L U : MO'} {o value : Expr} {lo hi : Option Expr}
theorem ss_slS (ho : SE K mg W X o O) (hl : SO K mg W X lo L) (hu : SO K mg W X hi U) (hv : SE K mg W X value V')
    (ha : ∀ v, assign (.Subscript o (.Slice lo hi none p2) pos) X.env v = (do
      let ov ← holding [v] (eval o X.env)
      let iv ← holding [v, ov] (eval (.Slice lo hi none p2) X.env)
      standAt pos
      holding [v, ov, iv] (setItem ov iv v)
      release [iv, v, ov] []) := by intro _; rfl)
    (hs : swapsWithSole [.Subscript o (.Slice lo hi none p2) pos] value spos.line X.env = pure false := by rfl) (hw : swappedStores [.Subscript o (.Slice lo hi none p2) pos] value X.env = pure none := by rfl)
    (h1 : (assignEach [.Subscript o (.Slice lo hi none p2) pos] X.env).map (·.2) = [assign (.Subscript o (.Slice lo hi none p2) pos) X.env] := by rfl) :
    SS K mg W X (.Assign [.Subscript o (.Slice lo hi none p2) pos] value spos) (sSlS O L U V') := (ps_asg (se_set hv) (pg_slS ho hl hu ha) hs hw h1).imp fun D σ H ⟨m, σm, h, R, S, q⟩ => by
  refine ⟨m, σm, h, R, S, ?_⟩
  unfold sSlS at q
  cases ev : eSet V' σm h with
  | stuck => rw [ev] at q; exact q.elim
  | exc x h1 => rw [ev] at q; exact fun cls d m' H' e' R' x => q cls d σ m' H' e' R' (S.mono e'.gro) x
  | ok v h1 =>
    rw [ev, Res.ok_st] at q
    intro v' m1 H1 e1 R1 d1
    have d1' := d1.dv (eSet_ns ev)
    have S1 := S.mono e1.gro
    refine ⟨m1, σm, h1, R1, S1, rs.part S1 (rs.ext e1 R1 q) fun x h2 x' m2 H2 e2 R2 d2 q2 => ?_⟩
    have S2 := S1.mono e2.gro
    refine ⟨m2, σm, h2, R2, S2, rs.part S2 (rs.ext e2 R2 q2) fun a h3 a' m3 H3 e3 R3 d3 q3 => ?_⟩
    have S3 := S2.mono e3.gro
    refine ⟨m3, σm, h3, R3, S3, rs.part S3 (rs.ext e3 R3 q3) fun b h4 b' m4 H4 e4 R4 d4 q4 => ?_⟩
    cases (show a = a' from d3)
    cases (show b = b' from d4)
    cases ep : slsM x v a b h4 with
    | none => rw [ep] at q4; exact q4.elim
    | some h5 =>
      rw [ep] at q4
      unfold slsM at ep
      split at ep
      · rename_i n k i j
        split at ep
        · rename_i xs ys eo ek
          split at ep
          · rename_i hb
            cases ep
            obtain ⟨hb1, hb2, hb3, hb4, hb5⟩ := hb
            cases ((d2.mono e3).mono e4).dv (fun _ => MV.noConfusion) with
            | @ref _ ax hn =>
              cases ((d1'.mono e2.gro).mono e3.gro).mono e4.gro with
              | @ref _ bx hk =>
                obtain ⟨us, k1, k2⟩ := R4.at_ eo hn
                obtain ⟨ws, k3, k4⟩ := R4.at_ ek hk
                have ha : ax ∈ m4 := List.mem_of_getElem? hn
                have nab : ax ≠ bx := fun z => by
                  subst z
                  obtain ⟨i1, z1⟩ := List.getElem?_eq_some_iff.mp hn
                  obtain ⟨i2, z2⟩ := List.getElem?_eq_some_iff.mp hk
                  exact hb1 ((List.getElem_inj R4.nd).mp (z1.trans z2.symm))
                have ex : Ext m4 H4 m4 (upd H4 ax (.lst (us.take i.toNat ++ ws ++ us.drop j.toNat))) := Ext.upd_at ha (fun _ _ z => by rw [k1] at z; cases z)
                have lu := k2.length
                have lw := k4.length
                refine ⟨ax, bx, us, ws, i.toNat, j.toNat, rfl, rfl, by rw [Int.toNat_of_nonneg hb2], by rw [Int.toNat_of_nonneg (by omega)], k1, k3, nab, by omega, by omega, by omega, ?_⟩
                exact q4 σ m4 _ (e4.trans ex) (R4.write hn ⟨_, upd_same, (((k2.take _).append k4).append (k2.drop _)).mono ex.gro⟩) ((S3.mono e4.gro).mono ex.gro)
          · cases ep
        · cases ep
      · cases ep
end
/-! #### len(o), repr(o) by own defs -/
def lenOK (v : MV) (h2 : MH) : Res MV := match v with
  | .int i => if 0 ≤ i ∧ i < 1000000 then .ok (.int i) h2 else .stuck
  | _ => .stuck
def repOK (v : MV) (h2 : MH) : Res MV := match v with
  | .str y => .ok (.str y) h2
  | _ => .stuck
/-- len(o), repr(o) -/
def eOwn (c mm : Str) (K : MV → MH → Res MV) (g : List MV → List MV → List MV) (code : MF) (A : ME) : ME := fun σ h => (A σ h).bind fun x h1 => onIns c mm x h1 fun n => (code (g [.ref n] []) h1).bn K
section
variable {K : PySem.W.Frag} {mg : Str → Option Value} {X : Cx} {W : WX} {pos p : Pos} {A : ME} {e : Expr} {c : Str} {C f : Addr} {k : Nat} {fd : FuncData} {ps : List Str} {code : MF} {g : List MV → List MV → List MV}
theorem run_fnM1 {pins : List (Addr × Obj)} {σ : L2.St} {H : Hp} {s : Shared} {Q : VK} {m : List Addr} {h : MH} {us : List Value} {va : List V} {xs : List MV} {n : Nat} (F : FnM X.prog X.w X.K X.mg X.base k f fd ps code) (hr : Room (k + 1) X.A) (hgd : X.A.guards = some []) (hb : BnM X.K X.mg fd ps n [] g) (tk : Takes X W)
    (I : L2.Inv X pins σ H s) (r1 : Vals va us) (l1 : us.length = n) (R : Rep X.K X.mg m H h) (d1 : DvAll X.K X.mg m H xs va) (q : rg X.K X.mg (DV X.K X.mg) W0 σ m H (code (g xs []) h) Q) :
    wpAny (model X.prog X.w) X.A.in1 (call (.ref f) us) (EP X pins σ Q) (fun _ _ => False) s := by
  obtain ⟨zs, b, lz, bv⟩ := hb.to s us [] I.kIn l1 rfl
  obtain ⟨vc, d3, r3⟩ := bv m H xs [] va [] d1 r1 .nil .nil
  refine wpAny_call (codeAny_mono (F.run X.A.in1 X.stack s H ⟨us, []⟩ zs vc Q (fun _ _ _ => False) m h (g xs []) hr.in1 hgd I.env0.in1 b r3 (by rw [r3.length]; exact lz) R d3 ?_) fun r s' hq => ?_)
  · cases ec : code (g xs []) h with
    | ok v h' => rw [ec] at q; exact q
    | exc x h' => rw [ec] at q; exact q
    | stuck => rw [ec] at q; exact q
  · cases r with
    | error e => 
      obtain ⟨_, _, _, _, _, _, _, _, _, _, _, _, no⟩ := hq
      exact no.elim
    | ok fl =>
      cases fl with
      | ret u => exact I.after hq
      | _ => exact False.elim hq
variable (F : FnM X.prog X.w K mg X.base k f fd ps code) (hr : Room (k + 1) X.A) (hgd : X.A.guards = some []) (hb : BnM K mg fd ps 1 [] g) (tk : Takes X W) (hC : mg c = some (.ref C))
include F hr hgd hb tk hC
theorem se_lenO (hmt : Meth K C "__len__" f) (hm : mg "len" = none) (hg : Gl X "len") (ha : SE K mg W X e A) (hK : X.K = K := by rfl) (hM : X.mg = mg := by rfl) (hv : bootBuiltins "len" = some (.builtin "len") := by decide +kernel) (he : starEach [e] X.env = (false, eval e X.env) :: starEach [] X.env := by rfl) :
    SE K mg W X (.Call (.Name "len" p) [e] [] pos) (eOwn c "__len__" lenOK g code A) := by
  subst hK hM
  have rule : CallR X (.builtin "len") (fun xs H Q => ∃ m h n a dx fs σ, xs = [V.ref a] ∧ Rep X.K X.mg m H h ∧ m[n]? = some a ∧ H a = some (.ins C dx fs) ∧ rg X.K X.mg (DV X.K X.mg) W σ m H ((code (g [.ref n] []) h).bn lenOK) Q) := by
    intro pins s σ H xs us Q I r ⟨m, h, n, a, dx, fs, σ', ex, R, hn, ea, q⟩
    subst ex
    obtain ⟨u, rfl, ru⟩ := Vals.one r
    cases (show u = Value.ref a from ru)
    obtain ⟨mA, O, _⟩ := ins_get I.hok ea
    obtain ⟨od, J, _⟩ := O.look
    obtain ⟨mm, hF⟩ := I.fr
    refine PySem.W.len_K hF I.ok.mod.kin J hmt.at_ hmt.fn (wpAny_mono (run_fnM1 (Q := fun z H' => ∃ i : Int, z = .int i ∧ 0 ≤ i ∧ i < 2 ^ 63 ∧ Q (.int i) H') (va := [.ref a]) (us := [.ref a]) F hr hgd hb tk I (.cons rfl .nil) rfl R (.cons (.ref hn) .nil) (rg.bn q fun v h1 v' m1 H1 e1 R1 d1 q1 => ?_)) (fun w s' z => ?_) fun _ _ x => x.elim)
    · unfold lenOK at q1
      split at q1
      · split at q1
        · rename_i hi
          cases d1.dv (fun _ => MV.noConfusion)
          exact ⟨_, rfl, hi.1, by omega, q1 _ m1 H1 e1 R1 (.v (.int _))⟩
        · exact q1.elim
      · exact q1.elim
    · obtain ⟨z', H', I', rz, i, rfl, i0, i1, qz⟩ := z
      obtain ⟨t, e⟩ := (show ∃ t, w = Value.int i t from rz)
      cases e
      exact ⟨⟨i0, i1⟩, .int i, H', I'.tok _, ⟨_, rfl⟩, qz⟩
  refine (pe_callB rule hg hm hv (pa_cons ha pa_nil he) (by decide) (by decide) he rfl).imp fun σ H Q ⟨m, σm, h, R, S, q⟩ => ?_
  refine ⟨m, σm, h, R, S, rg.bind q fun x h1 x' m1 H1 e1 R1 d1 q1 => ?_⟩
  obtain ⟨n, a, C', dx, fs, rfl, rfl, hn, hC', ea, lf, q2⟩ := recv R1 d1 q1
  rw [hC] at hC'
  cases hC'
  exact ⟨m1, h1, n, a, dx, fs, σ, rfl, R1, hn, ea, rg.ext dmV e1 R1 q2⟩
theorem se_reprO (hmt : Meth K C "__repr__" f) (hm : mg "repr" = none) (hg : Gl X "repr") (ha : SE K mg W X e A) (hK : X.K = K := by rfl) (hM : X.mg = mg := by rfl) (hv : bootBuiltins "repr" = some (.builtin "repr") := by decide +kernel) (he : starEach [e] X.env = (false, eval e X.env) :: starEach [] X.env := by rfl) :
    SE K mg W X (.Call (.Name "repr" p) [e] [] pos) (eOwn c "__repr__" repOK g code A) := by
  subst hK hM
  have rule : CallR X (.builtin "repr") (fun xs H Q => ∃ m h n a dx fs σ, xs = [V.ref a] ∧ Rep X.K X.mg m H h ∧ m[n]? = some a ∧ H a = some (.ins C dx fs) ∧ rg X.K X.mg (DV X.K X.mg) W σ m H ((code (g [.ref n] []) h).bn repOK) Q) := by
    intro pins s σ H xs us Q I r ⟨m, h, n, a, dx, fs, σ', ex, R, hn, ea, q⟩
    subst ex
    obtain ⟨u, rfl, ru⟩ := Vals.one r
    cases (show u = Value.ref a from ru)
    obtain ⟨mA, O, _⟩ := ins_get I.hok ea
    obtain ⟨od, J, _⟩ := O.look
    obtain ⟨mm, hF⟩ := I.fr
    refine PySem.W.repr_K (Room.in1 hr).units0 hF I.ok.mod.kin J hmt.at_ hmt.fn (wpAny_mono (run_fnM1 (Q := fun z H' => ∃ y : Str, z = .str y ∧ Q (.str y) H') (va := [.ref a]) (us := [.ref a]) F hr hgd hb tk I (.cons rfl .nil) rfl R (.cons (.ref hn) .nil) (rg.bn q fun v h1 v' m1 H1 e1 R1 d1 q1 => ?_)) (fun w s' z => ?_) fun _ _ x => x.elim)
    · unfold repOK at q1
      split at q1
      · cases d1.dv (fun _ => MV.noConfusion)
        exact ⟨_, rfl, q1 _ m1 H1 e1 R1 (.v (.str _))⟩
      · exact q1.elim
    · obtain ⟨z', H', I', rz, y, rfl, qz⟩ := z
      obtain ⟨t, e⟩ := (show ∃ t, w = Value.str y t from rz)
      cases e
      exact ⟨.str y, H', I', ⟨t, rfl⟩, qz⟩
  refine (pe_callB rule hg hm hv (pa_cons ha pa_nil he) (by decide) (by decide) he rfl).imp fun σ H Q ⟨m, σm, h, R, S, q⟩ => ?_
  refine ⟨m, σm, h, R, S, rg.bind q fun x h1 x' m1 H1 e1 R1 d1 q1 => ?_⟩
  obtain ⟨n, a, C', dx, fs, rfl, rfl, hn, hC', ea, lf, q2⟩ := recv R1 d1 q1
  rw [hC] at hC'
  cases hC'
  exact ⟨m1, h1, n, a, dx, fs, σ, rfl, R1, hn, ea, rg.ext dmV e1 R1 q2⟩
end
/-! #### f-strings -/
def fmtM (x : MV) (h : MH) : Res MV := match x with
  | .str y => if y.length ≤ sizeLine then .ok (.str y) h else .stuck
  | .int i => if i.natAbs.log2 < 1920 then .ok (.str (toString i)) h else .stuck
  | _ => .stuck
abbrev MJ := Str → MS → MH → Res Str
def jNil : MJ := fun acc _ h => .ok acc h
def jCons (A : ME) (R : MJ) : MJ := fun acc σ h => (A σ h).bind fun v h1 => match v with
  | .str y => if (acc ++ y).length ≤ sizeLine then R (acc ++ y) σ h1 else .stuck
  | _ => .stuck
def eFs (J : MJ) : ME := fun σ h => (J Str.empty σ h).bind fun y h1 => .ok (.str y) h1
section
variable {K : PySem.W.Frag} {mg : Str → Option Value} {X : Cx} {W : WX} {pos : Pos} {A : ME} {e : Expr}
theorem se_fmt (ha : SE K mg W X e A) : SE K mg W X (.FormattedValue e (-1) none pos) (eUn fmtM A) := (pe_fmt ha).imp fun σ H Q ⟨m, σm, h, R, S, q⟩ => by
  refine ⟨m, σm, h, R, S, rg.bind q fun x h1 x' m1 H1 e1 R1 d1 q1 => ?_⟩
  unfold fmtM at q1
  split at q1
  · split at q1
    · rename_i y hy
      cases d1.dv (fun _ => MV.noConfusion)
      exact .inl ⟨y, rfl, hy, q1 _ m1 H1 e1 R1 (.v (.str _))⟩
    · exact q1.elim
  · split at q1
    · rename_i i hi
      cases d1.dv (fun _ => MV.noConfusion)
      exact .inr ⟨i, rfl, hi, q1 _ m1 H1 e1 R1 (.v (.str _))⟩
    · exact q1.elim
  · exact q1.elim
inductive SJ (K : PySem.W.Frag) (mg : Str → Option Value) (W : WX) (X : Cx) : List Expr → MJ → List TE → Prop
  | nil : SJ K mg W X [] jNil []
  | cons {e : Expr} {es : List Expr} {A : ME} {J : MJ} {ts : List TE} : SE K mg W X e A → SJ K mg W X es J ts → SJ K mg W X (e :: es) (jCons A J) (tg K mg (DV K mg) W A :: ts)
theorem SJ.pj {es : List Expr} {J : MJ} {ts : List TE} (s : SJ K mg W X es J ts) : PJ X es ts := by
  induction s with
  | nil => exact .nil
  | cons h _ ih => exact .cons h ih
abbrev DS' : Hp → List Addr → Hp → Str → Str → Prop := fun _ _ _ a b => a = b
theorem dmS' : DM K mg DS' := ⟨fun _ _ d => d⟩
theorem SJ.read {es : List Expr} {J : MJ} {ts : List TE} (s : SJ K mg W X es J ts) : ∀ {acc : Str} {σ : L2.St} {H : Hp} {Q : Str → Hp → Prop} {m : List Addr} {σm : MS} {h : MH}, Rep K mg m H h → SRel K mg m H σm σ → rg K mg DS' W σ m H (J acc σm h) Q → tJs ts acc σ H Q := by
  induction s with
  | nil => exact fun R S q => rg.here q R rfl
  | @cons e es A J ts ha s ih =>
    intro acc σ H Q m σm h R S q
    refine ⟨m, σm, h, R, S, rg.bind q fun x h1 x' m1 H1 e1 R1 d1 q1 => ?_⟩
    split at q1
    · split at q1
      · rename_i y hy
        cases d1.dv (fun _ => MV.noConfusion)
        exact ⟨y, rfl, hy, ih R1 (S.mono e1.gro) (rg.ext dmS' e1 R1 q1)⟩
      · exact q1.elim
    · exact q1.elim
theorem se_fs {v1 v2 : Expr} {rest : List Expr} {J : MJ} {ts : List TE} (s : SJ K mg W X (v1 :: v2 :: rest) J ts) : SE K mg W X (.JoinedStr (v1 :: v2 :: rest) pos) (eFs J) := (pe_joined s.pj).imp fun σ H Q ⟨m, σm, h, R, S, q⟩ => by
  refine s.read R S (rg.bind q fun y h1 y' m1 H1 e1 R1 d1 q1 => ?_)
  cases (show y = y' from d1)
  exact q1 _ m1 H1 e1 R1 (.v (.str y))
end
end Mi

set_option maxHeartbeats 400000
/-! ### reckoning with dicts, texts, rows -/
namespace Mi
open PySem PySem.Spec PyProof.Rows L2
variable [TheW]
section
variable {h : MH} {σ : MS} {r q : Nat} {v w x y : MV} {xs ys : List MV} {kvs : List (MV × MV)} {k : Key} {z : Str}
@[simp] theorem asD_tmp : asD h (.tmp xs) = none := id rfl
@[simp] theorem asD_con : asD h (.con xs) = none := id rfl
@[simp] theorem asD_str : asD h (.str z) = none := id rfl
@[simp] theorem asD_tup : asD h (.tup xs) = none := id rfl
theorem asD_dic (e : h[q]? = some (.dic kvs)) : asD h (.ref q) = some kvs := by simp [asD, e]
theorem asD_lst (e : h[q]? = some (.lst xs)) : asD h (.ref q) = none := by simp [asD, e]
@[simp] theorem ixD_tmp : ixD (.tmp xs) y h = ixM (.tmp xs) y h := id rfl
@[simp] theorem ixD_con : ixD (.con xs) y h = ixM (.con xs) y h := id rfl
@[simp] theorem ixD_tup : ixD (.tup xs) y h = ixM (.tup xs) y h := id rfl
@[simp] theorem ixD_str : ixD (.str z) y h = ixM (.str z) y h := id rfl
theorem ixD_lst (e : h[q]? = some (.lst xs)) : ixD (.ref q) y h = ixM (.ref q) y h := by simp [ixD, asD_lst e]
theorem ixD_dic (e : h[q]? = some (.dic kvs)) (a : asK y = some k) (g : getD kvs k = some v) : ixD (.ref q) y h = .ok v h := by simp [ixD, asD_dic e, a, g]
@[simp] theorem lenD_tmp : lenD (.tmp xs) h = lenM (.tmp xs) h := id rfl
@[simp] theorem lenD_con : lenD (.con xs) h = lenM (.con xs) h := id rfl
@[simp] theorem lenD_tup : lenD (.tup xs) h = lenM (.tup xs) h := id rfl
@[simp] theorem lenD_str : lenD (.str z) h = lenM (.str z) h := id rfl
theorem lenD_ref (e : h[q]? = some (.lst xs)) : lenD (.ref q) h = .ok (.int xs.length) h := by simp [lenD, asD_lst e, len_ref e]
theorem lenD_dic (e : h[q]? = some (.dic kvs)) : lenD (.ref q) h = .ok (.int kvs.length) h := by simp [lenD, asD_dic e]
def sSubDK (o v : MV) (σ : MS) (i : MV) (h3 : MH) : SR := match setD o i v h3 with
  | some h4 => .next σ h4
  | none => .stuck
@[simp] theorem sSubD_ap {O I V : ME} : sSubD O I V σ h = (eSet V σ h).st σ fun v h1 => (O σ h1).st σ fun o h2 => (I σ h2).st σ (sSubDK o v σ) := id rfl
theorem sSubDK_lst (e : h[q]? = some (.lst xs)) : sSubDK (.ref q) v σ x h = sSubK (.ref q) v σ x h := by
  unfold sSubDK sSubK setD
  rw [asD_lst e]
  try rfl
theorem sSubDK_dic (e : h[q]? = some (.dic kvs)) (a : asK x = some k) (l : kvs.length < sizeLine) : sSubDK (.ref q) v σ x h = .next σ (h.set q (.dic (putD kvs k v))) := by
  unfold sSubDK setD
  rw [asD_dic e]
  simp [a, l]
theorem seq_at {s t : MSt} {σ1 : MS} {h1 : MH} (e : s σ h = .next σ1 h1) : sSeq s t σ h = t σ1 h1 := by
  show (match s σ h with | .next σ' h' => t σ' h' | r => r) = _
  rw [e]
theorem out_of {n : Nat} {b : MSt} {res : SR} {rv : Res MV} (e : b (xs.map some ++ List.replicate (n - xs.length) none) h = res) (o : res.out = rv) : fnCode n b xs h = rv := by
  rw [← o, ← e]
  rfl
/-! texts -/
theorem st_inj {a b : List Nat} (h : st a = st b) : a = b := by
  have := congrArg (fun z : Str => z.cps.toList) h
  simpa [st] using this
theorem st_take (l : List Nat) (i : Nat) : cutS (st l) none (some (i : Int)) = st (l.take i) := by
  unfold cutS
  rw [HT.sIx_none, HT.sIx_nat, st_len, st_codes]
  show st _ = _
  congr 1
  rw [List.drop_zero, Nat.sub_zero]
  by_cases h : i ≤ l.length
  · rw [Nat.min_eq_left h]
  · rw [Nat.min_eq_right (by omega), List.take_of_length_le (Nat.le_refl _), List.take_of_length_le (by omega)]
theorem st_drop (l : List Nat) (i : Nat) : cutS (st l) (some (i : Int)) none = st (l.drop i) := by
  unfold cutS
  rw [HT.sIx_none, HT.sIx_nat, st_len, st_codes]
  show st _ = _
  congr 1
  by_cases h : i ≤ l.length
  · rw [Nat.min_eq_left h, List.take_of_length_le (by rw [List.length_drop]; exact Nat.le_refl _)]
  · rw [Nat.min_eq_right (by omega), List.drop_of_length_le (Nat.le_refl _), List.drop_of_length_le (by omega), List.take_nil]
theorem cutM_take (l : List MV) (i : Nat) : cutM l none (some (i : Int)) = l.take i := by
  unfold cutM
  rw [HT.sIx_none, HT.sIx_nat, List.drop_zero, Nat.sub_zero]
  by_cases h : i ≤ l.length
  · rw [Nat.min_eq_left h]
  · rw [Nat.min_eq_right (by omega), List.take_of_length_le (Nat.le_refl _), List.take_of_length_le (by omega)]
theorem cutM_drop (l : List MV) (i : Nat) : cutM l (some (i : Int)) none = l.drop i := by
  unfold cutM
  rw [HT.sIx_none, HT.sIx_nat]
  by_cases h : i ≤ l.length
  · rw [Nat.min_eq_left h, List.take_of_length_le (by rw [List.length_drop]; exact Nat.le_refl _)]
  · rw [Nat.min_eq_right (by omega), List.drop_of_length_le (Nat.le_refl _), List.drop_of_length_le (by omega), List.take_nil]
theorem foldl_app : ∀ (ls : List (Array Nat)) (a : Array Nat), (ls.foldl (· ++ ·) a).toList = a.toList ++ (ls.map Array.toList).flatten
  | [], a => by simp
  | x :: ls, a => by
    rw [List.foldl_cons, foldl_app ls, List.map_cons, List.flatten_cons, ← List.append_assoc, Array.toList_append]
theorem st_mul (l : List Nat) (n : Nat) : Txt.mul (st l) (n : Int) = st ((List.replicate n l).flatten) := by
  unfold Txt.mul
  by_cases h0 : n = 0
  · subst h0
    rw [if_pos (by decide)]
    rfl
  · rw [if_neg (by omega)]
    by_cases h1 : ((n : Int) == 1 || (st l).length == 0) = true
    · rw [if_pos h1]
      rcases Bool.or_eq_true_iff.mp h1 with h | h
      · have : n = 1 := by have := eq_of_beq h; omega
        subst this
        simp
      · have : (st l).length = 0 := eq_of_beq h
        rw [st_len] at this
        have e := List.eq_nil_of_length_eq_zero this
        subst e
        have : (List.replicate n ([] : List Nat)).flatten = [] := by
          induction n with
          | zero => rfl
          | succ m _ => simp
        rw [this]
    · rw [if_neg h1, Int.toNat_natCast]
      have := foldl_app (List.replicate n (st l).cps) #[]
      have e : (⟨(List.replicate n (st l).cps).foldl (· ++ ·) #[]⟩ : Str) = st ((List.replicate n (st l).cps).foldl (· ++ ·) #[]).toList := (st_of _).symm
      rw [e, this, List.map_replicate, st_codes]
      rfl
theorem st_rep (c n : Nat) : Txt.mul (st [c]) (n : Int) = st (List.replicate n c) := by
  rw [st_mul]
  congr 1
  induction n with
  | zero => rfl
  | succ n ih => simpa [List.replicate_succ] using ih
theorem sz {n : Nat} (h : n ≤ 100000) : n ≤ sizeLine := by rw [sizeLine_eq]; omega
theorem mul_rep {c n : Nat} (l : n ≤ 100000) : mulM (.str (st [c])) (.int (n : Int)) h = .ok (.str (st (List.replicate n c))) h := by
  rw [← st_rep]
  exact if_pos ⟨by rw [st_len, List.length_singleton, Int.toNat_natCast]; omega, by omega, by omega⟩
theorem mul_lst {n : Nat} (l : n ≤ 100000) : mulM (.tmp [v]) (.int (n : Int)) h = .ok (.tmp (List.replicate n v)) h := by
  have e : (List.replicate n [v]).flatten = List.replicate n v := by
    induction n with
    | zero => rfl
    | succ n ih => simpa [List.replicate_succ] using ih (by omega)
  rw [← e]
  have c : -(2 ^ 63) ≤ (n : Int) ∧ (n : Int) < 2 ^ 63 ∧ [v].length * (n : Int).toNat ≤ sizeLine := ⟨by omega, by omega, by rw [List.length_singleton, Int.toNat_natCast, Nat.one_mul]; exact sz l⟩
  simp only [mulM, asL0]
  rw [if_pos c, Int.toNat_natCast]
theorem add_st {a b : List Nat} (l : a.length + b.length ≤ 100000) : addM (.str (st a)) (.str (st b)) h = .ok (.str (st (a ++ b))) h := by
  rw [← st_app]
  exact if_pos (by rw [st_len, st_len]; exact sz l)
theorem add_rt (e : h[r]? = some (.lst xs)) (l : xs.length + ys.length ≤ 100000) : addM (.ref r) (.tmp ys) h = .ok (.tmp (xs ++ ys)) h := by
  have c : xs.length + ys.length ≤ sizeLine := sz l
  simp only [addM, asL0, e, if_pos c]
theorem len_st {a : List Nat} (l : a.length ≤ 100000) : lenM (.str (st a)) h = .ok (.int a.length) h := by
  show (if _ then _ else _) = _
  rw [st_len, if_pos (sz l)]
theorem sl_take {a : List Nat} {i : Nat} (l : a.length ≤ 100000) : slM (.str (st a)) none (some (i : Int)) h = .ok (.str (st (a.take i))) h := by
  rw [← st_take]
  exact if_pos (by rw [st_len]; exact sz l)
theorem sl_drop {a : List Nat} {i : Nat} (l : a.length ≤ 100000) : slM (.str (st a)) (some (i : Int)) none h = .ok (.str (st (a.drop i))) h := by
  rw [← st_drop]
  exact if_pos (by rw [st_len]; exact sz l)
theorem sl_rtake {i : Nat} (e : h[r]? = some (.lst xs)) : slM (.ref r) none (some (i : Int)) h = .ok (.tmp (xs.take i)) h := by
  simp [slM, asL, e, cutM_take]
theorem sl_rdrop {i : Nat} (e : h[r]? = some (.lst xs)) : slM (.ref r) (some (i : Int)) none h = .ok (.tmp (xs.drop i)) h := by
  simp [slM, asL, e, cutM_drop]
theorem join_at {l : List Nat} (hl : l.length ≤ 1000) : joinM (.str "") (.tmp (l.map fun c => .str (st [c]))) h = .ok (.str (st l)) h := by
  have mm : ∀ l : List Nat, (l.map fun c => MV.str (st [c])).mapM asS = some (l.map fun c => st [c]) := fun l => by
    induction l with
    | nil => rfl
    | cons x l ih =>
      rw [List.map_cons, List.mapM_cons, ih]
      rfl
  have e : (asQ h (.tmp (l.map fun c => .str (st [c])))).bind (fun xs => xs.mapM asS) = some (l.map fun c => st [c]) := mm l
  have e0 : ("" : Str) = st [] := by decide
  unfold joinM
  rw [e, e0]
  refine (if_pos (sizeJ l hl)).trans ?_
  rw [join_st]
theorem ix_st {T : Str} {i : Int} (hT : T.cps.toList.all (fun c => decide (c < 128)) = true) (hl : T.length ≤ 100000) (a : 0 ≤ i) (b : i < T.length) : ∃ c, ixM (.str T) (.int i) h = .ok (.str (st [c])) h ∧ c < 128 := by
  obtain ⟨c, e, m⟩ := atI_nn (xs := T.cps.toList) a (by rw [← cps_len]; exact b)
  refine ⟨c, ?_, ?_⟩
  · show (if T.length ≤ sizeLine then _ else _) = _
    rw [if_pos (sz hl), e]
    rfl
  · have := List.all_eq_true.mp hT c m
    simpa using this
theorem draws {te : ME} {i n : Nat} (hn : n ≤ 1000) (p : Rm h r)
    (step : ∀ h x, Rm h r → ∃ c h', eSet te (σ.set i (some x)) h = .ok (.str (st [c])) h' ∧ c < 128 ∧ Rm h' r ∧ Fr r h h' ∧ h'.length = h.length) :
    ∃ (l : List Nat) (h' : MH), compL (fun _ => true) (gN i) tYesM te σ (upInts 0 n) [] h = .ok (.tmp (l.map fun c => .str (st [c]))) h' ∧ l.length = n ∧ (∀ c ∈ l, c < 128) ∧ Rm h' r ∧ Fr r h h' ∧ h'.length = h.length := by
  have hu : (upInts 0 n).length = n := by simp [upInts]
  obtain ⟨ys, h', e, ⟨p1, p2, p3, l, rfl, hl⟩, len⟩ := compL_inv (st := fun _ => true) (g := gN i) (tt := tYesM) (te := te) (σ := σ) (fun _ acc h' => Rm h' r ∧ Fr r h h' ∧ h'.length = h.length ∧ ∃ l : List Nat, acc = l.map (fun c => MV.str (st [c])) ∧ ∀ c ∈ l, c < 128) (upInts 0 n) [] [] h
    (by rw [hu]; exact Nat.le_trans (by simpa using hn) (by decide)) ⟨p, Fr.refl, rfl, [], rfl, by simp⟩ (fun _ _ _ _ => rfl) fun done x acc h1 hx ⟨a1, a2, a3, l, a4, a5⟩ => by
      obtain ⟨c, h2, b1, b2, b3, b4, b5⟩ := step h1 x a1
      refine ⟨_, h1, h1, _, h2, rfl, rfl, b1, b3, a2.trans b4, b5.trans a3, l ++ [c], by simp [a4], fun d hd => ?_⟩
      rcases List.mem_append.mp hd with q | q
      · exact a5 d q
      · cases List.mem_singleton.mp q
        exact b2
  refine ⟨l, h', e, ?_, hl, p1, p2, p3⟩
  rw [List.length_map, hu] at len
  simpa using len
theorem app_at (e : h[r]? = some (.lst xs)) (l : xs.length < 100000) : appM (.ref r) [v] h = .ok .non (h.set r (.lst (xs ++ [v]))) := by
  have c : xs.length < sizeLine := by rw [sizeLine_eq]; omega
  simp only [appM, e, if_pos c]
def lmK (f : MV → List MV → MH → Res MV) (AL : MA) (σ : MS) (x : MV) (h1 : MH) : Res MV := match asL h1 x with
  | some _ => (AL σ h1).bind fun xs h2 => f x xs h2
  | none => .stuck
@[simp] theorem eLM_ap {f : MV → List MV → MH → Res MV} {A : ME} {AL : MA} : eLM f A AL σ h = (eSet A σ h).bind (lmK f AL σ) := id rfl
theorem lmK_at {f : MV → List MV → MH → Res MV} {AL : MA} (e : h[r]? = some (.lst xs)) : lmK f AL σ (.ref r) h = (AL σ h).bind fun xs h2 => f (.ref r) xs h2 := by
  unfold lmK
  simp only [asL, e]
theorem list_ref (e : h[r]? = some (.lst xs)) : listM (.ref r) h = .ok (.tmp xs) h := by simp [listM, asL, e]
def parK (i j : Nat) (σ : MS) (vs : List MV) (h1 : MH) : SR := match vs with
  | [v, w] => .next ((σ.set i (some v)).set j (some w)) h1
  | _ => .stuck
@[simp] theorem parK_at {i j : Nat} : parK i j σ [v, w] h = .next ((σ.set i (some v)).set j (some w)) h := id rfl
@[simp] theorem sPar_ap {i j : Nat} {A : MA} : sPar i j A σ h = (A σ h).st σ (parK i j σ) := id rfl
@[simp] theorem isM_at : isM x .non h = .ok (.bl (isNonM x)) h := id rfl
@[simp] theorem isM_bl {a b : Bool} : isM (.bl a) (.bl b) h = .ok (.bl (decide (a = b))) h := id rfl
@[simp] theorem isNotM_bl {a b : Bool} : isNotM (.bl a) (.bl b) h = .ok (.bl (!decide (a = b))) h := id rfl
@[simp] theorem isNotM_at : isNotM x .non h = .ok (.bl (!isNonM x)) h := id rfl
@[simp] theorem isNon_non : isNonM .non = true := id rfl
@[simp] theorem isNon_str : isNonM (.str z) = false := id rfl
@[simp] theorem isNon_ref : isNonM (.ref r) = false := id rfl
@[simp] theorem isNon_int {i : Int} : isNonM (.int i) = false := id rfl
@[simp] theorem isNon_tup : isNonM (.tup xs) = false := id rfl
theorem ne_str {a b : Str} : neM (.str a) (.str b) h = .ok (.bl (!decide (a = b))) h := by
  have e : PyData.eqv (.str a) (.str b) = decide (a = b) := by
    rw [Bool.eq_iff_iff]
    simp [PyData.eqv]
  have s : ∀ a, snap 30 h (.str a) = some (.str a) := fun _ => rfl
  simp only [neM, farL, asL, s, e]
  rfl
theorem ne_int {a b : Int} : neM (.int a) (.int b) h = .ok (.bl (!decide (a = b))) h := by
  have e : PyData.eqv (.int a) (.int b) = decide (a = b) := by
    rw [Bool.eq_iff_iff]
    simp [PyData.eqv]
  have s : ∀ a, snap 30 h (.int a) = some (.int a) := fun _ => rfl
  simp only [neM, farL, asL, s, e]
  rfl
theorem eq_int {a b : Int} : eqM (.int a) (.int b) h = .ok (.bl (decide (a = b))) h := by
  have e : PyData.eqv (.int a) (.int b) = decide (a = b) := by
    rw [Bool.eq_iff_iff]
    simp [PyData.eqv]
  have s : ∀ a, snap 30 h (.int a) = some (.int a) := fun _ => rfl
  simp only [eqM, farL, asL, s, e]
  rfl
def eEnmK (v : MV) (h1 : MH) : Res MW := match v with
  | .str z => .ok ⟨enumL 0 (signs z), fun _ => true⟩ h1
  | _ => .stuck
theorem signs_st {l : List Nat} : signs (st l) = l.map fun c => MV.str (st [c]) := by
  unfold signs
  rw [st_codes]
  rfl
theorem iEnm_st {A : ME} {a : List Nat} {h1 : MH} (e : A σ h = .ok (.str (st a)) h1) : iEnm A σ h = .ok ⟨enumL 0 (a.map fun c => MV.str (st [c])), fun _ => true⟩ h1 := by
  unfold iEnm
  rw [e]
  show Res.ok (MW.mk (enumL 0 (signs (st a))) _) _ = _
  rw [signs_st]
@[simp] theorem gT2 {i j : Nat} : gT 2 (gsCons (gN i) (gsCons (gN j) gsNil)) (.tup [v, w]) σ h = .ok ((σ.set i (some v)).set j (some w)) h := id rfl
def slSK (o v : MV) (lo hi : Option Int) (σ : MS) (h4 : MH) : SR := match slsM o v lo hi h4 with
  | some h5 => .next σ h5
  | none => .stuck
@[simp] theorem sSlS_ap {O V : ME} {L U : MO'} : sSlS O L U V σ h = (eSet V σ h).st σ fun v h1 => (O σ h1).st σ fun o h2 => (L σ h2).st σ fun lo h3 => (U σ h3).st σ fun hi h4 => slSK o v lo hi σ h4 := id rfl
theorem slSK_at {k i j : Nat} (e1 : h[r]? = some (.lst xs)) (e2 : h[k]? = some (.lst ys)) (ne : r ≠ k) (ij : i ≤ j) (ix : i ≤ xs.length) (l : xs.length + ys.length ≤ 100000) : slSK (.ref r) (.ref k) (some (i : Int)) (some (j : Int)) σ h = .next σ (h.set r (.lst (xs.take i ++ ys ++ xs.drop j))) := by
  unfold slSK slsM
  have c : r ≠ k ∧ (0 : Int) ≤ (i : Int) ∧ (i : Int) ≤ (j : Int) ∧ (i : Int) ≤ xs.length ∧ xs.length + ys.length ≤ sizeLine := ⟨ne, by omega, by omega, by omega, sz l⟩
  simp only [e1, e2, if_pos c, Int.toNat_natCast]
@[simp] theorem eOwn_ap {c mm : Str} {K : MV → MH → Res MV} {g : List MV → List MV → List MV} {code : MF} {A : ME} : eOwn c mm K g code A σ h = (A σ h).bind fun x h1 => onIns c mm x h1 fun n => (code (g [.ref n] []) h1).bn K := id rfl
theorem lenOK_at {i : Int} (a : 0 ≤ i) (b : i < 1000000) : lenOK (.int i) h = .ok (.int i) h := if_pos ⟨a, b⟩
@[simp] theorem repOK_at : repOK (.str z) h = .ok (.str z) h := id rfl
@[simp] theorem eDict_ap {ks : List Key} {AL : MA} : eDict ks AL σ h = (AL σ h).bind fun vs h1 => .ok (.ref h1.length) (h1 ++ [.dic ((ks.zip vs).map fun p => (kM p.1, p.2))]) := id rfl
@[simp] theorem eFs_ap {J : MJ} : eFs J σ h = (J Str.empty σ h).bind fun y h1 => .ok (.str y) h1 := id rfl
@[simp] theorem jNil_ap : jNil z σ h = .ok z h := id rfl
def jK (R : MJ) (acc : Str) (σ : MS) (v : MV) (h1 : MH) : Res Str := match v with
  | .str y => if (acc ++ y).length ≤ sizeLine then R (acc ++ y) σ h1 else .stuck
  | _ => .stuck
@[simp] theorem jCons_ap {A : ME} {R : MJ} : jCons A R z σ h = (A σ h).bind (jK R z σ) := id rfl
theorem jK_at {R : MJ} {a b : Str} (l : (a ++ b).length ≤ 100000) : jK R a σ (.str b) h = R (a ++ b) σ h := if_pos (sz l)
end
end Mi

set_option maxHeartbeats 400000
/-! ### o == y, o != y by an own __eq__ -/
namespace Mi
open PySem PySem.Spec PyProof.Rows L2
variable [TheW]
/-- the place of an instance of the class -/
def insN (c : Str) (h : MH) (x : MV) : Option Nat := match x with
  | .ref n => match h[n]? with
    | some (.ins c' _) => if c' = c then some n else none
    | _ => none
  | _ => none
/-- what an own == may be asked of: the own class, some built-in kinds -/
def okY (c : Str) (ks : List String) (h : MH) (y : MV) : Bool := match y with
  | .tmp _ => false
  | .exn _ _ _ => false
  | y => match tgOf h y with
    | some (.o c2) => decide (c2 = c)
    | some (.b t) => decide (t ∈ ks)
    | _ => false
def eqOK (neg : Bool) (v : MV) (h : MH) : Res MV := match v with
  | .bl b => .ok (.bl (b != neg)) h
  | _ => .stuck
def cmpO (neg : Bool) (dflt : MV → MV → MH → Res MV) (c : Str) (ks : List String) (g : List MV → List MV → List MV) (code : MF) (x y : MV) (h : MH) : Res MV := match insN c h x with
  | some n => if okY c ks h y = true then (code (g [.ref n, y] []) h).bn (eqOK neg) else .stuck
  | none => dflt x y h
section
variable {K : PySem.W.Frag} {mg : Str → Option Value} {X : Cx} {W : WX} {c : Str} {C f : Addr} {k : Nat} {fd : FuncData} {ps : List Str} {code : MF} {g : List MV → List MV → List MV} {ks : List String}
theorem run_fnM0 {pins : List (Addr × Obj)} {σ : L2.St} {H : Hp} {s : Shared} {Q : VK} {m : List Addr} {h : MH} {us : List Value} {va : List V} {xs : List MV} {n : Nat} (F : FnM X.prog X.w X.K X.mg X.base k f fd ps code) (hr : Room (k + 1) X.A) (hgd : X.A.guards = some []) (hb : BnM X.K X.mg fd ps n [] g)
    (I : L2.Inv X pins σ H s) (r1 : Vals va us) (l1 : us.length = n) (R : Rep X.K X.mg m H h) (d1 : DvAll X.K X.mg m H xs va) (q : rg X.K X.mg (DV X.K X.mg) W0 σ m H (code (g xs []) h) Q) :
    wpAny (model X.prog X.w) X.A (call (.ref f) us) (EP X pins σ Q) (fun _ _ => False) s := by
  obtain ⟨zs, b, lz, bv⟩ := hb.to s us [] I.kIn l1 rfl
  obtain ⟨vc, d3, r3⟩ := bv m H xs [] va [] d1 r1 .nil .nil
  refine wpAny_call (codeAny_mono (F.run X.A X.stack s H ⟨us, []⟩ zs vc Q (fun _ _ _ => False) m h (g xs []) (hr.mono (by omega)) hgd I.env0 b r3 (by rw [r3.length]; exact lz) R d3 ?_) fun r s' hq => ?_)
  · cases ec : code (g xs []) h with
    | ok v h' => rw [ec] at q; exact q
    | exc x h' => rw [ec] at q; exact q
    | stuck => rw [ec] at q; exact q
  · cases r with
    | error e =>
      obtain ⟨_, _, _, _, _, _, _, _, _, _, _, _, no⟩ := hq
      exact no.elim
    | ok fl =>
      cases fl with
      | ret u => exact I.after hq
      | _ => exact False.elim hq
theorem insN_eq {h : MH} {x : MV} {n : Nat} (e : insN c h x = some n) : x = .ref n ∧ ∃ fs, h[n]? = some (.ins c fs) := by
  unfold insN at e
  split at e
  · rename_i n'
    split at e
    · rename_i c' fs ho
      split at e
      · rename_i ec
        cases e
        cases ec
        exact ⟨rfl, fs, ho⟩
      · cases e
    · cases e
  · cases e
/-- the right one's type comes not ahead -/
theorem okY_ty {pins : List (Addr × Obj)} {σ : L2.St} {H : Hp} {s : Shared} {m : List Addr} {h : MH} {y : MV} {y' : V} {u : Value} (hC : X.mg c = some (.ref C)) (nf : ∀ t ∈ ks, PySem.W.notFirst X.K C (.type t) = true ∧ (kitB t "int").isSome = true) (I : L2.Inv X pins σ H s) (R : Rep X.K X.mg m H h) (d : Dv X.K X.mg m H y y') (ry : RelV y' u) (e : okY c ks h y = true) :
    ∃ tb, PySem.W.Looks (model X.prog X.w) s.heap (typeOf u) tb ∧ PySem.W.notFirst X.K C tb = true := by
  have e' : (match tgOf h y with
    | some (.o c2) => decide (c2 = c)
    | some (.b t) => decide (t ∈ ks)
    | _ => false) = true := by
    unfold okY at e
    split at e
    · cases e
    · cases e
    · exact e
  have nx : ∀ c ns vs, y ≠ .exn c ns vs := fun c ns vs z => by subst z; cases e
  split at e'
  · rename_i c2 et
    cases of_decide_eq_true e'
    cases d with
    | @ref n a hn =>
      cases q : h[n]? with
      | none => simp [tgOf, q] at et
      | some o =>
        have ob := R.at_ q hn
        cases o with
        | ins x fs =>
          have : x = c := by simpa [tgOf, q] using et
          subst this
          obtain ⟨C', dx, gs, h1, h2, _⟩ := ob
          rw [hC] at h2
          cases h2
          cases (show u = Value.ref a from ry)
          obtain ⟨mA, O, _⟩ := ins_get I.hok h1
          obtain ⟨od, J, _⟩ := O.look
          exact ⟨.ref C, J.type, by simp [PySem.W.notFirst]⟩
        | lst _ => simp [tgOf, q] at et
        | dic _ => simp [tgOf, q] at et
        | dct _ => simp [tgOf, q] at et
        | fdc _ => simp [tgOf, q] at et
        | fct _ => simp [tgOf, q] at et
    | _ => simp [tgOf] at et
  · rename_i t et
    have ht := of_decide_eq_true e'
    obtain ⟨n1, n2⟩ := nf t ht
    obtain ⟨b, hb⟩ := Option.isSome_iff_exists.mp n2
    obtain ⟨tv, h1, h2⟩ := tyx_of (kt := []) (c := .b "int") (b := b) R ⟨fun _ _ _ _ _ z => (by cases z), fun _ _ _ _ z => (by cases z), fun _ _ _ _ z => (by cases z)⟩ d et hb nx
    cases (show tv = .type t from h1)
    obtain ⟨P, z1, z2, _⟩ := kit_of I ry h2
    exact ⟨_, z1.ty _ _ I.kIn z2, n1⟩
  · cases e'
variable (F : FnM X.prog X.w K mg X.base k f fd ps code) (hr : Room (k + 1) X.A) (hgd : X.A.guards = some []) (hb : BnM K mg fd ps 2 [] g) (hC : mg c = some (.ref C)) (hmt : Meth K C "__eq__" f) (nf : ∀ t ∈ ks, PySem.W.notFirst K C (.type t) = true ∧ (kitB t "int").isSome = true)
include F hr hgd hb hC hmt nf
theorem om_eqO {dflt : MV → MV → MH → Res MV} (hd : OpR X (compareOp .Eq) (rOp K mg dflt)) (hK : X.K = K := by rfl) (hM : X.mg = mg := by rfl) : OpR X (compareOp .Eq) (rOp K mg (cmpO false dflt c ks g code)) := by
  subst hK hM
  intro pins s σ H x' y' v u Q I rx ry ⟨m, h, x, y, H0, H1, σ', W, R, dx, dy, q⟩
  unfold cmpO at q
  split at q
  · rename_i n e
    obtain ⟨rfl, fs, eo⟩ := insN_eq e
    split at q
    · rename_i ey
      have ny : ∀ xs, y ≠ .tmp xs := fun xs z => by subst z; cases ey
      have dy' := dy.dv ny
      cases dx.dv (fun _ => MV.noConfusion) with
      | @ref _ a hn =>
        obtain ⟨C', dxx, gs, h1, h2, _⟩ := R.at_ eo hn
        rw [hC] at h2
        cases h2
        cases (show v = Value.ref a from rx)
        obtain ⟨tb, t1, t2⟩ := okY_ty hC nf I R dy' ry ey
        obtain ⟨mA, O, _⟩ := ins_get I.hok h1
        obtain ⟨od, J, _⟩ := O.look
        obtain ⟨mm, hF⟩ := I.fr
        have un : X.A.units < cLine := hr.units0
        refine PySem.W.cmp_K (op := .Eq) un hF I.ok.mod.kin J t1 t2 hmt.at_ hmt.fn (wpAny_mono (run_fnM0 (Q := fun z H' => ∃ b : Bool, z = .bl b ∧ Q (.bl b) H') (va := [.ref a, y']) (us := [.ref a, u]) F hr hgd hb I (.cons rfl (.cons ry .nil)) rfl R (.cons (.ref hn) (.cons dy' .nil)) (rg.bn q fun w h1 w' m1 H1 e1 R1 d1 q1 => ?_)) (fun w s' z => ?_) fun _ _ x => x.elim)
        · unfold eqOK at q1
          split at q1
          · rename_i b
            cases d1.dv (fun _ => MV.noConfusion)
            have := q1 _ m1 H1 e1 R1 (.v (.bl _))
            exact ⟨b, rfl, by simpa using this⟩
          · exact q1.elim
        · obtain ⟨z', H', I', rz, b, rfl, qz⟩ := z
          cases (show w = Value.bool b from rz)
          exact ⟨.bl b, H', I', rfl, qz⟩
    · exact q.elim
  · exact hd pins s σ H x' y' v u Q I rx ry ⟨m, h, x, y, H0, H1, σ', W, R, dx, dy, q⟩
end
section
variable {prog : Program} {w : World} {A : Around} {E : Value → Shared → Prop} {s : Shared} {K : PySem.W.Frag} {x C L f : Addr} {h₀ : Heap} {m : Str → Option Value} {ox : Obj} {od : Option Obj} {b tb : Value}
theorem call_ne {Q : Value → Shared → Prop} (hu : A.in1.units < cLine) (X : K.In s.heap) (I : PySem.W.InstAt s.heap x ox C od) (iv : PySem.W.Looks (model prog w) s.heap (isInstance (.ref x) (.type "object")) true) (hs : PySem.W.findIn K (.ref C) "__eq__" = some (some (.ref f))) (hf : PySem.W.isFn K (.ref f) = true)
    (h : wpAny (model prog w) A.in1 (call (.ref f) [.ref x, b]) (fun v s' => ∃ bb, v = .bool bb ∧ Q (.bool (!bb)) s') E s) : wpAny (model prog w) A (call (.builtin "object.__ne__") [.ref x, b]) Q E s := by
  refine wpAny_call (codeAny_call_builtin PySem.F.slot_object_ne.plain PySem.F.entry_object_ne (@PySem.W.check_slot (model prog w) _ _ _ "object.__ne__" "object" "__ne__" (.ref x) [b] [] _ (by decide +kernel) (by decide +kernel) iv (PySem.F.args_object_ne_2 _ _) ?_))
  show wpAny _ _ (cRoomFor "comparison" [.ref x, b] >>= _) _ _ s
  refine wpAny_bind (wpAny_cRoomFor hu ?_)
  refine wpAny_bind (PySem.W.ifBound_K X I hs hf (wpAny_mono h (fun v s' z => ?_) fun _ _ e => e))
  obtain ⟨bb, rfl, q⟩ := z
  exact wpAny_bind (wpAny_truthy_bool (wpAny_pure q))
theorem ne_K {Q : Value → Shared → Prop} (hu : A.units < cLine) (hu1 : A.in1.units < cLine) (F : PyProof.Rows.Fr h₀ L s.heap m) (X₀ : K.In h₀) (I : PySem.W.InstAt s.heap x ox C od) (hb : PySem.W.Looks (model prog w) s.heap (typeOf b) tb) (hn : PySem.W.notFirst K C tb = true)
    (hne : PySem.W.findIn K (.ref C) "__ne__" = some (some (.builtin "object.__ne__"))) (hm : PySem.W.mroIn K C (.type "object") = some true)
    (hs : PySem.W.findIn K (.ref C) "__eq__" = some (some (.ref f))) (hf : PySem.W.isFn K (.ref f) = true)
    (h : wpAny (model prog w) A.in1 (call (.ref f) [.ref x, b]) (fun v s' => ∃ bb, v = .bool bb ∧ Q (.bool (!bb)) s') E s) : wpAny (model prog w) A (richCompare .NotEq (.ref x) b) Q E s := by
  have X := X₀.keeps F.keep
  have iv : PySem.W.Looks (model prog w) s.heap (isInstance (.ref x) (.type "object")) true := I.type.andThen (PySem.W.looks_mroIn X hm)
  have sp : PySem.W.Looks (model prog w) s.heap (specialOf (.ref x) "__ne__") (some (.builtin "object.__ne__")) := I.type.andThen (PySem.W.looks_findIn X hne)
  have one : wpAny (model prog w) A (tryCompare (.ref x) (cmpInfo .NotEq).2.1 b) (fun r s' => ∃ v, r = some v ∧ Q v s') E s := by
    unfold tryCompare
    refine wpAny_bind (NtL.csib (args := [b]) sp (PySem.F.slot_object_ne.bind _) (wpAny_mono (call_ne (Q := fun v s' => ∃ bb, v = .bool bb ∧ Q v s') hu1 X I iv hs hf (wpAny_mono h (fun v s' z => ?_) fun _ _ e => e)) (fun v s' z => ?_) fun _ _ e => e))
    · obtain ⟨bb, rfl, q⟩ := z
      exact ⟨bb, rfl, _, rfl, q⟩
    · obtain ⟨bb, rfl, q⟩ := z
      exact wpAny_pure ⟨_, rfl, q⟩
  unfold richCompare
  simp only [oneThing_ref]
  refine wpAny_holding (wpAny_bind (wpAny_cRoomFor hu ?_))
  refine wpAny_bind (I.type.here (wpAny_bind (hb.here ?_)))
  split
  · rename_i q
    have e : PySem.W.subIn K tb (.ref C) = some false := by
      rcases Bool.or_eq_true_iff.mp hn with e | e
      · rw [beq_iff_eq.mp e] at q; simp at q
      · exact beq_iff_eq.mp e
    refine wpAny_bind ((PySem.W.looks_subIn X e).here ?_)
    simp only [Bool.false_eq_true, if_false]
    refine wpAny_bind (wpAny_mono one (fun r s' z => ?_) fun _ _ e => e)
    obtain ⟨v, rfl, hq⟩ := z
    exact wpAny_pure hq
  · refine wpAny_bind (wpAny_pure ?_)
    simp only [Bool.false_eq_true, if_false]
    refine wpAny_bind (wpAny_mono one (fun r s' z => ?_) fun _ _ e => e)
    obtain ⟨v, rfl, hq⟩ := z
    exact wpAny_pure hq
end
section
variable {K : PySem.W.Frag} {mg : Str → Option Value} {X : Cx} {W : WX} {c : Str} {C f : Addr} {k : Nat} {fd : FuncData} {ps : List Str} {code : MF} {g : List MV → List MV → List MV} {ks : List String}
variable (F : FnM X.prog X.w K mg X.base k f fd ps code) (hr : Room (k + 1) X.A) (hgd : X.A.guards = some []) (hb : BnM K mg fd ps 2 [] g) (hC : mg c = some (.ref C)) (hmt : Meth K C "__eq__" f) (nf : ∀ t ∈ ks, PySem.W.notFirst K C (.type t) = true ∧ (kitB t "int").isSome = true)
  (hne : PySem.W.findIn K (.ref C) "__ne__" = some (some (.builtin "object.__ne__"))) (hmo : PySem.W.mroIn K C (.type "object") = some true) (tk : Takes X W)
include F hr hgd hb hC hmt nf hne hmo tk
theorem om_neO {dflt : MV → MV → MH → Res MV} (hd : OpR X (compareOp .NotEq) (rOp K mg dflt)) (hK : X.K = K := by rfl) (hM : X.mg = mg := by rfl) : OpR X (compareOp .NotEq) (rOp K mg (cmpO true dflt c ks g code)) := by
  subst hK hM
  intro pins s σ H x' y' v u Q I rx ry ⟨m, h, x, y, H0, H1, σ', W', R, dx, dy, q⟩
  unfold cmpO at q
  split at q
  · rename_i n e
    obtain ⟨rfl, fs, eo⟩ := insN_eq e
    split at q
    · rename_i ey
      have ny : ∀ xs, y ≠ .tmp xs := fun xs z => by subst z; cases ey
      have dy' := dy.dv ny
      cases dx.dv (fun _ => MV.noConfusion) with
      | @ref _ a hn =>
        obtain ⟨C', dxx, gs, h1, h2, _⟩ := R.at_ eo hn
        rw [hC] at h2
        cases h2
        cases (show v = Value.ref a from rx)
        obtain ⟨tb, t1, t2⟩ := okY_ty hC nf I R dy' ry ey
        obtain ⟨mA, O, _⟩ := ins_get I.hok h1
        obtain ⟨od, J, _⟩ := O.look
        obtain ⟨mm, hF⟩ := I.fr
        have un : X.A.units < cLine := hr.units0
        have un1 : X.A.in1.units < cLine := (Room.in1 hr).units0
        refine ne_K un un1 hF I.ok.mod.kin J t1 t2 hne hmo hmt.at_ hmt.fn (wpAny_mono (run_fnM1 (Q := fun z H' => ∃ b : Bool, z = .bl b ∧ Q (.bl (!b)) H') (va := [.ref a, y']) (us := [.ref a, u]) F hr hgd hb tk I (.cons rfl (.cons ry .nil)) rfl R (.cons (.ref hn) (.cons dy' .nil)) (rg.bn q fun w h1 w' m1 H1 e1 R1 d1 q1 => ?_)) (fun w s' z => ?_) fun _ _ x => x.elim)
        · unfold eqOK at q1
          split at q1
          · rename_i b
            cases d1.dv (fun _ => MV.noConfusion)
            have := q1 _ m1 H1 e1 R1 (.v (.bl _))
            exact ⟨b, rfl, by simpa using this⟩
          · exact q1.elim
        · obtain ⟨z', H', I', rz, b, rfl, qz⟩ := z
          cases (show w = Value.bool b from rz)
          exact ⟨b, rfl, .bl (!b), H', I', rfl, qz⟩
    · exact q.elim
  · exact hd pins s σ H x' y' v u Q I rx ry ⟨m, h, x, y, H0, H1, σ', W', R, dx, dy, q⟩
end
/-! the head's facts -/
def nfB (x : Str) (ks : List String) (K : PySem.W.Frag) : Bool := ks.all fun t => PySem.W.notFirst K (He.ga K x) (.type t)
theorem nfB_ok {x : Str} {ks : List String} {K : PySem.W.Frag} (h : nfB x ks K = true) (a : ks.all (fun t => (kitB t "int").isSome) = true) : ∀ t ∈ ks, PySem.W.notFirst K (He.ga K x) (.type t) = true ∧ (kitB t "int").isSome = true := fun t ht => ⟨List.all_eq_true.mp h t ht, List.all_eq_true.mp a t ht⟩
def neB (x : Str) (K : PySem.W.Frag) : Bool := decide (PySem.W.findIn K (.ref (He.ga K x)) "__ne__" = some (some (.builtin "object.__ne__"))) && decide (PySem.W.mroIn K (He.ga K x) (.type "object") = some true)
theorem neB_ok {x : Str} {K : PySem.W.Frag} (h : neB x K = true) : PySem.W.findIn K (.ref (He.ga K x)) "__ne__" = some (some (.builtin "object.__ne__")) ∧ PySem.W.mroIn K (He.ga K x) (.type "object") = some true := by
  obtain ⟨a, b⟩ := Bool.and_eq_true_iff.mp h
  exact ⟨of_decide_eq_true a, of_decide_eq_true b⟩
end Mi

set_option maxHeartbeats 400000
/-! ### three names at once, fields as targets -/
namespace Mi
open PySem PySem.Spec PyProof.Rows L2
variable [TheW]
def sPar3 (i j l : Nat) (A : MA) : MSt := fun σ h => (A σ h).st σ fun vs h1 => match vs with
  | [u, v, w] => .next (((σ.set i (some u)).set j (some v)).set l (some w)) h1
  | _ => .stuck
def gFldM (c f : Str) (A : ME) : MG := fun v σ h => (A σ h).bn fun x h1 => match putFld c f x v h1 with
  | some h2 => .ok σ h2
  | none => .stuck
theorem nox_fld {c f : Str} {A : ME} : NoX (gFldM c f A) := fun v σ h x h' z => by
  unfold gFldM Res.bn at z
  split at z
  · dsimp only at z
    split at z <;> cases z
  · cases z
section
variable {K : PySem.W.Frag} {mg : Str → Option Value} {X : Cx} {W : WX} {pos : Pos} {vs : List Nat} {A : ME}
theorem ss_par3 {i j l : Nat} {x y z : Str} {a b c : Expr} {AL : MA} {px py pz pt : Pos} {kt k2 pt2} (hc : X.calm = true) (hN : X.N.Nodup) (hi : X.N[i]? = some x) (hj : X.N[j]? = some y) (hl : X.N[l]? = some z) (hij : i ≠ j) (hil : i ≠ l) (hjl : j ≠ l)
    (hx : X.env.scope.names.lookup x = some .local) (hy : X.env.scope.names.lookup y = some .local) (hz : X.env.scope.names.lookup z = some .local) (ha : SA K mg W X [a, b, c] AL)
    (hw : swappedStores [.Tuple [.Name x px, .Name y py, .Name z pz] kt pt] (.Tuple [a, b, c] k2 pt2) X.env = pure (some [x, y, z]) := by rfl)
    (hs : swapsWithSole [.Tuple [.Name x px, .Name y py, .Name z pz] kt pt] (.Tuple [a, b, c] k2 pt2) pos.line X.env = pure false := by rfl) :
    SS K mg W X (.Assign [.Tuple [.Name x px, .Name y py, .Name z pz] kt pt] (.Tuple [a, b, c] k2 pt2) pos) (sPar3 i j l AL) := (ps_par3 hc hN hi hj hl hij hil hjl hx hy hz ha hw hs).imp fun D σ H ⟨m, σm, h, R, S, q⟩ => by
  refine ⟨m, σm, h, R, S, rs.part S q fun xs h1 vs m1 H1 e1 R1 d1 q1 => ?_⟩
  split at q1
  · cases d1 with
    | cons d1 d2 =>
      cases d2 with
      | cons d2 d3 =>
        cases d3 with
        | cons d3 d4 =>
          cases d4
          exact ⟨_, _, _, rfl, q1 _ m1 H1 e1 R1 ((((S.mono e1.gro).set d1).set d2).set d3)⟩
  · exact q1.elim
theorem sg_fld {c f : Str} {o : Expr} (F : AtF K mg c f) (ha : SE K mg W X o A) (hK : X.K = K := by rfl)
    (hA : ∀ v, assign (.Attribute o f pos) X.env v = (do
      let ov ← holding [v] (eval o X.env)
      standAt pos.atName
      holding [v, ov] (setAttr ov f v)
      release [v, ov] []) := by intro _; rfl) : SG K mg W X vs (.Attribute o f pos) (gFldM c f A) :=
  ⟨fun pins s σ H v u Q I r ⟨m, σm, h, x, R, S, d, q⟩ => by
    subst hK
    rw [hA]
    refine wpAny_bind (wpAny_holding (thn (ha.run pins s σ H (fun x' H' => ∃ a C dd gs, x' = .ref a ∧ H' a = some (.ins C dd gs) ∧ Cls X.K C ∧ NoAttr X.K C f ∧ gs.length < 1000 ∧ Q σ (upd H' a (.ins C dd (putF f v gs)))) I ⟨m, σm, h, R, S, rg.bn q fun xv h1 x' m1 H1 e1 R1 d1 q1 => ?_⟩) fun ov s1 ⟨xv, H1, I1, rx, a, C, dd, gs, k1, k2, k3, k4, k5, k6⟩ => ?_))
    · cases ep : putFld c f xv x h1 with
      | none => rw [ep] at q1; exact q1.elim
      | some h2 =>
        rw [ep] at q1
        obtain ⟨a, C, dd, gs, k1, k2, k3, k4, k5, k6, k7⟩ := put_ok F R1 d1 (d.mono e1.gro) ep
        exact ⟨a, C, dd, gs, k1, k2, k3, k4, k5, q1 σ m1 _ (e1.trans k6) k7 ⟨(S.mono e1.gro).mono k6.gro, Upto.refl⟩⟩
    · subst k1
      obtain rfl : ov = Value.ref a := rx
      exact wpAny_bind (wpAny_standAt (wpAny_bind (wpAny_holding (setattr_ok I1 k2 k3 k4 k5 r fun s3 I3 => wpAny_release ⟨σ, _, I3, k6⟩))))⟩
end
section
variable {σ : MS} {h : MH} {c f : Str} {A : ME} {n : Nat} {fs : List (Str × MV)} {u v w : MV}
def par3K (i j l : Nat) (σ : MS) (vs : List MV) (h1 : MH) : SR := match vs with
  | [u, v, w] => .next (((σ.set i (some u)).set j (some v)).set l (some w)) h1
  | _ => .stuck
@[simp] theorem par3K_at {i j l : Nat} : par3K i j l σ [u, v, w] h = .next (((σ.set i (some u)).set j (some v)).set l (some w)) h := id rfl
@[simp] theorem sPar3_ap {i j l : Nat} {A : MA} : sPar3 i j l A σ h = (A σ h).st σ (par3K i j l σ) := id rfl
def gFldK (c f : Str) (v : MV) (σ : MS) (x : MV) (h1 : MH) : Res MS := match putFld c f x v h1 with
  | some h2 => .ok σ h2
  | none => .stuck
@[simp] theorem gFldM_ap : gFldM c f A v σ h = (A σ h).bn (gFldK c f v σ) := id rfl
theorem gFldK_at (e : h[n]? = some (.ins c fs)) (l : fs.length < 1000) : gFldK c f v σ (.ref n) h = .ok σ (h.set n (.ins c (putM f v fs))) := by
  unfold gFldK putFld
  simp only [e, l, and_self, if_true]
end
end Mi

set_option maxHeartbeats 400000
/-! ### dicts alike -/
namespace Mi
open PySem PySem.Spec PyProof.Rows L2
variable [TheW]
def dHits (h : MH) (kb : List (MV × MV)) : List (MV × MV) → Option Bool
  | [] => some true
  | p :: r => match asK p.1 with
    | none => none
    | some k => match getD kb k with
      | none => some false
      | some y => match snap 30 h p.2, snap 30 h y with
        | some d, some e => (dHits h kb r).map fun b => PyData.eqv d e && b
        | _, _ => none
def eqDD (h : MH) (ka kb : List (MV × MV)) : Option Bool := if ka.length = kb.length then dHits h kb ka else some false
def eqW (x y : MV) (h : MH) : Res MV := match asD h x, asD h y with
  | some ka, some kb => (match eqDD h ka kb with
    | some b => .ok (.bl b) h
    | none => .stuck)
  | _, _ => eqM x y h
def neW (x y : MV) (h : MH) : Res MV := match asD h x, asD h y with
  | some ka, some kb => (match eqDD h ka kb with
    | some b => .ok (.bl (!b)) h
    | none => .stuck)
  | _, _ => neM x y h
section
variable {K : PySem.W.Frag} {mg : Str → Option Value} {X : Cx} {m : List Addr} {H H0 H1 : Hp} {h : MH}
theorem hits_of {pins : List (Addr × Obj)} {σ : L2.St} {s : Shared} {A : Around} (I : L2.Inv X pins σ H s) (R : Rep X.K mg m H h) (hu : A.units + 64 < cLine) {kb : List (MV × MV)} {lb : List (Key × V)} {vb : List (Key × Value)} (db : DvK X.K mg m H kb lb) (rb : KV lb vb) :
    ∀ {ka : List (MV × MV)} {la : List (Key × V)} {va : List (Key × Value)} {b : Bool}, DvK X.K mg m H ka la → KV la va → dHits h kb ka = some b → PySem.W.KeqHits A s vb va b
  | _, _, _, _, .nil, .nil, e => by cases e; exact .nil
  | _, _, _, b, @DvK.cons _ _ _ _ k x v ks ls d r, .cons (b := q) hd tl, e => by
    obtain ⟨hk, hv⟩ := hd
    obtain ⟨qk, qv⟩ := q
    cases (show k = qk from hk)
    unfold dHits at e
    rw [show asK (kM k, x).1 = some k from asK_kM k] at e
    dsimp only at e
    rcases db.get k with ⟨g1, g2⟩ | ⟨z, w, g1, g2, g3⟩
    · rw [g1] at e
      cases e
      exact .miss (RelO.none_of (by rw [← g2]; exact rb.val k))
    · rw [g1] at e
      dsimp only at e
      obtain ⟨w', hw, rw'⟩ := RelO.some_of (v := w) (o := valueAt vb k) (by rw [← g2]; exact rb.val k)
      split at e
      · rename_i d1 e1 s1 s2
        cases eh : dHits h kb ks with
        | none => rw [eh] at e; cases e
        | some b' =>
          rw [eh] at e
          cases e
          obtain ⟨p1, p2, p3, _⟩ := snap_dv R d s1
          obtain ⟨k1, k2, k3, _⟩ := snap_dv R g3 s2
          obtain ⟨as, ra⟩ := Dp.reads I d1 v qv p1 hv
          obtain ⟨bs, rb'⟩ := Dp.reads I e1 w w' k1 rw'
          exact .hit hw (SeqAt.eqAt_plain d1 e1 A s _ _ _ _ ra rb' p2 k2 (by omega)) (hits_of I R hu db rb r tl eh)
      · cases e
theorem eqDD_ok {pins : List (Addr × Obj)} {σ : L2.St} {s : Shared} (I : L2.Inv X pins σ H s) (R : Rep X.K mg m H h) {x y : MV} {x' y' : V} {v u : Value} {ka kb : List (MV × MV)} {b : Bool} (dx : Dt X.K mg H0 m H x x') (dy : Dt X.K mg H1 m H y y') (rx : RelV x' v) (ry : RelV y' u) (e1 : asD h x = some ka) (e2 : asD h y = some kb) (e : eqDD h ka kb = some b) (hu : X.A.in1.units + 64 < cLine) :
    ∃ a c va vb r, v = .ref a ∧ u = .ref c ∧ (a == sysModules) = false ∧ (c == sysModules) = false ∧ s.heap.DictOf (mixKind X.prog X.w) a va ∧ s.heap.DictOf (mixKind X.prog X.w) c vb ∧ (va.length = vb.length → PySem.W.KeqHits X.A.in1 s vb va r) ∧ b = (va.length == vb.length && r) := by
  obtain ⟨n1, a, la, rfl, rfl, _, _, h1, h2⟩ := Dt.asD R dx e1
  obtain ⟨n2, c, lb, rfl, rfl, _, _, h3, h4⟩ := Dt.asD R dy e2
  obtain ⟨_, k1, va, k2, k3⟩ := dk_of I.hok h1
  obtain ⟨_, k4, vb, k5, k6⟩ := dk_of I.hok h3
  have l1 := h2.length
  have l2 := k2.length
  have l3 := h4.length
  have l4 := k5.length
  unfold eqDD at e
  split at e
  · rename_i hl
    exact ⟨a, c, va, vb, b, rx, ry, k1, k4, k3, k6, fun _ => hits_of I R hu h4 k5 h2 k2 e, by
      rw [show va.length = vb.length by omega]
      simp⟩
  · rename_i hl
    cases e
    exact ⟨a, c, va, vb, false, rx, ry, k1, k4, k3, k6, fun z => absurd z (by omega), by simp⟩
theorem om_eqW (hu : X.A.units + 64 < cLine) (hu1 : X.A.in1.units + 64 < cLine) (hK : X.K = K := by rfl) : OpR X (compareOp .Eq) (rOp K mg eqW) := by
  subst hK
  intro pins s σ H x' y' v u Q I rx ry ⟨m, h, x, y, H0, H1, σ', W, R, dx, dy, q⟩
  unfold eqW at q
  split at q
  · rename_i ka kb e1 e2
    split at q
    · rename_i b e3
      obtain ⟨a, c, va, vb, r, rfl, rfl, h1, h2, h3, h4, h5, rfl⟩ := eqDD_ok I R dx dy rx ry e1 e2 e3 hu1
      exact PySem.W.keq_eq h1 h2 h3 h4 (by omega) h5 ⟨.bl _, H, I, rfl, rg.here q R (.v (.bl _))⟩
    · exact q.elim
  · exact om_eq hu rfl pins s σ H x' y' v u Q I rx ry ⟨m, h, x, y, H0, H1, σ', W, R, dx, dy, q⟩
theorem om_neW (hu : X.A.units + 64 < cLine) (hu1 : X.A.in1.units + 64 < cLine) (hK : X.K = K := by rfl) : OpR X (compareOp .NotEq) (rOp K mg neW) := by
  subst hK
  intro pins s σ H x' y' v u Q I rx ry ⟨m, h, x, y, H0, H1, σ', W, R, dx, dy, q⟩
  unfold neW at q
  split at q
  · rename_i ka kb e1 e2
    split at q
    · rename_i b e3
      obtain ⟨a, c, va, vb, r, rfl, rfl, h1, h2, h3, h4, h5, rfl⟩ := eqDD_ok I R dx dy rx ry e1 e2 e3 hu1
      exact PySem.W.keq_ne h1 h2 h3 h4 (by omega) h5 ⟨.bl _, H, I, rfl, rg.here q R (.v (.bl _))⟩
    · exact q.elim
  · exact om_ne hu rfl pins s σ H x' y' v u Q I rx ry ⟨m, h, x, y, H0, H1, σ', W, R, dx, dy, q⟩
end
section
variable {h : MH} {x y : MV} {a : Str} {i : Int} {b : Bool} {xs : List MV}
theorem eqW_no (e : asD h x = none) : eqW x y h = eqM x y h := by
  unfold eqW
  rw [e]
theorem neW_no (e : asD h x = none) : neW x y h = neM x y h := by
  unfold neW
  rw [e]
theorem eqW_no2 (e : asD h y = none) : eqW x y h = eqM x y h := by
  unfold eqW
  rw [e]
  split
  · rename_i z1 z2
    cases z2
  · rfl
theorem neW_no2 (e : asD h y = none) : neW x y h = neM x y h := by
  unfold neW
  rw [e]
  split
  · rename_i z1 z2
    cases z2
  · rfl
@[simp] theorem eqW_str : eqW (.str a) y h = eqM (.str a) y h := eqW_no rfl
@[simp] theorem eqW_int : eqW (.int i) y h = eqM (.int i) y h := eqW_no rfl
@[simp] theorem eqW_bl : eqW (.bl b) y h = eqM (.bl b) y h := eqW_no rfl
@[simp] theorem eqW_tmp : eqW x (.tmp xs) h = eqM x (.tmp xs) h := eqW_no2 rfl
@[simp] theorem neW_str : neW (.str a) y h = neM (.str a) y h := neW_no rfl
@[simp] theorem neW_int : neW (.int i) y h = neM (.int i) y h := neW_no rfl
@[simp] theorem neW_bl : neW (.bl b) y h = neM (.bl b) y h := neW_no rfl
@[simp] theorem neW_tmp : neW x (.tmp xs) h = neM x (.tmp xs) h := neW_no2 rfl
end
end Mi

set_option maxHeartbeats 400000
/-! ### d.get(k) -/
namespace Mi
open PySem PySem.Spec PyProof.Rows L2
variable [TheW]
def dgK (x y : MV) (h2 : MH) : Res MV := match asD h2 x, asK y with
  | some kvs, some k => .ok ((getD kvs k).getD .non) h2
  | _, _ => .stuck
def eDGet1 (D I : ME) : ME := fun σ h => (D σ h).bind fun x h1 => match asD h1 x with
  | some _ => (I σ h1).bind fun y h2 => dgK x y h2
  | none => .stuck
section
variable {K : PySem.W.Frag} {mg : Str → Option Value} {X : Cx} {W : WX} {o e : Expr} {apos cpos : Pos} {D I : ME}
theorem se_dget1 (hu : X.A.units + 64 < cLine) (ho : SE K mg W X o D) (he : SE K mg W X e I) (m1 : M1 X o "get" apos e cpos) : SE K mg W X (.Call (.Attribute o "get" apos) [e] [] cpos) (eDGet1 D I) := (pe_dget1 (by omega) ho he m1).imp fun σ H Q ⟨m, σm, h, R, S, q⟩ => by
  refine ⟨m, σm, h, R, S, rg.bind q fun x h1 x' m1 H1 e1 R1 d1 q1 => ?_⟩
  split at q1
  · rename_i kv0 ea
    obtain ⟨n, a, ls, rfl, rfl, g1, g2, g3, g4⟩ := Dt.asD R1 d1 ea
    refine ⟨a, rfl, .inl ⟨ls, .inl g3⟩, m1, σm, h1, R1, S.mono e1.gro, rg.bind (rg.ext dmV e1 R1 q1) fun y h2 y' m2 H2 e2 R2 d2 q2 => ?_⟩
    unfold dgK at q2
    split at q2
    · rename_i kvs k eb ek
      cases key_dt d2 ek
      obtain ⟨n', a', ls', en, ea', g1', g2', g3', g4'⟩ := Dt.asD R2 (d1.mono e2) eb
      cases ea'
      refine ⟨_, DGet.k g3', ?_⟩
      rcases g4'.get k with ⟨k1, k2⟩ | ⟨z, w, k1, k2, k3⟩
      · rw [k2]
        rw [k1] at q2
        exact q2 _ m2 H2 e2 R2 (.v .non)
      · rw [k2]
        rw [k1] at q2
        exact q2 _ m2 H2 e2 R2 (.v k3)
    · exact q2.elim
  · exact q1.elim
end
/-! ### d.get(k, x), d.pop(k), d.pop(k, x) -/
def dgK2 (x y z : MV) (h3 : MH) : Res MV := match asD h3 x, asK y with
  | some kvs, some k => .ok ((getD kvs k).getD z) h3
  | _, _ => .stuck
def eDGet2 (D I Z : ME) : ME := fun σ h => (D σ h).bind fun x h1 => match asD h1 x with
  | some _ => (I σ h1).bind fun y h2 => (eSet Z σ h2).bind fun z h3 => dgK2 x y z h3
  | none => .stuck
def dropD (kvs : List (MV × MV)) (k : Key) : List (MV × MV) := kvs.filter fun p => !decide (asK p.1 = some k)
section
variable {K : PySem.W.Frag} {mg : Str → Option Value} {X : Cx} {W : WX} {o e f : Expr} {apos cpos : Pos} {D I Z : ME} {m : List Addr} {H : Hp}
theorem se_dget2 (hu : X.A.units + 64 < cLine) (ho : SE K mg W X o D) (he : SE K mg W X e I) (hf : SE K mg W X f Z) (m1 : M2 X o "get" apos e f cpos) : SE K mg W X (.Call (.Attribute o "get" apos) [e, f] [] cpos) (eDGet2 D I Z) := (pe_dget2 (by omega) ho he (se_set hf) m1).imp fun σ H Q ⟨m, σm, h, R, S, q⟩ => by
  refine ⟨m, σm, h, R, S, rg.bind q fun x h1 x' m1 H1 e1 R1 d1 q1 => ?_⟩
  split at q1
  · rename_i kv0 ea
    obtain ⟨n, a, ls, rfl, rfl, g1, g2, g3, g4⟩ := Dt.asD R1 d1 ea
    refine ⟨a, rfl, .inl ⟨ls, .inl g3⟩, m1, σm, h1, R1, S.mono e1.gro, rg.bind (rg.ext dmV e1 R1 q1) fun y h2 y' m2 H2 e2 R2 d2 q2 => ?_⟩
    refine ⟨m2, σm, h2, R2, (S.mono e1.gro).mono e2.gro, ?_⟩
    cases ev : eSet Z σm h2 with
    | stuck => rw [ev] at q2; exact q2.elim
    | exc x h3 => rw [ev] at q2; exact rg.ext dmV e2 R2 q2
    | ok z h3 =>
      rw [ev] at q2
      intro z' m3 H3 e3 R3 d3
      have q3 := rg.ext dmV (e2.trans e3) R3 q2
      have d3' := d3.dv (eSet_ns ev)
      change rg K mg (DV K mg) W σ m3 H3 (dgK2 (.ref n) y z h3) Q at q3
      unfold dgK2 at q3
      split at q3
      · rename_i kvs k eb ek
        cases key_dt (d2.mono e3) ek
        obtain ⟨n', a', ls', en, ea', g1', g2', g3', g4'⟩ := Dt.asD R3 ((d1.mono e2).mono e3) eb
        cases ea'
        refine ⟨_, DGet.k g3', ?_⟩
        rcases g4'.get k with ⟨k1, k2⟩ | ⟨u, w, k1, k2, k3⟩
        · rw [k2]
          rw [k1] at q3
          exact q3 _ m3 H3 Ext.refl R3 (.v d3')
        · rw [k2]
          rw [k1] at q3
          exact q3 _ m3 H3 Ext.refl R3 (.v k3)
      · exact q3.elim
  · exact q1.elim
theorem DvK.drop {kvs : List (MV × MV)} {ls : List (Key × V)} (r : DvK K mg m H kvs ls) (k : Key) : DvK K mg m H (dropD kvs k) (dropK ls k) := by
  induction r with
  | nil => exact .nil
  | @cons j x v ks ls d r ih =>
    unfold dropD dropK at *
    by_cases e : j = k
    · rw [List.filter_cons_of_neg (by simp [asK_kM, e]), List.filter_cons_of_neg (by simp [e])]
      exact ih
    · rw [List.filter_cons_of_pos (by simp [asK_kM, e]), List.filter_cons_of_pos (by simp [e])]
      exact .cons d ih
end
def dpK (x y : MV) (h2 : MH) : Res MV := match x, asD h2 x, asK y with
  | .ref n, some kvs, some k => (match getD kvs k with
    | some v => .ok v (h2.set n (.dic (dropD kvs k)))
    | none => .stuck)
  | _, _, _ => .stuck
def eDPop1 (D I : ME) : ME := fun σ h => (D σ h).bind fun x h1 => match asD h1 x with
  | some _ => (I σ h1).bind fun y h2 => dpK x y h2
  | none => .stuck
def dpK2 (x y z : MV) (h2 : MH) : Res MV := match x, asD h2 x, asK y with
  | .ref n, some kvs, some k => (match getD kvs k with
    | some v => .ok v (h2.set n (.dic (dropD kvs k)))
    | none => .ok z h2)
  | _, _, _ => .stuck
def eDPop2 (D I Z : ME) : ME := fun σ h => (D σ h).bind fun x h1 => match asD h1 x with
  | some _ => (I σ h1).bind fun y h2 => (eSet Z σ h2).bind fun z h3 => dpK2 x y z h3
  | none => .stuck
section
variable {K : PySem.W.Frag} {mg : Str → Option Value} {X : Cx} {W : WX} {o e f : Expr} {apos cpos : Pos} {D I Z : ME}
theorem se_dpop1 (ho : SE K mg W X o D) (he : SE K mg W X e I) (m1 : M1 X o "pop" apos e cpos) : SE K mg W X (.Call (.Attribute o "pop" apos) [e] [] cpos) (eDPop1 D I) := (pe_dpop1 ho he m1).imp fun σ H Q ⟨m, σm, h, R, S, q⟩ => by
  refine ⟨m, σm, h, R, S, rg.bind q fun x h1 x' m1 H1 e1 R1 d1 q1 => ?_⟩
  split at q1
  · rename_i kv0 ea
    obtain ⟨n, a, ls, rfl, rfl, g1, g2, g3, g4⟩ := Dt.asD R1 d1 ea
    refine ⟨a, rfl, .inl ⟨ls, .inl g3⟩, m1, σm, h1, R1, S.mono e1.gro, rg.bind (rg.ext dmV e1 R1 q1) fun y h2 y' m2 H2 e2 R2 d2 q2 => ?_⟩
    unfold dpK at q2
    split at q2
    · rename_i n0 kvs k en0 eb ek
      cases en0
      cases key_dt d2 ek
      obtain ⟨n', a', ls', en, ea', g1', g2', g3', g4'⟩ := Dt.asD R2 (d1.mono e2) eb
      cases ea'
      cases en
      rcases g4'.get k with ⟨k1, k2⟩ | ⟨u, w, k1, k2, k3⟩
      · rw [k1] at q2
        exact q2.elim
      · rw [k1] at q2
        have ex : Ext m2 H2 m2 (upd H2 a (.dK (dropK ls' k))) := Ext.upd_at (List.mem_of_getElem? g2') (fun _ _ z => by rw [g3'] at z; cases z)
        exact ⟨ls', k, w, g3', rfl, k2, q2 _ m2 _ (e2.trans ex) (R2.write g2' ⟨_, upd_same, (g4'.drop k).mono ex.gro⟩) (.v (k3.mono ex.gro))⟩
    · exact q2.elim
  · exact q1.elim
theorem se_dpop2 (ho : SE K mg W X o D) (he : SE K mg W X e I) (hf : SE K mg W X f Z) (m1 : M2 X o "pop" apos e f cpos) : SE K mg W X (.Call (.Attribute o "pop" apos) [e, f] [] cpos) (eDPop2 D I Z) := (pe_dpop2 ho he (se_set hf) m1).imp fun σ H Q ⟨m, σm, h, R, S, q⟩ => by
  refine ⟨m, σm, h, R, S, rg.bind q fun x h1 x' m1 H1 e1 R1 d1 q1 => ?_⟩
  split at q1
  · rename_i kv0 ea
    obtain ⟨n, a, ls, rfl, rfl, g1, g2, g3, g4⟩ := Dt.asD R1 d1 ea
    refine ⟨a, rfl, .inl ⟨ls, .inl g3⟩, m1, σm, h1, R1, S.mono e1.gro, rg.bind (rg.ext dmV e1 R1 q1) fun y h2 y' m2 H2 e2 R2 d2 q2 => ?_⟩
    refine ⟨m2, σm, h2, R2, (S.mono e1.gro).mono e2.gro, ?_⟩
    cases ev : eSet Z σm h2 with
    | stuck => rw [ev] at q2; exact q2.elim
    | exc x h3 => rw [ev] at q2; exact rg.ext dmV e2 R2 q2
    | ok z h3 =>
      rw [ev] at q2
      intro z' m3 H3 e3 R3 d3
      have q3 := rg.ext dmV (e2.trans e3) R3 q2
      have d3' := d3.dv (eSet_ns ev)
      change rg K mg (DV K mg) W σ m3 H3 (dpK2 (.ref n) y z h3) Q at q3
      unfold dpK2 at q3
      split at q3
      · rename_i n0 kvs k en0 eb ek
        cases en0
        cases key_dt (d2.mono e3) ek
        obtain ⟨n', a', ls', en, ea', g1', g2', g3', g4'⟩ := Dt.asD R3 ((d1.mono e2).mono e3) eb
        cases ea'
        cases en
        refine ⟨ls', k, g3', rfl, fun v hv => ?_, fun hv => ?_⟩
        · rcases g4'.get k with ⟨k1, k2⟩ | ⟨u, w, k1, k2, k3⟩
          · rw [k2] at hv; cases hv
          · rw [k2] at hv
            cases hv
            rw [k1] at q3
            have ex : Ext m3 H3 m3 (upd H3 a (.dK (dropK ls' k))) := Ext.upd_at (List.mem_of_getElem? g2') (fun _ _ z => by rw [g3'] at z; cases z)
            exact q3 _ m3 _ ex (R3.write g2' ⟨_, upd_same, (g4'.drop k).mono ex.gro⟩) (.v (k3.mono ex.gro))
        · rcases g4'.get k with ⟨k1, k2⟩ | ⟨u, w, k1, k2, k3⟩
          · rw [k1] at q3
            exact q3 _ m3 H3 Ext.refl R3 (.v d3')
          · rw [k2] at hv; cases hv
      · exact q3.elim
  · exact q1.elim
end
/-! ### d.clear() -/
def dcK (x : MV) (h1 : MH) : Res MV := match x, asD h1 x with
  | .ref n, some _ => .ok .non (h1.set n (.dic []))
  | _, _ => .stuck
def eDClr (D : ME) : ME := fun σ h => (D σ h).bind dcK
section
variable {K : PySem.W.Frag} {mg : Str → Option Value} {X : Cx} {W : WX} {o : Expr} {apos cpos : Pos} {D : ME}
theorem se_dclr (ho : SE K mg W X o D) (hb : attributeBase o "clear" X.env (eval o X.env) = eval o X.env := by rfl) (hl : (apos.endLine == cpos.line) = true := by rfl) (hK : X.K = K := by rfl) : SE K mg W X (.Call (.Attribute o "clear" apos) [] [] cpos) (eDClr D) := (pe_dclear ho hb hl).imp fun σ H Q ⟨m, σm, h, R, S, q⟩ => by
  subst hK
  refine ⟨m, σm, h, R, S, rg.bind q fun x h1 x' m1 H1 e1 R1 d1 q1 => ?_⟩
  unfold dcK at q1
  split at q1
  · rename_i n0 kvs ea
    obtain ⟨n, a, ls, en, rfl, g1, g2, g3, g4⟩ := Dt.asD R1 d1 ea
    cases en
    have ex : Ext m1 H1 m1 (upd H1 a (.dK [])) := Ext.upd_at (List.mem_of_getElem? g2) (fun _ _ z => by rw [g3] at z; cases z)
    exact ⟨.inr (.inr (.inl ⟨rfl, .inl ⟨ls, g3⟩⟩)), a, ls, rfl, rfl, g3, q1 _ m1 _ (e1.trans ex) (R1.write g2 ⟨_, upd_same, .nil⟩) (.v .non)⟩
  · exact q1.elim
end
end Mi

set_option maxHeartbeats 400000
/-! ### reckoning with dict methods -/
namespace Mi
open PySem PySem.Spec PyProof.Rows L2
variable [TheW]
section
variable {σ : MS} {h : MH} {n : Nat} {kvs : List (MV × MV)} {y z v : MV} {k : Key} {D I Z : ME}
def dg1 (I : ME) (σ : MS) (x : MV) (h1 : MH) : Res MV := match asD h1 x with
  | some _ => (I σ h1).bind fun y h2 => dgK x y h2
  | none => .stuck
@[simp] theorem eDGet1_ap : eDGet1 D I σ h = (D σ h).bind (dg1 I σ) := id rfl
theorem dg1_at (e : h[n]? = some (.dic kvs)) : dg1 I σ (.ref n) h = (I σ h).bind fun y h2 => dgK (.ref n) y h2 := by simp only [dg1, asD_dic e]
theorem dgK_at (e : h[n]? = some (.dic kvs)) (a : asK y = some k) : dgK (.ref n) y h = .ok ((getD kvs k).getD .non) h := by simp only [dgK, asD_dic e, a]
def dg2 (I Z : ME) (σ : MS) (x : MV) (h1 : MH) : Res MV := match asD h1 x with
  | some _ => (I σ h1).bind fun y h2 => (eSet Z σ h2).bind fun z h3 => dgK2 x y z h3
  | none => .stuck
@[simp] theorem eDGet2_ap : eDGet2 D I Z σ h = (D σ h).bind (dg2 I Z σ) := id rfl
theorem dg2_at (e : h[n]? = some (.dic kvs)) : dg2 I Z σ (.ref n) h = (I σ h).bind fun y h2 => (eSet Z σ h2).bind fun z h3 => dgK2 (.ref n) y z h3 := by simp only [dg2, asD_dic e]
theorem dgK2_at (e : h[n]? = some (.dic kvs)) (a : asK y = some k) : dgK2 (.ref n) y z h = .ok ((getD kvs k).getD z) h := by simp only [dgK2, asD_dic e, a]
def dp1 (I : ME) (σ : MS) (x : MV) (h1 : MH) : Res MV := match asD h1 x with
  | some _ => (I σ h1).bind fun y h2 => dpK x y h2
  | none => .stuck
@[simp] theorem eDPop1_ap : eDPop1 D I σ h = (D σ h).bind (dp1 I σ) := id rfl
theorem dp1_at (e : h[n]? = some (.dic kvs)) : dp1 I σ (.ref n) h = (I σ h).bind fun y h2 => dpK (.ref n) y h2 := by simp only [dp1, asD_dic e]
theorem dpK_at (e : h[n]? = some (.dic kvs)) (a : asK y = some k) (g : getD kvs k = some v) : dpK (.ref n) y h = .ok v (h.set n (.dic (dropD kvs k))) := by simp only [dpK, asD_dic e, a, g]
def dp2 (I Z : ME) (σ : MS) (x : MV) (h1 : MH) : Res MV := match asD h1 x with
  | some _ => (I σ h1).bind fun y h2 => (eSet Z σ h2).bind fun z h3 => dpK2 x y z h3
  | none => .stuck
@[simp] theorem eDPop2_ap : eDPop2 D I Z σ h = (D σ h).bind (dp2 I Z σ) := id rfl
theorem dp2_at (e : h[n]? = some (.dic kvs)) : dp2 I Z σ (.ref n) h = (I σ h).bind fun y h2 => (eSet Z σ h2).bind fun z h3 => dpK2 (.ref n) y z h3 := by simp only [dp2, asD_dic e]
theorem dpK2_at (e : h[n]? = some (.dic kvs)) (a : asK y = some k) (g : getD kvs k = some v) : dpK2 (.ref n) y z h = .ok v (h.set n (.dic (dropD kvs k))) := by simp only [dpK2, asD_dic e, a, g]
theorem dpK2_no (e : h[n]? = some (.dic kvs)) (a : asK y = some k) (g : getD kvs k = none) : dpK2 (.ref n) y z h = .ok z h := by simp only [dpK2, asD_dic e, a, g]
@[simp] theorem eDClr_ap : eDClr D σ h = (D σ h).bind dcK := id rfl
theorem dcK_at (e : h[n]? = some (.dic kvs)) : dcK (.ref n) h = .ok .non (h.set n (.dic [])) := by simp only [dcK, asD_dic e]
end
end Mi

set_option maxHeartbeats 400000
/-! ### d[k] += e -/
namespace Mi
open PySem PySem.Spec PyProof.Rows L2
variable [TheW]
def sDAugM (op : MV → MV → MH → Res MV) (O I V : ME) : MSt := fun σ h => (O σ h).st σ fun x h1 => (I σ h1).st σ fun y h2 => match asD h2 x, asK y with
  | some kvs, some k => (match getD kvs k with
    | some w => (V σ h2).st σ fun y2 h3 => (op w y2 h3).st σ fun z h4 => match z with
      | .int i => (match setD x y (.int i) h4 with
        | some h5 => if (asD h4 x).isSome = true then .next σ h5 else .stuck
        | none => .stuck)
      | _ => .stuck
    | none => .stuck)
  | _, _ => .stuck
section
variable {K : PySem.W.Frag} {mg : Str → Option Value} {X : Cx} {W : WX} {o i value : Expr} {pos tpos : Pos} {O J V' : ME}
theorem ss_dAug {opr : Operator} {g : MV → MV → MH → Res MV} (hu : X.A.units + 64 < cLine) (ho : SE K mg W X o O) (hi : SE K mg W X i J) (hv : SE K mg W X value V') (hop : InOp X opr (rOp K mg g))
    (ha : ∀ ov iv new, augStore i ov iv new = (do holding [new, ov, iv] (setItem ov iv new); release [new, ov, iv] []; pure .next) := by intros; rfl) : SS K mg W X (.AugAssign (.Subscript o i tpos) opr value pos) (sDAugM g O J V') := (ps_daug (by omega) ho hi hv hop ha).imp fun D σ H ⟨m, σm, h, R, S, q⟩ => by
  refine ⟨m, σm, h, R, S, rs.part S q fun x h1 x' m1 H1 e1 R1 d1 q1 => ?_⟩
  refine ⟨m1, σm, h1, R1, S.mono e1.gro, rs.part (S.mono e1.gro) (rs.ext e1 R1 q1) fun y h2 y' m2 H2 e2 R2 d2 q2 => ?_⟩
  have S2 := (S.mono e1.gro).mono e2.gro
  split at q2
  · rename_i kvs k eb ek
    cases key_dt d2 ek
    obtain ⟨n, a, ls, rfl, rfl, g1, g2, g3, g4⟩ := Dt.asD R2 (d1.mono e2) eb
    rcases g4.get k with ⟨k1, k2⟩ | ⟨u, w, k1, k2, k3⟩
    · rw [k1] at q2
      exact q2.elim
    · rw [k1] at q2
      refine ⟨a, w, rfl, k2 ▸ DGet.k g3, m2, σm, h2, R2, S2, rs.part S2 (rs.ext e2 R2 q2) fun y2 h3 y2' m3 H3 e3 R3 d3 q3 => ?_⟩
      refine ⟨m3, h3, u, y2, H2, H2, σ, W, R3, .v (k3.mono e3.gro), d3, rs.part (S2.mono e3.gro) (rs.ext e3 R3 q3) fun z h4 z' m4 H4 e4 R4 d4 q4 => ?_⟩
      split at q4
      · rename_i j
        cases ep : setD (.ref n) y (.int j) h4 with
        | none => rw [ep] at q4; exact q4.elim
        | some h5 =>
          rw [ep] at q4
          dsimp only at q4
          split at q4
          · rename_i hs
            obtain ⟨kv4, e4'⟩ := Option.isSome_iff_exists.mp hs
            obtain ⟨n', a', ls', en, ea', j1, j2, j3, j4⟩ := Dt.asD R4 (((d1.mono e2).mono e3).mono e4) e4'
            cases en
            cases ea'
            cases d4.dv (fun _ => MV.noConfusion)
            unfold setD at ep
            rw [e4', ek] at ep
            dsimp only at ep
            split at ep
            · rename_i hl
              cases ep
              have ex : Ext m4 H4 m4 (upd H4 a (.dK (L2.putK ls' k (.int j)))) := Ext.upd_at (List.mem_of_getElem? j2) (fun _ _ z => by rw [j3] at z; cases z)
              exact ⟨_, DPut.k j3 (by rw [← j4.length]; exact hl), q4 σ m4 _ (e4.trans ex) (R4.write j2 ⟨_, upd_same, (j4.put k (.int j)).mono ex.gro⟩) (((S2.mono e3.gro).mono e4.gro).mono ex.gro)⟩
            · cases ep
          · exact q4.elim
      · exact q4.elim
  · exact q2.elim
end
end Mi

set_option maxHeartbeats 400000
/-! ### dicts whose keys are tuples -/
namespace Mi
open PySem PySem.Spec PyProof.Rows L2
variable [TheW]
section
variable {K : PySem.W.Frag} {mg : Str → Option Value} {m : List Addr} {H H0 H1 : Hp} {h : MH} {X : Cx} {pins : List (Addr × Obj)} {σ : L2.St} {s : Shared} {a : Addr} {kvs : List (MV × MV)} {xs : List (NestedKey × Addr × Value)}
theorem nk_depth : ∀ {n : Nat} {k : MV} {nk : NestedKey}, nkOf n k = some nk → nk.depth ≤ n
  | 0, k, nk, e => by cases e
  | n + 1, k, nk, e => by
    cases k with
    | non => cases e; simp [NestedKey.depth]
    | bl b => cases e; simp [NestedKey.depth]
    | int i => cases e; simp [NestedKey.depth]
    | str x => cases e; simp [NestedKey.depth]
    | tup xs =>
      have e : (xs.mapM (nkOf n)).map NestedKey.tup = some nk := e
      obtain ⟨ks, e1, rfl⟩ := Option.map_eq_some_iff.mp e
      have all : ∀ (xs : List MV) (ks : List NestedKey), xs.mapM (nkOf n) = some ks → NestedKey.depthAll ks ≤ n := fun xs => by
        induction xs with
        | nil => intro ks e; cases e; simp [NestedKey.depthAll]
        | cons x xs ih =>
          intro ks e
          obtain ⟨y, zs, e1, e2, rfl⟩ := mapM_cons e
          have d := nk_depth e1
          have d2 := ih zs e2
          simp only [NestedKey.depthAll]
          omega
      show NestedKey.depthAll ks + 1 ≤ n + 1
      have := all xs ks e1
      omega
    | _ => cases e
theorem nk_is (I : L2.Inv X pins σ H s) (hK : X.K = K) : ∀ {n : Nat} {k : MV} {v : V} {u : Value} {nk : NestedKey}, Dv K mg m H k v → RelV v u → nkOf n k = some nk → NestedIs s.heap nk u
  | 0, k, v, u, nk, d, r, e => by cases e
  | n + 1, k, v, u, nk, d, r, e => by
    cases k with
    | non => cases e; cases d; cases (show u = Value.none from r); exact .none
    | bl b => cases e; cases d; cases (show u = Value.bool b from r); exact .bool rfl
    | int i => cases e; cases d; obtain ⟨t, rfl⟩ := r; exact .int i t
    | str x => cases e; cases d; obtain ⟨t, rfl⟩ := r; exact .text x t
    | tup xs =>
      have e : (xs.mapM (nkOf n)).map NestedKey.tup = some nk := e
      obtain ⟨ks, e1, rfl⟩ := Option.map_eq_some_iff.mp e
      obtain ⟨a, vs, rfl, sq, da⟩ := sqt_of d
      cases (show u = Value.ref a from r)
      obtain ⟨its, rv, ⟨o, ho, hc, nn, hd⟩, _⟩ := I.tuple (a := a) (xs := vs) (by rw [hK]; exact sq)
      refine .tup ho hc hd ?_
      rw [List.toList_toArray]
      have all : ∀ (xs : List MV) (vs : List V) (its : List Value) (ks : List NestedKey), DvAll K mg m H xs vs → Vals vs its → xs.mapM (nkOf n) = some ks → NestedAll s.heap ks its := fun xs => by
        induction xs with
        | nil => intro vs its ks d r e; cases d; cases r; cases e; exact .nil
        | cons x xs ih =>
          intro vs its ks d r e
          obtain ⟨y, zs, q1, q2, rfl⟩ := mapM_cons e
          cases d with
          | cons d1 d2 =>
            cases r with
            | cons r1 r2 => exact .cons (nk_is I hK d1 r1 q1) (ih _ _ _ d2 r2 q2)
      exact all xs vs its ks da rv e1
    | _ => cases e
/-- the dict in the heap -/
theorem dct_at (I : L2.Inv X pins σ H s) (hK : X.K = K) (hW : X.w = TheW.w) (e : Rd H a (rawN TheW.w a xs)) (d : DctR K mg m H a kvs xs) : s.heap.DictOfH (nestedKind X.prog X.w) a xs := by
  obtain ⟨⟨o, es, ep, ho, hx, hd, he⟩, _⟩ := e.ok I.hok
  refine ⟨o, es, ep, ho, hx, hd, ?_, fun x hx => ?_, d.nd⟩
  · rw [he, hW]
    rfl
  · have all : ∀ {kvs : List (MV × MV)} {xs : List (NestedKey × Addr × Value)}, DvN K mg m H kvs xs → ∀ x ∈ xs, (nestedKind X.prog X.w).is s.heap x.1 x.2.1 := fun {kvs xs} r => by
      induction r with
      | nil => exact fun _ h => nomatch h
      | cons h0 h1 h2 h3 r ih =>
        intro x hx
        rcases List.mem_cons.mp hx with rfl | hx
        · exact ⟨nk_is I hK h1 rfl h0, nk_depth h0⟩
        · exact ih x hx
    exact all d.all x hx
theorem rawN_ok {P : Program} {w0 w : World} {hp : Heap} (e : ∃ o es ep, hp.get? a = some o ∧ o.ExactDict ∧ o.data = .dict es ep ∧ es.toList = xs.map fun x => (⟨x.1.hash w, .ref x.2.1, x.2.2⟩ : DictEntry)) : ObjOk P w0 H hp a (rawN w a xs) :=
  ⟨e, (let ⟨o, _, _, ho, _⟩ := e; ⟨o, ho⟩), fun _ _ ⟨o, es, ep, ho, r⟩ k => ⟨o, es, ep, k o ho, r⟩⟩
end
/-! #### the plain side -/
/-- a dict of tuples by its pairs -/
def asN (h : MH) (v : MV) : Option (List (MV × MV)) := match v with
  | .ref n => match h[n]? with
    | some (.dct kvs) => some kvs
    | some (.fct kvs) => some kvs
    | _ => none
  | _ => none
def getN (kvs : List (MV × MV)) (k : NestedKey) : Option MV := (kvs.find? fun p => decide (nkOf 8 p.1 = some k)).map (·.2)
def putN (kvs : List (MV × MV)) (key : MV) (k : NestedKey) (v : MV) : List (MV × MV) := if (getN kvs k).isSome = true then kvs.map (fun p => if nkOf 8 p.1 = some k then (p.1, v) else p) else kvs ++ [(key, v)]
def dropN (kvs : List (MV × MV)) (k : NestedKey) : List (MV × MV) := kvs.filter fun p => decide (nkOf 8 p.1 ≠ some k)
section
variable {K : PySem.W.Frag} {mg : Str → Option Value} {m : List Addr} {H H0 H1 : Hp} {h : MH} {X : Cx} {pins : List (Addr × Obj)} {σ : L2.St} {s : Shared} {a : Addr} {kvs : List (MV × MV)} {xs : List (NestedKey × Addr × Value)}
theorem Dt.asN (R : Rep K mg m H h) {x : MV} {v : V} (d : Dt K mg H0 m H x v) (e : asN h x = some kvs) : ∃ n a xs, x = .ref n ∧ v = .ref a ∧ (h[n]? = some (.dct kvs) ∨ h[n]? = some (.fct kvs)) ∧ m[n]? = some a ∧ Rd H a (rawN TheW.w a xs) ∧ DctR K mg m H a kvs xs := by
  cases x with
  | ref n =>
    cases d.dv (fun _ => MV.noConfusion) with
    | @ref _ a hn =>
      cases q : h[n]? with
      | none => simp [Mi.asN, q] at e
      | some o =>
        have ob := R.at_ q hn
        cases o with
        | dct ks =>
          have : ks = kvs := by simpa [Mi.asN, q] using e
          subst this
          obtain ⟨xs, h1, h2⟩ := ob
          exact ⟨n, a, xs, rfl, rfl, .inl q, hn, .inl h1, h2⟩
        | fct ks =>
          have : ks = kvs := by simpa [Mi.asN, q] using e
          subst this
          obtain ⟨o, xs, h1, h2⟩ := ob
          exact ⟨n, a, xs, rfl, rfl, .inr q, hn, .inr ⟨o, h1⟩, h2⟩
        | _ => simp [Mi.asN, q] at e
  | _ => cases e
theorem DvN.get (r : DvN K mg m H kvs xs) (k : NestedKey) : (getN kvs k = none ∧ atKey xs k = none) ∨ ∃ z ka u v, getN kvs k = some z ∧ atKey xs k = some (ka, u) ∧ RelV v u ∧ Dv K mg m H z v := by
  induction r with
  | nil => exact .inl ⟨rfl, rfl⟩
  | @cons key x nk ka v u ks ls h0 h1 h2 h3 r ih =>
    by_cases e : nk = k
    · subst e
      exact .inr ⟨x, ka, u, v, by simp [getN, h0], by simp [atKey], h3, h2⟩
    · have e2 : ¬ nkOf 8 key = some k := by rw [h0]; exact fun q => e (Option.some.inj q)
      have e3 : getN ((key, x) :: ks) k = getN ks k := by simp [getN, e2]
      have e4 : atKey ((nk, ka, u) :: ls) k = atKey ls k := by simp [atKey, e]
      rw [e3, e4]
      exact ih
theorem DvN.some_eq (r : DvN K mg m H kvs xs) (k : NestedKey) : (atKey xs k).isSome = (getN kvs k).isSome := by
  rcases r.get k with ⟨g1, g2⟩ | ⟨z, ka, u, v, g1, g2, _⟩ <;> rw [g1, g2] <;> rfl
theorem DvN.put {key z : MV} {ka : Addr} {v : V} {u : Value} {k : NestedKey} (r : DvN K mg m H kvs xs) (h0 : nkOf 8 key = some k) (h1 : Dv K mg m H key (.ref ka)) (h2 : Dv K mg m H z v) (h3 : RelV v u) : DvN K mg m H (putN kvs key k z) (storedH xs k ka u) := by
  unfold putN storedH
  rw [r.some_eq]
  have app : ∀ {kvs : List (MV × MV)} {xs : List (NestedKey × Addr × Value)}, DvN K mg m H kvs xs → DvN K mg m H (kvs ++ [(key, z)]) (xs ++ [(k, ka, u)]) := fun {kvs xs} r => by
    induction r with
    | nil => exact .cons h0 h1 h2 h3 .nil
    | cons a b c d _ ih => exact .cons a b c d ih
  have rep : ∀ {kvs : List (MV × MV)} {xs : List (NestedKey × Addr × Value)}, DvN K mg m H kvs xs → DvN K mg m H (kvs.map fun p => if nkOf 8 p.1 = some k then (p.1, z) else p) (xs.map (putAt k u)) := fun {kvs xs} r => by
    induction r with
    | nil => exact .nil
    | @cons key' x nk ka' v' u' ks ls a b c d r ih =>
      rw [List.map_cons, List.map_cons]
      by_cases e : nk = k
      · rw [if_pos (show nkOf 8 (key', x).1 = some k by rw [← e]; exact a), putAt, if_pos (show (nk, ka', u').1 = k from e)]
        exact .cons a b h2 h3 ih
      · rw [if_neg (show ¬ nkOf 8 (key', x).1 = some k by show ¬ nkOf 8 key' = some k; rw [a]; exact fun q => e (Option.some.inj q)), putAt, if_neg (show ¬ (nk, ka', u').1 = k from e)]
        exact .cons a b c d ih
  split
  · exact rep r
  · exact app r
theorem DvN.drop (k : NestedKey) (r : DvN K mg m H kvs xs) : DvN K mg m H (dropN kvs k) (withoutH xs k) := by
  induction r with
  | nil => exact .nil
  | @cons key x nk ka v u ks ls a b c d r ih =>
    unfold dropN withoutH at *
    by_cases e : nk = k
    · rw [List.filter_cons_of_neg (by simp [a, e]), List.filter_cons_of_neg (by simp [e])]
      exact ih
    · rw [List.filter_cons_of_pos (by simp [a, e]), List.filter_cons_of_pos (by simp [e])]
      exact .cons a b c d ih
theorem nk_ref {k : MV} {v : V} {nk : NestedKey} {xs : List NestedKey} (d : Dt K mg H0 m H k v) (e : nkOf 8 k = some (.tup xs)) : ∃ ka, v = .ref ka ∧ Dv K mg m H k (.ref ka) := by
  cases k with
  | tup ys =>
    have d := d.dv (fun _ => MV.noConfusion)
    obtain ⟨a, vs, rfl, _⟩ := sqt_of d
    exact ⟨a, rfl, d⟩
  | _ => cases e
end
/-- a tuple as a key -/
def tkOf (v : MV) : Option NestedKey := match v with
  | .tup _ => nkOf 8 v
  | _ => none
section
variable {K : PySem.W.Frag} {mg : Str → Option Value} {X : Cx} {m : List Addr} {H H0 H1 : Hp} {h : MH}
theorem tk_ref {k : MV} {v : V} {nk : NestedKey} (d : Dt K mg H0 m H k v) (e : tkOf k = some nk) : ∃ ka, v = .ref ka ∧ Dv K mg m H k (.ref ka) ∧ nkOf 8 k = some nk := by
  cases k with
  | tup ys =>
    have d := d.dv (fun _ => MV.noConfusion)
    obtain ⟨a, vs, rfl, _⟩ := sqt_of d
    exact ⟨a, rfl, d, e⟩
  | _ => cases e
theorem room8 (hu : X.A.units + 64 < cLine) : (nestedKind X.prog X.w).room X.A.in1 := by
  show X.A.units + 1 + 8 < cLine
  omega
/-- x[y] -/
noncomputable def ixN (x y : MV) (h : MH) : Res MV := match asN h x with
  | some kvs => (match tkOf y with
    | some k => (match getN kvs k with
      | some v => .ok v h
      | none => .stuck)
    | none => .stuck)
  | none => ixD x y h
theorem om_ixN (hu : X.A.units + 64 < cLine) (hK : X.K = K := by rfl) (hW : X.w = TheW.w := by rfl) : IxR X (rOp K mg ixN) := by
  intro ve sl pins s σ H x' y' v u Q I rx ry hh hsub
  obtain ⟨m, h, x, y, H0, H1, σ', W, R, dx, dy, q⟩ := hh
  unfold ixN at q
  split at q
  · rename_i kvs e1
    obtain ⟨n, a, xs, rfl, rfl, e2, e3, e4, e5⟩ := Dt.asN R dx e1
    split at q
    · rename_i k e6
      obtain ⟨ka, rfl, dk, e7⟩ := tk_ref dy e6
      split at q
      · rename_i z e8
        rcases e5.all.get k with ⟨g1, _⟩ | ⟨z', kb, u', v', g1, g2, g3, g4⟩
        · rw [g1] at e8; cases e8
        · rw [g1] at e8
          cases e8
          have hm := dct_at I hK hW e4 e5
          obtain rfl : v = Value.ref a := rx
          obtain rfl : u = Value.ref ka := ry
          have hk : (nestedKind X.prog X.w).is s.heap k ka := ⟨nk_is I hK dk rfl e7, nk_depth e7⟩
          have hT := hm.typeIs
          unfold subscriptTail
          refine wpAny_bind ?_
          rw [getitemInPython_of_ne hT.not_modules]
          refine wpAny_bind (wpAny_specialOf hT PySem.F.slot_dict_getitem.lookup ?_)
          have fin : wpAny (model X.prog X.w) X.A (subscripted sl false (.ref a) (.ref ka)) (fun r s₃ => wpAny (model X.prog X.w) X.A (letTemporaryGo ve (.ref a) r >>= fun _ => pure r) (EP X pins σ Q) X.xe s₃) X.xe s := by
            rw [hsub]
            exact wpAny_operating (wpAny_getItem_heap (room8 hu) hk hm g2 (wpAny_bind (wpAny_letTemporaryGo (wpAny_pure (⟨v', H, I.tok _, g3, rg.here q R (.v g4)⟩ : EP X pins σ Q _ _)))))
          first
            | exact wpAny_pure (wpAny_bind fin)
            | exact wpAny_bind (wpAny_pure (wpAny_bind fin))
            | exact wpAny_bind fin
      · exact q.elim
    · exact q.elim
  · exact om_ixD hu hK ve sl pins s σ H x' y' v u Q I rx ry ⟨m, h, x, y, H0, H1, σ', W, R, dx, dy, q⟩ hsub
/-- y in x -/
noncomputable def inN (x y : MV) (h : MH) : Res MV := match asN h y with
  | some kvs => (match tkOf x with
    | some k => .ok (.bl (getN kvs k).isSome) h
    | none => .stuck)
  | none => inD x y h
noncomputable def notInN (x y : MV) (h : MH) : Res MV := match asN h y with
  | some kvs => (match tkOf x with
    | some k => .ok (.bl (!(getN kvs k).isSome)) h
    | none => .stuck)
  | none => notInD x y h
theorem om_inN (hu : X.A.units + 64 < cLine) (hK : X.K = K := by rfl) (hW : X.w = TheW.w := by rfl) : OpR X (compareOp .In) (rOp K mg inN) := by
  intro pins s σ H x' y' v u Q I rx ry ⟨m, h, x, y, H0, H1, σ', W, R, dx, dy, q⟩
  unfold inN at q
  split at q
  · rename_i kvs e1
    obtain ⟨n, a, xs, rfl, rfl, e2, e3, e4, e5⟩ := Dt.asN R dy e1
    split at q
    · rename_i k e6
      obtain ⟨ka, rfl, dk, e7⟩ := tk_ref dx e6
      have hm := dct_at I hK hW e4 e5
      obtain rfl : u = Value.ref a := ry
      obtain rfl : v = Value.ref ka := rx
      have hk : (nestedKind X.prog X.w).is s.heap k ka := ⟨nk_is I hK dk rfl e7, nk_depth e7⟩
      refine wpAny_in_heap (room8 hu) hk e5.sys hm ?_
      rw [e5.all.some_eq]
      exact ⟨.bl _, H, I.tok _, rfl, rg.here q R (.v (.bl _))⟩
    · exact q.elim
  · exact om_inD hu hK pins s σ H x' y' v u Q I rx ry ⟨m, h, x, y, H0, H1, σ', W, R, dx, dy, q⟩
theorem om_notInN (hu : X.A.units + 64 < cLine) (hK : X.K = K := by rfl) (hW : X.w = TheW.w := by rfl) : OpR X (compareOp .NotIn) (rOp K mg notInN) := by
  intro pins s σ H x' y' v u Q I rx ry ⟨m, h, x, y, H0, H1, σ', W, R, dx, dy, q⟩
  unfold notInN at q
  split at q
  · rename_i kvs e1
    obtain ⟨n, a, xs, rfl, rfl, e2, e3, e4, e5⟩ := Dt.asN R dy e1
    split at q
    · rename_i k e6
      obtain ⟨ka, rfl, dk, e7⟩ := tk_ref dx e6
      have hm := dct_at I hK hW e4 e5
      obtain rfl : u = Value.ref a := ry
      obtain rfl : v = Value.ref ka := rx
      have hk : (nestedKind X.prog X.w).is s.heap k ka := ⟨nk_is I hK dk rfl e7, nk_depth e7⟩
      refine wpAny_notIn_heap (room8 hu) hk e5.sys hm ?_
      rw [e5.all.some_eq]
      exact ⟨.bl _, H, I.tok _, rfl, rg.here q R (.v (.bl _))⟩
    · exact q.elim
  · exact om_notInD hu hK pins s σ H x' y' v u Q I rx ry ⟨m, h, x, y, H0, H1, σ', W, R, dx, dy, q⟩
/-- d[k] = v -/
def setN (o i v : MV) (h : MH) : Option MH := match o with
  | .ref n => (match h[n]? with
    | some (.dct kvs) => (match tkOf i with
      | some k => if kvs.length < sizeLine then some (h.set n (.dct (putN kvs i k v))) else none
      | none => none)
    | _ => setD o i v h)
  | _ => setD o i v h
/-- what is written at the dict -/
theorem dct_write {pins : List (Addr × Obj)} {σ : L2.St} {s : Shared} {a : Addr} {xs ys : List (NestedKey × Addr × Value)} {h' : Heap} {t' : Nat} (hW : X.w = TheW.w) (I : L2.Inv X pins σ H s) (e : H a = some (rawN TheW.w a xs)) (hs : Heap.SameBut a s.heap h') (hm : h'.DictOfH (nestedKind X.prog X.w) a ys) : L2.Inv X pins σ (upd H a (rawN TheW.w a ys)) { s with heap := h', toks := t' } := by
  obtain ⟨o, es, ep, ho, hx, hd, he, _⟩ := hm
  refine d_write I (by rw [e]; exact True.intro) hs ⟨o, ho⟩ (rawN_ok ⟨o, es, ep, ho, hx, hd, ?_⟩)
  rw [he, hW]
  rfl
theorem om_setN (hu : X.A.units + 64 < cLine) (hK : X.K = K := by rfl) (hW : X.w = TheW.w := by rfl) : PSet X (rSetM K mg setN) := by
  intro pins s σ H o' i' v' ov iv u Q I ro ri rv ⟨m, h, o, i, v, H0, H1, h2, R, d1, d2, d3, e, q⟩
  have back : setD o i v h = some h2 → wpAny (model X.prog X.w) X.A (setItem ov iv u) (fun _ s' => ∃ H', L2.Inv X pins σ H' s' ∧ Q H') X.xe s := fun e => om_setD (K := K) (mg := mg) hu pins s σ H o' i' v' ov iv u Q I ro ri rv ⟨m, h, o, i, v, H0, H1, h2, R, d1, d2, d3, e, q⟩
  cases o with
  | ref n =>
    unfold setN at e
    dsimp only at e
    cases q1 : h[n]? with
    | none => rw [q1] at e; exact back e
    | some ob =>
      rw [q1] at e
      cases ob with
      | dct kvs =>
        dsimp only at e
        split at e
        · rename_i k e6
          split at e
          · rename_i hl
            cases e
            cases d1.dv (fun _ => MV.noConfusion) with
            | @ref _ a hn =>
              obtain ⟨xs, e4, e5⟩ := R.at_ q1 hn
              obtain ⟨ka, rfl, dk, e7⟩ := tk_ref d2 e6
              have hm := dct_at I hK hW (.inl e4) e5
              obtain rfl : ov = Value.ref a := ro
              obtain rfl : iv = Value.ref ka := ri
              have hk : (nestedKind X.prog X.w).is s.heap k ka := ⟨nk_is I hK dk rfl e7, nk_depth e7⟩
              have ha : a ∈ m := List.mem_of_getElem? hn
              refine wpAny_setItem_heap (hsz := e5.len) (room8 hu) hk hm fun h' hm' hs => ?_
              have ex : Ext m H m (upd H a (rawN TheW.w a (storedH xs k ka u))) := Ext.upd_at ha (fun _ _ z => by rw [e4] at z; cases z)
              have ln : (storedH xs k ka u).length ≤ sizeLine := by
                unfold storedH
                split
                · rw [List.length_map]; exact e5.len
                · rw [List.length_append, List.length_singleton, ← e5.all.length]; omega
              have nd : ((storedH xs k ka u).map (·.1)).Nodup := by
                obtain ⟨_, _, _, _, _, _, _, _, nd⟩ := hm'
                exact nd
              exact ⟨_, dct_write hW I e4 hs hm', q _ ex (R.write hn ⟨_, upd_same, ⟨e5.sys, ln, nd, (e5.all.put e7 dk d3 rv).mono ex.gro⟩⟩)⟩
          · cases e
        · cases e
      | lst _ => exact back e
      | ins _ _ => exact back e
      | dic _ => exact back e
      | fdc _ => exact back e
      | fct _ => exact back e
  | _ => exact back e
end
end Mi

set_option maxHeartbeats 400000
/-! ### dicts of tuples: {}, len, d[k] = v, d.get(k), d.pop(k), d.pop(k, x) -/
namespace Mi
open PySem PySem.Spec PyProof.Rows L2
variable [TheW]
def eDct0 : ME := fun σ h => .ok (.ref h.length) (h ++ [.dct []])
section
variable {K : PySem.W.Frag} {mg : Str → Option Value} {X : Cx} {W : WX} {m : List Addr} {H H0 H1 : Hp} {h : MH} {pos : Pos}
theorem pe_dnewN {w : World} : PE X (.Dict [] [] pos) (fun _ H Q => ∀ p, H p = none → (p == sysModules) = false → Q (.ref p) (upd H p (rawN w p []))) := ⟨fun pins s σ H Q I h =>
  wpAny_Dict_empty ⟨.ref s.heap.objs.size, _, I.laid (a := s.heap.objs.size) (o := rawN w s.heap.objs.size []) (t' := s.toks) (fun _ _ q => Heap.get?_push_of_some _ q) (Nat.le_refl _) (rawN_ok ⟨_, #[], 0, Heap.get?_push_size _ rfl, ⟨rfl, rfl, rfl⟩, rfl, rfl⟩), rfl, h _ (I.hok.fresh (Nat.le_refl _)) (beq_eq_false_iff_ne.mpr (Ne.symm (Nat.ne_of_lt I.big)))⟩⟩
theorem se_dct0 : SE K mg W X (.Dict [] [] pos) eDct0 := (pe_dnewN (w := TheW.w)).imp fun σ H Q ⟨m, σm, h, R, S, q⟩ => fun p np sy => by
  have e : Ext m H (m ++ [p]) (upd H p (rawN TheW.w p [])) := Ext.snoc np
  refine q (.ref p) (m ++ [p]) _ e (R.place (o := .dct []) (R.out np) e.gro (fun b hb => ?_) ⟨[], upd_same, ⟨sy, Nat.zero_le _, List.nodup_nil, .nil⟩⟩ fun P ps z => by rw [upd_ne (ne_of_none z np)]; exact z) (.v (.ref (by rw [← R.len]; simp)))
  obtain ⟨u, hu⟩ := R.tracked hb
  exact upd_ne (ne_of_none hu np)
/-- len(x) -/
def lenN (x : MV) (h : MH) : Res MV := match asN h x with
  | some kvs => .ok (.int kvs.length) h
  | none => lenD x h
theorem cm_lenN (hK : X.K = K := by rfl) (hW : X.w = TheW.w := by rfl) : CallR X (.builtin "len") (rCl1 K mg lenN) := by
  intro pins s σ H vs us Q I r ⟨m, h, x, v, H0, σ', W, e, R, dx, q⟩
  subst e
  unfold lenN at q
  split at q
  · rename_i kvs e1
    obtain ⟨n, a, xs, rfl, rfl, e2, e3, e4, e5⟩ := Dt.asN R dx e1
    cases r with
    | cons r1 r2 =>
      cases r2
      cases (show _ = Value.ref a from r1)
      have hm : s.heap.DictKeyed (nestedKind X.prog X.w) a (pairsH xs) := ⟨xs, dct_at I hK hW e4 e5, rfl⟩
      have z := e5.len
      rw [sizeLine_eq] at z
      refine call_len_slot (n := (pairsH xs).length) hm.typeIs PySem.F.slot_dict_len (fun Q' hq => len_keyed e5.sys hm hq) (by omega) (by rw [pairsH_length]; omega) ?_
      rw [pairsH_length, ← e5.all.length]
      exact ⟨.int _, H, I.tok _, ⟨_, rfl⟩, rg.here q R (.v (.int _))⟩
  · exact cm_lenD hK pins s σ H _ us Q I r ⟨m, h, x, v, H0, σ', W, rfl, R, dx, q⟩
/-- the dict at the moment of the call -/
theorem dct_meth {pins : List (Addr × Obj)} {s : Shared} {σ : L2.St} {x : MV} {x' : V} {kvs : List (MV × MV)} (hK : X.K = K) (hW : X.w = TheW.w) (I : L2.Inv X pins σ H s) (R : Rep K mg m H h) (d : Dt K mg H0 m H x x') (e : asN h x = some kvs) :
    ∃ a, x' = .ref a ∧ s.TypeIs (.ref a) "dict" ∧ (∀ b, Value.ref a = .ref b → ∃ ob, s.heap.get? b = some ob ∧ ob.dict = none) := by
  obtain ⟨n, a, xs, rfl, rfl, e2, e3, e4, e5⟩ := Dt.asN R d e
  have hm := dct_at I hK hW e4 e5
  refine ⟨a, rfl, hm.typeIs, fun b q => ?_⟩
  cases q
  obtain ⟨ob, _, _, h1, h2, _⟩ := hm
  exact ⟨ob, h1, h2.2.1⟩
def ngK (x y : MV) (h2 : MH) : Res MV := match asN h2 x, tkOf y with
  | some kvs, some k => .ok ((getN kvs k).getD .non) h2
  | _, _ => .stuck
/-- d.get(k) -/
def eNGet1 (D I : ME) : ME := fun σ h => (D σ h).bind fun x h1 => match asN h1 x with
  | some _ => (I σ h1).bind fun y h2 => ngK x y h2
  | none => .stuck
variable {o e f : Expr} {apos cpos : Pos} {D I Z : ME}
theorem se_nget1 (hu : X.A.units + 64 < cLine) (ho : SE K mg W X o D) (he : SE K mg W X e I) (m1 : M1 X o "get" apos e cpos) (hK : X.K = K := by rfl) (hW : X.w = TheW.w := by rfl) : SE K mg W X (.Call (.Attribute o "get" apos) [e] [] cpos) (eNGet1 D I) := by
  refine ⟨fun pins s σ H Q I0 ⟨m, σm, h, R, S, q⟩ => ?_⟩
  refine wpAny_Call_method m1.base m1.few m1.line PySem.F.plainAttrs_dict PySem.F.slot_dict_get PySem.F.type_dict_get (thn (ho.run pins s σ H (fun x' H1 => ∃ m1 h1 x kvs, Rep K mg m1 H1 h1 ∧ Ext m H m1 H1 ∧ Dt K mg H m1 H1 x x' ∧ asN h1 x = some kvs ∧ rg K mg (DV K mg) W σ m1 H1 ((I σm h1).bind fun y h2 => ngK x y h2) Q) I0 ⟨m, σm, h, R, S, rg.bind q fun x h1 x' m1 H1 e1 R1 d1 q1 => ?_⟩) fun u s1 ⟨x', H1, I1, rx, m1', h1, x, kvs, R1, e1, d1, ea, q1⟩ => ?_)
  · split at q1
    · rename_i kvs ea
      exact ⟨m1, h1, x, kvs, R1, e1, d1, ea, rg.ext dmV e1 R1 q1⟩
    · exact q1.elim
  · obtain ⟨a, rfl, t1, t2⟩ := dct_meth hK hW I1 R1 d1 ea
    obtain rfl : u = Value.ref a := rx
    refine ⟨t1, t2, ?_⟩
    rw [m1.trees]
    refine Calls.callWith_builtin rfl (Calls.evalArgs_plain (Calls.spliced_cons (thn (he.run pins s1 σ H1 (fun y' H2 => ∃ m2 h2 y, Rep K mg m2 H2 h2 ∧ Dt K mg H m2 H2 x (.ref a) ∧ Dt K mg H1 m2 H2 y y' ∧ rg K mg (DV K mg) W σ m2 H2 (ngK x y h2) Q) I1 ⟨m1', σm, h1, R1, S.mono e1.gro, rg.bind q1 fun y h2 y' m2 H2 e2 R2 d2 q2 => ⟨m2, h2, y, R2, d1.mono e2, d2, rg.ext dmV e2 R2 q2⟩⟩) fun iv s2 ⟨y', H2, I2, ry, m2, h2, y, R2, d2, d3, q2⟩ => Calls.spliced_nil ?_)))
    unfold ngK at q2
    split at q2
    · rename_i kvs2 k eb ek
      obtain ⟨n, a', xs, rfl, ea', g2, g3, g4, g5⟩ := Dt.asN R2 d2 eb
      cases ea'
      obtain ⟨ka, rfl, dk, e7⟩ := tk_ref d3 ek
      have hm : s2.heap.DictKeyed (nestedKind X.prog X.w) a (pairsH xs) := ⟨xs, dct_at I2 hK hW g4 g5, rfl⟩
      obtain rfl : iv = Value.ref ka := ry
      have hk : (nestedKind X.prog X.w).is s2.heap k ka := ⟨nk_is I2 hK dk rfl e7, nk_depth e7⟩
      refine get_keyed (room8 hu) hk g5.sys hm ?_
      rw [valueAt_pairsH]
      rcases g5.all.get k with ⟨k1, k2⟩ | ⟨z, kb, u', v', k1, k2, k3, k4⟩
      · rw [k2]
        rw [k1] at q2
        exact ⟨.non, H2, I2.tok _, rfl, rg.here q2 R2 (.v .non)⟩
      · rw [k2]
        rw [k1] at q2
        exact ⟨v', H2, I2.tok _, k3, rg.here q2 R2 (.v k4)⟩
    · exact q2.elim
/-- d.pop(k), d.pop(k, x) -/
def npK (x y : MV) (z : Option MV) (h2 : MH) : Res MV := match x with
  | .ref n => (match h2[n]?, tkOf y with
    | some (.dct kvs), some k => (match getN kvs k with
      | some v => .ok v (h2.set n (.dct (dropN kvs k)))
      | none => (match z with
        | some z => .ok z h2
        | none => .stuck))
    | _, _ => .stuck)
  | _ => .stuck
def eNPop1 (D I : ME) : ME := fun σ h => (D σ h).bind fun x h1 => match asN h1 x with
  | some _ => (I σ h1).bind fun y h2 => npK x y none h2
  | none => .stuck
def eNPop2 (D I Z : ME) : ME := fun σ h => (D σ h).bind fun x h1 => match asN h1 x with
  | some _ => (I σ h1).bind fun y h2 => (eSet Z σ h2).bind fun z h3 => npK x y (some z) h3
  | none => .stuck
/-- the call itself -/
theorem dct_pop {pins : List (Addr × Obj)} {s : Shared} {σ : L2.St} {a : Addr} {x y : MV} {y' : V} {iv : Value} {z : Option MV} {Q : VK} (hu : X.A.units + 64 < cLine) (hK : X.K = K) (hW : X.w = TheW.w) (I : L2.Inv X pins σ H s) (R : Rep K mg m H h) (d : Dt K mg H0 m H x (.ref a)) (dy : Dt K mg H1 m H y y') (ry : RelV y' iv) (q : rg K mg (DV K mg) W σ m H (npK x y z h) Q) :
    (z = none → wpAny (model X.prog X.w) X.A (call (.builtin "dict.pop") [.ref a, iv]) (EP X pins σ Q) X.xe s) ∧ ∀ zv z' fv, z = some zv → Dv K mg m H zv z' → RelV z' fv → wpAny (model X.prog X.w) X.A (call (.builtin "dict.pop") [.ref a, iv, fv]) (EP X pins σ Q) X.xe s := by
  unfold npK at q
  split at q
  · rename_i n
    split at q
    · rename_i kvs k q1 ek
      cases d.dv (fun _ => MV.noConfusion) with
      | @ref _ _ hn =>
        obtain ⟨xs, e4, e5⟩ := R.at_ q1 hn
        obtain ⟨ka, rfl, dk, e7⟩ := tk_ref dy ek
        have hm := dct_at I hK hW (.inl e4) e5
        obtain rfl : iv = Value.ref ka := ry
        have hk : (nestedKind X.prog X.w).is s.heap k ka := ⟨nk_is I hK dk rfl e7, nk_depth e7⟩
        have ha : a ∈ m := List.mem_of_getElem? hn
        rcases e5.all.get k with ⟨k1, k2⟩ | ⟨zv, kb, u', v', k1, k2, k3, k4⟩
        · rw [k1] at q
          refine ⟨fun hz => ?_, fun zv z' fv hz dz rz => ?_⟩
          · subst hz
            exact q.elim
          · subst hz
            exact call_pop_default_heap (hsz := e5.len) (room8 hu) hk e5.sys hm k2 fun tk => ⟨z', H, I.tok _, rz, rg.here q R (.v dz)⟩
        · rw [k1] at q
          have ex : Ext m H m (upd H a (rawN TheW.w a (withoutH xs k))) := Ext.upd_at ha (fun _ _ z => by rw [e4] at z; cases z)
          have fin : ∀ h', h'.DictOfH (nestedKind X.prog X.w) a (withoutH xs k) → Heap.SameBut a s.heap h' → EP X pins σ Q u' { s with heap := h', toks := s.toks + (nestedKind X.prog X.w).draws k } := fun h' hm' hs => by
            have ln : (withoutH xs k).length ≤ sizeLine := Nat.le_trans (List.length_filter_le _ _) e5.len
            have nd : ((withoutH xs k).map (·.1)).Nodup := by
              obtain ⟨_, _, _, _, _, _, _, _, nd⟩ := hm'
              exact nd
            exact ⟨v', _, dct_write hW I e4 hs hm', k3, q _ m _ ex (R.write hn ⟨_, upd_same, ⟨e5.sys, ln, nd, (e5.all.drop k).mono ex.gro⟩⟩) (.v (k4.mono ex.gro))⟩
          exact ⟨fun hz => call_pop_heap (hsz := e5.len) (.inl rfl) (PySem.F.args_dict_pop_2 _ _) (room8 hu) hk e5.sys hm k2 fin, fun zv z' fv hz dz rz => call_pop_heap (hsz := e5.len) (.inr ⟨fv, rfl⟩) (PySem.F.args_dict_pop_3 _ _ _) (room8 hu) hk e5.sys hm k2 fin⟩
    · exact q.elim
  · exact q.elim
theorem se_npop1 (hu : X.A.units + 64 < cLine) (ho : SE K mg W X o D) (he : SE K mg W X e I) (m1 : M1 X o "pop" apos e cpos) (hK : X.K = K := by rfl) (hW : X.w = TheW.w := by rfl) : SE K mg W X (.Call (.Attribute o "pop" apos) [e] [] cpos) (eNPop1 D I) := by
  refine ⟨fun pins s σ H Q I0 ⟨m, σm, h, R, S, q⟩ => ?_⟩
  refine wpAny_Call_method m1.base m1.few m1.line PySem.F.plainAttrs_dict PySem.F.slot_dict_pop PySem.F.type_dict_pop (thn (ho.run pins s σ H (fun x' H1 => ∃ m1 h1 x kvs, Rep K mg m1 H1 h1 ∧ Ext m H m1 H1 ∧ Dt K mg H m1 H1 x x' ∧ asN h1 x = some kvs ∧ rg K mg (DV K mg) W σ m1 H1 ((I σm h1).bind fun y h2 => npK x y none h2) Q) I0 ⟨m, σm, h, R, S, rg.bind q fun x h1 x' m1 H1 e1 R1 d1 q1 => ?_⟩) fun u s1 ⟨x', H1, I1, rx, m1', h1, x, kvs, R1, e1, d1, ea, q1⟩ => ?_)
  · split at q1
    · rename_i kvs ea
      exact ⟨m1, h1, x, kvs, R1, e1, d1, ea, rg.ext dmV e1 R1 q1⟩
    · exact q1.elim
  · obtain ⟨a, rfl, t1, t2⟩ := dct_meth hK hW I1 R1 d1 ea
    obtain rfl : u = Value.ref a := rx
    refine ⟨t1, t2, ?_⟩
    rw [m1.trees]
    refine Calls.callWith_builtin rfl (Calls.evalArgs_plain (Calls.spliced_cons (thn (he.run pins s1 σ H1 (fun y' H2 => ∃ m2 h2 y, Rep K mg m2 H2 h2 ∧ Dt K mg H m2 H2 x (.ref a) ∧ Dt K mg H1 m2 H2 y y' ∧ rg K mg (DV K mg) W σ m2 H2 (npK x y none h2) Q) I1 ⟨m1', σm, h1, R1, S.mono e1.gro, rg.bind q1 fun y h2 y' m2 H2 e2 R2 d2 q2 => ⟨m2, h2, y, R2, d1.mono e2, d2, rg.ext dmV e2 R2 q2⟩⟩) fun iv s2 ⟨y', H2, I2, ry, m2, h2, y, R2, d2, d3, q2⟩ => Calls.spliced_nil ?_)))
    exact (dct_pop hu hK hW I2 R2 d2 d3 ry q2).1 rfl
theorem se_npop2 (hu : X.A.units + 64 < cLine) (ho : SE K mg W X o D) (he : SE K mg W X e I) (hf : SE K mg W X f Z) (m1 : M2 X o "pop" apos e f cpos) (hK : X.K = K := by rfl) (hW : X.w = TheW.w := by rfl) : SE K mg W X (.Call (.Attribute o "pop" apos) [e, f] [] cpos) (eNPop2 D I Z) := by
  refine ⟨fun pins s σ H Q I0 ⟨m, σm, h, R, S, q⟩ => ?_⟩
  refine wpAny_Call_method m1.base m1.few m1.line PySem.F.plainAttrs_dict PySem.F.slot_dict_pop PySem.F.type_dict_pop (thn (ho.run pins s σ H (fun x' H1 => ∃ m1 h1 x kvs, Rep K mg m1 H1 h1 ∧ Ext m H m1 H1 ∧ Dt K mg H m1 H1 x x' ∧ asN h1 x = some kvs ∧ rg K mg (DV K mg) W σ m1 H1 ((I σm h1).bind fun y h2 => (eSet Z σm h2).bind fun z h3 => npK x y (some z) h3) Q) I0 ⟨m, σm, h, R, S, rg.bind q fun x h1 x' m1 H1 e1 R1 d1 q1 => ?_⟩) fun u s1 ⟨x', H1, I1, rx, m1', h1, x, kvs, R1, e1, d1, ea, q1⟩ => ?_)
  · split at q1
    · rename_i kvs ea
      exact ⟨m1, h1, x, kvs, R1, e1, d1, ea, rg.ext dmV e1 R1 q1⟩
    · exact q1.elim
  · obtain ⟨a, rfl, t1, t2⟩ := dct_meth hK hW I1 R1 d1 ea
    obtain rfl : u = Value.ref a := rx
    refine ⟨t1, t2, ?_⟩
    rw [m1.trees]
    refine Calls.callWith_builtin rfl (Calls.evalArgs_plain (Calls.spliced_cons (thn (he.run pins s1 σ H1 (fun y' H2 => ∃ m2 h2 y, Rep K mg m2 H2 h2 ∧ Ext m1' H1 m2 H2 ∧ Dt K mg H m2 H2 x (.ref a) ∧ Dt K mg H1 m2 H2 y y' ∧ rg K mg (DV K mg) W σ m2 H2 ((eSet Z σm h2).bind fun z h3 => npK x y (some z) h3) Q) I1 ⟨m1', σm, h1, R1, S.mono e1.gro, rg.bind q1 fun y h2 y' m2 H2 e2 R2 d2 q2 => ⟨m2, h2, y, R2, e2, d1.mono e2, d2, rg.ext dmV e2 R2 q2⟩⟩) fun iv s2 ⟨y', H2, I2, ry, m2, h2, y, R2, e2, d2, d3, q2⟩ => ?_)))
    refine Calls.spliced_cons (thn ((se_set hf).run pins s2 σ H2 (fun z' H3 => ∃ m3 h3 z, Rep K mg m3 H3 h3 ∧ Dt K mg H m3 H3 x (.ref a) ∧ Dt K mg H1 m3 H3 y y' ∧ Dv K mg m3 H3 z z' ∧ rg K mg (DV K mg) W σ m3 H3 (npK x y (some z) h3) Q) I2 ⟨m2, σm, h2, R2, (S.mono e1.gro).mono e2.gro, ?_⟩) fun fv s3 ⟨z', H3, I3, rz, m3, h3, z, R3, d4, d5, d6, q3⟩ => Calls.spliced_nil ?_)
    · cases ev : eSet Z σm h2 with
      | stuck => rw [ev] at q2; exact q2.elim
      | exc x h3 => rw [ev] at q2; exact q2
      | ok z h3 =>
        rw [ev] at q2
        exact fun z' m3 H3 e3 R3 d6 => ⟨m3, h3, z, R3, d2.mono e3, d3.mono e3, d6.dv (eSet_ns ev), rg.ext dmV e3 R3 q2⟩
    · exact (dct_pop hu hK hW I3 R3 d4 d5 ry q3).2 z z' fv rfl d6 rz
def sSubN (O I V : ME) : MSt := fun σ h => (eSet V σ h).st σ fun v h1 => (O σ h1).st σ fun o h2 => (I σ h2).st σ fun i h3 => match setN o i v h3 with
  | some h4 => .next σ h4
  | none => .stuck
theorem ss_subN {o i value : Expr} {pos pos' : Pos} {O J V' : ME} (hu : X.A.units + 64 < cLine) (ho : SE K mg W X o O) (hi : SE K mg W X i J) (hv : SE K mg W X value V') (hK : X.K = K := by rfl) (hW : X.w = TheW.w := by rfl)
    (ha : ∀ v, assign (.Subscript o i pos') X.env v = (do
      let ov ← holding [v] (eval o X.env)
      let iv ← holding [v, ov] (eval i X.env)
      standAt pos'
      holding [v, ov, iv] (setItem ov iv v)
      release [v, ov, iv] []) := by intro _; rfl)
    (hs : swapsWithSole [.Subscript o i pos'] value pos.line X.env = pure false := by rfl) (hw : swappedStores [.Subscript o i pos'] value X.env = pure none := by rfl) (h1 : (assignEach [.Subscript o i pos'] X.env).map (·.2) = [assign (.Subscript o i pos') X.env] := by rfl) :
    SS K mg W X (.Assign [.Subscript o i pos'] value pos) (sSubN O J V') := (ps_asg (se_set hv) (pg_sub ho hi (om_setN (K := K) (mg := mg) hu hK hW) ha) hs hw h1).imp fun D σ H ⟨m, σm, h, R, S, q⟩ => by
  refine ⟨m, σm, h, R, S, ?_⟩
  unfold sSubN at q
  cases ev : eSet V' σm h with
  | stuck => rw [ev] at q; exact q.elim
  | exc x h1 => rw [ev] at q; exact fun cls d m' H' e' R' x => q cls d σ m' H' e' R' (S.mono e'.gro) x
  | ok v h1 =>
    rw [ev, Res.ok_st] at q
    intro v' m1 H1 e1 R1 d1
    have d1' := d1.dv (eSet_ns ev)
    have S1 := S.mono e1.gro
    refine ⟨m1, σm, h1, R1, S1, rs.part S1 (rs.ext e1 R1 q) fun x h2 x' m2 H2 e2 R2 d2 q2 => ?_⟩
    have S2 := S1.mono e2.gro
    refine ⟨m2, σm, h2, R2, S2, rs.part S2 (rs.ext e2 R2 q2) fun y h3 y' m3 H3 e3 R3 d3 q3 => ?_⟩
    cases ep : setN x y v h3 with
    | none => rw [ep] at q3; exact q3.elim
    | some h4 =>
      rw [ep] at q3
      exact ⟨m3, h3, x, y, v, H1, H2, h4, R3, d2.mono e3, d3, (d1'.mono e2.gro).mono e3.gro, ep, fun H' e' R' => q3 σ m3 H' (e3.trans e') R' ((S2.mono e3.gro).mono e'.gro)⟩
end
end Mi

set_option maxHeartbeats 400000
/-! ### own exceptions as values; targets that part lists -/
namespace Mi
open PySem PySem.Spec PyProof.Rows L2 Builtin Builtin.ObjectAttr
variable [TheW]
section
variable {X : Cx} {pins : List (Addr × Obj)} {σ : L2.St} {s' : Shared} {u : Value}
/-- an exception that is made is a value, tracked from now on -/
theorem mkp_track {Qx : XK} {Q : VK} (hm : MkP X pins σ Qx u s') (k : ∀ cls d H' a, Qx cls d H' → H' a = none → Q (.ref a) (upd H' a (kx a cls d))) : EP X pins σ Q u s' := by
  obtain ⟨a, oe, vs, sI, H', cls, d, rfl, J, kk, hne, ha, hz, hd, h1, na, os, ag, r, q⟩ := hm
  have J1 : L2.Inv X pins σ (upd H' a (kx a cls d)) { sI with heap := s'.heap, toks := s'.toks } := L2.Inv.laidN J kk hne na (kx_ok ha hz hd)
  exact ⟨.ref a, _, ⟨J1.ok, os.trans J1.os, ag, J1.base, J1.loc, J1.cell, J1.free, J1.freeC, J1.pin, J1.hok, J1.len⟩, rfl, k cls d H' a q na⟩
end
/-- c(..), c an exception class -/
def eMkx (c : Str) (l : List (Str × Nat)) (dms : List MV) (AL : MA) : ME := fun σ h => (AL σ h).bind fun xs h1 => .ok (.exn c (l.map (·.1)) (flM l (xs ++ dms))) h1
/-- c(k = ..), c an exception class; the places of the keywords among the parameters -/
def eMkxK (c : Str) (l : List (Str × Nat)) (src : List Src) (KL : MA) : ME := fun σ h => (KL σ h).bind fun ys h1 => .ok (.exn c (l.map (·.1)) (flM l (gI src [] [] [] ys))) h1
section
variable {prog : Program} {w : World} {M : Model} {A : Around} {E : Value → Shared → Prop} {R : Result → Shared → Prop} {hp : Heap} {g : Array GenState} {d : Drawn} {t : Nat} {os : OsState}
variable {nm q : Str} {C N : Addr} {bs bm bmB : List Value} {hdct : Bool} {sn : List Str} {sub : List Value} {ab : Bool} {col : Option Bool} {dd : Option Addr} {k0 k1 k2 k3 k5 : Option Value} {B nw ini : String} {kw : List (Str × Value)}
theorem xnewK_check (F : ExcBaseFacts B nw ini bmB) (hB : bm.contains (.type B) = true) {rest : List Value} {Q : Unit → Shared → Prop} (hC : hp.get? C = some (excClassObj nm q C N bs bm hdct sn sub ab col dd k0 k1 k2 k3 k5 nw)) (hq : Q () ⟨hp, g, d, t, os⟩) :
    wpAny M A (checkBuiltinCall nw ⟨.ref C :: rest, kw⟩) Q E ⟨hp, g, d, t, os⟩ := by
  have has : (Value.ref C :: bm).contains (.type B) = true := by rw [List.contains_cons, hB, Bool.or_true]
  have star := F.noStar
  simp only [checkBuiltinCall, F.newKind, F.newSplit, F.newRow]
  repeat (first | refine wpAny_loadPart_at hC ?_ | (refine wpAny_isSubtype_exc hC ?_; rw [has]) | refine wpAny_staticBase_exc hC ?_ | refine wpAny_madeBy_exc hC ?_ | simp only [bne_self_eq_false, Bool.false_eq_true, if_false] | wp_step)
  exact hq
theorem xnewK (F : ExcBaseFacts B nw ini bmB) (hB : bm.contains (.type B) = true) (hA : bm.contains (.type "AttributeError") = false) (hN : bm.contains (.type "NameError") = false) {rest : List Value} (hC : hp.get? C = some (excClassObj nm q C N bs bm hdct sn sub ab col dd k0 k1 k2 k3 k5 nw))
    (hq : R (.ok (.ret (.ref (hp.objs.size + 1)))) ⟨(hp.push (W.kdv_tup rest)).push (HandSPX.excO C hp.objs.size), g, d, t, os⟩) (hz : rest.length ≤ sizeLine) : codeAny (model prog w) A (.builtin nw ⟨.ref C :: rest, kw⟩) R ⟨hp, g, d, t, os⟩ := by
  have ends := F.ends
  have has : (Value.ref C :: bm).contains (.type B) = true := by rw [List.contains_cons, hB, Bool.or_true]
  have hasA : (Value.ref C :: bm).contains (.type "AttributeError") = false := by rw [List.contains_cons, hA] <;> rfl
  have hasN : (Value.ref C :: bm).contains (.type "NameError") = false := by rw [List.contains_cons, hN] <;> rfl
  refine codeAny_builtinAt F.entry ?_
  unfold Builtin.«BaseException.__new__»
  refine PySem.wpAt_bind ?_
  show PySem.wpAt _ _ _ (PySem.stack >>= _) _ _ _
  refine PySem.wpAt_bind (PySem.wpAt_stack fun p below => PySem.wpAt_of_wpAny ?_)
  wp_walk
  refine PySem.wpAt_of_wpAny ?_
  rw [F.owner]
  repeat (first | with_reducible refine wpAny_madeHere_exc F.canon hC ?_ | with_reducible refine wpAny_loadPart_at hC ?_ | (with_reducible refine wpAny_isSubtype_exc hC ?_; first | rw [has] | rw [hasA] | rw [hasN]) | wp_step)
  show R _ _
  rw [Heap.size_push]
  exact hq
theorem xtypeK (F : ExcBaseFacts B nw ini bmB) (hB : bm.contains (.type B) = true) (hA : bm.contains (.type "AttributeError") = false) (hN : bm.contains (.type "NameError") = false) {rest : List Value} {fI : Addr} {Q : Fin → Shared → Prop} (hC : hp.get? C = some (excClassObj nm q C N bs bm hdct sn sub ab col dd k0 k1 k2 k3 k5 nw))
    (hi : W.Looks (model prog w) hp (typeLookup (.ref C) "__init__") (some (.ref fI))) (hb : ∀ self, W.Looks (model prog w) hp (bindSpecial (.ref fI) self) (.ref fI, [self])) (hz : rest.length ≤ sizeLine) (hne : kw ≠ [])
    (hq : codeAny (model prog w) A (.call (.ref fI) ⟨.ref (hp.objs.size + 1) :: rest, kw⟩) (fun r s' => match r with | .ok (.ret v) => v = .none ∧ Q (.done (.ret (.ref (hp.objs.size + 1)))) s' | .ok _ => False | .error e => E e s') ⟨(hp.push (W.kdv_tup rest)).push (HandSPX.excO C hp.objs.size), g, d, t, os⟩) :
    wpAny (model prog w) A (Builtin.«type.__call__» ⟨.ref C :: rest, kw⟩) Q E ⟨hp, g, d, t, os⟩ := by
  have nk : kw.isEmpty = false := by cases kw with | nil => exact absurd rfl hne | cons _ _ => rfl
  repeat (first | with_reducible refine wpAny_loadPart_at hC ?_ | with_reducible refine wpAny_madeBy_exc hC ?_ | wp_step)
  refine codeAny_call_builtin_code (Code.quiet_builtin _ F.quiet) (xnewK_check F hB hC (xnewK F hB hA hN hC ?_ hz))
  show wpAny _ _ _ _ _ _
  have k : ∀ b o, hp.get? b = some o → ((hp.push (W.kdv_tup rest)).push (HandSPX.excO C hp.objs.size)).get? b = some o := fun b o e => Heap.get?_push_of_some _ (Heap.get?_push_of_some _ e)
  have hC₁ := k _ _ hC
  have got : ((hp.push (W.kdv_tup rest)).push (HandSPX.excO C hp.objs.size)).get? (hp.objs.size + 1) = some (HandSPX.excO C hp.objs.size) := by heap_get
  have own : (Value.ref C :: bm).contains (.ref C) = true := by simp
  have i1 := hi.keeps k
  have b1 := (hb (.ref (hp.objs.size + 1))).keeps k
  unfold isInstance
  repeat (first | with_reducible refine wpAny_loadPart_at got ?_ | (with_reducible refine wpAny_isSubtype_exc hC₁ ?_; rw [own]) | wp_step)
  show wpAny _ _ (typeLookup (.ref C) _) _ _ _
  refine i1.at (wpAny_holding (wpAny_bind (b1.at (wpAny_bind (wpAny_call (codeAny_mono hq fun r s' z => ?_))))))
  rcases r with e | (v | _ | _ | _) <;> first | exact z | exact z.elim | skip
  obtain ⟨rfl, z⟩ := z
  first
    | exact wpAny_pure (wpAny_pure z)
    | (wp_walk; exact z)
theorem check_type_callK {M : Model} {rest : List Value} {Q : Unit → Shared → Prop} (hC : hp.get? C = some (excClassObj nm q C N bs bm hdct sn sub ab col dd k0 k1 k2 k3 k5 nw))
    (hq : Q () ⟨hp, g, d, t, os⟩) : wpAny M A (checkBuiltinCall "type.__call__" ⟨.ref C :: rest, kw⟩) Q E ⟨hp, g, d, t, os⟩ := by
  have f3 := tc_sub
  have hT : (⟨hp, g, d, t, os⟩ : Shared).TypeIs (.ref C) "type" := ⟨_, hC, rfl⟩
  simp only [checkBuiltinCall, tc_kind, tc_split]
  repeat (any_goals (first | assumption | with_reducible refine wpAny_loadPart_at hC ?_ | with_reducible refine wpAny_onRaise ?_ | with_reducible refine wpAny_map ?_ | wp_step))
theorem xcallK (F : ExcBaseFacts B nw ini bmB) (hB : bm.contains (.type B) = true) (hA : bm.contains (.type "AttributeError") = false) (hN : bm.contains (.type "NameError") = false) {rest : List Value} {fI : Addr} (hC : hp.get? C = some (excClassObj nm q C N bs bm hdct sn sub ab col dd k0 k1 k2 k3 k5 nw))
    (hi : W.Looks (model prog w) hp (typeLookup (.ref C) "__init__") (some (.ref fI))) (hb : ∀ self, W.Looks (model prog w) hp (bindSpecial (.ref fI) self) (.ref fI, [self])) (hz : rest.length ≤ sizeLine) (hne : kw ≠ [])
    (hq : codeAny (model prog w) (A.under (.builtin "type.__call__" ⟨.ref C :: rest, kw⟩)) (.call (.ref fI) ⟨.ref (hp.objs.size + 1) :: rest, kw⟩) (W.InitBack (hp.objs.size + 1) R) ⟨(hp.push (W.kdv_tup rest)).push (HandSPX.excO C hp.objs.size), g, d, t, os⟩) :
    codeAny (model prog w) A (.call (.ref C) ⟨rest, kw⟩) R ⟨hp, g, d, t, os⟩ := by
  have f1 := tc_lookup
  have f2 := tc_bind (.ref C)
  have ty : (⟨hp, g, d, t, os⟩ : Shared).TypeIs (.ref C) "type" := ⟨_, hC, rfl⟩
  refine codeAny_of_tree ?_
  show wpAny _ _ (callAny (.ref C) _) _ _ _
  repeat (any_goals (first | assumption | with_reducible refine wpAny_loadPart_at hC ?_ | wp_step))
  refine ⟨rfl, codeAny_call_builtin_at (Code.quiet_builtin _ (by decide +kernel)) entry_typeCall (check_type_callK hC (xtypeK F hB hA hN hC hi hb hz hne (codeAny_mono hq fun r s' z => ?_)))⟩
  rcases r with e | (v | _ | _ | _) <;> exact z
end
/-- values by names alone -/
def BK (K : PySem.W.Frag) (fd : FuncData) (ps ks : List Str) (src : List Src) : Prop := ∀ (s : Shared) (x : Value) (ws : List Value), K.In s.heap → ws.length = ks.length → BindsTo s fd ⟨[x], ks.zip ws⟩ (ps.zip (x :: gI src [] [] [] ws))
section
variable {K : PySem.W.Frag} {x qual : Str} {params : Arguments} {body : List Stmt} {scope : Scope} {f : Addr} {fd : FuncData} {ps ks : List Str} {src : List Src}
theorem bkN (F : FunD K x qual params body scope [] [] f fd)
    (h : ∀ (kV doc pm : Value) (an : Option Addr) (cdv ct : Value) (u : Value) (ws : List Value), ws.length = ks.length → bindArgs (PySem.W.fnOf x qual params body scope .none kV doc pm an cdv ct) ⟨[u], ks.zip ws⟩ = pure (ps.zip (u :: gI src [] [] [] ws))) : BK K fd ps ks src := by
  obtain ⟨oc, od, dV, kV, doc, pm, an, cdv, ct, osl, rfl, lk, hcd, hD, hK⟩ := F.ex
  rcases hD with ⟨_, rfl⟩ | ⟨e, _⟩
  · exact fun s u ws _ e => .of_eq (h kV doc pm an cdv ct u ws e)
  · exact absurd rfl e
theorem bkT {dvs : List V} (F : FunD K x qual params body scope dvs [] f fd) (hd : dvs ≠ [])
    (h : ∀ (T : Addr) (kV doc pm : Value) (an : Option Addr) (cdv ct : Value) (u : Value) (its ws : List Value), its.length = dvs.length → ws.length = ks.length →
      ∃ k, bindArgs (PySem.W.fnOf x qual params body scope (.ref T) kV doc pm an cdv ct) ⟨[u], ks.zip ws⟩ = seqItems? (.ref T) >>= k ∧ k (some its.toArray) = pure (ps.zip (u :: gI src [] [] [] ws))) : BK K fd ps ks src := by
  obtain ⟨oc, od, dV, kV, doc, pm, an, cdv, ct, osl, rfl, lk, hcd, hD, hK⟩ := F.ex
  rcases hD with ⟨e, _⟩ | ⟨_, T, o, its, mm, rfl, lT, oT, rT⟩
  · exact absurd e hd
  · intro s u ws kin e2
    obtain ⟨k, q1, q2⟩ := h T kV doc pm an cdv ct u its ws rT.length.symm e2
    refine BindsTo.of_looks fun M => ?_
    rw [q1]
    exact looks_items kin lT oT (.of_pure q2)
end
/-- an exception class with an __init__, as it is called by names -/
structure XcK (P : Program) (w : World) (K : PySem.W.Frag) (mg : Str → Option Value) (base : Heap) (k : Nat) (C : Addr) (ks : List Str) (l : List (Str × Nat)) (src : List Src) : Prop where
  kp : PySem.W.keepIn K (.ref C) = true
  run : ∀ {X : Cx} {pins : List (Addr × Obj)} {σ : L2.St} {H : Hp} {s : Shared} {vs : List V} {us : List Value} {Q : XK}, X.prog = P → X.w = w → X.K = K → X.mg = mg → X.base = base → Room (k + 1) X.A → L2.Inv X pins σ H s → Vals vs us → vs.length = ks.length →
    (∀ d, H d = none → Q (.ref C) (some d) (upd H d (.xd (flV l (gI src [] [] [] vs))))) → wpAny (model X.prog X.w) X.A (call (.ref C) [] (ks.zip us)) (MkP X pins σ Q) X.xe s
theorem xck_of {P : Program} {w : World} {K : PySem.W.Frag} {mg : Str → Option Value} {base : Heap} {k n : Nat} {C fI : Addr} {fd : FuncData} {ps ks : List Str} {l : List (Str × Nat)} {src : List Src} {B ini Nn nw nini : String} {tl tN : List Value} (b : XB B ini Nn nw nini tl tN) (T : XT K C nw tl)
    (iC : PySem.W.findIn K (.ref C) "__init__" = some (some (.ref fI))) (tI : PySem.W.typeIn K (.ref fI) = some (.type "function")) (F1 : FnOk P w K mg base C8.CX0 k fI fd ps (spX C n (flV l))) (hb : BK K fd ps ks src) (hk : ks ≠ []) (hs : ∀ vs : List V, vs.length = ks.length → (gI src [] [] [] vs).length = n) :
    XcK P w K mg base k C ks l src := by
  refine ⟨T.kC, ?_⟩
  intro X pins σ H s vs us Q hP hw hK hM hB hr I r1 hl h
  subst hP hw hK hM hB
  obtain ⟨nm, q, N, bs, bm, sn, sub, ab, col, dd, k0, k1, k2, k3, k5, hC, hbm⟩ := T.cls
  obtain ⟨hp, g, dr, tk, os⟩ := s
  have hsz : hp.objs.size ≤ hp.objs.size + 1 := Nat.le_succ _
  have hn0 : H (hp.objs.size + 1) = none := I.hok.fresh hsz
  have hq : spX C n (flV l) (.ref (hp.objs.size + 1) :: gI src [] [] [] vs) (upd H (hp.objs.size + 1) (exo (hp.objs.size + 1) C none))
      (fun v H2 => v = .non ∧ ∃ (d : Addr) (fs : List (Str × V)), H2 (hp.objs.size + 1) = some (exo (hp.objs.size + 1) C (some d)) ∧ H2 d = some (exd d fs) ∧ H d = none ∧ Q (.ref C) (some d) (upd (del H2 (hp.objs.size + 1)) d (.xd fs))) (fun _ _ _ => False) := by
    refine ⟨_, _, rfl, hs vs hl, upd_same, fun dx H2 n1 n2 e1 e2 e3 => ⟨rfl, dx, _, e1, e2, ?_, ?_⟩⟩
    · rw [upd_ne n2] at n1
      exact n1
    · have n1' : H dx = none := by rw [upd_ne n2] at n1; exact n1
      have eq : upd (del H2 (hp.objs.size + 1)) dx (.xd (flV l (gI src [] [] [] vs))) = upd H dx (.xd (flV l (gI src [] [] [] vs))) := by
        funext c
        by_cases hc : c = dx
        · rw [hc, upd_same, upd_same]
        · rw [upd_ne hc, upd_ne hc]
          by_cases hc2 : c = hp.objs.size + 1
          · rw [hc2, del_same, hn0]
          · rw [del_ne hc2, e3 c hc2 hc, upd_ne hc2]
      rw [eq]
      exact h dx n1'
  have kk : ∀ b o, hp.get? b = some o → ((hp.push (PySem.W.kdv_tup [])).push (PySem.HandSPX.excO C hp.objs.size)).get? b = some o := fun b o e => Heap.get?_push_of_some _ (Heap.get?_push_of_some _ e)
  have got : ((hp.push (PySem.W.kdv_tup [])).push (PySem.HandSPX.excO C hp.objs.size)).get? (hp.objs.size + 1) = some (PySem.HandSPX.excO C hp.objs.size) := by heap_get
  have I2 := I.laid (t' := tk) (a := hp.objs.size + 1) (o := exo (hp.objs.size + 1) C none) (h' := (hp.push (PySem.W.kdv_tup [])).push (PySem.HandSPX.excO C hp.objs.size)) kk hsz (exo_ok got)
  have lw : us.length = ks.length := by rw [← r1.length]; exact hl
  have r2 : Vals (V.ref (hp.objs.size + 1) :: gI src [] [] [] vs) (Value.ref (hp.objs.size + 1) :: gI src [] [] [] us) := .cons rfl (gI_vals .nil .nil .nil r1 src)
  have hne : ks.zip us ≠ [] := fun z => by
    have := congrArg List.length z
    rw [List.length_zip, lw, Nat.min_self] at this
    exact hk (List.length_eq_zero_iff.mp this)
  refine wpAny_call (xcallK b.make (refsT_has b.hasN hbm) (refsT_has b.noA hbm) (refsT_has b.noM hbm) (I.kIn _ _ hC) (PySem.W.looks_findIn I.kIn iC) (fun self => PySem.W.bind_fn I.kIn self tI) (Nat.zero_le _) hne
    (codeAny_mono (F1.run _ X.stack _ _ ⟨[Value.ref (hp.objs.size + 1)], ks.zip us⟩ (Value.ref (hp.objs.size + 1) :: gI src [] [] [] us) _ _ (fun _ _ _ => False) (hr.make C [] (ks.zip us)) (I2.env0.make C [] (ks.zip us)) (hb _ _ us I2.kIn lw) r2 hq) fun r s' hq' => ?_))
  cases r with
  | error er => exact False.elim hq'
  | ok fl =>
    cases fl with
    | ret u =>
      obtain ⟨v, H2, os2, bare2, un2, hok2, rv, ev, d, fs, ea, ed, hd1, q2⟩ := hq'
      subst ev
      obtain ⟨h2, g2, d2, t2, os'⟩ := s'
      exact ⟨rv, mk_end (raises_own T.exC T.tyC) I hsz kk un2 hok2 os2 bare2 ea ed hd1 q2⟩
    | next => exact False.elim hq'
    | brk => exact False.elim hq'
    | cont => exact False.elim hq'
section
variable {K : PySem.W.Frag} {mg : Str → Option Value} {X : Cx} {W : WX} {m : List Addr} {H : Hp} {h : MH} {σ : L2.St} {k n : Nat} {C : Addr} {c : Str} {l : List (Str × Nat)} {dvs : List V} {dms : List MV} {p pos pos' : Pos} {e : Expr} {es : List Expr} {AL KL : MA} {ks : List Str} {src : List Src} {kws : List Keyword}
/-- the made exception as a value -/
theorem exn_made {vs : List V} {x : List MV} {m1 : List Addr} {H1 : Hp} {h1 : MH} {Q : VK} (hC : mg c = some (.ref C)) (R1 : Rep K mg m1 H1 h1) (da : DvAll K mg m1 H1 x vs) (hl : ∀ p ∈ l, p.2 < x.length) (q1 : rg K mg (DV K mg) W σ m1 H1 (.ok (.exn c (l.map (·.1)) (flM l x)) h1) Q) :
    (l = [] → ∀ a, H1 a = none → Q (.ref a) (upd H1 a (kx a (.ref C) none))) ∧ ∀ d, H1 d = none → ∀ a, upd H1 d (.xd (flV l vs)) a = none → Q (.ref a) (upd (upd H1 d (.xd (flV l vs))) a (kx a (.ref C) (some d))) := by
  refine ⟨fun hl0 a na => ?_, fun d nd a na => ?_⟩
  · subst hl0
    exact q1 _ m1 _ (Ext.upd_new na) (R1.lay na) (.v (.exn0 hC upd_same (R1.out na)))
  · have e1 : Ext m1 H1 m1 (upd H1 d (.xd (flV l vs))) := Ext.upd_new nd
    have R2 : Rep K mg m1 (upd H1 d (.xd (flV l vs))) h1 := R1.lay nd
    obtain ⟨w1, w2⟩ := flV_dv (da.mono e1.gro) (l := l) hl
    have xr : XR K mg m1 (upd H1 d (.xd (flV l vs))) ⟨c, l.map (·.1), flM l x⟩ (.ref C) (some d) := ⟨C, rfl, hC, .inr ⟨d, _, rfl, R1.out nd, upd_same, w1, w2⟩⟩
    exact q1 _ m1 _ (e1.trans (Ext.upd_new na)) (R2.lay na) (.v (exn_dv R2 xr na))
theorem se_mkx (F : XcM X.prog X.w K mg X.base k C n l dvs) (hr : Room (k + 1) X.A) (hd : ∀ m H, DvAll K mg m H dms dvs) (hl : ∀ p ∈ l, p.2 < n + dms.length) (hC : mg c = some (.ref C)) (hg : Gl X c) (ha : SA K mg W X (e :: es) AL) (ln : LenA AL n) (hK : X.K = K := by rfl) (hM : X.mg = mg := by rfl)
    (hdb : (c == ("__debug__" : Str)) = false := by decide) (he : starEach (e :: es) X.env = (false, eval e X.env) :: starEach es X.env := by rfl) (hpl : (backTo pos (starEach es X.env)).any (·.1) = false := by rfl) :
    SE K mg W X (.Call (.Name c p) (e :: es) [] pos) (eMkx c l dms AL) := by
  subst hK hM
  refine ⟨fun pins s σ H Q I ⟨m, σm, h, R, S, q⟩ => wpAny_Call_Name_kw (ld_glob I hg hC ?_ hdb)⟩
  refine PySem.W.callWith_K (h₀ := X.base) I.ok.mod.kin F.kp (thn (ha.run pos pins s σ H (fun vs H1 => ∃ m1 h1 xs, xs.length = n ∧ Rep X.K X.mg m1 H1 h1 ∧ DvAll X.K X.mg m1 H1 xs vs ∧ rg X.K X.mg (DV X.K X.mg) W σ m1 H1 (.ok (.exn c (l.map (·.1)) (flM l (xs ++ dms))) h1) Q) I ⟨m, σm, h, R, S, ?_⟩) fun us s1 ⟨vs, H1, I1, r, m1, h1, xs, lx, R1, d1, q1⟩ => ⟨I1.kIn, ?_⟩) he hpl
  · unfold eMkx at q
    cases ea : AL σm h with
    | ok xs h1 => rw [ea] at q; exact fun vs m1 H1 e1 R1 d1 => ⟨m1, h1, xs, ln _ _ _ _ ea, R1, d1, rg.ext dmV e1 R1 q⟩
    | exc y h1 => rw [ea] at q; exact q
    | stuck => rw [ea] at q; exact q
  · obtain ⟨g1, g2⟩ := exn_made hC R1 (d1.append (hd m1 H1)) (by rw [List.length_append, lx]; exact hl) q1
    exact wpAny_mono (F.run (Q := fun cls d H2 => ∀ a, H2 a = none → Q (.ref a) (upd H2 a (kx a cls d))) rfl rfl rfl rfl rfl hr I1 r (by rw [← d1.length]; exact lx) g1 fun _ => g2) (fun u s' hm => mkp_track hm fun cls d H' a q na => q a na) fun _ _ x => x
theorem se_mkx0 (F : XcM X.prog X.w K mg X.base k C 0 l dvs) (hr : Room (k + 1) X.A) (hd : ∀ m H, DvAll K mg m H dms dvs) (hl : ∀ p ∈ l, p.2 < 0 + dms.length) (hC : mg c = some (.ref C)) (hg : Gl X c) (hK : X.K = K := by rfl) (hM : X.mg = mg := by rfl)
    (hdb : (c == ("__debug__" : Str)) = false := by decide) : SE K mg W X (.Call (.Name c p) [] [] pos) (eMkx c l dms aNil) := by
  subst hK hM
  refine ⟨fun pins s σ H Q I ⟨m, σm, h, R, S, q⟩ => wpAny_Call_Name_kw (ld_glob I hg hC ?_ hdb)⟩
  have q : rg X.K X.mg (DV X.K X.mg) W σ m H (.ok (.exn c (l.map (·.1)) (flM l ([] ++ dms))) h) Q := q
  obtain ⟨g1, g2⟩ := exn_made (vs := [] ++ dvs) hC R (hd m H) (by simpa using hl) q
  exact PySem.W.callWith_K0 I.kIn F.kp (wpAny_mono (F.run (vs := []) (Q := fun cls d H2 => ∀ a, H2 a = none → Q (.ref a) (upd H2 a (kx a cls d))) rfl rfl rfl rfl rfl hr I .nil rfl g1 fun _ => g2) (fun u s' hm => mkp_track hm fun cls d H' a q na => q a na) fun _ _ x => x)
theorem se_mkxK {j : Nat} (F : XcK X.prog X.w K mg X.base k C ks l src) (hr : Room (k + 1) X.A) (hl : ∀ ys : List MV, ys.length = ks.length → ∀ p ∈ l, p.2 < (gI src [] [] [] ys).length) (hl0 : l ≠ []) (hC : mg c = some (.ref C)) (hg : Gl X c) (hkw : SK K mg W X kws KL) (l2 : LenA KL j) (hj : j = ks.length) (hK : X.K = K := by rfl) (hM : X.mg = mg := by rfl)
    (hall : (backToKw pos (keywordEach kws X.env)).all (·.1.isSome) = true := by rfl) (hks : (backToKw pos (keywordEach kws X.env)).filterMap (·.1) = ks := by rfl) (hdb : (c == ("__debug__" : Str)) = false := by decide)
    (hpl : ((backTo pos (starEach [] X.env)).any (·.1) || (backToKw pos (keywordEach kws X.env)).any (·.1.isNone)) = false := by rfl) : SE K mg W X (.Call (.Name c p) [] kws pos) (eMkxK c l src KL) := by
  subst hK hM hj
  refine ⟨fun pins s σ H Q I ⟨m, σm, h, R, S, q⟩ => wpAny_Call_Name_kw (ld_glob I hg hC ?_ hdb)⟩
  refine PySem.W.callWith_KW0 (h₀ := X.base) I.ok.mod.kin F.kp hall ?_ hpl
  refine thn (hkw.run pos pins s σ H (fun vs2 H2 => ∃ m2 h2 ys, ys.length = ks.length ∧ Rep X.K X.mg m2 H2 h2 ∧ DvAll X.K X.mg m2 H2 ys vs2 ∧ rg X.K X.mg (DV X.K X.mg) W σ m2 H2 (.ok (.exn c (l.map (·.1)) (flM l (gI src [] [] [] ys))) h2) Q) I ⟨m, σm, h, R, S, ?_⟩) fun ws s2 ⟨zs, H2, I2, rz, m2, h2, ys, ly, R2, d3, q2⟩ => ⟨I2.kIn, ?_⟩
  · unfold eMkxK at q
    cases ea : KL σm h with
    | ok ys h2 => rw [ea] at q; exact fun vs m2 H2 e2 R2 d2 => ⟨m2, h2, ys, l2 _ _ _ _ ea, R2, d2, rg.ext dmV e2 R2 q⟩
    | exc y h1 => rw [ea] at q; exact q
    | stuck => rw [ea] at q; exact q
  · rw [hks]
    obtain ⟨g1, g2⟩ := exn_made hC R2 (gI_dv .nil .nil .nil d3 src) (hl ys ly) q2
    exact wpAny_mono (F.run (Q := fun cls d H2 => ∀ a, H2 a = none → Q (.ref a) (upd H2 a (kx a cls d))) rfl rfl rfl rfl rfl hr I2 rz (by rw [← d3.length]; exact ly) g2) (fun u s' hm => mkp_track hm fun cls d H' a q na => q a na) fun _ _ x => x
end
/-- a, b, .. = a list of that length -/
def gTL (n : Nat) (r : List MV → MS → MH → Res MS) : MG := fun v σ h => match asL h v with
  | some xs => if xs.length = n then r xs σ h else .stuck
  | none => .stuck
theorem nox_tupL {n : Nat} {r : List MV → MS → MH → Res MS} (h2 : NoXs r) : NoX (gTL n r) := fun v σ h x h' z => by
  unfold gTL at z
  split at z
  · split at z
    · exact h2 _ _ _ _ _ z
    · cases z
  · cases z
section
variable {K : PySem.W.Frag} {mg : Str → Option Value} {X : Cx} {W : WX} {pos : Pos} {vs : List Nat}
theorem sg_lst {es : List Expr} {k n : Nat} {r : List MV → MS → MH → Res MS} (hc : X.calm = true) (h1 : SGs K mg W X vs es r) (hn : (assignEach es X.env).length = n := by rfl) (hst : (assignEach es X.env).findIdx? (·.1) = none := by rfl) (hK : X.K = K := by rfl) :
    SG K mg W X vs (.Tuple es k pos) (gTL n r) := ⟨fun pins s σ H v u Q I rr ⟨m, σm, h, x, R, S, d, q⟩ => (pg_lst hc h1 hn hst).run pins s σ H v u Q I rr (by
  unfold gTL at q
  split at q
  · rename_i xs e
    obtain ⟨a, ws, rfl, s1, r1⟩ := Dt.asL (H0 := H) R (.v d) e
    split at q
    · rename_i hl
      exact ⟨a, ws, rfl, by rw [hK]; exact s1, by rw [← r1.length]; exact hl, m, σm, h, xs, R, S, r1, q⟩
    · exact q.elim
  · exact q.elim)⟩
end
end Mi

set_option maxHeartbeats 1000000
/-! MiCb: text.replace(a, b) where a is nowhere in it; text.replace(a, b, 1) with a token out ahead. -/
namespace Mi
open PySem PySem.Spec PyProof.Rows L2
variable [TheW]
def eRepl0 (y z : Str) (A : ME) : ME := fun σ h => (A σ h).bind fun x h1 => match x with
  | .str a => if (Builtin.Str.occurrences a y 0 a.length (a.length + 1)).isEmpty = true then .ok (.str a) h1 else .stuck
  | _ => .stuck
def repl1 (x y z : Str) : Str := if ((Builtin.Str.occurrences x y 0 x.length 1).isEmpty || (y.length == 0 && z.length == 0)) = true then x else Builtin.Str.glued z (Builtin.Str.partsBetween x (Builtin.Str.occurrences x y 0 x.length 1) y.length)
def eRepl1 (y z : Str) (A : ME) : ME := fun σ h => (A σ h).bind fun x h1 => match x with
  | .str a => if a.length ≤ 1000000 then .ok (.str (repl1 a y z)) h1 else .stuck
  | _ => .stuck
section
variable {K : PySem.W.Frag} {mg : Str → Option Value} {X : Cx} {W : WX} {A B : ME} {AL : MA} {o a b e : Expr} {es : List Expr} {y z : Str} {j k l : Nat} {c0 c1 c2 apos pos p p' : Pos}
theorem pe_repl0 {to : TE} (ho : PE X o to)
    (hst : starEach [.Constant (.str y) j c0, .Constant (.str z) k c1] X.env = [(false, eval (.Constant (.str y) j c0) X.env), (false, eval (.Constant (.str z) k c1) X.env)] := by rfl)
    (hbase : attributeBase o "replace" X.env (eval o X.env) = eval o X.env := by rfl) (hline : (apos.endLine == pos.line) = true := by rfl) :
    PE X (.Call (.Attribute o "replace" apos) [.Constant (.str y) j c0, .Constant (.str z) k c1] [] pos) (fun σ H Q => to σ H fun v H1 => ∃ x, v = .str x ∧ (Builtin.Str.occurrences x y 0 x.length (x.length + 1)).isEmpty = true ∧ Q (.str x) H1) := by
  refine ⟨fun pins s σ H Q I h => ?_⟩
  refine PySem.Call_method2 hbase hst hline (thn (ho.run pins s σ H _ I h) fun v s1 ⟨v', H1, I1, r1, x, e1, hz, q⟩ => ?_)
  subst e1
  obtain ⟨tx, e2⟩ := r1
  subst e2
  refine ⟨"str", _, PySem.F.plainAttrs_str, PySem.F.slot_str_replace, PySem.F.type_str_replace, typeIs_str _ _ _, (fun _ e => nomatch e), Calls.callWith_builtin rfl (Calls.evalArgs_plain (Calls.spliced_cons ?_))⟩
  refine Calls.Constant_str (Calls.spliced_cons (Calls.Constant_str (Calls.spliced_nil ?_)))
  refine call_gives F.slot_str_replace (typeIs_str _ _ _) F.entry_str_replace (F.args_str_replace_3 _ _ _) (gives_str_replace x y z tx _ _ fun h => ?_) ?_
  · rw [hz, Bool.true_or] at h
    cases h
  · rw [hz, Bool.true_or, if_pos rfl]
    exact ⟨.str x, H1, I1.tok _, ⟨tx, rfl⟩, q⟩
theorem se_repl0 (ho : SE K mg W X o A)
    (hst : starEach [.Constant (.str y) j c0, .Constant (.str z) k c1] X.env = [(false, eval (.Constant (.str y) j c0) X.env), (false, eval (.Constant (.str z) k c1) X.env)] := by rfl)
    (hbase : attributeBase o "replace" X.env (eval o X.env) = eval o X.env := by rfl) (hline : (apos.endLine == pos.line) = true := by rfl) :
    SE K mg W X (.Call (.Attribute o "replace" apos) [.Constant (.str y) j c0, .Constant (.str z) k c1] [] pos) (eRepl0 y z A) := (pe_repl0 ho hst hbase hline).imp fun σ H Q ⟨m, σm, h, R, S, q⟩ => by
  refine ⟨m, σm, h, R, S, rg.bind q fun x h1 x' m1 H1 e1 R1 d1 q1 => ?_⟩
  cases x with
  | str a =>
    cases d1.dv (fun _ => MV.noConfusion)
    dsimp only at q1
    split at q1
    · rename_i hz
      exact ⟨a, rfl, hz, rg.here (rg.ext dmV e1 R1 q1) R1 (.v (.str a))⟩
    · exact q1.elim
  | _ => exact q1.elim
end
/-! one token out -/
theorem part_len {x : Str} {i j : Nat} : (Builtin.Str.strSub x i j).length ≤ x.length := by
  show (x.cps.extract i j).size ≤ x.cps.size
  simp
  omega
theorem sum_le {n : Nat} : ∀ {l : List Nat}, (∀ a ∈ l, a ≤ n) → l.sum ≤ l.length * n
  | [], _ => by simp
  | a :: l, h => by
    have h1 := h a (List.mem_cons_self ..)
    have h2 := sum_le (l := l) fun b hb => h b (List.mem_cons_of_mem _ hb)
    rw [List.sum_cons, List.length_cons, Nat.add_mul, Nat.one_mul]
    omega
theorem repl1_raw {x y z : Str} : (Builtin.Str.glued z (Builtin.Str.partsBetween x (Builtin.Str.occurrences x y 0 x.length 1) y.length)).length ≤ 2 * x.length + z.length := by
  have h1 := StrLaws.occ_length_le x y 0 x.length 1
  rw [size_glued, length_partsBetween, Nat.add_sub_cancel]
  have h2 : ((Builtin.Str.partsBetween x (Builtin.Str.occurrences x y 0 x.length 1) y.length).map (·.length)).sum ≤ 2 * x.length := by
    refine Nat.le_trans (sum_le (n := x.length) fun a ha => ?_) (Nat.mul_le_mul_right _ (by rw [List.length_map, length_partsBetween]; omega))
    obtain ⟨p, hp, rfl⟩ := List.mem_map.mp ha
    simp only [Builtin.Str.partsBetween, List.mem_map] at hp
    obtain ⟨q, _, rfl⟩ := hp
    exact part_len
  have h3 : (Builtin.Str.occurrences x y 0 x.length 1).length * z.length ≤ 1 * z.length := Nat.mul_le_mul_right _ h1
  omega
theorem repl1_len {x y z : Str} : (repl1 x y z).length ≤ 2 * x.length + z.length := by
  unfold repl1
  split
  · omega
  · exact repl1_raw
theorem gives_repl1 (x y z : Str) (t u v w : Tok) (h0 : (u == 0 || v == 0) = false) (huv : (u == v) = false) (hyz : (y == z) = false) (hl : Builtin.Str.tooLong (x.length + (Builtin.Str.occurrences x y 0 x.length 1).length * z.length) = false) :
    Gives (Builtin.«str.replace» ⟨[.str x t, .str y u, .str z v, .int 1 w], []⟩) (if ((Builtin.Str.occurrences x y 0 x.length 1).isEmpty || (y.length == 0 && z.length == 0)) = true then .val (.str x t) else .str (Builtin.Str.glued z (Builtin.Str.partsBetween x (Builtin.Str.occurrences x y 0 x.length 1) y.length))) := by
  show Gives (Builtin.Str.countLimit "str.replace" (some (.int 1 w)) (x.length + 1) >>= fun limit =>
    (if ((Builtin.Str.occurrences x y 0 x.length limit).isEmpty || (y.length == 0 && z.length == 0)) = true then (do rule "str.replace.nothing"; ret (.str x t)) else
          (do let same ← isSame (.str y u) (.str z v)
              if same = true then (do rule "str.replace.old-is-new"; ret (.str x t)) else
              if Builtin.Str.tooLong (x.length + (Builtin.Str.occurrences x y 0 x.length limit).length * z.length) = true then unsupported "str.replace:memory" else
              retStr (Builtin.Str.glued z (Builtin.Str.partsBetween x (Builtin.Str.occurrences x y 0 x.length limit) y.length))))) _
  have e : Builtin.Str.countLimit "str.replace" (some (.int 1 w)) (x.length + 1) = pure 1 := by
    show (Builtin.Str.asSsize "str.replace" (.int 1 w) >>= fun i => pure (if i < 0 then x.length + 1 else i.toNat)) = _
    rw [asSsize_int _ _ _ (by decide)]
    rfl
  rw [e]
  show Gives (if ((Builtin.Str.occurrences x y 0 x.length 1).isEmpty || (y.length == 0 && z.length == 0)) = true then (do rule "str.replace.nothing"; ret (.str x t)) else
          (do let same ← isSame (.str y u) (.str z v)
              if same = true then (do rule "str.replace.old-is-new"; ret (.str x t)) else
              if Builtin.Str.tooLong (x.length + (Builtin.Str.occurrences x y 0 x.length 1).length * z.length) = true then unsupported "str.replace:memory" else
              retStr (Builtin.Str.glued z (Builtin.Str.partsBetween x (Builtin.Str.occurrences x y 0 x.length 1) y.length)))) _
  cases hc : ((Builtin.Str.occurrences x y 0 x.length 1).isEmpty || (y.length == 0 && z.length == 0))
  · rw [isSame_str_other y z u v h0 huv hyz, hl]
    exact .of_eq rfl
  · exact .rule (.of_eq rfl)
section
variable {K : PySem.W.Frag} {mg : Str → Option Value} {X : Cx} {W : WX} {A B : ME} {AL : MA} {o a b e : Expr} {es : List Expr} {y z : Str} {j k l : Nat} {c0 c1 c2 apos pos p p' : Pos} {σ : L2.St} {H : Hp} {Q : VK}
abbrev SET (K : PySem.W.Frag) (mg : Str → Option Value) (W : WX) (X : Cx) (e : Expr) (A : ME) : Prop := PET X e (tg K mg (DV K mg) W A)
abbrev SAT (K : PySem.W.Frag) (mg : Str → Option Value) (W : WX) (X : Cx) (es : List Expr) (A : MA) : Prop := PAT X es (tg K mg (DA K mg) W A)
theorem PET.imp {t t' : TE} (h : PET X e t) (f : ∀ σ H Q, t' σ H Q → t σ H Q) : PET X e t' := fun pins s σ H Q h0 I q => h pins s σ H Q h0 I (f _ _ _ q)
theorem PAT.imp {t t' : TA} (h : PAT X es t) (f : ∀ σ H Q, t' σ H Q → t σ H Q) : PAT X es t' := fun pos pins s σ H Q h0 I q => h pos pins s σ H Q h0 I (f _ _ _ q)
theorem SET.of (h : SE K mg W X e A) : SET K mg W X e A := fun pins s σ H Q _ I q => h.run pins s σ H Q I q
theorem tg_lst {n : Nat} (l : LenA AL n) (hn : n ≤ 1000) (t : tg K mg (DV K mg) W (eLst AL) σ H Q) : tLst (tg K mg (DA K mg) W AL) σ H Q := by
  obtain ⟨m, σm, h, R, S, q⟩ := t
  refine ⟨m, σm, h, R, S, ?_⟩
  unfold eLst at q
  cases e : AL σm h with
  | ok xs h1 =>
    rw [e] at q
    intro vs m1 H1 e1 R1 d1
    have hl : vs.length ≤ sizeLine := by
      rw [← DvAll.length d1, l _ _ _ _ e, sizeLine_eq]
      omega
    refine ⟨hl, fun p np => q (.ref p) m1 _ (e1.trans (Ext.upd_new np)) (R1.lay np) (.tmp upd_same (R1.out np) (e1.none_of R1 np) (DvAll.mono (Ext.upd_new np).gro d1))⟩
  | exc x h1 => rw [e] at q; exact q
  | stuck => rw [e] at q; exact q
theorem tg_eset (t : tg K mg (DV K mg) W (eSet A) σ H Q) : tg K mg (DV K mg) W A σ H Q := by
  obtain ⟨m, σm, h, R, S, q⟩ := t
  refine ⟨m, σm, h, R, S, ?_⟩
  unfold eSet at q
  cases e : A σm h with
  | ok v h1 =>
    rw [e] at q
    exact fun v' m1 H1 e1 R1 d1 => rg.settle (D := DV K mg) (fun d => .v d) e1 R1 d1 q
  | exc x h1 => rw [e] at q; exact q
  | stuck => rw [e] at q; exact q
theorem sat_nil : SAT K mg W X [] aNil := PAT.imp pat_nil fun σ H Q ⟨m, σm, h, R, S, q⟩ => rg.here (D := DA K mg) q R .nil
theorem set_op {op : Operator} {f : MV → MV → MH → Res MV} (hop : OpR X (binaryOp op) (rOp K mg f)) (ha : SET K mg W X a A) (hb : SET K mg W X b B) : SET K mg W X (.BinOp a op b pos) (eBin f A B) := by
  refine PET.imp (t := tOp (rOp K mg f) (tg K mg (DV K mg) W A) (tg K mg (DV K mg) W B)) ?_ fun _ _ _ => tg_bin
  intro pins s σ H Q h0 I h
  refine wpAny_BinOp (wpAny_mono (PySem.wpAny_toks (ha pins s σ H _ h0 I h)) (fun v s1 q => ?_) fun _ _ z => z.2)
  obtain ⟨hk, x, H1, I1, r1, q1⟩ := q
  exact thn (hb pins s1 σ H1 _ (Nat.le_trans h0 hk) I1 q1) fun u s2 ⟨y, H2, I2, r2, q2⟩ => hop pins s2 σ H2 x y v u Q I2 r1 r2 q2
theorem set_ix {f : MV → MV → MH → Res MV} (hop : IxR X (rOp K mg f)) (ha : SET K mg W X a A) (hb : SE K mg W X b B) (hs : PlainIx b) : SET K mg W X (.Subscript a b pos) (eBin f A B) := by
  refine PET.imp (t := tOp (rOp K mg f) (tg K mg (DV K mg) W A) (tg K mg (DV K mg) W B)) ?_ fun _ _ _ => tg_bin
  intro pins s σ H Q h0 I h
  refine Subscript_ (thn (ha pins s σ H _ h0 I h) fun v s1 ⟨x, H1, I1, r1, q1⟩ => ?_)
  exact thn (hb.run pins s1 σ H1 _ I1 q1) fun u s2 ⟨y, H2, I2, r2, q2⟩ => hop a b pins s2 σ H2 x y v u Q I2 r1 r2 q2 (hs _ _)
theorem sat_cons (ha : SET K mg W X a A) (hr : SAT K mg W X es AL) (hs : starEach (a :: es) X.env = (false, eval a X.env) :: starEach es X.env := by rfl) : SAT K mg W X (a :: es) (aCons A AL) :=
  PAT.imp (pat_cons (PET.imp ha fun _ _ _ => tg_eset) hr hs) fun _ _ _ => tg_cons
theorem set_lst {n : Nat} (ha : SAT K mg W X es AL) (l : LenA AL n) (hn : n ≤ 1000 := by decide) : SET K mg W X (.List es pos) (eLst AL) := PET.imp (pet_lst ha) fun _ _ _ => tg_lst l hn
theorem set_repl1 (ho : SE K mg W X o A) (hyz : (y == z) = false := by decide) (hz : z.length ≤ 1000 := by decide)
    (hst : starEach [.Constant (.str y) j c0, .Constant (.str z) k c1, .Constant (.int 1) l c2] X.env = [(false, eval (.Constant (.str y) j c0) X.env), (false, eval (.Constant (.str z) k c1) X.env), (false, eval (.Constant (.int 1) l c2) X.env)] := by rfl)
    (hbase : attributeBase o "replace" X.env (eval o X.env) = eval o X.env := by rfl) (hline : (apos.endLine == pos.line) = true := by rfl) :
    SET K mg W X (.Call (.Attribute o "replace" apos) [.Constant (.str y) j c0, .Constant (.str z) k c1, .Constant (.int 1) l c2] [] pos) (eRepl1 y z A) := by
  refine PET.imp (t := fun σ H Q => tg K mg (DV K mg) W A σ H fun v H1 => ∃ x, v = .str x ∧ x.length ≤ 1000000 ∧ Q (.str (repl1 x y z)) H1) ?_ fun σ H Q ⟨m, σm, h, R, S, q⟩ => ?_
  · intro pins s σ H Q h0 I h
    refine wpAny_Call_method_lateS hbase (by rw [hst]; rfl) hline ?_
    rw [hst]
    refine wpAny_mono (PySem.wpAny_toks (ho.run pins s σ H _ I h)) (fun v s1 q => ?_) fun _ _ z => z.2
    obtain ⟨hk, v', H1, I1, r1, x, e1, hx, q⟩ := q
    subst e1
    obtain ⟨tx, e2⟩ := r1
    subst e2
    refine ⟨"str", _, PySem.F.plainAttrs_str, PySem.F.slot_str_replace, PySem.F.type_str_replace, typeIs_str _ _ _, (fun _ e => nomatch e), Calls.callWith_builtin rfl (Calls.evalArgs_plain (Calls.spliced_cons ?_))⟩
    refine Calls.Constant_str (k := j) (pos := c0) ?_
    show wpAny _ _ (spliced ((false, eval (.Constant (.str z) k c1) X.env) :: backTo pos [(false, eval (.Constant (.int 1) l c2) X.env)])) _ _ _
    refine Calls.spliced_cons (Calls.Constant_str (k := k) (pos := c1) ?_)
    show wpAny _ _ (spliced ((false, eval (.Constant (.int 1) l c2) X.env) :: backTo pos [])) _ _ _
    refine Calls.spliced_cons (wpAny_Constant_int (Calls.spliced_nil ?_))
    have ho := StrLaws.occ_length_le x y 0 x.length 1
    have hl : (Builtin.Str.occurrences x y 0 x.length 1).length * z.length ≤ 1 * z.length := Nat.mul_le_mul_right _ ho
    refine call_gives F.slot_str_replace (typeIs_str _ _ _) F.entry_str_replace (F.args_str_replace_4 _ _ _ _) (gives_repl1 x y z tx s1.toks (s1.toks + 1) _ ?_ ?_ hyz ?_) ?_
    · have h1 : s1.toks ≠ 0 := by omega
      simp [h1]
    · simp
    · unfold Builtin.Str.tooLong
      exact decide_eq_false (by rw [sizeLine_eq]; omega)
    · unfold repl1 at q
      cases hc : ((Builtin.Str.occurrences x y 0 x.length 1).isEmpty || (y.length == 0 && z.length == 0))
      · rw [hc] at q
        simp only [Bool.false_eq_true, if_false] at q ⊢
        exact ⟨by have := repl1_raw (x := x) (y := y) (z := z); rw [sizeLine_eq]; omega, .str _, H1, I1.tok _, ⟨_, rfl⟩, q⟩
      · rw [hc] at q
        simp only [if_true] at q ⊢
        exact ⟨.str x, H1, I1.tok _, ⟨tx, rfl⟩, q⟩
  · refine ⟨m, σm, h, R, S, rg.bind q fun x h1 x' m1 H1 e1 R1 d1 q1 => ?_⟩
    cases x with
    | str a =>
      cases d1.dv (fun _ => MV.noConfusion)
      dsimp only at q1
      split at q1
      · rename_i hz
        exact ⟨a, rfl, hz, rg.here (rg.ext dmV e1 R1 q1) R1 (.v (.str _))⟩
      · exact q1.elim
    | _ => exact q1.elim
/-! a token is given out -/
def SE1 (K : PySem.W.Frag) (mg : Str → Option Value) (W : WX) (X : Cx) (e : Expr) (A : ME) : Prop :=
  ∀ (pins : List (Addr × Obj)) (s : Shared) (σ : L2.St) (H : Hp) (Q : VK), Inv X pins σ H s → tg K mg (DV K mg) W A σ H Q → wpAny (model X.prog X.w) X.A (eval e X.env) (fun v s1 => 1 ≤ s1.toks ∧ EP X pins σ Q v s1) X.xe s
def SA1 (K : PySem.W.Frag) (mg : Str → Option Value) (W : WX) (X : Cx) (es : List Expr) (A : MA) : Prop :=
  ∀ (pos : Pos) (pins : List (Addr × Obj)) (s : Shared) (σ : L2.St) (H : Hp) (Q : List V → Hp → Prop), Inv X pins σ H s → tg K mg (DA K mg) W A σ H Q → wpAny (model X.prog X.w) X.A (spliced (backTo pos (starEach es X.env))) (fun us s1 => 1 ≤ s1.toks ∧ AP X pins σ Q us s1) X.xe s
theorem se1_str : SE1 K mg W X (.Constant (.str y) j pos) (eC (.str y)) := fun pins s σ H Q I ⟨m, σm, h, R, S, q⟩ =>
  Calls.Constant_str ⟨by show 1 ≤ s.toks + 1; omega, .str y, H, I.tok _, ⟨_, rfl⟩, rg.here q R (.v (.str y))⟩
theorem se1_op {op : Operator} {f : MV → MV → MH → Res MV} (hop : OpR X (binaryOp op) (rOp K mg f)) (ha : SE1 K mg W X a A) (hb : SE K mg W X b B) : SE1 K mg W X (.BinOp a op b pos) (eBin f A B) := by
  intro pins s σ H Q I t
  have h := tg_bin t
  refine wpAny_BinOp (thn (ha pins s σ H _ I h) fun v s1 ⟨hk, x, H1, I1, r1, q1⟩ => ?_)
  exact wpAny_mono (PySem.wpAny_toks_of hk (hb.run pins s1 σ H1 _ I1 q1)) (fun u s2 ⟨hk2, y, H2, I2, r2, q2⟩ => wpAny_mono (PySem.wpAny_toks_of hk2 (hop pins s2 σ H2 x y v u Q I2 r1 r2 q2)) (fun _ _ z => z) fun _ _ z => z.2) fun _ _ z => z.2
theorem sa1_head (ha : SE1 K mg W X a A) (hr : SA K mg W X es AL) (hs : starEach (a :: es) X.env = (false, eval a X.env) :: starEach es X.env := by rfl) : SA1 K mg W X (a :: es) (aCons A AL) := by
  intro pos pins s σ H Q I t
  have h := tg_cons t
  rw [hs]
  show wpAny _ _ (spliced ((false, eval a X.env) :: backTo pos (starEach es X.env))) _ _ s
  refine Calls.spliced_cons (thn (ha pins s σ H _ I (tg_eset h)) fun u s1 ⟨hk, x, H1, I1, r1, q1⟩ => ?_)
  exact wpAny_mono (PySem.wpAny_toks_of hk (hr.run pos pins s1 σ H1 _ I1 q1)) (fun us s2 ⟨hk2, xs, H2, I2, r2, q2⟩ => ⟨hk2, x :: xs, H2, I2, .cons r1 r2, q2⟩) fun _ _ z => z.2
theorem sa1_tail (ha : SE K mg W X a A) (hr : SA1 K mg W X es AL) (hs : starEach (a :: es) X.env = (false, eval a X.env) :: starEach es X.env := by rfl) : SA1 K mg W X (a :: es) (aCons A AL) := by
  intro pos pins s σ H Q I t
  have h := tg_cons t
  rw [hs]
  show wpAny _ _ (spliced ((false, eval a X.env) :: backTo pos (starEach es X.env))) _ _ s
  refine Calls.spliced_cons (thn (ha.run pins s σ H _ I (tg_eset h)) fun u s1 ⟨x, H1, I1, r1, q1⟩ => ?_)
  exact thn (hr pos pins s1 σ H1 _ I1 q1) fun us s2 ⟨hk2, xs, H2, I2, r2, q2⟩ => ⟨hk2, x :: xs, H2, I2, .cons r1 r2, q2⟩
theorem se1_lst {n : Nat} (ha : SA1 K mg W X es AL) (l : LenA AL n) (hn : n ≤ 1000 := by decide) : SE1 K mg W X (.List es pos) (eLst AL) := by
  intro pins s σ H Q I t
  refine wpAny_List_spliced (thn (ha pos pins s σ H _ I (tg_lst l hn t)) fun us s1 ⟨hk, xs, H1, I1, r, z, q⟩ => ⟨by rw [← r.length]; exact z, ?_⟩)
  have hf : H1 s1.heap.objs.size = none := I1.hok.fresh (Nat.le_refl _)
  refine ⟨hk, .ref s1.heap.objs.size, upd H1 s1.heap.objs.size (.lst xs), I1.laid (t' := s1.toks) (fun b u e => Heap.get?_push_of_some _ e) (Nat.le_refl _) ?_, rfl, q _ hf⟩
  exact ⟨z, us, 0, r, Heap.get?_push_size _ rfl⟩
/-- name = what gives a token out; return what wants one -/
theorem sss_tok {i : Nat} {x : Str} {e2 : Expr} {pos' p2 : Pos} (hN : X.N.Nodup) (hi : X.N[i]? = some x) (hx : Loc X.env.scope x) (he : SE1 K mg W X e A) (hr : SET K mg W X e2 B) (hs : swapsWith e (some (.Name x pos')) pos.line X.env = pure false := by rfl)
    (hf : X.fn x = true ∨ X.env.scope.names.lookup x = some .local := by first | exact .inl rfl | exact .inr rfl | assumption) : SSs K mg W X [.Assign [.Name x pos'] e pos, .Return (some e2) p2] (sSeq (sAsg i A) (sRet B)) := by
  refine ⟨fun pins s σ H D I ⟨m, σm, h, R, S, q⟩ => ?_⟩
  have q2 : tg K mg (DV K mg) W A σ H fun y H1 => tg K mg (DV K mg) W B (σ.set i (some y)) H1 D.rt := by
    refine ⟨m, σm, h, R, S, ?_⟩
    have q0 : rs K mg W D m H ((A σm h).st σm fun v h1 => (settle v h1).st σm fun v h2 => (B (σm.set i (some v)) h2).st (σm.set i (some v)) fun w h3 => .ret w h3) := by
      unfold sSeq sAsg sRet at q
      cases e : A σm h with
      | ok v h1 =>
        rw [e] at q
        cases e2 : settle v h1 with
        | ok w h2 => simp only [Res.st, e2] at q ⊢; exact q
        | exc x h2 => simp only [Res.st, e2] at q ⊢; exact q
        | stuck => simp only [Res.st, e2] at q ⊢; exact q
      | exc x h1 => rw [e] at q; exact q
      | stuck => rw [e] at q; exact q
    refine rs.part S q0 fun x h1 x' m1 H1 e1 R1 d1 q1 => ?_
    refine rs.settled e1 R1 d1 S q1 fun y h2 m2 e2 R2 g d2 q2 => ?_
    refine ⟨m2, _, h2, R2, (S.mono e2.gro).set d2, rs.part ((S.mono e2.gro).set d2) (rs.ext e2 R2 q2) fun x h1 x' m3 H3 e3 R3 d3 q3 => q3 x' m3 H3 e3 R3 d3⟩
  refine wpAny_execs_cons (wpAny_Assign_Name (thn (he pins s σ H _ I q2) fun v s1 ⟨hk, y, H1, I1, r1, q1⟩ => ?_) hs)
  refine wpAny_mono (PySem.wpAny_toks_of hk (store_ok (v := y) (u := v) (Q := fun _ s2 => Inv X pins (σ.set i (some y)) H1 s2) I1 hN hi hx r1 (fun _ I2 => I2) hf)) (fun _ s2 q => ?_) fun _ _ z => z.2
  exact CwR.psst_one (CwR.pst_ret hr) pins s2 _ H1 D q.1 q.2 q1
end
end Mi

set_option maxHeartbeats 1000000
namespace My
open PySem PySem.Spec PyProof.Rows L2 Mi
variable [TheW]
def top (i : Nat) : Stmt := PySem.Challenge.pw_appendlease_k03_records_found.main.body.getD i (.Pass ⟨0, 0, 0, 0⟩)
abbrev sis_signs : Stmt := top 3
abbrev sis_text : Stmt := top 9
abbrev ssum_of : Stmt := top 10
abbrev send_of : Stmt := top 11
abbrev snumber_at : Stmt := top 12
abbrev skey_at : Stmt := top 13
abbrev srecord_at : Stmt := top 14
abbrev srecords_in : Stmt := top 15
abbrev s_law_room : Stmt := top 17
abbrev s_law_take : Stmt := top 18
abbrev s_law_word : Stmt := top 19
abbrev s_law_line : Stmt := top 20
abbrev s_law_sum : Stmt := top 21
abbrev s_law_frame : Stmt := top 22
abbrev s_law_number : Stmt := top 23
abbrev s_law_at : Stmt := top 24
abbrev s_law_due : Stmt := top 25
abbrev s_law_bent : Stmt := top 26
abbrev s_law_piece : Stmt := top 27
abbrev slaw : Stmt := top 28
abbrev nis_signs : List Str := ["thing", "sign"]
abbrev pis_signs : List Str := ["thing"]
abbrev nis_text : List Str := ["thing"]
abbrev pis_text : List Str := ["thing"]
abbrev nsum_of : List Str := ["text", "at", "sign"]
abbrev psum_of : List Str := ["text"]
abbrev nend_of : List Str := ["text", "place", "signs", "end"]
abbrev pend_of : List Str := ["text", "place", "signs"]
abbrev nnumber_at : List Str := ["text", "place", "end"]
abbrev pnumber_at : List Str := ["text", "place"]
abbrev nkey_at : List Str := ["text", "place", "end", "found"]
abbrev pkey_at : List Str := ["text", "place"]
abbrev nrecord_at : List Str := ["text", "place", "key", "many", "total", "begin", "end", "found"]
abbrev precord_at : List Str := ["text", "place"]
abbrev nrecords_in : List Str := ["text", "found", "known", "at", "one", "key", "own", "end"]
abbrev precords_in : List Str := ["text"]
abbrev n_law_room : List Str := ["_law_script", "_law_k", "_law_cell", "_law_left"]
abbrev p_law_room : List Str := ["_law_script", "_law_k"]
abbrev n_law_take : List Str := ["_law_room_here", "_law_many", "_law_found"]
abbrev p_law_take : List Str := ["_law_room_here", "_law_many"]
abbrev n_law_word : List Str := ["_law_room_here", "_law_letters", "_law_size", "_law_turn"]
abbrev p_law_word : List Str := ["_law_room_here"]
abbrev n_law_line : List Str := ["_law_room_here", "_law_size", "_law_signs", "_law_turn"]
abbrev p_law_line : List Str := ["_law_room_here", "_law_size"]
abbrev n_law_sum : List Str := ["_law_line_here", "_law_total", "_law_at_here"]
abbrev p_law_sum : List Str := ["_law_line_here"]
abbrev n_law_frame : List Str := ["_law_owner", "_law_line_here", "_law_head"]
abbrev p_law_frame : List Str := ["_law_owner", "_law_line_here"]
abbrev n_law_number : List Str := ["_law_line_here", "_law_at_here", "_law_end"]
abbrev p_law_number : List Str := ["_law_line_here", "_law_at_here"]
abbrev n_law_at : List Str := ["_law_line_here", "_law_at_here", "_law_end", "_law_many", "_law_size", "_law_total", "_law_begin", "_law_body", "_law_sign"]
abbrev p_law_at : List Str := ["_law_line_here", "_law_at_here"]
abbrev n_law_due : List Str := ["_law_line_here", "_law_found", "_law_met", "_law_at_here", "_law_one"]
abbrev p_law_due : List Str := ["_law_line_here"]
abbrev n_law_bent : List Str := ["_law_room_here", "_law_line_here", "_law_at_here", "_law_sign", "_law_some"]
abbrev p_law_bent : List Str := ["_law_room_here", "_law_line_here"]
abbrev n_law_piece : List Str := ["_law_room_here", "_law_owner", "_law_good", "_law_some"]
abbrev p_law_piece : List Str := ["_law_room_here"]
abbrev nlaw : List Str := ["_law_script", "_law_some", "_law_k", "_law_room_here", "_law_turn", "_law_line_here", "_law_bent_here", "_law_found"]
abbrev plaw : List Str := ["_law_script"]
def d_law_take : He.DefD := ⟨("_law_take", none), "_law_take", "_law_take", defArgs s_law_take, defBody s_law_take, defScope s_law_take, [], []⟩
def d_law_bent : He.DefD := ⟨("_law_bent", none), "_law_bent", "_law_bent", defArgs s_law_bent, defBody s_law_bent, defScope s_law_bent, [], []⟩
def dend_of : He.DefD := ⟨("end_of", none), "end_of", "end_of", defArgs send_of, defBody send_of, defScope send_of, [], []⟩
def dnumber_at : He.DefD := ⟨("number_at", none), "number_at", "number_at", defArgs snumber_at, defBody snumber_at, defScope snumber_at, [], []⟩
def dkey_at : He.DefD := ⟨("key_at", none), "key_at", "key_at", defArgs skey_at, defBody skey_at, defScope skey_at, [], []⟩
def dis_signs : He.DefD := ⟨("is_signs", none), "is_signs", "is_signs", defArgs sis_signs, defBody sis_signs, defScope sis_signs, [], []⟩
def dis_text : He.DefD := ⟨("is_text", none), "is_text", "is_text", defArgs sis_text, defBody sis_text, defScope sis_text, [], []⟩
def dsum_of : He.DefD := ⟨("sum_of", none), "sum_of", "sum_of", defArgs ssum_of, defBody ssum_of, defScope ssum_of, [], []⟩
def drecord_at : He.DefD := ⟨("record_at", none), "record_at", "record_at", defArgs srecord_at, defBody srecord_at, defScope srecord_at, [], []⟩
def drecords_in : He.DefD := ⟨("records_in", none), "records_in", "records_in", defArgs srecords_in, defBody srecords_in, defScope srecords_in, [], []⟩
def d_law_sum : He.DefD := ⟨("_law_sum", none), "_law_sum", "_law_sum", defArgs s_law_sum, defBody s_law_sum, defScope s_law_sum, [], []⟩
def d_law_frame : He.DefD := ⟨("_law_frame", none), "_law_frame", "_law_frame", defArgs s_law_frame, defBody s_law_frame, defScope s_law_frame, [], []⟩
def d_law_room : He.DefD := ⟨("_law_room", none), "_law_room", "_law_room", defArgs s_law_room, defBody s_law_room, defScope s_law_room, [], []⟩
def d_law_number : He.DefD := ⟨("_law_number", none), "_law_number", "_law_number", defArgs s_law_number, defBody s_law_number, defScope s_law_number, [], []⟩
def d_law_at : He.DefD := ⟨("_law_at", none), "_law_at", "_law_at", defArgs s_law_at, defBody s_law_at, defScope s_law_at, [], []⟩
def d_law_due : He.DefD := ⟨("_law_due", none), "_law_due", "_law_due", defArgs s_law_due, defBody s_law_due, defScope s_law_due, [], []⟩
def d_law_line : He.DefD := ⟨("_law_line", none), "_law_line", "_law_line", defArgs s_law_line, defBody s_law_line, defScope s_law_line, [], []⟩
def d_law_piece : He.DefD := ⟨("_law_piece", none), "_law_piece", "_law_piece", defArgs s_law_piece, defBody s_law_piece, defScope s_law_piece, [], []⟩
def dlaw : He.DefD := ⟨("law", none), "law", "law", defArgs slaw, defBody slaw, defScope slaw, [], []⟩
def fn : List He.DefD := [d_law_take, d_law_bent, dend_of, dnumber_at, dkey_at, dis_signs, dis_text, dsum_of, drecord_at, drecords_in, d_law_sum, d_law_frame, d_law_room, d_law_number, d_law_at, d_law_due, d_law_line, d_law_piece, dlaw]
def fa : List He.Fa := [.glo "_law_take", .free "len", .free "int", .int "MOST_FIGURES" 30, .glo "end_of", .str "FIGURES" "0123456789", .glo "number_at", .int "LONGEST" 8, .str "LETTERS" "abcdefghijklmnopqrstuvwxyz", .free "all", .free "str", .free "isinstance", .int "MOST_TEXT" 60, .glo "is_signs", .free "enumerate", .free "ord", .free "sum", .int "ROUND" 9973, .glo "sum_of", .glo "is_text", .glo "key_at", .glo "record_at", .free "range", .glo "_law_sum", .glo "_law_number", .glo "_law_at", .glo "_law_line", .glo "_law_frame", .glo "records_in", .free "repr", .glo "_law_due", .free "min", .free "max", .glo "_law_bent", .glo "_law_piece", .glo "_law_room", .glo "law"]
def xcs : List Str := []
def xpairs : List (Str × Str) := []
def xsub : XS := fun c d => if c ∈ xcs ∧ d ∈ xcs then some (decide ((c, d) ∈ xpairs)) else none
theorem xsub_in : ∀ c d b, xsub c d = some b → c ∈ xcs ∧ d ∈ xcs := fun c d b h => by
  unfold xsub at h
  split at h
  · assumption
  · cases h
def cf : CF := []
def kt : KT := []
def tf : List He.Defn := []
def tbs : List He.Tab := []
def bs : List (PySem.W.Frag → Bool) := [gloB xcs, xsB xsub xcs, gloB (cf.map (·.1)), xfsB cf, ktB kt]
/-- what is known of the top -/
structure Tp (K : PySem.W.Frag) (mg : Str → Option Value) : Prop where
  says : ∃ h : Heap, K.In h ∧ h.Ns mainGlobals mg ∧ He.SaysD fa fn K ∧ allB bs K = true
  kt : KTok K mg kt
  xs : XSok K mg xsub
  cf : CFok K mg cf
  hd : ∀ p ∈ tf, PySem.W.codeHdIn K (He.cT K p).1 (He.cT K p).2 = true
abbrev R : PySem.W.OpenRow := PySem.W.OpenLaw.row PySem.Challenge.rw_appendlease_k03_records_found
def asA : List Addr := List.range 1000 ++ [cStatics]
abbrev hk : PySem.W.Hook := hookZ asA fa fn tbs tf (allB bs)
def ob (s : PySem.W.SharedT) : He.AlX := obsZ asA fa fn tbs tf (allB bs) (HandSHeadRun.getT s)
omit [TheW] in
theorem ob_eq (s : PySem.W.SharedT) : ob s = hk.obs s.abs := obsZ_eq (HandSHeadRun.getT_eq s)
def loose0 : List Str := ["__name__", "LETTERS", "LONGEST", "is_signs", "MOST_TEXT", "ROUND", "FIGURES", "MOST_FIGURES", "is_text", "sum_of", "end_of", "number_at", "key_at", "record_at", "records_in", "_law_room", "_law_take", "_law_word", "_law_line", "_law_sum", "_law_frame", "_law_number", "_law_at", "_law_due", "_law_bent", "_law_piece"]
abbrev loose : List Str := loose0
abbrev qv : Program := PySem.W.view R.prog [28]
omit [TheW] in
theorem run (w : World) : HandSHeadRun.RunEq R qv hk ob 6000 loose w := by
  intro os
  kernel_rfl
section
variable {P : Program} {K : PySem.W.Frag} {mg : Str → Option Value} {base : Heap}
end
section
variable {K : PySem.W.Frag} {mg : Str → Option Value}
theorem bn_records_in_0_text {f : Addr} {fd : FuncData} (F : FunD K "records_in" "records_in" (defArgs srecords_in) (defBody srecords_in) (defScope srecords_in) [] [] f fd) : BnM K mg fd precords_in 0 ["text"] (gb [.k 0] [] []) :=
  bnN F 0 ["text"] [.k 0] (fun us ws h1 h2 => match us, ws, h1, h2 with | [], [_], _, _ => rfl) (fun _ _ _ _ _ _ us ws h1 h2 => match us, ws, h1, h2 with | [], [_], _, _ => rfl)
theorem bn__law_due_1 {f : Addr} {fd : FuncData} (F : FunD K "_law_due" "_law_due" (defArgs s_law_due) (defBody s_law_due) (defScope s_law_due) [] [] f fd) : BnM K mg fd p_law_due 1 [] (gb [.p 0] [] []) :=
  bnN F 1 [] [.p 0] (fun us ws h1 h2 => match us, ws, h1, h2 with | [_], [], _, _ => rfl) (fun _ _ _ _ _ _ us ws h1 h2 => match us, ws, h1, h2 with | [_], [], _, _ => rfl)
theorem bn_records_in_1 {f : Addr} {fd : FuncData} (F : FunD K "records_in" "records_in" (defArgs srecords_in) (defBody srecords_in) (defScope srecords_in) [] [] f fd) : BnM K mg fd precords_in 1 [] (gb [.p 0] [] []) :=
  bnN F 1 [] [.p 0] (fun us ws h1 h2 => match us, ws, h1, h2 with | [_], [], _, _ => rfl) (fun _ _ _ _ _ _ us ws h1 h2 => match us, ws, h1, h2 with | [_], [], _, _ => rfl)
theorem bn__law_bent_2 {f : Addr} {fd : FuncData} (F : FunD K "_law_bent" "_law_bent" (defArgs s_law_bent) (defBody s_law_bent) (defScope s_law_bent) [] [] f fd) : BnM K mg fd p_law_bent 2 [] (gb [.p 0, .p 1] [] []) :=
  bnN F 2 [] [.p 0, .p 1] (fun us ws h1 h2 => match us, ws, h1, h2 with | [_, _], [], _, _ => rfl) (fun _ _ _ _ _ _ us ws h1 h2 => match us, ws, h1, h2 with | [_, _], [], _, _ => rfl)
theorem bn__law_take_2 {f : Addr} {fd : FuncData} (F : FunD K "_law_take" "_law_take" (defArgs s_law_take) (defBody s_law_take) (defScope s_law_take) [] [] f fd) : BnM K mg fd p_law_take 2 [] (gb [.p 0, .p 1] [] []) :=
  bnN F 2 [] [.p 0, .p 1] (fun us ws h1 h2 => match us, ws, h1, h2 with | [_, _], [], _, _ => rfl) (fun _ _ _ _ _ _ us ws h1 h2 => match us, ws, h1, h2 with | [_, _], [], _, _ => rfl)
theorem bn__law_piece_1 {f : Addr} {fd : FuncData} (F : FunD K "_law_piece" "_law_piece" (defArgs s_law_piece) (defBody s_law_piece) (defScope s_law_piece) [] [] f fd) : BnM K mg fd p_law_piece 1 [] (gb [.p 0] [] []) :=
  bnN F 1 [] [.p 0] (fun us ws h1 h2 => match us, ws, h1, h2 with | [_], [], _, _ => rfl) (fun _ _ _ _ _ _ us ws h1 h2 => match us, ws, h1, h2 with | [_], [], _, _ => rfl)
theorem bn__law_room_2 {f : Addr} {fd : FuncData} (F : FunD K "_law_room" "_law_room" (defArgs s_law_room) (defBody s_law_room) (defScope s_law_room) [] [] f fd) : BnM K mg fd p_law_room 2 [] (gb [.p 0, .p 1] [] []) :=
  bnN F 2 [] [.p 0, .p 1] (fun us ws h1 h2 => match us, ws, h1, h2 with | [_, _], [], _, _ => rfl) (fun _ _ _ _ _ _ us ws h1 h2 => match us, ws, h1, h2 with | [_, _], [], _, _ => rfl)
theorem bn__law_frame_2 {f : Addr} {fd : FuncData} (F : FunD K "_law_frame" "_law_frame" (defArgs s_law_frame) (defBody s_law_frame) (defScope s_law_frame) [] [] f fd) : BnM K mg fd p_law_frame 2 [] (gb [.p 0, .p 1] [] []) :=
  bnN F 2 [] [.p 0, .p 1] (fun us ws h1 h2 => match us, ws, h1, h2 with | [_, _], [], _, _ => rfl) (fun _ _ _ _ _ _ us ws h1 h2 => match us, ws, h1, h2 with | [_, _], [], _, _ => rfl)
theorem bn_record_at_2 {f : Addr} {fd : FuncData} (F : FunD K "record_at" "record_at" (defArgs srecord_at) (defBody srecord_at) (defScope srecord_at) [] [] f fd) : BnM K mg fd precord_at 2 [] (gb [.p 0, .p 1] [] []) :=
  bnN F 2 [] [.p 0, .p 1] (fun us ws h1 h2 => match us, ws, h1, h2 with | [_, _], [], _, _ => rfl) (fun _ _ _ _ _ _ us ws h1 h2 => match us, ws, h1, h2 with | [_, _], [], _, _ => rfl)
theorem bn_sum_of_1 {f : Addr} {fd : FuncData} (F : FunD K "sum_of" "sum_of" (defArgs ssum_of) (defBody ssum_of) (defScope ssum_of) [] [] f fd) : BnM K mg fd psum_of 1 [] (gb [.p 0] [] []) :=
  bnN F 1 [] [.p 0] (fun us ws h1 h2 => match us, ws, h1, h2 with | [_], [], _, _ => rfl) (fun _ _ _ _ _ _ us ws h1 h2 => match us, ws, h1, h2 with | [_], [], _, _ => rfl)
theorem bn_is_text_1 {f : Addr} {fd : FuncData} (F : FunD K "is_text" "is_text" (defArgs sis_text) (defBody sis_text) (defScope sis_text) [] [] f fd) : BnM K mg fd pis_text 1 [] (gb [.p 0] [] []) :=
  bnN F 1 [] [.p 0] (fun us ws h1 h2 => match us, ws, h1, h2 with | [_], [], _, _ => rfl) (fun _ _ _ _ _ _ us ws h1 h2 => match us, ws, h1, h2 with | [_], [], _, _ => rfl)
theorem bn_number_at_2 {f : Addr} {fd : FuncData} (F : FunD K "number_at" "number_at" (defArgs snumber_at) (defBody snumber_at) (defScope snumber_at) [] [] f fd) : BnM K mg fd pnumber_at 2 [] (gb [.p 0, .p 1] [] []) :=
  bnN F 2 [] [.p 0, .p 1] (fun us ws h1 h2 => match us, ws, h1, h2 with | [_, _], [], _, _ => rfl) (fun _ _ _ _ _ _ us ws h1 h2 => match us, ws, h1, h2 with | [_, _], [], _, _ => rfl)
theorem bn_key_at_2 {f : Addr} {fd : FuncData} (F : FunD K "key_at" "key_at" (defArgs skey_at) (defBody skey_at) (defScope skey_at) [] [] f fd) : BnM K mg fd pkey_at 2 [] (gb [.p 0, .p 1] [] []) :=
  bnN F 2 [] [.p 0, .p 1] (fun us ws h1 h2 => match us, ws, h1, h2 with | [_, _], [], _, _ => rfl) (fun _ _ _ _ _ _ us ws h1 h2 => match us, ws, h1, h2 with | [_, _], [], _, _ => rfl)
theorem bn_end_of_3 {f : Addr} {fd : FuncData} (F : FunD K "end_of" "end_of" (defArgs send_of) (defBody send_of) (defScope send_of) [] [] f fd) : BnM K mg fd pend_of 3 [] (gb [.p 0, .p 1, .p 2] [] []) :=
  bnN F 3 [] [.p 0, .p 1, .p 2] (fun us ws h1 h2 => match us, ws, h1, h2 with | [_, _, _], [], _, _ => rfl) (fun _ _ _ _ _ _ us ws h1 h2 => match us, ws, h1, h2 with | [_, _, _], [], _, _ => rfl)
theorem bn_is_signs_1 {f : Addr} {fd : FuncData} (F : FunD K "is_signs" "is_signs" (defArgs sis_signs) (defBody sis_signs) (defScope sis_signs) [] [] f fd) : BnM K mg fd pis_signs 1 [] (gb [.p 0] [] []) :=
  bnN F 1 [] [.p 0] (fun us ws h1 h2 => match us, ws, h1, h2 with | [_], [], _, _ => rfl) (fun _ _ _ _ _ _ us ws h1 h2 => match us, ws, h1, h2 with | [_], [], _, _ => rfl)
theorem bn__law_sum_1 {f : Addr} {fd : FuncData} (F : FunD K "_law_sum" "_law_sum" (defArgs s_law_sum) (defBody s_law_sum) (defScope s_law_sum) [] [] f fd) : BnM K mg fd p_law_sum 1 [] (gb [.p 0] [] []) :=
  bnN F 1 [] [.p 0] (fun us ws h1 h2 => match us, ws, h1, h2 with | [_], [], _, _ => rfl) (fun _ _ _ _ _ _ us ws h1 h2 => match us, ws, h1, h2 with | [_], [], _, _ => rfl)
theorem bn__law_at_2 {f : Addr} {fd : FuncData} (F : FunD K "_law_at" "_law_at" (defArgs s_law_at) (defBody s_law_at) (defScope s_law_at) [] [] f fd) : BnM K mg fd p_law_at 2 [] (gb [.p 0, .p 1] [] []) :=
  bnN F 2 [] [.p 0, .p 1] (fun us ws h1 h2 => match us, ws, h1, h2 with | [_, _], [], _, _ => rfl) (fun _ _ _ _ _ _ us ws h1 h2 => match us, ws, h1, h2 with | [_, _], [], _, _ => rfl)
theorem bn__law_number_2 {f : Addr} {fd : FuncData} (F : FunD K "_law_number" "_law_number" (defArgs s_law_number) (defBody s_law_number) (defScope s_law_number) [] [] f fd) : BnM K mg fd p_law_number 2 [] (gb [.p 0, .p 1] [] []) :=
  bnN F 2 [] [.p 0, .p 1] (fun us ws h1 h2 => match us, ws, h1, h2 with | [_, _], [], _, _ => rfl) (fun _ _ _ _ _ _ us ws h1 h2 => match us, ws, h1, h2 with | [_, _], [], _, _ => rfl)
theorem bn__law_line_2 {f : Addr} {fd : FuncData} (F : FunD K "_law_line" "_law_line" (defArgs s_law_line) (defBody s_law_line) (defScope s_law_line) [] [] f fd) : BnM K mg fd p_law_line 2 [] (gb [.p 0, .p 1] [] []) :=
  bnN F 2 [] [.p 0, .p 1] (fun us ws h1 h2 => match us, ws, h1, h2 with | [_, _], [], _, _ => rfl) (fun _ _ _ _ _ _ us ws h1 h2 => match us, ws, h1, h2 with | [_, _], [], _, _ => rfl)
end
section
variable {P : Program} {K : PySem.W.Frag} {mg : Str → Option Value} {base : Heap}
theorem sc_law_take : FnScope n_law_take p_law_take (defScope s_law_take) := ⟨rfl, rfl, rfl, by decide +kernel, rfl, by decide +kernel, by decide +kernel⟩
noncomputable def b__law_take : MSt :=
  (sSeq (sIf (tB (eBin gtM (eBin ixD (eVar 0) (eC (.int 0))) (eC (.int 0)))) (sSeq (sAsg 2 (eBin modM (eBin ixD (eVar 0) (eC (.int 0))) (eVar 1))) (sSeq (sSubD (eVar 0) (eC (.int 0)) (eBin fdivM (eBin ixD (eVar 0) (eC (.int 0))) (eVar 1))) (sRet (eVar 2)))) sNil) (sSeq (sSubD (eVar 0) (eC (.int 1)) (eBin modM (eBin addM (eBin mulM (eBin ixD (eVar 0) (eC (.int 1))) (eC (.int 48271))) (eC (.int 39373))) (eC (.int 2147483647)))) (sSeq (sAsg 2 (eBin fdivM (eBin modM (eBin mulM (eBin ixD (eVar 0) (eC (.int 1))) (eBin ixD (eVar 0) (eC (.int 1)))) (eC (.int 2147483629))) (eC (.int 16)))) (sSeq (sIf (tB (eBin gtM (eVar 1) (eBin powM (eC (.int 10)) (eC (.int 6))))) (sSeq (sSubD (eVar 0) (eC (.int 1)) (eBin modM (eBin addM (eBin mulM (eBin ixD (eVar 0) (eC (.int 1))) (eC (.int 48271))) (eC (.int 39373))) (eC (.int 2147483647)))) (sAsg 2 (eBin addM (eBin mulM (eVar 2) (eC (.int 2147483629))) (eBin modM (eBin mulM (eBin ixD (eVar 0) (eC (.int 1))) (eBin ixD (eVar 0) (eC (.int 1)))) (eC (.int 2147483587)))))) sNil) (sRet (eBin modM (eVar 2) (eVar 1)))))))
noncomputable def c__law_take : MF := fnCode 3 b__law_take
theorem ok__law_take (T : Tp K mg) {f : Addr} {fd : FuncData} (F : FunD K "_law_take" "_law_take" (defArgs s_law_take) (defBody s_law_take) (defScope s_law_take) [] [] f fd) : FnM P TheW.w K mg base 1 f fd p_law_take c__law_take := by
  obtain ⟨h0, KX, G0, c, c0⟩ := T.says
  refine fnM_of F sc_law_take fun cdv A outer s H E hr hgd => ?_
  have hu := hr.units
  have tk := takes_of (X := cxOf (L2.CX P TheW.w) P TheW.w K mg base n_law_take "_law_take" (defScope s_law_take) f cdv A outer s H E) rfl rfl rfl rfl
  have hp := passes_of (X := cxOf (L2.CX P TheW.w) P TheW.w K mg base n_law_take "_law_take" (defScope s_law_take) f cdv A outer s H E) rfl
  exact (sss_cons (ss_if (st_cmp om_gt (se_ix (om_ixD hu) (sv 0) se_int (fun _ _ => rfl)) se_int (nomark _)) (sss_cons (ss_set (i := 2) sc_law_take.nd rfl (Or.inl rfl) (se_op om_mod (se_ix (om_ixD hu) (sv 0) se_int (fun _ _ => rfl)) (sv 1))) (sss_cons (ss_subD hu (sv 0) se_int (se_op om_fdiv (se_ix (om_ixD hu) (sv 0) se_int (fun _ _ => rfl)) (sv 1))) (sss_one (ss_ret (sv 2))))) sss_nil) (sss_cons (ss_subD hu (sv 0) se_int (se_op om_mod (se_op om_add (se_op om_mul (se_ix (om_ixD hu) (sv 0) se_int (fun _ _ => rfl)) se_int) se_int) se_int)) (sss_cons (ss_set (i := 2) sc_law_take.nd rfl (Or.inl rfl) (se_op om_fdiv (se_op om_mod (se_op om_mul (se_ix (om_ixD hu) (sv 0) se_int (fun _ _ => rfl)) (se_ix (om_ixD hu) (sv 0) se_int (fun _ _ => rfl))) se_int) se_int)) (sss_cons (ss_if (st_cmp om_gt (sv 1) (se_op om_pow se_int se_int) (nomark _)) (sss_cons (ss_subD hu (sv 0) se_int (se_op om_mod (se_op om_add (se_op om_mul (se_ix (om_ixD hu) (sv 0) se_int (fun _ _ => rfl)) se_int) se_int) se_int)) (sss_one (ss_set (i := 2) sc_law_take.nd rfl (Or.inl rfl) (se_op om_add (se_op om_mul (sv 2) se_int) (se_op om_mod (se_op om_mul (se_ix (om_ixD hu) (sv 0) se_int (fun _ _ => rfl)) (se_ix (om_ixD hu) (sv 0) se_int (fun _ _ => rfl))) se_int))))) sss_nil) (sss_one (ss_ret (se_op om_mod (sv 2) (sv 1))))))))
theorem sc_law_bent : FnScope n_law_bent p_law_bent (defScope s_law_bent) := ⟨rfl, rfl, rfl, by decide +kernel, rfl, by decide +kernel, by decide +kernel⟩
noncomputable def b__law_bent : MSt :=
  (sSeq (sAsg 2 (eCall (gb [.p 0, .p 1] [] []) c__law_take (aCons (eVar 0) (aCons (eBin addM (eCB1 lenD (eVar 1)) (eC (.int 1))) aNil)) aNil)) (sSeq (sAsg 3 (eBin ixD (eC (.str "<>~. 0129ab\n")) (eCall (gb [.p 0, .p 1] [] []) c__law_take (aCons (eVar 0) (aCons (eC (.int 12)) aNil)) aNil))) (sSeq (sAsg 4 (eLst (aCons (eBin addM (eBin addM (eSl slM (eVar 1) oNo (oSo (eVar 2))) (eVar 3)) (eSl slM (eVar 1) (oSo (eVar 2)) oNo)) (aCons (eBin addM (eBin addM (eSl slM (eVar 1) oNo (oSo (eVar 2))) (eVar 3)) (eSl slM (eVar 1) (oSo (eBin addM (eVar 2) (eC (.int 1)))) oNo)) (aCons (eBin addM (eSl slM (eVar 1) oNo (oSo (eVar 2))) (eSl slM (eVar 1) (oSo (eBin addM (eVar 2) (eC (.int 1)))) oNo)) (aCons (eSl slM (eVar 1) oNo (oSo (eVar 2))) aNil)))))) (sRet (eBin ixD (eBin addM (eVar 4) (eLst (aCons (eSl slM (eVar 1) (oSo (eVar 2)) oNo) aNil))) (eCall (gb [.p 0, .p 1] [] []) c__law_take (aCons (eVar 0) (aCons (eC (.int 5)) aNil)) aNil))))))
noncomputable def c__law_bent : MF := fnCode 5 b__law_bent
theorem ok__law_bent (T : Tp K mg) {f : Addr} {fd : FuncData} (F : FunD K "_law_bent" "_law_bent" (defArgs s_law_bent) (defBody s_law_bent) (defScope s_law_bent) [] [] f fd) : FnM P TheW.w K mg base 2 f fd p_law_bent c__law_bent := by
  obtain ⟨h0, KX, G0, c, c0⟩ := T.says
  obtain ⟨fd__law_take, F__law_take⟩ := c.def_ 0 (d := d_law_take) rfl
  have G__law_take := ok__law_take (P := P) (base := base) T F__law_take
  have gl__law_take := He.glo_ok KX G0 (c.fact 0 (f := .glo "_law_take") rfl)
  have m_len := He.free_ok KX G0 (c.fact 1 (f := .free "len") rfl)
  refine fnM_of F sc_law_bent fun cdv A outer s H E hr hgd => ?_
  have hu := hr.units
  have tk := takes_of (X := cxOf (L2.CX P TheW.w) P TheW.w K mg base n_law_bent "_law_bent" (defScope s_law_bent) f cdv A outer s H E) rfl rfl rfl rfl
  have hp := passes_of (X := cxOf (L2.CX P TheW.w) P TheW.w K mg base n_law_bent "_law_bent" (defScope s_law_bent) f cdv A outer s H E) rfl
  exact (sss_cons (ss_set (i := 2) sc_law_bent.nd rfl (Or.inl rfl) (se_call G__law_take (by exact hr.mono (by decide)) hgd (bn__law_take_2 F__law_take) tk gl__law_take F__law_take.kp (by rfl) rfl (sa_cons (sv 0) (sa_cons (se_op om_add (se_callB1 cm_lenD m_len (by decide +kernel) (by rfl) (sv 1)) se_int) sa_nil)) (len_cons (len_cons len_nil)))) (sss_cons (ss_set (i := 3) sc_law_bent.nd rfl (Or.inl rfl) (se_ix (om_ixD hu) se_str (se_call G__law_take (by exact hr.mono (by decide)) hgd (bn__law_take_2 F__law_take) tk gl__law_take F__law_take.kp (by rfl) rfl (sa_cons (sv 0) (sa_cons se_int sa_nil)) (len_cons (len_cons len_nil))) (fun _ _ => rfl))) (sss_cons (ss_set (i := 4) sc_law_bent.nd rfl (Or.inl rfl) (se_lst (sa_cons (se_op om_add (se_op om_add (se_slice om_sl (sv 1) so_none (so_some (sv 2))) (sv 3)) (se_slice om_sl (sv 1) (so_some (sv 2)) so_none)) (sa_cons (se_op om_add (se_op om_add (se_slice om_sl (sv 1) so_none (so_some (sv 2))) (sv 3)) (se_slice om_sl (sv 1) (so_some (se_op om_add (sv 2) se_int)) so_none)) (sa_cons (se_op om_add (se_slice om_sl (sv 1) so_none (so_some (sv 2))) (se_slice om_sl (sv 1) (so_some (se_op om_add (sv 2) se_int)) so_none)) (sa_cons (se_slice om_sl (sv 1) so_none (so_some (sv 2))) sa_nil)))) (len_cons (len_cons (len_cons (len_cons len_nil)))))) (sss_one (ss_ret (se_ix (om_ixD hu) (se_op om_add (sv 4) (se_lst (sa_cons (se_slice om_sl (sv 1) (so_some (sv 2)) so_none) sa_nil) (len_cons len_nil))) (se_call G__law_take (by exact hr.mono (by decide)) hgd (bn__law_take_2 F__law_take) tk gl__law_take F__law_take.kp (by rfl) rfl (sa_cons (sv 0) (sa_cons se_int sa_nil)) (len_cons (len_cons len_nil))) (fun _ _ => rfl)))))))
theorem scend_of : FnScope nend_of pend_of (defScope send_of) := ⟨rfl, rfl, rfl, by decide +kernel, rfl, by decide +kernel, by decide +kernel⟩
noncomputable def l_end_of_0 : MSt :=
  (sAug 3 addI (eC (.int 1)))
noncomputable def b_end_of : MSt :=
  (sSeq (sAsg 3 (eVar 1)) (sSeq (sWhile (tAndM (tB (eBin ltM (eVar 3) (eCB1 lenD (eVar 0)))) (tB (eBin inD (eBin ixD (eVar 0) (eVar 3)) (eVar 2)))) l_end_of_0 100000) (sRet (eVar 3))))
noncomputable def c_end_of : MF := fnCode 4 b_end_of
theorem ok_end_of (T : Tp K mg) {f : Addr} {fd : FuncData} (F : FunD K "end_of" "end_of" (defArgs send_of) (defBody send_of) (defScope send_of) [] [] f fd) : FnM P TheW.w K mg base 1 f fd pend_of c_end_of := by
  obtain ⟨h0, KX, G0, c, c0⟩ := T.says
  have m_len := He.free_ok KX G0 (c.fact 1 (f := .free "len") rfl)
  refine fnM_of F scend_of fun cdv A outer s H E hr hgd => ?_
  have hu := hr.units
  have tk := takes_of (X := cxOf (L2.CX P TheW.w) P TheW.w K mg base nend_of "end_of" (defScope send_of) f cdv A outer s H E) rfl rfl rfl rfl
  have hp := passes_of (X := cxOf (L2.CX P TheW.w) P TheW.w K mg base nend_of "end_of" (defScope send_of) f cdv A outer s H E) rfl
  exact (sss_cons (ss_set (i := 3) scend_of.nd rfl (Or.inl rfl) (sv 1)) (sss_cons (ss_while hp (SWt.pt (sw_and (st_cmp om_lt (sv 3) (se_callB1 cm_lenD m_len (by decide +kernel) (by rfl) (sv 0)) (nomark _)) (sw_and1 (st_cmp (om_inD hu) (se_ix (om_ixD hu) (sv 0) (sv 3) (fun _ _ => rfl)) (sv 2) rfl)))) (sss_one (ss_aug (i := 3) scend_of.nd rfl (Or.inl rfl) se_int ip_addM))) (sss_one (ss_ret (sv 3)))))
theorem scnumber_at : FnScope nnumber_at pnumber_at (defScope snumber_at) := ⟨rfl, rfl, rfl, by decide +kernel, rfl, by decide +kernel, by decide +kernel⟩
noncomputable def b_number_at : MSt :=
  (sSeq (sAsg 2 (eCall (gb [.p 0, .p 1, .p 2] [] []) c_end_of (aCons (eVar 0) (aCons (eVar 1) (aCons (eC (.str "0123456789")) aNil))) aNil)) (sSeq (sIf (tOrM (tNotM (tB (eChain leM leM (eC (.int 1)) (eBin subM (eVar 2) (eVar 1)) (eC (.int 30))))) (tOrM (tAndM (tB (eBin eqM (eBin ixD (eVar 0) (eVar 1)) (eC (.str "0")))) (tB (eBin gtM (eVar 2) (eBin addM (eVar 1) (eC (.int 1)))))) (tB (eBin neM (eSl slM (eVar 0) (oSo (eVar 2)) (oSo (eBin addM (eVar 2) (eC (.int 1))))) (eC (.str " ")))))) (sRet (eC .non)) sNil) (sRet (eTup (aCons (eCB intM (aCons (eSl slM (eVar 0) (oSo (eVar 1)) (oSo (eVar 2))) aNil)) (aCons (eBin addM (eVar 2) (eC (.int 1))) aNil))))))
noncomputable def c_number_at : MF := fnCode 3 b_number_at
theorem ok_number_at (T : Tp K mg) {f : Addr} {fd : FuncData} (F : FunD K "number_at" "number_at" (defArgs snumber_at) (defBody snumber_at) (defScope snumber_at) [] [] f fd) : FnM P TheW.w K mg base 2 f fd pnumber_at c_number_at := by
  obtain ⟨h0, KX, G0, c, c0⟩ := T.says
  have m_int := He.free_ok KX G0 (c.fact 2 (f := .free "int") rfl)
  have i_MOST_FIGURES := He.int_ok KX G0 (c.fact 3 (f := .int "MOST_FIGURES" 30) rfl)
  obtain ⟨fd_end_of, F_end_of⟩ := c.def_ 2 (d := dend_of) rfl
  have G_end_of := ok_end_of (P := P) (base := base) T F_end_of
  have gl_end_of := He.glo_ok KX G0 (c.fact 4 (f := .glo "end_of") rfl)
  have i_FIGURES := He.str_ok KX G0 (c.fact 5 (f := .str "FIGURES" "0123456789") rfl)
  refine fnM_of F scnumber_at fun cdv A outer s H E hr hgd => ?_
  have hu := hr.units
  have tk := takes_of (X := cxOf (L2.CX P TheW.w) P TheW.w K mg base nnumber_at "number_at" (defScope snumber_at) f cdv A outer s H E) rfl rfl rfl rfl
  have hp := passes_of (X := cxOf (L2.CX P TheW.w) P TheW.w K mg base nnumber_at "number_at" (defScope snumber_at) f cdv A outer s H E) rfl
  exact (sss_cons (ss_set (i := 2) scnumber_at.nd rfl (Or.inl rfl) (se_call G_end_of (by exact hr.mono (by decide)) hgd (bn_end_of_3 F_end_of) tk gl_end_of F_end_of.kp (by rfl) rfl (sa_cons (sv 0) (sa_cons (sv 1) (sa_cons (se_gstr i_FIGURES (by rfl)) sa_nil))) (len_cons (len_cons (len_cons len_nil))))) (sss_cons (ss_if (SWt.pt (sw_or (st_not (st_chain om_le om_le se_int (se_op om_sub (sv 2) (sv 1)) (se_gint i_MOST_FIGURES (by rfl)))) (sw_or (SWt.pt (sw_and (st_cmp (om_eq hu) (se_ix (om_ixD hu) (sv 0) (sv 1) (fun _ _ => rfl)) se_str (nomark _)) (sw_and1 (st_cmp om_gt (sv 2) (se_op om_add (sv 1) se_int) (nomark _))))) (sw_or1 (st_cmp (om_ne hu) (se_slice om_sl (sv 0) (so_some (sv 2)) (so_some (se_op om_add (sv 2) se_int))) se_str (nomark _)))))) (sss_one (ss_ret se_non)) sss_nil) (sss_one (ss_ret (se_tup (sa_cons (se_callTy cm_int m_int (by decide +kernel) (by rfl) (sa_cons (se_slice om_sl (sv 0) (so_some (sv 1)) (so_some (sv 2))) sa_nil)) (sa_cons (se_op om_add (sv 2) se_int) sa_nil)) (len_cons (len_cons len_nil)))))))
theorem sckey_at : FnScope nkey_at pkey_at (defScope skey_at) := ⟨rfl, rfl, rfl, by decide +kernel, rfl, by decide +kernel, by decide +kernel⟩
noncomputable def b_key_at : MSt :=
  (sSeq (sAsg 2 (eCall (gb [.p 0, .p 1, .p 2] [] []) c_end_of (aCons (eVar 0) (aCons (eVar 1) (aCons (eC (.str "abcdefghijklmnopqrstuvwxyz")) aNil))) aNil)) (sSeq (sIf (tOrM (tNotM (tB (eChain leM leM (eC (.int 1)) (eBin subM (eVar 2) (eVar 1)) (eC (.int 8))))) (tB (eBin neM (eSl slM (eVar 0) (oSo (eVar 2)) (oSo (eBin addM (eVar 2) (eC (.int 1))))) (eC (.str "."))))) (sRet (eC .non)) sNil) (sSeq (sAsg 3 (eCall (gb [.p 0, .p 1] [] []) c_number_at (aCons (eVar 0) (aCons (eBin addM (eVar 2) (eC (.int 1))) aNil)) aNil)) (sSeq (sIf (tOrM (tB (eBin isM (eVar 3) (eC .non))) (tB (eBin eqM (eBin ixD (eVar 3) (eC (.int 0))) (eC (.int 0))))) (sRet (eC .non)) sNil) (sRet (eTup (aCons (eTup (aCons (eSl slM (eVar 0) (oSo (eVar 1)) (oSo (eVar 2))) (aCons (eBin ixD (eVar 3) (eC (.int 0))) aNil))) (aCons (eBin ixD (eVar 3) (eC (.int 1))) aNil))))))))
noncomputable def c_key_at : MF := fnCode 4 b_key_at
theorem ok_key_at (T : Tp K mg) {f : Addr} {fd : FuncData} (F : FunD K "key_at" "key_at" (defArgs skey_at) (defBody skey_at) (defScope skey_at) [] [] f fd) : FnM P TheW.w K mg base 3 f fd pkey_at c_key_at := by
  obtain ⟨h0, KX, G0, c, c0⟩ := T.says
  obtain ⟨fd_number_at, F_number_at⟩ := c.def_ 3 (d := dnumber_at) rfl
  have G_number_at := ok_number_at (P := P) (base := base) T F_number_at
  have gl_number_at := He.glo_ok KX G0 (c.fact 6 (f := .glo "number_at") rfl)
  have i_LONGEST := He.int_ok KX G0 (c.fact 7 (f := .int "LONGEST" 8) rfl)
  obtain ⟨fd_end_of, F_end_of⟩ := c.def_ 2 (d := dend_of) rfl
  have G_end_of := ok_end_of (P := P) (base := base) T F_end_of
  have gl_end_of := He.glo_ok KX G0 (c.fact 4 (f := .glo "end_of") rfl)
  have i_LETTERS := He.str_ok KX G0 (c.fact 8 (f := .str "LETTERS" "abcdefghijklmnopqrstuvwxyz") rfl)
  refine fnM_of F sckey_at fun cdv A outer s H E hr hgd => ?_
  have hu := hr.units
  have tk := takes_of (X := cxOf (L2.CX P TheW.w) P TheW.w K mg base nkey_at "key_at" (defScope skey_at) f cdv A outer s H E) rfl rfl rfl rfl
  have hp := passes_of (X := cxOf (L2.CX P TheW.w) P TheW.w K mg base nkey_at "key_at" (defScope skey_at) f cdv A outer s H E) rfl
  exact (sss_cons (ss_set (i := 2) sckey_at.nd rfl (Or.inl rfl) (se_call G_end_of (by exact hr.mono (by decide)) hgd (bn_end_of_3 F_end_of) tk gl_end_of F_end_of.kp (by rfl) rfl (sa_cons (sv 0) (sa_cons (sv 1) (sa_cons (se_gstr i_LETTERS (by rfl)) sa_nil))) (len_cons (len_cons (len_cons len_nil))))) (sss_cons (ss_if (SWt.pt (sw_or (st_not (st_chain om_le om_le se_int (se_op om_sub (sv 2) (sv 1)) (se_gint i_LONGEST (by rfl)))) (sw_or1 (st_cmp (om_ne hu) (se_slice om_sl (sv 0) (so_some (sv 2)) (so_some (se_op om_add (sv 2) se_int))) se_str (nomark _))))) (sss_one (ss_ret se_non)) sss_nil) (sss_cons (ss_set (i := 3) sckey_at.nd rfl (Or.inl rfl) (se_call G_number_at (by exact hr.mono (by decide)) hgd (bn_number_at_2 F_number_at) tk gl_number_at F_number_at.kp (by rfl) rfl (sa_cons (sv 0) (sa_cons (se_op om_add (sv 2) se_int) sa_nil)) (len_cons (len_cons len_nil)))) (sss_cons (ss_if (SWt.pt (sw_or (st_cmp om_is (sv 3) se_non (nomark _)) (sw_or1 (st_cmp (om_eq hu) (se_ix (om_ixD hu) (sv 3) se_int (fun _ _ => rfl)) se_int (nomark _))))) (sss_one (ss_ret se_non)) sss_nil) (sss_one (ss_ret (se_tup (sa_cons (se_tup (sa_cons (se_slice om_sl (sv 0) (so_some (sv 1)) (so_some (sv 2))) (sa_cons (se_ix (om_ixD hu) (sv 3) se_int (fun _ _ => rfl)) sa_nil)) (len_cons (len_cons len_nil))) (sa_cons (se_ix (om_ixD hu) (sv 3) se_int (fun _ _ => rfl)) sa_nil)) (len_cons (len_cons len_nil)))))))))
theorem scis_signs : FnScope nis_signs pis_signs (defScope sis_signs) := ⟨rfl, rfl, rfl, by decide +kernel, rfl, by decide +kernel, by decide +kernel⟩
noncomputable def b_is_signs : MSt :=
  (sRet (eAnd (eCB (isiM kt) (aCons (eVar 0) (aCons (eC (.ty "str")) aNil))) (eCB1 allM (eComp (iSeq (eVar 0)) (gN 1) tYesM (eChain leM leM (eC (.str " ")) (eVar 1) (eC (.str "}"))) [1]))))
noncomputable def c_is_signs : MF := fnCode 2 b_is_signs
theorem ok_is_signs (T : Tp K mg) {f : Addr} {fd : FuncData} (F : FunD K "is_signs" "is_signs" (defArgs sis_signs) (defBody sis_signs) (defScope sis_signs) [] [] f fd) : FnM P TheW.w K mg base 1 f fd pis_signs c_is_signs := by
  obtain ⟨h0, KX, G0, c, c0⟩ := T.says
  have m_all := He.free_ok KX G0 (c.fact 9 (f := .free "all") rfl)
  have m_str := He.free_ok KX G0 (c.fact 10 (f := .free "str") rfl)
  have m_isinstance := He.free_ok KX G0 (c.fact 11 (f := .free "isinstance") rfl)
  refine fnM_of F scis_signs fun cdv A outer s H E hr hgd => ?_
  have hu := hr.units
  have tk := takes_of (X := cxOf (L2.CX P TheW.w) P TheW.w K mg base nis_signs "is_signs" (defScope sis_signs) f cdv A outer s H E) rfl rfl rfl rfl
  have hp := passes_of (X := cxOf (L2.CX P TheW.w) P TheW.w K mg base nis_signs "is_signs" (defScope sis_signs) f cdv A outer s H E) rfl
  exact (sss_one (ss_ret (se_and (se_callB (cm_isi T.kt) m_isinstance (by decide +kernel) (by rfl) (sa_cons (sv 0) (sa_cons (se_ty (n := "str") m_str (by rfl) (by decide +kernel)) sa_nil))) (se_one (se_callB1 (cm_all rfl) m_all (by decide +kernel) (by rfl) (se_lc (own := [("sign", 1)]) rfl scis_signs.nd (si_seq (sv 0)) (blkOk_by (own := [("sign", 1)]) (N := nis_signs) (sc := (defScope sis_signs)) (by decide +kernel)) (fun _ _ _ _ _ => by exact (sg_name (i := 1) scis_signs.nd rfl (Or.inl rfl) (by decide))) (fun _ _ _ _ _ => by exact spts_nil) (fun _ _ _ _ _ => by exact (se_chain om_le om_le se_str (sv 1) se_str))))))))
theorem scis_text : FnScope nis_text pis_text (defScope sis_text) := ⟨rfl, rfl, rfl, by decide +kernel, rfl, by decide +kernel, by decide +kernel⟩
noncomputable def b_is_text : MSt :=
  (sRet (eAnd (eCall (gb [.p 0] [] []) c_is_signs (aCons (eVar 0) aNil) aNil) (eAnd (eBin leM (eCB1 lenD (eVar 0)) (eC (.int 60))) (eAnd (eBin notInD (eC (.str "<")) (eVar 0)) (eBin notInD (eC (.str ">")) (eVar 0))))))
noncomputable def c_is_text : MF := fnCode 1 b_is_text
theorem ok_is_text (T : Tp K mg) {f : Addr} {fd : FuncData} (F : FunD K "is_text" "is_text" (defArgs sis_text) (defBody sis_text) (defScope sis_text) [] [] f fd) : FnM P TheW.w K mg base 2 f fd pis_text c_is_text := by
  obtain ⟨h0, KX, G0, c, c0⟩ := T.says
  have m_len := He.free_ok KX G0 (c.fact 1 (f := .free "len") rfl)
  have i_MOST_TEXT := He.int_ok KX G0 (c.fact 12 (f := .int "MOST_TEXT" 60) rfl)
  obtain ⟨fd_is_signs, F_is_signs⟩ := c.def_ 5 (d := dis_signs) rfl
  have G_is_signs := ok_is_signs (P := P) (base := base) T F_is_signs
  have gl_is_signs := He.glo_ok KX G0 (c.fact 13 (f := .glo "is_signs") rfl)
  refine fnM_of F scis_text fun cdv A outer s H E hr hgd => ?_
  have hu := hr.units
  have tk := takes_of (X := cxOf (L2.CX P TheW.w) P TheW.w K mg base nis_text "is_text" (defScope sis_text) f cdv A outer s H E) rfl rfl rfl rfl
  have hp := passes_of (X := cxOf (L2.CX P TheW.w) P TheW.w K mg base nis_text "is_text" (defScope sis_text) f cdv A outer s H E) rfl
  exact (sss_one (ss_ret (se_and (se_call G_is_signs (by exact hr.mono (by decide)) hgd (bn_is_signs_1 F_is_signs) tk gl_is_signs F_is_signs.kp (by rfl) rfl (sa_cons (sv 0) sa_nil) (len_cons len_nil)) (se_and (se_cmp om_le (se_callB1 cm_lenD m_len (by decide +kernel) (by rfl) (sv 0)) (se_gint i_MOST_TEXT (by rfl)) (nomark _)) (se_and (se_cmp (om_notInD hu) se_str (sv 0) rfl) (se_one (se_cmp (om_notInD hu) se_str (sv 0) rfl)))))))
theorem scsum_of : FnScope nsum_of psum_of (defScope ssum_of) := ⟨rfl, rfl, rfl, by decide +kernel, rfl, by decide +kernel, by decide +kernel⟩
noncomputable def b_sum_of : MSt :=
  (sRet (eBin modM (eCB1 sumM (eComp (iEnm (eVar 0)) (gT 2 (gsCons (gN 1) (gsCons (gN 2) gsNil))) tYesM (eBin mulM (eCB ordM (aCons (eVar 2) aNil)) (eBin addM (eVar 1) (eC (.int 1)))) [1, 2])) (eC (.int 9973))))
noncomputable def c_sum_of : MF := fnCode 3 b_sum_of
theorem ok_sum_of (T : Tp K mg) {f : Addr} {fd : FuncData} (F : FunD K "sum_of" "sum_of" (defArgs ssum_of) (defBody ssum_of) (defScope ssum_of) [] [] f fd) : FnM P TheW.w K mg base 1 f fd psum_of c_sum_of := by
  obtain ⟨h0, KX, G0, c, c0⟩ := T.says
  have m_enumerate := He.free_ok KX G0 (c.fact 14 (f := .free "enumerate") rfl)
  have m_ord := He.free_ok KX G0 (c.fact 15 (f := .free "ord") rfl)
  have m_sum := He.free_ok KX G0 (c.fact 16 (f := .free "sum") rfl)
  have i_ROUND := He.int_ok KX G0 (c.fact 17 (f := .int "ROUND" 9973) rfl)
  refine fnM_of F scsum_of fun cdv A outer s H E hr hgd => ?_
  have hu := hr.units
  have tk := takes_of (X := cxOf (L2.CX P TheW.w) P TheW.w K mg base nsum_of "sum_of" (defScope ssum_of) f cdv A outer s H E) rfl rfl rfl rfl
  have hp := passes_of (X := cxOf (L2.CX P TheW.w) P TheW.w K mg base nsum_of "sum_of" (defScope ssum_of) f cdv A outer s H E) rfl
  exact (sss_one (ss_ret (se_op om_mod (se_callB1 (cm_sum rfl) m_sum (by decide +kernel) (by rfl) (se_lc (own := [("at", 1), ("sign", 2)]) rfl scsum_of.nd (si_enum m_enumerate (by rfl) (sv 0)) (blkOk_by (own := [("at", 1), ("sign", 2)]) (N := nsum_of) (sc := (defScope ssum_of)) (by decide +kernel)) (fun _ _ _ _ _ => by exact (sg_tup (n := 2) rfl (sgs_cons (sg_name (i := 1) scsum_of.nd rfl (Or.inl rfl) (by decide)) (sgs_cons (sg_name (i := 2) scsum_of.nd rfl (Or.inl rfl) (by decide)) sgs_nil nox_nil) (nox_cons nox_name nox_nil)))) (fun _ _ _ _ _ => by exact spts_nil) (fun _ _ _ _ _ => by exact (se_op om_mul (se_callB cm_ord m_ord (by decide +kernel) (by rfl) (sa_cons (sv 2) sa_nil)) (se_op om_add (sv 1) se_int))))) (se_gint i_ROUND (by rfl)))))
theorem screcord_at : FnScope nrecord_at precord_at (defScope srecord_at) := ⟨rfl, rfl, rfl, by decide +kernel, rfl, by decide +kernel, by decide +kernel⟩
noncomputable def b_record_at : MSt :=
  (sSeq (sAsg 2 (eIf (tB (eBin eqM (eBin ixD (eVar 0) (eVar 1)) (eC (.str "<")))) (eCall (gb [.p 0, .p 1] [] []) c_key_at (aCons (eVar 0) (aCons (eBin addM (eVar 1) (eC (.int 1))) aNil)) aNil) (eC .non))) (sSeq (sAsg 3 (eIf (tB (eBin isM (eVar 2) (eC .non))) (eC .non) (eCall (gb [.p 0, .p 1] [] []) c_number_at (aCons (eVar 0) (aCons (eBin ixD (eVar 2) (eC (.int 1))) aNil)) aNil))) (sSeq (sAsg 4 (eIf (tB (eBin isM (eVar 3) (eC .non))) (eC .non) (eCall (gb [.p 0, .p 1] [] []) c_number_at (aCons (eVar 0) (aCons (eBin ixD (eVar 3) (eC (.int 1))) aNil)) aNil))) (sSeq (sIf (tB (eBin isM (eVar 4) (eC .non))) (sRet (eC .non)) sNil) (sSeq (sAsg 5 (eBin ixD (eVar 4) (eC (.int 1)))) (sSeq (sAsg 6 (eBin addM (eVar 5) (eBin ixD (eVar 3) (eC (.int 0))))) (sSeq (sAsg 7 (eSl slM (eVar 0) (oSo (eVar 5)) (oSo (eVar 6)))) (sSeq (sIf (tOrM (tB (eBin ltM (eCB1 lenD (eVar 7)) (eBin ixD (eVar 3) (eC (.int 0))))) (tOrM (tB (eBin neM (eSl slM (eVar 0) (oSo (eVar 6)) (oSo (eBin addM (eVar 6) (eC (.int 1))))) (eC (.str ">")))) (tOrM (tNotM (tTru (eCall (gb [.p 0] [] []) c_is_text (aCons (eVar 7) aNil) aNil))) (tB (eBin neM (eCall (gb [.p 0] [] []) c_sum_of (aCons (eVar 7) aNil) aNil) (eBin ixD (eVar 4) (eC (.int 0)))))))) (sRet (eC .non)) sNil) (sRet (eTup (aCons (eBin ixD (eVar 2) (eC (.int 0))) (aCons (eVar 7) (aCons (eBin addM (eVar 6) (eC (.int 1))) aNil)))))))))))))
noncomputable def c_record_at : MF := fnCode 8 b_record_at
theorem ok_record_at (T : Tp K mg) {f : Addr} {fd : FuncData} (F : FunD K "record_at" "record_at" (defArgs srecord_at) (defBody srecord_at) (defScope srecord_at) [] [] f fd) : FnM P TheW.w K mg base 4 f fd precord_at c_record_at := by
  obtain ⟨h0, KX, G0, c, c0⟩ := T.says
  obtain ⟨fd_sum_of, F_sum_of⟩ := c.def_ 7 (d := dsum_of) rfl
  have G_sum_of := ok_sum_of (P := P) (base := base) T F_sum_of
  have gl_sum_of := He.glo_ok KX G0 (c.fact 18 (f := .glo "sum_of") rfl)
  obtain ⟨fd_is_text, F_is_text⟩ := c.def_ 6 (d := dis_text) rfl
  have G_is_text := ok_is_text (P := P) (base := base) T F_is_text
  have gl_is_text := He.glo_ok KX G0 (c.fact 19 (f := .glo "is_text") rfl)
  have m_len := He.free_ok KX G0 (c.fact 1 (f := .free "len") rfl)
  obtain ⟨fd_number_at, F_number_at⟩ := c.def_ 3 (d := dnumber_at) rfl
  have G_number_at := ok_number_at (P := P) (base := base) T F_number_at
  have gl_number_at := He.glo_ok KX G0 (c.fact 6 (f := .glo "number_at") rfl)
  obtain ⟨fd_key_at, F_key_at⟩ := c.def_ 4 (d := dkey_at) rfl
  have G_key_at := ok_key_at (P := P) (base := base) T F_key_at
  have gl_key_at := He.glo_ok KX G0 (c.fact 20 (f := .glo "key_at") rfl)
  refine fnM_of F screcord_at fun cdv A outer s H E hr hgd => ?_
  have hu := hr.units
  have tk := takes_of (X := cxOf (L2.CX P TheW.w) P TheW.w K mg base nrecord_at "record_at" (defScope srecord_at) f cdv A outer s H E) rfl rfl rfl rfl
  have hp := passes_of (X := cxOf (L2.CX P TheW.w) P TheW.w K mg base nrecord_at "record_at" (defScope srecord_at) f cdv A outer s H E) rfl
  exact (sss_cons (ss_set (i := 2) screcord_at.nd rfl (Or.inl rfl) (se_if (st_cmp (om_eq hu) (se_ix (om_ixD hu) (sv 0) (sv 1) (fun _ _ => rfl)) se_str (nomark _)) (se_call G_key_at (by exact hr.mono (by decide)) hgd (bn_key_at_2 F_key_at) tk gl_key_at F_key_at.kp (by rfl) rfl (sa_cons (sv 0) (sa_cons (se_op om_add (sv 1) se_int) sa_nil)) (len_cons (len_cons len_nil))) se_non)) (sss_cons (ss_set (i := 3) screcord_at.nd rfl (Or.inl rfl) (se_if (st_cmp om_is (sv 2) se_non (nomark _)) se_non (se_call G_number_at (by exact hr.mono (by decide)) hgd (bn_number_at_2 F_number_at) tk gl_number_at F_number_at.kp (by rfl) rfl (sa_cons (sv 0) (sa_cons (se_ix (om_ixD hu) (sv 2) se_int (fun _ _ => rfl)) sa_nil)) (len_cons (len_cons len_nil))))) (sss_cons (ss_set (i := 4) screcord_at.nd rfl (Or.inl rfl) (se_if (st_cmp om_is (sv 3) se_non (nomark _)) se_non (se_call G_number_at (by exact hr.mono (by decide)) hgd (bn_number_at_2 F_number_at) tk gl_number_at F_number_at.kp (by rfl) rfl (sa_cons (sv 0) (sa_cons (se_ix (om_ixD hu) (sv 3) se_int (fun _ _ => rfl)) sa_nil)) (len_cons (len_cons len_nil))))) (sss_cons (ss_if (st_cmp om_is (sv 4) se_non (nomark _)) (sss_one (ss_ret se_non)) sss_nil) (sss_cons (ss_set (i := 5) screcord_at.nd rfl (Or.inl rfl) (se_ix (om_ixD hu) (sv 4) se_int (fun _ _ => rfl))) (sss_cons (ss_set (i := 6) screcord_at.nd rfl (Or.inl rfl) (se_op om_add (sv 5) (se_ix (om_ixD hu) (sv 3) se_int (fun _ _ => rfl)))) (sss_cons (ss_set (i := 7) screcord_at.nd rfl (Or.inl rfl) (se_slice om_sl (sv 0) (so_some (sv 5)) (so_some (sv 6)))) (sss_cons (ss_if (SWt.pt (sw_or (st_cmp om_lt (se_callB1 cm_lenD m_len (by decide +kernel) (by rfl) (sv 7)) (se_ix (om_ixD hu) (sv 3) se_int (fun _ _ => rfl)) (nomark _)) (sw_or (st_cmp (om_ne hu) (se_slice om_sl (sv 0) (so_some (sv 6)) (so_some (se_op om_add (sv 6) se_int))) se_str (nomark _)) (sw_or (st_not (st_tru (se_call G_is_text (by exact hr.mono (by decide)) hgd (bn_is_text_1 F_is_text) tk gl_is_text F_is_text.kp (by rfl) rfl (sa_cons (sv 7) sa_nil) (len_cons len_nil)))) (sw_or1 (st_cmp (om_ne hu) (se_call G_sum_of (by exact hr.mono (by decide)) hgd (bn_sum_of_1 F_sum_of) tk gl_sum_of F_sum_of.kp (by rfl) rfl (sa_cons (sv 7) sa_nil) (len_cons len_nil)) (se_ix (om_ixD hu) (sv 4) se_int (fun _ _ => rfl)) (nomark _))))))) (sss_one (ss_ret se_non)) sss_nil) (sss_one (ss_ret (se_tup (sa_cons (se_ix (om_ixD hu) (sv 2) se_int (fun _ _ => rfl)) (sa_cons (sv 7) (sa_cons (se_op om_add (sv 6) se_int) sa_nil))) (len_cons (len_cons (len_cons len_nil))))))))))))))
theorem screcords_in : FnScope nrecords_in precords_in (defScope srecords_in) := ⟨rfl, rfl, rfl, by decide +kernel, rfl, by decide +kernel, by decide +kernel⟩
noncomputable def l_records_in_0 : MSt :=
  (sSeq (sAsg 4 (eCall (gb [.p 0, .p 1] [] []) c_record_at (aCons (eVar 0) (aCons (eVar 3) aNil)) aNil)) (sIf (tB (eBin isM (eVar 4) (eC .non))) (sAug 3 addI (eC (.int 1))) (sSeq (sAsgT (gT 3 (gsCons (gN 5) (gsCons (gN 6) (gsCons (gN 7) gsNil)))) (eVar 4)) (sSeq (sIf (tB (eBin notInN (eVar 5) (eVar 2))) (sSeq (sSubN (eVar 2) (eVar 5) (eC (.bl true))) (sDrop (eLM appM (eVar 1) (aCons (eTup (aCons (eVar 3) (aCons (eVar 5) (aCons (eVar 6) aNil)))) aNil)))) sNil) (sAsg 3 (eVar 7))))))
noncomputable def b_records_in : MSt :=
  (sSeq (sAsg 1 (eLst aNil)) (sSeq (sAsg 2 eDct0) (sSeq (sAsg 3 (eC (.int 0))) (sSeq (sWhile (tB (eBin ltM (eVar 3) (eCB1 lenN (eVar 0)))) l_records_in_0 100000) (sRet (eVar 1))))))
noncomputable def c_records_in : MF := fnCode 8 b_records_in
theorem ok_records_in (T : Tp K mg) {f : Addr} {fd : FuncData} (F : FunD K "records_in" "records_in" (defArgs srecords_in) (defBody srecords_in) (defScope srecords_in) [] [] f fd) : FnM P TheW.w K mg base 5 f fd precords_in c_records_in := by
  obtain ⟨h0, KX, G0, c, c0⟩ := T.says
  have m_len := He.free_ok KX G0 (c.fact 1 (f := .free "len") rfl)
  obtain ⟨fd_record_at, F_record_at⟩ := c.def_ 8 (d := drecord_at) rfl
  have G_record_at := ok_record_at (P := P) (base := base) T F_record_at
  have gl_record_at := He.glo_ok KX G0 (c.fact 21 (f := .glo "record_at") rfl)
  refine fnM_of F screcords_in fun cdv A outer s H E hr hgd => ?_
  have hu := hr.units
  have tk := takes_of (X := cxOf (L2.CX P TheW.w) P TheW.w K mg base nrecords_in "records_in" (defScope srecords_in) f cdv A outer s H E) rfl rfl rfl rfl
  have hp := passes_of (X := cxOf (L2.CX P TheW.w) P TheW.w K mg base nrecords_in "records_in" (defScope srecords_in) f cdv A outer s H E) rfl
  exact (sss_cons (ss_set (i := 1) screcords_in.nd rfl (Or.inl rfl) (se_lst sa_nil len_nil)) (sss_cons (ss_set (i := 2) screcords_in.nd rfl (Or.inl rfl) se_dct0) (sss_cons (ss_set (i := 3) screcords_in.nd rfl (Or.inl rfl) se_int) (sss_cons (ss_while hp (st_cmp om_lt (sv 3) (se_callB1 cm_lenN m_len (by decide +kernel) (by rfl) (sv 0)) (nomark _)) (sss_cons (ss_set (i := 4) screcords_in.nd rfl (Or.inl rfl) (se_call G_record_at (by exact hr.mono (by decide)) hgd (bn_record_at_2 F_record_at) tk gl_record_at F_record_at.kp (by rfl) rfl (sa_cons (sv 0) (sa_cons (sv 3) sa_nil)) (len_cons (len_cons len_nil)))) (sss_one (ss_if (st_cmp om_is (sv 4) se_non (nomark _)) (sss_one (ss_aug (i := 3) screcords_in.nd rfl (Or.inl rfl) se_int ip_addM)) (sss_cons (ss_asgT (vs := [5, 6, 7]) (sv 4) (sg_tup (n := 3) rfl (sgs_cons (sg_name (i := 5) screcords_in.nd rfl (Or.inl rfl) (by decide)) (sgs_cons (sg_name (i := 6) screcords_in.nd rfl (Or.inl rfl) (by decide)) (sgs_cons (sg_name (i := 7) screcords_in.nd rfl (Or.inl rfl) (by decide)) sgs_nil nox_nil) (nox_cons nox_name nox_nil)) (nox_cons nox_name (nox_cons nox_name nox_nil)))) (nox_tup (nox_cons nox_name (nox_cons nox_name (nox_cons nox_name nox_nil))))) (sss_cons (ss_if (st_cmp (om_notInN hu) (sv 5) (sv 2) rfl) (sss_cons (ss_subN hu (sv 2) (sv 5) se_bl) (sss_one (ss_expr (se_lm PySem.F.slot_list_append PySem.F.type_list_append mm_append (sv 1) (sa_cons (se_tup (sa_cons (sv 3) (sa_cons (sv 5) (sa_cons (sv 6) sa_nil))) (len_cons (len_cons (len_cons len_nil)))) sa_nil))))) sss_nil) (sss_one (ss_set (i := 3) screcords_in.nd rfl (Or.inl rfl) (sv 7))))))))) (sss_one (ss_ret (sv 1)))))))

theorem sc_law_sum : FnScope n_law_sum p_law_sum (defScope s_law_sum) := ⟨rfl, rfl, rfl, by decide +kernel, rfl, by decide +kernel, by decide +kernel⟩
noncomputable def l__law_sum_0 : MSt :=
  (sAsg 1 (eBin modM (eBin addM (eVar 1) (eBin mulM (eCB ordM (aCons (eBin ixD (eVar 0) (eVar 2)) aNil)) (eBin addM (eVar 2) (eC (.int 1))))) (eC (.int 9973))))
noncomputable def b__law_sum : MSt :=
  (sSeq (sAsg 1 (eC (.int 0))) (sSeq (sFor (iR1 (aCons (eCB1 lenD (eVar 0)) aNil)) (gN 2) l__law_sum_0) (sRet (eVar 1))))
noncomputable def c__law_sum : MF := fnCode 3 b__law_sum
theorem ok__law_sum (T : Tp K mg) {f : Addr} {fd : FuncData} (F : FunD K "_law_sum" "_law_sum" (defArgs s_law_sum) (defBody s_law_sum) (defScope s_law_sum) [] [] f fd) : FnM P TheW.w K mg base 1 f fd p_law_sum c__law_sum := by
  obtain ⟨h0, KX, G0, c, c0⟩ := T.says
  have m_len := He.free_ok KX G0 (c.fact 1 (f := .free "len") rfl)
  have m_range := He.free_ok KX G0 (c.fact 22 (f := .free "range") rfl)
  have m_ord := He.free_ok KX G0 (c.fact 15 (f := .free "ord") rfl)
  refine fnM_of F sc_law_sum fun cdv A outer s H E hr hgd => ?_
  have hu := hr.units
  have tk := takes_of (X := cxOf (L2.CX P TheW.w) P TheW.w K mg base n_law_sum "_law_sum" (defScope s_law_sum) f cdv A outer s H E) rfl rfl rfl rfl
  have hp := passes_of (X := cxOf (L2.CX P TheW.w) P TheW.w K mg base n_law_sum "_law_sum" (defScope s_law_sum) f cdv A outer s H E) rfl
  exact (sss_cons (ss_set (i := 1) sc_law_sum.nd rfl (Or.inl rfl) se_int) (sss_cons (ss_for (vs := [2]) hp rfl (si_range1 m_range (by rfl) (sa_cons (se_callB1 cm_lenD m_len (by decide +kernel) (by rfl) (sv 0)) sa_nil)) (sg_name (i := 2) sc_law_sum.nd rfl (Or.inl rfl) (by decide)) (sss_one (ss_set (i := 1) sc_law_sum.nd rfl (Or.inl rfl) (se_op om_mod (se_op om_add (sv 1) (se_op om_mul (se_callB cm_ord m_ord (by decide +kernel) (by rfl) (sa_cons (se_ix (om_ixD hu) (sv 0) (sv 2) (fun _ _ => rfl)) sa_nil)) (se_op om_add (sv 2) se_int))) se_int)))) (sss_one (ss_ret (sv 1)))))
theorem sc_law_frame : FnScope n_law_frame p_law_frame (defScope s_law_frame) := ⟨rfl, rfl, rfl, by decide +kernel, rfl, by decide +kernel, by decide +kernel⟩
noncomputable def b__law_frame : MSt :=
  (sSeq (sAsg 2 (eBin addM (eBin addM (eBin addM (eBin addM (eBin addM (eC (.str "<")) (eBin ixD (eVar 0) (eC (.int 0)))) (eC (.str "."))) (eCB strM (aCons (eBin ixD (eVar 0) (eC (.int 1))) aNil))) (eC (.str " "))) (eCB strM (aCons (eCB1 lenD (eVar 1)) aNil)))) (sRet (eBin addM (eBin addM (eBin addM (eBin addM (eBin addM (eVar 2) (eC (.str " "))) (eCB strM (aCons (eCall (gb [.p 0] [] []) c__law_sum (aCons (eVar 1) aNil) aNil) aNil))) (eC (.str " "))) (eVar 1)) (eC (.str ">")))))
noncomputable def c__law_frame : MF := fnCode 3 b__law_frame
theorem ok__law_frame (T : Tp K mg) {f : Addr} {fd : FuncData} (F : FunD K "_law_frame" "_law_frame" (defArgs s_law_frame) (defBody s_law_frame) (defScope s_law_frame) [] [] f fd) : FnM P TheW.w K mg base 2 f fd p_law_frame c__law_frame := by
  obtain ⟨h0, KX, G0, c, c0⟩ := T.says
  obtain ⟨fd__law_sum, F__law_sum⟩ := c.def_ 10 (d := d_law_sum) rfl
  have G__law_sum := ok__law_sum (P := P) (base := base) T F__law_sum
  have gl__law_sum := He.glo_ok KX G0 (c.fact 23 (f := .glo "_law_sum") rfl)
  have m_str := He.free_ok KX G0 (c.fact 10 (f := .free "str") rfl)
  have m_len := He.free_ok KX G0 (c.fact 1 (f := .free "len") rfl)
  refine fnM_of F sc_law_frame fun cdv A outer s H E hr hgd => ?_
  have hu := hr.units
  have tk := takes_of (X := cxOf (L2.CX P TheW.w) P TheW.w K mg base n_law_frame "_law_frame" (defScope s_law_frame) f cdv A outer s H E) rfl rfl rfl rfl
  have hp := passes_of (X := cxOf (L2.CX P TheW.w) P TheW.w K mg base n_law_frame "_law_frame" (defScope s_law_frame) f cdv A outer s H E) rfl
  exact (sss_cons (ss_set (i := 2) sc_law_frame.nd rfl (Or.inl rfl) (se_op om_add (se_op om_add (se_op om_add (se_op om_add (se_op om_add se_str (se_ix (om_ixD hu) (sv 0) se_int (fun _ _ => rfl))) se_str) (se_callTy cm_str m_str (by decide +kernel) (by rfl) (sa_cons (se_ix (om_ixD hu) (sv 0) se_int (fun _ _ => rfl)) sa_nil))) se_str) (se_callTy cm_str m_str (by decide +kernel) (by rfl) (sa_cons (se_callB1 cm_lenD m_len (by decide +kernel) (by rfl) (sv 1)) sa_nil)))) (sss_one (ss_ret (se_op om_add (se_op om_add (se_op om_add (se_op om_add (se_op om_add (sv 2) se_str) (se_callTy cm_str m_str (by decide +kernel) (by rfl) (sa_cons (se_call G__law_sum (by exact hr.mono (by decide)) hgd (bn__law_sum_1 F__law_sum) tk gl__law_sum F__law_sum.kp (by rfl) rfl (sa_cons (sv 1) sa_nil) (len_cons len_nil)) sa_nil))) se_str) (sv 1)) se_str))))
theorem sc_law_room : FnScope n_law_room p_law_room (defScope s_law_room) := ⟨rfl, rfl, rfl, by decide +kernel, rfl, by decide +kernel, by decide +kernel⟩
noncomputable def b__law_room : MSt :=
  (sSeq (sAsg 2 (eC (.int 0))) (sSeq (sIf (tB (eBin ltM (eVar 1) (eCB1 lenD (eVar 0)))) (sAsg 2 (eBin ixD (eVar 0) (eVar 1))) sNil) (sSeq (sAsg 3 (eC (.int 0))) (sSeq (sIf (tB (eBin geM (eVar 2) (eBin powM (eC (.int 10)) (eC (.int 18))))) (sAsg 3 (eVar 2)) sNil) (sRet (eLst (aCons (eVar 3) (aCons (eBin modM (eBin mulM (eBin addM (eBin addM (eBin modM (eVar 2) (eC (.int 2147483629))) (eBin mulM (eBin mulM (eC (.int 104729)) (eVar 1)) (eVar 1))) (eC (.int 7))) (eC (.int 48271))) (eC (.int 2147483647))) aNil))))))))
noncomputable def c__law_room : MF := fnCode 4 b__law_room
theorem ok__law_room (T : Tp K mg) {f : Addr} {fd : FuncData} (F : FunD K "_law_room" "_law_room" (defArgs s_law_room) (defBody s_law_room) (defScope s_law_room) [] [] f fd) : FnM P TheW.w K mg base 1 f fd p_law_room c__law_room := by
  obtain ⟨h0, KX, G0, c, c0⟩ := T.says
  have m_len := He.free_ok KX G0 (c.fact 1 (f := .free "len") rfl)
  refine fnM_of F sc_law_room fun cdv A outer s H E hr hgd => ?_
  have hu := hr.units
  have tk := takes_of (X := cxOf (L2.CX P TheW.w) P TheW.w K mg base n_law_room "_law_room" (defScope s_law_room) f cdv A outer s H E) rfl rfl rfl rfl
  have hp := passes_of (X := cxOf (L2.CX P TheW.w) P TheW.w K mg base n_law_room "_law_room" (defScope s_law_room) f cdv A outer s H E) rfl
  exact (sss_cons (ss_set (i := 2) sc_law_room.nd rfl (Or.inl rfl) se_int) (sss_cons (ss_if (st_cmp om_lt (sv 1) (se_callB1 cm_lenD m_len (by decide +kernel) (by rfl) (sv 0)) (nomark _)) (sss_one (ss_set (i := 2) sc_law_room.nd rfl (Or.inl rfl) (se_ix (om_ixD hu) (sv 0) (sv 1) (fun _ _ => rfl)))) sss_nil) (sss_cons (ss_set (i := 3) sc_law_room.nd rfl (Or.inl rfl) se_int) (sss_cons (ss_if (st_cmp om_ge (sv 2) (se_op om_pow se_int se_int) (nomark _)) (sss_one (ss_set (i := 3) sc_law_room.nd rfl (Or.inl rfl) (sv 2))) sss_nil) (sss_one (ss_ret (se_lst (sa_cons (sv 3) (sa_cons (se_op om_mod (se_op om_mul (se_op om_add (se_op om_add (se_op om_mod (sv 2) se_int) (se_op om_mul (se_op om_mul se_int (sv 1)) (sv 1))) se_int) se_int) se_int) sa_nil)) (len_cons (len_cons len_nil)))))))))
theorem sc_law_number : FnScope n_law_number p_law_number (defScope s_law_number) := ⟨rfl, rfl, rfl, by decide +kernel, rfl, by decide +kernel, by decide +kernel⟩
noncomputable def l__law_number_0 : MSt :=
  (sAsg 2 (eBin addM (eVar 2) (eC (.int 1))))
noncomputable def b__law_number : MSt :=
  (sSeq (sAsg 2 (eVar 1)) (sSeq (sWhile (tAndM (tB (eBin ltM (eVar 2) (eCB1 lenD (eVar 0)))) (tB (eBin inD (eBin ixD (eVar 0) (eVar 2)) (eC (.str "0123456789"))))) l__law_number_0 100000) (sSeq (sIf (tOrM (tNotM (tB (eChain leM leM (eC (.int 1)) (eBin subM (eVar 2) (eVar 1)) (eC (.int 30))))) (tOrM (tB (eBin neM (eSl slM (eVar 0) (oSo (eVar 2)) (oSo (eBin addM (eVar 2) (eC (.int 1))))) (eC (.str " ")))) (tAndM (tB (eBin eqM (eBin ixD (eVar 0) (eVar 1)) (eC (.str "0")))) (tB (eBin gtM (eBin subM (eVar 2) (eVar 1)) (eC (.int 1))))))) (sRet (eC .non)) sNil) (sRet (eLst (aCons (eCB intM (aCons (eSl slM (eVar 0) (oSo (eVar 1)) (oSo (eVar 2))) aNil)) (aCons (eBin addM (eVar 2) (eC (.int 1))) aNil)))))))
noncomputable def c__law_number : MF := fnCode 3 b__law_number
theorem ok__law_number (T : Tp K mg) {f : Addr} {fd : FuncData} (F : FunD K "_law_number" "_law_number" (defArgs s_law_number) (defBody s_law_number) (defScope s_law_number) [] [] f fd) : FnM P TheW.w K mg base 1 f fd p_law_number c__law_number := by
  obtain ⟨h0, KX, G0, c, c0⟩ := T.says
  have m_int := He.free_ok KX G0 (c.fact 2 (f := .free "int") rfl)
  have m_len := He.free_ok KX G0 (c.fact 1 (f := .free "len") rfl)
  refine fnM_of F sc_law_number fun cdv A outer s H E hr hgd => ?_
  have hu := hr.units
  have tk := takes_of (X := cxOf (L2.CX P TheW.w) P TheW.w K mg base n_law_number "_law_number" (defScope s_law_number) f cdv A outer s H E) rfl rfl rfl rfl
  have hp := passes_of (X := cxOf (L2.CX P TheW.w) P TheW.w K mg base n_law_number "_law_number" (defScope s_law_number) f cdv A outer s H E) rfl
  exact (sss_cons (ss_set (i := 2) sc_law_number.nd rfl (Or.inl rfl) (sv 1)) (sss_cons (ss_while hp (SWt.pt (sw_and (st_cmp om_lt (sv 2) (se_callB1 cm_lenD m_len (by decide +kernel) (by rfl) (sv 0)) (nomark _)) (sw_and1 (st_cmp (om_inD hu) (se_ix (om_ixD hu) (sv 0) (sv 2) (fun _ _ => rfl)) se_str rfl)))) (sss_one (ss_set (i := 2) sc_law_number.nd rfl (Or.inl rfl) (se_op om_add (sv 2) se_int)))) (sss_cons (ss_if (SWt.pt (sw_or (st_not (st_chain om_le om_le se_int (se_op om_sub (sv 2) (sv 1)) se_int)) (sw_or (st_cmp (om_ne hu) (se_slice om_sl (sv 0) (so_some (sv 2)) (so_some (se_op om_add (sv 2) se_int))) se_str (nomark _)) (sw_or1 (SWt.pt (sw_and (st_cmp (om_eq hu) (se_ix (om_ixD hu) (sv 0) (sv 1) (fun _ _ => rfl)) se_str (nomark _)) (sw_and1 (st_cmp om_gt (se_op om_sub (sv 2) (sv 1)) se_int (nomark _))))))))) (sss_one (ss_ret se_non)) sss_nil) (sss_one (ss_ret (se_lst (sa_cons (se_callTy cm_int m_int (by decide +kernel) (by rfl) (sa_cons (se_slice om_sl (sv 0) (so_some (sv 1)) (so_some (sv 2))) sa_nil)) (sa_cons (se_op om_add (sv 2) se_int) sa_nil)) (len_cons (len_cons len_nil))))))))
theorem sc_law_at : FnScope n_law_at p_law_at (defScope s_law_at) := ⟨rfl, rfl, rfl, by decide +kernel, rfl, by decide +kernel, by decide +kernel⟩
noncomputable def l__law_at_0 : MSt :=
  (sAsg 2 (eBin addM (eVar 2) (eC (.int 1))))
noncomputable def b__law_at : MSt :=
  (sSeq (sAsg 2 (eBin addM (eVar 1) (eC (.int 1)))) (sSeq (sWhile (tAndM (tB (eBin ltM (eVar 2) (eCB1 lenD (eVar 0)))) (tB (eBin inD (eBin ixD (eVar 0) (eVar 2)) (eC (.str "abcdefghijklmnopqrstuvwxyz"))))) l__law_at_0 100000) (sSeq (sIf (tOrM (tB (eBin neM (eBin ixD (eVar 0) (eVar 1)) (eC (.str "<")))) (tOrM (tNotM (tB (eChain leM leM (eC (.int 1)) (eBin subM (eBin subM (eVar 2) (eVar 1)) (eC (.int 1))) (eC (.int 8))))) (tB (eBin neM (eSl slM (eVar 0) (oSo (eVar 2)) (oSo (eBin addM (eVar 2) (eC (.int 1))))) (eC (.str ".")))))) (sRet (eC .non)) sNil) (sSeq (sAsg 3 (eCall (gb [.p 0, .p 1] [] []) c__law_number (aCons (eVar 0) (aCons (eBin addM (eVar 2) (eC (.int 1))) aNil)) aNil)) (sSeq (sAsg 4 (eIf (tOrM (tB (eBin isM (eVar 3) (eC .non))) (tB (eBin eqM (eBin ixD (eVar 3) (eC (.int 0))) (eC (.int 0))))) (eC .non) (eCall (gb [.p 0, .p 1] [] []) c__law_number (aCons (eVar 0) (aCons (eBin ixD (eVar 3) (eC (.int 1))) aNil)) aNil))) (sSeq (sAsg 5 (eIf (tB (eBin isM (eVar 4) (eC .non))) (eC .non) (eCall (gb [.p 0, .p 1] [] []) c__law_number (aCons (eVar 0) (aCons (eBin ixD (eVar 4) (eC (.int 1))) aNil)) aNil))) (sSeq (sIf (tB (eBin isM (eVar 5) (eC .non))) (sRet (eC .non)) sNil) (sSeq (sAsg 6 (eBin ixD (eVar 5) (eC (.int 1)))) (sSeq (sAsg 7 (eSl slM (eVar 0) (oSo (eVar 6)) (oSo (eBin addM (eVar 6) (eBin ixD (eVar 4) (eC (.int 0))))))) (sSeq (sIf (tOrM (tB (eBin ltM (eCB1 lenD (eVar 7)) (eBin ixD (eVar 4) (eC (.int 0))))) (tOrM (tB (eBin gtM (eCB1 lenD (eVar 7)) (eC (.int 60)))) (tB (eBin neM (eSl slM (eVar 0) (oSo (eBin addM (eVar 6) (eBin ixD (eVar 4) (eC (.int 0))))) (oSo (eBin addM (eBin addM (eVar 6) (eBin ixD (eVar 4) (eC (.int 0)))) (eC (.int 1))))) (eC (.str ">")))))) (sRet (eC .non)) sNil) (sSeq (sIf (tOrM (tB (eBin neM (eComp (iSeq (eVar 7)) (gN 8) (tOrM (tB (eBin inD (eVar 8) (eC (.str "<>~")))) (tNotM (tB (eChain leM leM (eC (.str " ")) (eVar 8) (eC (.str "}")))))) (eVar 8) [8]) (eLst aNil))) (tB (eBin neM (eCall (gb [.p 0] [] []) c__law_sum (aCons (eVar 7) aNil) aNil) (eBin ixD (eVar 5) (eC (.int 0)))))) (sRet (eC .non)) sNil) (sRet (eLst (aCons (eTup (aCons (eSl slM (eVar 0) (oSo (eBin addM (eVar 1) (eC (.int 1)))) (oSo (eVar 2))) (aCons (eBin ixD (eVar 3) (eC (.int 0))) aNil))) (aCons (eVar 7) (aCons (eBin addM (eBin addM (eVar 6) (eBin ixD (eVar 4) (eC (.int 0)))) (eC (.int 1))) aNil))))))))))))))))
noncomputable def c__law_at : MF := fnCode 9 b__law_at
theorem ok__law_at (T : Tp K mg) {f : Addr} {fd : FuncData} (F : FunD K "_law_at" "_law_at" (defArgs s_law_at) (defBody s_law_at) (defScope s_law_at) [] [] f fd) : FnM P TheW.w K mg base 2 f fd p_law_at c__law_at := by
  obtain ⟨h0, KX, G0, c, c0⟩ := T.says
  obtain ⟨fd__law_sum, F__law_sum⟩ := c.def_ 10 (d := d_law_sum) rfl
  have G__law_sum := ok__law_sum (P := P) (base := base) T F__law_sum
  have gl__law_sum := He.glo_ok KX G0 (c.fact 23 (f := .glo "_law_sum") rfl)
  have m_len := He.free_ok KX G0 (c.fact 1 (f := .free "len") rfl)
  obtain ⟨fd__law_number, F__law_number⟩ := c.def_ 13 (d := d_law_number) rfl
  have G__law_number := ok__law_number (P := P) (base := base) T F__law_number
  have gl__law_number := He.glo_ok KX G0 (c.fact 24 (f := .glo "_law_number") rfl)
  refine fnM_of F sc_law_at fun cdv A outer s H E hr hgd => ?_
  have hu := hr.units
  have tk := takes_of (X := cxOf (L2.CX P TheW.w) P TheW.w K mg base n_law_at "_law_at" (defScope s_law_at) f cdv A outer s H E) rfl rfl rfl rfl
  have hp := passes_of (X := cxOf (L2.CX P TheW.w) P TheW.w K mg base n_law_at "_law_at" (defScope s_law_at) f cdv A outer s H E) rfl
  exact (sss_cons (ss_set (i := 2) sc_law_at.nd rfl (Or.inl rfl) (se_op om_add (sv 1) se_int)) (sss_cons (ss_while hp (SWt.pt (sw_and (st_cmp om_lt (sv 2) (se_callB1 cm_lenD m_len (by decide +kernel) (by rfl) (sv 0)) (nomark _)) (sw_and1 (st_cmp (om_inD hu) (se_ix (om_ixD hu) (sv 0) (sv 2) (fun _ _ => rfl)) se_str rfl)))) (sss_one (ss_set (i := 2) sc_law_at.nd rfl (Or.inl rfl) (se_op om_add (sv 2) se_int)))) (sss_cons (ss_if (SWt.pt (sw_or (st_cmp (om_ne hu) (se_ix (om_ixD hu) (sv 0) (sv 1) (fun _ _ => rfl)) se_str (nomark _)) (sw_or (st_not (st_chain om_le om_le se_int (se_op om_sub (se_op om_sub (sv 2) (sv 1)) se_int) se_int)) (sw_or1 (st_cmp (om_ne hu) (se_slice om_sl (sv 0) (so_some (sv 2)) (so_some (se_op om_add (sv 2) se_int))) se_str (nomark _)))))) (sss_one (ss_ret se_non)) sss_nil) (sss_cons (ss_set (i := 3) sc_law_at.nd rfl (Or.inl rfl) (se_call G__law_number (by exact hr.mono (by decide)) hgd (bn__law_number_2 F__law_number) tk gl__law_number F__law_number.kp (by rfl) rfl (sa_cons (sv 0) (sa_cons (se_op om_add (sv 2) se_int) sa_nil)) (len_cons (len_cons len_nil)))) (sss_cons (ss_set (i := 4) sc_law_at.nd rfl (Or.inl rfl) (se_if (SWt.pt (sw_or (st_cmp om_is (sv 3) se_non (nomark _)) (sw_or1 (st_cmp (om_eq hu) (se_ix (om_ixD hu) (sv 3) se_int (fun _ _ => rfl)) se_int (nomark _))))) se_non (se_call G__law_number (by exact hr.mono (by decide)) hgd (bn__law_number_2 F__law_number) tk gl__law_number F__law_number.kp (by rfl) rfl (sa_cons (sv 0) (sa_cons (se_ix (om_ixD hu) (sv 3) se_int (fun _ _ => rfl)) sa_nil)) (len_cons (len_cons len_nil))))) (sss_cons (ss_set (i := 5) sc_law_at.nd rfl (Or.inl rfl) (se_if (st_cmp om_is (sv 4) se_non (nomark _)) se_non (se_call G__law_number (by exact hr.mono (by decide)) hgd (bn__law_number_2 F__law_number) tk gl__law_number F__law_number.kp (by rfl) rfl (sa_cons (sv 0) (sa_cons (se_ix (om_ixD hu) (sv 4) se_int (fun _ _ => rfl)) sa_nil)) (len_cons (len_cons len_nil))))) (sss_cons (ss_if (st_cmp om_is (sv 5) se_non (nomark _)) (sss_one (ss_ret se_non)) sss_nil) (sss_cons (ss_set (i := 6) sc_law_at.nd rfl (Or.inl rfl) (se_ix (om_ixD hu) (sv 5) se_int (fun _ _ => rfl))) (sss_cons (ss_set (i := 7) sc_law_at.nd rfl (Or.inl rfl) (se_slice om_sl (sv 0) (so_some (sv 6)) (so_some (se_op om_add (sv 6) (se_ix (om_ixD hu) (sv 4) se_int (fun _ _ => rfl)))))) (sss_cons (ss_if (SWt.pt (sw_or (st_cmp om_lt (se_callB1 cm_lenD m_len (by decide +kernel) (by rfl) (sv 7)) (se_ix (om_ixD hu) (sv 4) se_int (fun _ _ => rfl)) (nomark _)) (sw_or (st_cmp om_gt (se_callB1 cm_lenD m_len (by decide +kernel) (by rfl) (sv 7)) se_int (nomark _)) (sw_or1 (st_cmp (om_ne hu) (se_slice om_sl (sv 0) (so_some (se_op om_add (sv 6) (se_ix (om_ixD hu) (sv 4) se_int (fun _ _ => rfl)))) (so_some (se_op om_add (se_op om_add (sv 6) (se_ix (om_ixD hu) (sv 4) se_int (fun _ _ => rfl))) se_int))) se_str (nomark _)))))) (sss_one (ss_ret se_non)) sss_nil) (sss_cons (ss_if (SWt.pt (sw_or (st_cmp (om_ne hu) (se_lc (own := [("_law_sign", 8)]) rfl sc_law_at.nd (si_seq (sv 7)) (blkOk_by (own := [("_law_sign", 8)]) (N := n_law_at) (sc := (defScope s_law_at)) (by decide +kernel)) (fun _ _ _ _ _ => by exact (sg_name (i := 8) sc_law_at.nd rfl (Or.inl rfl) (by decide))) (fun _ _ _ _ _ => by exact (spts_one (SWt.pt (sw_or (st_cmp (om_inD hu) (sv 8) se_str rfl) (sw_or1 (st_not (st_chain om_le om_le se_str (sv 8) se_str))))))) (fun _ _ _ _ _ => by exact (sv 8))) (se_lst sa_nil len_nil) (nomark _)) (sw_or1 (st_cmp (om_ne hu) (se_call G__law_sum (by exact hr.mono (by decide)) hgd (bn__law_sum_1 F__law_sum) tk gl__law_sum F__law_sum.kp (by rfl) rfl (sa_cons (sv 7) sa_nil) (len_cons len_nil)) (se_ix (om_ixD hu) (sv 5) se_int (fun _ _ => rfl)) (nomark _))))) (sss_one (ss_ret se_non)) sss_nil) (sss_one (ss_ret (se_lst (sa_cons (se_tup (sa_cons (se_slice om_sl (sv 0) (so_some (se_op om_add (sv 1) se_int)) (so_some (sv 2))) (sa_cons (se_ix (om_ixD hu) (sv 3) se_int (fun _ _ => rfl)) sa_nil)) (len_cons (len_cons len_nil))) (sa_cons (sv 7) (sa_cons (se_op om_add (se_op om_add (sv 6) (se_ix (om_ixD hu) (sv 4) se_int (fun _ _ => rfl))) se_int) sa_nil))) (len_cons (len_cons (len_cons len_nil)))))))))))))))))
theorem sc_law_due : FnScope n_law_due p_law_due (defScope s_law_due) := ⟨rfl, rfl, rfl, by decide +kernel, rfl, by decide +kernel, by decide +kernel⟩
noncomputable def l__law_due_0 : MSt :=
  (sSeq (sAsg 4 (eCall (gb [.p 0, .p 1] [] []) c__law_at (aCons (eVar 0) (aCons (eVar 3) aNil)) aNil)) (sIf (tB (eBin isM (eVar 4) (eC .non))) (sAsg 3 (eBin addM (eVar 3) (eC (.int 1)))) (sSeq (sIf (tB (eBin notInD (eBin ixD (eVar 4) (eC (.int 0))) (eVar 2))) (sSeq (sDrop (eLM appM (eVar 2) (aCons (eBin ixD (eVar 4) (eC (.int 0))) aNil))) (sDrop (eLM appM (eVar 1) (aCons (eTup (aCons (eVar 3) (aCons (eBin ixD (eVar 4) (eC (.int 0))) (aCons (eBin ixD (eVar 4) (eC (.int 1))) aNil)))) aNil)))) sNil) (sAsg 3 (eBin ixD (eVar 4) (eC (.int 2)))))))
noncomputable def b__law_due : MSt :=
  (sSeq (sAsg 1 (eLst aNil)) (sSeq (sAsg 2 (eLst aNil)) (sSeq (sAsg 3 (eC (.int 0))) (sSeq (sWhile (tB (eBin ltM (eVar 3) (eCB1 lenD (eVar 0)))) l__law_due_0 100000) (sRet (eVar 1))))))
noncomputable def c__law_due : MF := fnCode 5 b__law_due
theorem ok__law_due (T : Tp K mg) {f : Addr} {fd : FuncData} (F : FunD K "_law_due" "_law_due" (defArgs s_law_due) (defBody s_law_due) (defScope s_law_due) [] [] f fd) : FnM P TheW.w K mg base 3 f fd p_law_due c__law_due := by
  obtain ⟨h0, KX, G0, c, c0⟩ := T.says
  have m_len := He.free_ok KX G0 (c.fact 1 (f := .free "len") rfl)
  obtain ⟨fd__law_at, F__law_at⟩ := c.def_ 14 (d := d_law_at) rfl
  have G__law_at := ok__law_at (P := P) (base := base) T F__law_at
  have gl__law_at := He.glo_ok KX G0 (c.fact 25 (f := .glo "_law_at") rfl)
  refine fnM_of F sc_law_due fun cdv A outer s H E hr hgd => ?_
  have hu := hr.units
  have tk := takes_of (X := cxOf (L2.CX P TheW.w) P TheW.w K mg base n_law_due "_law_due" (defScope s_law_due) f cdv A outer s H E) rfl rfl rfl rfl
  have hp := passes_of (X := cxOf (L2.CX P TheW.w) P TheW.w K mg base n_law_due "_law_due" (defScope s_law_due) f cdv A outer s H E) rfl
  exact (sss_cons (ss_set (i := 1) sc_law_due.nd rfl (Or.inl rfl) (se_lst sa_nil len_nil)) (sss_cons (ss_set (i := 2) sc_law_due.nd rfl (Or.inl rfl) (se_lst sa_nil len_nil)) (sss_cons (ss_set (i := 3) sc_law_due.nd rfl (Or.inl rfl) se_int) (sss_cons (ss_while hp (st_cmp om_lt (sv 3) (se_callB1 cm_lenD m_len (by decide +kernel) (by rfl) (sv 0)) (nomark _)) (sss_cons (ss_set (i := 4) sc_law_due.nd rfl (Or.inl rfl) (se_call G__law_at (by exact hr.mono (by decide)) hgd (bn__law_at_2 F__law_at) tk gl__law_at F__law_at.kp (by rfl) rfl (sa_cons (sv 0) (sa_cons (sv 3) sa_nil)) (len_cons (len_cons len_nil)))) (sss_one (ss_if (st_cmp om_is (sv 4) se_non (nomark _)) (sss_one (ss_set (i := 3) sc_law_due.nd rfl (Or.inl rfl) (se_op om_add (sv 3) se_int))) (sss_cons (ss_if (st_cmp (om_notInD hu) (se_ix (om_ixD hu) (sv 4) se_int (fun _ _ => rfl)) (sv 2) rfl) (sss_cons (ss_expr (se_lm PySem.F.slot_list_append PySem.F.type_list_append mm_append (sv 2) (sa_cons (se_ix (om_ixD hu) (sv 4) se_int (fun _ _ => rfl)) sa_nil))) (sss_one (ss_expr (se_lm PySem.F.slot_list_append PySem.F.type_list_append mm_append (sv 1) (sa_cons (se_tup (sa_cons (sv 3) (sa_cons (se_ix (om_ixD hu) (sv 4) se_int (fun _ _ => rfl)) (sa_cons (se_ix (om_ixD hu) (sv 4) se_int (fun _ _ => rfl)) sa_nil))) (len_cons (len_cons (len_cons len_nil)))) sa_nil))))) sss_nil) (sss_one (ss_set (i := 3) sc_law_due.nd rfl (Or.inl rfl) (se_ix (om_ixD hu) (sv 4) se_int (fun _ _ => rfl))))))))) (sss_one (ss_ret (sv 1)))))))
theorem sc_law_line : FnScope n_law_line p_law_line (defScope s_law_line) := ⟨rfl, rfl, rfl, by decide +kernel, rfl, by decide +kernel, by decide +kernel⟩
noncomputable def b__law_line : MSt :=
  (sSeq (sAsg 2 (eC (.str " !\"#0123456789:;=?@AZ[]az{|}.,"))) (sRet (eM1 joinM (eC (.str "")) (eComp (iR1 (aCons (eVar 1) aNil)) (gN 3) tYesM (eBin ixD (eVar 2) (eCall (gb [.p 0, .p 1] [] []) c__law_take (aCons (eVar 0) (aCons (eCB1 lenD (eVar 2)) aNil)) aNil)) [3]))))
noncomputable def c__law_line : MF := fnCode 4 b__law_line
theorem ok__law_line (T : Tp K mg) {f : Addr} {fd : FuncData} (F : FunD K "_law_line" "_law_line" (defArgs s_law_line) (defBody s_law_line) (defScope s_law_line) [] [] f fd) : FnM P TheW.w K mg base 2 f fd p_law_line c__law_line := by
  obtain ⟨h0, KX, G0, c, c0⟩ := T.says
  have m_range := He.free_ok KX G0 (c.fact 22 (f := .free "range") rfl)
  obtain ⟨fd__law_take, F__law_take⟩ := c.def_ 0 (d := d_law_take) rfl
  have G__law_take := ok__law_take (P := P) (base := base) T F__law_take
  have gl__law_take := He.glo_ok KX G0 (c.fact 0 (f := .glo "_law_take") rfl)
  have m_len := He.free_ok KX G0 (c.fact 1 (f := .free "len") rfl)
  refine fnM_of F sc_law_line fun cdv A outer s H E hr hgd => ?_
  have hu := hr.units
  have tk := takes_of (X := cxOf (L2.CX P TheW.w) P TheW.w K mg base n_law_line "_law_line" (defScope s_law_line) f cdv A outer s H E) rfl rfl rfl rfl
  have hp := passes_of (X := cxOf (L2.CX P TheW.w) P TheW.w K mg base n_law_line "_law_line" (defScope s_law_line) f cdv A outer s H E) rfl
  exact (sss_cons (ss_set (i := 2) sc_law_line.nd rfl (Or.inr rfl) se_str) (sss_one (ss_ret (se_m1 PySem.F.slot_str_join PySem.F.type_str_join mm_join se_str (se_lc (own := [("_law_turn", 3)]) rfl sc_law_line.nd (si_range1 m_range (by rfl) (sa_cons (sv 1) sa_nil)) (blkOk_by (own := [("_law_turn", 3)]) (N := n_law_line) (sc := (defScope s_law_line)) (by decide +kernel)) (fun _ _ _ _ _ => by exact (sg_name (i := 3) sc_law_line.nd rfl (Or.inl rfl) (by decide))) (fun _ _ _ _ _ => by exact spts_nil) (fun _ _ _ _ _ => by exact (se_ix (om_ixD hu) (sv 2) (se_call G__law_take (by exact hr.mono (by decide)) hgd (bn__law_take_2 F__law_take) takes0 gl__law_take F__law_take.kp (by rfl) rfl (sa_cons (sv 0) (sa_cons (se_callB1 cm_lenD m_len (by decide +kernel) (by rfl) (sv 2)) sa_nil)) (len_cons (len_cons len_nil))) (fun _ _ => rfl))))))))
theorem sc_law_piece : FnScope n_law_piece p_law_piece (defScope s_law_piece) := ⟨rfl, rfl, rfl, by decide +kernel, rfl, by decide +kernel, by decide +kernel⟩
noncomputable def b__law_piece : MSt :=
  (sSeq (sAsg 1 (eTup (aCons (eBin ixD (eLst (aCons (eC (.str "a")) (aCons (eC (.str "bob")) (aCons (eC (.str "zzzzzzzz")) aNil)))) (eCall (gb [.p 0, .p 1] [] []) c__law_take (aCons (eVar 0) (aCons (eC (.int 3)) aNil)) aNil)) (aCons (eBin addM (eC (.int 1)) (eCall (gb [.p 0, .p 1] [] []) c__law_take (aCons (eVar 0) (aCons (eC (.int 4)) aNil)) aNil)) aNil)))) (sSeq (sAsg 2 (eCall (gb [.p 0, .p 1] [] []) c__law_frame (aCons (eVar 1) (aCons (eRepl0 ">" "" (eRepl0 "<" "" (eCall (gb [.p 0, .p 1] [] []) c__law_line (aCons (eVar 0) (aCons (eCall (gb [.p 0, .p 1] [] []) c__law_take (aCons (eVar 0) (aCons (eC (.int 9)) aNil)) aNil) aNil)) aNil))) aNil)) aNil)) (sSeq (sAsg 3 (eLst (aCons (eVar 2) (aCons (eVar 2) (aCons (eVar 2) (aCons (eBin mulM (eC (.str "~")) (eCall (gb [.p 0, .p 1] [] []) c__law_take (aCons (eVar 0) (aCons (eC (.int 9)) aNil)) aNil)) (aCons (eCall (gb [.p 0, .p 1] [] []) c__law_line (aCons (eVar 0) (aCons (eC (.int 3)) aNil)) aNil) (aCons (eSl slM (eVar 2) oNo (oSo (eCall (gb [.p 0, .p 1] [] []) c__law_take (aCons (eVar 0) (aCons (eCB1 lenD (eVar 2)) aNil)) aNil))) aNil)))))))) (sRet (eBin ixD (eBin addM (eVar 3) (eLst (aCons (eRepl1 " " "  " (eVar 2)) (aCons (eBin addM (eC (.str "<")) (eVar 2)) aNil)))) (eCall (gb [.p 0, .p 1] [] []) c__law_take (aCons (eVar 0) (aCons (eC (.int 8)) aNil)) aNil))))))
noncomputable def c__law_piece : MF := fnCode 4 b__law_piece
theorem ok__law_piece (T : Tp K mg) {f : Addr} {fd : FuncData} (F : FunD K "_law_piece" "_law_piece" (defArgs s_law_piece) (defBody s_law_piece) (defScope s_law_piece) [] [] f fd) : FnM P TheW.w K mg base 3 f fd p_law_piece c__law_piece := by
  obtain ⟨h0, KX, G0, c, c0⟩ := T.says
  obtain ⟨fd__law_take, F__law_take⟩ := c.def_ 0 (d := d_law_take) rfl
  have G__law_take := ok__law_take (P := P) (base := base) T F__law_take
  have gl__law_take := He.glo_ok KX G0 (c.fact 0 (f := .glo "_law_take") rfl)
  have m_len := He.free_ok KX G0 (c.fact 1 (f := .free "len") rfl)
  obtain ⟨fd__law_line, F__law_line⟩ := c.def_ 16 (d := d_law_line) rfl
  have G__law_line := ok__law_line (P := P) (base := base) T F__law_line
  have gl__law_line := He.glo_ok KX G0 (c.fact 26 (f := .glo "_law_line") rfl)
  obtain ⟨fd__law_frame, F__law_frame⟩ := c.def_ 11 (d := d_law_frame) rfl
  have G__law_frame := ok__law_frame (P := P) (base := base) T F__law_frame
  have gl__law_frame := He.glo_ok KX G0 (c.fact 27 (f := .glo "_law_frame") rfl)
  refine fnM_of F sc_law_piece fun cdv A outer s H E hr hgd => ?_
  have hu := hr.units
  have tk := takes_of (X := cxOf (L2.CX P TheW.w) P TheW.w K mg base n_law_piece "_law_piece" (defScope s_law_piece) f cdv A outer s H E) rfl rfl rfl rfl
  have hp := passes_of (X := cxOf (L2.CX P TheW.w) P TheW.w K mg base n_law_piece "_law_piece" (defScope s_law_piece) f cdv A outer s H E) rfl
  exact (sss_cons (ss_set (i := 1) sc_law_piece.nd rfl (Or.inl rfl) (se_tup (sa_cons (se_ix (om_ixD hu) (se_lst (sa_cons se_str (sa_cons se_str (sa_cons se_str sa_nil))) (len_cons (len_cons (len_cons len_nil)))) (se_call G__law_take (by exact hr.mono (by decide)) hgd (bn__law_take_2 F__law_take) tk gl__law_take F__law_take.kp (by rfl) rfl (sa_cons (sv 0) (sa_cons se_int sa_nil)) (len_cons (len_cons len_nil))) (fun _ _ => rfl)) (sa_cons (se_op om_add se_int (se_call G__law_take (by exact hr.mono (by decide)) hgd (bn__law_take_2 F__law_take) tk gl__law_take F__law_take.kp (by rfl) rfl (sa_cons (sv 0) (sa_cons se_int sa_nil)) (len_cons (len_cons len_nil)))) sa_nil)) (len_cons (len_cons len_nil)))) (sss_cons (ss_set (i := 2) sc_law_piece.nd rfl (Or.inl rfl) (se_call G__law_frame (by exact hr.mono (by decide)) hgd (bn__law_frame_2 F__law_frame) tk gl__law_frame F__law_frame.kp (by rfl) rfl (sa_cons (sv 1) (sa_cons (se_repl0 (se_repl0 (se_call G__law_line (by exact hr.mono (by decide)) hgd (bn__law_line_2 F__law_line) tk gl__law_line F__law_line.kp (by rfl) rfl (sa_cons (sv 0) (sa_cons (se_call G__law_take (by exact hr.mono (by decide)) hgd (bn__law_take_2 F__law_take) tk gl__law_take F__law_take.kp (by rfl) rfl (sa_cons (sv 0) (sa_cons se_int sa_nil)) (len_cons (len_cons len_nil))) sa_nil)) (len_cons (len_cons len_nil))))) sa_nil)) (len_cons (len_cons len_nil)))) (sss_tok (i := 3) sc_law_piece.nd rfl (Or.inl rfl) (se1_lst (sa1_tail (sv 2) (sa1_tail (sv 2) (sa1_tail (sv 2) (sa1_head (se1_op om_mul se1_str (se_call G__law_take (by exact hr.mono (by decide)) hgd (bn__law_take_2 F__law_take) tk gl__law_take F__law_take.kp (by rfl) rfl (sa_cons (sv 0) (sa_cons se_int sa_nil)) (len_cons (len_cons len_nil)))) (sa_cons (se_call G__law_line (by exact hr.mono (by decide)) hgd (bn__law_line_2 F__law_line) tk gl__law_line F__law_line.kp (by rfl) rfl (sa_cons (sv 0) (sa_cons se_int sa_nil)) (len_cons (len_cons len_nil))) (sa_cons (se_slice om_sl (sv 2) so_none (so_some (se_call G__law_take (by exact hr.mono (by decide)) hgd (bn__law_take_2 F__law_take) tk gl__law_take F__law_take.kp (by rfl) rfl (sa_cons (sv 0) (sa_cons (se_callB1 cm_lenD m_len (by decide +kernel) (by rfl) (sv 2)) sa_nil)) (len_cons (len_cons len_nil))))) sa_nil)))))) (len_cons (len_cons (len_cons (len_cons (len_cons (len_cons len_nil))))))) (set_ix (om_ixD hu) (set_op om_add (SET.of (sv 3)) (set_lst (sat_cons (set_repl1 (sv 2)) (sat_cons (set_op om_add (SET.of se_str) (SET.of (sv 2))) sat_nil)) (len_cons (len_cons len_nil)))) (se_call G__law_take (by exact hr.mono (by decide)) hgd (bn__law_take_2 F__law_take) tk gl__law_take F__law_take.kp (by rfl) rfl (sa_cons (sv 0) (sa_cons se_int sa_nil)) (len_cons (len_cons len_nil))) (fun _ _ => rfl)))))
theorem sclaw : FnScope nlaw plaw (defScope slaw) := ⟨rfl, rfl, rfl, by decide +kernel, rfl, by decide +kernel, by decide +kernel⟩
noncomputable def l_law_0 : MSt :=
  (sSeq (sAsg 7 (eCall (gb [.p 0] [] []) c_records_in (aCons (eVar 5) aNil) aNil)) (sSeq (sIf (tB (eBin neM (eCB1 reprM (eVar 7)) (eCB1 reprM (eCall (gb [.p 0] [] []) c__law_due (aCons (eVar 5) aNil) aNil)))) (sRet (eC (.bl false))) sNil) (sDrop (eLM appM (eVar 7) (aCons (eC .non) aNil)))))
noncomputable def l_law_1 : MSt :=
  (sFor (iR1 (aCons (eC (.int 2)) aNil)) (gN 4) l_law_0)
noncomputable def l_law_2 : MSt :=
  (sSeq (sAsg 3 (eCall (gb [.p 0, .p 1] [] []) c__law_room (aCons (eVar 0) (aCons (eVar 2) aNil)) aNil)) (sSeq (sAsg 5 (eM1 joinM (eC (.str "")) (eComp (iR1 (aCons (eCall (gb [.p 0, .p 1] [] []) c__law_take (aCons (eVar 3) (aCons (eC (.int 8)) aNil)) aNil) aNil)) (gN 4) tYesM (eCall (gb [.p 0] [] []) c__law_piece (aCons (eVar 3) aNil) aNil) [4]))) (sSeq (sAsg 6 (eCall (gb [.p 0, .p 1] [] []) c__law_bent (aCons (eVar 3) (aCons (eVar 5) aNil)) aNil)) (sAsg 1 (eBin addM (eVar 1) (eLst (aCons (eVar 5) (aCons (eVar 6) (aCons (eCall (gb [.p 0, .p 1] [] []) c__law_bent (aCons (eVar 3) (aCons (eVar 6) aNil)) aNil) (aCons (eCall (gb [.p 0, .p 1] [] []) c__law_bent (aCons (eVar 3) (aCons (eCall (gb [.p 0, .p 1] [] []) c__law_bent (aCons (eVar 3) (aCons (eVar 6) aNil)) aNil) aNil)) aNil) aNil))))))))))
noncomputable def b_law : MSt :=
  (sSeq (sAsg 1 (eLst (aCons (eC (.str "")) (aCons (eC (.str "<")) (aCons (eC (.str "<a.1 0 0 >")) (aCons (eC (.str "<a.0 0 0 >")) (aCons (eC (.str "<a.01 0 0 >")) (aCons (eC (.str "<a.1 00 0 >")) (aCons (eC (.str "<a.1 0 00 >")) (aCons (eC (.str "<a.1 0 0>")) (aCons (eC (.str "<A.1 0 0 >")) aNil))))))))))) (sSeq (sAsg 1 (eBin addM (eVar 1) (eLst (aCons (eC (.str "<a.1 1 65 A><a.1 1 66 B>")) (aCons (eC (.str "<a.1 1 66 A>")) (aCons (eC (.str "<<a.1 1 65 A>>")) (aCons (eC (.str "<a.1 12 0 <b.1 1 65 A>")) aNil))))))) (sSeq (sAsg 1 (eBin addM (eVar 1) (eLst (aCons (eC (.str "<abcdefghi.1 0 0 >")) (aCons (eCall (gb [.p 0, .p 1] [] []) c__law_frame (aCons (eTup (aCons (eC (.str "a")) (aCons (eC (.int 1)) aNil))) (aCons (eBin mulM (eC (.str "x")) (eC (.int 60))) aNil)) aNil) (aCons (eC (.str "<a.1000000000000 0 0 >")) (aCons (eC (.str "<a.1 0 9973 >")) aNil))))))) (sSeq (sDrop (eLM appM (eVar 1) (aCons (eBin addM (eBin addM (eC (.str "<a.1 61 0 ")) (eBin mulM (eC (.str "x")) (eC (.int 61)))) (eC (.str ">"))) aNil))) (sSeq (sFor (iR1 (aCons (eCB max2M (aCons (eC (.int 1)) (aCons (eCB min2M (aCons (eCB1 lenD (eVar 0)) (aCons (eC (.int 20)) aNil))) aNil))) aNil)) (gN 2) l_law_2) (sSeq (sFor (iSeq (eVar 1)) (gN 5) l_law_1) (sRet (eBin eqM (eCall (gb [.k 0] [] []) c_records_in aNil (aCons (eC (.str "<a.1 0 0 >")) aNil)) (eLst (aCons (eTup (aCons (eC (.int 0)) (aCons (eTup (aCons (eC (.str "a")) (aCons (eC (.int 1)) aNil))) (aCons (eC (.str "")) aNil)))) aNil))))))))))
noncomputable def c_law : MF := fnCode 8 b_law
theorem ok_law (T : Tp K mg) {f : Addr} {fd : FuncData} (F : FunD K "law" "law" (defArgs slaw) (defBody slaw) (defScope slaw) [] [] f fd) : FnM P TheW.w K mg base 6 f fd plaw c_law := by
  obtain ⟨h0, KX, G0, c, c0⟩ := T.says
  obtain ⟨fd_records_in, F_records_in⟩ := c.def_ 9 (d := drecords_in) rfl
  have G_records_in := ok_records_in (P := P) (base := base) T F_records_in
  have gl_records_in := He.glo_ok KX G0 (c.fact 28 (f := .glo "records_in") rfl)
  have m_range := He.free_ok KX G0 (c.fact 22 (f := .free "range") rfl)
  have m_repr := He.free_ok KX G0 (c.fact 29 (f := .free "repr") rfl)
  obtain ⟨fd__law_due, F__law_due⟩ := c.def_ 15 (d := d_law_due) rfl
  have G__law_due := ok__law_due (P := P) (base := base) T F__law_due
  have gl__law_due := He.glo_ok KX G0 (c.fact 30 (f := .glo "_law_due") rfl)
  have m_len := He.free_ok KX G0 (c.fact 1 (f := .free "len") rfl)
  have m_min := He.free_ok KX G0 (c.fact 31 (f := .free "min") rfl)
  have m_max := He.free_ok KX G0 (c.fact 32 (f := .free "max") rfl)
  obtain ⟨fd__law_bent, F__law_bent⟩ := c.def_ 1 (d := d_law_bent) rfl
  have G__law_bent := ok__law_bent (P := P) (base := base) T F__law_bent
  have gl__law_bent := He.glo_ok KX G0 (c.fact 33 (f := .glo "_law_bent") rfl)
  obtain ⟨fd__law_take, F__law_take⟩ := c.def_ 0 (d := d_law_take) rfl
  have G__law_take := ok__law_take (P := P) (base := base) T F__law_take
  have gl__law_take := He.glo_ok KX G0 (c.fact 0 (f := .glo "_law_take") rfl)
  obtain ⟨fd__law_piece, F__law_piece⟩ := c.def_ 17 (d := d_law_piece) rfl
  have G__law_piece := ok__law_piece (P := P) (base := base) T F__law_piece
  have gl__law_piece := He.glo_ok KX G0 (c.fact 34 (f := .glo "_law_piece") rfl)
  obtain ⟨fd__law_room, F__law_room⟩ := c.def_ 12 (d := d_law_room) rfl
  have G__law_room := ok__law_room (P := P) (base := base) T F__law_room
  have gl__law_room := He.glo_ok KX G0 (c.fact 35 (f := .glo "_law_room") rfl)
  obtain ⟨fd__law_frame, F__law_frame⟩ := c.def_ 11 (d := d_law_frame) rfl
  have G__law_frame := ok__law_frame (P := P) (base := base) T F__law_frame
  have gl__law_frame := He.glo_ok KX G0 (c.fact 27 (f := .glo "_law_frame") rfl)
  refine fnM_of F sclaw fun cdv A outer s H E hr hgd => ?_
  have hu := hr.units
  have tk := takes_of (X := cxOf (L2.CX P TheW.w) P TheW.w K mg base nlaw "law" (defScope slaw) f cdv A outer s H E) rfl rfl rfl rfl
  have hp := passes_of (X := cxOf (L2.CX P TheW.w) P TheW.w K mg base nlaw "law" (defScope slaw) f cdv A outer s H E) rfl
  exact (sss_cons (ss_set (i := 1) sclaw.nd rfl (Or.inl rfl) (se_lst (sa_cons se_str (sa_cons se_str (sa_cons se_str (sa_cons se_str (sa_cons se_str (sa_cons se_str (sa_cons se_str (sa_cons se_str (sa_cons se_str sa_nil))))))))) (len_cons (len_cons (len_cons (len_cons (len_cons (len_cons (len_cons (len_cons (len_cons len_nil))))))))))) (sss_cons (ss_set (i := 1) sclaw.nd rfl (Or.inl rfl) (se_op om_add (sv 1) (se_lst (sa_cons se_str (sa_cons se_str (sa_cons se_str (sa_cons se_str sa_nil)))) (len_cons (len_cons (len_cons (len_cons len_nil))))))) (sss_cons (ss_set (i := 1) sclaw.nd rfl (Or.inl rfl) (se_op om_add (sv 1) (se_lst (sa_cons se_str (sa_cons (se_call G__law_frame (by exact hr.mono (by decide)) hgd (bn__law_frame_2 F__law_frame) tk gl__law_frame F__law_frame.kp (by rfl) rfl (sa_cons (se_tup (sa_cons se_str (sa_cons se_int sa_nil)) (len_cons (len_cons len_nil))) (sa_cons (se_op om_mul se_str se_int) sa_nil)) (len_cons (len_cons len_nil))) (sa_cons se_str (sa_cons se_str sa_nil)))) (len_cons (len_cons (len_cons (len_cons len_nil))))))) (sss_cons (ss_expr (se_lm PySem.F.slot_list_append PySem.F.type_list_append mm_append (sv 1) (sa_cons (se_op om_add (se_op om_add se_str (se_op om_mul se_str se_int)) se_str) sa_nil))) (sss_cons (ss_for (vs := [2]) hp rfl (si_range1 m_range (by rfl) (sa_cons (se_callB (cm_max2 rfl) m_max (by decide +kernel) (by rfl) (sa_cons se_int (sa_cons (se_callB (cm_min2 rfl) m_min (by decide +kernel) (by rfl) (sa_cons (se_callB1 cm_lenD m_len (by decide +kernel) (by rfl) (sv 0)) (sa_cons se_int sa_nil))) sa_nil))) sa_nil)) (sg_name (i := 2) sclaw.nd rfl (Or.inl rfl) (by decide)) (sss_cons (ss_set (i := 3) sclaw.nd rfl (Or.inr rfl) (se_call G__law_room (by exact hr.mono (by decide)) hgd (bn__law_room_2 F__law_room) tk gl__law_room F__law_room.kp (by rfl) rfl (sa_cons (sv 0) (sa_cons (sv 2) sa_nil)) (len_cons (len_cons len_nil)))) (sss_cons (ss_set (i := 5) sclaw.nd rfl (Or.inl rfl) (se_m1 PySem.F.slot_str_join PySem.F.type_str_join mm_join se_str (se_lc (own := [("_law_turn", 4)]) rfl sclaw.nd (si_range1 m_range (by rfl) (sa_cons (se_call G__law_take (by exact hr.mono (by decide)) hgd (bn__law_take_2 F__law_take) tk gl__law_take F__law_take.kp (by rfl) rfl (sa_cons (sv 3) (sa_cons se_int sa_nil)) (len_cons (len_cons len_nil))) sa_nil)) (blkOk_by (own := [("_law_turn", 4)]) (N := nlaw) (sc := (defScope slaw)) (by decide +kernel)) (fun _ _ _ _ _ => by exact (sg_name (i := 4) sclaw.nd rfl (Or.inl rfl) (by decide))) (fun _ _ _ _ _ => by exact spts_nil) (fun _ _ _ _ _ => by exact (se_call G__law_piece (by exact hr.mono (by decide)) hgd (bn__law_piece_1 F__law_piece) takes0 gl__law_piece F__law_piece.kp (by rfl) rfl (sa_cons (sv 3) sa_nil) (len_cons len_nil)))))) (sss_cons (ss_set (i := 6) sclaw.nd rfl (Or.inl rfl) (se_call G__law_bent (by exact hr.mono (by decide)) hgd (bn__law_bent_2 F__law_bent) tk gl__law_bent F__law_bent.kp (by rfl) rfl (sa_cons (sv 3) (sa_cons (sv 5) sa_nil)) (len_cons (len_cons len_nil)))) (sss_one (ss_set (i := 1) sclaw.nd rfl (Or.inl rfl) (se_op om_add (sv 1) (se_lst (sa_cons (sv 5) (sa_cons (sv 6) (sa_cons (se_call G__law_bent (by exact hr.mono (by decide)) hgd (bn__law_bent_2 F__law_bent) tk gl__law_bent F__law_bent.kp (by rfl) rfl (sa_cons (sv 3) (sa_cons (sv 6) sa_nil)) (len_cons (len_cons len_nil))) (sa_cons (se_call G__law_bent (by exact hr.mono (by decide)) hgd (bn__law_bent_2 F__law_bent) tk gl__law_bent F__law_bent.kp (by rfl) rfl (sa_cons (sv 3) (sa_cons (se_call G__law_bent (by exact hr.mono (by decide)) hgd (bn__law_bent_2 F__law_bent) tk gl__law_bent F__law_bent.kp (by rfl) rfl (sa_cons (sv 3) (sa_cons (sv 6) sa_nil)) (len_cons (len_cons len_nil))) sa_nil)) (len_cons (len_cons len_nil))) sa_nil)))) (len_cons (len_cons (len_cons (len_cons len_nil)))))))))))) (sss_cons (ss_for (vs := [5]) hp rfl (si_seq (sv 1)) (sg_name (i := 5) sclaw.nd rfl (Or.inl rfl) (by decide)) (sss_one (ss_for (vs := [4]) hp rfl (si_range1 m_range (by rfl) (sa_cons se_int sa_nil)) (sg_name (i := 4) sclaw.nd rfl (Or.inl rfl) (by decide)) (sss_cons (ss_set (i := 7) sclaw.nd rfl (Or.inl rfl) (se_call G_records_in (by exact hr.mono (by decide)) hgd (bn_records_in_1 F_records_in) tk gl_records_in F_records_in.kp (by rfl) rfl (sa_cons (sv 5) sa_nil) (len_cons len_nil))) (sss_cons (ss_if (st_cmp (om_ne hu) (se_callB1 (cm_repr hu hgd) m_repr (by decide +kernel) (by rfl) (sv 7)) (se_callB1 (cm_repr hu hgd) m_repr (by decide +kernel) (by rfl) (se_call G__law_due (by exact hr.mono (by decide)) hgd (bn__law_due_1 F__law_due) tk gl__law_due F__law_due.kp (by rfl) rfl (sa_cons (sv 5) sa_nil) (len_cons len_nil))) (nomark _)) (sss_one (ss_ret se_bl)) sss_nil) (sss_one (ss_expr (se_lm PySem.F.slot_list_append PySem.F.type_list_append mm_append (sv 7) (sa_cons se_non sa_nil))))))))) (sss_one (ss_ret (se_cmp (om_eq hu) (se_callK0 G_records_in (by exact hr.mono (by decide)) hgd (bn_records_in_0_text F_records_in) tk gl_records_in F_records_in.kp (by rfl) rfl (sk_cons se_str sk_nil) (len_cons len_nil) rfl) (se_lst (sa_cons (se_tup (sa_cons se_int (sa_cons (se_tup (sa_cons se_str (sa_cons se_int sa_nil)) (len_cons (len_cons len_nil))) (sa_cons se_str sa_nil))) (len_cons (len_cons (len_cons len_nil)))) sa_nil) (len_cons len_nil)) (nomark _))))))))))
end
end My

set_option maxHeartbeats 400000
namespace My
open PySem PySem.Spec PyProof.Rows L2 Mi
variable [TheW]
/-! ### drawing -/
theorem take_at {h : MH} {r : Nat} {m : Int} (p : Rm h r) (h0 : 0 < m) (h1 : m ≤ 1000000) : ∃ v h', c__law_take [.ref r, .int m] h = .ok (.int v) h' ∧ 0 ≤ v ∧ v < m ∧ Rm h' r ∧ Fr r h h' ∧ h'.length = h.length := by
  obtain ⟨a, b, e⟩ := p
  have hr : r < h.length := (List.getElem?_eq_some_iff.mp e).1
  have gs : ∀ {o : MO}, (h.set r o)[r]? = some o := fun {o} => by simp [hr]
  have hm : m ≠ 0 := by omega
  have hn : m.natAbs < 1073741824 := by omega
  have p6 : ∀ {g : MH}, powM (.int 10) (.int 6) g = .ok (.int 1000000) g := fun {g} => rfl
  have hb : ¬ 1000000 < m := by omega
  by_cases ha : 0 < a
  · refine ⟨a.fmod m, h.set r (.lst [.int (a.fdiv m), .int b]), ?_, fmod_nn h0, fmod_lt h0, ⟨_, _, gs⟩, Fr.set, by simp⟩
    simp [c__law_take, b__law_take, ixD_lst e, ix0 e, ha, mod_at hm, fdiv_at hm hn, sSubDK_lst e, set0 e]
  · have hs : ∀ (b1 : Int), (b * 48271 + 39373).fmod 2147483647 = b1 → 0 ≤ b1 → b1 < 2147483647 → ∃ v h', c__law_take [.ref r, .int m] h = .ok (.int v) h' ∧ 0 ≤ v ∧ v < m ∧ Rm h' r ∧ Fr r h h' ∧ h'.length = h.length := fun b1 eb c1 c2 => by
      have e1 : (h.set r (.lst [.int a, .int b1]))[r]? = some (.lst [.int a, .int b1]) := gs
      have q1 : mulM (.int b1) (.int b1) (h.set r (.lst [.int a, .int b1])) = .ok (.int (b1 * b1)) (h.set r (.lst [.int a, .int b1])) := mul_r (by omega) (by omega)
      have q2 : ∀ {y : Int} {g : MH}, mulM (.int y) (.int 48271) g = .ok (.int (y * 48271)) g := fun {y g} => mul_r (by decide) (by decide)
      have m1 : ∀ {y : Int} {g : MH}, modM (.int y) (.int 2147483647) g = .ok (.int (y.fmod 2147483647)) g := fun {y g} => mod_at (by decide)
      have m2 : ∀ {y : Int} {g : MH}, modM (.int y) (.int 2147483629) g = .ok (.int (y.fmod 2147483629)) g := fun {y g} => mod_at (by decide)
      have d1 : ∀ {y : Int} {g : MH}, fdivM (.int y) (.int 16) g = .ok (.int (y.fdiv 16)) g := fun {y g} => fdiv_at (by decide) (by decide)
      refine ⟨_, h.set r (.lst [.int a, .int b1]), ?_, fmod_nn (a := (b1 * b1).fmod 2147483629 |>.fdiv 16) h0, fmod_lt h0, ⟨_, _, e1⟩, Fr.set, by simp⟩
      simp [c__law_take, b__law_take, ixD_lst e, ix0 e, ix1 e, ixD_lst e1, ix1 e1, ha, m1, m2, d1, q1, q2, mod_at hm, sSubDK_lst e, set1 e, eb, p6, hb]
    exact hs _ rfl (fmod_nn (by decide)) (fmod_lt (by decide))
theorem room_at {h : MH} {ns : List Int} {k : Nat} (hk : k ≤ 1000) : ∃ a b : Int, c__law_room [.con (ns.map MV.int), .int k] h = .ok (.tmp [.int a, .int b]) h := by
  have p18 : powM (.int 10) (.int 18) h = .ok (.int 1000000000000000000) h := rfl
  have le : lenD (.con (ns.map MV.int)) h = .ok (.int ns.length) h := by simp [lenM, asL]
  have m0 : ∀ {x : Int}, modM (.int x) (.int 2147483629) h = .ok (.int (x.fmod 2147483629)) h := fun {x} => mod_at (by decide)
  have m1 : ∀ {x : Int}, modM (.int x) (.int 2147483647) h = .ok (.int (x.fmod 2147483647)) h := fun {x} => mod_at (by decide)
  have u1 : ∀ {x : Int}, mulM (.int x) (.int 48271) h = .ok (.int (x * 48271)) h := fun {x} => mul_r (by decide) (by decide)
  have u2 : ∀ {x : Int}, mulM (.int x) (.int (k : Int)) h = .ok (.int (x * k)) h := fun {x} => mul_r (by omega) (by omega)
  by_cases hl : k < ns.length
  · have hl' : (k : Int) < ns.length := by omega
    have ix : ixM (.con (ns.map MV.int)) (.int k) h = .ok (.int ns[k]) h := by
      have : atI (ns.map MV.int) (k : Int) = some (.int ns[k]) := by
        unfold atI L2.ixN
        rw [if_pos (by omega), if_pos (by simpa using hl')]
        simp [hl]
      simp [ixM, asL, this]
    by_cases hc : 1000000000000000000 ≤ ns[k]
    · exact ⟨_, _, by simp [c__law_room, b__law_room, ltM, le, hl, hl', ix, geM, p18, hc, m0, m1, u1, u2]; exact ⟨rfl, rfl⟩⟩
    · exact ⟨_, _, by simp [c__law_room, b__law_room, ltM, le, hl, hl', ix, geM, p18, hc, m0, m1, u1, u2]; exact ⟨rfl, rfl⟩⟩
  · have hl' : ¬ (k : Int) < ns.length := by omega
    exact ⟨_, _, by simp [c__law_room, b__law_room, ltM, le, hl, hl', geM, p18, m0, m1, u1, u2]; exact ⟨rfl, rfl⟩⟩
/-! ### texts drawn -/
abbrev sgn : Str := " !\"#0123456789:;=?@AZ[]az{|}.,"
theorem len30 : sgn.length = 30 := by decide +kernel
theorem lenD30 {h : MH} : lenM (.str sgn) h = .ok (.int 30) h := by
  have e : sgn.length ≤ sizeLine := by rw [len30]; decide
  simp only [lenM, if_pos e, len30]
  rfl
def noAng (c : Nat) : Prop := c ≠ 60 ∧ c ≠ 62
theorem ix_sgn {v : Int} {h : MH} (a : 0 ≤ v) (b : v < 30) : ∃ c, ixM (.str sgn) (.int v) h = .ok (.str (st [c])) h ∧ noAng c := by
  obtain ⟨c, e, m⟩ := atI_nn (xs := sgn.cps.toList) a (by rw [← cps_len, len30]; exact b)
  refine ⟨c, ?_, ?_⟩
  · have le : sgn.length ≤ sizeLine := by rw [len30]; decide
    unfold ixM
    simp only [if_pos le, e]
    rfl
  · have q : sgn.cps.toList.all (fun c => decide (c ≠ 60) && decide (c ≠ 62)) = true := by decide +kernel
    have := List.all_eq_true.mp q c m
    simpa [noAng] using this
theorem line_at {h : MH} {r n : Nat} (p : Rm h r) (hn : n ≤ 20) : ∃ (l : List Nat) (h' : MH), c__law_line [.ref r, .int n] h = .ok (.str (st l)) h' ∧ l.length = n ∧ (∀ c ∈ l, noAng c) ∧ Rm h' r ∧ Fr r h h' ∧ h'.length = h.length := by
  have hu : (upInts 0 n).length = n := by simp [upInts]
  obtain ⟨ys, h2, e3, ⟨q1, q2, q3, l, rfl, hl⟩, len⟩ := compL_inv (st := fun _ => true) (g := gN 3) (tt := tYesM) (te := eBin ixD (eVar 2) (eCall (gb [.p 0, .p 1] [] []) c__law_take (aCons (eVar 0) (aCons (eCB1 lenD (eVar 2)) aNil)) aNil)) (σ := [some (MV.ref r), some (.int n), some (.str sgn), none]) (fun _ acc h' => Rm h' r ∧ Fr r h h' ∧ h'.length = h.length ∧ ∃ l : List Nat, acc = l.map (fun c => MV.str (st [c])) ∧ ∀ c ∈ l, noAng c) (upInts 0 n) [] [] h
    (by rw [hu, sizeLine_eq]; simp; omega) ⟨p, Fr.refl, rfl, [], rfl, by simp⟩ (fun _ _ _ _ => rfl) fun done x acc g hx ⟨a1, a2, a3, l, a4, a5⟩ => by
      obtain ⟨w, g', b1, b2, b3, b4, b5, b6⟩ := take_at a1 (m := 30) (by decide) (by decide)
      obtain ⟨c, c1, c2⟩ := ix_sgn (h := g') b2 b3
      refine ⟨[some (MV.ref r), some (.int n), some (.str sgn), some x], g, g, .str (st [c]), g', rfl, rfl, ?_, b4, a2.trans b5, b6.trans a3, l ++ [c], by simp [a4], fun d hd => ?_⟩
      · generalize c__law_take = T at b1 ⊢
        simp [lenD30, b1, c1]
      · rcases List.mem_append.mp hd with q | q
        · exact a5 d q
        · cases List.mem_singleton.mp q
          exact c2
  rw [List.length_map, hu] at len
  have ll : l.length = n := by simpa using len
  have r1 : iR1K [.int (n : Int)] h = .ok ⟨upInts 0 n, fun _ => true⟩ h := iR1K_int (by omega)
  have j := join_at (l := l) (h := h2) (by omega)
  refine ⟨l, h2, ?_, ll, hl, q1, q2, q3⟩
  unfold c__law_line b__law_line
  generalize c__law_take = T at e3 ⊢
  simp [r1, e3, j]
/-! ### sums -/
def wsum : Nat → List Nat → Int
  | _, [] => 0
  | k, c :: l => (c : Int) * ((k : Int) + 1) + wsum (k + 1) l
omit [TheW] in
theorem wsum_app : ∀ {k : Nat} {a b : List Nat}, wsum k (a ++ b) = wsum k a + wsum (k + a.length) b
  | k, [], b => by simp [wsum]
  | k, c :: a, b => by
    rw [List.cons_append, wsum, wsum, wsum_app, List.length_cons, show k + 1 + a.length = k + (a.length + 1) by omega]
    omega
theorem ix_code {z : Str} {i c : Nat} {h : MH} (hz : z.length ≤ 100000) (e : z.cps.toList[i]? = some c) : ixM (.str z) (.int i) h = .ok (.str (st [c])) h := by
  have le : z.length ≤ sizeLine := sz (by omega)
  have lt := (List.getElem?_eq_some_iff.mp e).1
  have q : atI z.cps.toList (i : Int) = some c := by
    unfold atI L2.ixN
    rw [if_pos (by omega), if_pos (by omega)]
    simpa using e
  unfold ixM
  simp only [if_pos le, q]
  rfl
theorem ord_at {c : Nat} {h : MH} : ordM [.str (st [c])] h = .ok (.int c) h := rfl
theorem lsum_loop {z : Str} {h : MH} (hz : z.length ≤ 100000) : ∃ a, sForL (fun _ => true) (gN 2) l__law_sum_0 (upInts 0 z.length) [some (.str z), some (.int 0), none] h = .next [some (.str z), some (.int ((wsum 0 z.cps.toList).fmod 9973)), a] h := by
  have hl : z.length = z.cps.toList.length := cps_len z
  have go : ∀ (todo done : List Nat) (a : Option MV), z.cps.toList = done ++ todo → ∃ a', sForL (fun _ => true) (gN 2) l__law_sum_0 ((List.range' done.length todo.length).map fun i : Nat => MV.int (i : Int)) [some (.str z), some (.int ((wsum 0 done).fmod 9973)), a] h = .next [some (.str z), some (.int ((wsum 0 z.cps.toList).fmod 9973)), a'] h := by
    intro todo
    induction todo with
    | nil =>
      intro done a e
      refine ⟨a, ?_⟩
      rw [List.append_nil] at e
      simp [sForL, e]
    | cons c todo ih =>
      intro done a e
      have ec : z.cps.toList[done.length]? = some c := by rw [e]; simp
      obtain ⟨a', q⟩ := ih (done ++ [c]) (some (.int done.length)) (by rw [e]; simp)
      refine ⟨a', ?_⟩
      rw [List.length_cons, List.range'_succ, List.map_cons]
      have dl : (done ++ [c]).length = done.length + 1 := by simp
      rw [dl] at q
      have w1 : wsum 0 (done ++ [c]) = wsum 0 done + (c : Int) * ((done.length : Int) + 1) := by
        rw [wsum_app]
        simp [wsum]
      have w2 : ((wsum 0 done).fmod 9973 + (c : Int) * ((done.length : Int) + 1)).fmod 9973 = (wsum 0 (done ++ [c])).fmod 9973 := by
        rw [w1]
        simp [Int.fmod_eq_emod]
      have hd : done.length < 1000000 := by
        have := (List.getElem?_eq_some_iff.mp ec).1
        omega
      have u : mulM (.int (c : Int)) (.int ((done.length : Int) + 1)) h = .ok (.int ((c : Int) * ((done.length : Int) + 1))) h := mul_r (by omega) (by omega)
      have m : ∀ {x : Int}, modM (.int x) (.int 9973) h = .ok (.int (x.fmod 9973)) h := fun {x} => mod_at (by decide)
      have t : l__law_sum_0 [some (.str z), some (.int ((wsum 0 done).fmod 9973)), some (.int done.length)] h = .next [some (.str z), some (.int ((wsum 0 (done ++ [c])).fmod 9973)), some (.int done.length)] h := by
        unfold l__law_sum_0
        simp [ix_code hz ec, ord_at, u, m, w2]
      unfold sForL
      rw [if_pos rfl, show gN 2 (.int (done.length : Int)) [some (.str z), some (.int ((wsum 0 done).fmod 9973)), a] h = .ok [some (.str z), some (.int ((wsum 0 done).fmod 9973)), some (.int done.length)] h from rfl, Res.ok_st, t]
      exact q
  obtain ⟨a', q⟩ := go z.cps.toList [] none rfl
  refine ⟨a', ?_⟩
  have e : upInts 0 z.length = (List.range' ([] : List Nat).length z.cps.toList.length).map fun i : Nat => MV.int (i : Int) := by
    rw [← hl]
    simp [upInts, List.range_eq_range']
  rw [e]
  exact q
theorem lenS {z : Str} {h : MH} (hz : z.length ≤ 100000) : lenM (.str z) h = .ok (.int z.length) h := if_pos (sz (by omega))
theorem lsum_at {z : Str} {h : MH} (hz : z.length ≤ 100000) : c__law_sum [.str z] h = .ok (.int ((wsum 0 z.cps.toList).fmod 9973)) h := by
  obtain ⟨a, q⟩ := lsum_loop (h := h) hz
  have r1 : iR1K [.int (z.length : Int)] h = .ok ⟨upInts 0 z.length, fun _ => true⟩ h := iR1K_int (by omega)
  unfold c__law_sum b__law_sum
  generalize l__law_sum_0 = B at q ⊢
  simp [lenS hz, r1, q]
end My

set_option maxHeartbeats 400000
namespace My
open PySem PySem.Spec PyProof.Rows L2 Mi
variable [TheW]
/-! ### signs of a text -/
theorem cut_st {l : List Nat} {i : Nat} {j : Int} (hj : (i : Int) ≤ j) : cutS (st l) (some (i : Int)) (some j) = st ((l.drop i).take (j.toNat - i)) := by
  obtain ⟨k, rfl⟩ : ∃ k : Nat, j = k := ⟨j.toNat, by omega⟩
  unfold cutS
  rw [HT.sIx_nat, HT.sIx_nat, st_len, st_codes]
  show st _ = _
  congr 1
  rw [Int.toNat_natCast]
  by_cases h : i ≤ l.length
  · rw [Nat.min_eq_left h]
    by_cases h2 : k ≤ l.length
    · rw [Nat.min_eq_left h2]
    · rw [Nat.min_eq_right (by omega), List.take_of_length_le (by rw [List.length_drop]; omega), List.take_of_length_le (by rw [List.length_drop]; omega)]
  · rw [Nat.min_eq_right (by omega : l.length ≤ i), List.drop_of_length_le (Nat.le_refl _), List.drop_of_length_le (by omega), List.take_nil, List.take_nil]
theorem take1 {l : List Nat} {j : Nat} : (l.drop j).take 1 = (l[j]?).toList := by
  cases e : l[j]? with
  | none =>
    have := List.getElem?_eq_none_iff.mp e
    rw [List.drop_of_length_le this]
    rfl
  | some c =>
    obtain ⟨hj, e⟩ := List.getElem?_eq_some_iff.mp e
    rw [List.drop_eq_getElem_cons hj, e]
    rfl
section
variable {l : List Nat} {i j : Nat} {h : MH}
theorem sl_st (hz : l.length ≤ 100000) {k : Int} (hk : (i : Int) ≤ k) : slM (.str (st l)) (some (i : Int)) (some k) h = .ok (.str (st ((l.drop i).take (k.toNat - i)))) h := by
  rw [← cut_st hk]
  exact if_pos (sz (by rw [st_len]; omega))
theorem sl_one (hz : l.length ≤ 100000) : slM (.str (st l)) (some (j : Int)) (some ((j : Int) + 1)) h = .ok (.str (st (l[j]?).toList)) h := by
  rw [sl_st hz (by omega), show ((j : Int) + 1).toNat - j = 1 by omega, take1]
theorem lenL (hz : l.length ≤ 100000) : lenM (.str (st l)) h = .ok (.int l.length) h := by
  rw [lenS (by rw [st_len]; exact hz), st_len]
theorem ixL {c : Nat} (hz : l.length ≤ 100000) (e : l[i]? = some c) : ixM (.str (st l)) (.int i) h = .ok (.str (st [c])) h := ix_code (by rw [st_len]; exact hz) (by rw [st_codes]; exact e)
theorem eqS {a b : Str} : eqM (.str a) (.str b) h = .ok (.bl (decide (a = b))) h := by
  have e : PyData.eqv (.str a) (.str b) = decide (a = b) := by
    rw [Bool.eq_iff_iff]
    simp [PyData.eqv]
  have s : ∀ a, snap 30 h (.str a) = some (.str a) := fun _ => rfl
  simp only [eqM, farL, asL, s, e]
  rfl
theorem neS {a b : Str} : neM (.str a) (.str b) h = .ok (.bl (!decide (a = b))) h := by
  have e : PyData.eqv (.str a) (.str b) = decide (a = b) := by
    rw [Bool.eq_iff_iff]
    simp [PyData.eqv]
  have s : ∀ a, snap 30 h (.str a) = some (.str a) := fun _ => rfl
  simp only [neM, farL, asL, s, e]
  rfl
theorem st_eq {a b : List Nat} : (st a = st b) ↔ a = b := ⟨st_inj, fun e => by rw [e]⟩
theorem one_eq {o : Option Nat} {d : Nat} : (o.toList = [d]) ↔ o = some d := by
  cases o <;> simp
/-- the place behind all signs of a kind -/
def span (p : Nat → Bool) (l : List Nat) (i : Nat) : Nat := i + ((l.drop i).takeWhile p).length
theorem span_no {p : Nat → Bool} (hi : l.length ≤ i) : span p l i = i := by simp [span, List.drop_of_length_le hi]
theorem span_stop {p : Nat → Bool} {c : Nat} (e : l[i]? = some c) (q : p c = false) : span p l i = i := by
  obtain ⟨hi, e⟩ := List.getElem?_eq_some_iff.mp e
  simp [span, List.drop_eq_getElem_cons hi, e, q]
theorem span_go {p : Nat → Bool} {c : Nat} (e : l[i]? = some c) (q : p c = true) : span p l i = span p l (i + 1) := by
  obtain ⟨hi, e⟩ := List.getElem?_eq_some_iff.mp e
  simp [span, List.drop_eq_getElem_cons hi, e, q]
  omega
theorem span_ge {p : Nat → Bool} : i ≤ span p l i := Nat.le_add_right _ _
theorem span_le {p : Nat → Bool} (hi : i ≤ l.length) : span p l i ≤ l.length := by
  have := (List.takeWhile_sublist (l := l.drop i) p).length_le
  rw [List.length_drop] at this
  unfold span
  omega
theorem span_all {p : Nat → Bool} : ∀ c ∈ (l.drop i).take (span p l i - i), p c = true := by
  intro c hc
  have e : (l.drop i).take (span p l i - i) = (l.drop i).takeWhile p := by
    unfold span
    rw [Nat.add_sub_cancel_left]
    exact (List.prefix_iff_eq_take.mp (List.takeWhile_prefix p)).symm
  rw [e] at hc
  exact List.all_eq_true.mp List.all_takeWhile c hc
/-- a walk over signs of a kind -/
theorem walk_span {p : Nat → Bool} {T : MT} {s : MSt} {σ : Nat → MS} (ht : ∀ j c, l[j]? = some c → T (σ j) h = .ok (p c) h) (hf : ∀ j, l.length ≤ j → T (σ j) h = .ok false h) (hs : ∀ j, s (σ j) h = .next (σ (j + 1)) h) :
    ∀ (n i : Nat), l.length + 1 ≤ n + i → 1 ≤ n → sWhile T s n (σ i) h = .next (σ (span p l i)) h
  | 0, _, _, b => by omega
  | n + 1, i, a, _ => by
    unfold sWhile
    cases e : l[i]? with
    | none =>
      have hi := List.getElem?_eq_none_iff.mp e
      rw [hf i hi, span_no hi]
      rfl
    | some c =>
      have lt := (List.getElem?_eq_some_iff.mp e).1
      rw [ht i c e]
      cases q : p c with
      | false => rw [span_stop e q]; rfl
      | true =>
        show (match s (σ i) h with
          | .next σ2 h2 => sWhile T s n σ2 h2
          | .cont σ2 h2 => sWhile T s n σ2 h2
          | .brk σ2 h2 => .next σ2 h2
          | .ret v h2 => .ret v h2
          | .exc x σ2 h2 => .exc x σ2 h2
          | .stuck => .stuck) = _
        rw [hs i]
        show sWhile T s n (σ (i + 1)) h = _
        rw [walk_span ht hf hs n (i + 1) (by omega) (by omega), span_go e q]
end
abbrev digs : Str := "0123456789"
abbrev abc : Str := "abcdefghijklmnopqrstuvwxyz"
def dgt (c : Nat) : Bool := inStr (st [c]) digs
def ltr (c : Nat) : Bool := inStr (st [c]) abc
theorem dgt_iff {c : Nat} : dgt c = decide (48 ≤ c ∧ c ≤ 57) := by
  have e : digs = st [48, 49, 50, 51, 52, 53, 54, 55, 56, 57] := by decide +kernel
  unfold dgt inStr
  rw [e]
  have := SX.in_one [48, 49, 50, 51, 52, 53, 54, 55, 56, 57] c
  refine this.trans ?_
  rw [Bool.eq_iff_iff]
  simp only [List.mem_cons, List.not_mem_nil, or_false, decide_eq_true_eq]
  omega
section
variable {l : List Nat} {i j : Nat} {h : MH}
theorem inD_st {a : Str} {c : Nat} : inD (.str (st [c])) (.str a) h = .ok (.bl (inStr (st [c]) a)) h := rfl
theorem end_at {S : Str} {p : Nat → Bool} (hp : ∀ c, inStr (st [c]) S = p c) (hz : l.length ≤ 90000) : c_end_of [.str (st l), .int i, .str S] h = .ok (.int (span p l i)) h := by
  have w := walk_span (p := p) (T := tAndM (tB (eBin ltM (eVar 3) (eCB1 lenD (eVar 0)))) (tB (eBin inD (eBin ixD (eVar 0) (eVar 3)) (eVar 2)))) (s := l_end_of_0) (σ := fun k : Nat => [some (.str (st l)), some (.int i), some (.str S), some (.int k)]) (l := l) (h := h)
    (fun k c e => by
      have hk := (List.getElem?_eq_some_iff.mp e).1
      have hk' : (k : Int) < l.length := by omega
      simp [lenL (l := l) (by omega : l.length ≤ 100000), ltM, hk', hk, ixL (by omega : l.length ≤ 100000) e, inD_st, hp c])
    (fun k hk => by
      have hk' : ¬ (k : Int) < l.length := by omega
      simp [lenL (l := l) (by omega : l.length ≤ 100000), ltM, hk', Nat.not_lt.mpr hk])
    (fun k => rfl) 100000 i (by omega) (by omega)
  unfold c_end_of b_end_of
  generalize l_end_of_0 = B at w ⊢
  refine out_of (res := .ret (.int (span p l i)) h) ?_ rfl
  refine (seq_at (σ1 := [some (.str (st l)), some (.int i), some (.str S), some (.int i)]) (h1 := h) ?_).trans ?_
  · simp
  refine (seq_at w).trans ?_
  simp
/-! ### numbers -/
def numP (l : List Nat) (i : Nat) : Option (Nat × Nat) :=
  if 1 ≤ span dgt l i - i ∧ span dgt l i - i ≤ 30 ∧ ¬ (l[i]? = some 48 ∧ 1 < span dgt l i - i) ∧ l[span dgt l i]? = some 32 then some (NumText.digitsVal ((l.drop i).take (span dgt l i - i)), span dgt l i + 1) else none
theorem int_at (n1 : 1 ≤ span dgt l i - i) (n2 : span dgt l i - i ≤ 30) : intM [.str (st ((l.drop i).take (span dgt l i - i)))] h = .ok (.int (NumText.digitsVal ((l.drop i).take (span dgt l i - i)) : Nat)) h := by
  have hle : ((l.drop i).take (span dgt l i - i)).length ≤ 30 := by rw [List.length_take]; omega
  have hne : (l.drop i).take (span dgt l i - i) ≠ [] := by
    intro z
    have := congrArg List.length z
    rw [List.length_take, List.length_drop] at this
    have hi : i < l.length := by
      rcases Nat.lt_or_ge i l.length with q | q
      · exact q
      · rw [span_no q] at n1; omega
    simp only [List.length_nil] at this
    omega
  have q := SX.int_S (a := (l.drop i).take (span dgt l i - i)) (List.all_eq_true.mpr fun c hc => by
    have := span_all c hc
    rw [dgt_iff] at this
    simpa using this) hne (by omega)
  show (match PySem.intText? (st ((l.drop i).take (span dgt l i - i))) with
    | some n => if (st ((l.drop i).take (span dgt l i - i))).length ≤ 640 then Res.ok (MV.int n) h else .stuck
    | none => .stuck) = _
  rw [show st ((l.drop i).take (span dgt l i - i)) = SX.S ((l.drop i).take (span dgt l i - i)) from rfl, q]
  exact if_pos (by rw [SX.S_len]; omega)
def numM : Option (Nat × Nat) → MV
  | none => .non
  | some (n, j) => .tup [.int n, .int j]
theorem chain_n {a b : Int} {A C : ME} {σ : MS} {n : Int} (ha : A σ h = .ok (.int n) h) : eChain leM leM (eC (.int a)) A (eC (.int b)) σ h = .ok (.bl (decide (a ≤ n) && decide (n ≤ b))) h := by
  by_cases h1 : a ≤ n
  · simp [ha, leM, h1, chK_b]
  · simp [ha, leM, h1, chK_b]
end
end My

set_option maxHeartbeats 400000
namespace My
open PySem PySem.Spec PyProof.Rows L2 Mi
variable [TheW]
section
variable {l : List Nat} {i j : Nat} {h : MH}
theorem eq1 {c d : Nat} {S : Str} (e : S = st [d]) : eqM (.str (st [c])) (.str S) h = .ok (.bl (decide (c = d))) h := by
  subst e
  rw [eqS]
  congr 2
  simp [st_eq]
theorem ne1 {d : Nat} {S : Str} (e : S = st [d]) : neM (.str (st (l[j]?).toList)) (.str S) h = .ok (.bl (!decide (l[j]? = some d))) h := by
  subst e
  rw [neS]
  congr 3
  simp [st_eq, one_eq]
theorem there (n1 : 1 ≤ span dgt l i - i) : ∃ c, l[i]? = some c := by
  rcases Nat.lt_or_ge i l.length with q | q
  · exact ⟨l[i], by simp [q]⟩
  · rw [span_no q] at n1; omega
theorem s_0 : ("0" : Str) = st [48] := by decide
theorem s_sp : (" " : Str) = st [32] := by decide
theorem number_at (hz : l.length ≤ 90000) : c_number_at [.str (st l), .int i] h = .ok (numM (numP l i)) h := by
  have E := end_at (S := digs) (p := dgt) (h := h) (i := i) (fun _ => rfl) hz
  have hj : i ≤ span dgt l i := span_ge
  have n32 := ne1 (l := l) (j := span dgt l i) (h := h) s_sp
  have S1 := sl_one (l := l) (j := span dgt l i) (h := h) (by omega)
  unfold c_number_at b_number_at
  generalize c_end_of = X at E ⊢
  refine out_of (res := .ret (numM (numP l i)) h) ?_ rfl
  refine (seq_at (σ1 := [some (.str (st l)), some (.int i), some (.int (span dgt l i))]) (h1 := h) ?_).trans ?_
  · simp [E]
  by_cases c1 : 1 ≤ span dgt l i - i ∧ span dgt l i - i ≤ 30
  · obtain ⟨c1, c2⟩ := c1
    have k1 : (1 : Int) ≤ (span dgt l i : Int) - i := by omega
    have k2 : (span dgt l i : Int) - i ≤ 30 := by omega
    obtain ⟨c, ec⟩ := there c1
    have IX := ixL (h := h) (by omega) ec
    have e48 := eq1 (c := c) (h := h) s_0
    by_cases c3 : c = 48 ∧ 1 < span dgt l i - i
    · obtain ⟨rfl, c4⟩ := c3
      have k4 : (i : Int) + 1 < (span dgt l i : Int) := by omega
      have N : numP l i = none := if_neg fun z => z.2.2.1 ⟨ec, c4⟩
      rw [N]
      simp [leM, chK_b, k1, k2, IX, e48, gtM, k4, numM]
    · have G : (if decide (c = 48) = true then Res.ok (decide ((span dgt l i : Int) > (i : Int) + 1)) h else .ok false h) = Res.ok false h := by
        by_cases q : c = 48
        · have : ¬ ((span dgt l i : Int) > (i : Int) + 1) := fun z => c3 ⟨q, by omega⟩
          simp [q, this]
        · simp [q]
      by_cases c5 : l[span dgt l i]? = some 32
      · have N : numP l i = some (NumText.digitsVal ((l.drop i).take (span dgt l i - i)), span dgt l i + 1) := if_pos ⟨c1, c2, fun z => c3 ⟨by rw [ec] at z; exact Option.some.inj z.1, z.2⟩, c5⟩
        have SL := sl_st (l := l) (i := i) (k := (span dgt l i : Int)) (h := h) (by omega) (by omega)
        rw [Int.toNat_natCast] at SL
        have I := int_at (h := h) c1 c2
        rw [N]
        have n32 : neM (.str (st [32])) (.str " ") h = .ok (.bl false) h := by rw [c5] at n32; simpa using n32
        have S1 : slM (.str (st l)) (some (span dgt l i : Int)) (some ((span dgt l i : Int) + 1)) h = .ok (.str (st [32])) h := by rw [c5] at S1; exact S1
        by_cases q : c = 48
        · have : ¬ ((i : Int) + 1 < (span dgt l i : Int)) := fun z => c3 ⟨q, by omega⟩
          subst q
          simp [leM, chK_b, k1, k2, IX, e48, gtM, this, S1, n32, SL, I, numM]
        · simp [leM, chK_b, k1, k2, IX, e48, gtM, q, S1, n32, SL, I, numM]
      · have N : numP l i = none := if_neg fun z => c5 z.2.2.2
        rw [N]
        by_cases q : c = 48
        · have : ¬ ((i : Int) + 1 < (span dgt l i : Int)) := fun z => c3 ⟨q, by omega⟩
          subst q
          simp [leM, chK_b, k1, k2, IX, e48, gtM, this, S1, n32, c5, numM]
        · simp [leM, chK_b, k1, k2, IX, e48, gtM, q, S1, n32, c5, numM]
  · have N : numP l i = none := if_neg fun z => c1 ⟨z.1, z.2.1⟩
    rw [N]
    by_cases k1 : (1 : Int) ≤ (span dgt l i : Int) - i
    · have k2 : ¬ (span dgt l i : Int) - i ≤ 30 := fun z => c1 ⟨by omega, by omega⟩
      simp [leM, chK_b, k1, k2, numM]
    · simp [leM, chK_b, k1, numM]
def numL : Option (Nat × Nat) → MV
  | none => .non
  | some (n, j) => .tmp [.int n, .int j]
theorem lnumber_at (hz : l.length ≤ 90000) : c__law_number [.str (st l), .int i] h = .ok (numL (numP l i)) h := by
  have w := walk_span (p := dgt) (T := tAndM (tB (eBin ltM (eVar 2) (eCB1 lenD (eVar 0)))) (tB (eBin inD (eBin ixD (eVar 0) (eVar 2)) (eC (.str digs))))) (s := l__law_number_0) (σ := fun k : Nat => [some (.str (st l)), some (.int i), some (.int k)]) (l := l) (h := h)
    (fun k c e => by
      have hk := (List.getElem?_eq_some_iff.mp e).1
      have hk' : (k : Int) < l.length := by omega
      simp [lenL (l := l) (by omega : l.length ≤ 100000), ltM, hk', hk, ixL (by omega : l.length ≤ 100000) e, inD_st, dgt])
    (fun k hk => by
      have hk' : ¬ (k : Int) < l.length := by omega
      simp [lenL (l := l) (by omega : l.length ≤ 100000), ltM, hk', Nat.not_lt.mpr hk])
    (fun k => rfl) 100000 i (by omega) (by omega)
  have hj : i ≤ span dgt l i := span_ge
  have n32 := ne1 (l := l) (j := span dgt l i) (h := h) s_sp
  have S1 := sl_one (l := l) (j := span dgt l i) (h := h) (by omega)
  unfold c__law_number b__law_number
  generalize l__law_number_0 = B at w ⊢
  refine out_of (res := .ret (numL (numP l i)) h) ?_ rfl
  refine (seq_at (σ1 := [some (.str (st l)), some (.int i), some (.int i)]) (h1 := h) ?_).trans ?_
  · simp
  refine (seq_at w).trans ?_
  by_cases c1 : 1 ≤ span dgt l i - i ∧ span dgt l i - i ≤ 30
  · obtain ⟨c1, c2⟩ := c1
    have k1 : (1 : Int) ≤ (span dgt l i : Int) - i := by omega
    have k2 : (span dgt l i : Int) - i ≤ 30 := by omega
    obtain ⟨c, ec⟩ := there c1
    have IX := ixL (h := h) (by omega) ec
    have e48 := eq1 (c := c) (h := h) s_0
    by_cases c5 : l[span dgt l i]? = some 32
    · have n32 : neM (.str (st [32])) (.str " ") h = .ok (.bl false) h := by rw [c5] at n32; simpa using n32
      have S1 : slM (.str (st l)) (some (span dgt l i : Int)) (some ((span dgt l i : Int) + 1)) h = .ok (.str (st [32])) h := by rw [c5] at S1; exact S1
      by_cases c3 : c = 48 ∧ 1 < span dgt l i - i
      · obtain ⟨rfl, c4⟩ := c3
        have k4 : (1 : Int) < (span dgt l i : Int) - i := by omega
        have N : numP l i = none := if_neg fun z => z.2.2.1 ⟨ec, c4⟩
        rw [N]
        simp [leM, chK_b, k1, k2, IX, e48, gtM, k4, S1, n32, numL]
      · have N : numP l i = some (NumText.digitsVal ((l.drop i).take (span dgt l i - i)), span dgt l i + 1) := if_pos ⟨c1, c2, fun z => c3 ⟨by rw [ec] at z; exact Option.some.inj z.1, z.2⟩, c5⟩
        have SL := sl_st (l := l) (i := i) (k := (span dgt l i : Int)) (h := h) (by omega) (by omega)
        rw [Int.toNat_natCast] at SL
        have I := int_at (h := h) c1 c2
        rw [N]
        by_cases q : c = 48
        · have : ¬ ((1 : Int) < (span dgt l i : Int) - i) := fun z => c3 ⟨q, by omega⟩
          subst q
          simp [leM, chK_b, k1, k2, IX, e48, gtM, this, S1, n32, SL, I, numL]
        · simp [leM, chK_b, k1, k2, IX, e48, gtM, q, S1, n32, SL, I, numL]
    · have N : numP l i = none := if_neg fun z => c5 z.2.2.2
      rw [N]
      simp [leM, chK_b, k1, k2, S1, n32, c5, numL]
  · have N : numP l i = none := if_neg fun z => c1 ⟨z.1, z.2.1⟩
    rw [N]
    by_cases k1 : (1 : Int) ≤ (span dgt l i : Int) - i
    · have k2 : ¬ (span dgt l i : Int) - i ≤ 30 := fun z => c1 ⟨by omega, by omega⟩
      simp [leM, chK_b, k1, k2, numL]
    · simp [leM, chK_b, k1, numL]
end
end My

set_option maxHeartbeats 400000
namespace My
open PySem PySem.Spec PyProof.Rows L2 Mi
variable [TheW]
/-! ### keys, bodies -/
def keyP (l : List Nat) (i : Nat) : Option ((List Nat × Nat) × Nat) :=
  if 1 ≤ span ltr l i - i ∧ span ltr l i - i ≤ 8 ∧ l[span ltr l i]? = some 46 then (match numP l (span ltr l i + 1) with
    | some (n, j) => if n = 0 then none else some (((l.drop i).take (span ltr l i - i), n), j)
    | none => none) else none
def keyM : List Nat × Nat → MV := fun k => .tup [.str (st k.1), .int k.2]
def keyO : Option ((List Nat × Nat) × Nat) → MV
  | none => .non
  | some (k, j) => .tup [keyM k, .int j]
section
variable {l : List Nat} {i j : Nat} {h : MH}
theorem s_dot : ("." : Str) = st [46] := by decide
theorem isn_num {o : Option (Nat × Nat)} : isNonM (numM o) = o.isNone := by
  cases o with
  | none => rfl
  | some p => rfl
theorem settle_num {o : Option (Nat × Nat)} : settle (numM o) h = .ok (numM o) h := by
  cases o with
  | none => rfl
  | some p => rfl
theorem ix2_0 {a b : MV} : ixM (.tup [a, b]) (.int 0) h = .ok a h := rfl
theorem ix2_1 {a b : MV} : ixM (.tup [a, b]) (.int 1) h = .ok b h := rfl
theorem eqI {a b : Int} : eqM (.int a) (.int b) h = .ok (.bl (a == b)) h := rfl
theorem neI {a b : Int} : neM (.int a) (.int b) h = .ok (.bl (!(a == b))) h := rfl
theorem key_at (hz : l.length ≤ 90000) : c_key_at [.str (st l), .int i] h = .ok (keyO (keyP l i)) h := by
  have E := end_at (S := abc) (p := ltr) (h := h) (i := i) (fun _ => rfl) hz
  have hj : i ≤ span ltr l i := span_ge
  have n46 := ne1 (l := l) (j := span ltr l i) (h := h) s_dot
  have S1 := sl_one (l := l) (j := span ltr l i) (h := h) (by omega)
  have N := number_at (i := span ltr l i + 1) (h := h) hz
  have SL := sl_st (l := l) (i := i) (k := (span ltr l i : Int)) (h := h) (by omega) (by omega)
  rw [Int.toNat_natCast] at SL
  have en : ((span ltr l i + 1 : Nat) : Int) = (span ltr l i : Int) + 1 := by omega
  rw [en] at N
  unfold c_key_at b_key_at
  generalize c_end_of = X at E ⊢
  generalize c_number_at = Y at N ⊢
  refine out_of (res := .ret (keyO (keyP l i)) h) ?_ rfl
  refine (seq_at (σ1 := [some (.str (st l)), some (.int i), some (.int (span ltr l i)), none]) (h1 := h) ?_).trans ?_
  · simp [E]
  by_cases c1 : 1 ≤ span ltr l i - i ∧ span ltr l i - i ≤ 8
  · obtain ⟨c1, c2⟩ := c1
    have k1 : (1 : Int) ≤ (span ltr l i : Int) - i := by omega
    have k2 : (span ltr l i : Int) - i ≤ 8 := by omega
    by_cases c3 : l[span ltr l i]? = some 46
    · have n46 : neM (.str (st [46])) (.str ".") h = .ok (.bl false) h := by rw [c3] at n46; simpa using n46
      have S1 : slM (.str (st l)) (some (span ltr l i : Int)) (some ((span ltr l i : Int) + 1)) h = .ok (.str (st [46])) h := by rw [c3] at S1; exact S1
      have K : keyP l i = (match numP l (span ltr l i + 1) with
        | some (n, j) => if n = 0 then none else some (((l.drop i).take (span ltr l i - i), n), j)
        | none => none) := if_pos ⟨c1, c2, c3⟩
      refine (seq_at (σ1 := [some (.str (st l)), some (.int i), some (.int (span ltr l i)), none]) (h1 := h) ?_).trans ?_
      · simp [leM, chK_b, k1, k2, S1, n46]
      refine (seq_at (σ1 := [some (.str (st l)), some (.int i), some (.int (span ltr l i)), some (numM (numP l (span ltr l i + 1)))]) (h1 := h) ?_).trans ?_
      · simp [N, settle_num]
      rw [K]
      cases e : numP l (span ltr l i + 1) with
      | none => simp [numM, keyO]
      | some p =>
        obtain ⟨n, j⟩ := p
        by_cases z : n = 0
        · subst z
          simp [numM, keyO, ix2_0, eqI]
        · have : ((n : Int) == 0) = false := by simp; omega
          simp [numM, keyO, keyM, ix2_0, ix2_1, eqI, this, z, SL]
    · have K : keyP l i = none := if_neg fun z => c3 z.2.2
      rw [K]
      simp [leM, chK_b, k1, k2, S1, n46, c3, keyO]
  · have K : keyP l i = none := if_neg fun z => c1 ⟨z.1, z.2.1⟩
    rw [K]
    by_cases k1 : (1 : Int) ≤ (span ltr l i : Int) - i
    · have k2 : ¬ (span ltr l i : Int) - i ≤ 8 := fun z => c1 ⟨by omega, by omega⟩
      simp [leM, chK_b, k1, k2, keyO]
    · simp [leM, chK_b, k1, keyO]
/-! ### signs -/
def inR (c : Nat) : Bool := decide (32 ≤ c) && decide (c ≤ 125)
theorem lt_one {a b : Nat} : ((st [a]).cps.toList < (st [b]).cps.toList) ↔ a < b := by
  rw [st_codes, st_codes]
  simp [List.cons_lt_cons_iff]
theorem chain_R {i c : Nat} {σ : MS} (e : σ[i]? = some (some (MV.str (st [c])))) : eChain leM leM (eC (.str " ")) (eVar i) (eC (.str "}")) σ h = .ok (.bl (inR c)) h := by
  have e2 : eVar i σ h = .ok (.str (st [c])) h := by simp [e]
  have q1 : leM (.str " ") (.str (st [c])) h = .ok (.bl (decide (32 ≤ c))) h := by
    show Res.ok (MV.bl (!decide ((st [c]).cps.toList < (" " : Str).cps.toList))) h = _
    rw [s_sp, show decide ((st [c]).cps.toList < (st [32]).cps.toList) = decide (c < 32) from decide_eq_decide.mpr lt_one]
    congr 2
    rw [Bool.eq_iff_iff]
    simp
  have q2 : leM (.str (st [c])) (.str "}") h = .ok (.bl (decide (c ≤ 125))) h := by
    show Res.ok (MV.bl (!decide (("}" : Str).cps.toList < (st [c]).cps.toList))) h = _
    rw [show ("}" : Str) = st [125] by decide, show decide ((st [125]).cps.toList < (st [c]).cps.toList) = decide (125 < c) from decide_eq_decide.mpr lt_one]
    congr 2
    rw [Bool.eq_iff_iff]
    simp
  simp [e, q1, q2, chK_b, inR]
  by_cases z : 32 ≤ c <;> simp [z]
theorem isi_S {z : Str} : isiM kt [.str z, .ty "str"] h = .ok (.bl true) h := by
  have q2 : kitB "str" "str" = some true := by decide +kernel
  show (match tgOf h (.str z), tgC (.ty "str") with
      | some t, some c => (match kitT kt t c with
        | some b => Res.ok (MV.bl b) h
        | none => .stuck)
      | _, _ => .stuck) = _
  rw [show tgOf h (.str z) = some (.b "str") from rfl]
  show (match kitB "str" "str" with
        | some b => Res.ok (MV.bl b) h
        | none => .stuck) = _
  rw [q2]
theorem mapM_bl {ι : Type} (f : ι → Bool) : ∀ l : List ι, (l.map fun c => MV.bl (f c)).mapM asB = some (l.map f)
  | [] => rfl
  | x :: l => by
    rw [List.map_cons, List.mapM_cons, mapM_bl f l]
    rfl
theorem all_bl {ι : Type} (f : ι → Bool) (l : List ι) (h : MH) : allM (.tmp (l.map fun c => MV.bl (f c))) h = .ok (.bl (l.all f)) h := by
  show (match (some (l.map fun c => MV.bl (f c))).bind fun xs => xs.mapM asB with
    | some bs => Res.ok (MV.bl (bs.all id)) h
    | none => .stuck) = _
  rw [Option.bind_some, mapM_bl]
  show Res.ok (MV.bl ((l.map f).all id)) h = _
  rw [List.all_map]
  rfl
theorem signs_st {l : List Nat} : Mi.signs (st l) = l.map fun c => MV.str (st [c]) := by simp [Mi.signs, Mi.st]
theorem signs_at (hz : l.length ≤ 90000) : c_is_signs [.str (st l)] h = .ok (.bl (l.all inR)) h := by
  have q := compL_map (st := fun _ => true) (g := gN 1) (tt := tYesM) (te := eChain leM leM (eC (.str " ")) (eVar 1) (eC (.str "}"))) (σ := [some (MV.str (st l)), none]) (fun c : Nat => MV.str (st [c])) (fun c => MV.bl (inR c)) h rfl l (sz (by omega)) fun x hx => ⟨_, rfl, rfl, by
    rw [eSet_ap, chain_R (c := x) rfl]
    rfl⟩
  simp [c_is_signs, b_is_signs, isi_S, signs_st, wipeM, q, all_bl]
def fine (c : Nat) : Bool := inR c && !decide (c = 60) && !decide (c = 62)
theorem inOne {c : Nat} {S : Str} (e : S = st [c]) : inStr S (st l) = decide (c ∈ l) := by
  subst e
  exact SX.in_one l c
theorem text_at (hz : l.length ≤ 90000) : c_is_text [.str (st l)] h = .ok (.bl (l.all fine && decide (l.length ≤ 60))) h := by
  have S := signs_at (h := h) hz
  have n1 : notInD (.str "<") (.str (st l)) h = .ok (.bl (!decide (60 ∈ l))) h := by
    show Res.ok (MV.bl (!inStr "<" (st l))) h = _
    rw [inOne (c := 60) (by decide)]
  have n2 : notInD (.str ">") (.str (st l)) h = .ok (.bl (!decide (62 ∈ l))) h := by
    show Res.ok (MV.bl (!inStr ">" (st l))) h = _
    rw [inOne (c := 62) (by decide)]
  have F : l.all fine = (l.all inR && !decide (60 ∈ l) && !decide (62 ∈ l)) := by
    rw [Bool.eq_iff_iff]
    simp only [List.all_eq_true, fine, Bool.and_eq_true, Bool.not_eq_true', decide_eq_false_iff_not]
    constructor
    · intro q
      exact ⟨⟨fun c hc => (q c hc).1.1, fun z => (q 60 z).1.2 rfl⟩, fun z => (q 62 z).2 rfl⟩
    · rintro ⟨⟨q1, q2⟩, q3⟩ c hc
      exact ⟨⟨q1 c hc, fun z => q2 (z ▸ hc)⟩, fun z => q3 (z ▸ hc)⟩
  rw [F]
  unfold c_is_text b_is_text
  generalize c_is_signs = X at S ⊢
  generalize l.all inR = A at S ⊢
  generalize decide (60 ∈ l) = B at n1 ⊢
  generalize decide (62 ∈ l) = C at n2 ⊢
  by_cases h60 : l.length ≤ 60
  · have : (l.length : Int) ≤ 60 := by omega
    simp [S, lenL (by omega : l.length ≤ 100000), leM, this, h60, n1, n2, andK_b]
    cases A <;> cases B <;> simp
  · have : ¬ (l.length : Int) ≤ 60 := by omega
    simp [S, lenL (by omega : l.length ≤ 100000), leM, this, h60, n1, n2, andK_b]
end
end My

set_option maxHeartbeats 400000
namespace My
open PySem PySem.Spec PyProof.Rows L2 Mi
variable [TheW]
/-! ### sums, records -/
def en : Nat → List Nat → List (Nat × Nat)
  | _, [] => []
  | k, c :: l => (k, c) :: en (k + 1) l
omit [TheW] in
theorem en_enum {g : Nat → MV} : ∀ {k : Nat} {l : List Nat}, enumL k (l.map g) = (en k l).map fun p => .tup [.int (p.1 : Nat), g p.2]
  | _, [] => rfl
  | k, c :: l => by
    have := en_enum (g := g) (k := k + 1) (l := l)
    simp [enumL, en, this]
omit [TheW] in
theorem en_len : ∀ {k : Nat} {l : List Nat}, (en k l).length = l.length
  | _, [] => rfl
  | k, c :: l => by simp [en, en_len]
omit [TheW] in
theorem en_le : ∀ {k : Nat} {l : List Nat} {p : Nat × Nat}, p ∈ en k l → p.1 ≤ k + l.length
  | _, [], _, h => by cases h
  | k, c :: l, p, h => by
    rcases List.mem_cons.mp h with rfl | h
    · simp
    · have := en_le h
      rw [List.length_cons]
      omega
omit [TheW] in
theorem en_sum : ∀ {k : Nat} {l : List Nat}, ((en k l).map fun p => (p.2 : Int) * ((p.1 : Int) + 1)).sum = wsum k l
  | _, [] => rfl
  | k, c :: l => by
    rw [en, List.map_cons, List.sum_cons, en_sum, wsum]
omit [TheW] in
theorem mapM_int {ι : Type} (f : ι → Int) : ∀ l : List ι, (l.map fun c => MV.int (f c)).mapM asI = some (l.map f)
  | [] => rfl
  | x :: l => by
    rw [List.map_cons, List.mapM_cons, mapM_int f l]
    rfl
def sumP (l : List Nat) : Int := (wsum 0 l).fmod 9973
section
variable {l : List Nat} {i j : Nat} {h : MH}
theorem sum_at (hz : l.length ≤ 90000) : c_sum_of [.str (st l)] h = .ok (.int (sumP l)) h := by
  have q := compL_map (st := fun _ => true) (g := gT 2 (gsCons (gN 1) (gsCons (gN 2) gsNil))) (tt := tYesM) (te := eBin mulM (eCB ordM (aCons (eVar 2) aNil)) (eBin addM (eVar 1) (eC (.int 1)))) (σ := [some (MV.str (st l)), none, none]) (fun p : Nat × Nat => .tup [.int (p.1 : Nat), MV.str (st [p.2])]) (fun p => MV.int ((p.2 : Int) * ((p.1 : Int) + 1))) h rfl (en 0 l) (by rw [en_len]; exact sz (by omega)) fun p hp => ⟨_, rfl, rfl, by
      have := en_le hp
      have u : mulM (.int (p.2 : Int)) (.int ((p.1 : Int) + 1)) h = .ok (.int ((p.2 : Int) * ((p.1 : Int) + 1))) h := mul_r (by omega) (by omega)
      simp [ord_at, u]⟩
  have s : sumM (.tmp ((en 0 l).map fun p => MV.int ((p.2 : Int) * ((p.1 : Int) + 1)))) h = .ok (.int (wsum 0 l)) h := by
    show (match (some ((en 0 l).map fun p => MV.int ((p.2 : Int) * ((p.1 : Int) + 1)))).bind fun xs => xs.mapM asI with
      | some ns => Res.ok (MV.int ns.sum) h
      | none => .stuck) = _
    rw [Option.bind_some, mapM_int]
    show Res.ok (MV.int _) h = _
    rw [en_sum]
  have m : modM (.int (wsum 0 l)) (.int 9973) h = .ok (.int (sumP l)) h := mod_at (by decide)
  have en : iEnm (eVar 0) [some (MV.str (st l)), none, none] h = .ok ⟨(en 0 l).map fun p => .tup [.int (p.1 : Nat), MV.str (st [p.2])], fun _ => true⟩ h := by
    unfold iEnm
    simp [signs_st, en_enum]
  simp only [c_sum_of, b_sum_of]
  simp [eComp, wipeM, en, q, s, m]
/-- whether signs are a record's text -/
def bodyOk (l : List Nat) (b m t : Nat) : Bool :=
  decide (((l.drop b).take m).length = m) && (decide (l[b + m]? = some 62) && ((((l.drop b).take m).all fine && decide (((l.drop b).take m).length ≤ 60)) && decide (sumP ((l.drop b).take m) = t)))
abbrev Rc := (List Nat × Nat) × List Nat × Nat
def recP (l : List Nat) (i : Nat) : Option Rc :=
  if l[i]? = some 60 then (match keyP l (i + 1) with
    | none => none
    | some (k, j) => match numP l j with
      | none => none
      | some (m, p) => match numP l p with
        | none => none
        | some (t, b) => if bodyOk l b m t = true then some (k, (l.drop b).take m, b + m + 1) else none) else none
def recM : Option Rc → MV
  | none => .non
  | some (k, b, e) => .tup [keyM k, .str (st b), .int e]
theorem isn_key {o : Option ((List Nat × Nat) × Nat)} : isNonM (keyO o) = o.isNone := by
  cases o with
  | none => rfl
  | some p => rfl
theorem settle_key {o : Option ((List Nat × Nat) × Nat)} : settle (keyO o) h = .ok (keyO o) h := by
  cases o with
  | none => rfl
  | some p => rfl
theorem s_lt : ("<" : Str) = st [60] := by decide
theorem s_gt : (">" : Str) = st [62] := by decide
theorem numM_s {n j : Nat} : numM (some (n, j)) = .tup [.int n, .int j] := rfl
theorem numM_n : numM none = .non := rfl
theorem keyO_s {k : List Nat × Nat} {j : Nat} : keyO (some (k, j)) = .tup [keyM k, .int j] := rfl
theorem keyO_n : keyO none = .non := rfl
theorem recM_s {k : List Nat × Nat} {b : List Nat} {e : Nat} : recM (some (k, b, e)) = .tup [keyM k, .str (st b), .int e] := rfl
theorem recM_n : recM none = .non := rfl
theorem settle_k {k : List Nat × Nat} : settle (keyM k) h = .ok (keyM k) h := rfl
theorem record_at (hz : l.length ≤ 90000) (hi : i < l.length) : c_record_at [.str (st l), .int i] h = .ok (recM (recP l i)) h := by
  obtain ⟨c, ec⟩ : ∃ c, l[i]? = some c := ⟨l[i], by simp [hi]⟩
  have IX := ixL (h := h) (by omega) ec
  have E := eq1 (c := c) (h := h) s_lt
  have K := key_at (i := i + 1) (h := h) hz
  rw [show ((i + 1 : Nat) : Int) = (i : Int) + 1 by omega] at K
  have N := fun j => number_at (l := l) (i := j) (h := h) hz
  have B := fun b m => text_at (l := (l.drop b).take m) (h := h) (by rw [List.length_take, List.length_drop]; omega)
  have S := fun b m => sum_at (l := (l.drop b).take m) (h := h) (by rw [List.length_take, List.length_drop]; omega)
  unfold c_record_at b_record_at
  generalize c_key_at = X at K ⊢
  generalize c_number_at = Y at N ⊢
  generalize c_is_text = Z at B ⊢
  generalize c_sum_of = U at S ⊢
  refine out_of (res := .ret (recM (recP l i)) h) ?_ rfl
  by_cases c60 : c = 60
  · subst c60
    refine (seq_at (σ1 := [some (.str (st l)), some (.int i), some (keyO (keyP l (i + 1))), none, none, none, none, none]) (h1 := h) ?_).trans ?_
    · simp [IX, E, K, settle_key]
    cases ek : keyP l (i + 1) with
    | none =>
      have R : recP l i = none := by simp [recP, ec, ek]
      rw [R]
      simp [keyO_s, keyO_n, recM_s, recM_n, settle_k]
    | some p =>
      obtain ⟨k, j⟩ := p
      refine (seq_at (σ1 := [some (.str (st l)), some (.int i), some (keyO (some (k, j))), some (numM (numP l j)), none, none, none, none]) (h1 := h) ?_).trans ?_
      · have := isn_key (o := some (k, j))
        simp [this]
        simp [keyO_s, keyO_n, ix2_1, N, settle_num]
      cases em : numP l j with
      | none =>
        have R : recP l i = none := by simp [recP, ec, ek, em]
        rw [R]
        simp [numM_s, numM_n, recM_s, recM_n, settle_k]
      | some q =>
        obtain ⟨m, p⟩ := q
        refine (seq_at (σ1 := [some (.str (st l)), some (.int i), some (keyO (some (k, j))), some (numM (some (m, p))), some (numM (numP l p)), none, none, none]) (h1 := h) ?_).trans ?_
        · have := isn_num (o := some (m, p))
          simp [this]
          simp [numM_s, numM_n, ix2_1, N, settle_num]
        cases et : numP l p with
        | none =>
          have R : recP l i = none := by simp [recP, ec, ek, em, et]
          rw [R]
          simp [numM_s, numM_n, recM_s, recM_n, settle_k]
        | some q =>
          obtain ⟨t, b⟩ := q
          have R : recP l i = if bodyOk l b m t = true then some (k, (l.drop b).take m, b + m + 1) else none := by simp [recP, ec, ek, em, et]
          rw [R]
          have SL := sl_st (l := l) (i := b) (k := (b : Int) + m) (h := h) (by omega) (by omega)
          rw [show ((b : Int) + m).toNat - b = m by omega] at SL
          refine (seq_at (σ1 := [some (.str (st l)), some (.int i), some (keyO (some (k, j))), some (numM (some (m, p))), some (numM (some (t, b))), none, none, none]) (h1 := h) ?_).trans ?_
          · have := isn_num (o := some (t, b))
            simp [this]
          refine (seq_at (σ1 := [some (.str (st l)), some (.int i), some (keyO (some (k, j))), some (numM (some (m, p))), some (numM (some (t, b))), some (.int b), none, none]) (h1 := h) ?_).trans ?_
          · simp [numM_s, numM_n, ix2_1]
          refine (seq_at (σ1 := [some (.str (st l)), some (.int i), some (keyO (some (k, j))), some (numM (some (m, p))), some (numM (some (t, b))), some (.int b), some (.int ((b : Int) + m)), none]) (h1 := h) ?_).trans ?_
          · simp [numM_s, numM_n, ix2_0]
          refine (seq_at (σ1 := [some (.str (st l)), some (.int i), some (keyO (some (k, j))), some (numM (some (m, p))), some (numM (some (t, b))), some (.int b), some (.int ((b : Int) + m)), some (.str (st ((l.drop b).take m)))]) (h1 := h) ?_).trans ?_
          · simp [SL]
          have BL := lenL (l := (l.drop b).take m) (h := h) (by rw [List.length_take, List.length_drop]; omega)
          have S1 := sl_one (l := l) (j := b + m) (h := h) (by omega)
          rw [show ((b + m : Nat) : Int) = (b : Int) + m by omega] at S1
          have n62 := ne1 (l := l) (j := b + m) (h := h) s_gt
          have B := B b m
          have S := S b m
          have lle : ((l.drop b).take m).length ≤ m := by rw [List.length_take]; omega
          unfold bodyOk
          generalize (l.drop b).take m = W at BL B S lle ⊢
          by_cases q1 : W.length = m
          · have k1 : ¬ ((W.length : Int) < m) := by omega
            by_cases q2 : l[b + m]? = some 62
            · have n62 : neM (.str (st [62])) (.str ">") h = .ok (.bl false) h := by rw [q2] at n62; simpa using n62
              have S1 : slM (.str (st l)) (some ((b : Int) + m)) (some ((b : Int) + m + 1)) h = .ok (.str (st [62])) h := by rw [q2] at S1; exact S1
              by_cases q3 : (W.all fine && decide (W.length ≤ 60)) = true
              · rw [q3] at B
                by_cases q4 : sumP W = t
                · have q4' : (sumP W == (t : Int)) = true := by simpa using q4
                  rw [q3, decide_eq_true q1, decide_eq_true q2, decide_eq_true q4]
                  simp [keyO_s, keyO_n, numM_s, numM_n, ix2_0, BL, ltM, k1, S1, n62, B, S, neI, q4', recM_s, recM_n, settle_k]
                · have q4' : (sumP W == (t : Int)) = false := by simpa using q4
                  rw [q3, decide_eq_true q1, decide_eq_true q2, decide_eq_false q4]
                  simp [keyO_s, keyO_n, numM_s, numM_n, ix2_0, BL, ltM, k1, S1, n62, B, S, neI, q4', recM_s, recM_n, settle_k]
              · have q3 : (W.all fine && decide (W.length ≤ 60)) = false := by simpa using q3
                rw [q3] at B
                rw [q3, decide_eq_true q1, decide_eq_true q2]
                simp [keyO_s, keyO_n, numM_s, numM_n, ix2_0, BL, ltM, k1, S1, n62, B, recM_s, recM_n, settle_k]
            · rw [decide_eq_true q1, decide_eq_false q2]
              simp [keyO_s, keyO_n, numM_s, numM_n, ix2_0, BL, ltM, k1, S1, n62, q2, recM_s, recM_n, settle_k]
          · have k1 : (W.length : Int) < m := by omega
            rw [decide_eq_false q1]
            simp [keyO_s, keyO_n, numM_s, numM_n, ix2_0, BL, ltM, k1, recM_s, recM_n, settle_k]
  · have R : recP l i = none := by simp [recP, ec, c60]
    rw [R]
    simp [IX, E, c60, recM_s, recM_n, settle_k]
end
end My

set_option maxHeartbeats 400000
namespace My
open PySem PySem.Spec PyProof.Rows L2 Mi
variable [TheW]
/-! ### the law's own look at a place -/
def recL : Option Rc → MV
  | none => .non
  | some (k, b, e) => .tmp [keyM k, .str (st b), .int e]
theorem recL_s {k : List Nat × Nat} {b : List Nat} {e : Nat} : recL (some (k, b, e)) = .tmp [keyM k, .str (st b), .int e] := rfl
theorem recL_n : recL none = .non := rfl
theorem numL_s {n j : Nat} : numL (some (n, j)) = .tmp [.int n, .int j] := rfl
theorem numL_n : numL none = .non := rfl
def bad (c : Nat) : Bool := decide (c ∈ [60, 62, 126]) || !inR c
noncomputable def lat1 : MSt := (sAsg 2 (eBin addM (eVar 1) (eC (.int 1))))
noncomputable def lat2 : MSt := (sWhile (tAndM (tB (eBin ltM (eVar 2) (eCB1 lenD (eVar 0)))) (tB (eBin inD (eBin ixD (eVar 0) (eVar 2)) (eC (.str "abcdefghijklmnopqrstuvwxyz"))))) l__law_at_0 100000)
noncomputable def lat3 : MSt := (sIf (tOrM (tB (eBin neM (eBin ixD (eVar 0) (eVar 1)) (eC (.str "<")))) (tOrM (tNotM (tB (eChain leM leM (eC (.int 1)) (eBin subM (eBin subM (eVar 2) (eVar 1)) (eC (.int 1))) (eC (.int 8))))) (tB (eBin neM (eSl slM (eVar 0) (oSo (eVar 2)) (oSo (eBin addM (eVar 2) (eC (.int 1))))) (eC (.str ".")))))) (sRet (eC .non)) sNil)
noncomputable def lat4 : MSt := (sAsg 3 (eCall (gb [.p 0, .p 1] [] []) c__law_number (aCons (eVar 0) (aCons (eBin addM (eVar 2) (eC (.int 1))) aNil)) aNil))
noncomputable def lat5 : MSt := (sAsg 4 (eIf (tOrM (tB (eBin isM (eVar 3) (eC .non))) (tB (eBin eqM (eBin ixD (eVar 3) (eC (.int 0))) (eC (.int 0))))) (eC .non) (eCall (gb [.p 0, .p 1] [] []) c__law_number (aCons (eVar 0) (aCons (eBin ixD (eVar 3) (eC (.int 1))) aNil)) aNil)))
noncomputable def lat6 : MSt := (sAsg 5 (eIf (tB (eBin isM (eVar 4) (eC .non))) (eC .non) (eCall (gb [.p 0, .p 1] [] []) c__law_number (aCons (eVar 0) (aCons (eBin ixD (eVar 4) (eC (.int 1))) aNil)) aNil)))
noncomputable def lat7 : MSt := (sIf (tB (eBin isM (eVar 5) (eC .non))) (sRet (eC .non)) sNil)
noncomputable def lat8 : MSt := (sAsg 6 (eBin ixD (eVar 5) (eC (.int 1))))
noncomputable def lat9 : MSt := (sAsg 7 (eSl slM (eVar 0) (oSo (eVar 6)) (oSo (eBin addM (eVar 6) (eBin ixD (eVar 4) (eC (.int 0)))))))
noncomputable def lat10 : MSt := (sIf (tOrM (tB (eBin ltM (eCB1 lenD (eVar 7)) (eBin ixD (eVar 4) (eC (.int 0))))) (tOrM (tB (eBin gtM (eCB1 lenD (eVar 7)) (eC (.int 60)))) (tB (eBin neM (eSl slM (eVar 0) (oSo (eBin addM (eVar 6) (eBin ixD (eVar 4) (eC (.int 0))))) (oSo (eBin addM (eBin addM (eVar 6) (eBin ixD (eVar 4) (eC (.int 0)))) (eC (.int 1))))) (eC (.str ">")))))) (sRet (eC .non)) sNil)
noncomputable def lat11 : MSt := (sIf (tOrM (tB (eBin neM (eComp (iSeq (eVar 7)) (gN 8) (tOrM (tB (eBin inD (eVar 8) (eC (.str "<>~")))) (tNotM (tB (eChain leM leM (eC (.str " ")) (eVar 8) (eC (.str "}")))))) (eVar 8) [8]) (eLst aNil))) (tB (eBin neM (eCall (gb [.p 0] [] []) c__law_sum (aCons (eVar 7) aNil) aNil) (eBin ixD (eVar 5) (eC (.int 0)))))) (sRet (eC .non)) sNil)
noncomputable def lat0 : MSt := (sRet (eLst (aCons (eTup (aCons (eSl slM (eVar 0) (oSo (eBin addM (eVar 1) (eC (.int 1)))) (oSo (eVar 2))) (aCons (eBin ixD (eVar 3) (eC (.int 0))) aNil))) (aCons (eVar 7) (aCons (eBin addM (eBin addM (eVar 6) (eBin ixD (eVar 4) (eC (.int 0)))) (eC (.int 1))) aNil)))))
theorem lat_eq : b__law_at = (sSeq lat1 (sSeq lat2 (sSeq lat3 (sSeq lat4 (sSeq lat5 (sSeq lat6 (sSeq lat7 (sSeq lat8 (sSeq lat9 (sSeq lat10 (sSeq lat11 lat0))))))))))) := rfl
section
variable {l : List Nat} {i j : Nat} {h : MH}
theorem bad_fine {c : Nat} : bad c = !fine c := by
  rw [Bool.eq_iff_iff]
  simp only [bad, fine, inR, List.mem_cons, List.not_mem_nil, or_false, Bool.or_eq_true, Bool.not_eq_true', decide_eq_true_eq, Bool.and_eq_false_iff, decide_eq_false_iff_not, Bool.not_eq_false']
  omega
theorem bads {l : List Nat} {σ : MS} (hz : l.length ≤ 90000) (hσ : σ.length = 9) : compL (fun _ => true) (gN 8) (tOrM (tB (eBin inD (eVar 8) (eC (.str "<>~")))) (tNotM (tB (eChain leM leM (eC (.str " ")) (eVar 8) (eC (.str "}")))))) (eVar 8) σ (l.map fun c => MV.str (st [c])) [] h = .ok (.tmp ((l.filter bad).map fun c => MV.str (st [c]))) h := by
  refine compL_flt (fun c : Nat => MV.str (st [c])) bad h rfl l (sz (by omega)) fun c hc => ⟨σ.set 8 (some (.str (st [c]))), rfl, ?_, fun _ => ?_⟩
  · have e8 : (σ.set 8 (some (MV.str (st [c]))))[8]? = some (some (.str (st [c]))) := List.getElem?_set_self (by omega)
    have C := chain_R (h := h) (c := c) e8
    have I : inStr (st [c]) "<>~" = decide (c ∈ [60, 62, 126]) := by
      rw [show ("<>~" : Str) = st [60, 62, 126] by decide]
      exact SX.in_one [60, 62, 126] c
    have A : tB (eBin inD (eVar 8) (eC (.str "<>~"))) (σ.set 8 (some (.str (st [c])))) h = .ok (decide (c ∈ [60, 62, 126])) h := by simp [e8, inD_st, I]
    rw [tOrM_ap, A]
    show (if decide (c ∈ [60, 62, 126]) = true then Res.ok true h else (((eChain leM leM (eC (.str " ")) (eVar 8) (eC (.str "}"))) (σ.set 8 (some (.str (st [c])))) h).bind tbK).bind fun b h1 => .ok (!b) h1) = _
    rw [C]
    unfold bad
    by_cases q : c ∈ [60, 62, 126]
    · rw [decide_eq_true q]
      rfl
    · rw [decide_eq_false q]
      rfl
  · have e8 : (σ.set 8 (some (MV.str (st [c]))))[8]? = some (some (.str (st [c]))) := List.getElem?_set_self (by omega)
    simp [e8]
theorem ne_nil {xs : List MV} : neM (.tmp xs) (.tmp []) h = .ok (.bl (!xs.isEmpty)) h := by
  cases xs with
  | nil => rfl
  | cons x xs => rfl
theorem bads_none {l : List Nat} : ((l.filter bad).map fun c => MV.str (st [c])).isEmpty = l.all fine := by
  rw [Bool.eq_iff_iff]
  simp only [List.isEmpty_iff, List.map_eq_nil_iff, List.filter_eq_nil_iff, List.all_eq_true]
  constructor
  · intro q c hc
    have := q c hc
    rw [bad_fine] at this
    simpa using this
  · intro q c hc
    rw [bad_fine, q c hc]
    simp
theorem get1 {o : MO} {L : MH} : (h ++ o :: L)[h.length]? = some o := by simp
theorem ix_l0 {n : Nat} {a b : MV} (e : h[n]? = some (.lst [a, b])) : ixD (.ref n) (.int 0) h = .ok a h := by rw [ixD_lst e, ix0 e]
theorem ix_l1 {n : Nat} {a b : MV} (e : h[n]? = some (.lst [a, b])) : ixD (.ref n) (.int 1) h = .ok b h := by rw [ixD_lst e, ix1 e]

noncomputable abbrev lat8s : MSt := sSeq lat8 (sSeq lat9 (sSeq lat10 (sSeq lat11 lat0)))
noncomputable abbrev lat5s : MSt := sSeq lat5 (sSeq lat6 (sSeq lat7 lat8s))
theorem lat_tail {g : MH} {n3 n4 n5 e n j m p t b : Nat} (hz : l.length ≤ 90000) (he : i + 1 ≤ e) (g3 : g[n3]? = some (.lst [.int (n : Int), .int (j : Int)])) (g4 : g[n4]? = some (.lst [.int (m : Int), .int (p : Int)])) (g5 : g[n5]? = some (.lst [.int (t : Int), .int (b : Int)])) :
    lat8s [some (.str (st l)), some (.int i), some (.int e), some (.ref n3), some (.ref n4), some (.ref n5), none, none, none] g = .ret (recL (if bodyOk l b m t = true then some (((l.drop (i + 1)).take (e - (i + 1)), n), (l.drop b).take m, b + m + 1) else none)) g := by
  have S := lsum_at (z := st ((l.drop b).take m)) (h := g) (by rw [st_len, List.length_take, List.length_drop]; omega)
  rw [st_codes] at S
  have SK := sl_st (l := l) (i := i + 1) (k := (e : Int)) (h := g) (by omega) (by omega)
  rw [show ((i + 1 : Nat) : Int) = (i : Int) + 1 by omega, Int.toNat_natCast] at SK
  have SL := sl_st (l := l) (i := b) (k := (b : Int) + m) (h := g) (by omega) (by omega)
  rw [show ((b : Int) + m).toNat - b = m by omega] at SL
  have BL := lenL (l := (l.drop b).take m) (h := g) (by rw [List.length_take, List.length_drop]; omega)
  have S1 := sl_one (l := l) (j := b + m) (h := g) (by omega)
  rw [show ((b + m : Nat) : Int) = (b : Int) + m by omega] at S1
  have n62 := ne1 (l := l) (j := b + m) (h := g) s_gt
  have a0 := ix_l0 g4
  have a1 := ix_l1 g5
  have a2 := ix_l0 g3
  have a3 := ix_l0 g5
  have lle : ((l.drop b).take m).length ≤ m := by rw [List.length_take]; omega
  have lle2 : ((l.drop b).take m).length ≤ 90000 := by rw [List.length_take, List.length_drop]; omega
  refine (seq_at (σ1 := [some (.str (st l)), some (.int i), some (.int e), some (.ref n3), some (.ref n4), some (.ref n5), some (.int b), none, none]) (h1 := g) ?_).trans ?_
  · unfold lat8
    simp [a1]
  refine (seq_at (σ1 := [some (.str (st l)), some (.int i), some (.int e), some (.ref n3), some (.ref n4), some (.ref n5), some (.int b), some (.str (st ((l.drop b).take m))), none]) (h1 := g) ?_).trans ?_
  · unfold lat9
    simp [a0, SL]
  unfold bodyOk
  generalize hw : (l.drop b).take m = W at S BL lle lle2 ⊢
  generalize hk : (l.drop (i + 1)).take (e - (i + 1)) = V at SK ⊢
  have BB := bads (l := W) (σ := [some (.str (st l)), some (.int i), some (.int e), some (.ref n3), some (.ref n4), some (.ref n5), some (.int b), some (.str (st W)), none]) (h := g) lle2 rfl
  have BN := bads_none (l := W)
  generalize ((W.filter bad).map fun c => MV.str (st [c])) = F at BB BN
  have NN := ne_nil (xs := F) (h := g)
  rw [BN] at NN
  by_cases q1 : W.length = m
  · have k1 : ¬ ((W.length : Int) < m) := by omega
    by_cases q5 : W.length ≤ 60
    · have k5 : ¬ ((60 : Int) < W.length) := by omega
      by_cases q2 : l[b + m]? = some 62
      · have n62 : neM (.str (st [62])) (.str ">") g = .ok (.bl false) g := by rw [q2] at n62; simpa using n62
        have S1 : slM (.str (st l)) (some ((b : Int) + m)) (some ((b : Int) + m + 1)) g = .ok (.str (st [62])) g := by rw [q2] at S1; exact S1
        refine (seq_at (σ1 := [some (.str (st l)), some (.int i), some (.int e), some (.ref n3), some (.ref n4), some (.ref n5), some (.int b), some (.str (st W)), none]) (h1 := g) ?_).trans ?_
        · unfold lat10
          simp [BL, a0, ltM, k1, gtM, k5, S1, n62]
        by_cases q3 : W.all fine = true
        · rw [q3] at NN
          by_cases q4 : sumP W = t
          · have q4' : (sumP W == (t : Int)) = true := by simpa using q4
            have q4'' : ((wsum 0 W).fmod 9973 == (t : Int)) = true := q4'
            rw [q3, decide_eq_true q1, decide_eq_true q2, decide_eq_true q4, decide_eq_true q5]
            unfold lat11 lat0
            generalize c__law_sum = U at S ⊢
            simp [eComp, wipeM, signs_st, BB, NN, S, a3, neI, q4'', SK, a2, a0, recL_s, keyM, -tOrM_ap]
            simp [tOrM_ap, eComp, wipeM, signs_st, BB, NN, S, a3, neI, q4'', SK, a2, a0, recL_s, keyM]
          · have q4' : (sumP W == (t : Int)) = false := by simpa using q4
            have q4'' : ((wsum 0 W).fmod 9973 == (t : Int)) = false := q4'
            rw [q3, decide_eq_true q1, decide_eq_true q2, decide_eq_false q4, decide_eq_true q5]
            unfold lat11 lat0
            generalize c__law_sum = U at S ⊢
            simp [eComp, wipeM, signs_st, BB, NN, S, a3, neI, q4'', recL_n]
        · have q3 : W.all fine = false := by simpa using q3
          rw [q3] at NN
          rw [q3, decide_eq_true q1, decide_eq_true q2]
          unfold lat11
          generalize c__law_sum = U at S ⊢
          simp [eComp, wipeM, signs_st, BB, NN, recL_n]
      · rw [decide_eq_true q1, decide_eq_false q2]
        unfold lat10
        simp [BL, a0, ltM, k1, gtM, k5, S1, n62, q2, recL_n]
    · have k5 : (60 : Int) < W.length := by omega
      rw [decide_eq_false q5]
      unfold lat10
      simp [BL, a0, ltM, k1, gtM, k5, recL_n]
  · have k1 : (W.length : Int) < m := by omega
    rw [decide_eq_false q1]
    unfold lat10
    simp [BL, a0, ltM, k1, recL_n]
end
end My

set_option maxHeartbeats 400000
namespace My
open PySem PySem.Spec PyProof.Rows L2 Mi
variable [TheW]
section
variable {l : List Nat} {i : Nat} {h : MH}
/-- what is found behind a key -/
def restP (l : List Nat) (k : List Nat × Nat) (j : Nat) : Option Rc := match numP l j with
  | none => none
  | some (m, p) => match numP l p with
    | none => none
    | some (t, b) => if bodyOk l b m t = true then some (k, (l.drop b).take m, b + m + 1) else none
theorem rec_eq (ec : l[i]? = some 60) : recP l i = (match keyP l (i + 1) with
    | none => none
    | some (k, j) => restP l k j) := if_pos ec
theorem lat_mid {g : MH} {n3 e n j : Nat} (hz : l.length ≤ 90000) (he : i + 1 ≤ e) (hn : n ≠ 0) (g3 : g[n3]? = some (.lst [.int (n : Int), .int (j : Int)])) :
    ∃ L, lat5s [some (.str (st l)), some (.int i), some (.int e), some (.ref n3), none, none, none, none, none] g = .ret (recL (restP l ((l.drop (i + 1)).take (e - (i + 1)), n) j)) (g ++ L) := by
  have z' : ((n : Int) == 0) = false := by simp; omega
  have x0 := ix_l0 g3
  have x1 := ix_l1 g3
  have N1 := lnumber_at (l := l) (i := j) (h := g) hz
  cases em : numP l j with
  | none =>
    rw [em, numL_n] at N1
    refine ⟨[], ?_⟩
    rw [List.append_nil]
    have R : restP l ((l.drop (i + 1)).take (e - (i + 1)), n) j = none := by simp [restP, em]
    rw [R]
    refine (seq_at (σ1 := [some (.str (st l)), some (.int i), some (.int e), some (.ref n3), some .non, none, none, none, none]) (h1 := g) ?_).trans ?_
    · unfold lat5
      generalize c__law_number = Y at N1 ⊢
      simp [x0, x1, eqI, z', N1]
    refine (seq_at (σ1 := [some (.str (st l)), some (.int i), some (.int e), some (.ref n3), some .non, some .non, none, none, none]) (h1 := g) ?_).trans ?_
    · unfold lat6
      simp
    · unfold lat7
      simp [recL_n]
  | some q =>
    obtain ⟨m, p⟩ := q
    rw [em, numL_s] at N1
    have g3' : (g ++ [MO.lst [.int (m : Int), .int (p : Int)]])[n3]? = some (.lst [.int (n : Int), .int (j : Int)]) := get_app g3
    have g4 : (g ++ [MO.lst [.int (m : Int), .int (p : Int)]])[g.length]? = some (.lst [.int (m : Int), .int (p : Int)]) := get_last
    generalize hg1 : g ++ [MO.lst [.int (m : Int), .int (p : Int)]] = g1 at g3' g4
    have N2 := lnumber_at (l := l) (i := p) (h := g1) hz
    have y1 := ix_l1 g4
    have first : lat5 [some (.str (st l)), some (.int i), some (.int e), some (.ref n3), none, none, none, none, none] g = .next [some (.str (st l)), some (.int i), some (.int e), some (.ref n3), some (.ref g.length), none, none, none, none] g1 := by
      unfold lat5
      generalize c__law_number = Y at N1 ⊢
      simp [x0, x1, eqI, z', N1, hg1]
    cases et : numP l p with
    | none =>
      rw [et, numL_n] at N2
      refine ⟨[MO.lst [.int (m : Int), .int (p : Int)]], ?_⟩
      rw [hg1]
      have R : restP l ((l.drop (i + 1)).take (e - (i + 1)), n) j = none := by simp [restP, em, et]
      rw [R]
      refine (seq_at first).trans ?_
      refine (seq_at (σ1 := [some (.str (st l)), some (.int i), some (.int e), some (.ref n3), some (.ref g.length), some .non, none, none, none]) (h1 := g1) ?_).trans ?_
      · unfold lat6
        generalize c__law_number = Y at N2 ⊢
        simp [y1, N2, isNonM]
      · unfold lat7
        simp [recL_n]
    | some q =>
      obtain ⟨t, b⟩ := q
      rw [et, numL_s] at N2
      have g3'' : (g1 ++ [MO.lst [.int (t : Int), .int (b : Int)]])[n3]? = some (.lst [.int (n : Int), .int (j : Int)]) := get_app g3'
      have g4' : (g1 ++ [MO.lst [.int (t : Int), .int (b : Int)]])[g.length]? = some (.lst [.int (m : Int), .int (p : Int)]) := get_app g4
      have g5 : (g1 ++ [MO.lst [.int (t : Int), .int (b : Int)]])[g1.length]? = some (.lst [.int (t : Int), .int (b : Int)]) := get_last
      have R : restP l ((l.drop (i + 1)).take (e - (i + 1)), n) j = if bodyOk l b m t = true then some (((l.drop (i + 1)).take (e - (i + 1)), n), (l.drop b).take m, b + m + 1) else none := by simp [restP, em, et]
      refine ⟨[MO.lst [.int (m : Int), .int (p : Int)]] ++ [MO.lst [.int (t : Int), .int (b : Int)]], ?_⟩
      rw [← List.append_assoc, hg1, R]
      refine (seq_at first).trans ?_
      generalize hg2 : g1 ++ [MO.lst [.int (t : Int), .int (b : Int)]] = g2 at g3'' g4' g5
      refine (seq_at (σ1 := [some (.str (st l)), some (.int i), some (.int e), some (.ref n3), some (.ref g.length), some (.ref g1.length), none, none, none]) (h1 := g2) ?_).trans ?_
      · unfold lat6
        generalize c__law_number = Y at N2 ⊢
        simp [y1, N2, isNonM, hg2]
      refine (seq_at (σ1 := [some (.str (st l)), some (.int i), some (.int e), some (.ref n3), some (.ref g.length), some (.ref g1.length), none, none, none]) (h1 := g2) ?_).trans ?_
      · unfold lat7
        simp [isNonM]
      exact lat_tail hz he g3'' g4' g5
theorem lat_at (hz : l.length ≤ 90000) (hi : i < l.length) : ∃ L, c__law_at [.str (st l), .int i] h = .ok (recL (recP l i)) (h ++ L) := by
  obtain ⟨c, ec⟩ : ∃ c, l[i]? = some c := ⟨l[i], by simp [hi]⟩
  have IX := ixL (h := h) (by omega) ec
  have NE : neM (.str (st [c])) (.str "<") h = .ok (.bl (!decide (c = 60))) h := by
    rw [s_lt, neS]
    congr 3
    simp [st_eq]
  have w := walk_span (p := ltr) (T := tAndM (tB (eBin ltM (eVar 2) (eCB1 lenD (eVar 0)))) (tB (eBin inD (eBin ixD (eVar 0) (eVar 2)) (eC (.str abc))))) (s := l__law_at_0) (σ := fun k : Nat => [some (.str (st l)), some (.int i), some (.int k), none, none, none, none, none, none]) (l := l) (h := h)
    (fun k c e => by
      have hk := (List.getElem?_eq_some_iff.mp e).1
      have hk' : (k : Int) < l.length := by omega
      simp [lenL (l := l) (by omega : l.length ≤ 100000), ltM, hk', hk, ixL (by omega : l.length ≤ 100000) e, inD_st, ltr])
    (fun k hk => by
      have hk' : ¬ (k : Int) < l.length := by omega
      simp [lenL (l := l) (by omega : l.length ≤ 100000), ltM, hk', Nat.not_lt.mpr hk])
    (fun k => rfl) 100000 (i + 1) (by omega) (by omega)
  have hj : i + 1 ≤ span ltr l (i + 1) := span_ge
  have w : lat2 [some (.str (st l)), some (.int i), some (.int ((i + 1 : Nat) : Int)), none, none, none, none, none, none] h = .next [some (.str (st l)), some (.int i), some (.int (span ltr l (i + 1))), none, none, none, none, none, none] h := w
  have first : lat1 [some (.str (st l)), some (.int i), none, none, none, none, none, none, none] h = .next [some (.str (st l)), some (.int i), some (.int ((i + 1 : Nat) : Int)), none, none, none, none, none, none] h := by
    unfold lat1
    simp
  unfold c__law_at
  rw [lat_eq]
  suffices H : ∃ L v, sSeq lat3 (sSeq lat4 lat5s) [some (.str (st l)), some (.int i), some (.int (span ltr l (i + 1))), none, none, none, none, none, none] h = .ret v (h ++ L) ∧ v = recL (recP l i) by
    obtain ⟨L, v, q, rfl⟩ := H
    exact ⟨L, out_of (res := .ret (recL (recP l i)) (h ++ L)) ((seq_at first).trans ((seq_at w).trans q)) rfl⟩
  generalize he : span ltr l (i + 1) = e at hj
  have n46 := ne1 (l := l) (j := e) (h := h) s_dot
  have S1 := sl_one (l := l) (j := e) (h := h) (by omega)
  by_cases c60 : c = 60
  · subst c60
    by_cases c1 : 1 ≤ e - (i + 1) ∧ e - (i + 1) ≤ 8
    · obtain ⟨c1, c2⟩ := c1
      have k1 : (1 : Int) ≤ (e : Int) - i - 1 := by omega
      have k2 : (e : Int) - i - 1 ≤ 8 := by omega
      by_cases c3 : l[e]? = some 46
      · have n46 : neM (.str (st [46])) (.str ".") h = .ok (.bl false) h := by rw [c3] at n46; simpa using n46
        have S1 : slM (.str (st l)) (some (e : Int)) (some ((e : Int) + 1)) h = .ok (.str (st [46])) h := by rw [c3] at S1; exact S1
        have K : keyP l (i + 1) = (match numP l (e + 1) with
          | some (n, j) => if n = 0 then none else some (((l.drop (i + 1)).take (e - (i + 1)), n), j)
          | none => none) := by rw [← he] at c1 c2 c3 ⊢; exact if_pos ⟨c1, c2, c3⟩
        have R := rec_eq ec
        have N1 := lnumber_at (l := l) (i := e + 1) (h := h) hz
        rw [show ((e + 1 : Nat) : Int) = (e : Int) + 1 by omega] at N1
        have second : lat3 [some (.str (st l)), some (.int i), some (.int e), none, none, none, none, none, none] h = .next [some (.str (st l)), some (.int i), some (.int e), none, none, none, none, none, none] h := by
          unfold lat3
          simp [leM, chK_b, k1, k2, S1, n46, IX, NE]
        rw [seq_at second]
        cases en : numP l (e + 1) with
        | none =>
          rw [en] at K N1
          have K : keyP l (i + 1) = none := K
          rw [K] at R
          rw [R]
          refine ⟨[], _, ?_, rfl⟩
          rw [List.append_nil]
          refine (seq_at (σ1 := [some (.str (st l)), some (.int i), some (.int e), some .non, none, none, none, none, none]) (h1 := h) ?_).trans ?_
          · unfold lat4
            generalize c__law_number = Y at N1 ⊢
            simp [N1, numL_n]
          refine (seq_at (σ1 := [some (.str (st l)), some (.int i), some (.int e), some .non, some .non, none, none, none, none]) (h1 := h) ?_).trans ?_
          · unfold lat5
            simp
          refine (seq_at (σ1 := [some (.str (st l)), some (.int i), some (.int e), some .non, some .non, some .non, none, none, none]) (h1 := h) ?_).trans ?_
          · unfold lat6
            simp
          · unfold lat7
            simp [recL_n]
        | some q =>
          obtain ⟨n, j⟩ := q
          rw [en] at K N1
          rw [numL_s] at N1
          have g3 : (h ++ [MO.lst [.int (n : Int), .int (j : Int)]])[h.length]? = some (.lst [.int (n : Int), .int (j : Int)]) := get_last
          generalize hg : h ++ [MO.lst [.int (n : Int), .int (j : Int)]] = g at g3
          have third : lat4 [some (.str (st l)), some (.int i), some (.int e), none, none, none, none, none, none] h = .next [some (.str (st l)), some (.int i), some (.int e), some (.ref h.length), none, none, none, none, none] g := by
            unfold lat4
            generalize c__law_number = Y at N1 ⊢
            simp [N1, hg]
          rw [seq_at third]
          by_cases z : n = 0
          · subst z
            have K : keyP l (i + 1) = none := K
            rw [K] at R
            rw [R]
            have x0 := ix_l0 g3
            refine ⟨[MO.lst [.int ((0 : Nat) : Int), .int (j : Int)]], _, ?_, rfl⟩
            rw [hg]
            refine (seq_at (σ1 := [some (.str (st l)), some (.int i), some (.int e), some (.ref h.length), some .non, none, none, none, none]) (h1 := g) ?_).trans ?_
            · unfold lat5
              simp [x0, eqI, isNonM]
            refine (seq_at (σ1 := [some (.str (st l)), some (.int i), some (.int e), some (.ref h.length), some .non, some .non, none, none, none]) (h1 := g) ?_).trans ?_
            · unfold lat6
              simp
            · unfold lat7
              simp [recL_n]
          · have K : keyP l (i + 1) = some (((l.drop (i + 1)).take (e - (i + 1)), n), j) := by rw [K]; exact if_neg z
            rw [K] at R
            obtain ⟨L, q⟩ := lat_mid (i := i) hz hj z g3
            refine ⟨[MO.lst [.int (n : Int), .int (j : Int)]] ++ L, _, ?_, rfl⟩
            rw [← List.append_assoc, hg, R]
            exact q
      · have R : recP l i = none := by
          have K : keyP l (i + 1) = none := if_neg fun z => c3 (by rw [← he]; exact z.2.2)
          simp [recP, ec, K]
        rw [R]
        refine ⟨[], _, ?_, rfl⟩
        rw [List.append_nil]
        unfold lat3
        simp [leM, chK_b, k1, k2, S1, n46, c3, IX, NE, recL_n]
    · have R : recP l i = none := by
        have K : keyP l (i + 1) = none := if_neg fun z => c1 (by rw [← he]; exact ⟨z.1, z.2.1⟩)
        simp [recP, ec, K]
      rw [R]
      refine ⟨[], _, ?_, rfl⟩
      rw [List.append_nil]
      unfold lat3
      by_cases k1 : (1 : Int) ≤ (e : Int) - i - 1
      · have k2 : ¬ (e : Int) - i - 1 ≤ 8 := fun z => c1 ⟨by omega, by omega⟩
        simp [leM, chK_b, k1, k2, IX, NE, recL_n]
      · simp [leM, chK_b, k1, IX, NE, recL_n]
  · have R : recP l i = none := by simp [recP, ec, c60]
    rw [R]
    refine ⟨[], _, ?_, rfl⟩
    rw [List.append_nil]
    unfold lat3
    simp [IX, NE, c60, recL_n]
end
end My

set_option maxHeartbeats 400000
namespace My
open PySem PySem.Spec PyProof.Rows L2 Mi
variable [TheW]
/-! ### all records of a text -/
abbrev Fd := Nat × (List Nat × Nat) × List Nat
def fdM (r : Fd) : MV := .tup [.int r.1, keyM r.2.1, .str (st r.2.2)]
def addR (R : List Fd) (i : Nat) (k : List Nat × Nat) (b : List Nat) : List Fd := if k ∈ R.map (fun r => r.2.1) then R else R ++ [(i, k, b)]
def recs (l : List Nat) : Nat → Nat → List Fd → List Fd
  | 0, _, R => R
  | n + 1, i, R => if i < l.length then (match recP l i with
    | none => recs l n (i + 1) R
    | some (k, b, e) => recs l n e (addR R i k b)) else R
section
variable {l : List Nat} {i : Nat} {h g : MH}
theorem num_lt {j n : Nat} (e : numP l i = some (n, j)) : i < j := by
  unfold numP at e
  split at e
  · cases e
    have : i ≤ span dgt l i := span_ge
    omega
  · cases e
theorem key_lt {j : Nat} {k : List Nat × Nat} (e : keyP l i = some (k, j)) : i < j := by
  unfold keyP at e
  split at e
  · split at e
    · rename_i n j' q
      split at e
      · cases e
      · cases e
        have := num_lt q
        have : i ≤ span ltr l i := span_ge
        omega
    · cases e
  · cases e
theorem rec_lt {k : List Nat × Nat} {b : List Nat} {e : Nat} (q : recP l i = some (k, b, e)) : i < e := by
  unfold recP at q
  split at q
  · split at q
    · cases q
    · rename_i k' j q1
      split at q
      · cases q
      · rename_i m p q2
        split at q
        · cases q
        · rename_i t b' q3
          split at q
          · cases q
            have := key_lt q1
            have := num_lt q2
            have := num_lt q3
            omega
          · cases q
  · cases q
theorem addR_len {R : List Fd} {k : List Nat × Nat} {b : List Nat} : (addR R i k b).length ≤ R.length + 1 := by
  unfold addR
  split
  · omega
  · simp
/-! two places ahead -/
def In2 (h g : MH) (x y : MO) : Prop := g[h.length]? = some x ∧ g[h.length + 1]? = some y ∧ ∀ (k : Nat) (o : MO), h[k]? = some o → g[k]? = some o
theorem In2.app {x y : MO} {L : MH} (a : In2 h g x y) : In2 h (g ++ L) x y := by
  have ap : ∀ {k : Nat} {o : MO}, g[k]? = some o → (g ++ L)[k]? = some o := fun {k o} e => by
    rw [List.getElem?_append_left (List.getElem?_eq_some_iff.mp e).1]
    exact e
  exact ⟨ap a.1, ap a.2.1, fun k o e => ap (a.2.2 k o e)⟩
theorem In2.set0 {x y x' : MO} (a : In2 h g x y) : In2 h (g.set h.length x') x' y := by
  refine ⟨List.getElem?_set_self (List.getElem?_eq_some_iff.mp a.1).1, by rw [List.getElem?_set_ne (by omega)]; exact a.2.1, fun k o e => ?_⟩
  have := (List.getElem?_eq_some_iff.mp e).1
  rw [List.getElem?_set_ne (by omega)]
  exact a.2.2 k o e
theorem In2.set1 {x y y' : MO} (a : In2 h g x y) : In2 h (g.set (h.length + 1) y') x y' := by
  refine ⟨by rw [List.getElem?_set_ne (by omega)]; exact a.1, List.getElem?_set_self (List.getElem?_eq_some_iff.mp a.2.1).1, fun k o e => ?_⟩
  have := (List.getElem?_eq_some_iff.mp e).1
  rw [List.getElem?_set_ne (by omega)]
  exact a.2.2 k o e
/-! the program's dict of keys -/
def kdM (R : List Fd) : List (MV × MV) := R.map fun r => (keyM r.2.1, .bl true)
def nk (k : List Nat × Nat) : NestedKey := .tup [.text (st k.1), .num k.2]
theorem nk_at {k : List Nat × Nat} : nkOf 8 (keyM k) = some (nk k) := rfl
theorem nk_inj {k k' : List Nat × Nat} : nk k = nk k' ↔ k = k' := by
  constructor
  · intro e
    unfold nk at e
    simp only [NestedKey.tup.injEq, List.cons.injEq, NestedKey.text.injEq, NestedKey.num.injEq, and_true] at e
    obtain ⟨a, b⟩ := e
    exact Prod.ext (st_inj a) (by omega)
  · intro e
    rw [e]
theorem get_kd {k : List Nat × Nat} : ∀ {R : List Fd}, (getN (kdM R) (nk k)).isSome = decide (k ∈ R.map (fun r => r.2.1))
  | [] => rfl
  | r :: R => by
    have ih := get_kd (k := k) (R := R)
    unfold getN kdM at ih ⊢
    rw [List.map_cons, List.find?_cons, List.map_cons]
    by_cases e : r.2.1 = k
    · have : decide (nkOf 8 (keyM r.2.1) = some (nk k)) = true := by rw [nk_at, e]; simp
      simp only [this]
      simp [e]
    · have : decide (nkOf 8 (keyM r.2.1) = some (nk k)) = false := by
        rw [nk_at]
        simp [nk_inj, e]
      simp only [this]
      rw [ih]
      have e' : ¬ k = r.2.1 := fun z => e z.symm
      simp [e']
theorem known_at {R : List Fd} {d : Nat} {k : List Nat × Nat} (e : g[d]? = some (.dct (kdM R))) : notInN (keyM k) (.ref d) g = .ok (.bl (!decide (k ∈ R.map (fun r => r.2.1)))) g := by
  have a : asN g (.ref d) = some (kdM R) := by simp [asN, e]
  have t : tkOf (keyM k) = some (nk k) := rfl
  simp [notInN, a, t, get_kd]
theorem know_at {R : List Fd} {d : Nat} {k : List Nat × Nat} {b : List Nat} {j : Nat} (e : g[d]? = some (.dct (kdM R))) (no : ¬ k ∈ R.map (fun r => r.2.1)) (few : R.length ≤ 90000) : setN (.ref d) (keyM k) (.bl true) g = some (g.set d (.dct (kdM (R ++ [(j, k, b)])))) := by
  have t : tkOf (keyM k) = some (nk k) := rfl
  have n : (getN (kdM R) (nk k)).isSome = false := by rw [get_kd]; exact decide_eq_false no
  have c : (kdM R).length < sizeLine := by
    unfold kdM
    rw [List.length_map, sizeLine_eq]
    omega
  have p : putN (kdM R) (keyM k) (nk k) (.bl true) = kdM (R ++ [(j, k, b)]) := by
    unfold putN
    rw [n]
    simp [kdM]
  simp only [setN, e, t, if_pos c, p]
/-! the law's list of keys -/
def mtM (R : List Fd) : List MV := R.map fun r => keyM r.2.1
def kdat (k : List Nat × Nat) : PyData := .tuple [.str (st k.1), .int k.2]
theorem snap_key {k : List Nat × Nat} : snap 30 g (keyM k) = some (kdat k) := rfl
theorem snap_keys {n : Nat} : ∀ {R : List Fd}, (mtM R).mapM (snap (n + 2) g) = some (R.map fun r => kdat r.2.1)
  | [] => rfl
  | r :: R => by
    have ih := snap_keys (n := n) (R := R)
    unfold mtM at ih ⊢
    rw [List.map_cons, List.mapM_cons, ih]
    rfl
theorem eqv_key {k k' : List Nat × Nat} : PyData.eqv (kdat k) (kdat k') = decide (k = k') := by
  rw [Bool.eq_iff_iff]
  unfold kdat
  simp only [PyData.eqv, PyData.eqvAll, Bool.and_eq_true, decide_eq_true_eq, Bool.and_true, beq_iff_eq]
  constructor
  · intro e
    obtain ⟨a, b⟩ := e
    exact Prod.ext (st_inj (by simpa using a)) (by have : (k.2 : Int) = k'.2 := by simpa using b
                                                   omega)
  · intro e
    subst e
    simp
theorem any_key {k : List Nat × Nat} : ∀ {R : List Fd}, ((R.map fun r => kdat r.2.1).any fun z => PyData.eqv z (kdat k)) = decide (k ∈ R.map (fun r => r.2.1))
  | [] => rfl
  | r :: R => by
    rw [List.map_cons, List.any_cons, any_key, List.map_cons, eqv_key]
    rw [Bool.eq_iff_iff]
    simp only [Bool.or_eq_true, decide_eq_true_eq, List.mem_cons]
    constructor
    · rintro (z | z)
      · exact .inl z.symm
      · exact .inr z
    · rintro (z | z)
      · exact .inl z.symm
      · exact .inr z
theorem met_at {R : List Fd} {d : Nat} {k : List Nat × Nat} (e : g[d]? = some (.lst (mtM R))) : notInD (keyM k) (.ref d) g = .ok (.bl (!decide (k ∈ R.map (fun r => r.2.1)))) g := by
  have s : snap 30 g (.ref d) = some (.list (R.map fun r => kdat r.2.1)) := by
    show (match g[d]? with
      | some (.lst xs) => (xs.mapM (snap 29 g)).map PyData.list
      | _ => none) = _
    rw [e]
    show ((mtM R).mapM (snap 29 g)).map PyData.list = _
    rw [snap_keys]
    rfl
  have q : inM (keyM k) (.ref d) g = .ok (.bl (decide (k ∈ R.map (fun r => r.2.1)))) g := by
    show (match snap 30 g (keyM k), snap 30 g (.ref d) with
      | some d, some (.list es) => Res.ok (MV.bl (es.any fun z => PyData.eqv z d)) g
      | _, _ => .stuck) = _
    rw [snap_key, s]
    show Res.ok _ g = _
    rw [any_key]
  have a : asD g (.ref d) = none := asD_lst e
  simp [notInD, a, notInM, q]
end
end My

set_option maxHeartbeats 400000
namespace My
open PySem PySem.Spec PyProof.Rows L2 Mi
variable [TheW]
section
variable {l : List Nat} {h : MH}
theorem settle_rec {o : Option Rc} {g : MH} : settle (recM o) g = .ok (recM o) g := by
  cases o with
  | none => rfl
  | some p => rfl
theorem ne_t {k : List Nat × Nat} {R : List Fd} : (k ∈ R.map (fun r => r.2.1)) ∨ ¬ (k ∈ R.map (fun r => r.2.1)) := Decidable.em _
theorem if_yes {T : MT} {s t : MSt} {σ : MS} {g : MH} (e : T σ g = .ok true g) : sIf T s t σ g = s σ g := by simp [e]
theorem if_no {T : MT} {s t : MSt} {σ : MS} {g : MH} (e : T σ g = .ok false g) : sIf T s t σ g = t σ g := by simp [e]
theorem if_nil {T : MT} {s : MSt} {σ : MS} {g : MH} (e : T σ g = .ok false g) : sIf T s sNil σ g = .next σ g := by simp [e]
/-- one place looked at by the program -/
theorem turn_p {g : MH} {i : Nat} {R : List Fd} {s4 s5 s6 s7 : Option MV} (hz : l.length ≤ 80000) (hi : i < l.length) (few : R.length ≤ i) (I : In2 h g (.lst (R.map fdM)) (.dct (kdM R))) :
    ∃ g' t4 t5 t6 t7, l_records_in_0 [some (.str (st l)), some (.ref h.length), some (.ref (h.length + 1)), some (.int i), s4, s5, s6, s7] g = .next [some (.str (st l)), some (.ref h.length), some (.ref (h.length + 1)), some (.int ((match recP l i with | none => i + 1 | some (k, b, e) => e : Nat) : Int)), t4, t5, t6, t7] g' ∧
      In2 h g' (.lst ((match recP l i with | none => R | some (k, b, e) => addR R i k b).map fdM)) (.dct (kdM (match recP l i with | none => R | some (k, b, e) => addR R i k b))) := by
  have Q := record_at (h := g) (by omega) hi
  unfold l_records_in_0
  generalize c_record_at = X at Q ⊢
  cases er : recP l i with
  | none =>
    rw [er, recM_n] at Q
    refine ⟨g, some .non, s5, s6, s7, ?_, I⟩
    refine (seq_at (σ1 := [some (.str (st l)), some (.ref h.length), some (.ref (h.length + 1)), some (.int i), some .non, s5, s6, s7]) (h1 := g) ?_).trans ?_
    · simp [Q]
    · have a : sAug 3 addI (eC (.int 1)) [some (.str (st l)), some (.ref h.length), some (.ref (h.length + 1)), some (.int i), some .non, s5, s6, s7] g = .next [some (.str (st l)), some (.ref h.length), some (.ref (h.length + 1)), some (.int ((i + 1 : Nat) : Int)), some .non, s5, s6, s7] g := rfl
      simp [a]
  | some q =>
    obtain ⟨k, b, e⟩ := q
    rw [er, recM_s] at Q
    have T : sAsgT (gT 3 (gsCons (gN 5) (gsCons (gN 6) (gsCons (gN 7) gsNil)))) (eVar 4) [some (.str (st l)), some (.ref h.length), some (.ref (h.length + 1)), some (.int i), some (.tup [keyM k, .str (st b), .int e]), s5, s6, s7] g = .next [some (.str (st l)), some (.ref h.length), some (.ref (h.length + 1)), some (.int i), some (.tup [keyM k, .str (st b), .int e]), some (keyM k), some (.str (st b)), some (.int e)] g := rfl
    have M := known_at (k := k) I.2.1
    rcases ne_t (k := k) (R := R) with y | n
    · have A : addR R i k b = R := if_pos y
      dsimp only
      rw [A]
      rw [decide_eq_true y] at M
      refine ⟨g, some (.tup [keyM k, .str (st b), .int e]), some (keyM k), some (.str (st b)), some (.int e), ?_, I⟩
      refine (seq_at (σ1 := [some (.str (st l)), some (.ref h.length), some (.ref (h.length + 1)), some (.int i), some (.tup [keyM k, .str (st b), .int e]), s5, s6, s7]) (h1 := g) ?_).trans ?_
      · simp [Q]
      refine (if_no ?_).trans ((seq_at T).trans ((seq_at (if_nil ?_)).trans ?_))
      · simp [isNonM]
      · simp [M]
      · simp
        try rfl
    · have A : addR R i k b = R ++ [(i, k, b)] := if_neg n
      dsimp only
      rw [A]
      rw [decide_eq_false n] at M
      have S := know_at (b := b) (j := i) I.2.1 n (by omega)
      have I1 : In2 h (g.set (h.length + 1) (.dct (kdM (R ++ [(i, k, b)])))) (.lst (R.map fdM)) (.dct (kdM (R ++ [(i, k, b)]))) := I.set1
      generalize hg1 : g.set (h.length + 1) (.dct (kdM (R ++ [(i, k, b)]))) = g1 at S I1
      have P := app_at (v := fdM (i, k, b)) I1.1 (by rw [List.length_map]; omega)
      have I2 : In2 h (g1.set h.length (.lst (R.map fdM ++ [fdM (i, k, b)]))) (.lst ((R ++ [(i, k, b)]).map fdM)) (.dct (kdM (R ++ [(i, k, b)]))) := by
        rw [List.map_append]
        exact I1.set0
      refine ⟨_, some (.tup [keyM k, .str (st b), .int e]), some (keyM k), some (.str (st b)), some (.int e), ?_, I2⟩
      refine (seq_at (σ1 := [some (.str (st l)), some (.ref h.length), some (.ref (h.length + 1)), some (.int i), some (.tup [keyM k, .str (st b), .int e]), s5, s6, s7]) (h1 := g) ?_).trans ?_
      · simp [Q]
      refine (if_no ?_).trans ((seq_at T).trans ((seq_at (σ1 := [some (.str (st l)), some (.ref h.length), some (.ref (h.length + 1)), some (.int i), some (.tup [keyM k, .str (st b), .int e]), some (keyM k), some (.str (st b)), some (.int e)]) (h1 := g1.set h.length (.lst (R.map fdM ++ [fdM (i, k, b)]))) ((if_yes ?_).trans ((seq_at (σ1 := [some (.str (st l)), some (.ref h.length), some (.ref (h.length + 1)), some (.int i), some (.tup [keyM k, .str (st b), .int e]), some (keyM k), some (.str (st b)), some (.int e)]) (h1 := g1) ?_).trans ?_))).trans ?_))
      · simp [isNonM]
      · simp [M]
      · unfold sSubN
        simp [S]
      · have lm := lmK_at (f := appM) (AL := aCons (eTup (aCons (eVar 3) (aCons (eVar 5) (aCons (eVar 6) aNil)))) aNil) (σ := [some (.str (st l)), some (.ref h.length), some (.ref (h.length + 1)), some (.int i), some (.tup [keyM k, .str (st b), .int e]), some (keyM k), some (.str (st b)), some (.int e)]) I1.1
        have P : appM (.ref h.length) [.tup [.int i, keyM k, .str (st b)]] g1 = .ok .non (g1.set h.length (.lst (R.map fdM ++ [fdM (i, k, b)]))) := P
        simp [lm, settle_k, P]
        try rfl
      · simp
        try rfl
/-- the program's walk over a text -/
theorem walk_p (hz : l.length ≤ 80000) : ∀ (n i : Nat) (R : List Fd) (g : MH) (s4 s5 s6 s7 : Option MV), l.length < n + i → 1 ≤ n → R.length ≤ i → In2 h g (.lst (R.map fdM)) (.dct (kdM R)) →
    ∃ σ' g', sWhile (tB (eBin ltM (eVar 3) (eCB1 lenN (eVar 0)))) l_records_in_0 n [some (.str (st l)), some (.ref h.length), some (.ref (h.length + 1)), some (.int i), s4, s5, s6, s7] g = .next σ' g' ∧ σ'[1]? = some (some (.ref h.length)) ∧ In2 h g' (.lst ((recs l n i R).map fdM)) (.dct (kdM (recs l n i R)))
  | 0, i, R, g, s4, s5, s6, s7, a, z, few, I => by omega
  | n + 1, i, R, g, s4, s5, s6, s7, a, z, few, I => by
    have LN : lenN (.str (st l)) g = .ok (.int l.length) g := lenL (l := l) (h := g) (by omega)
    unfold sWhile
    by_cases hi : i < l.length
    · have hi' : (i : Int) < l.length := by omega
      obtain ⟨g1, t4, t5, t6, t7, q, I1⟩ := turn_p (s4 := s4) (s5 := s5) (s6 := s6) (s7 := s7) hz hi few I
      have nx : i < (match recP l i with | none => i + 1 | some (k, b, e) => e) := by
        cases er : recP l i with
        | none => exact Nat.lt_succ_self i
        | some p =>
          obtain ⟨k, b, e⟩ := p
          exact rec_lt er
      have fw : (match recP l i with | none => R | some (k, b, e) => addR R i k b).length ≤ (match recP l i with | none => i + 1 | some (k, b, e) => e) := by
        cases er : recP l i with
        | none => exact Nat.le_succ_of_le few
        | some p =>
          obtain ⟨k, b, e⟩ := p
          have := rec_lt er
          have := addR_len (R := R) (i := i) (k := k) (b := b)
          show (addR R i k b).length ≤ e
          omega
      have rr : recs l (n + 1) i R = recs l n (match recP l i with | none => i + 1 | some (k, b, e) => e) (match recP l i with | none => R | some (k, b, e) => addR R i k b) := by
        rw [recs, if_pos hi]
        cases recP l i <;> rfl
      rw [rr]
      generalize (match recP l i with | none => i + 1 | some (k, b, e) => e) = j at q nx fw ⊢
      generalize (match recP l i with | none => R | some (k, b, e) => addR R i k b) = R1 at I1 fw ⊢
      obtain ⟨σ', g', w, w1, w2⟩ := walk_p hz n j R1 g1 t4 t5 t6 t7 (by omega) (by omega) fw I1
      refine ⟨σ', g', ?_, w1, w2⟩
      generalize l_records_in_0 = B at q w ⊢
      simp [LN, ltM, hi', hi, q, w]
    · have hi' : ¬ (i : Int) < l.length := by omega
      have rr : recs l (n + 1) i R = R := by rw [recs, if_neg hi]
      rw [rr]
      refine ⟨[some (.str (st l)), some (.ref h.length), some (.ref (h.length + 1)), some (.int i), s4, s5, s6, s7], g, ?_, rfl, I⟩
      simp [LN, ltM, hi', hi]
theorem records_at (hz : l.length ≤ 80000) : ∃ g', c_records_in [.str (st l)] h = .ok (.ref h.length) g' ∧ g'[h.length]? = some (.lst ((recs l 100000 0 []).map fdM)) ∧ ∀ (k : Nat) (o : MO), h[k]? = some o → g'[k]? = some o := by
  have I : In2 h (h ++ [.lst [], .dct []]) (.lst (([] : List Fd).map fdM)) (.dct (kdM [])) := ⟨by simp, by simp [kdM], fun k o e => by
    rw [List.getElem?_append_left (List.getElem?_eq_some_iff.mp e).1]
    exact e⟩
  obtain ⟨σ', g', w, w1, w2⟩ := walk_p hz 100000 0 [] _ none none none none (by omega) (by omega) (Nat.zero_le _) I
  refine ⟨g', ?_, w2.1, w2.2.2⟩
  unfold c_records_in b_records_in
  generalize l_records_in_0 = B at w ⊢
  refine out_of (res := .ret (.ref h.length) g') ?_ rfl
  refine (seq_at (σ1 := [some (.str (st l)), some (.ref h.length), none, none, none, none, none, none]) (h1 := h ++ [.lst []]) ?_).trans ?_
  · simp
  refine (seq_at (σ1 := [some (.str (st l)), some (.ref h.length), some (.ref (h.length + 1)), none, none, none, none, none]) (h1 := h ++ [.lst [], .dct []]) ?_).trans ?_
  · simp [eDct0]
  refine (seq_at (σ1 := [some (.str (st l)), some (.ref h.length), some (.ref (h.length + 1)), some (.int ((0 : Nat) : Int)), none, none, none, none]) (h1 := h ++ [.lst [], .dct []]) ?_).trans ?_
  · simp
  refine (seq_at w).trans ?_
  simp [w1]
end
end My

set_option maxHeartbeats 400000
namespace My
open PySem PySem.Spec PyProof.Rows L2 Mi
variable [TheW]
section
variable {l : List Nat} {h : MH}
theorem ix3 {n : Nat} {a b c : MV} {g : MH} (e : g[n]? = some (.lst [a, b, c])) : ixD (.ref n) (.int 0) g = .ok a g ∧ ixD (.ref n) (.int 1) g = .ok b g ∧ ixD (.ref n) (.int 2) g = .ok c g := by
  refine ⟨?_, ?_, ?_⟩ <;> (rw [ixD_lst e]; simp [ixM, asL, e]; rfl)
/-- one place looked at by the law -/
theorem turn_l {g : MH} {i : Nat} {R : List Fd} {s4 : Option MV} (hz : l.length ≤ 80000) (hi : i < l.length) (few : R.length ≤ i) (I : In2 h g (.lst (R.map fdM)) (.lst (mtM R))) :
    ∃ g' t4, l__law_due_0 [some (.str (st l)), some (.ref h.length), some (.ref (h.length + 1)), some (.int i), s4] g = .next [some (.str (st l)), some (.ref h.length), some (.ref (h.length + 1)), some (.int ((match recP l i with | none => i + 1 | some (k, b, e) => e : Nat) : Int)), t4] g' ∧
      In2 h g' (.lst ((match recP l i with | none => R | some (k, b, e) => addR R i k b).map fdM)) (.lst (mtM (match recP l i with | none => R | some (k, b, e) => addR R i k b))) := by
  obtain ⟨L, Q⟩ := lat_at (h := g) (by omega) hi
  have I0 := I.app (L := L)
  generalize g ++ L = g0 at Q I0
  unfold l__law_due_0
  generalize c__law_at = X at Q ⊢
  cases er : recP l i with
  | none =>
    rw [er, recL_n] at Q
    refine ⟨g0, some .non, ?_, I0⟩
    refine (seq_at (σ1 := [some (.str (st l)), some (.ref h.length), some (.ref (h.length + 1)), some (.int i), some .non]) (h1 := g0) ?_).trans ?_
    · simp [Q]
    · simp
  | some q =>
    obtain ⟨k, b, e⟩ := q
    rw [er, recL_s] at Q
    have I1 := I0.app (L := [.lst [keyM k, .str (st b), .int e]])
    have g5 : (g0 ++ [MO.lst [keyM k, .str (st b), .int (e : Int)]])[g0.length]? = some (.lst [keyM k, .str (st b), .int e]) := get_last
    have ne1 : h.length + 1 < g0.length := (List.getElem?_eq_some_iff.mp I0.2.1).1
    generalize hg1 : g0 ++ [MO.lst [keyM k, .str (st b), .int (e : Int)]] = g1 at I1 g5
    obtain ⟨x0, x1, x2⟩ := ix3 g5
    have M := met_at (k := k) I1.2.1
    have first : sAsg 4 (eCall (gb [.p 0, .p 1] [] []) X (aCons (eVar 0) (aCons (eVar 3) aNil)) aNil) [some (.str (st l)), some (.ref h.length), some (.ref (h.length + 1)), some (.int i), s4] g = .next [some (.str (st l)), some (.ref h.length), some (.ref (h.length + 1)), some (.int i), some (.ref g0.length)] g1 := by
      simp [Q, hg1]
    rcases ne_t (k := k) (R := R) with y | n
    · have A : addR R i k b = R := if_pos y
      dsimp only
      rw [A]
      rw [decide_eq_true y] at M
      refine ⟨g1, some (.ref g0.length), ?_, I1⟩
      refine (seq_at first).trans ((if_no ?_).trans ((seq_at (if_nil ?_)).trans ?_))
      · simp [isNonM]
      · simp [x0, M]
      · simp [x2]
    · have A : addR R i k b = R ++ [(i, k, b)] := if_neg n
      dsimp only
      rw [A]
      rw [decide_eq_false n] at M
      have P1 := app_at (v := keyM k) I1.2.1 (by unfold mtM; rw [List.length_map]; omega)
      have I2 : In2 h (g1.set (h.length + 1) (.lst (mtM R ++ [keyM k]))) (.lst (R.map fdM)) (.lst (mtM (R ++ [(i, k, b)]))) := by
        have : mtM (R ++ [(i, k, b)]) = mtM R ++ [keyM k] := by simp [mtM]
        rw [this]
        exact I1.set1
      have g6 : (g1.set (h.length + 1) (.lst (mtM R ++ [keyM k])))[g0.length]? = some (.lst [keyM k, .str (st b), .int e]) := by rw [List.getElem?_set_ne (by omega)]; exact g5
      generalize hg2 : g1.set (h.length + 1) (.lst (mtM R ++ [keyM k])) = g2 at P1 I2 g6
      obtain ⟨y0, y1, y2⟩ := ix3 g6
      have P := app_at (v := fdM (i, k, b)) I2.1 (by rw [List.length_map]; omega)
      have I3 : In2 h (g2.set h.length (.lst (R.map fdM ++ [fdM (i, k, b)]))) (.lst ((R ++ [(i, k, b)]).map fdM)) (.lst (mtM (R ++ [(i, k, b)]))) := by
        rw [List.map_append]
        exact I2.set0
      have g7 : (g2.set h.length (.lst (R.map fdM ++ [fdM (i, k, b)])))[g0.length]? = some (.lst [keyM k, .str (st b), .int e]) := by rw [List.getElem?_set_ne (by omega)]; exact g6
      obtain ⟨w0, w1, w2⟩ := ix3 g7
      have l1 := lmK_at (f := appM) (AL := aCons (eBin ixD (eVar 4) (eC (.int 0))) aNil) (σ := [some (.str (st l)), some (.ref h.length), some (.ref (h.length + 1)), some (.int i), some (.ref g0.length)]) I1.2.1
      have l2 := lmK_at (f := appM) (AL := aCons (eTup (aCons (eVar 3) (aCons (eBin ixD (eVar 4) (eC (.int 0))) (aCons (eBin ixD (eVar 4) (eC (.int 1))) aNil)))) aNil) (σ := [some (.str (st l)), some (.ref h.length), some (.ref (h.length + 1)), some (.int i), some (.ref g0.length)]) I2.1
      have P : appM (.ref h.length) [.tup [.int i, keyM k, .str (st b)]] g2 = .ok .non (g2.set h.length (.lst (R.map fdM ++ [fdM (i, k, b)]))) := P
      refine ⟨_, some (.ref g0.length), ?_, I3⟩
      refine (seq_at first).trans ((if_no ?_).trans ((seq_at (σ1 := [some (.str (st l)), some (.ref h.length), some (.ref (h.length + 1)), some (.int i), some (.ref g0.length)]) (h1 := g2.set h.length (.lst (R.map fdM ++ [fdM (i, k, b)]))) ((if_yes ?_).trans ((seq_at (σ1 := [some (.str (st l)), some (.ref h.length), some (.ref (h.length + 1)), some (.int i), some (.ref g0.length)]) (h1 := g2) ?_).trans ?_))).trans ?_))
      · simp [isNonM]
      · simp [x0, M]
      · simp [l1, x0, settle_k, P1]
      · simp [l2, y0, y1, settle_k, P]
      · simp [w2]
/-- the law's walk over a text -/
theorem walk_l (hz : l.length ≤ 80000) : ∀ (n i : Nat) (R : List Fd) (g : MH) (s4 : Option MV), l.length < n + i → 1 ≤ n → R.length ≤ i → In2 h g (.lst (R.map fdM)) (.lst (mtM R)) →
    ∃ σ' g', sWhile (tB (eBin ltM (eVar 3) (eCB1 lenD (eVar 0)))) l__law_due_0 n [some (.str (st l)), some (.ref h.length), some (.ref (h.length + 1)), some (.int i), s4] g = .next σ' g' ∧ σ'[1]? = some (some (.ref h.length)) ∧ In2 h g' (.lst ((recs l n i R).map fdM)) (.lst (mtM (recs l n i R)))
  | 0, i, R, g, s4, a, z, few, I => by omega
  | n + 1, i, R, g, s4, a, z, few, I => by
    have LN : lenM (.str (st l)) g = .ok (.int l.length) g := lenL (l := l) (h := g) (by omega)
    unfold sWhile
    by_cases hi : i < l.length
    · have hi' : (i : Int) < l.length := by omega
      obtain ⟨g1, t4, q, I1⟩ := turn_l (s4 := s4) hz hi few I
      have nx : i < (match recP l i with | none => i + 1 | some (k, b, e) => e) := by
        cases er : recP l i with
        | none => exact Nat.lt_succ_self i
        | some p =>
          obtain ⟨k, b, e⟩ := p
          exact rec_lt er
      have fw : (match recP l i with | none => R | some (k, b, e) => addR R i k b).length ≤ (match recP l i with | none => i + 1 | some (k, b, e) => e) := by
        cases er : recP l i with
        | none => exact Nat.le_succ_of_le few
        | some p =>
          obtain ⟨k, b, e⟩ := p
          have := rec_lt er
          have := addR_len (R := R) (i := i) (k := k) (b := b)
          show (addR R i k b).length ≤ e
          omega
      have rr : recs l (n + 1) i R = recs l n (match recP l i with | none => i + 1 | some (k, b, e) => e) (match recP l i with | none => R | some (k, b, e) => addR R i k b) := by
        rw [recs, if_pos hi]
        cases recP l i <;> rfl
      rw [rr]
      generalize (match recP l i with | none => i + 1 | some (k, b, e) => e) = j at q nx fw ⊢
      generalize (match recP l i with | none => R | some (k, b, e) => addR R i k b) = R1 at I1 fw ⊢
      obtain ⟨σ', g', w, w1, w2⟩ := walk_l hz n j R1 g1 t4 (by omega) (by omega) fw I1
      refine ⟨σ', g', ?_, w1, w2⟩
      generalize l__law_due_0 = B at q w ⊢
      simp [LN, ltM, hi', hi, q, w]
    · have hi' : ¬ (i : Int) < l.length := by omega
      have rr : recs l (n + 1) i R = R := by rw [recs, if_neg hi]
      rw [rr]
      refine ⟨[some (.str (st l)), some (.ref h.length), some (.ref (h.length + 1)), some (.int i), s4], g, ?_, rfl, I⟩
      simp [LN, ltM, hi', hi]
theorem due_at (hz : l.length ≤ 80000) : ∃ g', c__law_due [.str (st l)] h = .ok (.ref h.length) g' ∧ g'[h.length]? = some (.lst ((recs l 100000 0 []).map fdM)) ∧ ∀ (k : Nat) (o : MO), h[k]? = some o → g'[k]? = some o := by
  have I : In2 h (h ++ [.lst [], .lst []]) (.lst (([] : List Fd).map fdM)) (.lst (mtM [])) := ⟨by simp, by simp [mtM], fun k o e => by
    rw [List.getElem?_append_left (List.getElem?_eq_some_iff.mp e).1]
    exact e⟩
  obtain ⟨σ', g', w, w1, w2⟩ := walk_l hz 100000 0 [] _ none (by omega) (by omega) (Nat.zero_le _) I
  refine ⟨g', ?_, w2.1, w2.2.2⟩
  unfold c__law_due b__law_due
  generalize l__law_due_0 = B at w ⊢
  refine out_of (res := .ret (.ref h.length) g') ?_ rfl
  refine (seq_at (σ1 := [some (.str (st l)), some (.ref h.length), none, none, none]) (h1 := h ++ [.lst []]) ?_).trans ?_
  · simp
  refine (seq_at (σ1 := [some (.str (st l)), some (.ref h.length), some (.ref (h.length + 1)), none, none]) (h1 := h ++ [.lst [], .lst []]) ?_).trans ?_
  · simp
  refine (seq_at (σ1 := [some (.str (st l)), some (.ref h.length), some (.ref (h.length + 1)), some (.int ((0 : Nat) : Int)), none]) (h1 := h ++ [.lst [], .lst []]) ?_).trans ?_
  · simp
  refine (seq_at w).trans ?_
  simp [w1]
end
end My

set_option maxHeartbeats 400000
namespace My
open PySem PySem.Spec PyProof.Rows L2 Mi
variable [TheW]
/-! ### texts drawn -/
section
variable {l : List Nat} {h : MH}
theorem addS {a b : List Nat} (q : a.length + b.length ≤ 100000) : addM (.str (st a)) (.str (st b)) h = .ok (.str (st (a ++ b))) h := by
  rw [← st_app]
  exact if_pos (sz (by rw [st_len, st_len]; exact q))
theorem str_num {n : Nat} (hn : n < 100000) : strM [.int (n : Int)] h = .ok (.str (st (TL.numL n))) h := by
  have e : Str.ofString (toString ((n : Nat) : Int)) = st (TL.numL n) := SX.num_S n
  rw [← e]
  refine if_pos ?_
  rw [Int.natAbs_natCast]
  rcases Nat.eq_zero_or_pos n with z | z
  · subst z
    decide
  · have : n.log2 < 17 := (Nat.log2_lt (by omega)).mpr (by omega)
    omega
theorem num_len {n : Nat} (hn : n < 10000) : (TL.numL n).length ≤ 4 := TL.numL_len (by decide) (by simpa using hn)
theorem num_len2 {n : Nat} (hn : n < 100) : (TL.numL n).length ≤ 2 := TL.numL_len (by decide) (by simpa using hn)
theorem num_len1 {n : Nat} (hn : n < 10) : (TL.numL n).length ≤ 1 := TL.numL_len (by decide) (by simpa using hn)
theorem frame_at {w z : List Nat} {n : Nat} (hw : w.length ≤ 8) (hn : n < 10) (hz : z.length ≤ 60) : ∃ f, c__law_frame [.tup [.str (st w), .int n], .str (st z)] h = .ok (.str (st f)) h ∧ f.length ≤ w.length + z.length + 13 ∧ 1 ≤ f.length := by
  obtain ⟨s, hs, e⟩ : ∃ s : Nat, s < 9973 ∧ c__law_sum [.str (st z)] h = .ok (.int s) h := by
    have q := lsum_at (z := st z) (h := h) (by rw [st_len]; omega)
    have a := fmod_nn (a := wsum 0 (st z).cps.toList) (m := 9973) (by decide)
    have b := fmod_lt (a := wsum 0 (st z).cps.toList) (m := 9973) (by decide)
    refine ⟨((wsum 0 (st z).cps.toList).fmod 9973).toNat, by omega, ?_⟩
    rw [q, show (((wsum 0 (st z).cps.toList).fmod 9973).toNat : Int) = (wsum 0 (st z).cps.toList).fmod 9973 by omega]
  have n1 := num_len1 hn
  have n2 := num_len2 (n := z.length) (by omega)
  have n3 := num_len (n := s) (by omega)
  have t1 := str_num (n := n) (h := h) (by omega)
  have t2 := str_num (n := z.length) (h := h) (by omega)
  have t3 := str_num (n := s) (h := h) (by omega)
  have s1 : ("<" : Str) = st [60] := by decide
  have s2 : ("." : Str) = st [46] := by decide
  have s3 : (" " : Str) = st [32] := by decide
  have s4 : (">" : Str) = st [62] := by decide
  refine ⟨((((([60] ++ w) ++ [46]) ++ TL.numL n) ++ [32]) ++ TL.numL z.length) ++ [32] ++ TL.numL s ++ [32] ++ z ++ [62], ?_, by simp <;> omega, by simp <;> omega⟩
  have lz := lenL (l := z) (h := h) (by omega)
  unfold c__law_frame b__law_frame
  generalize c__law_sum = U at e ⊢
  generalize TL.numL n = A1 at t1 n1 ⊢
  generalize TL.numL z.length = A2 at t2 n2 ⊢
  generalize TL.numL s = A3 at t3 n3 ⊢
  rw [s1, s2, s3, s4]
  have add : ∀ {a b : List Nat}, a.length + b.length ≤ 1000 → addM (.str (st a)) (.str (st b)) h = .ok (.str (st (a ++ b))) h := fun q => addS (by omega)
  refine out_of (res := .ret (.str (st (((((([60] ++ w) ++ [46]) ++ A1) ++ [32]) ++ A2) ++ [32] ++ A3 ++ [32] ++ z ++ [62]))) h) ?_ rfl
  refine (seq_at (σ1 := [some (.tup [.str (st w), .int n]), some (.str (st z)), some (.str (st ((((([60] ++ w) ++ [46]) ++ A1) ++ [32]) ++ A2)))]) (h1 := h) ?_).trans ?_
  · have i0 : ixD (.tup [.str (st w), .int (n : Int)]) (.int 0) h = .ok (.str (st w)) h := rfl
    have i1 : ixD (.tup [.str (st w), .int (n : Int)]) (.int 1) h = .ok (.int n) h := rfl
    have a1 := add (a := [60]) (b := w) (by simp; omega)
    have a2 := add (a := [60] ++ w) (b := [46]) (by simp; omega)
    have a3 := add (a := [60] ++ w ++ [46]) (b := A1) (by simp; omega)
    have a4 := add (a := [60] ++ w ++ [46] ++ A1) (b := [32]) (by simp; omega)
    have a5 := add (a := [60] ++ w ++ [46] ++ A1 ++ [32]) (b := A2) (by simp; omega)
    generalize [60] ++ w = B1 at *
    generalize B1 ++ [46] = B2 at *
    generalize B2 ++ A1 = B3 at *
    generalize B3 ++ [32] = B4 at *
    generalize B4 ++ A2 = B5 at *
    simp [i0, i1, t1, t2, lz, a1, a2, a3, a4, a5]
  · have b1 := add (a := [60] ++ w ++ [46] ++ A1 ++ [32] ++ A2) (b := [32]) (by simp; omega)
    have b2 := add (a := [60] ++ w ++ [46] ++ A1 ++ [32] ++ A2 ++ [32]) (b := A3) (by simp; omega)
    have b3 := add (a := [60] ++ w ++ [46] ++ A1 ++ [32] ++ A2 ++ [32] ++ A3) (b := [32]) (by simp; omega)
    have b4 := add (a := [60] ++ w ++ [46] ++ A1 ++ [32] ++ A2 ++ [32] ++ A3 ++ [32]) (b := z) (by simp; omega)
    have b5 := add (a := [60] ++ w ++ [46] ++ A1 ++ [32] ++ A2 ++ [32] ++ A3 ++ [32] ++ z) (b := [62]) (by simp; omega)
    generalize [60] ++ w ++ [46] ++ A1 ++ [32] ++ A2 = C0 at *
    generalize C0 ++ [32] = C1 at *
    generalize C1 ++ A3 = C2 at *
    generalize C2 ++ [32] = C3 at *
    generalize C3 ++ z = C4 at *
    generalize C4 ++ [62] = C5 at *
    simp [e, t3, b1, b2, b3, b4, b5]
theorem occ_none {c k : Nat} (no : c ∉ l) (hk : 1 ≤ k) : (Builtin.Str.occurrences (st l) (st [c]) 0 (st l).length k).isEmpty = true := by
  have f := StrLaws.found_one (st l) c
  rw [decide_eq_false (by rw [st_codes]; exact no)] at f
  have ni : ¬ ∃ i, i + (⟨#[c]⟩ : Str).length ≤ (st l).length ∧ Builtin.Str.subAt (st l) ⟨#[c]⟩ i = true := fun z => by
    rw [(StrLaws.found_iff (st l) ⟨#[c]⟩).mpr z] at f
    cases f
  rcases StrLaws.occ_head (st l) (st [c]) k hk with ⟨e, _⟩ | ⟨i, r, e, a, _⟩
  · rw [e]
    rfl
  · exact absurd ⟨i, a⟩ ni
theorem repl0_at {y z : Str} {c : Nat} {A : ME} {σ : MS} {g g1 : MH} (e : A σ g = .ok (.str (st l)) g1) (hy : y = st [c]) (no : c ∉ l) : eRepl0 y z A σ g = .ok (.str (st l)) g1 := by
  subst hy
  unfold eRepl0
  rw [e]
  show (if _ then _ else _) = _
  rw [if_pos (occ_none no (by omega))]
theorem repl1_at {y z : Str} {A : ME} {σ : MS} {g g1 : MH} (e : A σ g = .ok (.str (st l)) g1) (hl : l.length ≤ 100000) : eRepl1 y z A σ g = .ok (.str (repl1 (st l) y z)) g1 := by
  unfold eRepl1
  rw [e]
  exact if_pos (by rw [st_len]; omega)
theorem as_st (z : Str) : ∃ l, z = st l ∧ l.length = z.length := ⟨z.cps.toList, (SX.S_tl z).symm, (cps_len z).symm⟩
end
end My

set_option maxHeartbeats 400000
namespace My
open PySem PySem.Spec PyProof.Rows L2 Mi
variable [TheW]
/-- a text of so many signs at the most -/
def Tx (n : Nat) (v : MV) : Prop := ∃ l : List Nat, v = .str (st l) ∧ l.length ≤ n
section
variable {l : List Nat} {h : MH} {r : Nat}
theorem ix_tmpN {xs : List MV} {i : Int} (a : 0 ≤ i) (b : i < xs.length) : ∃ z, ixM (.tmp xs) (.int i) h = .ok z h ∧ z ∈ xs := by
  obtain ⟨z, e, m⟩ := atI_nn a b
  exact ⟨z, by simp [ixM, asL, e], m⟩
theorem ix_txt {n : Nat} {xs : List MV} {i : Int} (a : 0 ≤ i) (b : i < xs.length) (t : ∀ x ∈ xs, Tx n x) : ∃ l, ixM (.tmp xs) (.int i) h = .ok (.str (st l)) h ∧ l.length ≤ n := by
  obtain ⟨z, e, m⟩ := ix_tmpN (h := h) a b
  obtain ⟨l, rfl, q⟩ := t z m
  exact ⟨l, e, q⟩
theorem sl_to {k : Nat} (hz : l.length ≤ 100000) : slM (.str (st l)) none (some (k : Int)) h = .ok (.str (st (l.take k))) h := by
  rw [← st_take]
  exact if_pos (sz (by rw [st_len]; omega))
theorem sl_from {k : Nat} (hz : l.length ≤ 100000) : slM (.str (st l)) (some (k : Int)) none h = .ok (.str (st (l.drop k))) h := by
  rw [← st_drop]
  exact if_pos (sz (by rw [st_len]; omega))
theorem owner_at {z : MV} (hz : z ∈ [MV.str "a", .str "bob", .str "zzzzzzzz"]) : ∃ w : List Nat, z = .str (st w) ∧ w.length ≤ 8 := by
  simp only [List.mem_cons, List.not_mem_nil, or_false] at hz
  rcases hz with rfl | rfl | rfl
  · exact ⟨[97], congrArg MV.str (by decide), by decide⟩
  · exact ⟨[98, 111, 98], congrArg MV.str (by decide), by decide⟩
  · exact ⟨[122, 122, 122, 122, 122, 122, 122, 122], congrArg MV.str (by decide), by decide⟩
theorem piece_at (p : Rm h r) : ∃ l h', c__law_piece [.ref r] h = .ok (.str (st l)) h' ∧ l.length ≤ 60 ∧ Rm h' r ∧ Fr r h h' := by
  obtain ⟨v1, h1, E1, a1, b1, p1, f1, n1⟩ := take_at p (m := 3) (by decide) (by decide)
  obtain ⟨z1, I1, m1⟩ := ix_tmpN (xs := [MV.str "a", .str "bob", .str "zzzzzzzz"]) (h := h1) a1 (by simpa using b1)
  obtain ⟨w, rfl, hw⟩ := owner_at m1
  obtain ⟨v2, h2, E2, a2, b2, p2, f2, n2⟩ := take_at p1 (m := 4) (by decide) (by decide)
  obtain ⟨n, hn⟩ : ∃ n : Nat, 1 + v2 = n := ⟨(1 + v2).toNat, by omega⟩
  obtain ⟨v3, h3, E3, a3, b3, p3, f3, n3⟩ := take_at p2 (m := 9) (by decide) (by decide)
  obtain ⟨k3, rfl⟩ : ∃ k : Nat, v3 = k := ⟨v3.toNat, by omega⟩
  obtain ⟨t, h4, E4, t1, t2, p4, f4, n4⟩ := line_at p3 (n := k3) (by omega)
  obtain ⟨f, E5, g1, g2⟩ := frame_at (w := w) (z := t) (n := n) (h := h4) hw (by omega) (by omega)
  have e1 : sAsg 1 (eTup (aCons (eBin ixD (eLst (aCons (eC (.str "a")) (aCons (eC (.str "bob")) (aCons (eC (.str "zzzzzzzz")) aNil)))) (eCall (gb [.p 0, .p 1] [] []) c__law_take (aCons (eVar 0) (aCons (eC (.int 3)) aNil)) aNil)) (aCons (eBin addM (eC (.int 1)) (eCall (gb [.p 0, .p 1] [] []) c__law_take (aCons (eVar 0) (aCons (eC (.int 4)) aNil)) aNil)) aNil))) [some (.ref r), none, none, none] h = .next [some (.ref r), some (.tup [.str (st w), .int n]), none, none] h2 := by
    generalize c__law_take = X at E1 E2 ⊢
    simp [E1, I1, E2, hn]
  have e2 : sAsg 2 (eCall (gb [.p 0, .p 1] [] []) c__law_frame (aCons (eVar 1) (aCons (eRepl0 ">" "" (eRepl0 "<" "" (eCall (gb [.p 0, .p 1] [] []) c__law_line (aCons (eVar 0) (aCons (eCall (gb [.p 0, .p 1] [] []) c__law_take (aCons (eVar 0) (aCons (eC (.int 9)) aNil)) aNil) aNil)) aNil))) aNil)) aNil) [some (.ref r), some (.tup [.str (st w), .int n]), none, none] h2 = .next [some (.ref r), some (.tup [.str (st w), .int n]), some (.str (st f)), none] h4 := by
    have q0 : eCall (gb [.p 0, .p 1] [] []) c__law_line (aCons (eVar 0) (aCons (eCall (gb [.p 0, .p 1] [] []) c__law_take (aCons (eVar 0) (aCons (eC (.int 9)) aNil)) aNil) aNil)) aNil [some (.ref r), some (.tup [.str (st w), .int n]), none, none] h2 = .ok (.str (st t)) h4 := by
      generalize c__law_take = X at E3 ⊢
      generalize c__law_line = Y at E4 ⊢
      simp [E3, E4]
    have q1 := repl0_at (y := "<") (z := "") (c := 60) q0 (by decide) fun z => (t2 60 z).1 rfl
    have q2 := repl0_at (y := ">") (z := "") (c := 62) q1 (by decide) fun z => (t2 62 z).2 rfl
    generalize eRepl0 ">" "" _ = EE at q2 ⊢
    generalize c__law_frame = Z at E5 ⊢
    simp [q2, E5]
  obtain ⟨v5, h5, E6, a5, b5, p5, f5, n5⟩ := take_at p4 (m := 9) (by decide) (by decide)
  obtain ⟨k5, rfl⟩ : ∃ k : Nat, v5 = k := ⟨v5.toNat, by omega⟩
  have M := mul_rep (c := 126) (n := k5) (h := h5) (by omega)
  rw [show st [126] = ("~" : Str) by decide] at M
  obtain ⟨t6, h6, E7, u1, u2, p6, f6, n6⟩ := line_at p5 (n := 3) (by omega)
  obtain ⟨v7, h7, E8, a7, b7, p7, f7, n7⟩ := take_at p6 (m := (f.length : Int)) (by omega) (by omega)
  obtain ⟨k7, rfl⟩ : ∃ k : Nat, v7 = k := ⟨v7.toNat, by omega⟩
  have LN : lenM (.str (st f)) h6 = .ok (.int f.length) h6 := lenL (by omega)
  have SL := sl_to (l := f) (k := k7) (h := h7) (by omega)
  generalize hxs : [MV.str (st f), .str (st f), .str (st f), .str (st (List.replicate k5 126)), .str (st t6), .str (st (f.take k7))] = xs
  have lx : xs.length = 6 := by rw [← hxs]; rfl
  have tx : ∀ x ∈ xs, Tx 60 x := by
    rw [← hxs]
    intro x hx
    simp only [List.mem_cons, List.not_mem_nil, or_false] at hx
    rcases hx with rfl | rfl | rfl | rfl | rfl | rfl
    · exact ⟨f, rfl, by omega⟩
    · exact ⟨f, rfl, by omega⟩
    · exact ⟨f, rfl, by omega⟩
    · exact ⟨_, rfl, by rw [List.length_replicate]; omega⟩
    · exact ⟨_, rfl, by omega⟩
    · exact ⟨_, rfl, by rw [List.length_take]; omega⟩
  have e3 : sAsg 3 (eLst (aCons (eVar 2) (aCons (eVar 2) (aCons (eVar 2) (aCons (eBin mulM (eC (.str "~")) (eCall (gb [.p 0, .p 1] [] []) c__law_take (aCons (eVar 0) (aCons (eC (.int 9)) aNil)) aNil)) (aCons (eCall (gb [.p 0, .p 1] [] []) c__law_line (aCons (eVar 0) (aCons (eC (.int 3)) aNil)) aNil) (aCons (eSl slM (eVar 2) oNo (oSo (eCall (gb [.p 0, .p 1] [] []) c__law_take (aCons (eVar 0) (aCons (eCB1 lenD (eVar 2)) aNil)) aNil))) aNil))))))) [some (.ref r), some (.tup [.str (st w), .int n]), some (.str (st f)), none] h4 = .next [some (.ref r), some (.tup [.str (st w), .int n]), some (.str (st f)), some (.ref h7.length)] (h7 ++ [.lst xs]) := by
    have E7 : c__law_line [.ref r, .int 3] h5 = .ok (.str (st t6)) h6 := E7
    rw [← hxs]
    generalize c__law_take = X at E6 E8 ⊢
    generalize c__law_line = Y at E7 ⊢
    simp [E6, M, E7, LN, E8, SL]
  have g8 : (h7 ++ [MO.lst xs])[h7.length]? = some (.lst xs) := get_last
  have p8 : Rm (h7 ++ [MO.lst xs]) r := p7.app
  have f8 : Fr r h7 (h7 ++ [MO.lst xs]) := Fr.app
  generalize h7 ++ [MO.lst xs] = h8 at e3 g8 p8 f8
  obtain ⟨q, hq, lq⟩ := as_st (repl1 (st f) " " "  ")
  have R1 : ∀ {σ : MS}, σ[2]? = some (some (.str (st f))) → eRepl1 " " "  " (eVar 2) σ h8 = .ok (.str (st q)) h8 := fun {σ} e => by
    rw [← hq]
    exact repl1_at (by simp [e]) (by omega)
  have lq : q.length ≤ 60 := by
    have := repl1_len (x := st f) (y := " ") (z := "  ")
    rw [st_len, show ("  " : Str).length = 2 by decide] at this
    omega
  have A0 := addS (a := [60]) (b := f) (h := h8) (by simp; omega)
  rw [show st [60] = ("<" : Str) by decide] at A0
  have A1 := add_rt (ys := [MV.str (st q), .str (st ([60] ++ f))]) g8 (by rw [lx]; simp)
  obtain ⟨v9, h9, E9, a9, b9, p9, f9, n9⟩ := take_at p8 (m := 8) (by decide) (by decide)
  obtain ⟨o, I2, ho⟩ := ix_txt (n := 60) (xs := xs ++ [MV.str (st q), .str (st ([60] ++ f))]) (h := h9) a9 (by simp [lx]; exact b9) fun x hx => by
    rcases List.mem_append.mp hx with z | z
    · exact tx x z
    · simp only [List.mem_cons, List.not_mem_nil, or_false] at z
      rcases z with rfl | rfl
      · exact ⟨q, rfl, lq⟩
      · exact ⟨_, rfl, by simp; omega⟩
  refine ⟨o, h9, ?_, ho, p9, (((((((f1.trans f2).trans f3).trans f4).trans f5).trans f6).trans f7).trans f8).trans f9⟩
  unfold c__law_piece b__law_piece
  refine out_of (res := .ret (.str (st o)) h9) ?_ rfl
  refine (seq_at e1).trans ((seq_at e2).trans ((seq_at e3).trans ?_))
  have R2 := R1 (σ := [some (.ref r), some (.tup [.str (st w), .int n]), some (.str (st f)), some (.ref h7.length)]) rfl
  generalize eRepl1 " " "  " (eVar 2) = EE at R2 ⊢
  generalize c__law_take = X at E9 ⊢
  simp only [List.cons_append, List.nil_append] at A0
  simp [R2, A0]
  simp only [List.cons_append, List.nil_append] at A1 I2
  simp [A1, E9, I2]
theorem bent_at (p : Rm h r) (hl : l.length ≤ 2000) : ∃ l' h', c__law_bent [.ref r, .str (st l)] h = .ok (.str (st l')) h' ∧ l'.length ≤ l.length + 1 ∧ Rm h' r ∧ Fr r h h' := by
  obtain ⟨v1, h1, E1, a1, b1, p1, f1, n1⟩ := take_at p (m := (l.length : Int) + 1) (by omega) (by omega)
  obtain ⟨k, rfl⟩ : ∃ k : Nat, v1 = k := ⟨v1.toNat, by omega⟩
  obtain ⟨v2, h2, E2, a2, b2, p2, f2, n2⟩ := take_at p1 (m := 12) (by decide) (by decide)
  obtain ⟨c, I1⟩ : ∃ c, ixM (.str "<>~. 0129ab\n") (.int v2) h2 = .ok (.str (st [c])) h2 := by
    obtain ⟨c, e, _⟩ := atI_nn (xs := ("<>~. 0129ab\n" : Str).cps.toList) a2 (by rw [show ("<>~. 0129ab\n" : Str).cps.toList.length = 12 by decide +kernel]; exact b2)
    refine ⟨c, ?_⟩
    have le : ("<>~. 0129ab\n" : Str).length ≤ sizeLine := by rw [show ("<>~. 0129ab\n" : Str).length = 12 by decide +kernel, sizeLine_eq]; decide
    unfold ixM
    simp only [if_pos le, e]
    rfl
  have LN : lenM (.str (st l)) h = .ok (.int l.length) h := lenL (by omega)
  have S1 := sl_to (l := l) (k := k) (h := h2) (by omega)
  have S2 := sl_from (l := l) (k := k) (h := h2) (by omega)
  have S3 := sl_from (l := l) (k := k + 1) (h := h2) (by omega)
  rw [show ((k + 1 : Nat) : Int) = (k : Int) + 1 by omega] at S3
  have t1 : (l.take k).length ≤ k := by rw [List.length_take]; omega
  have t2 : (l.take k).length + (l.drop k).length = l.length := by rw [← List.length_append, List.take_append_drop]
  have t3 : (l.drop (k + 1)).length ≤ (l.drop k).length := by rw [List.length_drop, List.length_drop]; omega
  have A1 := addS (a := l.take k) (b := [c]) (h := h2) (by simp; omega)
  have A2 := addS (a := l.take k ++ [c]) (b := l.drop k) (h := h2) (by simp; omega)
  have A3 := addS (a := l.take k ++ [c]) (b := l.drop (k + 1)) (h := h2) (by simp; omega)
  have A4 := addS (a := l.take k) (b := l.drop (k + 1)) (h := h2) (by omega)
  generalize hxs : [MV.str (st (l.take k ++ [c] ++ l.drop k)), .str (st (l.take k ++ [c] ++ l.drop (k + 1))), .str (st (l.take k ++ l.drop (k + 1))), .str (st (l.take k))] = xs
  have lx : xs.length = 4 := by rw [← hxs]; rfl
  have tx : ∀ x ∈ xs, Tx (l.length + 1) x := by
    rw [← hxs]
    intro x hx
    simp only [List.mem_cons, List.not_mem_nil, or_false] at hx
    rcases hx with rfl | rfl | rfl | rfl
    · exact ⟨_, rfl, by rw [List.length_append, List.length_append]; simp only [List.length_singleton]; omega⟩
    · exact ⟨_, rfl, by rw [List.length_append, List.length_append]; simp only [List.length_singleton]; omega⟩
    · exact ⟨_, rfl, by rw [List.length_append]; omega⟩
    · exact ⟨_, rfl, by omega⟩
  have p3 : Rm (h2 ++ [MO.lst xs]) r := p2.app
  have f3 : Fr r h2 (h2 ++ [MO.lst xs]) := Fr.app
  have g3 : (h2 ++ [MO.lst xs])[h2.length]? = some (.lst xs) := get_last
  generalize hh3 : h2 ++ [MO.lst xs] = h3 at p3 f3 g3
  have S4 := sl_from (l := l) (k := k) (h := h3) (by omega)
  have A5 := add_rt (ys := [MV.str (st (l.drop k))]) g3 (by rw [lx]; simp)
  obtain ⟨v4, h4, E4, a4, b4, p4, f4, n4⟩ := take_at p3 (m := 5) (by decide) (by decide)
  obtain ⟨o, I2, ho⟩ := ix_txt (n := l.length + 1) (xs := xs ++ [MV.str (st (l.drop k))]) (h := h4) a4 (by simp [lx]; exact b4) fun x hx => by
    rcases List.mem_append.mp hx with z | z
    · exact tx x z
    · cases List.mem_singleton.mp z
      exact ⟨_, rfl, by omega⟩
  refine ⟨o, h4, ?_, ho, p4, ((f1.trans f2).trans f3).trans f4⟩
  unfold c__law_bent b__law_bent
  generalize c__law_take = X at E1 E2 E4 ⊢
  refine out_of (res := .ret (.str (st o)) h4) ?_ rfl
  refine (seq_at (σ1 := [some (.ref r), some (.str (st l)), some (.int k), none, none]) (h1 := h1) ?_).trans ?_
  · simp [LN, E1]
  refine (seq_at (σ1 := [some (.ref r), some (.str (st l)), some (.int k), some (.str (st [c])), none]) (h1 := h2) ?_).trans ?_
  · simp [E2, I1]
  refine (seq_at (σ1 := [some (.ref r), some (.str (st l)), some (.int k), some (.str (st [c])), some (.ref h2.length)]) (h1 := h3) ?_).trans ?_
  · rw [← hh3, ← hxs]
    generalize l.take k ++ l.drop (k + 1) = B4 at *
    generalize hB2 : l.take k ++ [c] ++ l.drop k = B2 at *
    generalize hB3 : l.take k ++ [c] ++ l.drop (k + 1) = B3 at *
    generalize l.take k ++ [c] = B1 at *
    simp [S1, S2, S3, A1, A2, A3, A4]
  · simp [S4, A5, E4, I2]
end
end My

set_option maxHeartbeats 400000
namespace My
open PySem PySem.Spec PyProof.Rows L2 Mi
variable [TheW]
/-! ### what is found, as a text -/
def SOk (z : Str) : Prop := z.cps.toList.length ≤ 60 ∧ ∀ c ∈ z.cps.toList, c < 128
def Sc : MV → Prop
  | .non => True
  | .bl _ => True
  | .int i => (PyData.shown (.int i)).length ≤ 60 ∧ i.natAbs.log2 < 1920
  | .str z => SOk z
  | _ => False
def Rq (n : Nat) (b : Bool) (B : Nat) (h : MH) (v : MV) : Prop := ∃ d, snapR n h v = some d ∧ d.showable = true ∧ d.leavesShort 60 = true ∧ d.bulk ≤ B ∧ (b = true → d.hasDict = false) ∧ (b = false → noLst d = true)
theorem rq_sc {n : Nat} {b : Bool} {h : MH} {v : MV} (s : Sc v) : Rq (n + 1) b 60 h v := by
  cases v with
  | non => exact ⟨.none, rfl, rfl, rfl, by decide, fun _ => rfl, fun _ => rfl⟩
  | bl x => exact ⟨.bool x, rfl, rfl, rfl, Nat.zero_le _, fun _ => rfl, fun _ => rfl⟩
  | int i => exact ⟨.int i, rfl, by simpa [PyData.showable] using s.2, by simpa [PyData.leavesShort] using s.1, Nat.zero_le _, fun _ => rfl, fun _ => rfl⟩
  | str z =>
    refine ⟨.str z, rfl, rfl, ?_, ?_, fun _ => rfl, fun _ => rfl⟩
    · simp only [PyData.leavesShort, List.all_eq_true, decide_eq_true_eq]
      exact fun c hc => Nat.lt_trans (s.2 c hc) (by decide)
    · have := s.1
      simpa [PyData.bulk] using this
  | _ => exact s.elim
theorem rq_all {n : Nat} {b : Bool} {B : Nat} {h : MH} : ∀ {xs : List MV}, (∀ x ∈ xs, Rq n b B h x) → ∃ ds, xs.mapM (snapR n h) = some ds ∧ PyData.showableAll ds = true ∧ PyData.leavesShortAll 60 ds = true ∧ PyData.bulkAll ds ≤ xs.length * (B + 1) ∧ (b = true → PyData.hasDictAll ds = false) ∧ (b = false → noLstAll ds = true)
  | [], _ => ⟨[], rfl, rfl, rfl, by simp [PyData.bulkAll], fun _ => rfl, fun _ => rfl⟩
  | x :: xs, H => by
    obtain ⟨d, a1, a2, a3, a4, a5, a6⟩ := H x (List.mem_cons_self ..)
    obtain ⟨ds, b1, b2, b3, b4, b5, b6⟩ := rq_all fun y hy => H y (List.mem_cons_of_mem _ hy)
    refine ⟨d :: ds, by rw [List.mapM_cons, a1, b1]; rfl, by simp [PyData.showableAll, a2, b2], by simp [PyData.leavesShortAll, a3, b3], ?_, fun e => by simp [PyData.hasDictAll, a5 e, b5 e], fun e => by simp [noLstAll, a6 e, b6 e]⟩
    rw [List.length_cons, Nat.add_mul, Nat.one_mul]
    simp only [PyData.bulkAll]
    omega
theorem rq_tup {n : Nat} {b : Bool} {B L : Nat} {h : MH} {xs : List MV} (hl : xs.length ≤ L) (H : ∀ x ∈ xs, Rq n b B h x) : Rq (n + 1) b (L * (B + 1)) h (.tup xs) := by
  obtain ⟨ds, b1, b2, b3, b4, b5, b6⟩ := rq_all H
  refine ⟨.tuple ds, by show (xs.mapM (snapR n h)).map PyData.tuple = _; rw [b1]; rfl, b2, b3, ?_, b5, b6⟩
  exact Nat.le_trans b4 (Nat.mul_le_mul_right _ hl)

theorem rq_up {n : Nat} {b : Bool} {B C : Nat} {h : MH} {v : MV} (l : B ≤ C) (r : Rq n b B h v) : Rq n b C h v := by
  obtain ⟨d, a1, a2, a3, a4, a5⟩ := r
  exact ⟨d, a1, a2, a3, Nat.le_trans a4 l, a5⟩
omit [TheW] in
theorem val_lt : ∀ (n : Nat) (a : List Nat), a.length = n → NumText.AllDigits a → NumText.digitsVal a < 10 ^ n
  | 0, a, e, _ => by
    have : a = [] := List.length_eq_zero_iff.mp e
    subst this
    decide
  | n + 1, a, e, d => by
    obtain ⟨b, c, rfl⟩ : ∃ b c, a = b ++ [c] := by
      have ne : a ≠ [] := fun z => by rw [z] at e; cases e
      exact ⟨a.dropLast, a.getLast ne, (List.dropLast_concat_getLast ne).symm⟩
    have lb : b.length = n := by simpa using e
    have ih := val_lt n b lb fun x hx => d x (List.mem_append_left _ hx)
    have hc := d c (by simp)
    rw [NumText.digitsVal_snoc, Nat.pow_succ]
    omega
/-- what is right about a record -/
def RcOk (k : List Nat × Nat) (b : List Nat) : Prop := k.1.length ≤ 8 ∧ (∀ c ∈ k.1, c < 128) ∧ k.2 < 10 ^ 30 ∧ b.length ≤ 60 ∧ ∀ c ∈ b, c < 128
section
variable {l : List Nat} {i : Nat}
theorem ltr_lt {c : Nat} (e : ltr c = true) : c < 128 := by
  have a : abc = st abc.cps.toList := (SX.S_tl abc).symm
  unfold ltr inStr at e
  rw [a] at e
  have q : (!(Builtin.Str.occurrences (st abc.cps.toList) (st [c]) 0 (st abc.cps.toList).length 1).isEmpty) = decide (c ∈ abc.cps.toList) := SX.in_one _ c
  rw [q] at e
  have m := of_decide_eq_true e
  have all : abc.cps.toList.all (fun c => decide (c < 128)) = true := by decide +kernel
  simpa using List.all_eq_true.mp all c m
theorem num_small {n j : Nat} (e : numP l i = some (n, j)) : n < 10 ^ 30 := by
  unfold numP at e
  split at e
  · rename_i c
    cases e
    have d : NumText.AllDigits ((l.drop i).take (span dgt l i - i)) := fun c hc => by
      have := span_all c hc
      rw [dgt_iff] at this
      simpa using this
    have v := val_lt _ _ rfl d
    refine Nat.lt_of_lt_of_le v (Nat.pow_le_pow_right (by decide) ?_)
    rw [List.length_take]
    omega
  · cases e
theorem key_ok {k : List Nat × Nat} {j : Nat} (e : keyP l i = some (k, j)) : k.1.length ≤ 8 ∧ (∀ c ∈ k.1, c < 128) ∧ k.2 < 10 ^ 30 := by
  unfold keyP at e
  split at e
  · rename_i c
    split at e
    · rename_i n j' q
      split at e
      · cases e
      · cases e
        refine ⟨?_, fun c hc => ltr_lt (span_all c hc), num_small q⟩
        show ((l.drop i).take (span ltr l i - i)).length ≤ 8
        rw [List.length_take]
        omega
    · cases e
  · cases e
theorem rec_ok {k : List Nat × Nat} {b : List Nat} {e : Nat} (q : recP l i = some (k, b, e)) : RcOk k b ∧ e ≤ l.length := by
  unfold recP at q
  split at q
  · split at q
    · cases q
    · rename_i k' j q1
      split at q
      · cases q
      · rename_i m p q2
        split at q
        · cases q
        · rename_i t b' q3
          split at q
          · rename_i ok
            cases q
            obtain ⟨a1, a2, a3⟩ := key_ok q1
            unfold bodyOk at ok
            simp only [Bool.and_eq_true, decide_eq_true_eq, List.all_eq_true] at ok
            obtain ⟨o1, o2, ⟨o3, o4⟩, o5⟩ := ok
            refine ⟨⟨a1, a2, a3, o4, fun c hc => ?_⟩, ?_⟩
            · have := o3 c hc
              simp only [fine, inR, Bool.and_eq_true, decide_eq_true_eq] at this
              omega
            · have := (List.getElem?_eq_some_iff.mp o2).1
              omega
          · cases q
  · cases q
theorem recs_ok : ∀ (n i : Nat) (R : List Fd), R.length ≤ i → i ≤ l.length → (∀ r ∈ R, r.1 ≤ l.length ∧ RcOk r.2.1 r.2.2) → (recs l n i R).length ≤ l.length ∧ ∀ r ∈ recs l n i R, r.1 ≤ l.length ∧ RcOk r.2.1 r.2.2
  | 0, i, R, a, b, H => ⟨Nat.le_trans a b, H⟩
  | n + 1, i, R, a, b, H => by
    rw [recs]
    split
    · rename_i hi
      cases er : recP l i with
      | none => exact recs_ok n (i + 1) R (by omega) (by omega) H
      | some p =>
        obtain ⟨k, c, e⟩ := p
        obtain ⟨o1, o2⟩ := rec_ok er
        have lt := rec_lt er
        have la := addR_len (R := R) (i := i) (k := k) (b := c)
        refine recs_ok n e (addR R i k c) (by omega) o2 fun r hr => ?_
        unfold addR at hr
        split at hr
        · exact H r hr
        · rcases List.mem_append.mp hr with z | z
          · exact H r z
          · cases List.mem_singleton.mp z
            exact ⟨Nat.le_of_lt hi, o1⟩
    · exact ⟨Nat.le_trans a b, H⟩
end
theorem sc_nat {n : Nat} (h : n < 10 ^ 30) : Sc (.int (n : Int)) := by
  refine ⟨?_, ?_⟩
  · show (Str.ofString (toString ((n : Nat) : Int))).length ≤ 60
    rw [SX.num_S, SX.S_len]
    have := TL.numL_len (n := n) (k := 30) (by decide) h
    omega
  · rw [Int.natAbs_natCast]
    rcases Nat.eq_zero_or_pos n with z | z
    · subst z
      decide
    · have : n.log2 < 100 := (Nat.log2_lt (by omega)).mpr (Nat.lt_of_lt_of_le h (by decide))
      omega
theorem sok_st {l : List Nat} (a : l.length ≤ 60) (b : ∀ c ∈ l, c < 128) : Sc (.str (st l)) := by
  show SOk (st l)
  unfold SOk
  rw [st_codes]
  exact ⟨a, b⟩
theorem rq_fd {h : MH} {r : Fd} {n : Nat} (p : r.1 < 10 ^ 30) (o : RcOk r.2.1 r.2.2) : Rq (n + 3) true 369 h (fdM r) := by
  obtain ⟨a1, a2, a3, a4, a5⟩ := o
  refine rq_tup (B := 122) (L := 3) (by simp) fun x hx => ?_
  simp only [List.mem_cons, List.not_mem_nil, or_false] at hx
  rcases hx with rfl | rfl | rfl
  · exact rq_up (by decide) (rq_sc (sc_nat p))
  · refine rq_tup (B := 60) (L := 2) (by simp) fun y hy => ?_
    simp only [List.mem_cons, List.not_mem_nil, or_false] at hy
    rcases hy with rfl | rfl
    · exact rq_sc (sok_st (by omega) a2)
    · exact rq_sc (sc_nat a3)
  · exact rq_up (by decide) (rq_sc (sok_st a4 a5))
theorem snap_fd {n : Nat} {h : MH} {r : Fd} : snapR (n + 3) h (fdM r) = some (.tuple [.int r.1, .tuple [.str (st r.2.1.1), .int r.2.1.2], .str (st r.2.2)]) := rfl
theorem snap_ref {n k : Nat} {h : MH} {xs : List MV} {ds : List PyData} (e : h[k]? = some (.lst xs)) (b : xs.mapM (snapR n h) = some ds) : snapR (n + 1) h (.ref k) = some (.list ds) := by
  simp only [snapR, e, b]
  rfl
theorem repr_ds {ds : List PyData} {n : Nat} {h : MH} (s : snapR 30 h (.ref n) = some (.list ds)) (b2 : PyData.showableAll ds = true) (b3 : PyData.leavesShortAll 60 ds = true) (b4 : PyData.bulkAll ds ≤ 222000) (b5 : PyData.hasDictAll ds = false) : reprM (.ref n) h = .ok (.str (PyData.list ds).shown) h := by
  have c1 : okR (.list ds) = true := by
    unfold okR
    have : (PyData.list ds).hasDict = false := b5
    rw [this]
    rfl
  have c2 : (PyData.list ds).showable = true := b2
  have c3 : (PyData.list ds).shown.length ≤ sizeLine := by
    have q := PyData.shown_le_bulk 60 (by decide) (.list ds) b3
    have b : (PyData.list ds).bulk ≤ 222000 := b4
    generalize (PyData.list ds).bulk = B at q b
    generalize (PyData.list ds).shown.length = N at q ⊢
    rw [sizeLine_eq]
    omega
  unfold reprM
  rw [s]
  exact if_pos ⟨c1, c2, c3⟩
theorem mapM_same {α β : Type} {f g : α → Option β} : ∀ {L : List α}, (∀ x ∈ L, f x = g x) → L.mapM f = L.mapM g
  | [], _ => by rw [List.mapM_nil, List.mapM_nil]
  | x :: L, H => by rw [List.mapM_cons, List.mapM_cons, H x (List.mem_cons_self ..), mapM_same fun y hy => H y (List.mem_cons_of_mem _ hy)]
theorem same_fds {R : List Fd} {h : MH} : (R.map fdM).mapM (snapR 29 h) = (R.map fdM).mapM (snapR 29 []) := by
  refine mapM_same fun x hx => ?_
  obtain ⟨r, _, rfl⟩ := List.mem_map.mp hx
  rw [snap_fd (n := 26), snap_fd (n := 26)]
theorem fds_of {R : List Fd} (ok : ∀ r ∈ R, r.1 < 10 ^ 30 ∧ RcOk r.2.1 r.2.2) {h : MH} : ∀ x ∈ R.map fdM, Rq 29 true 369 h x := fun x hx => by
  obtain ⟨r, hr, rfl⟩ := List.mem_map.mp hx
  exact rq_fd (n := 26) (ok r hr).1 (ok r hr).2
/-- its text hangs on what is found alone -/
theorem repr_fds {R : List Fd} (few : R.length ≤ 600) (ok : ∀ r ∈ R, r.1 < 10 ^ 30 ∧ RcOk r.2.1 r.2.2) : ∃ z, ∀ (h : MH) (n : Nat), h[n]? = some (.lst (R.map fdM)) → reprM (.ref n) h = .ok (.str z) h := by
  obtain ⟨ds, b1, b2, b3, b4, b5, _⟩ := rq_all (fds_of ok (h := []))
  rw [List.length_map] at b4
  refine ⟨(PyData.list ds).shown, fun h n e => ?_⟩
  exact repr_ds (snap_ref e (same_fds.trans b1)) b2 b3 (by omega) (b5 rfl)
end My

set_option maxHeartbeats 400000
namespace My
open PySem PySem.Spec PyProof.Rows L2 Mi
variable [TheW]
/-! ### the law -/
noncomputable def lw1 : MSt := (sAsg 1 (eLst (aCons (eC (.str "")) (aCons (eC (.str "<")) (aCons (eC (.str "<a.1 0 0 >")) (aCons (eC (.str "<a.0 0 0 >")) (aCons (eC (.str "<a.01 0 0 >")) (aCons (eC (.str "<a.1 00 0 >")) (aCons (eC (.str "<a.1 0 00 >")) (aCons (eC (.str "<a.1 0 0>")) (aCons (eC (.str "<A.1 0 0 >")) aNil)))))))))))
noncomputable def lw2 : MSt := (sAsg 1 (eBin addM (eVar 1) (eLst (aCons (eC (.str "<a.1 1 65 A><a.1 1 66 B>")) (aCons (eC (.str "<a.1 1 66 A>")) (aCons (eC (.str "<<a.1 1 65 A>>")) (aCons (eC (.str "<a.1 12 0 <b.1 1 65 A>")) aNil)))))))
noncomputable def lw3 : MSt := (sAsg 1 (eBin addM (eVar 1) (eLst (aCons (eC (.str "<abcdefghi.1 0 0 >")) (aCons (eCall (gb [.p 0, .p 1] [] []) c__law_frame (aCons (eTup (aCons (eC (.str "a")) (aCons (eC (.int 1)) aNil))) (aCons (eBin mulM (eC (.str "x")) (eC (.int 60))) aNil)) aNil) (aCons (eC (.str "<a.1000000000000 0 0 >")) (aCons (eC (.str "<a.1 0 9973 >")) aNil)))))))
noncomputable def lw4 : MSt := (sDrop (eLM appM (eVar 1) (aCons (eBin addM (eBin addM (eC (.str "<a.1 61 0 ")) (eBin mulM (eC (.str "x")) (eC (.int 61)))) (eC (.str ">"))) aNil)))
noncomputable def lw5 : MSt := (sFor (iR1 (aCons (eCB max2M (aCons (eC (.int 1)) (aCons (eCB min2M (aCons (eCB1 lenD (eVar 0)) (aCons (eC (.int 20)) aNil))) aNil))) aNil)) (gN 2) l_law_2)
noncomputable def lw6 : MSt := (sFor (iSeq (eVar 1)) (gN 5) l_law_1)
noncomputable def lw0 : MSt := (sRet (eBin eqM (eCall (gb [.k 0] [] []) c_records_in aNil (aCons (eC (.str "<a.1 0 0 >")) aNil)) (eLst (aCons (eTup (aCons (eC (.int 0)) (aCons (eTup (aCons (eC (.str "a")) (aCons (eC (.int 1)) aNil))) (aCons (eC (.str "")) aNil)))) aNil))))
theorem lw_eq : b_law = (sSeq lw1 (sSeq lw2 (sSeq lw3 (sSeq lw4 (sSeq lw5 (sSeq lw6 lw0)))))) := rfl

def Old (h h' : MH) : Prop := ∀ (k : Nat) (o : MO), h[k]? = some o → h'[k]? = some o
theorem Old.refl {h : MH} : Old h h := fun _ _ e => e
theorem Old.trans {h h1 h2 : MH} (a : Old h h1) (b : Old h1 h2) : Old h h2 := fun k o e => b k o (a k o e)
theorem Old.app {h l : MH} : Old h (h ++ l) := fun k o e => by
  rw [List.getElem?_append_left (List.getElem?_eq_some_iff.mp e).1]
  exact e
theorem Old.set {h g : MH} {n : Nat} {o : MO} (f : Old h g) (l : h.length ≤ n) : Old h (g.set n o) := fun k u e => by
  have := (List.getElem?_eq_some_iff.mp e).1
  rw [List.getElem?_set_ne (by omega)]
  exact f k u e
theorem tx_c {n : Nat} {z : Str} (h : z.length ≤ n) : Tx n (.str z) := by
  obtain ⟨l, e, q⟩ := as_st z
  exact ⟨l, by rw [e], by omega⟩
theorem Tx.mono {a b : Nat} {v : MV} (t : Tx a v) (l : a ≤ b) : Tx b v := by
  obtain ⟨x, e, q⟩ := t
  exact ⟨x, e, by omega⟩
section
variable {l : List Nat} {h : MH} {r : Nat}
/-- a text looked at once -/
theorem look_at {s0 s1 s2 s3 s4 s6 s7 : Option MV} (hl : l.length ≤ 600) : ∃ h' t7, l_law_0 [s0, s1, s2, s3, s4, some (.str (st l)), s6, s7] h = .next [s0, s1, s2, s3, s4, some (.str (st l)), s6, t7] h' ∧ Old h h' := by
  obtain ⟨g1, e1, f1, o1⟩ := records_at (l := l) (h := h) (by omega)
  obtain ⟨g2, e2, f2, o2⟩ := due_at (l := l) (h := g1) (by omega)
  obtain ⟨a1, a2⟩ := recs_ok (l := l) 100000 0 [] (Nat.zero_le _) (Nat.zero_le _) (fun _ z => nomatch z)
  obtain ⟨z, Z⟩ := repr_fds (R := recs l 100000 0 []) (by omega) fun r hr => ⟨Nat.lt_of_le_of_lt (a2 r hr).1 (Nat.lt_of_le_of_lt hl (by decide)), (a2 r hr).2⟩
  have r1 := Z g1 _ f1
  have r2 := Z g2 _ f2
  have f3 := o2 _ _ f1
  have P := app_at (v := .non) f3 (by rw [List.length_map]; omega)
  have lm := lmK_at (f := appM) (AL := aCons (eC .non) aNil) (σ := [s0, s1, s2, s3, s4, some (.str (st l)), s6, some (.ref h.length)]) f3
  refine ⟨List.set g2 h.length (.lst ((recs l 100000 0 []).map fdM ++ [.non])), some (.ref h.length), ?_, Old.set (Old.trans o1 o2) (Nat.le_refl _)⟩
  unfold l_law_0
  generalize c_records_in = X at e1 ⊢
  generalize c__law_due = Y at e2 ⊢
  refine (seq_at (σ1 := [s0, s1, s2, s3, s4, some (.str (st l)), s6, some (.ref h.length)]) (h1 := g1) ?_).trans ?_
  · simp [e1]
  refine (seq_at (σ1 := [s0, s1, s2, s3, s4, some (.str (st l)), s6, some (.ref h.length)]) (h1 := g2) ?_).trans ?_
  · simp [r1, e2, r2, neS]
  · simp [lm, P]
theorem look2_at {s0 s1 s2 s3 s4 s6 s7 : Option MV} (hl : l.length ≤ 600) : ∃ h' t4 t7, l_law_1 [s0, s1, s2, s3, s4, some (.str (st l)), s6, s7] h = .next [s0, s1, s2, s3, t4, some (.str (st l)), s6, t7] h' ∧ Old h h' := by
  obtain ⟨h1, t7, q1, o1⟩ := look_at (h := h) (s0 := s0) (s1 := s1) (s2 := s2) (s3 := s3) (s4 := some (.int 0)) (s6 := s6) (s7 := s7) hl
  obtain ⟨h2, u7, q2, o2⟩ := look_at (h := h1) (s0 := s0) (s1 := s1) (s2 := s2) (s3 := s3) (s4 := some (.int 1)) (s6 := s6) (s7 := t7) hl
  have r1 : iR1K [.int 2] h = .ok ⟨upInts 0 2, fun _ => true⟩ h := iR1K_int (by omega)
  have u : upInts 0 2 = [.int 0, .int 1] := rfl
  refine ⟨h2, some (.int 1), u7, ?_, o1.trans o2⟩
  unfold l_law_1
  generalize l_law_0 = B at q1 q2 ⊢
  simp [r1, u, sForL, q1, q2]
theorem pieces_at {σ : MS} {n : Nat} (p : Rm h r) (h3 : σ[3]? = some (some (.ref r))) (h8 : σ.length = 8) (hn : n ≤ 8) :
    ∃ (ls : List (List Nat)) (h' : MH), compL (fun _ => true) (gN 4) tYesM (eCall (gb [.p 0] [] []) c__law_piece (aCons (eVar 3) aNil) aNil) σ (upInts 0 n) [] h = .ok (.tmp (ls.map fun l => .str (st l))) h' ∧ ls.length = n ∧ (∀ l ∈ ls, l.length ≤ 60) ∧ Rm h' r ∧ Fr r h h' := by
  have hu : (upInts 0 n).length = n := by simp [upInts]
  obtain ⟨ys, h2, e3, ⟨q1, q2, ls, rfl, hl⟩, len⟩ := compL_inv (st := fun _ => true) (g := gN 4) (tt := tYesM) (te := eCall (gb [.p 0] [] []) c__law_piece (aCons (eVar 3) aNil) aNil) (σ := σ) (fun _ acc h' => Rm h' r ∧ Fr r h h' ∧ ∃ ls : List (List Nat), acc = ls.map (fun l => MV.str (st l)) ∧ ∀ l ∈ ls, l.length ≤ 60) (upInts 0 n) [] [] h
    (by rw [hu, sizeLine_eq]; simp; omega) ⟨p, Fr.refl, [], rfl, by simp⟩ (fun _ _ _ _ => rfl) fun done x acc g hx ⟨a1, a2, ls, a4, a5⟩ => by
      obtain ⟨l, g', b1, b2, b3, b4⟩ := piece_at a1
      refine ⟨σ.set 4 (some x), g, g, .str (st l), g', rfl, rfl, ?_, b3, a2.trans b4, ls ++ [l], by simp [a4], fun m hm => ?_⟩
      · have e : (σ.set 4 (some x))[3]? = some (some (.ref r)) := by rw [List.getElem?_set_ne (by omega)]; exact h3
        generalize c__law_piece = T at b1 ⊢
        simp [e, b1]
      · rcases List.mem_append.mp hm with q | q
        · exact a5 m q
        · cases List.mem_singleton.mp q
          exact b2
  rw [List.length_map, hu] at len
  exact ⟨ls, h2, e3, by simpa using len, hl, q1, q2⟩
theorem mapM_sts : ∀ ls : List (List Nat), (ls.map fun l => MV.str (st l)).mapM asS = some (ls.map st)
  | [] => rfl
  | x :: l => by
    rw [List.map_cons, List.mapM_cons, mapM_sts l]
    rfl
theorem sums_le {n : Nat} : ∀ {ls : List (List Nat)}, (∀ l ∈ ls, l.length ≤ n) → ((ls.map st).map (·.length)).sum ≤ ls.length * n
  | [], _ => by simp
  | l :: ls, H => by
    have h1 := H l (List.mem_cons_self ..)
    have h2 := sums_le (ls := ls) fun m hm => H m (List.mem_cons_of_mem _ hm)
    rw [List.map_cons, List.map_cons, List.sum_cons, List.length_cons, Nat.add_mul, Nat.one_mul, st_len]
    omega
theorem joins_at {ls : List (List Nat)} (hn : ls.length ≤ 8) (H : ∀ l ∈ ls, l.length ≤ 60) : ∃ l, joinM (.str "") (.tmp (ls.map fun l => .str (st l))) h = .ok (.str (st l)) h ∧ l.length ≤ 480 := by
  have sl := sums_le H
  have s2 : ls.length * 60 ≤ 8 * 60 := Nat.mul_le_mul_right _ hn
  have e : (asQ h (.tmp (ls.map fun l => .str (st l)))).bind (fun xs => xs.mapM asS) = some (ls.map st) := mapM_sts ls
  have e0 : ("" : Str) = st [] := by decide
  obtain ⟨l, q1, q2⟩ := as_st (Txt.join "" (ls.map st))
  have jl := StrLaws.join_length_le "" (ls.map st)
  have z0 : ("" : Str).length = 0 := by decide
  rw [z0, Nat.mul_zero, Nat.add_zero] at jl
  refine ⟨l, ?_, ?_⟩
  · unfold joinM
    rw [e]
    refine (if_pos ?_).trans ?_
    · rw [z0, Nat.mul_zero, Nat.add_zero]
      omega
    · rw [q1]
  · rw [q2]
    have je : Txt.join "" (ls.map st) = Str.join "" (ls.map st) := TL.join_eq ..
    rw [je]
    omega
/-- a cell's texts -/
theorem cell_turn {ns : List Int} {s k : Nat} {xs : List MV} {s3 s4 s5 s6 s7 : Option MV} (hk : k ≤ 1000) (e : h[s]? = some (.lst xs)) (lx : xs.length ≤ 5000) (tx : ∀ x ∈ xs, Tx 600 x) :
    ∃ h' s' xs' t3 t4 t5 t6, l_law_2 [some (.con (ns.map MV.int)), some (.ref s), some (.int k), s3, s4, s5, s6, s7] h = .next [some (.con (ns.map MV.int)), some (.ref s'), some (.int k), t3, t4, t5, t6, s7] h' ∧ h'[s']? = some (.lst xs') ∧ xs'.length = xs.length + 4 ∧ ∀ x ∈ xs', Tx 600 x := by
  obtain ⟨ra, rb, e1⟩ := room_at (ns := ns) (k := k) (h := h) hk
  have p1 : Rm (h ++ [.lst [.int ra, .int rb]]) h.length := ⟨ra, rb, get_last⟩
  have s1 : (h ++ [MO.lst [.int ra, .int rb]])[s]? = some (.lst xs) := get_app e
  have ne : s ≠ h.length := by have := (List.getElem?_eq_some_iff.mp e).1; omega
  generalize hr : h.length = r at p1 ne
  generalize hh1 : h ++ [MO.lst [.int ra, .int rb]] = h1 at p1 s1
  obtain ⟨v, h2, e2, v0, v1, p2, f2, n2⟩ := take_at p1 (m := 8) (by decide) (by decide)
  obtain ⟨n, rfl⟩ : ∃ n : Nat, v = n := ⟨v.toNat, by omega⟩
  obtain ⟨ls, h3, e3, l1, l2, p3, f3⟩ := pieces_at (σ := [some (.con (ns.map MV.int)), some (.ref s), some (.int k), some (.ref r), none, s5, s6, s7]) (n := n) p2 rfl rfl (by omega)
  obtain ⟨l, e4, hl⟩ := joins_at (h := h3) (ls := ls) (by omega) l2
  obtain ⟨b1, h4, e5, c1, p4, f4⟩ := bent_at (l := l) p3 (by omega)
  obtain ⟨b2, h5, e6, c2, p5, f5⟩ := bent_at (l := b1) p4 (by omega)
  obtain ⟨b3, h6, e7, c3, p6, f6⟩ := bent_at (l := b1) p5 (by omega)
  obtain ⟨b4, h7, e8, c4, p7, f7⟩ := bent_at (l := b3) p6 (by omega)
  have s7' : h7[s]? = some (.lst xs) := f7 _ _ ne (f6 _ _ ne (f5 _ _ ne (f4 _ _ ne (f3 _ _ ne (f2 _ _ ne s1)))))
  have r1 : iR1K [.int (n : Int)] h2 = .ok ⟨upInts 0 n, fun _ => true⟩ h2 := iR1K_int (by omega)
  have A := add_rt (ys := [MV.str (st l), .str (st b1), .str (st b2), .str (st b4)]) s7' (by simp; omega)
  refine ⟨h7 ++ [.lst (xs ++ [MV.str (st l), .str (st b1), .str (st b2), .str (st b4)])], h7.length, xs ++ [MV.str (st l), .str (st b1), .str (st b2), .str (st b4)], some (.ref r), s4, some (.str (st l)), some (.str (st b1)), ?_, get_last, by simp, fun x hx => ?_⟩
  · unfold l_law_2
    refine (seq_at (σ1 := [some (.con (ns.map MV.int)), some (.ref s), some (.int k), some (.ref r), s4, s5, s6, s7]) (h1 := h1) ?_).trans ?_
    · generalize c__law_room = X at e1 ⊢
      simp [e1, hr, hh1]
    refine (seq_at (σ1 := [some (.con (ns.map MV.int)), some (.ref s), some (.int k), some (.ref r), s4, some (.str (st l)), s6, s7]) (h1 := h3) ?_).trans ?_
    · generalize c__law_take = X at e2 ⊢
      generalize eCall (gb [.p 0] [] []) c__law_piece (aCons (eVar 3) aNil) aNil = EE at e3 ⊢
      simp [eComp, wipeM, e2, r1, e3, e4]
    refine (seq_at (σ1 := [some (.con (ns.map MV.int)), some (.ref s), some (.int k), some (.ref r), s4, some (.str (st l)), some (.str (st b1)), s7]) (h1 := h4) ?_).trans ?_
    · generalize c__law_bent = X at e5 ⊢
      simp [e5]
    · generalize c__law_bent = X at e6 e7 e8 ⊢
      simp [e6, e7, e8, A]
  · rcases List.mem_append.mp hx with q | q
    · exact tx x q
    · simp only [List.mem_cons, List.not_mem_nil, or_false] at q
      rcases q with rfl | rfl | rfl | rfl
      · exact ⟨_, rfl, by omega⟩
      · exact ⟨_, rfl, by omega⟩
      · exact ⟨_, rfl, by omega⟩
      · exact ⟨_, rfl, by omega⟩
end
theorem many {n M : Nat} (hM : 1 ≤ M) : ∃ m : Nat, m ≤ M ∧ (if (if (M : Int) < n then (M : Int) else n) > 1 then (if (M : Int) < n then (M : Int) else n) else 1) = (m : Int) := by
  by_cases h1 : M < n
  · refine ⟨M, Nat.le_refl _, ?_⟩
    have : (M : Int) < n := by omega
    rw [if_pos this]
    split <;> omega
  · have : ¬ (M : Int) < n := by omega
    rw [if_neg this]
    by_cases h2 : 1 < n
    · exact ⟨n, by omega, by rw [if_pos (by omega)]⟩
    · exact ⟨1, hM, by rw [if_neg (by omega)]; rfl⟩
/-- the texts that are known -/
theorem known4 {s0 : Option MV} : ∃ (h : MH) (s : Nat) (xs : List MV), (∀ t : MSt, (sSeq lw1 (sSeq lw2 (sSeq lw3 (sSeq lw4 t)))) [s0, none, none, none, none, none, none, none] [] = t [s0, some (.ref s), none, none, none, none, none, none] h) ∧ h[s]? = some (.lst xs) ∧ xs.length ≤ 100 ∧ ∀ x ∈ xs, Tx 600 x := by
  obtain ⟨X1, hX1⟩ : ∃ X, X = [MV.str "", .str "<", .str "<a.1 0 0 >", .str "<a.0 0 0 >", .str "<a.01 0 0 >", .str "<a.1 00 0 >", .str "<a.1 0 00 >", .str "<a.1 0 0>", .str "<A.1 0 0 >"] := ⟨_, rfl⟩
  obtain ⟨X2, hX2⟩ : ∃ X, X = [MV.str "<a.1 1 65 A><a.1 1 66 B>", .str "<a.1 1 66 A>", .str "<<a.1 1 65 A>>", .str "<a.1 12 0 <b.1 1 65 A>"] := ⟨_, rfl⟩
  have t1 : ∀ x ∈ X1, Tx 600 x := by
    rw [hX1]
    intro x hx
    simp only [List.mem_cons, List.not_mem_nil, or_false] at hx
    rcases hx with rfl | rfl | rfl | rfl | rfl | rfl | rfl | rfl | rfl <;> exact tx_c (by decide +kernel)
  have t2 : ∀ x ∈ X2, Tx 600 x := by
    rw [hX2]
    intro x hx
    simp only [List.mem_cons, List.not_mem_nil, or_false] at hx
    rcases hx with rfl | rfl | rfl | rfl <;> exact tx_c (by decide +kernel)
  have l1 : X1.length = 9 := by rw [hX1]; rfl
  have l2 : X2.length = 4 := by rw [hX2]; rfl
  have e1 : lw1 [s0, none, none, none, none, none, none, none] [] = .next [s0, some (.ref 0), none, none, none, none, none, none] [.lst X1] := by
    rw [hX1]
    unfold lw1
    simp
  generalize hh1 : ([MO.lst X1] : MH) = h1 at e1
  have g1 : h1[0]? = some (.lst X1) := by rw [← hh1]; rfl
  have A2 := add_rt (ys := X2) g1 (by rw [l1, l2]; decide)
  have e2 : lw2 [s0, some (.ref 0), none, none, none, none, none, none] h1 = .next [s0, some (.ref h1.length), none, none, none, none, none, none] (h1 ++ [.lst (X1 ++ X2)]) := by
    rw [hX2] at A2 ⊢
    unfold lw2
    simp [A2]
  have g2 : (h1 ++ [MO.lst (X1 ++ X2)])[h1.length]? = some (.lst (X1 ++ X2)) := get_last
  generalize h1 ++ [MO.lst (X1 ++ X2)] = h2 at e2 g2
  generalize h1.length = n1 at e2 g2
  have M1 := mul_rep (c := 120) (n := 60) (h := h2) (by decide)
  rw [show st [120] = ("x" : Str) by decide] at M1
  obtain ⟨f, F1, F2, _⟩ := frame_at (w := [97]) (n := 1) (z := List.replicate 60 120) (h := h2) (by decide) (by decide) (by rw [List.length_replicate]; exact Nat.le_refl _)
  rw [show st [97] = ("a" : Str) by decide] at F1
  obtain ⟨X3, hX3⟩ : ∃ X, X = [MV.str "<abcdefghi.1 0 0 >", .str (st f), .str "<a.1000000000000 0 0 >", .str "<a.1 0 9973 >"] := ⟨_, rfl⟩
  have t3 : ∀ x ∈ X3, Tx 600 x := by
    rw [hX3]
    intro x hx
    simp only [List.mem_cons, List.not_mem_nil, or_false] at hx
    rcases hx with rfl | rfl | rfl | rfl
    · exact tx_c (by decide +kernel)
    · refine ⟨f, rfl, ?_⟩
      have : ([97] : List Nat).length = 1 := rfl
      rw [List.length_replicate] at F2
      omega
    · exact tx_c (by decide +kernel)
    · exact tx_c (by decide +kernel)
  have l3 : X3.length = 4 := by rw [hX3]; rfl
  have A3 := add_rt (ys := X3) g2 (by rw [List.length_append, l1, l2, l3]; decide)
  have e3 : lw3 [s0, some (.ref n1), none, none, none, none, none, none] h2 = .next [s0, some (.ref h2.length), none, none, none, none, none, none] (h2 ++ [.lst (X1 ++ X2 ++ X3)]) := by
    rw [hX3] at A3 ⊢
    have M1 : mulM (.str "x") (.int 60) h2 = .ok (.str (st (List.replicate 60 120))) h2 := M1
    have F1 : c__law_frame [.tup [.str "a", .int 1], .str (st (List.replicate 60 120))] h2 = .ok (.str (st f)) h2 := F1
    generalize st (List.replicate 60 120) = XX at M1 F1
    unfold lw3
    generalize c__law_frame = U at F1 ⊢
    simp [M1, F1, A3]
  have g3 : (h2 ++ [MO.lst (X1 ++ X2 ++ X3)])[h2.length]? = some (.lst (X1 ++ X2 ++ X3)) := get_last
  generalize h2 ++ [MO.lst (X1 ++ X2 ++ X3)] = h3 at e3 g3
  generalize h2.length = n2 at e3 g3
  have M2 := mul_rep (c := 120) (n := 61) (h := h3) (by decide)
  rw [show st [120] = ("x" : Str) by decide] at M2
  obtain ⟨c1, q1, q2⟩ := as_st "<a.1 61 0 "
  rw [show ("<a.1 61 0 " : Str).length = 10 by decide +kernel] at q2
  have B1 := addS (a := c1) (b := List.replicate 61 120) (h := h3) (by rw [List.length_replicate]; omega)
  have B2 := addS (a := c1 ++ List.replicate 61 120) (b := [62]) (h := h3) (by rw [List.length_append, List.length_replicate]; simp; omega)
  rw [← q1] at B1
  rw [show st [62] = (">" : Str) by decide] at B2
  have lt : (c1 ++ List.replicate 61 120 ++ [62]).length ≤ 600 := by rw [List.length_append, List.length_append, List.length_replicate]; simp; omega
  generalize c1 ++ List.replicate 61 120 ++ [62] = t4 at B2 lt
  generalize c1 ++ List.replicate 61 120 = t5 at B1 B2
  have P := app_at (v := MV.str (st t4)) g3 (by rw [List.length_append, List.length_append, l1, l2, l3]; decide)
  have lm := lmK_at (f := appM) (AL := aCons (eBin addM (eBin addM (eC (.str "<a.1 61 0 ")) (eBin mulM (eC (.str "x")) (eC (.int 61)))) (eC (.str ">"))) aNil) (σ := [s0, some (.ref n2), none, none, none, none, none, none]) g3
  have e4 : lw4 [s0, some (.ref n2), none, none, none, none, none, none] h3 = .next [s0, some (.ref n2), none, none, none, none, none, none] (h3.set n2 (.lst (X1 ++ X2 ++ X3 ++ [.str (st t4)]))) := by
    have M2 : mulM (.str "x") (.int 61) h3 = .ok (.str (st (List.replicate 61 120))) h3 := M2
    generalize st (List.replicate 61 120) = XX at M2 B1
    unfold lw4
    simp [lm, M2, B1, B2, P]
  refine ⟨h3.set n2 (.lst (X1 ++ X2 ++ X3 ++ [.str (st t4)])), n2, X1 ++ X2 ++ X3 ++ [.str (st t4)], fun t => ?_, List.getElem?_set_self (List.getElem?_eq_some_iff.mp g3).1, by simp [l1, l2, l3], fun x hx => ?_⟩
  · exact (seq_at e1).trans ((seq_at e2).trans ((seq_at e3).trans (seq_at e4)))
  · simp only [List.mem_append, List.mem_singleton] at hx
    rcases hx with ((q | q) | q) | rfl
    · exact t1 x q
    · exact t2 x q
    · exact t3 x q
    · exact ⟨t4, rfl, lt⟩
end My

set_option maxHeartbeats 400000
namespace My
open PySem PySem.Spec PyProof.Rows L2 Mi
variable [TheW]
theorem last_recs : recs [60, 97, 46, 49, 32, 48, 32, 48, 32, 62] 100000 0 [] = [(0, ([97], 1), [])] := by decide +kernel
theorem last_at {σ : MS} {h : MH} : ∃ h', lw0 σ h = .ret (.bl true) h' := by
  obtain ⟨g, e, f, _⟩ := records_at (l := [60, 97, 46, 49, 32, 48, 32, 48, 32, 62]) (h := h) (by decide)
  rw [last_recs] at f
  rw [show st [60, 97, 46, 49, 32, 48, 32, 48, 32, 62] = ("<a.1 0 0 >" : Str) by decide +kernel] at e
  have fd : [((0, ([97], 1), []) : Fd)].map fdM = [MV.tup [.int 0, .tup [.str "a", .int 1], .str ""]] := by
    show [MV.tup [.int ((0 : Nat) : Int), .tup [.str (st [97]), .int ((1 : Nat) : Int)], .str (st [])]] = _
    rw [show st [97] = ("a" : Str) by decide, show st [] = ("" : Str) by decide]
    rfl
  rw [fd] at f
  have s1 : snap 30 g (.ref h.length) = some (.list [.tuple [.int 0, .tuple [.str "a", .int 1], .str ""]]) := by
    simp only [snap, f]
    rfl
  have s2 : snap 30 g (.tmp [MV.tup [.int 0, .tup [.str "a", .int 1], .str ""]]) = some (.list [.tuple [.int 0, .tuple [.str "a", .int 1], .str ""]]) := rfl
  have fa : farL g (.ref h.length) (.tmp [MV.tup [.int 0, .tup [.str "a", .int 1], .str ""]]) = false := by simp [farL, asL, f]
  have ev : PyData.eqv (.list [.tuple [.int 0, .tuple [.str "a", .int 1], .str ""]]) (.list [.tuple [.int 0, .tuple [.str "a", .int 1], .str ""]]) = true := by
    simp [PyData.eqv, PyData.eqvAll]
  have q : eqM (.ref h.length) (.tmp [MV.tup [.int 0, .tup [.str "a", .int 1], .str ""]]) g = .ok (.bl true) g := by
    unfold eqM
    rw [fa, s1, s2]
    show Res.ok (MV.bl (PyData.eqv _ _)) g = _
    rw [ev]
  refine ⟨g, ?_⟩
  unfold lw0
  generalize c_records_in = X at e ⊢
  simp [e, q]
/-- a walk by a property; what is walked is known -/
theorem sForL_inv2 {st : MH → Bool} {g : MG} {s : MSt} (all : List MV) (P : List MV → MS → MH → Prop) (hs : ∀ done σ h, P done σ h → st h = true)
    (H : ∀ done x rest σ h, all = done ++ x :: rest → P done σ h → ∃ σ1 h1 σ2 h2, g x σ h = .ok σ1 h1 ∧ s σ1 h1 = .next σ2 h2 ∧ P (done ++ [x]) σ2 h2) :
    ∀ (xs done : List MV) (σ : MS) (h : MH), all = done ++ xs → P done σ h → ∃ σ' h', sForL st g s xs σ h = .next σ' h' ∧ P all σ' h'
  | [], done, σ, h, e, p => ⟨σ, h, by simp [sForL, hs _ _ _ p], by rw [e, List.append_nil]; exact p⟩
  | x :: xs, done, σ, h, e, p => by
    obtain ⟨σ1, h1, σ2, h2, e1, e2, p2⟩ := H done x xs σ h e p
    obtain ⟨σ', h', e3, p3⟩ := sForL_inv2 all P hs H xs (done ++ [x]) σ2 h2 (by rw [e, List.append_assoc]; rfl) p2
    exact ⟨σ', h', by simp [sForL, hs _ _ _ p, e1, e2, e3], p3⟩
theorem law_true : ∀ ns : List Int, ns.length ≤ 63 → ∃ h', c_law [.con (ns.map MV.int)] [] = .ok (.bl true) h' := by
  intro ns hns
  obtain ⟨h0, s, xs, Q, e0, lx, tx⟩ := known4 (s0 := some (.con (ns.map MV.int)))
  obtain ⟨m, hm, em⟩ := many (n := ns.length) (M := 20) (by decide)
  have em : (if (if (20 : Int) < ns.length then 20 else (ns.length : Int)) > 1 then (if (20 : Int) < ns.length then 20 else (ns.length : Int)) else 1) = (m : Int) := em
  have r1 : ∀ {h : MH}, iR1K [.int (m : Int)] h = .ok ⟨upInts 0 m, fun _ => true⟩ h := fun {h} => iR1K_int (by omega)
  have um : (upInts 0 m).length = m := by simp [upInts]
  obtain ⟨σ1, h1, L, ⟨w1, w2⟩, s', xs', w3, w4, w5, w6⟩ := sForL_inv2 (st := fun _ => true) (g := gN 2) (s := l_law_2) (upInts 0 m) (fun done σ h => (σ.length = 8 ∧ σ[0]? = some (some (.con (ns.map MV.int)))) ∧ ∃ s xs, σ[1]? = some (some (.ref s)) ∧ h[s]? = some (.lst xs) ∧ xs.length ≤ 100 + 4 * done.length ∧ ∀ x ∈ xs, Tx 600 x) (fun _ _ _ _ => rfl)
    (fun done x rest σ h ea ⟨⟨e1, e2⟩, s, xs, e3, e4, e6, e7⟩ => by
      have hx : x ∈ upInts 0 m := by rw [ea]; simp
      have hd : done.length < m := by
        have := congrArg List.length ea
        rw [um, List.length_append, List.length_cons] at this
        omega
      simp only [upInts, List.mem_map, List.mem_range] at hx
      obtain ⟨k, hk, rfl⟩ := hx
      match σ, e1, e2, e3 with
      | [s0, s1, s2, s3, s4, s5, s6, s7], _, e2, e3 =>
        cases e2
        cases e3
        obtain ⟨h2, s2', xs2, t3, t4, t5, t6, q, q1, q2, q3⟩ := cell_turn (ns := ns) (k := k) (h := h) (s3 := s3) (s4 := s4) (s5 := s5) (s6 := s6) (s7 := s7) (by omega) e4 (by omega) e7
        refine ⟨[some (.con (ns.map MV.int)), some (.ref s), some (.int (k : Int)), s3, s4, s5, s6, s7], h, _, h2, by simp, q, ⟨rfl, rfl⟩, s2', xs2, rfl, q1, ?_, q3⟩
        rw [q2, List.length_append, List.length_singleton]
        omega) (upInts 0 m) [] [some (.con (ns.map MV.int)), some (.ref s), none, none, none, none, none, none] h0 rfl ⟨⟨rfl, rfl⟩, s, xs, rfl, e0, by simpa using lx, tx⟩
  obtain ⟨σ2, h2, L2, v1, v2⟩ := sForL_inv (st := stillL (.ref s') xs') (g := gN 5) (s := l_law_1) (fun _ σ h => σ.length = 8 ∧ h[s']? = some (.lst xs')) xs' [] σ1 h1 ⟨w1, w4⟩ (fun _ _ _ z => by simp [stillL, z.2])
    (fun done x σ h hx ⟨e1, e2⟩ => by
      obtain ⟨l, rfl, hl⟩ := w6 x hx
      match σ, e1 with
      | [s0, s1, s2, s3, s4, s5, s6, s7], _ =>
        obtain ⟨h', t4, t7, q, o⟩ := look2_at (h := h) (s0 := s0) (s1 := s1) (s2 := s2) (s3 := s3) (s4 := s4) (s6 := s6) (s7 := s7) hl
        exact ⟨[s0, s1, s2, s3, s4, some (.str (st l)), s6, s7], h, _, h', by simp, .inl q, rfl, o _ _ e2⟩)
  obtain ⟨h3, F⟩ := last_at (σ := σ2) (h := h2)
  refine ⟨h3, ?_⟩
  unfold c_law
  rw [lw_eq]
  refine out_of (res := .ret (.bl true) h3) ?_ rfl
  refine (Q _).trans ?_
  refine (seq_at (σ1 := σ1) (h1 := h1) ?_).trans ((seq_at (σ1 := σ2) (h1 := h2) ?_).trans F)
  · unfold lw5
    generalize l_law_2 = X at L ⊢
    simp [-gt_iff_lt, len_con, em, r1, L]
  · unfold lw6
    have I : iSeq (eVar 1) σ1 h1 = .ok ⟨xs', stillL (.ref s') xs'⟩ h1 := by
      unfold iSeq
      simp [w3, asL, w4]
    rw [sFor_ap, I]
    exact L2
end My

namespace My
open PySem PySem.Spec PyProof.Rows L2 Mi
variable [TheW]
theorem tp_of {K : PySem.W.Frag} {mg : Str → Option Value} {h : Heap} (KX : K.In h) (G : h.Ns mainGlobals mg) (c0 : He.SaysX fa fn tbs tf (allB bs) TheW.w h K) : Tp K mg :=
  ⟨⟨h, KX, G, c0.t.d, c0.more⟩, ktok_of KX G (allB.own c0.more 4), xsok_of xsub_in KX G (allB.own c0.more 0) (allB.own c0.more 1), cfok_of KX G (allB.own c0.more 2) (allB.own c0.more 3), c0.hd⟩
theorem lam_in {K : PySem.W.Frag} {mg : Str → Option Value} (gl : mg "law" = some (.ref (He.ga K "law"))) : ∀ x q, (x, q) ∈ lamDefs → (x, none) ∈ tf ∧ mg x = some (.ref (He.ga K x)) := fun x q h => by
  cases h
end My
open PySem PySem.W PySem.Calls PyProof.Rows
set_option maxHeartbeats 0 in
theorem PySem.Challenge.cw_appendlease_k03_records_found_holds : PySem.Challenge.rw_appendlease_k03_records_found.Holds := by
  w_on; o_law
  refine HandSHeadRun.head_any (r := OpenLaw.row PySem.Challenge.rw_appendlease_k03_records_found) (q := My.qv) (H := My.hk) (ob := My.ob) (M := 6000) (loose := My.loose) (d := HandSHeadRun.topDef (OpenLaw.row PySem.Challenge.rw_appendlease_k03_records_found).prog 28) (kwd := []) My.ob_eq
    (by kernel_rfl) (fun s => by kernel_rfl) My.run (by kernel_rfl) (by kernel_rfl) (by kernel_rfl) (by rfl) (by first | assumption | decide +kernel) (by decide +kernel) ⟨rfl, rfl, rfl, rfl, rfl, by decide +kernel⟩ ?hw ?hc
  case hw => w_witness2
  case hc =>
    refine Mi.walkM (l := PySem.Challenge.rw_appendlease_k03_records_found) (n := 63) (k := 6) (x := "_law_script") rfl (by decide) (by kernel_rfl) ⟨rfl, by decide, by decide⟩ ?F
    intro w mg fa h Y G hmg0
    letI : Mi.TheW := ⟨w⟩
    obtain ⟨K, KX, c0⟩ := Y
    have hmg : mg ("law" : PySem.Str) = some (.ref fa) := by
      have e : (HandSHeadRun.topDef (OpenLaw.row PySem.Challenge.rw_appendlease_k03_records_found).prog 28).name = ("law" : PySem.Str) := by kernel_rfl
      rw [← e]
      exact hmg0
    have T : My.Tp K mg := My.tp_of KX G c0
    have c := c0.t.d
    obtain ⟨fd, F⟩ := c.def_ 18 (d := My.dlaw) rfl
    have gl := He.glo_ok KX G (c.fact 36 (f := .glo "law") rfl)
    have e := hmg.symm.trans gl
    cases e
    have b := L2.FunD.bindsA (ps := ["_law_script"]) F fun _ _ _ _ _ _ us hl => match us, hl with | [_], _ => rfl
    exact ⟨K, fd, My.c_law, My.tf.map (He.cT K), KX, Mi.tabd_of KX c0 (My.lam_in gl), fun s v => b s [v] rfl, My.law_true, fun base _ _ tb => My.ok_law T F⟩
