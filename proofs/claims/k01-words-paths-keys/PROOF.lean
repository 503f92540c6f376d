import PyProof.Rows.All
import Wide.All
import OpenK.AllK
import Wide.FinOn
import KE.KStateDown
import KE.DataEq
import HandS.ForMost
import HandS.More
import HandS.Exc
import HandS.TryOnly
import HandS.TryMany
import HandS.ExcOwn
import HandS.WordsExc
import HandS.Defaults
import HandS.MakeKwOnly
import HandS.IsInst
import HandS.Flow
import HandS.Evl
import HandS.Walk
import HandS.Wide
import HandS.FStr
import HandS.NoneIn
import HandS.Deep
import HandS.TupMul
import HandS.TupAny
import HandS.TupLe
import HandS.Conv
import HandS.Zip
import PyProof.ReprRoads
import PyProof.ReprText
import PyProof.StrBlock2
import HandS.ExcInit
import HandS.ExcField
import HandS.ExcIs
import KE.KExcIs
import PyProof.Draws
import PyProof.EnumMake
import HandS.Lambda
import HandS.MakeKw
import HandS.Head0
import HandS.Head1
import HandS.Head2
import HandS.HeadEnd
import HandS.HeadHook1
import HandS.HeadHook2
import PySem.Challenge.RW_appendlease_k01_words_paths_and_keys
set_option Elab.async false
set_option linter.all false
set_option maxRecDepth 100000
set_option maxHeartbeats 400000
/-! ### a plain reading of the language: values, heaps, meanings; and what it says of the hand layer's readings -/
namespace Mi
open PySem PySem.Spec PyProof.Rows L2
/-- values: tuples are values; a tmp is a new list that nothing else holds; a con is a list that never changes -/
inductive MV where
  | non | bl (b : Bool) | int (i : Int) | str (x : Str) | tup (xs : List MV) | tmp (xs : List MV) | con (xs : List MV) | ref (n : Nat) | ty (n : String) | cls (c : Str) | fn (f : Str) | exn (c : Str) (ns : List Str) (vs : List MV)
deriving Inhabited
/-- what stands at a place of the heap -/
inductive MO where
  | lst (xs : List MV) | ins (c : Str) (fs : List (Str × MV)) | dic (kvs : List (MV × MV))
deriving Inhabited
abbrev MH := List MO
structure XV where
  c : Str
  ns : List Str
  vs : List MV
inductive Res (α : Type) where
  | ok (a : α) (h : MH) | exc (x : XV) (h : MH) | stuck
def Res.bind {α β : Type} (r : Res α) (f : α → MH → Res β) : Res β := match r with
  | .ok a h => f a h
  | .exc x h => .exc x h
  | .stuck => .stuck
theorem Res.ok_bind {α β : Type} {a : α} {h : MH} {f : α → MH → Res β} : (Res.ok a h).bind f = f a h := rfl
theorem Res.exc_bind {α β : Type} {x : XV} {h : MH} {f : α → MH → Res β} : (Res.exc x h : Res α).bind f = .exc x h := rfl
theorem Res.stuck_bind {α β : Type} {f : α → MH → Res β} : (Res.stuck : Res α).bind f = .stuck := rfl
abbrev MS := List (Option MV)
abbrev ME := MS → MH → Res MV
abbrev MA := MS → MH → Res (List MV)
abbrev MT := MS → MH → Res Bool
inductive SR where
  | next (σ : MS) (h : MH) | ret (v : MV) (h : MH) | brk (σ : MS) (h : MH) | cont (σ : MS) (h : MH) | exc (x : XV) (σ : MS) (h : MH) | stuck
abbrev MSt := MS → MH → SR
/-- at a: an exception of the class cls, its dict d -/
def kx (a : Addr) (cls : Value) (d : Option Addr) : HO := .ext fun h => ∃ o vs, h.get? a = some o ∧ Zc cls d o ∧ o.data = .fields vs
section
variable (K : PySem.W.Frag) (mg : Str → Option Value) (m : List Addr) (H : Hp)
def TupK (a : Addr) (vs : List V) : Prop := ∃ (o : Obj) (its : Array Value) (n : Nat), K.lookup a = some o ∧ o.cls = .type "tuple" ∧ o.data = .seq its n ∧ its.size ≤ sizeLine ∧ Vals vs its.toList
def LstK (a : Addr) (vs : List V) : Prop := ∃ (o : Obj) (its : Array Value) (n : Nat), K.lookup a = some o ∧ o.cls = .type "list" ∧ o.dict = none ∧ o.data = .seq its n ∧ its.size ≤ sizeLine ∧ Vals vs its.toList
mutual
/-- a value here is a value there -/
inductive Dv : MV → V → Prop
  | non : Dv .non .non
  | bl (b : Bool) : Dv (.bl b) (.bl b)
  | int (i : Int) : Dv (.int i) (.int i)
  | str (x : Str) : Dv (.str x) (.str x)
  | tup {a : Addr} {vs : List V} {xs : List MV} : H a = some (.tup vs) → a ∉ m → DvAll xs vs → Dv (.tup xs) (.ref a)
  | tupK {a : Addr} {vs : List V} {xs : List MV} : TupK K a vs → DvAll xs vs → Dv (.tup xs) (.ref a)
  | con {a : Addr} {o : Obj} {vs : List V} {xs : List MV} : H a = some (.frz o (.lst vs)) → a ∉ m → DvAll xs vs → Dv (.con xs) (.ref a)
  | conK {a : Addr} {vs : List V} {xs : List MV} : LstK K a vs → DvAll xs vs → Dv (.con xs) (.ref a)
  | ref {n : Nat} {a : Addr} : m[n]? = some a → Dv (.ref n) (.ref a)
  | ty (n : String) : Dv (.ty n) (.ty n)
  | cls {c : Str} {C : Addr} : mg c = some (.ref C) → Dv (.cls c) (.ref C)
  | fn {f : Str} {a : Addr} : mg f = some (.ref a) → Dv (.fn f) (.ref a)
  | exn0 {c : Str} {a C : Addr} : mg c = some (.ref C) → H a = some (kx a (.ref C) none) → a ∉ m → Dv (.exn c [] []) (.ref a)
  | exnD {c : Str} {a C dd : Addr} {gs : List (Str × V)} {xs : List MV} : mg c = some (.ref C) → H a = some (kx a (.ref C) (some dd)) → a ∉ m → H dd = some (.xd gs) → dd ∉ m → DvAll xs (gs.map (·.2)) → Dv (.exn c (gs.map (·.1)) xs) (.ref a)
inductive DvAll : List MV → List V → Prop
  | nil : DvAll [] []
  | cons {x : MV} {v : V} {xs : List MV} {vs : List V} : Dv x v → DvAll xs vs → DvAll (x :: xs) (v :: vs)
end
inductive DvF : List (Str × MV) → List (Str × V) → Prop
  | nil : DvF [] []
  | cons {f : Str} {x : MV} {v : V} {fs : List (Str × MV)} {gs : List (Str × V)} : Dv K mg m H x v → DvF fs gs → DvF ((f, x) :: fs) ((f, v) :: gs)
/-- keys: whole numbers and texts -/
def kM : Key → MV
  | .inl i => .int i
  | .inr x => .str x
inductive DvK : List (MV × MV) → List (Key × V) → Prop
  | nil : DvK [] []
  | cons {k : Key} {x : MV} {v : V} {ks : List (MV × MV)} {ls : List (Key × V)} : Dv K mg m H x v → DvK ks ls → DvK ((kM k, x) :: ks) ((k, v) :: ls)
/-- what stands at the place is what stands at the address -/
def OR (a : Addr) : MO → Prop
  | .lst xs => ∃ vs, H a = some (.lst vs) ∧ DvAll K mg m H xs vs
  | .ins c fs => ∃ C dx gs, H a = some (.ins C dx gs) ∧ mg c = some (.ref C) ∧ dx ∉ m ∧ H dx = some (.own a) ∧ DvF K mg m H fs gs
  | .dic kvs => ∃ ls, H a = some (.dK ls) ∧ DvK K mg m H kvs ls
structure Rep (h : MH) : Prop where
  len : m.length = h.length
  nd : m.Nodup
  ob : ∀ (n : Nat) (o : MO) (a : Addr), h[n]? = some o → m[n]? = some a → OR K mg m H a o
/-- the new state beside the old one: what is not a place's stands as it was -/
structure Ext (m : List Addr) (H : Hp) (m' : List Addr) (H' : Hp) : Prop where
  pre : ∃ r, m' = m ++ r
  keep : ∀ a o, H a = some o → a ∉ m → H' a = some o
  new : ∀ a, a ∈ m' → a ∉ m → H a = none
structure SRel (σ : MS) (s : L2.St) : Prop where
  len : σ.length = s.length
  at_ : ∀ (i : Nat) (v : MV), σ[i]? = some (some v) → ∃ v', s[i]? = some (some v') ∧ Dv K mg m H v v'
/-- an exception: its class, its own dict -/
def XR (x : XV) (cls : Value) (d : Option Addr) : Prop := ∃ C, cls = .ref C ∧ mg x.c = some (.ref C) ∧ ((d = none ∧ x.ns = [] ∧ x.vs = []) ∨ ∃ dd gs, d = some dd ∧ dd ∉ m ∧ H dd = some (.xd gs) ∧ gs.map (·.1) = x.ns ∧ DvAll K mg m H x.vs (gs.map (·.2)))
end
section
variable {K : PySem.W.Frag} {mg : Str → Option Value} {m m1 m2 : List Addr} {H H1 H2 : Hp} {h h1 h2 : MH}
theorem Ext.refl : Ext m H m H := ⟨⟨[], by simp⟩, fun _ _ e _ => e, fun _ h1 h2 => absurd h1 h2⟩
theorem Ext.trans (a : Ext m H m1 H1) (b : Ext m1 H1 m2 H2) : Ext m H m2 H2 := by
  obtain ⟨r1, e1⟩ := a.pre
  obtain ⟨r2, e2⟩ := b.pre
  refine ⟨⟨r1 ++ r2, by rw [e2, e1, List.append_assoc]⟩, fun c o e n => ?_, fun c i n => ?_⟩
  · have k := a.keep c o e n
    refine b.keep c o k fun z => ?_
    have := a.new c z n
    rw [e] at this
    cases this
  · by_cases hc : c ∈ m1
    · exact a.new c hc n
    · have k := b.new c i hc
      cases q : H c with
      | none => rfl
      | some o => rw [a.keep c o q n] at k; cases k
theorem Ext.get (e : Ext m H m1 H1) {n : Nat} {a : Addr} (h : m[n]? = some a) : m1[n]? = some a := by
  obtain ⟨r, rfl⟩ := e.pre
  rw [List.getElem?_append_left (List.getElem?_eq_some_iff.mp h).1]
  exact h
theorem Ext.out (e : Ext m H m1 H1) {a : Addr} {o : HO} (h : H a = some o) (n : a ∉ m) : a ∉ m1 := fun z => by
  have := e.new a z n
  rw [h] at this
  cases this
/-- as Ext; a list may become a place -/
structure Gro (m : List Addr) (H : Hp) (m' : List Addr) (H' : Hp) : Prop where
  pre : ∃ r, m' = m ++ r
  keep : ∀ a o, H a = some o → (∀ vs, o ≠ .lst vs) → a ∉ m → H' a = some o
  out : ∀ a o, H a = some o → (∀ vs, o ≠ .lst vs) → a ∉ m → a ∉ m'
theorem Ext.gro (e : Ext m H m1 H1) : Gro m H m1 H1 := ⟨e.pre, fun a o h _ n => e.keep a o h n, fun a o h _ n => e.out h n⟩
theorem Gro.get (e : Gro m H m1 H1) {n : Nat} {a : Addr} (h : m[n]? = some a) : m1[n]? = some a := by
  obtain ⟨r, rfl⟩ := e.pre
  rw [List.getElem?_append_left (List.getElem?_eq_some_iff.mp h).1]
  exact h
mutual
theorem Dv.mono (e : Gro m H m1 H1) : ∀ {x : MV} {v : V}, Dv K mg m H x v → Dv K mg m1 H1 x v
  | _, _, .non => .non
  | _, _, .bl b => .bl b
  | _, _, .int i => .int i
  | _, _, .str x => .str x
  | _, _, .tup h n r => .tup (e.keep _ _ h (fun _ z => by cases z) n) (e.out _ _ h (fun _ z => by cases z) n) (DvAll.mono e r)
  | _, _, .tupK h r => .tupK h (DvAll.mono e r)
  | _, _, .con h n r => .con (e.keep _ _ h (fun _ z => by cases z) n) (e.out _ _ h (fun _ z => by cases z) n) (DvAll.mono e r)
  | _, _, .conK h r => .conK h (DvAll.mono e r)
  | _, _, .ref h => .ref (e.get h)
  | _, _, .ty n => .ty n
  | _, _, .cls h => .cls h
  | _, _, .fn h => .fn h
  | _, _, .exn0 h1 h2 h3 => .exn0 h1 (e.keep _ _ h2 (fun _ z => by cases z) h3) (e.out _ _ h2 (fun _ z => by cases z) h3)
  | _, _, .exnD h1 h2 h3 h4 h5 r => .exnD h1 (e.keep _ _ h2 (fun _ z => by cases z) h3) (e.out _ _ h2 (fun _ z => by cases z) h3) (e.keep _ _ h4 (fun _ z => by cases z) h5) (e.out _ _ h4 (fun _ z => by cases z) h5) (DvAll.mono e r)
theorem DvAll.mono (e : Gro m H m1 H1) : ∀ {xs : List MV} {vs : List V}, DvAll K mg m H xs vs → DvAll K mg m1 H1 xs vs
  | _, _, .nil => .nil
  | _, _, .cons h r => .cons (Dv.mono e h) (DvAll.mono e r)
end
theorem DvF.mono (e : Gro m H m1 H1) : ∀ {fs : List (Str × MV)} {gs : List (Str × V)}, DvF K mg m H fs gs → DvF K mg m1 H1 fs gs
  | _, _, .nil => .nil
  | _, _, .cons h r => .cons (h.mono e) (DvF.mono e r)
theorem DvK.mono (e : Gro m H m1 H1) : ∀ {ks : List (MV × MV)} {ls : List (Key × V)}, DvK K mg m H ks ls → DvK K mg m1 H1 ks ls
  | _, _, .nil => .nil
  | _, _, .cons h r => .cons (h.mono e) (DvK.mono e r)
theorem DvK.length : ∀ {ks : List (MV × MV)} {ls : List (Key × V)}, DvK K mg m H ks ls → ks.length = ls.length
  | _, _, .nil => rfl
  | _, _, .cons _ r => by simp [DvK.length r]
theorem SRel.mono (e : Gro m H m1 H1) {σ : MS} {s : L2.St} (r : SRel K mg m H σ s) : SRel K mg m1 H1 σ s := ⟨r.len, fun i v h => let ⟨v', h1, h2⟩ := r.at_ i v h; ⟨v', h1, h2.mono e⟩⟩
theorem DvAll.length : ∀ {xs : List MV} {vs : List V}, DvAll K mg m H xs vs → xs.length = vs.length
  | _, _, .nil => rfl
  | _, _, .cons _ r => by simp [DvAll.length r]
theorem DvAll.append : ∀ {xs ys : List MV} {vs ws : List V}, DvAll K mg m H xs vs → DvAll K mg m H ys ws → DvAll K mg m H (xs ++ ys) (vs ++ ws)
  | _, _, _, _, .nil, s => s
  | _, _, _, _, .cons r t, s => .cons r (DvAll.append t s)
theorem DvAll.get : ∀ {xs : List MV} {vs : List V} {i : Nat} {x : MV}, DvAll K mg m H xs vs → xs[i]? = some x → ∃ v, vs[i]? = some v ∧ Dv K mg m H x v
  | _, _, _, _, .nil, e => by simp at e
  | _, _, 0, _, .cons r _, e => by simp at e; subst e; exact ⟨_, rfl, r⟩
  | _, _, i + 1, x, .cons _ t, e => by
    obtain ⟨u, h1, h2⟩ := DvAll.get (i := i) (x := x) t (by simpa using e)
    exact ⟨u, by simpa using h1, h2⟩
theorem DvAll.take : ∀ {xs : List MV} {vs : List V} (n : Nat), DvAll K mg m H xs vs → DvAll K mg m H (xs.take n) (vs.take n)
  | _, _, 0, _ => .nil
  | _, _, _ + 1, .nil => .nil
  | _, _, n + 1, .cons r t => .cons r (DvAll.take n t)
theorem DvAll.drop : ∀ {xs : List MV} {vs : List V} (n : Nat), DvAll K mg m H xs vs → DvAll K mg m H (xs.drop n) (vs.drop n)
  | _, _, 0, r => r
  | _, _, _ + 1, .nil => .nil
  | _, _, n + 1, .cons _ t => DvAll.drop n t
theorem DvAll.set {x : MV} {v : V} (r : Dv K mg m H x v) : ∀ {xs : List MV} {vs : List V} (i : Nat), DvAll K mg m H xs vs → DvAll K mg m H (xs.set i x) (vs.set i v)
  | _, _, _, .nil => .nil
  | _, _, 0, .cons _ t => .cons r t
  | _, _, i + 1, .cons q t => .cons q (DvAll.set r i t)
theorem DvF.lookup : ∀ {fs : List (Str × MV)} {gs : List (Str × V)} {f : Str} {x : MV}, DvF K mg m H fs gs → fs.lookup f = some x → ∃ v, gs.lookup f = some v ∧ Dv K mg m H x v
  | _, _, _, _, .nil, e => by simp at e
  | _, _, f, x, .cons (f := g) r t, e => by
    rw [List.lookup_cons] at e ⊢
    cases q : f == g with
    | true =>
      rw [q] at e
      cases e
      exact ⟨_, rfl, r⟩
    | false =>
      rw [q] at e
      exact DvF.lookup t e
theorem DvF.lookup_none : ∀ {fs : List (Str × MV)} {gs : List (Str × V)} {f : Str}, DvF K mg m H fs gs → fs.lookup f = none → gs.lookup f = none
  | _, _, _, .nil, _ => rfl
  | _, _, f, .cons (f := g) r t, e => by
    rw [List.lookup_cons] at e ⊢
    cases q : f == g with
    | true => rw [q] at e; cases e
    | false =>
      rw [q] at e
      exact DvF.lookup_none t e
theorem DvF.length : ∀ {fs : List (Str × MV)} {gs : List (Str × V)}, DvF K mg m H fs gs → fs.length = gs.length
  | _, _, .nil => rfl
  | _, _, .cons _ r => by simp [DvF.length r]
/-- a field is put -/
def putM (f : Str) (v : MV) : List (Str × MV) → List (Str × MV)
  | [] => [(f, v)]
  | (g, w) :: r => if g = f then (g, v) :: r else (g, w) :: putM f v r
theorem SRel.set {σ : MS} {s : L2.St} {i : Nat} {x : MV} {v : V} (r : SRel K mg m H σ s) (d : Dv K mg m H x v) : SRel K mg m H (σ.set i (some x)) (s.set i (some v)) := by
  refine ⟨by simp [r.len], fun j y e => ?_⟩
  by_cases hj : i = j
  · subst hj
    rw [List.getElem?_set] at e
    simp only [if_true] at e
    split at e
    · rename_i hi
      cases e
      refine ⟨v, ?_, d⟩
      rw [List.getElem?_set]
      simp only [if_true]
      rw [if_pos (by rw [← r.len]; exact hi)]
    · cases e
  · rw [List.getElem?_set_ne hj] at e ⊢
    exact r.at_ j y e
/-- places are tracked -/
theorem Rep.tracked (R : Rep K mg m H h) {a : Addr} (i : a ∈ m) : ∃ o, H a = some o := by
  obtain ⟨n, hn, e⟩ := List.mem_iff_getElem.mp i
  have hl : n < h.length := by rw [← R.len]; exact hn
  have q := R.ob n h[n] a (List.getElem?_eq_getElem hl) (by rw [List.getElem?_eq_getElem hn, e])
  cases ho : h[n] with
  | lst xs => rw [ho] at q; obtain ⟨_, z, _⟩ := q; exact ⟨_, z⟩
  | ins c fs => rw [ho] at q; obtain ⟨_, _, _, z, _⟩ := q; exact ⟨_, z⟩
  | dic kvs => rw [ho] at q; obtain ⟨_, z, _⟩ := q; exact ⟨_, z⟩
theorem Rep.out (R : Rep K mg m H h) {a : Addr} (n : H a = none) : a ∉ m := fun i => by
  obtain ⟨o, e⟩ := R.tracked i
  rw [n] at e
  cases e
theorem Rep.get (R : Rep K mg m H h) {n : Nat} {o : MO} (e : h[n]? = some o) : ∃ a, m[n]? = some a ∧ OR K mg m H a o := by
  have hl : n < m.length := by rw [R.len]; exact (List.getElem?_eq_some_iff.mp e).1
  exact ⟨m[n], List.getElem?_eq_getElem hl, R.ob n o _ e (List.getElem?_eq_getElem hl)⟩
theorem Rep.at_ (R : Rep K mg m H h) {n : Nat} {o : MO} {a : Addr} (e : h[n]? = some o) (d : m[n]? = some a) : OR K mg m H a o := R.ob n o a e d
/-- something that no place holds is laid -/
theorem Ext.upd_new {a : Addr} {o : HO} (n : H a = none) : Ext m H m (upd H a o) := ⟨⟨[], by simp⟩, fun b u e _ => by rw [upd_ne (ne_of_none e n)]; exact e, fun _ h1 h2 => absurd h1 h2⟩
/-- a place is written -/
theorem Ext.upd_at {a : Addr} {o : HO} (i : a ∈ m) : Ext m H m (upd H a o) := ⟨⟨[], by simp⟩, fun b u e nb => by rw [upd_ne (fun z => nb (by rw [z]; exact i))]; exact e, fun _ h1 h2 => absurd h1 h2⟩
/-- a new place -/
theorem Ext.snoc {a : Addr} {o : HO} (n : H a = none) : Ext m H (m ++ [a]) (upd H a o) := ⟨⟨[a], rfl⟩, fun b u e _ => by rw [upd_ne (ne_of_none e n)]; exact e, fun b h1 h2 => by
  rcases List.mem_append.mp h1 with z | z
  · exact absurd z h2
  · have : b = a := by simpa using z
    rw [this]
    exact n⟩
theorem OR.mono {a : Addr} {o : MO} (e : Gro m H m1 H1) (q : OR K mg m H a o) (st : H1 a = H a) : OR K mg m1 H1 a o := by
  cases o with
  | lst xs => obtain ⟨vs, h1, h2⟩ := q; exact ⟨vs, by rw [st]; exact h1, h2.mono e⟩
  | ins c fs => obtain ⟨C, dx, gs, h1, h2, h3, h4, h5⟩ := q; exact ⟨C, dx, gs, by rw [st]; exact h1, h2, e.out _ _ h4 (fun _ z => by cases z) h3, e.keep _ _ h4 (fun _ z => by cases z) h3, h5.mono e⟩
  | dic kvs => obtain ⟨ls, h1, h2⟩ := q; exact ⟨ls, by rw [st]; exact h1, h2.mono e⟩
/-- something that no place holds is laid -/
theorem Rep.lay (R : Rep K mg m H h) {a : Addr} {o : HO} (n : H a = none) : Rep K mg m (upd H a o) h := by
  refine ⟨R.len, R.nd, fun i u b e d => ?_⟩
  have hb : b ∈ m := List.mem_of_getElem? d
  obtain ⟨u', q⟩ := R.tracked hb
  exact (R.ob i u b e d).mono (Ext.upd_new n).gro (upd_ne (ne_of_none q n))
theorem getElem?_snoc {α : Type} {l : List α} {x y : α} {i : Nat} (e : (l ++ [x])[i]? = some y) : l[i]? = some y ∨ (i = l.length ∧ y = x) := by
  by_cases hi : i < l.length
  · rw [List.getElem?_append_left hi] at e
    exact .inl e
  · rw [List.getElem?_append_right (by omega)] at e
    have : i - l.length = 0 := by
      have := (List.getElem?_eq_some_iff.mp e).1
      simp at this
      omega
    rw [this] at e
    have e' : x = y := by simpa using e
    exact .inr ⟨by omega, e'.symm⟩
/-- something tracked becomes a place -/
theorem Rep.place (R : Rep K mg m H h) {a : Addr} {o : MO} (na : a ∉ m) (e : Gro m H (m ++ [a]) H1) (st : ∀ b, b ∈ m → H1 b = H b) (q : OR K mg (m ++ [a]) H1 a o) : Rep K mg (m ++ [a]) H1 (h ++ [o]) := by
  refine ⟨by simp [R.len], ?_, fun i u b hu hb => ?_⟩
  · rw [List.nodup_append]
    refine ⟨R.nd, by simp, fun x hx y hy z => na ?_⟩
    have hya : y = a := by simpa using hy
    rw [← hya, ← z]
    exact hx
  · rcases getElem?_snoc hu with hu | ⟨hi, rfl⟩
    · rcases getElem?_snoc hb with hb | ⟨hj, rfl⟩
      · exact (R.ob i u b hu hb).mono e (st b (List.mem_of_getElem? hb))
      · have := (List.getElem?_eq_some_iff.mp hu).1
        have := R.len
        omega
    · rcases getElem?_snoc hb with hb | ⟨hj, rfl⟩
      · have := (List.getElem?_eq_some_iff.mp hb).1
        have := R.len
        omega
      · exact q
/-- a place is written -/
theorem Rep.write (R : Rep K mg m H h) {n : Nat} {a : Addr} {o : MO} {ho : HO} (hn : m[n]? = some a) (q : OR K mg m (upd H a ho) a o) : Rep K mg m (upd H a ho) (h.set n o) := by
  have ha : a ∈ m := List.mem_of_getElem? hn
  refine ⟨by simp [R.len], R.nd, fun i u b hu hb => ?_⟩
  by_cases hi : n = i
  · subst hi
    rw [hn] at hb
    cases hb
    rw [List.getElem?_set] at hu
    simp only [if_true] at hu
    split at hu
    · cases hu; exact q
    · cases hu
  · rw [List.getElem?_set_ne hi] at hu
    have hba : b ≠ a := fun z => by
      subst z
      obtain ⟨h1, e1⟩ := List.getElem?_eq_some_iff.mp hn
      obtain ⟨h2, e2⟩ := List.getElem?_eq_some_iff.mp hb
      exact hi ((List.getElem_inj R.nd).mp (e1.trans e2.symm))
    exact (R.ob i u b hu hb).mono (Ext.upd_at ha).gro (upd_ne hba)
theorem Ext.none_of (e : Ext m H m1 H1) (R : Rep K mg m1 H1 h1) {a : Addr} (n : H1 a = none) : H a = none := by
  cases q : H a with
  | none => rfl
  | some o =>
    by_cases ha : a ∈ m
    · obtain ⟨r, rfl⟩ := e.pre
      obtain ⟨u, z⟩ := R.tracked (List.mem_append_left r ha)
      rw [n] at z
      cases z
    · rw [e.keep a o q ha] at n
      cases n
end
/-! ### results -/
section
variable (K : PySem.W.Frag) (mg : Str → Option Value)
/-- a value in flight: a new list may be nobody's yet -/
inductive Dt (H0 : Hp) (m : List Addr) (H : Hp) : MV → V → Prop
  | v {x : MV} {v : V} : Dv K mg m H x v → Dt H0 m H x v
  | tmp {a : Addr} {vs : List V} {xs : List MV} : H a = some (.lst vs) → a ∉ m → H0 a = none → DvAll K mg m H xs vs → Dt H0 m H (.tmp xs) (.ref a)
def rg {α β : Type} (D : Hp → List Addr → Hp → α → β → Prop) (W : WX) (σ : L2.St) (m : List Addr) (H : Hp) (r : Res α) (Q : β → Hp → Prop) : Prop := match r with
  | .ok a h' => ∀ b m' H', Ext m H m' H' → Rep K mg m' H' h' → D H m' H' a b → Q b H'
  | .exc x h' => ∀ cls d m' H', Ext m H m' H' → Rep K mg m' H' h' → XR K mg m' H' x cls d → W cls d σ H'
  | .stuck => False
abbrev DV : Hp → List Addr → Hp → MV → V → Prop := fun H0 m H x v => Dt K mg H0 m H x v
abbrev DA : Hp → List Addr → Hp → List MV → List V → Prop := fun _ m H xs vs => DvAll K mg m H xs vs
abbrev DB : Hp → List Addr → Hp → Bool → Bool → Prop := fun _ _ _ a b => a = b
def tg {α β : Type} (D : Hp → List Addr → Hp → α → β → Prop) (W : WX) (A : MS → MH → Res α) : L2.St → Hp → (β → Hp → Prop) → Prop := fun σ H Q =>
  ∃ m σm h, Rep K mg m H h ∧ SRel K mg m H σm σ ∧ rg K mg D W σ m H (A σm h) Q
def rs (W : WX) (D : Ends) (m : List Addr) (H : Hp) (r : SR) : Prop := match r with
  | .next σ' h' => ∀ s' m' H', Ext m H m' H' → Rep K mg m' H' h' → SRel K mg m' H' σ' s' → D.nx s' H'
  | .ret v h' => ∀ v' m' H', Ext m H m' H' → Rep K mg m' H' h' → Dt K mg H m' H' v v' → D.rt v' H'
  | .brk σ' h' => ∀ s' m' H', Ext m H m' H' → Rep K mg m' H' h' → SRel K mg m' H' σ' s' → D.bk s' H'
  | .cont σ' h' => ∀ s' m' H', Ext m H m' H' → Rep K mg m' H' h' → SRel K mg m' H' σ' s' → D.ct s' H'
  | .exc x σ' h' => ∀ cls d s' m' H', Ext m H m' H' → Rep K mg m' H' h' → SRel K mg m' H' σ' s' → XR K mg m' H' x cls d → W cls d s' H'
  | .stuck => False
def tgS (W : WX) (A : MSt) : TS := fun D σ H => ∃ m σm h, Rep K mg m H h ∧ SRel K mg m H σm σ ∧ rs K mg W D m H (A σm h)
/-- D may be said of an earlier start -/
structure DM {α β : Type} (D : Hp → List Addr → Hp → α → β → Prop) : Prop where
  back : ∀ {m H m1 H1 h1 m2 H2 a b}, Ext m H m1 H1 → Rep K mg m1 H1 h1 → D H1 m2 H2 a b → D H m2 H2 a b
end
section
variable {K : PySem.W.Frag} {mg : Str → Option Value} {m m1 m2 : List Addr} {H H0 H1 H2 : Hp} {h h1 h2 : MH} {W : WX} {σ : L2.St}
theorem Dt.mono (e : Ext m H m1 H1) {x : MV} {v : V} (d : Dt K mg H0 m H x v) : Dt K mg H0 m1 H1 x v := by
  cases d with
  | v d => exact .v (d.mono e.gro)
  | tmp h1 h2 h3 h4 => exact .tmp (e.keep _ _ h1 h2) (e.out h1 h2) h3 (h4.mono e.gro)
theorem Dt.back (e : Ext m H m1 H1) (R : Rep K mg m1 H1 h1) {x : MV} {v : V} (d : Dt K mg H1 m2 H2 x v) : Dt K mg H m2 H2 x v := by
  cases d with
  | v d => exact .v d
  | tmp h1 h2 h3 h4 => exact .tmp h1 h2 (e.none_of R h3) h4
theorem dmV : DM K mg (DV K mg) := ⟨fun e R d => d.back e R⟩
theorem dmA : DM K mg (DA K mg) := ⟨fun _ _ d => d⟩
theorem dmB : DM K mg DB := ⟨fun _ _ d => d⟩
theorem rg.ext {α β : Type} {D : Hp → List Addr → Hp → α → β → Prop} {r : Res α} {Q : β → Hp → Prop} (dm : DM K mg D) (e : Ext m H m1 H1) (R : Rep K mg m1 H1 h1) (q : rg K mg D W σ m H r Q) : rg K mg D W σ m1 H1 r Q := by
  cases r with
  | ok a h' => exact fun b m' H' e' R' d => q b m' H' (e.trans e') R' (dm.back e R d)
  | exc x h' => exact fun cls d m' H' e' R' x => q cls d m' H' (e.trans e') R' x
  | stuck => exact q
theorem rg.bind {α β γ δ : Type} {D : Hp → List Addr → Hp → α → β → Prop} {D' : Hp → List Addr → Hp → γ → δ → Prop} {r : Res α} {f : α → MH → Res γ} {Q : δ → Hp → Prop} {Q' : β → Hp → Prop} (q : rg K mg D' W σ m H (r.bind f) Q)
    (k : ∀ a h1 b m1 H1, Ext m H m1 H1 → Rep K mg m1 H1 h1 → D H m1 H1 a b → rg K mg D' W σ m H (f a h1) Q → Q' b H1) : rg K mg D W σ m H r Q' := by
  cases r with
  | ok a h' => exact fun b m' H' e' R' d => k a h' b m' H' e' R' d q
  | exc x h' => exact q
  | stuck => exact q
/-- the answer at once -/
theorem rg.here {α β : Type} {D : Hp → List Addr → Hp → α → β → Prop} {a : α} {b : β} {Q : β → Hp → Prop} (q : rg K mg D W σ m H (.ok a h) Q) (R : Rep K mg m H h) (d : D H m H a b) : Q b H := q b m H Ext.refl R d
theorem _root_.L2.PE.imp {X : Cx} {e : Expr} {t t' : TE} (p : PE X e t) (h : ∀ σ H Q, t' σ H Q → t σ H Q) : PE X e t' := ⟨fun pins s σ H Q I q => p.run pins s σ H Q I (h σ H Q q)⟩
theorem _root_.L2.PT.imp {X : Cx} {e : Expr} {t t' : TT} (p : PT X e t) (h : ∀ σ H Q, t' σ H Q → t σ H Q) : PT X e t' := ⟨fun pins s σ H Q I q => p.run pins s σ H Q I (h σ H Q q)⟩
theorem _root_.L2.PW.imp {X : Cx} {e : Expr} {t t' : TT} (p : PW X e t) (h : ∀ σ H Q, t' σ H Q → t σ H Q) : PW X e t' := ⟨fun whole pins s σ H Q I q => p.run whole pins s σ H Q I (h σ H Q q)⟩
theorem _root_.L2.PA.imp {X : Cx} {e : List Expr} {t t' : TA} (p : PA X e t) (h : ∀ σ H Q, t' σ H Q → t σ H Q) : PA X e t' := ⟨fun pos pins s σ H Q I q => p.run pos pins s σ H Q I (h σ H Q q)⟩
theorem _root_.L2.PS.imp {X : Cx} {e : Stmt} {t t' : TS} (p : PS X e t) (h : ∀ D σ H, t' D σ H → t D σ H) : PS X e t' := ⟨fun pins s σ H D I q => p.run pins s σ H D I (h D σ H q)⟩
theorem _root_.L2.PSs.imp {X : Cx} {e : List Stmt} {t t' : TS} (p : PSs X e t) (h : ∀ D σ H, t' D σ H → t D σ H) : PSs X e t' := ⟨fun pins s σ H D I q => p.run pins s σ H D I (h D σ H q)⟩
end
section
variable (K : PySem.W.Frag) (mg : Str → Option Value) (W : WX) (X : Cx)
/-- an expression means A; a test, arguments, a statement, a block -/
abbrev SE (e : Expr) (A : ME) : Prop := PE X e (tg K mg (DV K mg) W A)
abbrev STt (e : Expr) (A : MT) : Prop := PT X e (tg K mg DB W A)
abbrev SWt (e : Expr) (A : MT) : Prop := PW X e (tg K mg DB W A)
abbrev SA (es : List Expr) (A : MA) : Prop := PA X es (tg K mg (DA K mg) W A)
abbrev SS (st : Stmt) (A : MSt) : Prop := PS X st (tgS K mg W A)
abbrev SSs (st : List Stmt) (A : MSt) : Prop := PSs X st (tgS K mg W A)
end
end Mi

set_option maxHeartbeats 400000
/-! ### expressions -/
namespace Mi
open PySem PySem.Spec PyProof.Rows L2
def settle (v : MV) (h : MH) : Res MV := match v with
  | .tmp xs => .ok (.ref h.length) (h ++ [.lst xs])
  | v => .ok v h
def eVar (i : Nat) : ME := fun σ h => match σ[i]? with
  | some (some v) => .ok v h
  | _ => .stuck
def eC (v : MV) : ME := fun _ h => .ok v h
def eSet (A : ME) : ME := fun σ h => (A σ h).bind settle
def eUn (op : MV → MH → Res MV) (A : ME) : ME := fun σ h => (A σ h).bind op
def eBin (op : MV → MV → MH → Res MV) (A B : ME) : ME := fun σ h => (A σ h).bind fun x h1 => (B σ h1).bind fun y h2 => op x y h2
def tB (A : ME) : MT := fun σ h => (A σ h).bind fun v h1 => match v with
  | .bl b => .ok b h1
  | _ => .stuck
/-- a list by its items -/
def asL (h : MH) (v : MV) : Option (List MV) := match v with
  | .tmp xs => some xs
  | .con xs => some xs
  | .ref n => match h[n]? with
    | some (.lst xs) => some xs
    | _ => none
  | _ => none
/-- .. that is no script -/
def asL0 (h : MH) (v : MV) : Option (List MV) := match v with
  | .tmp xs => some xs
  | .ref n => match h[n]? with
    | some (.lst xs) => some xs
    | _ => none
  | _ => none
def truM (h : MH) (v : MV) : Option Bool := match v with
  | .non => some false
  | .bl b => some b
  | .int i => some (i != 0)
  | .str x => if x.length ≤ sizeLine then some ((x.length : Int) != 0) else none
  | .tup xs => some (!xs.isEmpty)
  | v => (asL h v).map fun xs => !xs.isEmpty
def tTru (A : ME) : MT := fun σ h => (A σ h).bind fun v h1 => match truM h1 v with
  | some b => .ok b h1
  | none => .stuck
def tAndM (A B : MT) : MT := fun σ h => (A σ h).bind fun b h1 => if b = true then B σ h1 else .ok false h1
def tOrM (A B : MT) : MT := fun σ h => (A σ h).bind fun b h1 => if b = true then .ok true h1 else B σ h1
def tNotM (A : MT) : MT := fun σ h => (A σ h).bind fun b h1 => .ok (!b) h1
def eAnd (A B : ME) : ME := fun σ h => (A σ h).bind fun x h1 => match truM h1 x with
  | some true => B σ h1
  | some false => .ok x h1
  | none => .stuck
def eOr (A B : ME) : ME := fun σ h => (A σ h).bind fun x h1 => match truM h1 x with
  | some true => .ok x h1
  | some false => B σ h1
  | none => .stuck
def eNot (A : ME) : ME := fun σ h => (A σ h).bind fun x h1 => match truM h1 x with
  | some b => .ok (.bl (!b)) h1
  | none => .stuck
def eIf (T : MT) (A B : ME) : ME := fun σ h => (T σ h).bind fun b h1 => if b = true then A σ h1 else B σ h1
def eChain (op op' : MV → MV → MH → Res MV) (A B C : ME) : ME := fun σ h => (A σ h).bind fun x h1 => (B σ h1).bind fun y h2 => (op x y h2).bind fun z h3 => match z with
  | .bl true => (C σ h3).bind fun w h4 => op' y w h4
  | .bl false => .ok (.bl false) h3
  | _ => .stuck
def aNil : MA := fun _ h => .ok [] h
def aCons (A : ME) (R : MA) : MA := fun σ h => (A σ h).bind fun v h1 => (settle v h1).bind fun v h2 => (R σ h2).bind fun vs h3 => .ok (v :: vs) h3
def eTup (A : MA) : ME := fun σ h => (A σ h).bind fun xs h1 => .ok (.tup xs) h1
def eLst (A : MA) : ME := fun σ h => (A σ h).bind fun xs h1 => .ok (.tmp xs) h1
def eCB (f : List MV → MH → Res MV) (A : MA) : ME := fun σ h => (A σ h).bind f
/-- one argument that is only read -/
def eCB1 (f : MV → MH → Res MV) (A : ME) : ME := fun σ h => (A σ h).bind f
def LenA (A : MA) (n : Nat) : Prop := ∀ σ h xs h', A σ h = .ok xs h' → xs.length = n
theorem len_nil : LenA aNil 0 := fun _ _ _ _ e => by cases e; rfl
theorem len_cons {A : ME} {R : MA} {n : Nat} (l : LenA R n) : LenA (aCons A R) (n + 1) := fun σ h xs h' e => by
  unfold aCons at e
  cases q : A σ h with
  | ok v h1 =>
    rw [q, Res.ok_bind] at e
    cases q2 : settle v h1 with
    | ok v2 h2 =>
      rw [q2, Res.ok_bind] at e
      cases q3 : R σ h2 with
      | ok vs h3 =>
        rw [q3, Res.ok_bind] at e
        cases e
        simp [l _ _ _ _ q3]
      | exc x h3 => rw [q3] at e; cases e
      | stuck => rw [q3] at e; cases e
    | exc x h2 => rw [q2] at e; cases e
    | stuck => rw [q2] at e; cases e
  | exc x h1 => rw [q] at e; cases e
  | stuck => rw [q] at e; cases e
section
variable (K : PySem.W.Frag) (mg : Str → Option Value)
/-- readings by the plain meaning -/
def rOp (op : MV → MV → MH → Res MV) : R2 := fun x' y' H Q => ∃ m h x y H0 H1 σ W, Rep K mg m H h ∧ Dt K mg H0 m H x x' ∧ Dt K mg H1 m H y y' ∧ rg K mg (DV K mg) W σ m H (op x y h) Q
def rUn (op : MV → MH → Res MV) : V → Hp → VK → Prop := fun x' H Q => ∃ m h x H0 σ W, Rep K mg m H h ∧ Dt K mg H0 m H x x' ∧ rg K mg (DV K mg) W σ m H (op x h) Q
def rCl (f : List MV → MH → Res MV) : List V → Hp → VK → Prop := fun vs H Q => ∃ m h xs σ W, Rep K mg m H h ∧ DvAll K mg m H xs vs ∧ rg K mg (DV K mg) W σ m H (f xs h) Q
def rCl1 (f : MV → MH → Res MV) : List V → Hp → VK → Prop := fun vs H Q => ∃ m h x v H0 σ W, vs = [v] ∧ Rep K mg m H h ∧ Dt K mg H0 m H x v ∧ rg K mg (DV K mg) W σ m H (f x h) Q
def rMt (f : MV → List MV → MH → Res MV) : V → List V → Hp → VK → Prop := fun v vs H Q => ∃ m h x xs H0 σ W, Rep K mg m H h ∧ Dt K mg H0 m H x v ∧ DvAll K mg m H xs vs ∧ rg K mg (DV K mg) W σ m H (f x xs h) Q
end
section
variable {K : PySem.W.Frag} {mg : Str → Option Value} {m m1 m2 : List Addr} {H H0 H1 H2 : Hp} {h h1 h2 : MH} {W : WX} {σ : L2.St} {X : Cx} {a b c : Expr} {A B C : ME} {T U : MT} {pos : Pos}
/-! #### values -/
theorem Dv.notmp {x : MV} {v : V} (d : Dv K mg m H x v) : ∀ xs, x ≠ .tmp xs := by cases d <;> intro xs e <;> cases e
theorem Dt.dv {x : MV} {v : V} (d : Dt K mg H0 m H x v) (n : ∀ xs, x ≠ .tmp xs) : Dv K mg m H x v := by
  cases d with
  | v d => exact d
  | tmp _ _ _ _ => exact absurd rfl (n _)
theorem settle_notmp {x : MV} (n : ∀ xs, x ≠ .tmp xs) : settle x h = .ok x h := by
  cases x <;> first | rfl | exact absurd rfl (n _)
/-- a new list becomes a place -/
theorem rg.settle {x : MV} {v : V} {Q : VK} {D : Hp → List Addr → Hp → MV → V → Prop} (hD : ∀ {H m H1 x v}, Dv K mg m H1 x v → D H m H1 x v) (e : Ext m H m1 H1) (R : Rep K mg m1 H1 h1) (d : Dt K mg H m1 H1 x v) (q : rg K mg D W σ m H (settle x h1) Q) : Q v H1 := by
  cases d with
  | v d =>
    rw [settle_notmp d.notmp] at q
    exact q v m1 H1 e R (hD d)
  | @tmp a vs xs ha na n0 hv =>
    have e3 : Ext m H (m1 ++ [a]) H1 := by
      obtain ⟨r, hr⟩ := e.pre
      refine ⟨⟨r ++ [a], by rw [hr, List.append_assoc]⟩, e.keep, fun b hb nb => ?_⟩
      rcases List.mem_append.mp hb with z | z
      · exact e.new b z nb
      · have : b = a := by simpa using z
        rw [this]
        exact n0
    have g : Gro m1 H1 (m1 ++ [a]) H1 := by
      refine ⟨⟨[a], rfl⟩, fun _ _ h _ _ => h, fun b o hb hl nb z => ?_⟩
      rcases List.mem_append.mp z with z | z
      · exact nb z
      · have z' : b = a := by simpa using z
        subst z'
        rw [ha] at hb
        cases hb
        exact hl _ rfl
    exact q (.ref a) (m1 ++ [a]) H1 e3 (R.place na g (fun _ _ => rfl) ⟨vs, ha, hv.mono g⟩) (hD (.ref (by rw [← R.len]; simp)))
theorem sqt_of {K : PySem.W.Frag} {xs : List MV} {v : V} (d : Dv K mg m H (.tup xs) v) : ∃ a vs, v = .ref a ∧ SqT K H a vs ∧ DvAll K mg m H xs vs := by
  cases d with
  | tup h _ r => exact ⟨_, _, rfl, .inl (.inl h), r⟩
  | tupK h r => exact ⟨_, _, rfl, .inr h, r⟩
theorem Dt.tup {xs : List MV} {v : V} (d : Dt K mg H0 m H (.tup xs) v) : ∃ a vs, v = .ref a ∧ SqT K H a vs ∧ DvAll K mg m H xs vs := sqt_of (d.dv (fun _ => MV.noConfusion))
theorem Dt.asL (R : Rep K mg m H h) {x : MV} {v : V} (d : Dt K mg H0 m H x v) {xs : List MV} (e : asL h x = some xs) : ∃ a vs, v = .ref a ∧ SqL K H a vs ∧ DvAll K mg m H xs vs := by
  cases d with
  | tmp ha na n0 hv => cases e; exact ⟨_, _, rfl, SqL.of ha, hv⟩
  | v d =>
    cases d with
    | @ref n a hn =>
      cases q : h[n]? with
      | none => simp [Mi.asL, q] at e
      | some o =>
        have ob := R.at_ q hn
        cases o with
        | lst ys =>
          have : ys = xs := by simpa [Mi.asL, q] using e
          subst this
          obtain ⟨vs, h1, h2⟩ := ob
          exact ⟨a, vs, rfl, SqL.of h1, h2⟩
        | ins c fs => simp [Mi.asL, q] at e
        | dic kvs => simp [Mi.asL, q] at e
    | con h1 h2 h3 => cases e; exact ⟨_, _, rfl, .inl (.inr ⟨_, h1⟩), h3⟩
    | conK h1 h3 => cases e; exact ⟨_, _, rfl, .inr h1, h3⟩
    | _ => simp [Mi.asL] at e
theorem Dt.asL0 (R : Rep K mg m H h) {x : MV} {v : V} (d : Dt K mg H0 m H x v) {xs : List MV} (e : asL0 h x = some xs) : ∃ a vs, v = .ref a ∧ H a = some (.lst vs) ∧ DvAll K mg m H xs vs := by
  cases d with
  | tmp ha na n0 hv => cases e; exact ⟨_, _, rfl, ha, hv⟩
  | v d =>
    cases d with
    | @ref n a hn =>
      cases q : h[n]? with
      | none => simp [Mi.asL0, q] at e
      | some o =>
        have ob := R.at_ q hn
        cases o with
        | lst ys =>
          have : ys = xs := by simpa [Mi.asL0, q] using e
          subst this
          obtain ⟨vs, h1, h2⟩ := ob
          exact ⟨a, vs, rfl, h1, h2⟩
        | ins c fs => simp [Mi.asL0, q] at e
        | dic kvs => simp [Mi.asL0, q] at e
    | _ => simp [Mi.asL0] at e
theorem DvAll.isEmpty {xs : List MV} {vs : List V} (r : DvAll K mg m H xs vs) : vs.isEmpty = xs.isEmpty := by cases r <;> rfl
theorem tru_of (R : Rep K mg m H h) {x : MV} {v : V} (d : Dt K mg H0 m H x v) {b : Bool} (e : truM h x = some b) : TruV K v H b := by
  cases x with
  | non => cases d.dv (fun _ => MV.noConfusion); cases e; rfl
  | bl b => cases d.dv (fun _ => MV.noConfusion); cases e; rfl
  | int i => cases d.dv (fun _ => MV.noConfusion); cases e; rfl
  | str x =>
    cases d.dv (fun _ => MV.noConfusion)
    unfold truM at e
    dsimp only at e
    split at e
    · rename_i hx
      cases e
      exact ⟨hx, rfl⟩
    · cases e
  | tup xs =>
    obtain ⟨a, vs, rfl, h1, h2⟩ := d.tup
    cases e
    exact .inr (.inl ⟨vs, h1, by rw [h2.isEmpty]⟩)
  | tmp xs =>
    obtain ⟨a, vs, rfl, h1, h2⟩ := d.asL R (xs := xs) rfl
    cases e
    exact .inl ⟨vs, h1, by rw [h2.isEmpty]⟩
  | con xs =>
    obtain ⟨a, vs, rfl, h1, h2⟩ := d.asL R (xs := xs) rfl
    cases e
    exact .inl ⟨vs, h1, by rw [h2.isEmpty]⟩
  | ref n =>
    cases q : Mi.asL h (.ref n) with
    | none => simp [truM, q] at e
    | some xs =>
      obtain ⟨a, vs, rfl, h1, h2⟩ := d.asL R q
      have : b = !xs.isEmpty := by simpa [truM, q] using e.symm
      subst this
      exact .inl ⟨vs, h1, by rw [h2.isEmpty]⟩
  | ty n => simp [truM, Mi.asL] at e
  | cls n => simp [truM, Mi.asL] at e
  | fn n => simp [truM, Mi.asL] at e
  | exn c ns vs => simp [truM, Mi.asL] at e
/-! #### rules -/
theorem se_var {i : Nat} {x : Str} {pos : Pos} (hN : X.N[i]? = some x) (hv : Vis X.env.scope x) (hd : (x == ("__debug__" : Str)) = false := by decide) (hcd : (x == ("__classdict__" : Str)) = false := by decide) : SE K mg W X (.Name x pos) (eVar i) :=
  (pe_var hN hv hd hcd).imp fun σ H Q ⟨m, σm, h, R, S, q⟩ => by
    unfold eVar at q
    cases e : σm[i]? with
    | none => rw [e] at q; exact q.elim
    | some o =>
      cases o with
      | none => rw [e] at q; exact q.elim
      | some v =>
        rw [e] at q
        obtain ⟨v', h1, h2⟩ := S.at_ i v e
        exact ⟨v', h1, rg.here q R (.v h2)⟩
theorem se_int {i j pos} : SE K mg W X (.Constant (.int i) j pos) (eC (.int i)) := pe_int.imp fun σ H Q ⟨m, σm, h, R, S, q⟩ => rg.here q R (.v (.int i))
theorem se_bl {i j pos} : SE K mg W X (.Constant (.bool i) j pos) (eC (.bl i)) := pe_bl.imp fun σ H Q ⟨m, σm, h, R, S, q⟩ => rg.here q R (.v (.bl i))
theorem se_non {j pos} : SE K mg W X (.Constant .none j pos) (eC .non) := pe_non.imp fun σ H Q ⟨m, σm, h, R, S, q⟩ => rg.here q R (.v .non)
theorem se_str {i j pos} : SE K mg W X (.Constant (.str i) j pos) (eC (.str i)) := pe_str.imp fun σ H Q ⟨m, σm, h, R, S, q⟩ => rg.here q R (.v (.str i))
/-- a module's constant -/
theorem se_glob {x : Str} {y : MV} {v : V} {u : Value} {pos : Pos} (hg : Gl X x) (hm : X.mg x = some u) (r : RelV v u) (d : ∀ m H, Dv K mg m H y v) (hd : (x == ("__debug__" : Str)) = false := by decide) : SE K mg W X (.Name x pos) (eC y) :=
  (pe_glob hg hm r hd).imp fun σ H Q ⟨m, σm, h, R, S, q⟩ => rg.here q R (.v (d m H))
theorem se_gint {x : Str} {i : Int} {pos : Pos} (hm : ∃ t, mg x = some (.int i t)) (hg : Gl X x) (hM : X.mg = mg := by rfl) (hd : (x == ("__debug__" : Str)) = false := by decide) : SE K mg W X (.Name x pos) (eC (.int i)) := by
  obtain ⟨t, hm⟩ := hm
  exact se_glob (v := .int i) hg (by rw [hM]; exact hm) ⟨t, rfl⟩ (fun _ _ => .int i) hd
theorem se_gstr {x : Str} {i : Str} {pos : Pos} (hm : ∃ t, mg x = some (.str i t)) (hg : Gl X x) (hM : X.mg = mg := by rfl) (hd : (x == ("__debug__" : Str)) = false := by decide) : SE K mg W X (.Name x pos) (eC (.str i)) := by
  obtain ⟨t, hm⟩ := hm
  exact se_glob (v := .str i) hg (by rw [hM]; exact hm) ⟨t, rfl⟩ (fun _ _ => .str i) hd
theorem se_cls {x : Str} {C : Addr} {pos : Pos} (hm : mg x = some (.ref C)) (hg : Gl X x) (hM : X.mg = mg := by rfl) (hd : (x == ("__debug__" : Str)) = false := by decide) : SE K mg W X (.Name x pos) (eC (.cls x)) :=
  se_glob (v := .ref C) hg (by rw [hM]; exact hm) rfl (fun _ _ => .cls hm) hd
theorem se_fn {x : Str} {C : Addr} {pos : Pos} (hm : mg x = some (.ref C)) (hg : Gl X x) (hM : X.mg = mg := by rfl) (hd : (x == ("__debug__" : Str)) = false := by decide) : SE K mg W X (.Name x pos) (eC (.fn x)) :=
  se_glob (v := .ref C) hg (by rw [hM]; exact hm) rfl (fun _ _ => .fn hm) hd
/-- a built-in class as a value -/
theorem se_ty {x : Str} {n : String} {pos : Pos} (hm : mg x = none) (hg : Gl X x) (hv : bootBuiltins x = some (.type n)) (hM : X.mg = mg := by rfl) (hn : x ≠ "__name__" := by decide) (hd : (x == ("__debug__" : Str)) = false := by decide) : SE K mg W X (.Name x pos) (eC (.ty n)) :=
  (pe_bltn (v := .ty n) hg (by rw [hM]; exact hm) hv rfl hn hd).imp fun σ H Q ⟨m, σm, h, R, S, q⟩ => rg.here q R (.v (.ty n))
theorem se_set (ha : SE K mg W X a A) : SE K mg W X a (eSet A) := ha.imp fun σ H Q ⟨m, σm, h, R, S, q⟩ => by
  refine ⟨m, σm, h, R, S, ?_⟩
  unfold eSet at q
  cases e : A σm h with
  | ok v h1 =>
    rw [e] at q
    exact fun v' m1 H1 e1 R1 d1 => rg.settle (D := DV K mg) (fun d => .v d) e1 R1 d1 q
  | exc x h1 => rw [e] at q; exact q
  | stuck => rw [e] at q; exact q
theorem tg_bin {op : MV → MV → MH → Res MV} {Q : VK} (t : tg K mg (DV K mg) W (eBin op A B) σ H Q) : tOp (rOp K mg op) (tg K mg (DV K mg) W A) (tg K mg (DV K mg) W B) σ H Q := by
  obtain ⟨m, σm, h, R, S, q⟩ := t
  refine ⟨m, σm, h, R, S, rg.bind q fun x h1 x' m1 H1 e1 R1 d1 q1 => ?_⟩
  refine ⟨m1, σm, h1, R1, S.mono e1.gro, rg.bind (rg.ext dmV e1 R1 q1) fun y h2 y' m2 H2 e2 R2 d2 q2 => ?_⟩
  exact ⟨m2, h2, x, y, H, H1, σ, W, R2, d1.mono e2, d2, rg.ext dmV e2 R2 q2⟩
theorem tg_un {op : MV → MH → Res MV} {Q : VK} (t : tg K mg (DV K mg) W (eUn op A) σ H Q) : tUn (rUn K mg op) (tg K mg (DV K mg) W A) σ H Q := by
  obtain ⟨m, σm, h, R, S, q⟩ := t
  refine ⟨m, σm, h, R, S, rg.bind q fun x h1 x' m1 H1 e1 R1 d1 q1 => ?_⟩
  exact ⟨m1, h1, x, H, σ, W, R1, d1, rg.ext dmV e1 R1 q1⟩
theorem se_op {o : Operator} {op : MV → MV → MH → Res MV} (hop : OpR X (binaryOp o) (rOp K mg op)) (ha : SE K mg W X a A) (hb : SE K mg W X b B) : SE K mg W X (.BinOp a o b pos) (eBin op A B) := (pe_op hop ha hb).imp fun _ _ _ => tg_bin
theorem se_un {o : UnaryOp} {op : MV → MH → Res MV} (hop : UnR X (unaryOp o) (rUn K mg op)) (ha : SE K mg W X a A) : SE K mg W X (.UnaryOp o a pos) (eUn op A) := (pe_un hop ha).imp fun _ _ _ => tg_un
theorem se_cmp {o : CmpOp} {op : MV → MV → MH → Res MV} (hop : OpR X (compareOp o) (rOp K mg op)) (ha : SE K mg W X a A) (hb : SE K mg W X b B) (hm : behindInMarks o b = false) : SE K mg W X (.Compare a [o] [b] pos) (eBin op A B) := (pe_cmpR hop ha hb hm).imp fun _ _ _ => tg_bin
theorem se_ix {op : MV → MV → MH → Res MV} (hop : IxR X (rOp K mg op)) (ha : SE K mg W X a A) (hb : SE K mg W X b B) (hs : PlainIx b) : SE K mg W X (.Subscript a b pos) (eBin op A B) := (pe_ix hop ha hb hs).imp fun _ _ _ => tg_bin
/-- a value that is a bool, as a test -/
theorem tg_test {Q : Bool → Hp → Prop} (t : tg K mg DB W (tB A) σ H Q) : tTest (tg K mg (DV K mg) W A) σ H Q := by
  obtain ⟨m, σm, h, R, S, q⟩ := t
  refine ⟨m, σm, h, R, S, rg.bind q fun x h1 x' m1 H1 e1 R1 d1 q1 => ?_⟩
  cases x with
  | bl b =>
    cases d1.dv (fun _ => MV.noConfusion)
    exact ⟨b, rfl, q1 b m1 H1 e1 R1 rfl⟩
  | _ => exact q1.elim
theorem tg_tB {Q : Bool → Hp → Prop} (t : tg K mg DB W (tB A) σ H Q) : tg K mg (DV K mg) W A σ H (fun x H' => ∃ k, x = .bl k ∧ Q k H') := tg_test t
theorem st_cmp {o : CmpOp} {op : MV → MV → MH → Res MV} (hop : OpR X (compareOp o) (rOp K mg op)) (ha : SE K mg W X a A) (hb : SE K mg W X b B) (hm : behindInMarks o b = false) : STt K mg W X (.Compare a [o] [b] pos) (tB (eBin op A B)) := (pt_cmpR hop ha hb hm).imp fun _ _ _ t => tg_bin (tg_tB t)
theorem tg_chain {op op' : MV → MV → MH → Res MV} {Q : VK} (t : tg K mg (DV K mg) W (eChain op op' A B C) σ H Q) : tChain (rOp K mg op) (rOp K mg op') (tg K mg (DV K mg) W A) (tg K mg (DV K mg) W B) (tg K mg (DV K mg) W C) σ H Q := by
  obtain ⟨m, σm, h, R, S, q⟩ := t
  refine ⟨m, σm, h, R, S, rg.bind q fun x h1 x' m1 H1 e1 R1 d1 q1 => ?_⟩
  refine ⟨m1, σm, h1, R1, S.mono e1.gro, rg.bind (rg.ext dmV e1 R1 q1) fun y h2 y' m2 H2 e2 R2 d2 q2 => ?_⟩
  refine ⟨m2, h2, x, y, H, H1, σ, W, R2, d1.mono e2, d2, rg.bind (rg.ext dmV e2 R2 q2) fun z h3 z' m3 H3 e3 R3 d3 q3 => ?_⟩
  cases z with
  | bl b =>
    cases d3.dv (fun _ => MV.noConfusion)
    refine ⟨b, rfl, ?_⟩
    cases b with
    | true =>
      rw [if_pos rfl]
      refine ⟨m3, σm, h3, R3, ((S.mono e1.gro).mono e2.gro).mono e3.gro, rg.bind (rg.ext dmV e3 R3 q3) fun w h4 w' m4 H4 e4 R4 d4 q4 => ?_⟩
      exact ⟨m4, h4, y, w, H1, H3, σ, W, R4, (d2.mono e3).mono e4, d4, rg.ext dmV e4 R4 q4⟩
    | false =>
      rw [if_neg Bool.false_ne_true]
      exact q3 _ _ _ e3 R3 (.v (.bl false))
  | _ => exact q3.elim
theorem se_chain {o o' : CmpOp} {op op' : MV → MV → MH → Res MV} (hop : OpR X (compareOp o) (rOp K mg op)) (hop' : OpR X (compareOp o') (rOp K mg op')) (ha : SE K mg W X a A) (hb : SE K mg W X b B) (hc : SE K mg W X c C)
    (hm : lastMarks [o, o'] [b, c] = false := by with_unfolding_all rfl) : SE K mg W X (.Compare a [o, o'] [b, c] pos) (eChain op op' A B C) := (pe_chain hop hop' ha hb hc hm).imp fun _ _ _ => tg_chain
theorem st_chain {o o' : CmpOp} {op op' : MV → MV → MH → Res MV} (hop : OpR X (compareOp o) (rOp K mg op)) (hop' : OpR X (compareOp o') (rOp K mg op')) (ha : SE K mg W X a A) (hb : SE K mg W X b B) (hc : SE K mg W X c C)
    (hm : lastMarks [o, o'] [b, c] = false := by with_unfolding_all rfl) : STt K mg W X (.Compare a [o, o'] [b, c] pos) (tB (eChain op op' A B C)) := (pt_chain hop hop' ha hb hc hm).imp fun _ _ _ t => tg_chain (tg_tB t)
/-- any other expression as a test -/
theorem st_tru (ha : SE K mg W X a A) (he : ∀ whole, isTrue a X.env whole = (do let v ← whole; standAt a.pos; holding [v] (truthy v)) := by intro _; rfl) (hK : X.K = K := by rfl) : STt K mg W X a (tTru A) := (pt_truth ha he).imp fun σ H Q ⟨m, σm, h, R, S, q⟩ => by
  refine ⟨m, σm, h, R, S, rg.bind q fun x h1 x' m1 H1 e1 R1 d1 q1 => ?_⟩
  cases e : truM h1 x with
  | none => rw [e] at q1; exact q1.elim
  | some b =>
    rw [e] at q1
    exact ⟨b, by rw [hK]; exact tru_of R1 d1 e, q1 b m1 H1 e1 R1 rfl⟩
theorem st_not (ha : STt K mg W X a T) : STt K mg W X (.UnaryOp .Not a pos) (tNotM T) := (pt_not ha).imp fun σ H Q ⟨m, σm, h, R, S, q⟩ =>
  ⟨m, σm, h, R, S, rg.bind q fun x h1 x' m1 H1 e1 R1 d1 q1 => q1 _ m1 H1 e1 R1 (congrArg not (show x = x' from d1))⟩
theorem sw_and1 (ha : STt K mg W X a T) : SWt K mg W X (.BoolOp .And [a] pos) T := pw_and1 ha
theorem sw_or1 (ha : STt K mg W X a T) : SWt K mg W X (.BoolOp .Or [a] pos) T := pw_or1 ha
theorem sw_and {r : List Expr} (ha : STt K mg W X a T) (hb : SWt K mg W X (.BoolOp .And (b :: r) pos) U) : SWt K mg W X (.BoolOp .And (a :: b :: r) pos) (tAndM T U) := (pw_and ha hb).imp fun σ H Q ⟨m, σm, h, R, S, q⟩ => by
  refine ⟨m, σm, h, R, S, rg.bind q fun x h1 x' m1 H1 e1 R1 d1 q1 => ?_⟩
  cases (show x = x' from d1)
  cases x with
  | true => exact ⟨m1, σm, h1, R1, S.mono e1.gro, rg.ext dmB e1 R1 q1⟩
  | false => exact q1 false m1 H1 e1 R1 rfl
theorem sw_or {r : List Expr} (ha : STt K mg W X a T) (hb : SWt K mg W X (.BoolOp .Or (b :: r) pos) U) : SWt K mg W X (.BoolOp .Or (a :: b :: r) pos) (tOrM T U) := (pw_or ha hb).imp fun σ H Q ⟨m, σm, h, R, S, q⟩ => by
  refine ⟨m, σm, h, R, S, rg.bind q fun x h1 x' m1 H1 e1 R1 d1 q1 => ?_⟩
  cases (show x = x' from d1)
  cases x with
  | true => exact q1 true m1 H1 e1 R1 rfl
  | false => exact ⟨m1, σm, h1, R1, S.mono e1.gro, rg.ext dmB e1 R1 q1⟩
theorem SWt.pt (h : SWt K mg W X a T) : STt K mg W X a T := PW.pt h
theorem se_one {op} (ha : SE K mg W X a A) : SE K mg W X (.BoolOp op [a] pos) A := pe_one ha
theorem se_and {r : List Expr} (ha : SE K mg W X a A) (hb : SE K mg W X (.BoolOp .And (b :: r) pos) B) (hK : X.K = K := by rfl) : SE K mg W X (.BoolOp .And (a :: b :: r) pos) (eAnd A B) := (pe_andT ha hb).imp fun σ H Q ⟨m, σm, h, R, S, q⟩ => by
  refine ⟨m, σm, h, R, S, rg.bind q fun x h1 x' m1 H1 e1 R1 d1 q1 => ?_⟩
  cases e : truM h1 x with
  | none => rw [e] at q1; exact q1.elim
  | some b =>
    rw [e] at q1
    refine ⟨b, by rw [hK]; exact tru_of R1 d1 e, ?_⟩
    cases b with
    | true => exact ⟨m1, σm, h1, R1, S.mono e1.gro, rg.ext dmV e1 R1 q1⟩
    | false => exact q1 x' m1 H1 e1 R1 d1
theorem se_or {r : List Expr} (ha : SE K mg W X a A) (hb : SE K mg W X (.BoolOp .Or (b :: r) pos) B) (hK : X.K = K := by rfl) : SE K mg W X (.BoolOp .Or (a :: b :: r) pos) (eOr A B) := (pe_orT ha hb).imp fun σ H Q ⟨m, σm, h, R, S, q⟩ => by
  refine ⟨m, σm, h, R, S, rg.bind q fun x h1 x' m1 H1 e1 R1 d1 q1 => ?_⟩
  cases e : truM h1 x with
  | none => rw [e] at q1; exact q1.elim
  | some b =>
    rw [e] at q1
    refine ⟨b, by rw [hK]; exact tru_of R1 d1 e, ?_⟩
    cases b with
    | true => exact q1 x' m1 H1 e1 R1 d1
    | false => exact ⟨m1, σm, h1, R1, S.mono e1.gro, rg.ext dmV e1 R1 q1⟩
theorem se_not (ha : SE K mg W X a A) (hK : X.K = K := by rfl) : SE K mg W X (.UnaryOp .Not a pos) (eNot A) := (pe_notT ha).imp fun σ H Q ⟨m, σm, h, R, S, q⟩ => by
  refine ⟨m, σm, h, R, S, rg.bind q fun x h1 x' m1 H1 e1 R1 d1 q1 => ?_⟩
  cases e : truM h1 x with
  | none => rw [e] at q1; exact q1.elim
  | some b =>
    rw [e] at q1
    exact ⟨b, by rw [hK]; exact tru_of R1 d1 e, q1 _ m1 H1 e1 R1 (.v (.bl _))⟩
theorem se_if (hc : STt K mg W X c T) (ha : SE K mg W X a A) (hb : SE K mg W X b B) : SE K mg W X (.IfExp c a b pos) (eIf T A B) := (pe_ifExp hc ha hb).imp fun σ H Q ⟨m, σm, h, R, S, q⟩ => by
  refine ⟨m, σm, h, R, S, rg.bind q fun x h1 x' m1 H1 e1 R1 d1 q1 => ?_⟩
  cases (show x = x' from d1)
  cases x with
  | true => exact ⟨m1, σm, h1, R1, S.mono e1.gro, rg.ext dmV e1 R1 q1⟩
  | false => exact ⟨m1, σm, h1, R1, S.mono e1.gro, rg.ext dmV e1 R1 q1⟩
/-! #### argument lists, displays, calls of built-ins -/
variable {AL : MA} {es : List Expr}
theorem sa_nil : SA K mg W X [] aNil := pa_nil.imp fun σ H Q ⟨m, σm, h, R, S, q⟩ => rg.here (D := DA K mg) q R .nil
theorem sa_cons (ha : SE K mg W X a A) (hr : SA K mg W X es AL) (hs : starEach (a :: es) X.env = (false, eval a X.env) :: starEach es X.env := by rfl) : SA K mg W X (a :: es) (aCons A AL) := (pa_cons (se_set ha) hr hs).imp fun σ H Q ⟨m, σm, h, R, S, q⟩ => by
  have q' : rg K mg (DA K mg) W σ m H ((eSet A σm h).bind fun v h2 => (AL σm h2).bind fun vs h3 => .ok (v :: vs) h3) Q := by
    unfold eSet
    unfold aCons at q
    cases e : A σm h with
    | ok v h1 => rw [e] at q; exact q
    | exc x h1 => rw [e] at q; exact q
    | stuck => rw [e] at q; exact q
  have ns : ∀ {x : MV} {h1 : MH}, eSet A σm h = .ok x h1 → ∀ xs, x ≠ .tmp xs := fun {x h1} e xs z => by
    unfold eSet at e
    cases e1 : A σm h with
    | ok v h2 =>
      rw [e1, Res.ok_bind] at e
      cases v <;> (cases e; cases z)
    | exc x h1 => rw [e1] at e; cases e
    | stuck => rw [e1] at e; cases e
  refine ⟨m, σm, h, R, S, ?_⟩
  cases e : eSet A σm h with
  | ok x h1 =>
    rw [e] at q'
    intro x' m1 H1 e1 R1 d1
    have d1' := d1.dv (ns e)
    refine ⟨m1, σm, h1, R1, S.mono e1.gro, rg.bind (rg.ext dmA e1 R1 q') fun vs h2 vs' m2 H2 e2 R2 d2 q2 => ?_⟩
    exact q2 _ m2 H2 e2 R2 (.cons (d1'.mono e2.gro) d2)
  | exc x h1 => rw [e] at q'; exact q'
  | stuck => rw [e] at q'; exact q'
theorem se_tup {x1} {n : Nat} (ha : SA K mg W X es AL) (l : LenA AL n) (hn : n ≤ 1000 := by decide) : SE K mg W X (.Tuple es x1 pos) (eTup AL) := (pe_tup ha).imp fun σ H Q ⟨m, σm, h, R, S, q⟩ => by
  refine ⟨m, σm, h, R, S, ?_⟩
  unfold eTup at q
  cases e : AL σm h with
  | ok xs h1 =>
    rw [e] at q
    intro vs m1 H1 e1 R1 d1
    have hl : vs.length ≤ sizeLine := by
      rw [← DvAll.length d1, l _ _ _ _ e, sizeLine_eq]
      omega
    refine ⟨hl, fun p np => q (.ref p) m1 _ (e1.trans (Ext.upd_new np)) (R1.lay np) (.v (.tup upd_same (R1.out np) (DvAll.mono (Ext.upd_new np).gro d1)))⟩
  | exc x h1 => rw [e] at q; exact q
  | stuck => rw [e] at q; exact q
theorem se_lst {n : Nat} (ha : SA K mg W X es AL) (l : LenA AL n) (hn : n ≤ 1000 := by decide) : SE K mg W X (.List es pos) (eLst AL) := (pe_lst ha).imp fun σ H Q ⟨m, σm, h, R, S, q⟩ => by
  refine ⟨m, σm, h, R, S, ?_⟩
  unfold eLst at q
  cases e : AL σm h with
  | ok xs h1 =>
    rw [e] at q
    intro vs m1 H1 e1 R1 d1
    have hl : vs.length ≤ sizeLine := by
      rw [← DvAll.length d1, l _ _ _ _ e, sizeLine_eq]
      omega
    refine ⟨hl, fun p np => q (.ref p) m1 _ (e1.trans (Ext.upd_new np)) (R1.lay np) (.tmp upd_same (R1.out np) (e1.none_of R1 np) (DvAll.mono (Ext.upd_new np).gro d1))⟩
  | exc x h1 => rw [e] at q; exact q
  | stuck => rw [e] at q; exact q
variable {x : Str} {id T' : String} {p : Pos} {es' : List Expr} {e : Expr}
theorem tg_cb {f : List MV → MH → Res MV} {Q : VK} (t : tg K mg (DV K mg) W (eCB f AL) σ H Q) : tCB (rCl K mg f) (tg K mg (DA K mg) W AL) σ H Q := by
  obtain ⟨m, σm, h, R, S, q⟩ := t
  refine ⟨m, σm, h, R, S, rg.bind q fun xs h1 vs m1 H1 e1 R1 d1 q1 => ?_⟩
  exact ⟨m1, h1, xs, σ, W, R1, d1, rg.ext dmV e1 R1 q1⟩
theorem se_callB {f : List MV → MH → Res MV} (hc : CallR X (.builtin id) (rCl K mg f)) (hm : mg x = none) (hv : bootBuiltins x = some (.builtin id)) (hg : Gl X x) (ha : SA K mg W X (e :: es) AL) (hM : X.mg = mg := by rfl) (hn : x ≠ "__name__" := by decide) (hdb : (x == ("__debug__" : Str)) = false := by decide)
    (he : starEach (e :: es) X.env = (false, eval e X.env) :: starEach es X.env := by rfl) (hpl : (backTo pos (starEach es X.env)).any (·.1) = false := by rfl) : SE K mg W X (.Call (.Name x p) (e :: es) [] pos) (eCB f AL) := (pe_callB hc hg (by rw [hM]; exact hm) hv ha hn hdb he hpl).imp fun _ _ _ => tg_cb
theorem se_callTy {f : List MV → MH → Res MV} (hc : CallR X (.type id) (rCl K mg f)) (hm : mg x = none) (hv : bootBuiltins x = some (.type id)) (hg : Gl X x) (ha : SA K mg W X (e :: es) AL) (hM : X.mg = mg := by rfl) (hn : x ≠ "__name__" := by decide) (hdb : (x == ("__debug__" : Str)) = false := by decide)
    (he : starEach (e :: es) X.env = (false, eval e X.env) :: starEach es X.env := by rfl) (hpl : (backTo pos (starEach es X.env)).any (·.1) = false := by rfl) : SE K mg W X (.Call (.Name x p) (e :: es) [] pos) (eCB f AL) := (pe_callTy hc hg (by rw [hM]; exact hm) hv ha hn hdb he hpl).imp fun _ _ _ => tg_cb
/-- one argument, which may be a new list -/
theorem tg_cb1 {f : MV → MH → Res MV} {Q : VK} (t : tg K mg (DV K mg) W (eCB1 f A) σ H Q) : tCB (rCl1 K mg f) (tCons (tg K mg (DV K mg) W A) tNil) σ H Q := by
  obtain ⟨m, σm, h, R, S, q⟩ := t
  refine ⟨m, σm, h, R, S, rg.bind q fun x h1 x' m1 H1 e1 R1 d1 q1 => ?_⟩
  exact ⟨m1, h1, x, x', H, σ, W, rfl, R1, d1, rg.ext dmV e1 R1 q1⟩
theorem se_callB1 {f : MV → MH → Res MV} (hc : CallR X (.builtin id) (rCl1 K mg f)) (hm : mg x = none) (hv : bootBuiltins x = some (.builtin id)) (hg : Gl X x) (ha : SE K mg W X e A) (hM : X.mg = mg := by rfl) (hn : x ≠ "__name__" := by decide) (hdb : (x == ("__debug__" : Str)) = false := by decide)
    (he : starEach [e] X.env = (false, eval e X.env) :: starEach [] X.env := by rfl) : SE K mg W X (.Call (.Name x p) [e] [] pos) (eCB1 f A) := (pe_callB hc hg (by rw [hM]; exact hm) hv (pa_cons ha pa_nil he) hn hdb he rfl).imp fun _ _ _ => tg_cb1
theorem se_callTy1 {f : MV → MH → Res MV} (hc : CallR X (.type id) (rCl1 K mg f)) (hm : mg x = none) (hv : bootBuiltins x = some (.type id)) (hg : Gl X x) (ha : SE K mg W X e A) (hM : X.mg = mg := by rfl) (hn : x ≠ "__name__" := by decide) (hdb : (x == ("__debug__" : Str)) = false := by decide)
    (he : starEach [e] X.env = (false, eval e X.env) :: starEach [] X.env := by rfl) : SE K mg W X (.Call (.Name x p) [e] [] pos) (eCB1 f A) := (pe_callTy hc hg (by rw [hM]; exact hm) hv (pa_cons ha pa_nil he) hn hdb he rfl).imp fun _ _ _ => tg_cb1
end
end Mi

set_option maxHeartbeats 400000
/-! ### operators and built-ins, by values -/
namespace Mi
open PySem PySem.Spec PyProof.Rows L2
/-! #### data -/
/-- a value as data: numbers, texts, lists, tuples; fuel for the depth -/
def snap : Nat → MH → MV → Option PyData
  | 0, _, _ => none
  | n + 1, h, v => match v with
    | .non => some .none
    | .bl b => some (.bool b)
    | .int i => some (.int i)
    | .str x => some (.str x)
    | .tup xs => (xs.mapM (snap n h)).map .tuple
    | .tmp xs => (xs.mapM (snap n h)).map .list
    | .con xs => (xs.mapM (snap n h)).map .list
    | .ref k => match h[k]? with
      | some (.lst xs) => (xs.mapM (snap n h)).map .list
      | _ => none
    | _ => none
section
variable {K : PySem.W.Frag} {mg : Str → Option Value} {m : List Addr} {H H0 H1 : Hp} {h : MH}
theorem mapM_cons {α β : Type} {f : α → Option β} {x : α} {xs : List α} {ys : List β} (e : (x :: xs).mapM f = some ys) : ∃ y zs, f x = some y ∧ xs.mapM f = some zs ∧ ys = y :: zs := by
  rw [List.mapM_cons] at e
  cases q : f x with
  | none => rw [q] at e; cases e
  | some y =>
    rw [q] at e
    cases q2 : xs.mapM f with
    | none => rw [q2] at e; cases e
    | some zs =>
      rw [q2] at e
      cases e
      exact ⟨y, zs, rfl, rfl, rfl⟩
/-- what is said of the data -/
structure DpM (K : PySem.W.Frag) (H : Hp) (n : Nat) (v : V) (d : PyData) : Prop where
  dp : Dp K H v d
  pl : d.plain = true
  dep : d.depth ≤ n
  nd : d.hasDict = false
theorem snap_all {n : Nat} (ih : ∀ {x : MV} {v : V} {d : PyData}, Dv K mg m H x v → snap n h x = some d → DpM K H n v d) : ∀ {xs : List MV} {vs : List V} {ds : List PyData}, DvAll K mg m H xs vs → xs.mapM (snap n h) = some ds → DpAll K H vs ds ∧ PyData.plainAll ds = true ∧ PyData.depthAll ds ≤ n ∧ PyData.hasDictAll ds = false
  | _, _, ds, .nil, e => by
    cases e
    exact ⟨.nil, rfl, Nat.zero_le _, rfl⟩
  | _, _, ds, .cons d r, e => by
    obtain ⟨y, zs, e1, e2, rfl⟩ := mapM_cons e
    obtain ⟨h1, h2, h3, h4⟩ := snap_all ih r e2
    obtain ⟨k1, k2, k3, k4⟩ := ih d e1
    refine ⟨.cons k1 h1, by simp [PyData.plainAll, k2, h2], ?_, by simp [PyData.hasDictAll, k4, h4]⟩
    simp only [PyData.depthAll]
    omega
theorem snap_dv (R : Rep K mg m H h) : ∀ {n : Nat} {x : MV} {v : V} {d : PyData}, Dv K mg m H x v → snap n h x = some d → DpM K H n v d
  | 0, _, _, _, _, e => by cases e
  | n + 1, x, v, d, dx, e => by
    have ih := @snap_dv R n
    have lstc : ∀ {xs : List MV} {vs : List V} {a : Addr}, DvAll K mg m H xs vs → SqL K H a vs → (xs.mapM (snap n h)).map PyData.list = some d → DpM K H (n + 1) (.ref a) d := fun {xs vs a} r s q => by
      cases q2 : xs.mapM (snap n h) with
      | none => rw [q2] at q; cases q
      | some ds =>
        rw [q2] at q
        cases q
        obtain ⟨h1, h2, h3, h4⟩ := snap_all ih r q2
        exact ⟨.lst s h1, by simpa [PyData.plain] using h2, by simp only [PyData.depth]; omega, by simpa [PyData.hasDict] using h4⟩
    cases x with
    | non => cases dx; cases e; exact ⟨.non, rfl, Nat.zero_le _, rfl⟩
    | bl b => cases dx; cases e; exact ⟨.bl b, rfl, Nat.zero_le _, rfl⟩
    | int i => cases dx; cases e; exact ⟨.int i, rfl, Nat.zero_le _, rfl⟩
    | str s => cases dx; cases e; exact ⟨.str s, rfl, Nat.zero_le _, rfl⟩
    | tup xs =>
      obtain ⟨a, vs, rfl, s, r⟩ := sqt_of dx
      have q : (xs.mapM (snap n h)).map PyData.tuple = some d := e
      cases q2 : xs.mapM (snap n h) with
      | none => rw [q2] at q; cases q
      | some ds =>
        rw [q2] at q
        cases q
        obtain ⟨h1, h2, h3, h4⟩ := snap_all ih r q2
        exact ⟨.tup s h1, by simpa [PyData.plain] using h2, by simp only [PyData.depth]; omega, by simpa [PyData.hasDict] using h4⟩
    | tmp xs => exact absurd rfl (dx.notmp xs)
    | con xs =>
      cases dx with
      | con h1 h2 h3 => exact lstc h3 (.inl (.inr ⟨_, h1⟩)) e
      | conK h1 h3 => exact lstc h3 (.inr h1) e
    | ref k =>
      cases dx with
      | @ref _ a hk =>
        have q : (match h[k]? with | some (.lst xs) => (xs.mapM (snap n h)).map PyData.list | _ => none) = some d := e
        cases q1 : h[k]? with
        | none => rw [q1] at q; cases q
        | some o =>
          rw [q1] at q
          have ob := R.at_ q1 hk
          cases o with
          | lst xs => obtain ⟨vs, h1, h2⟩ := ob; exact lstc h2 (SqL.of h1) q
          | ins c fs => cases q
          | dic kvs => cases q
    | ty n => cases e
    | cls c => cases e
    | fn c => cases e
    | exn c ns vs => cases e
theorem snap_dt (R : Rep K mg m H h) {n : Nat} {x : MV} {v : V} {d : PyData} (dx : Dt K mg H0 m H x v) (e : snap n h x = some d) : DpM K H n v d := by
  cases dx with
  | v dx => exact snap_dv R dx e
  | @tmp a vs xs ha na n0 hv =>
    cases n with
    | zero => cases e
    | succ n =>
      have q : (xs.mapM (snap n h)).map PyData.list = some d := e
      cases q2 : xs.mapM (snap n h) with
      | none => rw [q2] at q; cases q
      | some ds =>
        rw [q2] at q
        cases q
        obtain ⟨h1, h2, h3, h4⟩ := snap_all (fun dx e => snap_dv R dx e) hv q2
        exact ⟨.lst (SqL.of ha) h1, by simpa [PyData.plain] using h2, by simp only [PyData.depth]; omega, by simpa [PyData.hasDict] using h4⟩
end
/-! #### operators -/
def addM (x y : MV) (h : MH) : Res MV := match x, y with
  | .int i, .int j => .ok (.int (i + j)) h
  | .str a, .str b => if a.length + b.length ≤ sizeLine then .ok (.str (a ++ b)) h else .stuck
  | .tup xs, .tup ys => if xs.length + ys.length ≤ sizeLine then .ok (.tup (xs ++ ys)) h else .stuck
  | x, y => match asL0 h x, asL0 h y with
    | some xs, some ys => if xs.length + ys.length ≤ sizeLine then .ok (.tmp (xs ++ ys)) h else .stuck
    | _, _ => .stuck
def subM (x y : MV) (h : MH) : Res MV := match x, y with
  | .int i, .int j => .ok (.int (i - j)) h
  | _, _ => .stuck
noncomputable def mulM (x y : MV) (h : MH) : Res MV := match x, y with
  | .int i, .int j => @ite _ ((-(2 ^ 64) < i ∧ i < 2 ^ 64) ∨ (-(2 ^ 64) < j ∧ j < 2 ^ 64)) (Classical.propDecidable _) (.ok (.int (i * j)) h) .stuck
  | .str a, .int j => if a.length * j.toNat ≤ 100000 ∧ j ≤ 100000 ∧ -100000 ≤ j then .ok (.str (Txt.mul a j)) h else .stuck
  | .tup xs, .int j => if xs ≠ [] ∧ 2 ≤ j ∧ j ≤ 1000 ∧ xs.length ≤ 1000 then .ok (.tup (List.replicate j.toNat xs).flatten) h else .stuck
  | x, .int j => match asL0 h x with
    | some xs => if -(2 ^ 63) ≤ j ∧ j < 2 ^ 63 ∧ xs.length * j.toNat ≤ sizeLine then .ok (.tmp (List.replicate j.toNat xs).flatten) h else .stuck
    | none => .stuck
  | _, _ => .stuck
def modM (x y : MV) (h : MH) : Res MV := match x, y with
  | .int i, .int j => if j ≠ 0 then .ok (.int (i.fmod j)) h else .stuck
  | _, _ => .stuck
def fdivM (x y : MV) (h : MH) : Res MV := match x, y with
  | .int i, .int j => if j ≠ 0 ∧ j.natAbs < 1073741824 then .ok (.int (i.fdiv j)) h else .stuck
  | _, _ => .stuck
def powM (x y : MV) (h : MH) : Res MV := match x, y with
  | .int i, .int j => if 0 ≤ j ∧ j ≤ 1000000 ∧ i.natAbs < 2 ^ 64 then .ok (.int (i ^ j.toNat)) h else .stuck
  | _, _ => .stuck
def negM (x : MV) (h : MH) : Res MV := match x with
  | .int i => .ok (.int (-i)) h
  | _ => .stuck
/-- two lists of unlike lengths -/
def farL (h : MH) (x y : MV) : Bool := match asL h x, asL h y with
  | some xs, some ys => xs.length != ys.length
  | _, _ => false
def eqM (x y : MV) (h : MH) : Res MV := if farL h x y = true then .ok (.bl false) h else match snap 30 h x, snap 30 h y with
  | some d, some e => .ok (.bl (PyData.eqv d e)) h
  | _, _ => .stuck
def neM (x y : MV) (h : MH) : Res MV := if farL h x y = true then .ok (.bl true) h else match snap 30 h x, snap 30 h y with
  | some d, some e => .ok (.bl (!PyData.eqv d e)) h
  | _, _ => .stuck
def ltM (x y : MV) (h : MH) : Res MV := match x, y with
  | .int i, .int j => .ok (.bl (decide (i < j))) h
  | .str a, .str b => .ok (.bl (decide (a.cps.toList < b.cps.toList))) h
  | _, _ => .stuck
def leM (x y : MV) (h : MH) : Res MV := match x, y with
  | .int i, .int j => .ok (.bl (decide (i ≤ j))) h
  | .str a, .str b => .ok (.bl (!decide (b.cps.toList < a.cps.toList))) h
  | _, _ => .stuck
def gtM (x y : MV) (h : MH) : Res MV := match x, y with
  | .int i, .int j => .ok (.bl (decide (j < i))) h
  | .str a, .str b => .ok (.bl (decide (b.cps.toList < a.cps.toList))) h
  | _, _ => .stuck
def geM (x y : MV) (h : MH) : Res MV := match x, y with
  | .int i, .int j => .ok (.bl (decide (j ≤ i))) h
  | .str a, .str b => .ok (.bl (!decide (a.cps.toList < b.cps.toList))) h
  | _, _ => .stuck
/-- a text within a text -/
def inStr (a b : Str) : Bool := !(Builtin.Str.occurrences b a 0 b.length 1).isEmpty
def inM (x y : MV) (h : MH) : Res MV := match x, y with
  | .str a, .str b => .ok (.bl (inStr a b)) h
  | x, .tup ys => match snap 30 h x, snap 30 h (.tup ys) with
    | some d, some (.tuple es) => .ok (.bl (es.any fun z => PyData.eqv z d)) h
    | _, _ => .stuck
  | x, y => match snap 30 h x, snap 30 h y with
    | some d, some (.list es) => .ok (.bl (es.any fun z => PyData.eqv z d)) h
    | _, _ => .stuck
def notInM (x y : MV) (h : MH) : Res MV := (inM x y h).bind fun v h => match v with
  | .bl b => .ok (.bl (!b)) h
  | _ => .stuck
def isNonM : MV → Bool
  | .non => true
  | _ => false
def isM (x y : MV) (h : MH) : Res MV := match y with
  | .non => .ok (.bl (isNonM x)) h
  | _ => .stuck
def isNotM (x y : MV) (h : MH) : Res MV := match y with
  | .non => .ok (.bl (!isNonM x)) h
  | _ => .stuck
def ixM (x y : MV) (h : MH) : Res MV := match x, y with
  | .tup xs, .int i => match atI xs i with
    | some v => .ok v h
    | none => .stuck
  | .str z, .int i => if z.length ≤ sizeLine then (match atI z.cps.toList i with
    | some c => .ok (.str ⟨#[c]⟩) h
    | none => .stuck) else .stuck
  | x, .int i => match asL h x with
    | some xs => match atI xs i with
      | some v => .ok v h
      | none => .stuck
    | none => .stuck
  | _, _ => .stuck
/-- a slice's items -/
def cutM (xs : List MV) (lo hi : Option Int) : List MV := (xs.drop (HT.sIx xs.length 0 lo)).take (HT.sIx xs.length xs.length hi - HT.sIx xs.length 0 lo)
def slM (x : MV) (lo hi : Option Int) (h : MH) : Res MV := match x with
  | .str z => if z.length ≤ sizeLine then .ok (.str (cutS z lo hi)) h else .stuck
  | .tup xs => .ok (.tup (cutM xs lo hi)) h
  | x => match asL h x with
    | some xs => .ok (.tmp (cutM xs lo hi)) h
    | none => .stuck
def lenM (x : MV) (h : MH) : Res MV := match x with
  | .str z => if z.length ≤ sizeLine then .ok (.int z.length) h else .stuck
  | .tup xs => .ok (.int xs.length) h
  | x => match asL h x with
    | some xs => .ok (.int xs.length) h
    | none => .stuck
def max2M (xs : List MV) (h : MH) : Res MV := match xs with
  | [.int i, .int j] => .ok (.int (if j > i then j else i)) h
  | _ => .stuck
def min2M (xs : List MV) (h : MH) : Res MV := match xs with
  | [.int i, .int j] => .ok (.int (if j < i then j else i)) h
  | _ => .stuck
def intM (xs : List MV) (h : MH) : Res MV := match xs with
  | [.int i] => .ok (.int i) h
  | [.bl k] => .ok (.int (if k then 1 else 0)) h
  | [.str a] => match PySem.intText? a with
    | some n => if a.length ≤ 640 then .ok (.int n) h else .stuck
    | none => .stuck
  | _ => .stuck
def strM (xs : List MV) (h : MH) : Res MV := match xs with
  | [.int i] => if i.natAbs.log2 < 1920 then .ok (.str (toString i)) h else .stuck
  | _ => .stuck
def ordM (xs : List MV) (h : MH) : Res MV := match xs with
  | [.str x] => if x.length = 1 then .ok (.int (x.cps.getD 0 0 : Nat)) h else .stuck
  | _ => .stuck
def listM (x : MV) (h : MH) : Res MV := match x with
  | .tup xs => .ok (.tmp xs) h
  | x => match asL h x with
    | some xs => .ok (.tmp xs) h
    | none => .stuck
def tupleM (x : MV) (h : MH) : Res MV := match x with
  | .tup xs => .ok (.tup xs) h
  | x => match asL h x with
    | some xs => .ok (.tup xs) h
    | none => .stuck
def asB : MV → Option Bool
  | .bl b => some b
  | _ => none
def asI : MV → Option Int
  | .int i => some i
  | _ => none
def asS : MV → Option Str
  | .str x => some x
  | _ => none
def allM (x : MV) (h : MH) : Res MV := match (asL h x).bind fun xs => xs.mapM asB with
  | some bs => .ok (.bl (bs.all id)) h
  | none => .stuck
def anyM (x : MV) (h : MH) : Res MV := match (asL h x).bind fun xs => xs.mapM asB with
  | some bs => .ok (.bl (bs.any id)) h
  | none => .stuck
def sumM (x : MV) (h : MH) : Res MV := match (asL h x).bind fun xs => xs.mapM asI with
  | some ns => .ok (.int ns.sum) h
  | none => .stuck
/-- a list or a tuple by its items -/
def asQ (h : MH) (v : MV) : Option (List MV) := match v with
  | .tup xs => some xs
  | v => asL h v
def joinM (x y : MV) (h : MH) : Res MV := match x, (asQ h y).bind fun xs => xs.mapM asS with
  | .str a, some ys => if (ys.map (·.length)).sum + ys.length * a.length ≤ 16777216 then .ok (.str (Txt.join a ys)) h else .stuck
  | _, _ => .stuck
def upperM (x : MV) (h : MH) : Res MV := match x with
  | .str a => if a.length ≤ 5592405 then .ok (.str (Txt.upper a)) h else .stuck
  | _ => .stuck
/-- a key as data -/
def keyD : MV → Option PyData
  | .int i => some (.int i)
  | .str x => some (.str x)
  | _ => none
def encK : Key → PyData
  | .inl i => .int i
  | .inr x => .str x
/-- a value as data, dicts too -/
def snapR : Nat → MH → MV → Option PyData
  | 0, _, _ => none
  | n + 1, h, v => match v with
    | .non => some .none
    | .bl b => some (.bool b)
    | .int i => some (.int i)
    | .str x => some (.str x)
    | .tup xs => (xs.mapM (snapR n h)).map .tuple
    | .tmp xs => (xs.mapM (snapR n h)).map .list
    | .con xs => (xs.mapM (snapR n h)).map .list
    | .ref k => match h[k]? with
      | some (.lst xs) => (xs.mapM (snapR n h)).map .list
      | some (.dic kvs) => (kvs.mapM fun p => (keyD p.1).bind fun a => (snapR n h p.2).map fun b => (a, b)).map .dict
      | _ => none
    | _ => none
mutual
/-- no list lies within -/
def noLst : PyData → Bool
  | .list _ => false
  | .tuple xs => noLstAll xs
  | .dict kvs => noLstKv kvs
  | .none | .bool _ | .int _ | .str _ => true
def noLstAll : List PyData → Bool
  | [] => true
  | x :: xs => noLst x && noLstAll xs
def noLstKv : List (PyData × PyData) → Bool
  | [] => true
  | (k, v) :: r => noLst k && noLst v && noLstKv r
end
/-- lists and dicts are not mixed -/
def okR (d : PyData) : Bool := !d.hasDict || noLst d
/-- repr: of data -/
def reprM (x : MV) (h : MH) : Res MV := match snapR 30 h x with
  | some d => if okR d = true ∧ d.showable = true ∧ d.shown.length ≤ sizeLine then .ok (.str d.shown) h else .stuck
  | none => .stuck
section
variable {K : PySem.W.Frag} {mg : Str → Option Value} {X : Cx}
theorem om_add (hK : X.K = K := by rfl) : OpR X (binaryOp .Add) (rOp K mg addM) := by
  subst hK
  intro pins s σ H x' y' v u Q I rx ry ⟨m, h, x, y, H0, H1, σ', W, R, dx, dy, q⟩
  unfold addM at q
  split at q
  · cases dx.dv (fun _ => MV.noConfusion)
    cases dy.dv (fun _ => MV.noConfusion)
    exact op_add pins s σ H _ _ v u Q I rx ry ⟨_, _, rfl, rfl, rg.here q R (.v (.int _))⟩
  · cases dx.dv (fun _ => MV.noConfusion)
    cases dy.dv (fun _ => MV.noConfusion)
    split at q
    · rename_i hz
      exact op_add_str pins s σ H _ _ v u Q I rx ry ⟨_, _, rfl, rfl, hz, rg.here q R (.v (.str _))⟩
    · exact q.elim
  · obtain ⟨a, vs, rfl, s1, r1⟩ := dx.tup
    obtain ⟨b, ws, rfl, s2, r2⟩ := dy.tup
    split at q
    · rename_i hz
      rw [r1.length, r2.length] at hz
      refine op_catA pins s σ H _ _ v u Q I rx ry ⟨_, _, vs, ws, rfl, rfl, s1, s2, hz, fun e => ?_, fun e1 e2 => ?_, fun e1 e2 p np => ?_⟩
      · subst e
        cases r1
        exact rg.here q R (.v (dy.dv (fun _ => MV.noConfusion)))
      · subst e2
        cases r2
        rw [List.append_nil] at q
        exact rg.here q R (.v (dx.dv (fun _ => MV.noConfusion)))
      · exact q (.ref p) m _ (Ext.upd_new np) (R.lay np) (.v (.tup upd_same (R.out np) ((r1.append r2).mono (Ext.upd_new np).gro)))
    · exact q.elim
  · split at q
    · rename_i xs ys e1 e2
      obtain ⟨a, vs, rfl, s1, r1⟩ := dx.asL0 R e1
      obtain ⟨b, ws, rfl, s2, r2⟩ := dy.asL0 R e2
      split at q
      · rename_i hz
        rw [r1.length, r2.length] at hz
        exact op_cat pins s σ H _ _ v u Q I rx ry ⟨_, _, vs, ws, rfl, rfl, s1, s2, hz, fun p np => q (.ref p) m _ (Ext.upd_new np) (R.lay np) (.tmp upd_same (R.out np) np ((r1.append r2).mono (Ext.upd_new np).gro))⟩
      · exact q.elim
    · exact q.elim
/-- two whole numbers -/
theorem om_int {f : Value → Value → Sem Value} {op : MV → MV → MH → Res MV} {C : Int → Int → Prop} {g : Int → Int → MV} {g' : Int → Int → V} (hr : OpR X f (rI C g')) (hd : ∀ i j m H, Dv K mg m H (g i j) (g' i j))
    (ho : ∀ x y h, (∃ i j, x = .int i ∧ y = .int j ∧ C i j ∧ op x y h = .ok (g i j) h) ∨ op x y h = .stuck) : OpR X f (rOp K mg op) := by
  intro pins s σ H x' y' v u Q I rx ry ⟨m, h, x, y, H0, H1, σ', W, R, dx, dy, q⟩
  rcases ho x y h with ⟨i, j, rfl, rfl, c, e⟩ | e
  · rw [e] at q
    cases dx.dv (fun _ => MV.noConfusion)
    cases dy.dv (fun _ => MV.noConfusion)
    exact hr pins s σ H _ _ v u Q I rx ry ⟨i, j, rfl, rfl, c, rg.here q R (.v (hd i j m H))⟩
  · rw [e] at q
    exact q.elim
theorem r0 {f : Value → Value → Sem Value} {g : Int → Int → V} (h : OpR X f (rI0 g)) : OpR X f (rI (fun _ _ => True) g) := fun pins s σ H x y v u Q I rx ry ⟨i, j, e1, e2, _, q⟩ => h pins s σ H x y v u Q I rx ry ⟨i, j, e1, e2, q⟩
theorem om_sub : OpR X (binaryOp .Sub) (rOp K mg subM) := om_int (g := fun i j => .int (i - j)) (r0 op_sub) (fun _ _ _ _ => .int _) fun x y h => by
  unfold subM
  split
  · exact .inl ⟨_, _, rfl, rfl, trivial, rfl⟩
  · exact .inr rfl
theorem om_mod : OpR X (binaryOp .Mod) (rOp K mg modM) := om_int (g := fun i j => .int (i.fmod j)) op_modN (fun _ _ _ _ => .int _) fun x y h => by
  unfold modM
  split
  · split
    · rename_i c
      exact .inl ⟨_, _, rfl, rfl, c, rfl⟩
    · exact .inr rfl
  · exact .inr rfl
theorem om_fdiv : OpR X (binaryOp .FloorDiv) (rOp K mg fdivM) := om_int (g := fun i j => .int (i.fdiv j)) op_fdivN (fun _ _ _ _ => .int _) fun x y h => by
  unfold fdivM
  split
  · split
    · rename_i c
      exact .inl ⟨_, _, rfl, rfl, c, rfl⟩
    · exact .inr rfl
  · exact .inr rfl
theorem om_pow : OpR X (binaryOp .Pow) (rOp K mg powM) := om_int (g := fun i j => .int (i ^ j.toNat)) op_pow (fun _ _ _ _ => .int _) fun x y h => by
  unfold powM
  split
  · split
    · rename_i c
      exact .inl ⟨_, _, rfl, rfl, c, rfl⟩
    · exact .inr rfl
  · exact .inr rfl
theorem om_neg : UnR X (unaryOp .USub) (rUn K mg negM) := by
  intro pins s σ H x' v Q I rx ⟨m, h, x, H0, σ', W, R, dx, q⟩
  unfold negM at q
  split at q
  · cases dx.dv (fun _ => MV.noConfusion)
    exact un_neg pins s σ H _ v Q I rx ⟨_, rfl, rg.here q R (.v (.int _))⟩
  · exact q.elim
theorem mulOk_len {z : Str} {n : Int} (h : z.length * n.toNat ≤ 100000) (hn : n ≤ 100000) (hl : -100000 ≤ n) : MulOk z n := by
  have e63 : (2 : Int) ^ 63 = 9223372036854775808 := by decide
  refine ⟨?_, fun h1 h2 => ?_, fun h1 h2 => ?_⟩
  · rw [e63, Bool.or_eq_false_iff]
    exact ⟨decide_eq_false (by omega), decide_eq_false (by omega)⟩
  · rw [e63]
    have h3 : 0 < n.toNat := by omega
    have h4 : z.length ≤ 100000 := Nat.le_trans (Nat.le_mul_of_pos_right _ h3) h
    have h5 : (100000 : Int) ≤ (9223372036854775808 - 1) / n := Int.le_ediv_of_mul_le (by omega) (by omega)
    omega
  · exact decide_eq_false (show ¬ (_ > sizeLine) by rw [sizeLine_eq]; omega)
theorem op_mul_str : OpR X (binaryOp .Mult) (fun x y H Q => ∃ z i, x = .str z ∧ y = .int i ∧ MulOk z i ∧ Q (.str (Txt.mul z i)) H) := by
  intro pins s σ H x y v u Q I rx ry h
  obtain ⟨z, i, rfl, rfl, hm, q⟩ := h
  obtain ⟨t, rfl⟩ := rx
  obtain ⟨t', rfl⟩ := ry
  exact SB.mul hm fun t' k => ⟨.str _, H, I.tok _, ⟨_, rfl⟩, q⟩
theorem DvAll.rep {m : List Addr} {H : Hp} {xs : List MV} {vs : List V} (r : DvAll K mg m H xs vs) : ∀ k : Nat, DvAll K mg m H (List.replicate k xs).flatten (List.replicate k vs).flatten
  | 0 => .nil
  | k + 1 => by
    rw [List.replicate_succ, List.replicate_succ, List.flatten_cons, List.flatten_cons]
    exact r.append (DvAll.rep r k)
theorem om_mul (hK : X.K = K := by rfl) : OpR X (binaryOp .Mult) (rOp K mg mulM) := by
  subst hK
  intro pins s σ H x' y' v u Q I rx ry ⟨m, h, x, y, H0, H1, σ', W, R, dx, dy, q⟩
  unfold mulM at q
  split at q
  · cases dx.dv (fun _ => MV.noConfusion)
    cases dy.dv (fun _ => MV.noConfusion)
    split at q
    · rename_i c
      exact op_mul pins s σ H _ _ v u Q I rx ry ⟨_, _, rfl, rfl, c, rg.here q R (.v (.int _))⟩
    · exact q.elim
  · cases dx.dv (fun _ => MV.noConfusion)
    cases dy.dv (fun _ => MV.noConfusion)
    split at q
    · rename_i c
      exact op_mul_str pins s σ H _ _ v u Q I rx ry ⟨_, _, rfl, rfl, mulOk_len c.1 c.2.1 c.2.2, rg.here q R (.v (.str _))⟩
    · exact q.elim
  · obtain ⟨a, vs, rfl, s1, r1⟩ := dx.tup
    cases dy.dv (fun _ => MV.noConfusion)
    split at q
    · rename_i c
      refine op_repT pins s σ H _ _ v u Q I rx ry ⟨_, _, vs, rfl, rfl, s1, fun e => ?_, c.2.1, c.2.2.1, by rw [← r1.length]; exact c.2.2.2, fun p np => ?_⟩
      · subst e
        cases r1
        exact c.1 rfl
      · exact q (.ref p) m _ (Ext.upd_new np) (R.lay np) (.v (.tup upd_same (R.out np) ((r1.rep _).mono (Ext.upd_new np).gro)))
    · exact q.elim
  · split at q
    · rename_i xs e1
      obtain ⟨a, vs, rfl, s1, r1⟩ := dx.asL0 R e1
      cases dy.dv (fun _ => MV.noConfusion)
      split at q
      · rename_i c
        exact op_rep pins s σ H _ _ v u Q I rx ry ⟨_, _, vs, rfl, rfl, s1, c.1, c.2.1, by rw [← r1.length]; exact c.2.2, fun p np => q (.ref p) m _ (Ext.upd_new np) (R.lay np) (.tmp upd_same (R.out np) np ((r1.rep _).mono (Ext.upd_new np).gro))⟩
      · exact q.elim
    · exact q.elim
  · exact q.elim
theorem far_lists {pins : List (Addr × Obj)} {σ : L2.St} {s : Shared} {x y : MV} {x' y' : V} {v u : Value} (I : Inv X pins σ H s) (hK : X.K = K) (R : Rep K mg m H h) (dx : Dt K mg H0 m H x x') (dy : Dt K mg H1 m H y y') (rx : RelV x' v) (ry : RelV y' u) (f : farL h x y = true) :
    ∃ a b vs ws, v = .ref a ∧ u = .ref b ∧ s.heap.IsList a vs ∧ s.heap.IsList b ws ∧ (vs.size != ws.size) = true := by
  subst hK
  unfold farL at f
  split at f
  · rename_i xs ys e1 e2
    obtain ⟨a, as, rfl, s1, d1⟩ := Dt.asL R dx e1
    obtain ⟨b, bs, rfl, s2, d2⟩ := Dt.asL R dy e2
    obtain ⟨i1, v1, p1, _⟩ := I.list s1
    obtain ⟨i2, v2, p2, _⟩ := I.list s2
    refine ⟨a, b, _, _, rx, ry, PlainL.isList p1, PlainL.isList p2, ?_⟩
    have l1 := d1.length
    have l2 := d2.length
    have l3 := v1.length
    have l4 := v2.length
    rw [bne_iff_ne] at f ⊢
    simp only [List.size_toArray]
    omega
  · cases f
theorem om_eq (hu : X.A.units + 64 < cLine) (hK : X.K = K := by rfl) : OpR X (compareOp .Eq) (rOp K mg eqM) := by
  subst hK
  intro pins s σ H x' y' v u Q I rx ry ⟨m, h, x, y, H0, H1, σ', W, R, dx, dy, q⟩
  unfold eqM at q
  split at q
  · rename_i f
    obtain ⟨a, b, vs, ws, rfl, rfl, l1, l2, l3⟩ := far_lists I rfl R dx dy rx ry f
    exact SeqAt.RcAt.lists_lengths l1 l2 l3 (by omega) X.prog X.w _ _ ⟨.bl _, H, I, rfl, rg.here q R (.v (.bl _))⟩
  split at q
  · rename_i d e e1 e2
    obtain ⟨p1, p2, p3, _⟩ := snap_dt R dx e1
    obtain ⟨k1, k2, k3, _⟩ := snap_dt R dy e2
    obtain ⟨as, ra⟩ := Dp.reads I d x' v p1 rx
    obtain ⟨bs, rb⟩ := Dp.reads I e y' u k1 ry
    exact SeqAt.eq_plain ra rb p2 k2 (by omega) ⟨.bl _, H, I, rfl, rg.here q R (.v (.bl _))⟩
  · exact q.elim
theorem om_ne (hu : X.A.units + 64 < cLine) (hK : X.K = K := by rfl) : OpR X (compareOp .NotEq) (rOp K mg neM) := by
  subst hK
  intro pins s σ H x' y' v u Q I rx ry ⟨m, h, x, y, H0, H1, σ', W, R, dx, dy, q⟩
  unfold neM at q
  split at q
  · rename_i f
    obtain ⟨a, b, vs, ws, rfl, rfl, l1, l2, l3⟩ := far_lists I rfl R dx dy rx ry f
    exact SeqAt.RcNeAt.lists_lengths l1 l2 l3 (by omega) X.prog X.w _ _ ⟨.bl _, H, I, rfl, rg.here q R (.v (.bl _))⟩
  split at q
  · rename_i d e e1 e2
    obtain ⟨p1, p2, p3, _⟩ := snap_dt R dx e1
    obtain ⟨k1, k2, k3, _⟩ := snap_dt R dy e2
    obtain ⟨as, ra⟩ := Dp.reads I d x' v p1 rx
    obtain ⟨bs, rb⟩ := Dp.reads I e y' u k1 ry
    exact SeqAt.ne_plain ra rb p2 k2 (by omega) ⟨.bl _, H, I, rfl, rg.here q R (.v (.bl _))⟩
  · exact q.elim
/-- orders -/
theorem om_ord {o : CmpOp} {op : MV → MV → MH → Res MV} {fi : Int → Int → Bool} {fs : Str → Str → Bool} (hi : OpR X (compareOp o) (rI0 fun i j => .bl (fi i j))) (hs : OpR X (compareOp o) (fun x y H Q => ∃ i j, x = .str i ∧ y = .str j ∧ Q (.bl (fs i j)) H))
    (ho : ∀ x y h, (∃ i j, x = .int i ∧ y = .int j ∧ op x y h = .ok (.bl (fi i j)) h) ∨ (∃ i j, x = .str i ∧ y = .str j ∧ op x y h = .ok (.bl (fs i j)) h) ∨ op x y h = .stuck) : OpR X (compareOp o) (rOp K mg op) := by
  intro pins s σ H x' y' v u Q I rx ry ⟨m, h, x, y, H0, H1, σ', W, R, dx, dy, q⟩
  rcases ho x y h with ⟨i, j, rfl, rfl, e⟩ | ⟨i, j, rfl, rfl, e⟩ | e
  · rw [e] at q
    cases dx.dv (fun _ => MV.noConfusion)
    cases dy.dv (fun _ => MV.noConfusion)
    exact hi pins s σ H _ _ v u Q I rx ry ⟨i, j, rfl, rfl, rg.here q R (.v (.bl _))⟩
  · rw [e] at q
    cases dx.dv (fun _ => MV.noConfusion)
    cases dy.dv (fun _ => MV.noConfusion)
    exact hs pins s σ H _ _ v u Q I rx ry ⟨i, j, rfl, rfl, rg.here q R (.v (.bl _))⟩
  · rw [e] at q
    exact q.elim
theorem om_lt : OpR X (compareOp .Lt) (rOp K mg ltM) := om_ord op_lt op_lt_str fun x y h => by
  unfold ltM
  split
  · exact .inl ⟨_, _, rfl, rfl, rfl⟩
  · exact .inr (.inl ⟨_, _, rfl, rfl, rfl⟩)
  · exact .inr (.inr rfl)
theorem om_le : OpR X (compareOp .LtE) (rOp K mg leM) := om_ord op_le op_le_str fun x y h => by
  unfold leM
  split
  · exact .inl ⟨_, _, rfl, rfl, rfl⟩
  · exact .inr (.inl ⟨_, _, rfl, rfl, rfl⟩)
  · exact .inr (.inr rfl)
theorem om_gt : OpR X (compareOp .Gt) (rOp K mg gtM) := om_ord op_gt op_gt_str fun x y h => by
  unfold gtM
  split
  · exact .inl ⟨_, _, rfl, rfl, rfl⟩
  · exact .inr (.inl ⟨_, _, rfl, rfl, rfl⟩)
  · exact .inr (.inr rfl)
theorem om_ge : OpR X (compareOp .GtE) (rOp K mg geM) := om_ord op_ge op_ge_str fun x y h => by
  unfold geM
  split
  · exact .inl ⟨_, _, rfl, rfl, rfl⟩
  · exact .inr (.inl ⟨_, _, rfl, rfl, rfl⟩)
  · exact .inr (.inr rfl)
theorem snap_tup {n : Nat} {h : MH} {ys : List MV} {es : List PyData} (e : snap n h (.tup ys) = some (.tuple es)) : ∃ k, n = k + 1 ∧ ys.mapM (snap k h) = some es := by
  cases n with
  | zero => cases e
  | succ k =>
    have q : (ys.mapM (snap k h)).map PyData.tuple = some (.tuple es) := e
    cases q2 : ys.mapM (snap k h) with
    | none => rw [q2] at q; cases q
    | some ds =>
      rw [q2] at q
      have : ds = es := by simpa using q
      subst this
      exact ⟨k, rfl, q2⟩
theorem om_in (hu : X.A.units + 64 < cLine) (hK : X.K = K := by rfl) : OpR X (compareOp .In) (rOp K mg inM) := by
  subst hK
  intro pins s σ H x' y' v u Q I rx ry ⟨m, h, x, y, H0, H1, σ', W, R, dx, dy, q⟩
  unfold inM at q
  split at q
  · cases dx.dv (fun _ => MV.noConfusion)
    cases dy.dv (fun _ => MV.noConfusion)
    exact op_in_str pins s σ H _ _ v u Q I rx ry ⟨_, _, rfl, rfl, rg.here q R (.v (.bl _))⟩
  · split at q
    · rename_i d es e1 e2
      obtain ⟨p1, p2, p3, _⟩ := snap_dt R dx e1
      obtain ⟨k1, k2, k3, _⟩ := snap_dt R dy e2
      obtain ⟨as, ra⟩ := Dp.reads I d x' v p1 rx
      obtain ⟨bs, rb⟩ := Dp.reads I _ y' u k1 ry
      exact SeqAt.in_tuple_data rb ra (by simpa [PyData.plain] using k2) p2 (by omega) ⟨.bl _, H, I, rfl, rg.here q R (.v (.bl _))⟩
    · exact q.elim
  · split at q
    · rename_i d es e1 e2
      obtain ⟨p1, p2, p3, _⟩ := snap_dt R dx e1
      obtain ⟨k1, k2, k3, _⟩ := snap_dt R dy e2
      obtain ⟨as, ra⟩ := Dp.reads I d x' v p1 rx
      obtain ⟨bs, rb⟩ := Dp.reads I _ y' u k1 ry
      exact SeqAt.in_list_data rb ra (by simpa [PyData.plain] using k2) p2 (by omega) ⟨.bl _, H, I, rfl, rg.here q R (.v (.bl _))⟩
    · exact q.elim
theorem notInM_eq {x y : MV} {h : MH} : notInM x y h = match x, y with
  | .str a, .str b => .ok (.bl (!inStr a b)) h
  | x, .tup ys => (match snap 30 h x, snap 30 h (.tup ys) with
    | some d, some (.tuple es) => .ok (.bl (!es.any fun z => PyData.eqv z d)) h
    | _, _ => .stuck)
  | x, y => (match snap 30 h x, snap 30 h y with
    | some d, some (.list es) => .ok (.bl (!es.any fun z => PyData.eqv z d)) h
    | _, _ => .stuck) := by
  unfold notInM inM
  split
  · rfl
  · split <;> rfl
  · split <;> rfl
theorem om_notIn (hu : X.A.units + 64 < cLine) (hK : X.K = K := by rfl) : OpR X (compareOp .NotIn) (rOp K mg notInM) := by
  subst hK
  intro pins s σ H x' y' v u Q I rx ry ⟨m, h, x, y, H0, H1, σ', W, R, dx, dy, q⟩
  rw [notInM_eq] at q
  split at q
  · cases dx.dv (fun _ => MV.noConfusion)
    cases dy.dv (fun _ => MV.noConfusion)
    exact op_notin_str pins s σ H _ _ v u Q I rx ry ⟨_, _, rfl, rfl, rg.here q R (.v (.bl _))⟩
  · split at q
    · rename_i d es e1 e2
      obtain ⟨p1, p2, p3, _⟩ := snap_dt R dx e1
      obtain ⟨k1, k2, k3, _⟩ := snap_dt R dy e2
      obtain ⟨as, ra⟩ := Dp.reads I d x' v p1 rx
      obtain ⟨bs, rb⟩ := Dp.reads I _ y' u k1 ry
      exact SeqAt.notIn_tuple_data rb ra (by simpa [PyData.plain] using k2) p2 (by omega) ⟨.bl _, H, I, rfl, rg.here q R (.v (.bl _))⟩
    · exact q.elim
  · split at q
    · rename_i d es e1 e2
      obtain ⟨p1, p2, p3, _⟩ := snap_dt R dx e1
      obtain ⟨k1, k2, k3, _⟩ := snap_dt R dy e2
      obtain ⟨as, ra⟩ := Dp.reads I d x' v p1 rx
      obtain ⟨bs, rb⟩ := Dp.reads I _ y' u k1 ry
      exact SeqAt.notIn_list_data rb ra (by simpa [PyData.plain] using k2) p2 (by omega) ⟨.bl _, H, I, rfl, rg.here q R (.v (.bl _))⟩
    · exact q.elim
theorem isNon_of {m : List Addr} {H H0 : Hp} {x : MV} {v : V} (d : Dt K mg H0 m H x v) : decide (v = .non) = isNonM x := by
  cases d with
  | v d => cases d <;> rfl
  | tmp _ _ _ _ => rfl
theorem om_is : OpR X (compareOp .Is) (rOp K mg isM) := by
  intro pins s σ H x' y' v u Q I rx ry ⟨m, h, x, y, H0, H1, σ', W, R, dx, dy, q⟩
  unfold isM at q
  split at q
  · cases dy.dv (fun _ => MV.noConfusion)
    exact op_isN pins s σ H _ _ v u Q I rx ry ⟨rfl, by rw [isNon_of dx]; exact rg.here q R (.v (.bl _))⟩
  · exact q.elim
theorem om_isNot : OpR X (compareOp .IsNot) (rOp K mg isNotM) := by
  intro pins s σ H x' y' v u Q I rx ry ⟨m, h, x, y, H0, H1, σ', W, R, dx, dy, q⟩
  unfold isNotM at q
  split at q
  · cases dy.dv (fun _ => MV.noConfusion)
    exact op_notN pins s σ H _ _ v u Q I rx ry ⟨rfl, by rw [isNon_of dx]; exact rg.here q R (.v (.bl _))⟩
  · exact q.elim
theorem DvAll.atI {m : List Addr} {H : Hp} {xs : List MV} {vs : List V} {i : Int} {x : MV} (r : DvAll K mg m H xs vs) (e : L2.atI xs i = some x) : ∃ v, L2.atI vs i = some v ∧ Dv K mg m H x v := by
  unfold L2.atI at e ⊢
  rw [← r.length]
  cases q : ixN xs.length i with
  | none => rw [q] at e; cases e
  | some j =>
    rw [q] at e
    exact r.get e
theorem om_ix (hK : X.K = K := by rfl) : IxR X (rOp K mg ixM) := by
  subst hK
  intro ve sl pins s σ H x' y' v u Q I rx ry hh hsub
  obtain ⟨m, h, x, y, H0, H1, σ', W, R, dx, dy, q⟩ := hh
  unfold ixM at q
  split at q
  · obtain ⟨a, vs, rfl, s1, r1⟩ := dx.tup
    cases dy.dv (fun _ => MV.noConfusion)
    split at q
    · rename_i z e
      obtain ⟨w, e1, e2⟩ := r1.atI e
      exact ix_tup ve sl pins s σ H _ _ v u Q I rx ry ⟨_, _, _, w, rfl, rfl, s1, e1, rg.here q R (.v e2)⟩ hsub
    · exact q.elim
  · cases dx.dv (fun _ => MV.noConfusion)
    cases dy.dv (fun _ => MV.noConfusion)
    split at q
    · rename_i hz
      split at q
      · rename_i c e
        exact ix_str ve sl pins s σ H _ _ v u Q I rx ry ⟨_, _, c, rfl, rfl, hz, e, rg.here q R (.v (.str _))⟩ hsub
      · exact q.elim
    · exact q.elim
  · split at q
    · rename_i xs e1
      obtain ⟨a, vs, rfl, s1, r1⟩ := dx.asL R e1
      cases dy.dv (fun _ => MV.noConfusion)
      split at q
      · rename_i z e
        obtain ⟨w, e1, e2⟩ := r1.atI e
        exact ix_list ve sl pins s σ H _ _ v u Q I rx ry ⟨_, _, _, w, rfl, rfl, s1, e1, rg.here q R (.v e2)⟩ hsub
      · exact q.elim
    · exact q.elim
  · exact q.elim
/-- a slice's reading -/
def rSl (K : PySem.W.Frag) (mg : Str → Option Value) (f : MV → Option Int → Option Int → MH → Res MV) : V → Option Int → Option Int → Hp → VK → Prop := fun x' lo hi H Q => ∃ m h x H0 σ W, Rep K mg m H h ∧ Dt K mg H0 m H x x' ∧ rg K mg (DV K mg) W σ m H (f x lo hi h) Q
theorem DvAll.cut {m : List Addr} {H : Hp} {xs : List MV} {vs : List V} (r : DvAll K mg m H xs vs) (lo hi : Option Int) : DvAll K mg m H (cutM xs lo hi) (cutV vs lo hi) := by
  unfold cutM cutV
  rw [r.length]
  exact (r.drop _).take _
theorem om_sl (hK : X.K = K := by rfl) : SlR X (rSl K mg slM) := by
  subst hK
  intro pins s σ H x' v vl vu lo hi sl Q I rx hs pl pu hh
  obtain ⟨m, h, x, H0, σ', W, R, dx, q⟩ := hh
  unfold slM at q
  split at q
  · cases dx.dv (fun _ => MV.noConfusion)
    split at q
    · rename_i hz
      exact sl_str pins s σ H _ v vl vu lo hi sl Q I rx hs pl pu ⟨_, rfl, hz, rg.here q R (.v (.str _))⟩
    · exact q.elim
  · obtain ⟨a, vs, rfl, s1, r1⟩ := dx.tup
    refine sl_tupA pins s σ H _ v vl vu lo hi sl Q I rx hs pl pu ⟨_, vs, rfl, s1, fun e => ?_, fun _ p np => ?_⟩
    · have hc : cutM ‹List MV› lo hi = ‹List MV› := by
        unfold cutM
        rw [r1.length, e.1, e.2, ← r1.length]
        simp
      rw [hc] at q
      exact rg.here q R (.v (dx.dv (fun _ => MV.noConfusion)))
    · exact q (.ref p) m _ (Ext.upd_new np) (R.lay np) (.v (.tup upd_same (R.out np) ((r1.cut lo hi).mono (Ext.upd_new np).gro)))
  · split at q
    · rename_i xs e1
      obtain ⟨a, vs, rfl, s1, r1⟩ := dx.asL R e1
      exact sl_list pins s σ H _ v vl vu lo hi sl Q I rx hs pl pu ⟨_, vs, rfl, s1, fun p np => q (.ref p) m _ (Ext.upd_new np) (R.lay np) (.tmp upd_same (R.out np) np ((r1.cut lo hi).mono (Ext.upd_new np).gro))⟩
    · exact q.elim
end
/-! #### slices as expressions -/
abbrev MO' := MS → MH → Res (Option Int)
def oNo : MO' := fun _ h => .ok none h
def oSo (A : ME) : MO' := fun σ h => (A σ h).bind fun v h => match v with
  | .int i => .ok (some i) h
  | _ => .stuck
def eSl (f : MV → Option Int → Option Int → MH → Res MV) (A : ME) (L U : MO') : ME := fun σ h => (A σ h).bind fun x h1 => (L σ h1).bind fun lo h2 => (U σ h2).bind fun hi h3 => f x lo hi h3
section
variable {K : PySem.W.Frag} {mg : Str → Option Value} {X : Cx} {W : WX} {A : ME} {e : Expr} {lo hi : Option Expr} {L U : MO'} {p2 pos : Pos}
abbrev DO : Hp → List Addr → Hp → Option Int → Option Int → Prop := fun _ _ _ a b => a = b
theorem dmO : DM K mg DO := ⟨fun _ _ d => d⟩
abbrev SO (K : PySem.W.Frag) (mg : Str → Option Value) (W : WX) (X : Cx) (e : Option Expr) (L : MO') : Prop := PO X e (tg K mg DO W L)
theorem so_none : SO K mg W X none oNo := ⟨fun pins s σ H Q I ⟨m, σm, h, R, S, q⟩ => po_none.run pins s σ H Q I (rg.here (b := none) q R rfl)⟩
theorem so_some (ha : SE K mg W X e A) : SO K mg W X (some e) (oSo A) := ⟨fun pins s σ H Q I ⟨m, σm, h, R, S, q⟩ => (po_some ha).run pins s σ H Q I (by
  refine ⟨m, σm, h, R, S, rg.bind q fun x h1 x' m1 H1 e1 R1 d1 q1 => ?_⟩
  cases x with
  | int i =>
    cases d1.dv (fun _ => MV.noConfusion)
    exact ⟨i, rfl, q1 _ m1 H1 e1 R1 rfl⟩
  | _ => exact q1.elim)⟩
theorem se_slice {f : MV → Option Int → Option Int → MH → Res MV} (hr : SlR X (rSl K mg f)) (ha : SE K mg W X e A) (hl : SO K mg W X lo L) (hu : SO K mg W X hi U) : SE K mg W X (.Subscript e (.Slice lo hi none p2) pos) (eSl f A L U) := (pe_slice hr ha hl hu).imp fun σ H Q ⟨m, σm, h, R, S, q⟩ => by
  refine ⟨m, σm, h, R, S, rg.bind q fun x h1 x' m1 H1 e1 R1 d1 q1 => ?_⟩
  refine ⟨m1, σm, h1, R1, S.mono e1.gro, rg.bind (rg.ext dmV e1 R1 q1) fun l h2 l' m2 H2 e2 R2 d2 q2 => ?_⟩
  cases (show l = l' from d2)
  refine ⟨m2, σm, h2, R2, (S.mono e1.gro).mono e2.gro, rg.bind (rg.ext dmV e2 R2 q2) fun u h3 u' m3 H3 e3 R3 d3 q3 => ?_⟩
  cases (show u = u' from d3)
  exact ⟨m3, h3, x, H, σ, W, R3, (d1.mono e2).mono e3, rg.ext dmV e3 R3 q3⟩
end
end Mi

set_option maxHeartbeats 400000
/-! ### built-in functions and methods -/
namespace Mi
open PySem PySem.Spec PyProof.Rows L2
/-- what a value is an instance of -/
inductive Tg where
  | b (n : String) | o (c : Str) | x (c : Str)
deriving DecidableEq
def tgOf (h : MH) : MV → Option Tg
  | .non => some (.b "NoneType")
  | .bl _ => some (.b "bool")
  | .int _ => some (.b "int")
  | .str _ => some (.b "str")
  | .tup _ => some (.b "tuple")
  | .tmp _ => some (.b "list")
  | .con _ => some (.b "list")
  | .ref n => match h[n]? with
    | some (.lst _) => some (.b "list")
    | some (.ins c _) => some (.o c)
    | some (.dic _) => some (.b "dict")
    | none => none
  | .exn c _ _ => some (.x c)
  | _ => none
def tgC : MV → Option Tg
  | .ty n => some (.b n)
  | .cls c => some (.o c)
  | _ => none
abbrev KT := List (Tg × Tg × Bool)
def kitT (kt : KT) (t c : Tg) : Option Bool := match t, c with
  | .b a, .b n => kitB a n
  | t, c => (kt.find? fun e => decide (e.1 = t ∧ e.2.1 = c)).map (·.2.2)
def isiM (kt : KT) (xs : List MV) (h : MH) : Res MV := match xs with
  | [x, c] => match tgOf h x, tgC c with
    | some t, some c => match kitT kt t c with
      | some b => .ok (.bl b) h
      | none => .stuck
    | _, _ => .stuck
  | _ => .stuck
section
variable {K : PySem.W.Frag} {mg : Str → Option Value} {X : Cx} {m : List Addr} {H H0 : Hp} {h : MH}
/-- what instances of an own class ask -/
structure InsF (K : PySem.W.Frag) (C : Addr) : Prop where
  cl : Cls K C
  ha : PySem.W.findIn K (.ref C) "__class__" = some (some (.builtin "object.__class__"))
  hn : PySem.W.specialIn K (.builtin "object.__class__") "__get__" = some (some (.builtin "getset_descriptor.__get__"))
  htk : PySem.W.takesIn K (.builtin "object.__class__") = some true
  hm : PySem.W.mroIn K C (.type "object") = some true
def TgV (mg : Str → Option Value) : Tg → Value → Prop
  | .b n, v => v = .type n
  | .o c, v => ∃ C, mg c = some (.ref C) ∧ v = .ref C
  | .x c, v => ∃ C, mg c = some (.ref C) ∧ v = .ref C
/-- the table is right; own classes in it are known -/
structure KTok (K : PySem.W.Frag) (mg : Str → Option Value) (kt : KT) : Prop where
  kit : ∀ t c r tv cv, (t, c, r) ∈ kt → TgV mg t tv → TgV mg c cv → PySem.W.kitOne K tv cv = some r
  ins : ∀ x c r C, (Tg.o x, c, r) ∈ kt → mg x = some (.ref C) → InsF K C
  exc : ∀ x c r C, (Tg.x x, c, r) ∈ kt → mg x = some (.ref C) → ExcC K C
theorem kitT_ok {kt : KT} (ok : KTok K mg kt) {t c : Tg} {b : Bool} {tv cv : Value} (e : kitT kt t c = some b) (ht : TgV mg t tv) (hc : TgV mg c cv) : PySem.W.kitOne K tv cv = some b := by
  unfold kitT at e
  split at e
  · cases (show tv = _ from ht)
    cases (show cv = _ from hc)
    exact kit_ty e
  · cases q : kt.find? (fun e => decide (e.1 = t ∧ e.2.1 = c)) with
    | none => rw [q] at e; cases e
    | some p =>
      rw [q] at e
      obtain ⟨t', c', r⟩ := p
      have h1 := List.mem_of_find?_eq_some q
      have h2 : decide (t' = t ∧ c' = c) = true := List.find?_some (p := fun e : Tg × Tg × Bool => decide (e.1 = t ∧ e.2.1 = c)) q
      have h2 := of_decide_eq_true h2
      have hr : r = b := by simpa using e
      rw [← hr]
      rw [h2.1, h2.2] at h1
      exact ok.kit t c r tv cv h1 ht hc
theorem kitT_mem {kt : KT} {t c : Tg} {b : Bool} (hb : ∀ n, t ≠ .b n) (e : kitT kt t c = some b) : (t, c, b) ∈ kt := by
  have e' : (kt.find? fun e => decide (e.1 = t ∧ e.2.1 = c)).map (·.2.2) = some b := by
    unfold kitT at e
    split at e
    · exact absurd rfl (hb _)
    · exact e
  cases q : kt.find? (fun e => decide (e.1 = t ∧ e.2.1 = c)) with
  | none => rw [q] at e'; cases e'
  | some p =>
    rw [q] at e'
    obtain ⟨t', c', r⟩ := p
    have h1 := List.mem_of_find?_eq_some q
    have h2 : decide (t' = t ∧ c' = c) = true := List.find?_some (p := fun e : Tg × Tg × Bool => decide (e.1 = t ∧ e.2.1 = c)) q
    have h2 := of_decide_eq_true h2
    have hr : r = b := by simpa using e'
    rw [h2.1, h2.2, hr] at h1
    exact h1
/-- a value's type -/
theorem tyx_of (R : Rep K mg m H h) {kt : KT} (ok : KTok K mg kt) {x : MV} {v : V} (d : Dv K mg m H x v) {t c : Tg} {b : Bool} (e : tgOf h x = some t) (k : kitT kt t c = some b) (nx : ∀ c ns vs, x ≠ .exn c ns vs) : ∃ tv, TgV mg t tv ∧ TyX K H v tv := by
  cases d with
  | non => cases e; exact ⟨_, rfl, .base .non⟩
  | bl b => cases e; exact ⟨_, rfl, .base (.bl b)⟩
  | int i => cases e; exact ⟨_, rfl, .base (.int i)⟩
  | str x => cases e; exact ⟨_, rfl, .base (.str x)⟩
  | tup h1 h2 h3 => cases e; exact ⟨_, rfl, .base (.tup h1)⟩
  | tupK h1 h2 =>
    cases e
    obtain ⟨o, its, n, k1, k2, _⟩ := h1
    exact ⟨_, rfl, .kTuple k1 k2⟩
  | @ref n a hn =>
    cases q : h[n]? with
    | none => simp [tgOf, q] at e
    | some o =>
      have ob := R.at_ q hn
      cases o with
      | lst xs =>
        have : t = .b "list" := by simpa [tgOf, q] using e.symm
        subst this
        obtain ⟨vs, h1, _⟩ := ob
        exact ⟨_, rfl, .base (.lst h1)⟩
      | ins x fs =>
        have : t = .o x := by simpa [tgOf, q] using e.symm
        subst this
        obtain ⟨C, dx, gs, h1, h2, _⟩ := ob
        have f := ok.ins x c b C (kitT_mem (fun _ => Tg.noConfusion) k) h2
        exact ⟨_, ⟨C, h2, rfl⟩, .base (.ins h1 f.cl f.ha f.hn f.htk f.hm)⟩
      | dic kvs =>
        have : t = .b "dict" := by simpa [tgOf, q] using e.symm
        subst this
        obtain ⟨ls, h1, _⟩ := ob
        exact ⟨_, rfl, .base (.dK h1)⟩
  | con h1 h2 h3 => cases e; exact ⟨_, rfl, .base (.frz h1)⟩
  | conK h1 h2 =>
    cases e
    obtain ⟨o, its, n, k1, k2, _⟩ := h1
    exact ⟨_, rfl, .kList k1 k2⟩
  | ty n => cases e
  | cls h => cases e
  | fn h => cases e
  | exn0 _ _ _ => exact absurd rfl (nx _ _ _)
  | exnD _ _ _ _ _ _ => exact absurd rfl (nx _ _ _)
theorem clsv_of {x : MV} {v : V} (d : Dv K mg m H x v) {t : Tg} (e : tgC x = some t) : ∃ cv, TgV mg t cv ∧ ClsV v cv := by
  cases d with
  | ty n => cases e; exact ⟨_, rfl, .ty n⟩
  | cls hm => cases e; exact ⟨_, ⟨_, hm, rfl⟩, .own _⟩
  | _ => cases e
/-- an exception that is a value -/
theorem kx_at {P : Program} {w : World} {h : Heap} {a : Addr} {cls : Value} {d : Option Addr} (hok : HOk P w H h) (e : H a = some (kx a cls d)) : ∃ o vs, h.get? a = some o ∧ Zc cls d o ∧ o.data = .fields vs := by
  have x : ObjOk P w H h a (.ext fun h => ∃ o vs, h.get? a = some o ∧ Zc cls d o ∧ o.data = .fields vs) := hok a _ e
  exact x.1
theorem kx_inst {pins : List (Addr × Obj)} {σ : L2.St} {s : Shared} (I : L2.Inv X pins σ H s) {a C : Addr} {d : Option Addr} (h1 : H a = some (kx a (.ref C) d)) (h2 : d = none ∨ ∃ dd fs, d = some dd ∧ H dd = some (.xd fs)) : ∃ o od, PySem.W.InstAt s.heap a o C od := by
  obtain ⟨⟨oc, od, dt, sl⟩, vs, ho, ⟨hz1, hz2⟩, hd⟩ := kx_at I.hok h1
  dsimp only at hz1 hz2 hd
  subst hz1 hz2 hd
  rcases h2 with rfl | ⟨dd, fs, rfl, h2⟩
  · exact ⟨_, none, ho, rfl, rfl, trivial⟩
  · have hx : ObjOk X.prog X.w H s.heap dd (.xd fs) := I.hok dd _ h2
    obtain ⟨mA, hns, _⟩ := hx
    obtain ⟨o2, ho2, _⟩ := lookIn_ns hns
    exact ⟨_, some o2, ho, rfl, rfl, ho2⟩
theorem exc_kit {C x : Addr} {ox : Obj} {od : Option Obj} (c : ExcC K C) : PySem.W.KitX K (.ref x) (.ref C) (fun h => PySem.W.InstAt h x ox C od) := by
  obtain ⟨cd, hc, _⟩ := PySem.W.any_some c.hd
  exact PySem.W.kitx_exc (by rw [hc]; rfl) c.hg c.hk c.hs c.ha c.hn c.ht c.hm
theorem exn_at {c : Str} {ns : List Str} {xs : List MV} {v : V} (d : Dv K mg m H (.exn c ns xs) v) : ∃ a C dd, v = .ref a ∧ mg c = some (.ref C) ∧ H a = some (kx a (.ref C) dd) ∧ (dd = none ∨ ∃ d fs, dd = some d ∧ H d = some (.xd fs)) := by
  cases d with
  | exn0 h1 h2 h3 => exact ⟨_, _, _, rfl, h1, h2, .inl rfl⟩
  | exnD h1 h2 h3 h4 h5 r => exact ⟨_, _, _, rfl, h1, h2, .inr ⟨_, _, rfl, h4⟩⟩
theorem exn_or (x : MV) : (∀ c ns vs, x ≠ .exn c ns vs) ∨ ∃ c ns vs, x = .exn c ns vs := by
  cases x <;> first | exact .inr ⟨_, _, _, rfl⟩ | exact .inl fun _ _ _ => MV.noConfusion
theorem cm_isi {kt : KT} (ok : KTok K mg kt) (hK : X.K = K := by rfl) : CallR X (.builtin "isinstance") (rCl K mg (isiM kt)) := by
  subst hK
  intro pins s σ H vs us Q I r ⟨m, h, xs, σ', W, R, dxs, q⟩
  unfold isiM at q
  split at q
  · rename_i x c
    cases dxs with
    | cons d1 d2 =>
      cases d2 with
      | cons d2 d3 =>
        cases d3
        split at q
        · rename_i t tc e1 e2
          split at q
          · rename_i b e3
            obtain ⟨cv, k1, k2⟩ := clsv_of d2 e2
            have q' : Q (.bl b) H := rg.here q R (.v (.bl b))
            rcases exn_or x with nx | nx
            · obtain ⟨tv, h1, h2⟩ := tyx_of R ok d1 e1 e3 nx
              exact call_isi pins s σ H _ us Q I r ⟨_, _, tv, cv, b, rfl, k2, h2, kitT_ok ok e3 h1 k1, q'⟩
            · obtain ⟨c', ns, ws, rfl⟩ := nx
              cases e1
              obtain ⟨a, C, dd, rfl, hm, ha, hd⟩ := exn_at d1
              have hk := kitT_ok ok e3 (tv := .ref C) ⟨C, hm, rfl⟩ k1
              have ec := ok.exc c' tc b C (kitT_mem (fun _ => Tg.noConfusion) e3) hm
              obtain ⟨u1, u2, rfl, r1, r2⟩ := vals2 r
              have e2 := k2.eq r2
              subst e2
              cases (show u1 = Value.ref a from r1)
              obtain ⟨o, od, J⟩ := kx_inst I ha hd
              exact PySem.W.kia_one (exc_kit ec) I.kIn J hk (fun z => nomatch z) fun tk => ⟨.bl b, H, I.tok tk, rfl, q'⟩
          · exact q.elim
        · exact q.elim
  · exact q.elim
theorem Dt.asQ (R : Rep K mg m H h) {x : MV} {v : V} (d : Dt K mg H0 m H x v) {xs : List MV} (e : Mi.asQ h x = some xs) : ∃ a vs, v = .ref a ∧ (SqL K H a vs ∨ SqT K H a vs) ∧ DvAll K mg m H xs vs := by
  unfold Mi.asQ at e
  split at e
  · cases e
    obtain ⟨a, vs, rfl, s1, r1⟩ := d.tup
    exact ⟨a, vs, rfl, .inr s1, r1⟩
  · obtain ⟨a, vs, rfl, s1, r1⟩ := d.asL R e
    exact ⟨a, vs, rfl, .inl s1, r1⟩
theorem cm_len (hK : X.K = K := by rfl) : CallR X (.builtin "len") (rCl1 K mg lenM) := by
  subst hK
  intro pins s σ H vs us Q I r ⟨m, h, x, v, H0, σ', W, e, R, dx, q⟩
  subst e
  unfold lenM at q
  split at q
  · cases dx.dv (fun _ => MV.noConfusion)
    split at q
    · rename_i hz
      exact call_len_str pins s σ H _ us Q I r ⟨_, rfl, hz, rg.here q R (.v (.int _))⟩
    · exact q.elim
  · obtain ⟨a, vs, rfl, s1, r1⟩ := dx.tup
    exact call_len_seq pins s σ H _ us Q I r ⟨_, vs, rfl, .inr s1, by rw [← r1.length]; exact rg.here q R (.v (.int _))⟩
  · split at q
    · rename_i xs e1
      obtain ⟨a, vs, rfl, s1, r1⟩ := dx.asL R e1
      exact call_len_seq pins s σ H _ us Q I r ⟨_, vs, rfl, .inl s1, by rw [← r1.length]; exact rg.here q R (.v (.int _))⟩
    · exact q.elim
theorem cm_list (hK : X.K = K := by rfl) : CallR X (.type "list") (rCl1 K mg listM) := by
  subst hK
  intro pins s σ H vs us Q I r ⟨m, h, x, v, H0, σ', W, e, R, dx, q⟩
  subst e
  unfold listM at q
  split at q
  · obtain ⟨a, vs, rfl, s1, r1⟩ := dx.tup
    exact call_list_of pins s σ H _ us Q I r ⟨_, vs, rfl, .inr s1, fun p np => q (.ref p) m _ (Ext.upd_new np) (R.lay np) (.tmp upd_same (R.out np) np (r1.mono (Ext.upd_new np).gro))⟩
  · split at q
    · rename_i xs e1
      obtain ⟨a, vs, rfl, s1, r1⟩ := dx.asL R e1
      exact call_list_of pins s σ H _ us Q I r ⟨_, vs, rfl, .inl s1, fun p np => q (.ref p) m _ (Ext.upd_new np) (R.lay np) (.tmp upd_same (R.out np) np (r1.mono (Ext.upd_new np).gro))⟩
    · exact q.elim
theorem cm_tuple (hK : X.K = K := by rfl) : CallR X (.type "tuple") (rCl1 K mg tupleM) := by
  subst hK
  intro pins s σ H vs us Q I r ⟨m, h, x, v, H0, σ', W, e, R, dx, q⟩
  subst e
  unfold tupleM at q
  split at q
  · obtain ⟨a, vs, rfl, s1, r1⟩ := dx.tup
    exact call_tuple_of pins s σ H _ us Q I r ⟨_, vs, rfl, .inr ⟨s1, rg.here q R (.v (dx.dv (fun _ => MV.noConfusion)))⟩⟩
  · split at q
    · rename_i xs e1
      obtain ⟨a, vs, rfl, s1, r1⟩ := dx.asL R e1
      exact call_tuple_of pins s σ H _ us Q I r ⟨_, vs, rfl, .inl ⟨s1, fun p np => q (.ref p) m _ (Ext.upd_new np) (R.lay np) (.v (.tup upd_same (R.out np) (r1.mono (Ext.upd_new np).gro)))⟩⟩
    · exact q.elim
theorem all_asB : ∀ {xs : List MV} {vs : List V} {bs : List Bool}, DvAll K mg m H xs vs → xs.mapM asB = some bs → vs = bs.map V.bl
  | _, _, bs, .nil, e => by cases e; rfl
  | _, _, bs, .cons d r, e => by
    obtain ⟨y, zs, e1, e2, rfl⟩ := mapM_cons e
    rw [all_asB r e2]
    cases d <;> first | (cases e1; rfl) | cases e1
theorem all_asI : ∀ {xs : List MV} {vs : List V} {bs : List Int}, DvAll K mg m H xs vs → xs.mapM asI = some bs → vs = bs.map V.int
  | _, _, bs, .nil, e => by cases e; rfl
  | _, _, bs, .cons d r, e => by
    obtain ⟨y, zs, e1, e2, rfl⟩ := mapM_cons e
    rw [all_asI r e2]
    cases d <;> first | (cases e1; rfl) | cases e1
theorem all_asS : ∀ {xs : List MV} {vs : List V} {bs : List Str}, DvAll K mg m H xs vs → xs.mapM asS = some bs → vs = bs.map V.str
  | _, _, bs, .nil, e => by cases e; rfl
  | _, _, bs, .cons d r, e => by
    obtain ⟨y, zs, e1, e2, rfl⟩ := mapM_cons e
    rw [all_asS r e2]
    cases d <;> first | (cases e1; rfl) | cases e1
theorem cm_all (hc : X.calm = true) (hK : X.K = K := by rfl) : CallR X (.builtin "all") (rCl1 K mg allM) := by
  subst hK
  intro pins s σ H vs us Q I r ⟨m, h, x, v, H0, σ', W, e, R, dx, q⟩
  subst e
  unfold allM at q
  cases e1 : asL h x with
  | none => rw [e1] at q; exact q.elim
  | some xs =>
    rw [e1, Option.bind_some] at q
    obtain ⟨a, vs, rfl, s1, r1⟩ := dx.asL R e1
    cases e2 : xs.mapM asB with
    | none => rw [e2] at q; exact q.elim
    | some bs =>
      rw [e2] at q
      rw [all_asB r1 e2] at s1
      exact cr_all hc pins s σ H _ us Q I r ⟨a, bs, rfl, s1, rg.here q R (.v (.bl _))⟩
theorem cm_any (hc : X.calm = true) (hK : X.K = K := by rfl) : CallR X (.builtin "any") (rCl1 K mg anyM) := by
  subst hK
  intro pins s σ H vs us Q I r ⟨m, h, x, v, H0, σ', W, e, R, dx, q⟩
  subst e
  unfold anyM at q
  cases e1 : asL h x with
  | none => rw [e1] at q; exact q.elim
  | some xs =>
    rw [e1, Option.bind_some] at q
    obtain ⟨a, vs, rfl, s1, r1⟩ := dx.asL R e1
    cases e2 : xs.mapM asB with
    | none => rw [e2] at q; exact q.elim
    | some bs =>
      rw [e2] at q
      rw [all_asB r1 e2] at s1
      exact cr_any hc pins s σ H _ us Q I r ⟨a, bs, rfl, s1, rg.here q R (.v (.bl _))⟩
theorem cm_sum (hc : X.calm = true) (hK : X.K = K := by rfl) : CallR X (.builtin "sum") (rCl1 K mg sumM) := by
  subst hK
  intro pins s σ H vs us Q I r ⟨m, h, x, v, H0, σ', W, e, R, dx, q⟩
  subst e
  unfold sumM at q
  cases e1 : asL h x with
  | none => rw [e1] at q; exact q.elim
  | some xs =>
    rw [e1, Option.bind_some] at q
    obtain ⟨a, vs, rfl, s1, r1⟩ := dx.asL R e1
    cases e2 : xs.mapM asI with
    | none => rw [e2] at q; exact q.elim
    | some bs =>
      rw [e2] at q
      rw [all_asI r1 e2] at s1
      exact cr_sum hc pins s σ H _ us Q I r ⟨a, bs, rfl, s1, rg.here q R (.v (.int _))⟩
theorem cm_max2 (hc : X.calm = true) : CallR X (.builtin "max") (rCl K mg max2M) := by
  intro pins s σ H vs us Q I r ⟨m, h, xs, σ', W, R, dxs, q⟩
  unfold max2M at q
  split at q
  · obtain ⟨d1, d2⟩ : ∃ v w, vs = [v, w] := by cases dxs with | cons _ d => cases d with | cons _ d => cases d; exact ⟨_, _, rfl⟩
    cases dxs with | cons a1 d => cases d with | cons a2 d => cases d; cases a1; cases a2; exact call_max2 hc pins s σ H _ us Q I r ⟨_, _, rfl, rg.here q R (.v (.int _))⟩
  · exact q.elim
theorem cm_min2 (hc : X.calm = true) : CallR X (.builtin "min") (rCl K mg min2M) := by
  intro pins s σ H vs us Q I r ⟨m, h, xs, σ', W, R, dxs, q⟩
  unfold min2M at q
  split at q
  · cases dxs with | cons a1 d => cases d with | cons a2 d => cases d; cases a1; cases a2; exact call_min2 hc pins s σ H _ us Q I r ⟨_, _, rfl, rg.here q R (.v (.int _))⟩
  · exact q.elim
theorem cm_int : CallR X (.type "int") (rCl K mg intM) := by
  intro pins s σ H vs us Q I r ⟨m, h, xs, σ', W, R, dxs, q⟩
  unfold intM at q
  split at q
  · cases dxs with | cons a1 d => cases d; cases a1; exact call_int1 pins s σ H _ us Q I r (.inl ⟨_, rfl, rg.here q R (.v (.int _))⟩)
  · cases dxs with | cons a1 d => cases d; cases a1; exact call_int1 pins s σ H _ us Q I r (.inr ⟨_, rfl, rg.here q R (.v (.int _))⟩)
  · cases dxs with
    | cons a1 d =>
      cases d
      cases a1
      split at q
      · rename_i n e
        split at q
        · rename_i hz
          exact call_int_str pins s σ H _ us Q I r ⟨_, n, rfl, e, hz, rg.here q R (.v (.int _))⟩
        · exact q.elim
      · exact q.elim
  · exact q.elim
theorem cm_str : CallR X (.type "str") (rCl K mg strM) := by
  intro pins s σ H vs us Q I r ⟨m, h, xs, σ', W, R, dxs, q⟩
  unfold strM at q
  split at q
  · split at q
    · rename_i hz
      cases dxs with | cons a1 d => cases d; cases a1; exact call_str_int pins s σ H _ us Q I r ⟨_, rfl, hz, rg.here q R (.v (.str _))⟩
    · exact q.elim
  · exact q.elim
theorem cm_ord : CallR X (.builtin "ord") (rCl K mg ordM) := by
  intro pins s σ H vs us Q I r ⟨m, h, xs, σ', W, R, dxs, q⟩
  unfold ordM at q
  split at q
  · split at q
    · rename_i hz
      cases dxs with | cons a1 d => cases d; cases a1; exact call_ord pins s σ H _ us Q I r ⟨_, rfl, hz, rg.here q R (.v (.int _))⟩
    · exact q.elim
  · exact q.elim
/-- what the heap's value reads as, dicts too -/
theorem reads_all {s : Shared} {n : Nat} (ih : ∀ {x : MV} {v : V} {u : Value} {d : PyData}, Dv K mg m H x v → RelV v u → snapR n h x = some d → ∃ as, Reads s.heap u d as ∧ (noLst d = true → sysModules ∉ as) ∧ d.depth ≤ n) :
    ∀ {xs : List MV} {vs : List V} {us : List Value} {ds : List PyData}, DvAll K mg m H xs vs → Vals vs us → xs.mapM (snapR n h) = some ds → ∃ as, ReadsAll s.heap us ds as ∧ (noLstAll ds = true → sysModules ∉ as) ∧ PyData.depthAll ds ≤ n
  | _, _, _, _, .nil, .nil, e => by
    cases e
    exact ⟨_, .nil, fun _ => by simp, Nat.zero_le _⟩
  | _, _, _, _, .cons d r, .cons rv rs, e => by
    obtain ⟨y, zs, e1, e2, rfl⟩ := mapM_cons e
    obtain ⟨as, a1, a2, a3⟩ := ih d rv e1
    obtain ⟨bs, b1, b2, b3⟩ := reads_all ih r rs e2
    refine ⟨as ++ bs, .cons a1 b1, fun z => ?_, by simp only [PyData.depthAll]; omega⟩
    rw [noLstAll, Bool.and_eq_true] at z
    rw [List.mem_append]
    exact fun q => q.elim (a2 z.1) (b2 z.2)
theorem reads_kv {s : Shared} {n : Nat} (ih : ∀ {x : MV} {v : V} {u : Value} {d : PyData}, Dv K mg m H x v → RelV v u → snapR n h x = some d → ∃ as, Reads s.heap u d as ∧ (noLst d = true → sysModules ∉ as) ∧ d.depth ≤ n) :
    ∀ {kvs : List (MV × MV)} {ls : List (Key × V)} {vs : List (Key × Value)} {D : List (PyData × PyData)}, DvK K mg m H kvs ls → KV ls vs → kvs.mapM (fun p => (keyD p.1).bind fun a => (snapR n h p.2).map fun b => (a, b)) = some D → ∃ bs, PyProof.V.PairsRead s.heap encK vs D bs ∧ (noLstKv D = true → sysModules ∉ bs) ∧ PyData.depthKv D ≤ n
  | _, _, _, _, .nil, .nil, e => by
    cases e
    exact ⟨_, .nil, fun _ => by simp, Nat.zero_le _⟩
  | _, _, _, _, .cons (k := k) d r, .cons (b := q) rv rs, e => by
    obtain ⟨y, zs, e1, e2, rfl⟩ := mapM_cons e
    obtain ⟨h1, h2⟩ := rv
    obtain ⟨k', u⟩ := q
    dsimp only at h1 h2
    subst h1
    have ek : keyD (kM k) = some (encK k) := by cases k <;> rfl
    dsimp only at e1
    rw [ek, Option.bind_some] at e1
    cases es : snapR n h _ with
    | none => rw [es] at e1; cases e1
    | some b =>
      rw [es] at e1
      have e1' : (encK k, b) = y := by simpa using e1
      subst e1'
      obtain ⟨as, a1, a2, a3⟩ := ih d h2 es
      obtain ⟨bs, b1, b2, b3⟩ := reads_kv ih r rs e2
      have dk : (encK k).depth = 0 := by cases k <;> rfl
      refine ⟨as ++ bs, .cons a1 b1, fun z => ?_, by simp only [PyData.depthKv]; omega⟩
      simp only [noLstKv, Bool.and_eq_true] at z
      rw [List.mem_append]
      exact fun q => q.elim (a2 z.1.2) (b2 z.2)
theorem key_reads {P : Program} {w : World} {hp : Heap} (k : Key) (v : Value) (e : (mixKind P w).is k v = true) : Reads hp v (encK k) [] := by
  rcases keyIs_shape (show keyIs k v = true from e) with ⟨i, t, rfl, rfl⟩ | ⟨x, t, rfl, rfl⟩
  · exact .int i t
  · exact .str x t
theorem reads_dv {pins : List (Addr × Obj)} {σ : L2.St} {s : Shared} (I : L2.Inv X pins σ H s) (R : Rep X.K mg m H h) : ∀ {n : Nat} {x : MV} {v : V} {u : Value} {d : PyData}, Dv X.K mg m H x v → RelV v u → snapR n h x = some d → ∃ as, Reads s.heap u d as ∧ (noLst d = true → sysModules ∉ as) ∧ d.depth ≤ n
  | 0, _, _, _, _, _, _, e => by cases e
  | n + 1, x, v, u, d, dx, rv, e => by
    have ih := fun {x v u d} => @reads_dv pins σ s I R n x v u d
    have lstc : ∀ {xs : List MV} {vs : List V} {a : Addr}, v = .ref a → DvAll X.K mg m H xs vs → SqL X.K H a vs → (xs.mapM (snapR n h)).map PyData.list = some d → ∃ as, Reads s.heap u d as ∧ (noLst d = true → sysModules ∉ as) ∧ d.depth ≤ n + 1 := fun {xs vs a} ev r sq q => by
      subst ev
      cases (show u = Value.ref a from rv)
      cases q2 : xs.mapM (snapR n h) with
      | none => rw [q2] at q; cases q
      | some ds =>
        rw [q2] at q
        cases q
        obtain ⟨its, rr, ⟨o, k, ho, hc, hd, hs⟩, _⟩ := I.list sq
        obtain ⟨as, a1, a2, a3⟩ := reads_all ih r rr q2
        exact ⟨a :: as, .list ho hc hs (by simpa using a1), (fun z => by cases z), (by simp only [PyData.depth]; omega)⟩
    cases x with
    | non => cases dx; cases e; cases rv; exact ⟨_, .none, fun _ => by simp, Nat.zero_le _⟩
    | bl b => cases dx; cases e; cases rv; exact ⟨_, .bool b, fun _ => by simp, Nat.zero_le _⟩
    | int i => cases dx; cases e; obtain ⟨t, rfl⟩ := rv; exact ⟨_, .int i t, fun _ => by simp, Nat.zero_le _⟩
    | str x => cases dx; cases e; obtain ⟨t, rfl⟩ := rv; exact ⟨_, .str x t, fun _ => by simp, Nat.zero_le _⟩
    | tup xs =>
      obtain ⟨a, vs, rfl, sq, r⟩ := sqt_of dx
      have q : (xs.mapM (snapR n h)).map PyData.tuple = some d := e
      cases (show u = Value.ref a from rv)
      cases q2 : xs.mapM (snapR n h) with
      | none => rw [q2] at q; cases q
      | some ds =>
        rw [q2] at q
        cases q
        obtain ⟨its, rr, ⟨o, ho, hc, k, hs⟩, _⟩ := I.tuple sq
        obtain ⟨as, a1, a2, a3⟩ := reads_all ih r rr q2
        exact ⟨as, .tuple ho hc hs (by simpa using a1), fun z => a2 (by simpa [noLst] using z), by simp only [PyData.depth]; omega⟩
    | tmp xs => exact absurd rfl (dx.notmp xs)
    | con xs =>
      cases dx with
      | con h1 h2 h3 => exact lstc rfl h3 (.inl (.inr ⟨_, h1⟩)) e
      | conK h1 h3 => exact lstc rfl h3 (.inr h1) e
    | ref k =>
      cases dx with
      | @ref _ a hk =>
        unfold snapR at e
        dsimp only at e
        cases q1 : h[k]? with
        | none => rw [q1] at e; cases e
        | some o =>
          rw [q1] at e
          have ob := R.at_ q1 hk
          cases o with
          | lst xs => obtain ⟨vs, h1, h2⟩ := ob; exact lstc rfl h2 (SqL.of h1) e
          | ins c fs => cases e
          | dic kvs =>
            obtain ⟨ls, h1, h2⟩ := ob
            cases (show u = Value.ref a from rv)
            dsimp only at e
            cases q2 : kvs.mapM (fun p => (keyD p.1).bind fun a => (snapR n h p.2).map fun b => (a, b)) with
            | none => rw [q2] at e; cases e
            | some D =>
              rw [q2] at e
              cases e
              obtain ⟨_, hsm, vs, rel, dd⟩ := dk_of I.hok h1
              obtain ⟨bs, b1, b2, b3⟩ := reads_kv ih h2 rel q2
              refine ⟨a :: bs, PyProof.V.reads_dictOf key_reads dd b1, fun z => ?_, by simp only [PyData.depth]; omega⟩
              rw [List.mem_cons, not_or]
              exact ⟨fun q => by rw [← q] at hsm; simp at hsm, b2 (by simpa [noLst] using z)⟩
    | ty n => cases e
    | cls c => cases e
    | fn c => cases e
    | exn c ns vs => cases e
theorem noLst_dict : ∀ d : PyData, okR d = true → d.hasDict = true → noLst d = true := fun d h1 h2 => by
  unfold okR at h1
  rw [h2] at h1
  simpa using h1
theorem cm_repr (hu : X.A.units + 64 < cLine) (hg : X.A.guards = some []) (hK : X.K = K := by rfl) : CallR X (.builtin "repr") (rCl1 K mg reprM) := by
  subst hK
  intro pins s σ H vs us Q I r ⟨m, h, x, v, H0, σ', W, e, R, dx, q⟩
  subst e
  obtain ⟨u, rfl, ru⟩ := Vals.one r
  unfold reprM at q
  split at q
  · rename_i d e1
    split at q
    · rename_i c
      have q' : Q (.str d.shown) H := rg.here q R (.v (.str _))
      obtain ⟨as, ra, rs, rd⟩ : ∃ as, Reads s.heap u d as ∧ (noLst d = true → sysModules ∉ as) ∧ d.depth ≤ 30 := by
        cases dx with
        | v dx => exact reads_dv I R dx ru e1
        | @tmp a ws xs ha na n0 hv =>
          have e1' : (xs.mapM (snapR 29 h)).map PyData.list = some d := e1
          cases (show u = Value.ref a from ru)
          cases q2 : xs.mapM (snapR 29 h) with
          | none => rw [q2] at e1'; cases e1'
          | some ds =>
            rw [q2] at e1'
            cases e1'
            obtain ⟨its, rr, ⟨o, k, ho, hc, hd, hs⟩, _⟩ := I.list (SqL.of ha)
            obtain ⟨as, a1, a2, a3⟩ := reads_all (fun dx rv e => reads_dv I R dx rv e) hv rr q2
            exact ⟨a :: as, .list ho hc hs (by simpa using a1), (fun z => by cases z), (by simp only [PyData.depth]; omega)⟩
      have hsm : d.hasDict = true → sysModules ∉ as := fun z => rs (noLst_dict d c.1 z)
      have cs := c.2.1
      have cl := c.2.2
      cases ra with
      | none => exact PySem.P.repr_of_none ⟨.str _, H, I.tok _, ⟨_, rfl⟩, by simpa [PyData.shown] using q'⟩
      | bool b => exact PySem.P.repr_of_bool ⟨.str _, H, I.tok _, ⟨_, rfl⟩, by simpa [PyData.shown] using q'⟩
      | int i t => exact PySem.P.repr_of_int (by simpa [PyData.showable] using cs) ⟨.str _, H, I.tok _, ⟨_, rfl⟩, by simpa [PyData.shown] using q'⟩
      | str z t => exact PySem.P.repr_of_str ⟨.str _, H, I.tok _, ⟨_, rfl⟩, by simpa [PyData.shown] using q'⟩ (by simpa [PyData.shown] using cl)
      | list h1 h2 h3 h4 => exact repr_of_reads' (h₀ := s.heap) (.list h1 h2 h3 h4) cs hsm hg (by omega) (fun _ _ z => z) (fun h' t tk k => ⟨.str _, H, I.kept k, ⟨_, rfl⟩, q'⟩) cl
      | tuple h1 h2 h3 h4 => exact repr_of_reads' (h₀ := s.heap) (.tuple h1 h2 h3 h4) cs hsm hg (by omega) (fun _ _ z => z) (fun h' t tk k => ⟨.str _, H, I.kept k, ⟨_, rfl⟩, q'⟩) cl
      | dict h1 h2 h3 h4 h5 => exact repr_of_reads' (h₀ := s.heap) (.dict h1 h2 h3 h4 h5) cs hsm hg (by omega) (fun _ _ z => z) (fun h' t tk k => ⟨.str _, H, I.kept k, ⟨_, rfl⟩, q'⟩) cl
    · exact q.elim
  · exact q.elim
/-! #### {} -/
def eDic0 : ME := fun _ h => .ok (.ref h.length) (h ++ [.dic []])
theorem se_dic0 {W : WX} {pos : Pos} : SE K mg W X (.Dict [] [] pos) eDic0 := pe_dnewK.imp fun σ H Q ⟨m, σm, h, R, S, q⟩ => fun p np => by
  have e : Ext m H (m ++ [p]) (upd H p (.dK [])) := Ext.snoc np
  refine q (.ref p) (m ++ [p]) _ e (R.place (o := .dic []) (R.out np) e.gro (fun b hb => ?_) ⟨[], upd_same, .nil⟩) (.v (.ref (by rw [← R.len]; simp)))
  obtain ⟨u, hu⟩ := R.tracked hb
  exact upd_ne (ne_of_none hu np)
/-! #### methods of texts -/
variable {W : WX} {A B : ME} {o e : Expr} {apos pos : Pos}
def eM0 (f : MV → MH → Res MV) (A : ME) : ME := fun σ h => (A σ h).bind fun x h1 => match x with
  | .str a => f (.str a) h1
  | _ => .stuck
def eM1 (f : MV → MV → MH → Res MV) (A B : ME) : ME := fun σ h => (A σ h).bind fun x h1 => match x with
  | .str a => (B σ h1).bind fun y h2 => f (.str a) y h2
  | _ => .stuck
def rM0 (K : PySem.W.Frag) (mg : Str → Option Value) (f : MV → MH → Res MV) : V → List V → Hp → VK → Prop := fun v vs H Q => ∃ m h x H0 σ W, vs = [] ∧ Rep K mg m H h ∧ Dt K mg H0 m H x v ∧ rg K mg (DV K mg) W σ m H (f x h) Q
def rM1 (K : PySem.W.Frag) (mg : Str → Option Value) (f : MV → MV → MH → Res MV) : V → List V → Hp → VK → Prop := fun v vs H Q => ∃ m h x y w H0 H1 σ W, vs = [w] ∧ Rep K mg m H h ∧ Dt K mg H0 m H x v ∧ Dt K mg H1 m H y w ∧ rg K mg (DV K mg) W σ m H (f x y h) Q
theorem se_m0 {id : String} {name : Str} {f : MV → MH → Res MV} (slot : Slot "str" name id) (ty : typeOf (.builtin id) = pure (.type "method_descriptor")) (rule : MtR X id (rM0 K mg f)) (ho : SE K mg W X o A)
    (hbase : attributeBase o name X.env (eval o X.env) = eval o X.env := by rfl) (hline : (apos.endLine == pos.line) = true := by rfl) : SE K mg W X (.Call (.Attribute o name apos) [] [] pos) (eM0 f A) := (pe_m0 slot ty rule ho hbase hline).imp fun σ H Q ⟨m, σm, h, R, S, q⟩ => by
  refine ⟨m, σm, h, R, S, rg.bind q fun x h1 x' m1 H1 e1 R1 d1 q1 => ?_⟩
  cases x with
  | str a =>
    cases d1.dv (fun _ => MV.noConfusion)
    exact ⟨⟨a, rfl⟩, m1, h1, .str a, H, σ, W, rfl, R1, d1, rg.ext dmV e1 R1 q1⟩
  | _ => exact q1.elim
theorem se_m1 {id : String} {name : Str} {f : MV → MV → MH → Res MV} (slot : Slot "str" name id) (ty : typeOf (.builtin id) = pure (.type "method_descriptor")) (rule : MtR X id (rM1 K mg f)) (ho : SE K mg W X o A) (he : SE K mg W X e B)
    (hs : starEach [e] X.env = [(false, eval e X.env)] := by rfl) (hbase : attributeBase o name X.env (eval o X.env) = eval o X.env := by rfl) (hline : (apos.endLine == pos.line) = true := by rfl) :
    SE K mg W X (.Call (.Attribute o name apos) [e] [] pos) (eM1 f A B) := (pe_m1 slot ty rule ho he hs hbase hline).imp fun σ H Q ⟨m, σm, h, R, S, q⟩ => by
  refine ⟨m, σm, h, R, S, rg.bind q fun x h1 x' m1 H1 e1 R1 d1 q1 => ?_⟩
  cases x with
  | str a =>
    cases d1.dv (fun _ => MV.noConfusion)
    refine ⟨⟨a, rfl⟩, m1, σm, h1, R1, S.mono e1.gro, rg.bind (rg.ext dmV e1 R1 q1) fun y h2 y' m2 H2 e2 R2 d2 q2 => ?_⟩
    exact ⟨m2, h2, .str a, y, y', H, H1, σ, W, rfl, R2, .v (.str a), d2, rg.ext dmV e2 R2 q2⟩
  | _ => exact q1.elim
theorem mm_upper : MtR X "str.upper" (rM0 K mg upperM) := by
  intro pins s σ H x' xs v us Q I rx rs ⟨m, h, x, H0, σ', W, e, R, dx, q⟩
  subst e
  unfold upperM at q
  split at q
  · cases dx.dv (fun _ => MV.noConfusion)
    split at q
    · rename_i hz
      exact mt_upper pins s σ H _ _ v us Q I rx rs ⟨_, rfl, rfl, hz, rg.here q R (.v (.str _))⟩
    · exact q.elim
  · exact q.elim
theorem mm_join (hK : X.K = K := by rfl) : MtR X "str.join" (rM1 K mg joinM) := by
  subst hK
  intro pins s σ H x' xs v us Q I rx rs ⟨m, h, x, y, w, H0, H1, σ', W, e, R, dx, dy, q⟩
  subst e
  unfold joinM at q
  split at q
  · rename_i a ys e1
    cases dx.dv (fun _ => MV.noConfusion)
    obtain ⟨zs, e2, e3⟩ := Option.bind_eq_some_iff.mp e1
    obtain ⟨p, vs, rfl, s1, r1⟩ := dy.asQ R e2
    rw [all_asS r1 e3] at s1
    split at q
    · rename_i hz
      exact mt_join pins s σ H _ _ v us Q I rx rs ⟨a, p, ys, rfl, rfl, s1, hz, rg.here q R (.v (.str _))⟩
    · exact q.elim
  · exact q.elim
end
end Mi

set_option maxHeartbeats 400000
/-! ### statements, loops, comprehensions -/
namespace Mi
open PySem PySem.Spec PyProof.Rows L2
def Res.st {α : Type} (r : Res α) (σ : MS) (k : α → MH → SR) : SR := match r with
  | .ok a h => k a h
  | .exc x h => .exc x σ h
  | .stuck => .stuck
theorem Res.ok_st {α : Type} {a : α} {h : MH} {σ : MS} {k : α → MH → SR} : (Res.ok a h).st σ k = k a h := rfl
theorem Res.exc_st {α : Type} {x : XV} {h : MH} {σ : MS} {k : α → MH → SR} : (Res.exc x h : Res α).st σ k = .exc x σ h := rfl
def sNil : MSt := fun σ h => .next σ h
def sSeq (s t : MSt) : MSt := fun σ h => match s σ h with
  | .next σ' h' => t σ' h'
  | r => r
def sAsg (i : Nat) (A : ME) : MSt := fun σ h => (A σ h).st σ fun v h1 => (settle v h1).st σ fun v h2 => .next (σ.set i (some v)) h2
def sDrop (A : ME) : MSt := fun σ h => (A σ h).st σ fun _ h1 => .next σ h1
def sRet (A : ME) : MSt := fun σ h => (A σ h).st σ fun v h1 => .ret v h1
def sRetN : MSt := fun _ h => .ret .non h
def sIf (T : MT) (s t : MSt) : MSt := fun σ h => (T σ h).st σ fun b h1 => if b = true then s σ h1 else t σ h1
def sBrk : MSt := fun σ h => .brk σ h
def sCont : MSt := fun σ h => .cont σ h
def sPar (i j : Nat) (A : MA) : MSt := fun σ h => (A σ h).st σ fun vs h1 => match vs with
  | [v, w] => .next ((σ.set i (some v)).set j (some w)) h1
  | _ => .stuck
def sAug (i : Nat) (op : MV → MV → MH → Res MV) (A : ME) : MSt := fun σ h => match σ[i]? with
  | some (some x) => (A σ h).st σ fun y h1 => (op x y h1).st σ fun v h2 => (settle v h2).st σ fun v h3 => .next (σ.set i (some v)) h3
  | _ => .stuck
def sWhile (T : MT) (s : MSt) : Nat → MSt
  | 0 => fun _ _ => .stuck
  | n + 1 => fun σ h => (T σ h).st σ fun b h1 => if b = true then (match s σ h1 with
    | .next σ2 h2 => sWhile T s n σ2 h2
    | .cont σ2 h2 => sWhile T s n σ2 h2
    | .brk σ2 h2 => .next σ2 h2
    | .ret v h2 => .ret v h2
    | .exc x σ2 h2 => .exc x σ2 h2
    | .stuck => .stuck) else .next σ h1
/-- what is walked: its items; what must stand still -/
structure MW where
  items : List MV
  still : MH → Bool
abbrev MI := MS → MH → Res MW
abbrev MG := MV → MS → MH → Res MS
def sForL (st : MH → Bool) (g : MG) (s : MSt) : List MV → MSt
  | [] => fun σ h => if st h = true then .next σ h else .stuck
  | x :: xs => fun σ h => if st h = true then (g x σ h).st σ fun σ1 h1 => (match s σ1 h1 with
    | .next σ2 h2 => sForL st g s xs σ2 h2
    | .cont σ2 h2 => sForL st g s xs σ2 h2
    | .brk σ2 h2 => .next σ2 h2
    | .ret v h2 => .ret v h2
    | .exc x σ2 h2 => .exc x σ2 h2
    | .stuck => .stuck) else .stuck
def sFor (I : MI) (g : MG) (s : MSt) : MSt := fun σ h => (I σ h).st σ fun w h1 => sForL w.still g s w.items σ h1
/-- nothing is raised within -/
def Res.bn {α β : Type} (r : Res α) (f : α → MH → Res β) : Res β := match r with
  | .ok a h => f a h
  | _ => .stuck
theorem Res.ok_bn {α β : Type} {a : α} {h : MH} {f : α → MH → Res β} : (Res.ok a h).bn f = f a h := rfl
def compL (st : MH → Bool) (g : MG) (tt : MT) (te : ME) (σ : MS) : List MV → List MV → MH → Res MV
  | [], acc, h => if st h = true then .ok (.tmp acc) h else .stuck
  | x :: xs, acc, h => if st h = true then (g x σ h).bn fun σ1 h1 => (tt σ1 h1).bn fun b h2 => if b = true then (if acc.length < sizeLine then ((eSet te) σ1 h2).bn fun v h4 => compL st g tt te σ xs (acc ++ [v]) h4 else .stuck) else compL st g tt te σ xs acc h2 else .stuck
def wipeM (σ : MS) : List Nat → MS
  | [] => σ
  | v :: vs => (wipeM σ vs).set v none
def eComp (I : MI) (g : MG) (tt : MT) (te : ME) (vs : List Nat) : ME := fun σ h => (I σ h).bind fun w h1 => compL w.still g tt te (wipeM σ vs) w.items [] h1
def tYesM : MT := fun _ h => .ok true h
section
variable {K : PySem.W.Frag} {mg : Str → Option Value} {X : Cx} {W : WX} {m m1 : List Addr} {H H0 H1 : Hp} {h h1 : MH} {σ : L2.St} {σm : MS} {D : Ends}
theorem rs.ext {r : SR} (e : Ext m H m1 H1) (R : Rep K mg m1 H1 h1) (q : rs K mg W D m H r) : rs K mg W D m1 H1 r := by
  cases r with
  | next σ' h' => exact fun s' m' H' e' R' S => q s' m' H' (e.trans e') R' S
  | ret v h' => exact fun s' m' H' e' R' S => q s' m' H' (e.trans e') R' (S.back e R)
  | brk σ' h' => exact fun s' m' H' e' R' S => q s' m' H' (e.trans e') R' S
  | cont σ' h' => exact fun s' m' H' e' R' S => q s' m' H' (e.trans e') R' S
  | exc x σ' h' => exact fun cls d s' m' H' e' R' S x => q cls d s' m' H' (e.trans e') R' S x
  | stuck => exact q
/-- a part of a statement -/
theorem rs.part {α β : Type} {Dd : Hp → List Addr → Hp → α → β → Prop} {r : Res α} {k : α → MH → SR} {Q : β → Hp → Prop} (S : SRel K mg m H σm σ) (q : rs K mg W D m H (r.st σm k))
    (hk : ∀ a h1 b m1 H1, Ext m H m1 H1 → Rep K mg m1 H1 h1 → Dd H m1 H1 a b → rs K mg W D m H (k a h1) → Q b H1) : rg K mg Dd W σ m H r Q := by
  cases r with
  | ok a h' => exact fun b m' H' e' R' d => hk a h' b m' H' e' R' d q
  | exc x h' => exact fun cls d m' H' e' R' x => q cls d σ m' H' e' R' (S.mono e'.gro) x
  | stuck => exact q
variable {st : Stmt} {rest : List Stmt} {A B : ME} {T : MT} {sa sb : MSt} {e : Expr} {pos : Pos}
theorem sss_nil : SSs K mg W X [] sNil := pss_nil.imp fun D σ H ⟨m, σm, h, R, S, q⟩ => q σ m H Ext.refl R S
theorem sss_cons (h1 : SS K mg W X st sa) (h2 : SSs K mg W X rest sb) : SSs K mg W X (st :: rest) (sSeq sa sb) := (pss_cons h1 h2).imp fun D σ H ⟨m, σm, h, R, S, q⟩ => by
  refine ⟨m, σm, h, R, S, ?_⟩
  unfold sSeq at q
  cases e : sa σm h with
  | next σ' h' => rw [e] at q; exact fun s' m' H' e' R' S' => ⟨m', σ', h', R', S', rs.ext e' R' q⟩
  | ret v h' => rw [e] at q; exact q
  | brk σ' h' => rw [e] at q; exact q
  | cont σ' h' => rw [e] at q; exact q
  | exc x σ' h' => rw [e] at q; exact q
  | stuck => rw [e] at q; exact q
theorem sss_one (h1 : SS K mg W X st sa) : SSs K mg W X [st] sa := pss_one h1
theorem ss_pass : SS K mg W X (.Pass pos) sNil := ps_pass.imp fun D σ H ⟨m, σm, h, R, S, q⟩ => q σ m H Ext.refl R S
theorem ss_brk : SS K mg W X (.Break pos) sBrk := ps_break.imp fun D σ H ⟨m, σm, h, R, S, q⟩ => q σ m H Ext.refl R S
theorem ss_cont : SS K mg W X (.Continue pos) sCont := ps_continue.imp fun D σ H ⟨m, σm, h, R, S, q⟩ => q σ m H Ext.refl R S
theorem ss_doc {x j pos pos'} : SS K mg W X (.Expr (.Constant (.str x) j pos) pos') sNil := ps_doc.imp fun D σ H ⟨m, σm, h, R, S, q⟩ => q σ m H Ext.refl R S
theorem ss_expr (ha : SE K mg W X e A) (hs : swapsWith e none pos.line X.env = pure false := by rfl) : SS K mg W X (.Expr e pos) (sDrop A) := (ps_expr ha hs).imp fun D σ H ⟨m, σm, h, R, S, q⟩ =>
  ⟨m, σm, h, R, S, rs.part S q fun x h1 x' m1 H1 e1 R1 d1 q1 => q1 σ m1 H1 e1 R1 (S.mono e1.gro)⟩
theorem ss_ret (ha : SE K mg W X e A) : SS K mg W X (.Return (some e) pos) (sRet A) := (ps_ret ha).imp fun D σ H ⟨m, σm, h, R, S, q⟩ =>
  ⟨m, σm, h, R, S, rs.part S q fun x h1 x' m1 H1 e1 R1 d1 q1 => q1 x' m1 H1 e1 R1 d1⟩
theorem ss_retN : SS K mg W X (.Return none pos) sRetN := ps_retN.imp fun D σ H ⟨m, σm, h, R, S, q⟩ => q .non m H Ext.refl R (.v .non)
theorem ss_if {c : Expr} {a b : List Stmt} (hc : STt K mg W X c T) (ha : SSs K mg W X a sa) (hb : SSs K mg W X b sb) : SS K mg W X (.If c a b pos) (sIf T sa sb) := (ps_if hc ha hb).imp fun D σ H ⟨m, σm, h, R, S, q⟩ => by
  refine ⟨m, σm, h, R, S, rs.part S q fun x h1 x' m1 H1 e1 R1 d1 q1 => ?_⟩
  cases (show x = x' from d1)
  cases x with
  | true => exact ⟨m1, σm, h1, R1, S.mono e1.gro, rs.ext e1 R1 q1⟩
  | false => exact ⟨m1, σm, h1, R1, S.mono e1.gro, rs.ext e1 R1 q1⟩
/-- a settled value in a statement -/
theorem rs.settled {x : MV} {v : V} {k : MV → MH → SR} {P : Prop} (e : Ext m H m1 H1) (R : Rep K mg m1 H1 h1) (d : Dt K mg H m1 H1 x v) (S : SRel K mg m H σm σ) (q : rs K mg W D m H ((settle x h1).st σm k))
    (hk : ∀ y h2 m2, Ext m H m2 H1 → Rep K mg m2 H1 h2 → Gro m1 H1 m2 H1 → Dv K mg m2 H1 y v → rs K mg W D m H (k y h2) → P) : P := by
  cases d with
  | v d =>
    rw [settle_notmp d.notmp] at q
    exact hk x h1 m1 e R Ext.refl.gro d q
  | @tmp a vs xs ha na n0 hv =>
    have g : Gro m1 H1 (m1 ++ [a]) H1 := by
      refine ⟨⟨[a], rfl⟩, fun _ _ h _ _ => h, fun b o hb hl nb z => ?_⟩
      rcases List.mem_append.mp z with z | z
      · exact nb z
      · have z' : b = a := by simpa using z
        subst z'
        rw [ha] at hb
        cases hb
        exact hl _ rfl
    refine hk (.ref h1.length) _ (m1 ++ [a]) ?_ (R.place (o := .lst xs) na g (fun _ _ => rfl) ⟨vs, ha, hv.mono g⟩) g (.ref (by rw [← R.len]; simp)) q
    obtain ⟨r, hr⟩ := e.pre
    refine ⟨⟨r ++ [a], by rw [hr, List.append_assoc]⟩, e.keep, fun b hb nb => ?_⟩
    rcases List.mem_append.mp hb with z | z
    · exact e.new b z nb
    · have : b = a := by simpa using z
      rw [this]
      exact n0
theorem ss_set {i : Nat} {x : Str} {pos' : Pos} (hN : X.N.Nodup) (hi : X.N[i]? = some x) (hx : Loc X.env.scope x) (ha : SE K mg W X e A) (hs : swapsWith e (some (.Name x pos')) pos.line X.env = pure false := by rfl)
    (hf : X.fn x = true ∨ X.env.scope.names.lookup x = some .local := by first | exact .inl rfl | exact .inr rfl | assumption) : SS K mg W X (.Assign [.Name x pos'] e pos) (sAsg i A) := (ps_set hN hi hx ha hs hf).imp fun D σ H ⟨m, σm, h, R, S, q⟩ => by
  refine ⟨m, σm, h, R, S, rs.part S q fun x h1 x' m1 H1 e1 R1 d1 q1 => ?_⟩
  refine rs.settled e1 R1 d1 S q1 fun y h2 m2 e2 R2 g d2 q2 => ?_
  exact q2 _ m2 H1 e2 R2 ((S.mono e2.gro).set d2)
theorem ss_par {i j : Nat} {x y : Str} {a b : Expr} {AL : MA} {px py pt : Pos} {kt k2 pt2} (hc : X.calm = true) (hN : X.N.Nodup) (hi : X.N[i]? = some x) (hj : X.N[j]? = some y) (hij : i ≠ j)
    (hx : X.env.scope.names.lookup x = some .local) (hy : X.env.scope.names.lookup y = some .local) (ha : SA K mg W X [a, b] AL)
    (hw : swappedStores [.Tuple [.Name x px, .Name y py] kt pt] (.Tuple [a, b] k2 pt2) X.env = pure (some [x, y]) := by rfl)
    (hs : swapsWithSole [.Tuple [.Name x px, .Name y py] kt pt] (.Tuple [a, b] k2 pt2) pos.line X.env = pure false := by rfl) :
    SS K mg W X (.Assign [.Tuple [.Name x px, .Name y py] kt pt] (.Tuple [a, b] k2 pt2) pos) (sPar i j AL) := (ps_par hc hN hi hj hij hx hy ha hw hs).imp fun D σ H ⟨m, σm, h, R, S, q⟩ => by
  refine ⟨m, σm, h, R, S, rs.part S q fun xs h1 vs m1 H1 e1 R1 d1 q1 => ?_⟩
  split at q1
  · cases d1 with
    | cons d1 d2 =>
      cases d2 with
      | cons d2 d3 =>
        cases d3
        exact ⟨_, _, rfl, q1 _ m1 H1 e1 R1 (((S.mono e1.gro).set d1).set d2)⟩
  · exact q1.elim
/-- x op= e -/
theorem ss_aug {i : Nat} {x : Str} {op : Operator} {f : MV → MV → MH → Res MV} {pos' : Pos} (hN : X.N.Nodup) (hi : X.N[i]? = some x) (hx : Loc X.env.scope x) (ha : SE K mg W X e A) (ho : PIp X op (rOp K mg f))
    (hf : X.fn x = true ∨ X.env.scope.names.lookup x = some .local := by first | exact .inl rfl | exact .inr rfl | assumption) : SS K mg W X (.AugAssign (.Name x pos') op e pos) (sAug i f A) := (ps_aug hN hi hx ha ho hf).imp fun D σ H ⟨m, σm, h, R, S, q⟩ => by
  unfold sAug at q
  cases ex : σm[i]? with
  | none => rw [ex] at q; exact q.elim
  | some o =>
    cases o with
    | none => rw [ex] at q; exact q.elim
    | some v =>
      rw [ex] at q
      obtain ⟨v', h1, h2⟩ := S.at_ i v ex
      refine ⟨v', h1, m, σm, h, R, S, rs.part S q fun y h1 y' m1 H1 e1 R1 d1 q1 => ?_⟩
      have hk : rg K mg (DV K mg) W σ m1 H1 (f v y h1) (fun z H2 => D.nx (σ.set i (some z)) H2) := by
        refine rs.part (S.mono e1.gro) (rs.ext e1 R1 q1) fun z h2 z' m2 H2 e2 R2 d2 q2 => ?_
        refine rs.settled e2 R2 d2 (S.mono e1.gro) q2 fun y h3 m3 e3 R3 g d3 q3 => ?_
        exact q3 _ m3 H2 e3 R3 (((S.mono e1.gro).mono e3.gro).set d3)
      exact ⟨m1, h1, v, y, H, H, σ, W, R1, .v (h2.mono e1.gro), d1, hk⟩
theorem ss_while {c : Expr} {body : List Stmt} {n : Nat} (hp : PassesOwn (model X.prog X.w) X.A X.env X.xe) (hc : STt K mg W X c T) (hb : SSs K mg W X body sb) : SS K mg W X (.While c body [] pos) (sWhile T sb n) := (ps_while hp hc hb).imp fun D σ H ⟨m, σm, h, R, S, q⟩ => by
  refine ⟨fun k σ' H' => ∃ m' σm' h', Rep K mg m' H' h' ∧ SRel K mg m' H' σm' σ' ∧ rs K mg W D m' H' (sWhile T sb k σm' h'), ⟨n, m, σm, h, R, S, q⟩, ?_⟩
  rintro k σ' H' ⟨m', σm', h', R', S', q'⟩
  cases k with
  | zero => exact q'.elim
  | succ k =>
    refine ⟨m', σm', h', R', S', rs.part S' q' fun b h1 b' m1 H1 e1 R1 d1 q1 => ?_⟩
    cases (show b = b' from d1)
    cases b with
    | false => exact q1 σ' m1 H1 e1 R1 (S'.mono e1.gro)
    | true =>
      rw [if_pos rfl]
      refine ⟨fun σ2 H2 => ∃ m2 σm2 h2, Rep K mg m2 H2 h2 ∧ SRel K mg m2 H2 σm2 σ2 ∧ rs K mg W D m2 H2 (sWhile T sb k σm2 h2), fun σ2 H2 z => ⟨k, Nat.lt_succ_self k, z⟩, m1, σm', h1, R1, S'.mono e1.gro, ?_⟩
      have q2 := rs.ext e1 R1 q1
      simp only [if_true] at q2
      cases es : sb σm' h1 with
      | next σ2 h2 => rw [es] at q2; exact fun s2 m2 H2 e2 R2 S2 => ⟨m2, σ2, h2, R2, S2, rs.ext e2 R2 q2⟩
      | cont σ2 h2 => rw [es] at q2; exact fun s2 m2 H2 e2 R2 S2 => ⟨m2, σ2, h2, R2, S2, rs.ext e2 R2 q2⟩
      | brk σ2 h2 => rw [es] at q2; exact q2
      | ret v h2 => rw [es] at q2; exact q2
      | exc x σ2 h2 => rw [es] at q2; exact q2
      | stuck => rw [es] at q2; exact q2
end
/-! #### what is walked -/
section
variable (K : PySem.W.Frag) (mg : Str → Option Value)
structure WkM (J : It) (w : MW) (m1 : List Addr) (H1 : Hp) : Prop where
  goes : ∀ (i : Nat) (H : Hp) (mm : List Addr) (h : MH), i < w.items.length → Rep K mg mm H h → Ext m1 H1 mm H → w.still h = true → J.go i H
  stops : ∀ (H : Hp) (mm : List Addr) (h : MH), Rep K mg mm H h → Ext m1 H1 mm H → w.still h = true → J.stop w.items.length H
  yields : ∀ (i : Nat) (H : Hp) (x : V) (H' : Hp) (mm : List Addr) (h : MH), i < w.items.length → Rep K mg mm H h → Ext m1 H1 mm H → w.still h = true → J.yld i H x H' → ∃ z, w.items[i]? = some z ∧ Ext mm H mm H' ∧ Rep K mg mm H' h ∧ Dv K mg mm H' z x
abbrev DI : Hp → List Addr → Hp → MW → It → Prop := fun _ m H w J => WkM K mg J w m H
def tgI (W : WX) (A : MI) : TI := tg K mg (DI K mg) W A
abbrev SI (W : WX) (X : Cx) (tg iter : Expr) (A : MI) : Prop := PI X tg iter (tgI K mg W A)
/-- the slots differ at vs alone -/
def Upto (vs : List Nat) (σ s : L2.St) : Prop := s.length = σ.length ∧ ∀ j, j ∉ vs → s[j]? = σ[j]?
abbrev DS (vs : List Nat) (σ : L2.St) : Hp → List Addr → Hp → MS → L2.St → Prop := fun _ m H σm s => SRel K mg m H σm s ∧ Upto vs σ s
def tgG (W : WX) (vs : List Nat) (G : MG) : TG := fun v σ H Q => ∃ m σm h x, Rep K mg m H h ∧ SRel K mg m H σm σ ∧ Dv K mg m H x v ∧ rg K mg (DS K mg vs σ) W σ m H (G x σm h) Q
abbrev SG (W : WX) (X : Cx) (vs : List Nat) (t : Expr) (G : MG) : Prop := PG X t (tgG K mg W vs G)
end
def gN (i : Nat) : MG := fun v σ h => .ok (σ.set i (some v)) h
def gsNil : List MV → MS → MH → Res MS := fun vs σ h => match vs with
  | [] => .ok σ h
  | _ => .stuck
def gsCons (g : MG) (r : List MV → MS → MH → Res MS) : List MV → MS → MH → Res MS := fun vs σ h => match vs with
  | v :: vs => (g v σ h).bind fun σ1 h1 => r vs σ1 h1
  | [] => .stuck
def gT (n : Nat) (r : List MV → MS → MH → Res MS) : MG := fun v σ h => match v with
  | .tup xs => if xs.length = n then r xs σ h else .stuck
  | _ => .stuck
section
variable {K : PySem.W.Frag} {mg : Str → Option Value} {X : Cx} {W : WX} {m m1 : List Addr} {H H0 H1 : Hp} {h h1 : MH} {σ : L2.St} {σm : MS} {D : Ends} {pos : Pos} {vs : List Nat}
theorem dmI : DM K mg (DI K mg) := ⟨fun _ _ d => d⟩
theorem dmS : DM K mg (DS K mg vs σ) := ⟨fun _ _ d => d⟩
theorem Upto.refl : Upto vs σ σ := ⟨rfl, fun _ _ => rfl⟩
theorem Upto.trans {s t : L2.St} (a : Upto vs σ s) (b : Upto vs s t) : Upto vs σ t := ⟨b.1.trans a.1, fun j hj => (b.2 j hj).trans (a.2 j hj)⟩
theorem Upto.set {i : Nat} {o : Option V} (hi : i ∈ vs) : Upto vs σ (σ.set i o) := ⟨by simp, fun j hj => List.getElem?_set_ne (fun z => hj (by rw [← z]; exact hi))⟩
theorem sg_name {i : Nat} {x : Str} (hN : X.N.Nodup) (hi : X.N[i]? = some x) (hx : Loc X.env.scope x) (hv : i ∈ vs) (hf : X.fn x = true ∨ X.env.scope.names.lookup x = some .local := by first | exact .inl rfl | exact .inr rfl | assumption) : SG K mg W X vs (.Name x pos) (gN i) :=
  ⟨fun pins s σ H v u Q I r ⟨m, σm, h, x, R, S, d, q⟩ => (pg_name hN hi hx hf).run pins s σ H v u Q I r (q _ m H Ext.refl R ⟨S.set d, Upto.set hv⟩)⟩
def tgGs (K : PySem.W.Frag) (mg : Str → Option Value) (W : WX) (vs : List Nat) (G : List MV → MS → MH → Res MS) : TGs := fun ws σ H Q => ∃ m σm h xs, Rep K mg m H h ∧ SRel K mg m H σm σ ∧ DvAll K mg m H xs ws ∧ rg K mg (DS K mg vs σ) W σ m H (G xs σm h) Q
abbrev SGs (K : PySem.W.Frag) (mg : Str → Option Value) (W : WX) (X : Cx) (vs : List Nat) (t : List Expr) (G : List MV → MS → MH → Res MS) : Prop := PGs X t (tgGs K mg W vs G)
theorem sgs_nil : SGs K mg W X vs [] gsNil := ⟨fun pins s σ H ws us Q I r ⟨m, σm, h, xs, R, S, d, q⟩ => pgs_nil.run pins s σ H ws us Q I r (by
  cases d with
  | nil => exact ⟨rfl, q _ m H Ext.refl R ⟨S, Upto.refl⟩⟩
  | cons _ _ => exact q.elim)⟩
/-- no target raises: the wish at other slots is nothing -/
theorem rg.noexc {α β : Type} {Dd : Hp → List Addr → Hp → α → β → Prop} {W' : WX} {σ' : L2.St} {r : Res α} {Q : β → Hp → Prop} (ne : ∀ x h, r ≠ .exc x h) (q : rg K mg Dd W σ m H r Q) : rg K mg Dd W' σ' m H r Q := by
  cases r with
  | ok a h => exact q
  | exc x h => exact absurd rfl (ne x h)
  | stuck => exact q
def NoX (G : MG) : Prop := ∀ v σ h x h', G v σ h ≠ .exc x h'
def NoXs (G : List MV → MS → MH → Res MS) : Prop := ∀ v σ h x h', G v σ h ≠ .exc x h'
theorem nox_name {i : Nat} : NoX (gN i) := fun _ _ _ _ _ z => by cases z
theorem nox_nil : NoXs gsNil := fun v _ _ _ _ z => by unfold gsNil at z; split at z <;> cases z
theorem nox_cons {g : MG} {r : List MV → MS → MH → Res MS} (h1 : NoX g) (h2 : NoXs r) : NoXs (gsCons g r) := fun v σ h x h' z => by
  unfold gsCons at z
  split at z
  · rename_i v vs
    cases e : g v σ h with
    | ok s h1' => rw [e] at z; exact h2 _ _ _ _ _ z
    | exc y h1' => exact h1 _ _ _ _ _ e
    | stuck => rw [e] at z; cases z
  · cases z
theorem nox_tup {n : Nat} {r : List MV → MS → MH → Res MS} (h2 : NoXs r) : NoX (gT n r) := fun v σ h x h' z => by
  unfold gT at z
  split at z
  · split at z
    · exact h2 _ _ _ _ _ z
    · cases z
  · cases z
theorem sgs_cons {e : Expr} {es : List Expr} {g : MG} {r : List MV → MS → MH → Res MS} (h1 : SG K mg W X vs e g) (h2 : SGs K mg W X vs es r) (nx : NoXs r)
    (hs : (assignEach (e :: es) X.env).map (·.2) = assign e X.env :: (assignEach es X.env).map (·.2) := by rfl) : SGs K mg W X vs (e :: es) (gsCons g r) := ⟨fun pins s σ H ws us Q I rr ⟨m, σm, h, xs, R, S, d, q⟩ => (pgs_cons h1 h2 hs).run pins s σ H ws us Q I rr (by
  cases d with
  | nil => exact q.elim
  | @cons x v xs vs' d1 d2 =>
    refine ⟨v, vs', rfl, m, σm, h, x, R, S, d1, rg.bind q fun σ1 h1 s1 m1 H1 e1 R1 d3 q1 => ?_⟩
    obtain ⟨S1, U1⟩ := d3
    refine ⟨m1, σ1, h1, xs, R1, S1, d2.mono e1.gro, ?_⟩
    have q2 := rg.noexc (W' := W) (σ' := s1) (nx _ _ _) (rg.ext dmS e1 R1 q1)
    cases er : r xs σ1 h1 with
    | ok s2 h2 => rw [er] at q2; exact fun b m' H' e' R' d' => q2 b m' H' e' R' ⟨d'.1, U1.trans d'.2⟩
    | exc x h2 => exact (nx _ _ _ _ _ er).elim
    | stuck => rw [er] at q2; exact q2)⟩
theorem sg_tup {es : List Expr} {k n : Nat} {r : List MV → MS → MH → Res MS} (hc : X.calm = true) (h1 : SGs K mg W X vs es r) (hn : (assignEach es X.env).length = n := by rfl) (hst : (assignEach es X.env).findIdx? (·.1) = none := by rfl) (hK : X.K = K := by rfl) :
    SG K mg W X vs (.Tuple es k pos) (gT n r) := ⟨fun pins s σ H v u Q I rr ⟨m, σm, h, x, R, S, d, q⟩ => (pg_tup hc h1 hn hst).run pins s σ H v u Q I rr (by
  cases x with
  | tup xs =>
    obtain ⟨a, ws, rfl, s1, r1⟩ := sqt_of d
    have q' : rg K mg (DS K mg vs σ) W σ m H (if xs.length = n then r xs σm h else .stuck) Q := q
    by_cases hl : xs.length = n
    · rw [if_pos hl] at q'
      exact ⟨a, ws, rfl, by rw [hK]; exact s1, by rw [← r1.length]; exact hl, m, σm, h, xs, R, S, r1, q'⟩
    · rw [if_neg hl] at q'
      exact q'.elim
  | _ => exact q.elim)⟩
/-! #### for -/
theorem ss_for {t iter : Expr} {body : List Stmt} {I : MI} {G : MG} {sb : MSt} (hp : PassesOwn (model X.prog X.w) X.A X.env X.xe) (hc : X.calm = true) (hi : SI K mg W X t iter I) (hg : SG K mg W X vs t G) (hb : SSs K mg W X body sb)
    (hs : ∀ x, foldedSetIterable iter X.env x = pure x := by intro _; rfl) : SS K mg W X (.For t iter body [] pos) (sFor I G sb) := (ps_for hp hc hi hg hb hs).imp fun D σ H ⟨m, σm, h, R, S, q⟩ => by
  refine ⟨m, σm, h, R, S, rs.part S q fun w h1 J m1 H1 e1 R1 wk q1 => ?_⟩
  refine ⟨fun i k σ' H' => ∃ m' σm' h', Ext m1 H1 m' H' ∧ Rep K mg m' H' h' ∧ SRel K mg m' H' σm' σ' ∧ i ≤ w.items.length ∧ k = w.items.length - i ∧ rs K mg W D m' H' (sForL w.still G sb (w.items.drop i) σm' h'), ⟨_, m1, σm, h1, Ext.refl, R1, S.mono e1.gro, Nat.zero_le _, rfl, rs.ext e1 R1 q1⟩, ?_⟩
  rintro i k σ' H' ⟨m', σm', h', e', R', S', hi', rfl, q'⟩
  by_cases hlt : i < w.items.length
  · rw [List.drop_eq_getElem_cons hlt] at q'
    unfold sForL at q'
    by_cases hst : w.still h' = true
    · rw [if_pos hst] at q'
      refine .inr ⟨wk.goes i H' m' h' hlt R' e' hst, fun σ2 H2 => ∃ m2 σm2 h2, Ext m1 H1 m2 H2 ∧ Rep K mg m2 H2 h2 ∧ SRel K mg m2 H2 σm2 σ2 ∧ i + 1 ≤ w.items.length ∧ w.items.length - (i + 1) = w.items.length - (i + 1) ∧ rs K mg W D m2 H2 (sForL w.still G sb (w.items.drop (i + 1)) σm2 h2), fun σ2 H2 z => ⟨_, by omega, z⟩, fun x H'' y => ?_⟩
      obtain ⟨z, hz, e2, R2, d2⟩ := wk.yields i H' x H'' m' h' hlt R' e' hst y
      rw [List.getElem?_eq_getElem hlt] at hz
      cases hz
      refine ⟨m', σm', h', _, R2, S'.mono e2.gro, d2, rs.part (S'.mono e2.gro) (rs.ext e2 R2 q') fun σ1 h2 s1 m2 H2 e3 R3 d3 q3 => ?_⟩
      refine ⟨m2, σ1, h2, R3, d3.1, ?_⟩
      have q4 := rs.ext e3 R3 q3
      have e4 := (e'.trans e2).trans e3
      cases es : sb σ1 h2 with
      | next σ2 h3 => rw [es] at q4; exact fun s2 m3 H3 e5 R5 S5 => ⟨m3, σ2, h3, e4.trans e5, R5, S5, hlt, rfl, rs.ext e5 R5 q4⟩
      | cont σ2 h3 => rw [es] at q4; exact fun s2 m3 H3 e5 R5 S5 => ⟨m3, σ2, h3, e4.trans e5, R5, S5, hlt, rfl, rs.ext e5 R5 q4⟩
      | brk σ2 h3 => rw [es] at q4; exact q4
      | ret v h3 => rw [es] at q4; exact q4
      | exc x σ2 h3 => rw [es] at q4; exact q4
      | stuck => rw [es] at q4; exact q4
    · rw [if_neg hst] at q'
      exact q'.elim
  · have hi2 : i = w.items.length := by omega
    subst hi2
    rw [List.drop_length] at q'
    unfold sForL at q'
    by_cases hst : w.still h' = true
    · rw [if_pos hst] at q'
      exact .inl ⟨wk.stops H' m' h' R' e' hst, q' σ' m' H' Ext.refl R' S'⟩
    · rw [if_neg hst] at q'
      exact q'.elim
/-! #### comprehensions -/
theorem rg.bn {α β γ δ : Type} {D : Hp → List Addr → Hp → α → β → Prop} {D' : Hp → List Addr → Hp → γ → δ → Prop} {W' : WX} {σ' : L2.St} {m' : List Addr} {H' : Hp} {r : Res α} {f : α → MH → Res γ} {Q : δ → Hp → Prop} {Q' : β → Hp → Prop} (q : rg K mg D' W σ m H (r.bn f) Q)
    (k : ∀ a h1 b m1 H1, Ext m' H' m1 H1 → Rep K mg m1 H1 h1 → D H' m1 H1 a b → rg K mg D' W σ m H (f a h1) Q → Q' b H1) : rg K mg D W' σ' m' H' r Q' := by
  cases r with
  | ok a h' => exact fun b m' H' e' R' d => k a h' b m' H' e' R' d q
  | exc x h' => exact q.elim
  | stuck => exact q.elim
theorem eSet_ns {A : ME} {σm : MS} {x : MV} (e : eSet A σm h = .ok x h1) : ∀ xs, x ≠ .tmp xs := fun xs z => by
  unfold eSet at e
  cases e1 : A σm h with
  | ok v h2 =>
    rw [e1, Res.ok_bind] at e
    cases v <;> (cases e; cases z)
  | exc x h1 => rw [e1] at e; cases e
  | stuck => rw [e1] at e; cases e
theorem wipe_rel {σ : L2.St} {σm : MS} (S : SRel K mg m H σm σ) : ∀ vs : List Nat, SRel K mg m H (wipeM σm vs) (wipe σ vs)
  | [] => S
  | v :: vs => by
    have ih := wipe_rel S vs
    refine ⟨by simp [wipeM, wipe, ih.len], fun i x e => ?_⟩
    have e' : ((wipeM σm vs).set v none)[i]? = some (some x) := e
    by_cases hv : v = i
    · subst hv
      rw [List.getElem?_set] at e'
      simp only [if_true] at e'
      split at e' <;> cases e'
    · rw [List.getElem?_set_ne hv] at e'
      obtain ⟨v', h1, h2⟩ := ih.at_ i x e'
      exact ⟨v', by show ((wipe σ vs).set v none)[i]? = _; rw [List.getElem?_set_ne hv]; exact h1, h2⟩
theorem wipe_get {σ : L2.St} {j : Nat} : ∀ {vs : List Nat}, (wipe σ vs)[j]? = if j < σ.length then (if j ∈ vs then some none else σ[j]?) else none
  | [] => by
    unfold wipe
    by_cases hj : j < σ.length
    · rw [if_pos hj]; simp
    · rw [if_neg hj]; exact List.getElem?_eq_none (by omega)
  | v :: vs => by
    show ((wipe σ vs).set v none)[j]? = _
    rw [List.getElem?_set]
    have ih := wipe_get (σ := σ) (j := j) (vs := vs)
    have hl := wipe_length σ vs
    by_cases hj : j < σ.length
    · rw [if_pos hj] at ih ⊢
      by_cases hv : v = j
      · subst hv
        simp [hl, hj]
      · rw [if_neg hv, ih]
        by_cases hm : j ∈ vs
        · simp [hm]
        · simp [hm, Ne.symm hv]
    · rw [if_neg hj] at ih ⊢
      by_cases hv : v = j
      · subst hv
        simp [hl, hj]
      · rw [if_neg hv]
        exact ih
theorem wipe_upto {σ s : L2.St} (u : Upto vs (wipe σ vs) s) : wipe s vs = wipe σ vs := by
  apply List.ext_getElem?
  intro j
  have hl := wipe_length σ vs
  rw [wipe_get, wipe_get, u.1, hl]
  by_cases hj : j < σ.length
  · rw [if_pos hj, if_pos hj]
    by_cases hm : j ∈ vs
    · rw [if_pos hm, if_pos hm]
    · rw [if_neg hm, if_neg hm, u.2 j hm, wipe_get, if_pos hj, if_neg hm]
  · rw [if_neg hj, if_neg hj]
abbrev W0 : WX := fun _ _ _ _ => False
abbrev SPTs (K : PySem.W.Frag) (mg : Str → Option Value) (W : WX) (X : Cx) (ifs : List Expr) (T : MT) : Prop := PTs X ifs (tg K mg DB W T)
theorem spts_nil : SPTs K mg W X [] tYesM := ⟨fun pins s σ H Q I ⟨m, σm, h, R, S, q⟩ => pts_nil.run pins s σ H Q I (q true m H Ext.refl R rfl)⟩
theorem spts_one {c : Expr} {T : MT} (h : STt K mg W X c T) : SPTs K mg W X [c] T := pts_one h
theorem Ext.upd_free (e : Ext m H m1 H1) {D : Addr} {o : HO} (n : H D = none) : Ext m H m1 (upd H1 D o) := ⟨e.pre, fun a u h na => by rw [upd_ne (ne_of_none h n)]; exact e.keep a u h na, e.new⟩
theorem gro_lst {D : Addr} {acc : List V} {o : HO} (hD : H D = some (.lst acc)) : Gro m H m (upd H D o) := ⟨⟨[], by simp⟩, fun a u h hl na => by
  rw [upd_ne (fun z => by rw [z, hD] at h; cases h; exact hl _ rfl)]
  exact h, fun _ _ _ _ n => n⟩
theorem Rep.lst (R : Rep K mg m H h) {D : Addr} {acc : List V} {o : HO} (hD : H D = some (.lst acc)) (nD : D ∉ m) : Rep K mg m (upd H D o) h :=
  ⟨R.len, R.nd, fun i u b e d => (R.ob i u b e d).mono (gro_lst hD) (upd_ne (fun z => nD (by rw [← z]; exact List.mem_of_getElem? d)))⟩
theorem tg_lc {I : MI} {G : MG} {T : MT} {A : ME} {Q : VK} {σ : L2.St} (t : tg K mg (DV K mg) W (eComp I G T A vs) σ H Q) : tLc (tgI K mg W I) (tgG K mg W0 vs G) (tg K mg DB W0 T) (tg K mg (DV K mg) W0 A) vs σ H Q := by
  obtain ⟨m, σm, h, R, S, q⟩ := t
  refine ⟨m, σm, h, R, S, rg.bind q fun w h1 J m1 H1 e1 R1 wk q1 => ?_⟩
  intro D nD
  have nD0 : H D = none := e1.none_of R1 nD
  refine ⟨fun i k H' => ∃ m' h' accm acc, Ext m1 H1 m' H' ∧ Rep K mg m' H' h' ∧ H' D = some (.lst acc) ∧ D ∉ m' ∧ DvAll K mg m' H' accm acc ∧ i ≤ w.items.length ∧ k = w.items.length - i ∧ rg K mg (DV K mg) W σ m H (compL w.still G T A (wipeM σm vs) (w.items.drop i) accm h') Q,
    ⟨_, m1, h1, [], [], Ext.upd_new nD, R1.lay nD, upd_same, R1.out nD, .nil, Nat.zero_le _, rfl, q1⟩, ?_⟩
  rintro i k H' ⟨m', h', accm, acc, e', R', hD, nDm, dA, hi', rfl, q'⟩
  have eH : Ext m H m' H' := e1.trans e'
  by_cases hlt : i < w.items.length
  · rw [List.drop_eq_getElem_cons hlt] at q'
    unfold compL at q'
    by_cases hst : w.still h' = true
    · rw [if_pos hst] at q'
      refine .inr ⟨wk.goes i H' m' h' hlt R' e' hst, fun H2 => ∃ m2 h2 accm acc, Ext m1 H1 m2 H2 ∧ Rep K mg m2 H2 h2 ∧ H2 D = some (.lst acc) ∧ D ∉ m2 ∧ DvAll K mg m2 H2 accm acc ∧ i + 1 ≤ w.items.length ∧ w.items.length - (i + 1) = w.items.length - (i + 1) ∧ rg K mg (DV K mg) W σ m H (compL w.still G T A (wipeM σm vs) (w.items.drop (i + 1)) accm h2) Q, fun H2 z => ⟨_, by omega, z⟩, fun x H'' y => ?_⟩
      obtain ⟨z, hz, e2, R2, d2⟩ := wk.yields i H' x H'' m' h' hlt R' e' hst y
      rw [List.getElem?_eq_getElem hlt] at hz
      cases hz
      have S2 := wipe_rel (S.mono (eH.trans e2).gro) vs
      refine ⟨m', wipeM σm vs, h', _, R2, S2, d2, rg.bn q' fun σ1 h2 s1 m2 H2 e3 R3 d3 q3 => ?_⟩
      obtain ⟨S3, U3⟩ := d3
      refine ⟨wipe_upto U3, m2, σ1, h2, R3, S3, rg.bn q3 fun b h3 b' m3 H3 e4 R4 d4 q4 => ?_⟩
      cases (show b = b' from d4)
      have e14 := ((e'.trans e2).trans e3).trans e4
      have e24 := (e2.trans e3).trans e4
      have hD4 := e24.keep _ _ hD nDm
      have nD4 := e24.out hD nDm
      cases b with
      | false =>
        rw [if_neg Bool.false_ne_true]
        simp only [Bool.false_eq_true, if_false] at q4
        exact ⟨m3, h3, accm, acc, e14, R4, hD4, nD4, dA.mono e24.gro, hlt, rfl, q4⟩
      | true =>
        rw [if_pos rfl]
        simp only [if_true] at q4
        by_cases hsz : accm.length < sizeLine
        · rw [if_pos hsz] at q4
          have hS : ∀ {Q' : VK}, rg K mg (DV K mg) W0 s1 m3 H3 (eSet A σ1 h3) Q' → tg K mg (DV K mg) W0 A s1 H3 Q' := fun {Q'} qq => by
            refine ⟨m3, σ1, h3, R4, S3.mono e4.gro, ?_⟩
            unfold eSet at qq
            cases e : A σ1 h3 with
            | ok v h1 =>
              rw [e] at qq
              exact fun v' m1 H1 e1 R1 d1 => rg.settle (D := DV K mg) (fun d => .v d) e1 R1 d1 qq
            | exc x h1 => rw [e] at qq; exact qq
            | stuck => rw [e] at qq; exact qq
          refine hS ?_
          cases ev : eSet A σ1 h3 with
          | ok v h4 =>
            rw [ev] at q4
            intro v' m4 H4 e5 R5 d5
            have d5' := d5.dv (eSet_ns ev)
            have hD5 := e5.keep _ _ hD4 nD4
            have nD5 := e5.out hD4 nD4
            have g5 : Gro m4 H4 m4 (upd H4 D (.lst (acc ++ [v']))) := gro_lst hD5
            refine ⟨acc, hD5, by rw [← dA.length]; exact hsz, m4, h4, accm ++ [v], acc ++ [v'], (e14.trans e5).upd_free nD, R5.lst hD5 nD5, upd_same, nD5, ?_, hlt, rfl, q4⟩
            exact (((dA.mono e24.gro).mono e5.gro).append (.cons d5' .nil)).mono g5
          | exc x h4 => rw [ev] at q4; exact q4.elim
          | stuck => rw [ev] at q4; exact q4.elim
        · rw [if_neg hsz] at q4
          exact q4.elim
    · rw [if_neg hst] at q'
      exact q'.elim
  · have hi2 : i = w.items.length := by omega
    subst hi2
    rw [List.drop_length] at q'
    unfold compL at q'
    by_cases hst : w.still h' = true
    · rw [if_pos hst] at q'
      exact .inl ⟨wk.stops H' m' h' R' e' hst, q' (.ref D) m' H' eH R' (.tmp hD nDm nD0 dA)⟩
    · rw [if_neg hst] at q'
      exact q'.elim
theorem se_lc {elt t iter : Expr} {ifs : List Expr} {scope : Scope} {own : List (Str × Nat)} {I : MI} {G : MG} {T : MT} {A : ME} (hc : X.calm = true) (hN : X.N.Nodup) (hi : SI K mg W X t iter I) (ok : BlkOk X.N X.env.scope scope own)
    (hg : ∀ (s : Shared) (H : Hp) (C : Addr) (cl : List (Str × Addr)) (fp : List Addr), SG K mg W0 (X.blk s H scope (compEnvC scope cl C X.env) fp) (own.map (·.2)) t G) (ht : ∀ (s : Shared) (H : Hp) (C : Addr) (cl : List (Str × Addr)) (fp : List Addr), SPTs K mg W0 (X.blk s H scope (compEnvC scope cl C X.env) fp) ifs T)
    (he : ∀ (s : Shared) (H : Hp) (C : Addr) (cl : List (Str × Addr)) (fp : List Addr), SE K mg W0 (X.blk s H scope (compEnvC scope cl C X.env) fp) elt A) (hs : ∀ x, foldedSetIterable iter X.env x = pure x := by intro _; rfl) :
    SE K mg W X (.ListComp elt [⟨t, iter, ifs, 0⟩] scope pos) (eComp I G T A (own.map (·.2))) := (pe_lc hc hN hi ok hg ht he hs).imp fun _ _ _ => tg_lc
theorem ss_setLc {i : Nat} {y : Str} {py spos : Pos} {elt t iter : Expr} {ifs : List Expr} {scope : Scope} {own : List (Str × Nat)} {I : MI} {G : MG} {T : MT} {A : ME} (hc : X.calm = true) (hN : X.N.Nodup) (hy : X.N[i]? = some y) (hyl : X.env.scope.names.lookup y = some .local)
    (hsw : swapsWith (.ListComp elt [⟨t, iter, ifs, 0⟩] scope pos) (some (.Name y py)) spos.line X.env = pure true) (hi : SI K mg W X t iter I) (ok : BlkOk X.N X.env.scope scope own)
    (hg : ∀ (s : Shared) (H : Hp) (C : Addr) (cl : List (Str × Addr)) (fp : List Addr), SG K mg W0 (X.blk s H scope (compEnvC scope cl C X.env) fp) (own.map (·.2)) t G) (ht : ∀ (s : Shared) (H : Hp) (C : Addr) (cl : List (Str × Addr)) (fp : List Addr), SPTs K mg W0 (X.blk s H scope (compEnvC scope cl C X.env) fp) ifs T)
    (he : ∀ (s : Shared) (H : Hp) (C : Addr) (cl : List (Str × Addr)) (fp : List Addr), SE K mg W0 (X.blk s H scope (compEnvC scope cl C X.env) fp) elt A) (hs : ∀ x, foldedSetIterable iter X.env x = pure x := by intro _; rfl) :
    SS K mg W X (.Assign [.Name y py] (.ListComp elt [⟨t, iter, ifs, 0⟩] scope pos) spos) (sAsg i (eComp I G T A (own.map (·.2)))) := (ps_setLc hc hN hy hyl hsw hi ok hg ht he hs).imp fun D σ H ⟨m, σm, h, R, S, q⟩ => by
  refine tg_lc ⟨m, σm, h, R, S, rs.part S q fun x h1 x' m1 H1 e1 R1 d1 q1 => ?_⟩
  refine rs.settled e1 R1 d1 S q1 fun y h2 m2 e2 R2 g d2 q2 => ?_
  exact q2 _ m2 H1 e2 R2 ((S.mono e2.gro).set d2)
end
end Mi

set_option maxHeartbeats 400000
/-! ### what is walked; fields; stores -/
namespace Mi
open PySem PySem.Spec PyProof.Rows L2
def upInts (lo : Int) (n : Nat) : List MV := (List.range n).map fun (i : Nat) => .int (lo + (i : Int))
noncomputable def iR1 (A : MA) : MI := fun σ h => (A σ h).bind fun vs h1 => match vs with
  | [.int j] => @ite _ (-(2 ^ 62) ≤ j ∧ j < 2 ^ 62) (Classical.propDecidable _) (.ok ⟨upInts 0 j.toNat, fun _ => true⟩ h1) .stuck
  | _ => .stuck
noncomputable def iR2 (A : MA) : MI := fun σ h => (A σ h).bind fun vs h1 => match vs with
  | [.int i, .int j] => @ite _ (-(2 ^ 62) ≤ i ∧ i < 2 ^ 62 ∧ -(2 ^ 62) ≤ j ∧ j < 2 ^ 62) (Classical.propDecidable _) (.ok ⟨upInts i (j - i).toNat, fun _ => true⟩ h1) .stuck
  | _ => .stuck
open Classical in
/-- what must stand still while the value's items are walked -/
noncomputable def stillL (v : MV) (xs : List MV) : MH → Bool := match v with
  | .ref n => fun h => decide (h[n]? = some (.lst xs))
  | _ => fun _ => true
def signs (z : Str) : List MV := z.cps.toList.map fun c => .str ⟨#[c]⟩
noncomputable def iSeq (A : ME) : MI := fun σ h => (A σ h).bind fun v h1 => match v with
  | .str z => .ok ⟨signs z, fun _ => true⟩ h1
  | .tup xs => .ok ⟨xs, fun _ => true⟩ h1
  | v => match asL h1 v with
    | some xs => .ok ⟨xs, stillL v xs⟩ h1
    | none => .stuck
def enumL (k : Nat) : List MV → List MV
  | [] => []
  | x :: xs => .tup [.int k, x] :: enumL (k + 1) xs
noncomputable def iEnm (A : ME) : MI := fun σ h => (A σ h).bind fun v h1 => match v with
  | .str z => .ok ⟨enumL 0 (signs z), fun _ => true⟩ h1
  | v => match asL h1 v with
    | some xs => .ok ⟨enumL 0 xs, stillL v xs⟩ h1
    | none => .stuck
def eFld (c f : Str) (A : ME) : ME := fun σ h => (A σ h).bind fun x h1 => match x with
  | .ref n => match h1[n]? with
    | some (.ins c' fs) => if c' = c then (match fs.lookup f with
      | some v => .ok v h1
      | none => .stuck) else .stuck
    | _ => .stuck
  | _ => .stuck
def putFld (c f : Str) (x v : MV) (h : MH) : Option MH := match x with
  | .ref n => match h[n]? with
    | some (.ins c' fs) => if c' = c ∧ fs.length < 1000 then some (h.set n (.ins c (putM f v fs))) else none
    | _ => none
  | _ => none
def sFldM (c f : Str) (A V : ME) : MSt := fun σ h => (eSet V σ h).st σ fun v h1 => (A σ h1).st σ fun x h2 => match putFld c f x v h2 with
  | some h3 => .next σ h3
  | none => .stuck
def sFldAugM (c f : Str) (op : MV → MV → MH → Res MV) (A V : ME) : MSt := fun σ h => (A σ h).st σ fun x h1 => match x with
  | .ref n => (match h1[n]? with
    | some (.ins c' fs) => if c' = c then (match fs.lookup f with
      | some w => (V σ h1).st σ fun y h2 => (op w y h2).st σ fun z h3 => match z with
        | .tmp _ => .stuck
        | z => (match putFld c f (.ref n) z h3 with
          | some h4 => .next σ h4
          | none => .stuck)
      | none => .stuck) else .stuck
    | _ => .stuck)
  | _ => .stuck
/-- n += k of whole numbers -/
def addI (x y : MV) (h : MH) : Res MV := match x, y with
  | .int i, .int j => .ok (.int (i + j)) h
  | _, _ => .stuck
/-- o[i] = v -/
def setM (o i v : MV) (h : MH) : Option MH := match o, i with
  | .ref n, .int k => match h[n]? with
    | some (.lst xs) => (match ixN xs.length k with
      | some j => some (h.set n (.lst (xs.set j v)))
      | none => none)
    | _ => none
  | _, _ => none
def sSub (O I V : ME) : MSt := fun σ h => (eSet V σ h).st σ fun v h1 => (O σ h1).st σ fun o h2 => (I σ h2).st σ fun i h3 => match setM o i v h3 with
  | some h4 => .next σ h4
  | none => .stuck
def appM (x : MV) (xs : List MV) (h : MH) : Res MV := match x, xs with
  | .ref n, [v] => match h[n]? with
    | some (.lst ys) => if ys.length < sizeLine then .ok .non (h.set n (.lst (ys ++ [v]))) else .stuck
    | _ => .stuck
  | _, _ => .stuck
/-- a method of a list -/
def eLM (f : MV → List MV → MH → Res MV) (A : ME) (AL : MA) : ME := fun σ h => (eSet A σ h).bind fun x h1 => match asL h1 x with
  | some _ => (AL σ h1).bind fun xs h2 => f x xs h2
  | none => .stuck
section
variable {K : PySem.W.Frag} {mg : Str → Option Value} {X : Cx} {W : WX} {m m1 : List Addr} {H H0 H1 : Hp} {h h1 : MH} {σ : L2.St} {σm : MS} {D : Ends} {pos : Pos} {vs : List Nat} {e t : Expr} {A B V' : ME}
theorem upInts_get {lo : Int} {n i : Nat} (hi : i < n) : (upInts lo n)[i]? = some (.int (lo + (i : Int))) := by simp [upInts, hi]
theorem upInts_len {lo : Int} {n : Nat} : (upInts lo n).length = n := by simp [upInts]
theorem wk_range {lo : Int} {n : Nat} : WkM K mg (Itr lo n) ⟨upInts lo n, fun _ => true⟩ m H where
  goes := fun i _ _ _ hi _ _ _ => by rw [upInts_len] at hi; exact hi
  stops := fun _ _ _ _ _ _ => by show n ≤ _; rw [upInts_len]; exact Nat.le_refl _
  yields := fun i H x H' mm h hi R _ _ y => by
    rw [upInts_len] at hi
    obtain ⟨rfl, rfl⟩ := y
    exact ⟨_, upInts_get hi, Ext.refl, R, .int _⟩
theorem si_range1 {p : Pos} {AL : MA} (hm : mg "range" = none) (hg : Gl X "range") (ha : SA K mg W X [e] AL) (hM : X.mg = mg := by rfl) (hs : starEach [e] X.env = [(false, eval e X.env)] := by rfl) : SI K mg W X t (.Call (.Name "range" p) [e] [] pos) (iR1 AL) :=
  ⟨fun pins s σ H R I ⟨m, σm, h, Rp, S, q⟩ => (pi_range1 hg (by rw [hM]; exact hm) ha hs).run pins s σ H R I (by
    refine ⟨m, σm, h, Rp, S, rg.bind q fun xs h1 vs m1 H1 e1 R1 d1 q1 => ?_⟩
    split at q1
    · split at q1
      · rename_i hb
        cases d1 with | cons a d => cases d; cases a; exact ⟨_, rfl, hb.1, hb.2, q1 _ m1 H1 e1 R1 wk_range⟩
      · exact q1.elim
    · exact q1.elim)⟩
theorem si_range2 {p : Pos} {AL : MA} {e2 : Expr} (hm : mg "range" = none) (hg : Gl X "range") (ha : SA K mg W X [e, e2] AL) (hM : X.mg = mg := by rfl) (hs : starEach [e, e2] X.env = [(false, eval e X.env), (false, eval e2 X.env)] := by rfl) (hs2 : starEach [e2] X.env = [(false, eval e2 X.env)] := by rfl) : SI K mg W X t (.Call (.Name "range" p) [e, e2] [] pos) (iR2 AL) :=
  ⟨fun pins s σ H R I ⟨m, σm, h, Rp, S, q⟩ => (pi_range2 hg (by rw [hM]; exact hm) ha hs hs2).run pins s σ H R I (by
    refine ⟨m, σm, h, Rp, S, rg.bind q fun xs h1 vs m1 H1 e1 R1 d1 q1 => ?_⟩
    split at q1
    · split at q1
      · rename_i hb
        cases d1 with | cons a d => cases d with | cons b d => cases d; cases a; cases b; exact ⟨_, _, rfl, hb, q1 _ m1 H1 e1 R1 wk_range⟩
      · exact q1.elim
    · exact q1.elim)⟩
/-- while it stands still, the list stands -/
theorem still_sql {v : MV} {xs : List MV} {a : Addr} {mm : List Addr} {H2 : Hp} {h2 : MH} (d : Dt K mg H0 m1 H1 v (.ref a)) (el : asL h1 v = some xs) (R : Rep K mg mm H2 h2) (e : Ext m1 H1 mm H2) (st : stillL v xs h2 = true) : ∃ ws, SqL K H2 a ws ∧ DvAll K mg mm H2 xs ws := by
  have d2 := d.mono e
  cases v with
  | ref n =>
    have el2 : asL h2 (.ref n) = some xs := by
      have z : h2[n]? = some (.lst xs) := by simpa [stillL] using st
      unfold asL
      dsimp only
      rw [z]
    obtain ⟨b, ws, e1, s1, r1⟩ := d2.asL R el2
    cases e1
    exact ⟨ws, s1, r1⟩
  | tmp ys =>
    obtain ⟨b, ws, e1, s1, r1⟩ := d2.asL R (xs := xs) el
    cases e1
    exact ⟨ws, s1, r1⟩
  | con ys =>
    obtain ⟨b, ws, e1, s1, r1⟩ := d2.asL R (xs := xs) el
    cases e1
    exact ⟨ws, s1, r1⟩
  | _ => cases el
theorem wk_list {v : MV} {xs : List MV} {a : Addr} (d : Dt K mg H0 m1 H1 v (.ref a)) (el : asL h1 v = some xs) : WkM K mg (Itl K a) ⟨xs, stillL v xs⟩ m1 H1 where
  goes := fun i H mm h hi R e st => by
    obtain ⟨ws, s1, r1⟩ := still_sql d el R e st
    have hi' : i < ws.length := by rw [← r1.length]; exact hi
    exact ⟨ws, ws[i], s1, by simp [hi']⟩
  stops := fun H mm h R e st => by
    obtain ⟨ws, s1, r1⟩ := still_sql d el R e st
    exact ⟨ws, s1, by rw [← r1.length]; exact Nat.le_refl _⟩
  yields := fun i H x H' mm h hi R e st y => by
    obtain ⟨ws, s1, r1⟩ := still_sql d el R e st
    obtain ⟨rfl, y⟩ := y
    have hi' : i < xs.length := hi
    obtain ⟨w, h1, h2⟩ := r1.get (List.getElem?_eq_getElem hi')
    have := y ws s1
    rw [h1] at this
    cases this
    exact ⟨_, List.getElem?_eq_getElem hi', Ext.refl, R, h2⟩
theorem Dv.sqt {xs : List MV} {a : Addr} (d : Dv K mg m H (.tup xs) (.ref a)) : ∃ ws, SqT K H a ws ∧ DvAll K mg m H xs ws := by
  obtain ⟨b, ws, e, s, r⟩ := sqt_of d
  cases e
  exact ⟨ws, s, r⟩
theorem wk_tup {xs : List MV} {a : Addr} (d : Dv K mg m1 H1 (.tup xs) (.ref a)) : WkM K mg (Itt K a) ⟨xs, fun _ => true⟩ m1 H1 where
  goes := fun i H mm h hi R e st => by
    obtain ⟨ws, s1, r1⟩ := (d.mono e.gro).sqt
    have hi' : i < ws.length := by rw [← r1.length]; exact hi
    exact ⟨ws, ws[i], s1, by simp [hi']⟩
  stops := fun H mm h R e st => by
    obtain ⟨ws, s1, r1⟩ := (d.mono e.gro).sqt
    exact ⟨ws, s1, by rw [← r1.length]; exact Nat.le_refl _⟩
  yields := fun i H x H' mm h hi R e st y => by
    obtain ⟨ws, s1, r1⟩ := (d.mono e.gro).sqt
    obtain ⟨rfl, y⟩ := y
    have hi' : i < xs.length := hi
    obtain ⟨w, h1, h2⟩ := r1.get (List.getElem?_eq_getElem hi')
    have := y ws s1
    rw [h1] at this
    cases this
    exact ⟨_, List.getElem?_eq_getElem hi', Ext.refl, R, h2⟩
theorem signs_len {z : Str} : (signs z).length = z.cps.size := by simp [signs]
theorem signs_get {z : Str} {i c : Nat} (e : z.cps[i]? = some c) : (signs z)[i]? = some (.str ⟨#[c]⟩) := by
  unfold signs
  rw [List.getElem?_map, Array.getElem?_toList, e]
  rfl
theorem wk_str {z : Str} : WkM K mg (Its z) ⟨signs z, fun _ => true⟩ m H where
  goes := fun i _ _ _ hi _ _ _ => by rw [signs_len] at hi; exact hi
  stops := fun _ _ _ _ _ _ => by show z.cps.size ≤ _; rw [signs_len]; exact Nat.le_refl _
  yields := fun i H x H' mm h hi R _ _ y => by
    obtain ⟨rfl, c, hc, rfl⟩ := y
    exact ⟨_, signs_get hc, Ext.refl, R, .str _⟩
theorem si_seq (ha : SE K mg W X e A) (hK : X.K = K := by rfl) : SI K mg W X t e (iSeq A) := ⟨fun pins s σ H Rr I ⟨m, σm, h, R, S, q⟩ => by
  have q : rg K mg (DI K mg) W σ m H (iSeq A σm h) Rr := q
  unfold iSeq at q
  cases ev : A σm h with
  | stuck => rw [ev] at q; exact q.elim
  | exc x h1 => rw [ev] at q; exact (pi_list ha).run pins s σ H Rr I ⟨m, σm, h, R, S, by rw [ev]; exact q⟩
  | ok v h1 =>
    rw [ev, Res.ok_bind] at q
    have lst : ∀ {xs}, asL h1 v = some xs → rg K mg (DI K mg) W σ m H (.ok ⟨xs, stillL v xs⟩ h1) Rr → wpAny (model X.prog X.w) X.A (eval e X.env) (fun v s1 => wpAny (model X.prog X.w) X.A (pyIter v) (PIE X pins σ t Rr) X.xe s1) X.xe s := fun {xs} el q => by
      refine (pi_list ha).run pins s σ H Rr I ⟨m, σm, h, R, S, ?_⟩
      rw [ev]
      intro v' m1 H1 e1 R1 d1
      obtain ⟨a, ws, rfl, s1, r1⟩ := d1.asL R1 el
      subst hK
      exact ⟨a, rfl, ⟨ws, s1⟩, q _ m1 H1 e1 R1 (wk_list d1 el)⟩
    cases v with
    | str z =>
      refine (pi_str ha).run pins s σ H Rr I ⟨m, σm, h, R, S, ?_⟩
      rw [ev]
      intro v' m1 H1 e1 R1 d1
      cases d1.dv (fun _ => MV.noConfusion)
      exact ⟨z, rfl, q _ m1 H1 e1 R1 wk_str⟩
    | tup xs =>
      refine (pi_tup ha).run pins s σ H Rr I ⟨m, σm, h, R, S, ?_⟩
      rw [ev]
      intro v' m1 H1 e1 R1 d1
      obtain ⟨a, ws, rfl, s1, r1⟩ := d1.tup
      subst hK
      exact ⟨a, rfl, ⟨ws, s1⟩, q _ m1 H1 e1 R1 (wk_tup (d1.dv (fun _ => MV.noConfusion)))⟩
    | tmp xs => exact lst rfl q
    | con xs => exact lst rfl q
    | ref n =>
      cases el : asL h1 (.ref n) with
      | none => dsimp only at q; rw [el] at q; exact q.elim
      | some xs => dsimp only at q; rw [el] at q; exact lst el q
    | _ => exact q.elim⟩
theorem enumL_len {k : Nat} : ∀ {xs : List MV}, (enumL k xs).length = xs.length
  | [] => rfl
  | x :: xs => by simp [enumL, enumL_len (k := k + 1) (xs := xs)]
theorem enumL_get : ∀ {xs : List MV} {k i : Nat} {x : MV}, xs[i]? = some x → (enumL k xs)[i]? = some (.tup [.int ((k + i : Nat) : Int), x])
  | [], _, _, _, e => by simp at e
  | y :: ys, k, 0, x, e => by
    have : y = x := by simpa using e
    subst this
    simp [enumL]
  | y :: ys, k, i + 1, x, e => by
    have h : ys[i]? = some x := by simpa using e
    have ih := enumL_get (k := k + 1) h
    show (enumL (k + 1) ys)[i]? = _
    rw [ih, show k + 1 + i = k + (i + 1) by omega]
theorem wk_enum {v : MV} {xs : List MV} {a : Addr} (d : Dt K mg H0 m1 H1 v (.ref a)) (el : asL h1 v = some xs) : WkM K mg (Ite K a) ⟨enumL 0 xs, stillL v xs⟩ m1 H1 where
  goes := fun i H mm h hi R e st => by
    obtain ⟨ws, s1, r1⟩ := still_sql d el R e st
    have hi' : i < ws.length := by rw [← r1.length, ← enumL_len (k := 0)]; exact hi
    exact ⟨ws, ws[i], s1, by simp [hi']⟩
  stops := fun H mm h R e st => by
    obtain ⟨ws, s1, r1⟩ := still_sql d el R e st
    refine ⟨ws, s1, ?_⟩
    show ws.length ≤ (enumL 0 xs).length
    rw [enumL_len, r1.length]
    exact Nat.le_refl _
  yields := fun i H x H' mm h hi R e st y => by
    obtain ⟨ws, s1, r1⟩ := still_sql d el R e st
    obtain ⟨T, z, rfl, nT, rfl, y⟩ := y
    have hi' : i < xs.length := by rw [← enumL_len (k := 0)]; exact hi
    obtain ⟨w, h1, h2⟩ := r1.get (List.getElem?_eq_getElem hi')
    have := y ws s1
    rw [h1] at this
    cases this
    refine ⟨_, enumL_get (List.getElem?_eq_getElem hi'), Ext.upd_new nT, R.lay nT, .tup upd_same (R.out nT) (.cons ?_ (.cons (h2.mono (Ext.upd_new nT).gro) .nil))⟩
    rw [Nat.zero_add]
    exact .int _
end
/-! ### enumerate(text) -/
theorem draws_str {prog : Program} {w : World} {A : Around} (hh : A.handled = none) (it : Addr) (x : Str) (t : Tok) :
    Draws prog w A it [it] x.cps.size (fun i v => ∃ c u, x.cps[i]? = some c ∧ v = .str ⟨#[c]⟩ u) (fun i h => h.IsStrIter it (strIterType x) x t i) := by
  unfold strIterType
  cases x.cps.all (· < 128) with
  | true => exact Draws.strAscii hh it x t
  | false => exact Draws.strWide hh it x t
def ItES (x : Str) : It := ⟨fun i _ => i < x.cps.size, fun i H v H' => ∃ T c, v = .ref T ∧ H T = none ∧ H' = upd H T (.tup [.int (i : Nat), .str ⟨#[c]⟩]) ∧ x.cps[i]? = some c, fun i _ => i = x.cps.size⟩
theorem turn_enumS {P : Program} {w : World} {K : PySem.W.Frag} {elts : List Expr} {kk : Nat} {tpos : Pos} (x : Str) (t : Tok) (e it : Addr) :
    Turn P w K (.Tuple elts kk tpos) (ItES x) [e, it] e (fun i h => (∃ old, IsEnum h e it ((i : Nat) : Int) old) ∧ h.IsStrIter it (strIterType x) x t i ∧ e ≠ it) where
  mem := by simp
  obj := fun i h st b hb => by
    obtain ⟨⟨old, he⟩, ⟨o, ho, hc, hd⟩, _⟩ := st
    have e' : b = e ∨ b = it := by simpa using hb
    rcases e' with z | z
    · rw [z]; exact ⟨_, he, fun v q => nomatch q⟩
    · rw [z]; exact ⟨o, ho, fun v q => by rw [hd] at q; cases q⟩
  keep := fun i h h' st k => let ⟨⟨old, he⟩, ⟨o, ho, hr⟩, hne⟩ := st; ⟨⟨old, k e (by simp) _ he⟩, ⟨o, k it (by simp) _ ho, hr⟩, hne⟩
  item := by
    intro X hP hw hK hc i pins s σ H E I hf st hg
    subst hP hw hK
    obtain ⟨⟨old, he⟩, hit, hne⟩ := st
    have hel : e < s.heap.objs.size := Heap.lt_size he
    have hil : it < s.heap.objs.size := by obtain ⟨_, q, _⟩ := hit; exact Heap.lt_size q
    refine wpAny_pyNext_enum_itemD (draws_str (show X.A.in1.handled = none from I.ok.hd hc) it x t) he hit hg hne (by simp [hne]) fun v h' tk hP ho hit' hT hsz hk => ?_
    obtain ⟨c, u, hcx, rfl⟩ := hP
    refine ⟨_, rfl, wpAny_letOwnedTupleGo_enum (s := { s with heap := h', toks := tk + 1 }) ho fun h'' he' sb => ?_⟩
    have hT2 : h''.get? s.heap.objs.size = some { cls := .type "tuple", data := .seq #[.int i tk, .str ⟨#[c]⟩ u] } := (sb.2 _ (Nat.ne_of_gt hel)).trans hT
    have new : ObjOk X.prog X.w (upd H s.heap.objs.size (.tup [.int (i : Nat), .str ⟨#[c]⟩])) h'' s.heap.objs.size (.tup [.int (i : Nat), .str ⟨#[c]⟩]) :=
      ⟨by show 2 ≤ sizeLine; decide, [.int i tk, .str ⟨#[c]⟩ u], .cons ⟨_, rfl⟩ (.cons ⟨_, rfl⟩ .nil), ⟨_, hT2, rfl, _, rfl⟩⟩
    have I1 : Inv X pins σ (upd H s.heap.objs.size (.tup [.int (i : Nat), .str ⟨#[c]⟩])) { s with heap := h'', toks := tk + 1 } :=
      I.turnedNew (ch := [e, it]) (fun b ob hb q => (sb.2 b (fun z => hb (by simp [z]))).trans (hk b ob (fun z => hb (by simp [z])) (fun z => hb (by simp [z])) q)) hf (Nat.le_refl _) new
    refine ⟨.ref s.heap.objs.size, _, I1, rfl, ⟨_, c, rfl, I.hok.fresh (Nat.le_refl _), rfl, hcx⟩, ⟨⟨.str ⟨#[c]⟩ u, ?_⟩, ?_, hne⟩, fun b hb => ?_⟩
    · have e1 : ((i + 1 : Nat) : Int) = (i : Int) + 1 := by omega
      rw [e1]; exact he'
    · obtain ⟨o, ho', hr⟩ := hit'
      exact ⟨o, (sb.2 it (Ne.symm hne)).trans ho', hr⟩
    · have hb' : b < s.heap.objs.size := by
        have e' : b = e ∨ b = it := by simpa using hb
        rcases e' with z | z
        · rw [z]; exact hel
        · rw [z]; exact hil
      rw [upd_ne (Nat.ne_of_lt hb')]
      exact (hf b hb).1
  done := by
    intro X hP hw hK hc i pins s σ H E I hf st hg
    subst hP hw hK
    obtain ⟨⟨old, he⟩, hit, hne⟩ := st
    have hg' : i = x.cps.size := hg
    subst hg'
    obtain ⟨f0, f1, f2, f3, f4, f5⟩ := hf it (by simp)
    exact wpAny_pyNext_enum_endD (draws_str (show X.A.in1.handled = none from I.ok.hd hc) it x t) he hit fun h' eb => ⟨rfl, I.turned (t' := s.toks) (fun b o hb q => eb b o hb q) f0 f1 f3 f4 f5⟩
  self := fun A i s Q E st h => let ⟨⟨_, he⟩, _⟩ := st; wpAny_pyIter_enum he h
def iEnumS (ta : TA) : TI := fun σ H R => ta σ H fun vs H1 => ∃ x, vs = [.str x] ∧ R (ItES x) H1
theorem pi_enumS {X : Cx} {e : Expr} {ta : TA} {p pos tpos : Pos} {elts : List Expr} {kk : Nat} (hg : Gl X "enumerate") (hm : X.mg "enumerate" = none) (ha : PA X [e] ta) (hs : starEach [e] X.env = [(false, eval e X.env)] := by rfl) :
    PI X (.Tuple elts kk tpos) (.Call (.Name "enumerate" p) [e] [] pos) (iEnumS ta) := by
  refine ⟨fun pins s σ H R I h => ?_⟩
  refine Call_ (ld_blt I hg hm boot_enumerate (PyProof.Rows.callWith_type1 (thn (ha.run pos pins s σ H _ I h) fun us s1 ⟨vs, H1, I1, r1, q1⟩ => ?_) hs rfl))
  obtain ⟨x, ex, q⟩ := q1
  subst ex
  cases r1 with
  | cons r rr =>
    cases rr
    obtain ⟨t, rfl⟩ := r
    refine call_enumerate_str fun h' he hit hsz hk => wpAny_pyIter_enum he ?_
    have I2 : Inv X pins σ H1 { s1 with heap := h' } := I1.kept (t' := s1.toks) hk
    refine ⟨s1.heap.objs.size + 1, [s1.heap.objs.size + 1, s1.heap.objs.size], _, _, H1, rfl, I2, turn_enumS x t (s1.heap.objs.size + 1) s1.heap.objs.size, ⟨⟨.none, he⟩, hit, Nat.succ_ne_self _⟩, fun b hb => ?_, q⟩
    have e' : b = s1.heap.objs.size + 1 ∨ b = s1.heap.objs.size := by simpa using hb
    have hle : s1.heap.objs.size ≤ b := by
      rcases e' with z | z
      · rw [z]; exact Nat.le_add_right _ _
      · rw [z]; exact Nat.le_refl _
    exact I1.fpOk hle (I1.hok.fresh hle)
section
variable {K : PySem.W.Frag} {mg : Str → Option Value} {X : Cx} {W : WX} {m m1 : List Addr} {H H0 H1 : Hp} {h h1 : MH} {σ : L2.St} {σm : MS} {D : Ends} {pos : Pos} {vs : List Nat} {e t : Expr} {A B V' : ME}
theorem wk_enumS {z : Str} : WkM K mg (ItES z) ⟨enumL 0 (signs z), fun _ => true⟩ m H where
  goes := fun i _ _ _ hi _ _ _ => by rw [enumL_len, signs_len] at hi; exact hi
  stops := fun _ _ _ _ _ _ => by show _ = z.cps.size; rw [enumL_len, signs_len]
  yields := fun i H x H' mm h hi R _ _ y => by
    obtain ⟨T, c, rfl, nT, rfl, hc⟩ := y
    refine ⟨_, enumL_get (signs_get hc), Ext.upd_new nT, R.lay nT, .tup upd_same (R.out nT) (.cons ?_ (.cons (.str _) .nil))⟩
    rw [Nat.zero_add]
    exact .int _
theorem si_enum {p tpos : Pos} {elts : List Expr} {kk : Nat} (hm : mg "enumerate" = none) (hg : Gl X "enumerate") (ha : SE K mg W X e A) (hM : X.mg = mg := by rfl) (hs : starEach [e] X.env = [(false, eval e X.env)] := by rfl) (hK : X.K = K := by rfl) :
    SI K mg W X (.Tuple elts kk tpos) (.Call (.Name "enumerate" p) [e] [] pos) (iEnm A) := ⟨fun pins s σ H Rr I ⟨m, σm, h, R, S, q⟩ => by
  have q : rg K mg (DI K mg) W σ m H (iEnm A σm h) Rr := q
  have hm' : X.mg "enumerate" = none := by rw [hM]; exact hm
  unfold iEnm at q
  cases ev : A σm h with
  | stuck => rw [ev] at q; exact q.elim
  | exc x h1 => rw [ev] at q; exact (pi_enum hg hm' (pa_cons ha pa_nil hs) hs).run pins s σ H Rr I ⟨m, σm, h, R, S, by rw [ev]; exact q⟩
  | ok v h1 =>
    rw [ev, Res.ok_bind] at q
    have lst : ∀ {xs}, asL h1 v = some xs → rg K mg (DI K mg) W σ m H (.ok ⟨enumL 0 xs, stillL v xs⟩ h1) Rr → wpAny (model X.prog X.w) X.A (eval (.Call (.Name "enumerate" p) [e] [] pos) X.env) (fun v s1 => wpAny (model X.prog X.w) X.A (pyIter v) (PIE X pins σ (.Tuple elts kk tpos) Rr) X.xe s1) X.xe s := fun {xs} el q => by
      refine (pi_enum hg hm' (pa_cons ha pa_nil hs) hs).run pins s σ H Rr I ⟨m, σm, h, R, S, ?_⟩
      rw [ev]
      intro v' m1 H1 e1 R1 d1
      obtain ⟨a, ws, rfl, s1, r1⟩ := d1.asL R1 el
      subst hK
      exact ⟨a, ws, rfl, s1, q _ m1 H1 e1 R1 (wk_enum d1 el)⟩
    cases v with
    | str z =>
      refine (pi_enumS hg hm' (pa_cons ha pa_nil hs) hs).run pins s σ H Rr I ⟨m, σm, h, R, S, ?_⟩
      rw [ev]
      intro v' m1 H1 e1 R1 d1
      cases d1.dv (fun _ => MV.noConfusion)
      exact ⟨z, rfl, q _ m1 H1 e1 R1 wk_enumS⟩
    | tmp xs => exact lst rfl q
    | con xs => exact lst rfl q
    | ref n =>
      cases el : asL h1 (.ref n) with
      | none => dsimp only at q; rw [el] at q; exact q.elim
      | some xs => dsimp only at q; rw [el] at q; exact lst el q
    | _ => exact q.elim⟩
/-! #### fields -/
/-- f is no attribute of the class c itself -/
def AtF (K : PySem.W.Frag) (mg : Str → Option Value) (c f : Str) : Prop := ∀ C, mg c = some (.ref C) → Cls K C ∧ NoAttr K C f
theorem se_fld {c f : Str} (F : AtF K mg c f) (ha : SE K mg W X e A) (hb : attributeBase e f X.env (eval e X.env) = eval e X.env := by rfl) (hK : X.K = K := by rfl) : SE K mg W X (.Attribute e f pos) (eFld c f A) := (pe_fld ha hb).imp fun σ H Q ⟨m, σm, h, R, S, q⟩ => by
  subst hK
  refine ⟨m, σm, h, R, S, rg.bind q fun x h1 x' m1 H1 e1 R1 d1 q1 => ?_⟩
  cases x with
  | ref n =>
    cases d1.dv (fun _ => MV.noConfusion) with
    | @ref _ a hn =>
      dsimp only at q1
      cases eo : h1[n]? with
      | none => rw [eo] at q1; exact q1.elim
      | some o =>
        rw [eo] at q1
        have ob := R1.at_ eo hn
        cases o with
        | ins c' fs =>
          obtain ⟨C, dx, gs, k1, k2, k3, k4, k5⟩ := ob
          dsimp only at q1
          by_cases hc : c' = c
          · subst hc
            rw [if_pos rfl] at q1
            cases el : fs.lookup f with
            | none => rw [el] at q1; exact q1.elim
            | some v =>
              rw [el] at q1
              obtain ⟨v', l1, l2⟩ := k5.lookup el
              exact ⟨a, C, dx, gs, v', rfl, k1, (F C k2).1, (F C k2).2, l1, q1 v' m1 H1 e1 R1 (.v l2)⟩
          · rw [if_neg hc] at q1
            exact q1.elim
        | _ => exact q1.elim
  | _ => exact q1.elim
theorem DvF.put {f : Str} {x : MV} {v : V} (d : Dv K mg m H x v) : ∀ {fs : List (Str × MV)} {gs : List (Str × V)}, DvF K mg m H fs gs → DvF K mg m H (putM f x fs) (putF f v gs)
  | _, _, .nil => .cons d .nil
  | _, _, .cons (f := g) r t => by
    unfold putM putF
    by_cases hg : g = f
    · rw [if_pos hg, if_pos hg]; exact .cons d t
    · rw [if_neg hg, if_neg hg]; exact .cons r (DvF.put d t)
/-- a field is written -/
theorem put_ok {c f : Str} (F : AtF K mg c f) {x v : MV} {x' v' : V} {h3 : MH} (R : Rep K mg m H h) (dx : Dt K mg H0 m H x x') (dv : Dv K mg m H v v') (e : putFld c f x v h = some h3) : ∃ a C dd gs, x' = .ref a ∧ H a = some (.ins C dd gs) ∧ Cls K C ∧ NoAttr K C f ∧ gs.length < 1000 ∧ Ext m H m (upd H a (.ins C dd (putF f v' gs))) ∧ Rep K mg m (upd H a (.ins C dd (putF f v' gs))) h3 := by
  unfold putFld at e
  cases x with
  | ref n =>
    cases dx.dv (fun _ => MV.noConfusion) with
    | @ref _ a hn =>
      dsimp only at e
      cases eo : h[n]? with
      | none => rw [eo] at e; cases e
      | some o =>
        rw [eo] at e
        have ob := R.at_ eo hn
        cases o with
        | ins c' fs =>
          obtain ⟨C, dx, gs, k1, k2, k3, k4, k5⟩ := ob
          dsimp only at e
          by_cases hc : c' = c ∧ fs.length < 1000
          · rw [if_pos hc] at e
            obtain ⟨hc, hl⟩ := hc
            subst hc
            cases e
            have ha : a ∈ m := List.mem_of_getElem? hn
            have ex : Ext m H m (upd H a (.ins C dx (putF f v' gs))) := Ext.upd_at ha
            refine ⟨a, C, dx, gs, rfl, k1, (F C k2).1, (F C k2).2, by rw [← k5.length]; exact hl, ex, R.write hn ⟨C, dx, _, upd_same, k2, k3, ex.keep _ _ k4 k3, ?_⟩⟩
            exact (k5.put dv).mono ex.gro
          · rw [if_neg hc] at e
            cases e
        | _ => cases e
  | _ => cases e
theorem ss_fld {c f : Str} {o value : Expr} {pos' : Pos} (F : AtF K mg c f) (ha : SE K mg W X o A) (hv : SE K mg W X value V') (hs : swapsWith value (some (.Attribute o f pos')) pos.line X.env = pure false := by rfl) (hK : X.K = K := by rfl) :
    SS K mg W X (.Assign [.Attribute o f pos'] value pos) (sFldM c f A V') := (ps_fld ha (se_set hv) hs).imp fun D σ H ⟨m, σm, h, R, S, q⟩ => by
  subst hK
  refine ⟨m, σm, h, R, S, ?_⟩
  unfold sFldM at q
  cases ev : eSet V' σm h with
  | stuck => rw [ev] at q; exact q.elim
  | exc x h1 => rw [ev] at q; exact fun cls d m' H' e' R' x => q cls d σ m' H' e' R' (S.mono e'.gro) x
  | ok v h1 =>
    rw [ev, Res.ok_st] at q
    intro v' m1 H1 e1 R1 d1
    have d1' := d1.dv (eSet_ns ev)
    refine ⟨m1, σm, h1, R1, S.mono e1.gro, rs.part (S.mono e1.gro) (rs.ext e1 R1 q) fun x h2 x' m2 H2 e2 R2 d2 q2 => ?_⟩
    cases ep : putFld c f x v h2 with
    | none => rw [ep] at q2; exact q2.elim
    | some h3 =>
      rw [ep] at q2
      obtain ⟨a, C, dd, gs, k1, k2, k3, k4, k5, k6, k7⟩ := put_ok F R2 d2 (d1'.mono e2.gro) ep
      exact ⟨a, C, dd, gs, k1, k2, k3, k4, k5, q2 σ m2 _ (e2.trans k6) k7 (((S.mono e1.gro).mono e2.gro).mono k6.gro)⟩
theorem ss_fldAug {c f : Str} {o value : Expr} {tpos : Pos} {op : Operator} {g : MV → MV → MH → Res MV} (F : AtF K mg c f) (ha : SE K mg W X o A) (hv : SE K mg W X value V') (hop : InOp X op (rOp K mg g)) (hK : X.K = K := by rfl) :
    SS K mg W X (.AugAssign (.Attribute o f tpos) op value pos) (sFldAugM c f g A V') := (ps_fldaug ha hv hop).imp fun D σ H ⟨m, σm, h, R, S, q⟩ => by
  subst hK
  refine ⟨m, σm, h, R, S, rs.part S q fun x h1 x' m1 H1 e1 R1 d1 q1 => ?_⟩
  cases x with
  | ref n =>
    cases d1.dv (fun _ => MV.noConfusion) with
    | @ref _ a hn =>
      dsimp only at q1
      cases eo : h1[n]? with
      | none => rw [eo] at q1; exact q1.elim
      | some o =>
        rw [eo] at q1
        have ob := R1.at_ eo hn
        cases o with
        | ins c' fs =>
          obtain ⟨C, dx, gs, k1, k2, k3, k4, k5⟩ := ob
          dsimp only at q1
          by_cases hc : c' = c
          · subst hc
            rw [if_pos rfl] at q1
            cases el : fs.lookup f with
            | none => rw [el] at q1; exact q1.elim
            | some w =>
              rw [el] at q1
              obtain ⟨w', l1, l2⟩ := k5.lookup el
              refine ⟨a, C, dx, gs, w', rfl, k1, (F C k2).1, (F C k2).2, l1, m1, σm, h1, R1, S.mono e1.gro, rs.part (S.mono e1.gro) (rs.ext e1 R1 q1) fun y h2 y' m2 H2 e2 R2 d2 q2 => ?_⟩
              refine ⟨m2, h2, w, y, H, H1, σ, W, R2, .v (l2.mono e2.gro), d2, rs.part ((S.mono e1.gro).mono e2.gro) (rs.ext e2 R2 q2) fun z h3 z' m3 H3 e3 R3 d3 q3 => ?_⟩
              have hn3 : m3[n]? = some a := e3.get (e2.get hn)
              split at q3
              · exact q3.elim
              · rename_i zz hz
                cases ep : putFld c' f (.ref n) z h3 with
                | none => rw [ep] at q3; exact q3.elim
                | some h4 =>
                  rw [ep] at q3
                  obtain ⟨a', C', dd, gs', j1, j2, j3, j4, j5, j6, j7⟩ := put_ok F (x' := .ref a) (H0 := H3) R3 (.v (.ref hn3)) (d3.dv hz) ep
                  cases j1
                  have hcc : C' = C := by
                    have hn3' := hn3
                    obtain ⟨ob3, ho3⟩ : ∃ o, h3[n]? = some o := by
                      have hl : n < h3.length := by rw [← R3.len]; exact (List.getElem?_eq_some_iff.mp hn3).1
                      exact ⟨_, List.getElem?_eq_getElem hl⟩
                    have o3 := R3.at_ ho3 hn3
                    unfold putFld at ep
                    dsimp only at ep
                    rw [ho3] at ep
                    cases ob3 with
                    | ins c3 fs3 =>
                      dsimp only at ep
                      by_cases hc3 : c3 = c' ∧ fs3.length < 1000
                      · obtain ⟨C3, dx3, gs3, i1, i2, _⟩ := o3
                        rw [hc3.1, k2] at i2
                        rw [i1] at j2
                        cases j2
                        cases i2
                        rfl
                      · rw [if_neg hc3] at ep; cases ep
                    | _ => cases ep
                  subst hcc
                  exact ⟨dd, gs', j2, j5, q3 σ m3 _ (e3.trans j6) j7 ((((S.mono e1.gro).mono e2.gro).mono e3.gro).mono j6.gro)⟩
          · rw [if_neg hc] at q1
            exact q1.elim
        | _ => exact q1.elim
  | _ => exact q1.elim
/-! #### stores to places of a list -/
def rSet (K : PySem.W.Frag) (mg : Str → Option Value) : TSet := fun o' i' v' H Q => ∃ m h o i v H0 H1 h2, Rep K mg m H h ∧ Dt K mg H0 m H o o' ∧ Dt K mg H1 m H i i' ∧ Dv K mg m H v v' ∧ setM o i v h = some h2 ∧ ∀ H', Ext m H m H' → Rep K mg m H' h2 → Q H'
theorem om_set : PSet X (rSet K mg) := by
  intro pins s σ H o' i' v' ov iv u Q I ro ri rv ⟨m, h, o, i, v, H0, H1, h2, R, d1, d2, d3, e, q⟩
  unfold setM at e
  split at e
  · rename_i n k
    cases d2.dv (fun _ => MV.noConfusion)
    cases d1.dv (fun _ => MV.noConfusion) with
    | @ref _ a hn =>
      split at e
      · rename_i xs eo
        obtain ⟨ws, k1, k2⟩ := R.at_ eo hn
        split at e
        · rename_i j ej
          cases e
          have ha : a ∈ m := List.mem_of_getElem? hn
          have ex : Ext m H m (upd H a (.lst (ws.set j v'))) := Ext.upd_at ha
          exact set_list pins s σ H _ _ _ ov iv u Q I ro ri rv ⟨a, ws, k, j, rfl, rfl, k1, by rw [← k2.length]; exact ej, q _ ex (R.write hn ⟨_, upd_same, (k2.set d3 j).mono ex.gro⟩)⟩
        · cases e
      · cases e
  · cases e
theorem ss_sub {o i value : Expr} {pos' : Pos} {O J : ME} (ho : SE K mg W X o O) (hi : SE K mg W X i J) (hv : SE K mg W X value V')
    (ha : ∀ v, assign (.Subscript o i pos') X.env v = (do
      let ov ← holding [v] (eval o X.env)
      let iv ← holding [v, ov] (eval i X.env)
      standAt pos'
      holding [v, ov, iv] (setItem ov iv v)
      release [v, ov, iv] []) := by intro _; rfl)
    (hs : swapsWithSole [.Subscript o i pos'] value pos.line X.env = pure false := by rfl) (hw : swappedStores [.Subscript o i pos'] value X.env = pure none := by rfl) (h1 : (assignEach [.Subscript o i pos'] X.env).map (·.2) = [assign (.Subscript o i pos') X.env] := by rfl) :
    SS K mg W X (.Assign [.Subscript o i pos'] value pos) (sSub O J V') := (ps_asg (se_set hv) (pg_sub ho hi (om_set (K := K) (mg := mg)) ha) hs hw h1).imp fun D σ H ⟨m, σm, h, R, S, q⟩ => by
  refine ⟨m, σm, h, R, S, ?_⟩
  unfold sSub at q
  cases ev : eSet V' σm h with
  | stuck => rw [ev] at q; exact q.elim
  | exc x h1 => rw [ev] at q; exact fun cls d m' H' e' R' x => q cls d σ m' H' e' R' (S.mono e'.gro) x
  | ok v h1 =>
    rw [ev, Res.ok_st] at q
    intro v' m1 H1 e1 R1 d1
    have d1' := d1.dv (eSet_ns ev)
    have S1 := S.mono e1.gro
    refine ⟨m1, σm, h1, R1, S1, rs.part S1 (rs.ext e1 R1 q) fun x h2 x' m2 H2 e2 R2 d2 q2 => ?_⟩
    have S2 := S1.mono e2.gro
    refine ⟨m2, σm, h2, R2, S2, rs.part S2 (rs.ext e2 R2 q2) fun y h3 y' m3 H3 e3 R3 d3 q3 => ?_⟩
    cases ep : setM x y v h3 with
    | none => rw [ep] at q3; exact q3.elim
    | some h4 =>
      rw [ep] at q3
      exact ⟨m3, h3, x, y, v, H1, H2, h4, R3, d2.mono e3, d3, (d1'.mono e2.gro).mono e3.gro, ep, fun H' e' R' => q3 σ m3 H' (e3.trans e') R' ((S2.mono e3.gro).mono e'.gro)⟩
/-! #### methods of lists -/
theorem se_lm {id : String} {name : Str} {f : MV → List MV → MH → Res MV} {o : Expr} {es : List Expr} {AL : MA} {apos cpos : Pos} (slot : Slot "list" name id) (hty : typeOf (.builtin id) = pure (.type "method_descriptor")) (hm : MtR X id (rMt K mg f)) (ho : SE K mg W X o A) (ha : SA K mg W X (e :: es) AL)
    (hbase : attributeBase o name X.env (eval o X.env) = eval o X.env := by rfl)
    (hfew : ((backTo cpos (starEach (e :: es) X.env)).all (fun x => !x.1) && (backToKw cpos (keywordEach [] X.env)).all (fun x => x.1.isSome) && decide ((e :: es).length + ([] : List Keyword).length + (if ([] : List Keyword).isEmpty then 0 else 1) < 30)) = true := by rfl)
    (hline : (apos.endLine == cpos.line) = true := by rfl) (hs : starEach (e :: es) X.env = (false, eval e X.env) :: starEach es X.env := by rfl) (hplain : (backTo cpos (starEach es X.env)).any (·.1) = false := by rfl) (hK : X.K = K := by rfl) :
    SE K mg W X (.Call (.Attribute o name apos) (e :: es) [] cpos) (eLM f A AL) := (pe_bm PySem.F.plainAttrs_list slot hty hm (se_set ho) ha hbase hfew hline hs hplain).imp fun σ H Q ⟨m, σm, h, R, S, q⟩ => by
  subst hK
  refine ⟨m, σm, h, R, S, rg.bind q fun x h1 x' m1 H1 e1 R1 d1 q1 => ?_⟩
  cases el : asL h1 x with
  | none => rw [el] at q1; exact q1.elim
  | some xs =>
    rw [el] at q1
    obtain ⟨a, ws, rfl, s1, r1⟩ := d1.asL R1 el
    refine ⟨.inl ⟨rfl, ws, s1⟩, m1, σm, h1, R1, S.mono e1.gro, rg.bind (rg.ext dmV e1 R1 q1) fun ys h2 vs m2 H2 e2 R2 d2 q2 => ?_⟩
    exact ⟨m2, h2, x, ys, H, σ, W, R2, d1.mono e2, d2, rg.ext dmV e2 R2 q2⟩
theorem mm_append : MtR X "list.append" (rMt K mg appM) := by
  intro pins s σ H x' xs' v us Q I rx rs ⟨m, h, x, xs, H0, σ', W, R, dx, dxs, q⟩
  unfold appM at q
  split at q
  · rename_i n y
    cases dx.dv (fun _ => MV.noConfusion) with
    | @ref _ a hn =>
      cases dxs with
      | cons d1 d2 =>
        cases d2
        split at q
        · rename_i ys eo
          obtain ⟨ws, k1, k2⟩ := R.at_ eo hn
          split at q
          · rename_i hl
            have ex : ∀ o, Ext m H m (upd H a o) := fun o => Ext.upd_at (List.mem_of_getElem? hn)
            exact mt_append pins s σ H _ _ v us Q I rx rs ⟨a, ws, _, rfl, rfl, k1, by rw [← k2.length]; exact hl, q .non m _ (ex _) (R.write hn ⟨_, upd_same, (k2.append (.cons d1 .nil)).mono (ex _).gro⟩) (.v .non)⟩
          · exact q.elim
        · exact q.elim
  · exact q.elim
theorem inop_add : InOp X .Add (rOp K mg addI) := by
  intro pins s σ H x' y' u v Q I rx ry ⟨m, h, x, y, H0, H1, σ', W, R, dx, dy, q⟩
  unfold addI at q
  split at q
  · cases dx.dv (fun _ => MV.noConfusion)
    cases dy.dv (fun _ => MV.noConfusion)
    exact in_add pins s σ H _ _ u v Q I rx ry ⟨_, _, rfl, rfl, rg.here q R (.v (.int _))⟩
  · exact q.elim
theorem ip_addM : PIp X .Add (rOp K mg addI) := fun pins s σ H x y v u Q I rx ry h => inop_add pins s σ H x y v u Q I rx ry h
end
end Mi

set_option maxHeartbeats 400000
/-! ### defs, methods, makers: what they mean, their calls -/
namespace Mi
open PySem PySem.Spec PyProof.Rows L2
abbrev MF := List MV → MH → Res MV
def fnCode (n : Nat) (B : MSt) : MF := fun xs h => match B (xs.map some ++ List.replicate (n - xs.length) none) h with
  | .ret v h' => .ok v h'
  | .next _ h' => .ok .non h'
  | .exc x _ h' => .exc x h'
  | _ => .stuck
section
variable (P : Program) (w : World) (K : PySem.W.Frag) (mg : Str → Option Value) (base : Heap)
/-- the def at f means code, by at most k calls within -/
structure FnM (k : Nat) (f : Addr) (fd : FuncData) (ps : List Str) (code : MF) : Prop where
  run : ∀ (A : Around) (outer : List Env) (s : Shared) (H : Hp) (args : Args) (us : List Value) (vs : List V) (Q : VK) (E : XK) (m : List Addr) (h : MH) (xs : List MV), Room k A → A.guards = some [] → Env0 P w K mg base A outer s H → BindsTo s fd args (ps.zip us) → Vals vs us → vs.length = ps.length →
    Rep K mg m H h → DvAll K mg m H xs vs → rg K mg (DV K mg) (fun cls d _ H => E cls d H) [] m H (code xs h) Q → codeAny (model P w) A (.call (.ref f) args) (CR (L2.CX P w) outer P w H s Q E) s
end
section
variable {P : Program} {w : World} {K : PySem.W.Frag} {mg : Str → Option Value} {base : Heap}
theorem FnM.mono {j k : Nat} {f : Addr} {fd : FuncData} {ps : List Str} {code : MF} (F : FnM P w K mg base j f fd ps code) (h : j ≤ k) : FnM P w K mg base k f fd ps code := ⟨fun A outer s H args us vs Q E m hh xs hr => F.run A outer s H args us vs Q E m hh xs (hr.mono h)⟩
/-- a meaning that says more -/
theorem FnM.imp {k : Nat} {f : Addr} {fd : FuncData} {ps : List Str} {code code' : MF} (F : FnM P w K mg base k f fd ps code) (h : ∀ xs hh, code' xs hh = .stuck ∨ code' xs hh = code xs hh) : FnM P w K mg base k f fd ps code' := ⟨fun A outer s H args us vs Q E m hh xs hr hg e0 hb r hl R d q => by
  rcases h xs hh with e | e
  · rw [e] at q; exact q.elim
  · rw [e] at q; exact F.run A outer s H args us vs Q E m hh xs hr hg e0 hb r hl R d q⟩
theorem srel_start {N : List Str} {m : List Addr} {H : Hp} {xs : List MV} {vs : List V} (d : DvAll K mg m H xs vs) : SRel K mg m H (xs.map some ++ List.replicate (N.length - xs.length) none) (L2.start N vs) := by
  have hl := d.length
  refine ⟨by simp [L2.start, hl], fun i v e => ?_⟩
  unfold L2.start
  by_cases hi : i < xs.length
  · rw [List.getElem?_append_left (by simpa using hi), List.getElem?_map] at e
    rw [List.getElem?_append_left (by rw [List.length_map, ← hl]; exact hi), List.getElem?_map]
    cases q : xs[i]? with
    | none => rw [q] at e; cases e
    | some x =>
      rw [q] at e
      cases e
      obtain ⟨v', h1, h2⟩ := d.get q
      exact ⟨v', by rw [h1]; rfl, h2⟩
  · rw [List.getElem?_append_right (by simpa using hi), List.getElem?_replicate] at e
    split at e <;> cases e
theorem fnM_of {x qual : Str} {params : Arguments} {body : List Stmt} {scope : Scope} {dvs : List V} {kws : List (Str × V)} {f : Addr} {fd : FuncData} {N ps : List Str} {k : Nat} {B : MSt} (F : FunD K x qual params body scope dvs kws f fd) (S : FnScope N ps scope)
    (hbody : ∀ (cdv : Value) (A : Around) (outer : List Env) (s : Shared) (H : Hp) (E : XK), Room k (A.deeper (envOfC qual scope s.heap.objs.size f cdv)) → (A.deeper (envOfC qual scope s.heap.objs.size f cdv)).guards = some [] →
      SSs K mg (fun cls d _ H => E cls d H) (cxOf (L2.CX P w) P w K mg base N qual scope f cdv A outer s H E) body B) : FnM P w K mg base (k + 1) f fd ps (fnCode N.length B) := by
  obtain ⟨oc, od, dV, kV, doc, pm, an, cdv, ct, osl, rfl, lk, hcd, _, _⟩ := F.ex
  refine ⟨fun A outer s H args us vs Q E m h xs hr hg e0 hb r hl R d q => ?_⟩
  refine LamX.run_ofS lk hcd S hr e0 hb r hl fun hr' => ⟨_, hbody cdv A outer s H E hr' hg, m, _, h, R, srel_start (N := N) d, ?_⟩
  unfold fnCode at q
  split at q
  · rename_i v h' eb; rw [eb]; exact q
  · rename_i σ' h' eb; rw [eb]; exact fun s' m' H' e' R' _ => q .non m' H' e' R' (.v .non)
  · rename_i y σ' h' eb; rw [eb]; exact fun cls d _ m' H' e' R' _ x => q cls d m' H' e' R' x
  · exact q.elim
end
/-- how a call's values come to the parameters -/
structure BnM (K : PySem.W.Frag) (mg : Str → Option Value) (fd : FuncData) (ps : List Str) (n : Nat) (ks : List Str) (g : List MV → List MV → List MV) : Prop where
  to : ∀ (s : Shared) (us ws : List Value), K.In s.heap → us.length = n → ws.length = ks.length → ∃ zs : List Value, BindsTo s fd ⟨us, ks.zip ws⟩ (ps.zip zs) ∧ zs.length = ps.length ∧
    ∀ (m : List Addr) (H : Hp) (xs ys : List MV) (va vb : List V), DvAll K mg m H xs va → Vals va us → DvAll K mg m H ys vb → Vals vb ws → ∃ vc, DvAll K mg m H (g xs ys) vc ∧ Vals vc zs
def eCall (g : List MV → List MV → List MV) (code : MF) (AL KL : MA) : ME := fun σ h => (AL σ h).bind fun xs h1 => (KL σ h1).bind fun ys h2 => code (g xs ys) h2
/-- x is an instance of c that has no own m -/
def onIns (c m : Str) (x : MV) (h : MH) (k : Nat → Res MV) : Res MV := match x with
  | .ref n => (match h[n]? with
    | some (.ins c' fs) => if c' = c ∧ fs.lookup m = none then k n else .stuck
    | _ => .stuck)
  | _ => .stuck
/-- o.m(..), o an instance of c -/
def eMeth (c m : Str) (g : List MV → List MV → List MV) (code : MF) (A : ME) (AL KL : MA) : ME := fun σ h => (A σ h).bind fun x h1 => onIns c m x h1 fun n => (AL σ h1).bind fun xs h2 => (KL σ h2).bind fun ys h3 => code (g (.ref n :: xs) ys) h3
/-- c(..) -/
def eMake (c : Str) (g : List MV → List MV → List MV) (code : MF) (AL KL : MA) : ME := fun σ h => (AL σ h).bind fun xs h1 => (KL σ h1).bind fun ys h2 => (code (g (.ref h2.length :: xs) ys) (h2 ++ [.ins c []])).bind fun v h3 => match v with
  | .non => .ok (.ref h2.length) h3
  | _ => .stuck
section
variable {K : PySem.W.Frag} {mg : Str → Option Value} {X : Cx} {W : WX} {m : List Addr} {H : Hp} {h : MH} {σ : L2.St} {k n j : Nat} {f C : Addr} {fd : FuncData} {ps ks : List Str} {g : List MV → List MV → List MV} {code : MF} {x c mm : Str} {p pos apos : Pos} {e o : Expr} {es : List Expr} {kws : List Keyword} {A : ME} {AL KL : MA}
abbrev SK (K : PySem.W.Frag) (mg : Str → Option Value) (W : WX) (X : Cx) (kws : List Keyword) (A : MA) : Prop := PK X kws (tg K mg (DA K mg) W A)
theorem sk_nil : SK K mg W X [] aNil := ⟨fun pos pins s σ H Q I ⟨m, σm, h, R, S, q⟩ => pk_nil.run pos pins s σ H Q I (rg.here (D := DA K mg) q R .nil)⟩
theorem tg_cons {Q : List V → Hp → Prop} (t : tg K mg (DA K mg) W (aCons A AL) σ H Q) : tCons (tg K mg (DV K mg) W (eSet A)) (tg K mg (DA K mg) W AL) σ H Q := by
  obtain ⟨m, σm, h, R, S, q⟩ := t
  have q' : rg K mg (DA K mg) W σ m H ((eSet A σm h).bind fun v h2 => (AL σm h2).bind fun vs h3 => .ok (v :: vs) h3) Q := by
    unfold eSet
    unfold aCons at q
    cases e : A σm h with
    | ok v h1 => rw [e] at q; exact q
    | exc x h1 => rw [e] at q; exact q
    | stuck => rw [e] at q; exact q
  refine ⟨m, σm, h, R, S, ?_⟩
  cases e : eSet A σm h with
  | ok x h1 =>
    rw [e] at q'
    intro x' m1 H1 e1 R1 d1
    have d1' := d1.dv (eSet_ns e)
    refine ⟨m1, σm, h1, R1, S.mono e1.gro, rg.bind (rg.ext dmA e1 R1 q') fun vs h2 vs' m2 H2 e2 R2 d2 q2 => ?_⟩
    exact q2 _ m2 H2 e2 R2 (.cons (d1'.mono e2.gro) d2)
  | exc x h1 => rw [e] at q'; exact q'
  | stuck => rw [e] at q'; exact q'
theorem sk_cons {nm : Option Str} {kpos : Pos} (ha : SE K mg W X e A) (hr : SK K mg W X kws AL) : SK K mg W X (⟨nm, e, kpos⟩ :: kws) (aCons A AL) := ⟨fun pos pins s σ H Q I t => (pk_cons (se_set ha) hr).run pos pins s σ H Q I (tg_cons t)⟩
/-- the callee runs -/
theorem run_fnM {pins : List (Addr × Obj)} {s : Shared} {Q : VK} {us ws : List Value} {va vb : List V} {xs ys : List MV} (F : FnM X.prog X.w X.K X.mg X.base k f fd ps code) (hr : Room k X.A) (hgd : X.A.guards = some []) (hb : BnM X.K X.mg fd ps n ks g) (tk : Takes X W)
    (I : L2.Inv X pins σ H s) (r1 : Vals va us) (r2 : Vals vb ws) (l1 : us.length = n) (l2 : ws.length = ks.length) (R : Rep X.K X.mg m H h) (d1 : DvAll X.K X.mg m H xs va) (d2 : DvAll X.K X.mg m H ys vb) (q : rg X.K X.mg (DV X.K X.mg) W σ m H (code (g xs ys) h) Q) :
    wpAny (model X.prog X.w) X.A (call (.ref f) us (ks.zip ws)) (EP X pins σ Q) X.xe s := by
  obtain ⟨zs, b, lz, bv⟩ := hb.to s us ws I.kIn l1 l2
  obtain ⟨vc, d3, r3⟩ := bv m H xs ys va vb d1 r1 d2 r2
  refine wpAny_call (codeAny_mono (F.run X.A X.stack s H ⟨us, ks.zip ws⟩ zs vc Q (fun cls d H2 => W cls d σ H2) m h (g xs ys) hr hgd I.env0 b r3 (by rw [r3.length]; exact lz) R d3 ?_) fun r s' hq => ?_)
  · cases ec : code (g xs ys) h with
    | ok v h' => rw [ec] at q; exact q
    | exc x h' => rw [ec] at q; exact q
    | stuck => rw [ec] at q; exact q
  · cases r with
    | error e => exact tk e s' (XE.of_call I (fun cls d H' h => h) hq)
    | ok fl =>
      cases fl with
      | ret u => exact I.after hq
      | _ => exact False.elim hq
theorem lenA_of {va : List V} {us : List Value} {xs : List MV} (d : DvAll K mg m H xs va) (r : Vals va us) : us.length = xs.length := by rw [← r.length, d.length]
section
variable (F : FnM X.prog X.w K mg X.base k f fd ps code) (hr : Room k X.A) (hgd : X.A.guards = some []) (hb : BnM K mg fd ps n ks g) (tk : Takes X W)
include F hr hgd hb tk
/-- f(e, ..) -/
theorem se_call (hm : mg x = some (.ref f)) (hk : PySem.W.keepIn K (.ref f) = true) (hg : Gl X x) (hks : ks = []) (ha : SA K mg W X (e :: es) AL) (l : LenA AL n) (hK : X.K = K := by rfl) (hM : X.mg = mg := by rfl)
    (hdb : (x == ("__debug__" : Str)) = false := by decide) (he : starEach (e :: es) X.env = (false, eval e X.env) :: starEach es X.env := by rfl) (hpl : (backTo pos (starEach es X.env)).any (·.1) = false := by rfl) :
    SE K mg W X (.Call (.Name x p) (e :: es) [] pos) (eCall g code AL aNil) := by
  subst hK hM hks
  refine ⟨fun pins s σ H Q I ⟨m, σm, h, R, S, q⟩ => wpAny_Call_Name_kw (ld_glob I hg hm ?_ hdb)⟩
  refine PySem.W.callWith_K (h₀ := X.base) I.ok.mod.kin hk (thn (ha.run pos pins s σ H (fun vs H1 => ∃ m1 h1 xs, xs.length = n ∧ Rep X.K X.mg m1 H1 h1 ∧ DvAll X.K X.mg m1 H1 xs vs ∧ rg X.K X.mg (DV X.K X.mg) W σ m1 H1 (code (g xs []) h1) Q) I ⟨m, σm, h, R, S, ?_⟩) fun us s1 ⟨vs, H1, I1, r, m1, h1, xs, lx, R1, d1, q1⟩ => ⟨I1.kIn, ?_⟩) he hpl
  · unfold eCall at q
    cases ea : AL σm h with
    | ok xs h1 => rw [ea] at q; exact fun vs m1 H1 e1 R1 d1 => ⟨m1, h1, xs, l _ _ _ _ ea, R1, d1, rg.ext dmV e1 R1 q⟩
    | exc y h1 => rw [ea] at q; exact q
    | stuck => rw [ea] at q; exact q
  · exact run_fnM (ws := []) (vb := []) (ys := []) F hr hgd hb tk I1 r .nil ((lenA_of d1 r).trans lx) rfl R1 d1 .nil q1
/-- f() -/
theorem se_call0 (hm : mg x = some (.ref f)) (hk : PySem.W.keepIn K (.ref f) = true) (hg : Gl X x) (hks : ks = []) (hn : n = 0) (hK : X.K = K := by rfl) (hM : X.mg = mg := by rfl) (hdb : (x == ("__debug__" : Str)) = false := by decide) :
    SE K mg W X (.Call (.Name x p) [] [] pos) (eCall g code aNil aNil) := by
  subst hK hM hks hn
  refine ⟨fun pins s σ H Q I ⟨m, σm, h, R, S, q⟩ => wpAny_Call_Name_kw (ld_glob I hg hm ?_ hdb)⟩
  exact PySem.W.callWith_K0 I.kIn hk (run_fnM (us := []) (ws := []) (va := []) (vb := []) (xs := []) (ys := []) F hr hgd hb tk I .nil .nil rfl rfl R .nil .nil q)
/-- f(e, .., k = v, ..) -/
theorem se_callK {j : Nat} (hm : mg x = some (.ref f)) (hk : PySem.W.keepIn K (.ref f) = true) (hg : Gl X x) (ha : SA K mg W X (e :: es) AL) (l : LenA AL n) (hkw : SK K mg W X kws KL) (l2 : LenA KL j) (hj : j = ks.length) (hK : X.K = K := by rfl) (hM : X.mg = mg := by rfl)
    (hall : (backToKw pos (keywordEach kws X.env)).all (·.1.isSome) = true := by rfl) (hks : (backToKw pos (keywordEach kws X.env)).filterMap (·.1) = ks := by rfl)
    (hdb : (x == ("__debug__" : Str)) = false := by decide) (he : starEach (e :: es) X.env = (false, eval e X.env) :: starEach es X.env := by rfl)
    (hpl : ((backTo pos (starEach (e :: es) X.env)).any (·.1) || (backToKw pos (keywordEach kws X.env)).any (·.1.isNone)) = false := by rfl) :
    SE K mg W X (.Call (.Name x p) (e :: es) kws pos) (eCall g code AL KL) := by
  subst hK hM hj
  refine ⟨fun pins s σ H Q I ⟨m, σm, h, R, S, q⟩ => wpAny_Call_Name_kw (ld_glob I hg hm ?_ hdb)⟩
  unfold eCall at q
  refine PySem.W.callWith_KW (h₀ := X.base) I.ok.mod.kin hk hall (thn (ha.run pos pins s σ H (fun vs H1 => ∃ m1 h1 xs, xs.length = n ∧ Ext m H m1 H1 ∧ Rep X.K X.mg m1 H1 h1 ∧ DvAll X.K X.mg m1 H1 xs vs ∧ rg X.K X.mg (DV X.K X.mg) W σ m1 H1 ((KL σm h1).bind fun ys h2 => code (g xs ys) h2) Q) I ⟨m, σm, h, R, S, ?_⟩) fun us s1 ⟨vs, H1, I1, r, m1, h1, xs, lx, e1, R1, d1, q1⟩ => ?_) hpl he
  · cases ea : AL σm h with
    | ok xs h1 => rw [ea] at q; exact fun vs m1 H1 e1 R1 d1 => ⟨m1, h1, xs, l _ _ _ _ ea, e1, R1, d1, rg.ext dmV e1 R1 q⟩
    | exc y h1 => rw [ea] at q; exact q
    | stuck => rw [ea] at q; exact q
  · refine thn (hkw.run pos pins s1 σ H1 (fun vs2 H2 => ∃ m2 h2 ys, ys.length = ks.length ∧ Rep X.K X.mg m2 H2 h2 ∧ DvAll X.K X.mg m2 H2 xs vs ∧ DvAll X.K X.mg m2 H2 ys vs2 ∧ rg X.K X.mg (DV X.K X.mg) W σ m2 H2 (code (g xs ys) h2) Q) I1 ⟨m1, σm, h1, R1, S.mono e1.gro, ?_⟩) fun ws s2 ⟨zs, H2, I2, rz, m2, h2, ys, ly, R2, d2, d3, q2⟩ => ⟨I2.kIn, ?_⟩
    · cases ea : KL σm h1 with
      | ok ys h2 => rw [ea] at q1; exact fun vs m2 H2 e2 R2 d2 => ⟨m2, h2, ys, l2 _ _ _ _ ea, R2, d1.mono e2.gro, d2, rg.ext dmV e2 R2 q1⟩
      | exc y h1 => rw [ea] at q1; exact q1
      | stuck => rw [ea] at q1; exact q1
    · rw [hks]
      exact run_fnM F hr hgd hb tk I2 r rz ((lenA_of d2 r).trans lx) ((lenA_of d3 rz).trans ly) R2 d2 d3 q2
/-- f(k = v, ..) -/
theorem se_callK0 {j : Nat} (hm : mg x = some (.ref f)) (hk : PySem.W.keepIn K (.ref f) = true) (hg : Gl X x) (hn : n = 0) (hkw : SK K mg W X kws KL) (l2 : LenA KL j) (hj : j = ks.length) (hK : X.K = K := by rfl) (hM : X.mg = mg := by rfl)
    (hall : (backToKw pos (keywordEach kws X.env)).all (·.1.isSome) = true := by rfl) (hks : (backToKw pos (keywordEach kws X.env)).filterMap (·.1) = ks := by rfl) (hdb : (x == ("__debug__" : Str)) = false := by decide)
    (hpl : ((backTo pos (starEach [] X.env)).any (·.1) || (backToKw pos (keywordEach kws X.env)).any (·.1.isNone)) = false := by rfl) : SE K mg W X (.Call (.Name x p) [] kws pos) (eCall g code aNil KL) := by
  subst hK hM hj hn
  refine ⟨fun pins s σ H Q I ⟨m, σm, h, R, S, q⟩ => wpAny_Call_Name_kw (ld_glob I hg hm ?_ hdb)⟩
  refine PySem.W.callWith_KW0 (h₀ := X.base) I.ok.mod.kin hk hall ?_ hpl
  refine thn (hkw.run pos pins s σ H (fun vs2 H2 => ∃ m2 h2 ys, ys.length = ks.length ∧ Rep X.K X.mg m2 H2 h2 ∧ DvAll X.K X.mg m2 H2 ys vs2 ∧ rg X.K X.mg (DV X.K X.mg) W σ m2 H2 (code (g [] ys) h2) Q) I ⟨m, σm, h, R, S, ?_⟩) fun ws s2 ⟨zs, H2, I2, rz, m2, h2, ys, ly, R2, d3, q2⟩ => ⟨I2.kIn, ?_⟩
  · have q : rg X.K X.mg (DV X.K X.mg) W σ m H ((KL σm h).bind fun ys h2 => code (g [] ys) h2) Q := q
    cases ea : KL σm h with
    | ok ys h2 => rw [ea] at q; exact fun vs m2 H2 e2 R2 d2 => ⟨m2, h2, ys, l2 _ _ _ _ ea, R2, d2, rg.ext dmV e2 R2 q⟩
    | exc y h1 => rw [ea] at q; exact q
    | stuck => rw [ea] at q; exact q
  · rw [hks]
    exact run_fnM (us := []) (va := []) (xs := []) F hr hgd hb tk I2 .nil rz rfl ((lenA_of d3 rz).trans ly) R2 .nil d3 q2
end
/-! #### methods -/
/-- what a receiver gives -/
theorem recv {xv : MV} {x' : V} {h1 : MH} {m1 : List Addr} {H1 H0 : Hp} {kk : Nat → Res MV} {Q : VK} {m0 : List Addr} (R1 : Rep K mg m1 H1 h1) (d1 : Dt K mg H0 m1 H1 xv x') (q1 : rg K mg (DV K mg) W σ m0 H (onIns c mm xv h1 kk) Q) : ∃ n a C dx fs, xv = .ref n ∧ x' = .ref a ∧ m1[n]? = some a ∧ mg c = some (.ref C) ∧ H1 a = some (.ins C dx fs) ∧ fs.lookup mm = none ∧ rg K mg (DV K mg) W σ m0 H (kk n) Q := by
  unfold onIns at q1
  cases xv with
  | ref n =>
    cases d1.dv (fun _ => MV.noConfusion) with
    | @ref _ a hn =>
      dsimp only at q1
      cases eo : h1[n]? with
      | none => rw [eo] at q1; exact q1.elim
      | some o =>
        rw [eo] at q1
        have ob := R1.at_ eo hn
        cases o with
        | ins c' fs =>
          obtain ⟨C, dx, gs, k1, k2, k3, k4, k5⟩ := ob
          dsimp only at q1
          by_cases hc : c' = c ∧ fs.lookup mm = none
          · rw [if_pos hc] at q1
            obtain ⟨hc, hl⟩ := hc
            subst hc
            exact ⟨n, a, C, dx, gs, rfl, rfl, hn, k2, k1, k5.lookup_none hl, q1⟩
          · rw [if_neg hc] at q1
            exact q1.elim
        | _ => exact q1.elim
  | _ => exact q1.elim
section
variable (F : FnM X.prog X.w K mg X.base k f fd ps code) (hr : Room k X.A) (hgd : X.A.guards = some []) (hb : BnM K mg fd ps (n + 1) ks g) (tk : Takes X W) (hC : mg c = some (.ref C)) (cl : Cls K C) (hmt : Meth K C mm f)
include F hr hgd hb tk hC cl hmt
/-- o.m(e, ..) -/
theorem se_meth {pl : Sem Bool} (hks : ks = []) (ho : SE K mg W X o A) (ha : SA K mg W X (e :: es) AL) (l : LenA AL n) (hK : X.K = K := by rfl) (hM : X.mg = mg := by rfl)
    (hst : starEach (e :: es) X.env = (false, eval e X.env) :: starEach es X.env := by rfl) (hpl : (backTo pos (starEach es X.env)).any (·.1) = false := by rfl)
    (ht : eval (.Call (.Attribute o mm apos) (e :: es) [] pos) X.env = (do
      let ov ← eval o X.env
      standAt apos.atName
      let (f, first) ← holding [ov] (getMethod ov mm pl)
      callWith pos f first (backTo pos (starEach (e :: es) X.env)) (backToKw pos (keywordEach [] X.env))) := by rfl) :
    SE K mg W X (.Call (.Attribute o mm apos) (e :: es) [] pos) (eMeth c mm g code A AL aNil) := by
  subst hK hM hks
  refine ⟨fun pins s σ H Q I ⟨m, σm, h, R, S, q⟩ => ?_⟩
  refine PySem.W.methodCall_KW (pl := pl) (thn (ho.run pins s σ H (fun x' H1 => ∃ m1 h1 n' a dx fs, Ext m H m1 H1 ∧ Rep X.K X.mg m1 H1 h1 ∧ x' = .ref a ∧ m1[n']? = some a ∧ H1 a = some (.ins C dx fs) ∧ fs.lookup mm = none ∧
    rg X.K X.mg (DV X.K X.mg) W σ m1 H1 ((AL σm h1).bind fun xs h2 => code (g (.ref n' :: xs) []) h2) Q) I ⟨m, σm, h, R, S, rg.bind q fun xv h1 x' m1 H1 e1 R1 d1 q1 => ?_⟩) fun u s1 ⟨x', H1, I1, rx, m1, h1, n', a, dx, fs, e1, R1, ex, hn, ea, lf, q1⟩ => ?_) ht
  · obtain ⟨n', a, C', dx, fs, rfl, rfl, hn, hC', ea, lf, q2⟩ := recv R1 d1 q1
    rw [hC] at hC'
    cases hC'
    exact ⟨m1, h1, n', a, dx, fs, e1, R1, rfl, hn, ea, lf, rg.ext dmV e1 R1 q2⟩
  · subst ex
    obtain rfl : u = Value.ref a := rx
    refine getmeth_ok I1 ea cl hmt lf ?_
    refine PySem.W.callWith_K (first := [.ref a]) (h₀ := X.base) I.ok.mod.kin hmt.kp (thn (ha.run pos pins s1 σ H1 (fun vs H2 => ∃ m2 h2 xs, xs.length = n ∧ Rep X.K X.mg m2 H2 h2 ∧ m2[n']? = some a ∧ DvAll X.K X.mg m2 H2 xs vs ∧ rg X.K X.mg (DV X.K X.mg) W σ m2 H2 (code (g (.ref n' :: xs) []) h2) Q) I1 ⟨m1, σm, h1, R1, S.mono e1.gro, ?_⟩) fun us s2 ⟨vs, H2, I2, r, m2, h2, xs, lx, R2, hn2, d2, q2⟩ => ⟨I2.kIn, ?_⟩) hst hpl
    · cases ea : AL σm h1 with
      | ok xs h2 => rw [ea] at q1; exact fun vs m2 H2 e2 R2 d2 => ⟨m2, h2, xs, l _ _ _ _ ea, R2, e2.get hn, d2, rg.ext dmV e2 R2 q1⟩
      | exc y h1 => rw [ea] at q1; exact q1
      | stuck => rw [ea] at q1; exact q1
    · exact run_fnM (us := .ref a :: us) (va := .ref a :: vs) (xs := .ref n' :: xs) (ws := []) (vb := []) (ys := []) F hr hgd hb tk I2 (.cons rfl r) .nil (congrArg Nat.succ ((lenA_of d2 r).trans lx)) rfl R2 (.cons (.ref hn2) d2) .nil q2
/-- o.m() -/
theorem se_meth0 {pl : Sem Bool} (hks : ks = []) (hn0 : n = 0) (ho : SE K mg W X o A) (hK : X.K = K := by rfl) (hM : X.mg = mg := by rfl)
    (ht : eval (.Call (.Attribute o mm apos) [] [] pos) X.env = (do
      let ov ← eval o X.env
      standAt apos.atName
      let (f, first) ← holding [ov] (getMethod ov mm pl)
      callWith pos f first (backTo pos (starEach [] X.env)) (backToKw pos (keywordEach [] X.env))) := by rfl) :
    SE K mg W X (.Call (.Attribute o mm apos) [] [] pos) (eMeth c mm g code A aNil aNil) := by
  subst hK hM hks hn0
  refine ⟨fun pins s σ H Q I ⟨m, σm, h, R, S, q⟩ => ?_⟩
  refine PySem.W.methodCall_KW (pl := pl) (thn (ho.run pins s σ H (fun x' H1 => ∃ m1 h1 n' a dx fs, Ext m H m1 H1 ∧ Rep X.K X.mg m1 H1 h1 ∧ x' = .ref a ∧ m1[n']? = some a ∧ H1 a = some (.ins C dx fs) ∧ fs.lookup mm = none ∧
    rg X.K X.mg (DV X.K X.mg) W σ m1 H1 (code (g [.ref n'] []) h1) Q) I ⟨m, σm, h, R, S, rg.bind q fun xv h1 x' m1 H1 e1 R1 d1 q1 => ?_⟩) fun u s1 ⟨x', H1, I1, rx, m1, h1, n', a, dx, fs, e1, R1, ex, hn, ea, lf, q1⟩ => ?_) ht
  · obtain ⟨n', a, C', dx, fs, rfl, rfl, hn, hC', ea, lf, q2⟩ := recv (kk := fun n => (aNil σm h1).bind fun xs h2 => (aNil σm h2).bind fun ys h3 => code (g (.ref n :: xs) ys) h3) R1 d1 q1
    rw [hC] at hC'
    cases hC'
    exact ⟨m1, h1, n', a, dx, fs, e1, R1, rfl, hn, ea, lf, rg.ext dmV e1 R1 q2⟩
  · subst ex
    obtain rfl : u = Value.ref a := rx
    refine getmeth_ok I1 ea cl hmt lf ?_
    exact PySem.W.callWith_K0 (first := [.ref a]) I1.kIn hmt.kp (run_fnM (us := [.ref a]) (va := [.ref a]) (xs := [.ref n']) (ws := []) (vb := []) (ys := []) F hr hgd hb tk I1 (.cons rfl .nil) .nil rfl rfl R1 (.cons (.ref hn) .nil) .nil q1)
/-- o.m(e, .., k = v, ..) -/
theorem se_methK {pl : Sem Bool} {j : Nat} (ho : SE K mg W X o A) (ha : SA K mg W X (e :: es) AL) (l : LenA AL n) (hkw : SK K mg W X kws KL) (l2 : LenA KL j) (hj : j = ks.length) (hK : X.K = K := by rfl) (hM : X.mg = mg := by rfl)
    (hall : (backToKw pos (keywordEach kws X.env)).all (·.1.isSome) = true := by rfl) (hks : (backToKw pos (keywordEach kws X.env)).filterMap (·.1) = ks := by rfl)
    (hst : starEach (e :: es) X.env = (false, eval e X.env) :: starEach es X.env := by rfl) (hpl : ((backTo pos (starEach (e :: es) X.env)).any (·.1) || (backToKw pos (keywordEach kws X.env)).any (·.1.isNone)) = false := by rfl)
    (ht : eval (.Call (.Attribute o mm apos) (e :: es) kws pos) X.env = (do
      let ov ← eval o X.env
      standAt apos.atName
      let (f, first) ← holding [ov] (getMethod ov mm pl)
      callWith pos f first (backTo pos (starEach (e :: es) X.env)) (backToKw pos (keywordEach kws X.env))) := by rfl) :
    SE K mg W X (.Call (.Attribute o mm apos) (e :: es) kws pos) (eMeth c mm g code A AL KL) := by
  subst hK hM hj
  refine ⟨fun pins s σ H Q I ⟨m, σm, h, R, S, q⟩ => ?_⟩
  refine PySem.W.methodCall_KW (pl := pl) (thn (ho.run pins s σ H (fun x' H1 => ∃ m1 h1 n' a dx fs, Ext m H m1 H1 ∧ Rep X.K X.mg m1 H1 h1 ∧ x' = .ref a ∧ m1[n']? = some a ∧ H1 a = some (.ins C dx fs) ∧ fs.lookup mm = none ∧
    rg X.K X.mg (DV X.K X.mg) W σ m1 H1 ((AL σm h1).bind fun xs h2 => (KL σm h2).bind fun ys h3 => code (g (.ref n' :: xs) ys) h3) Q) I ⟨m, σm, h, R, S, rg.bind q fun xv h1 x' m1 H1 e1 R1 d1 q1 => ?_⟩) fun u s1 ⟨x', H1, I1, rx, m1, h1, n', a, dx, fs, e1, R1, ex, hn, ea, lf, q1⟩ => ?_) ht
  · obtain ⟨n', a, C', dx, fs, rfl, rfl, hn, hC', ea, lf, q2⟩ := recv R1 d1 q1
    rw [hC] at hC'
    cases hC'
    exact ⟨m1, h1, n', a, dx, fs, e1, R1, rfl, hn, ea, lf, rg.ext dmV e1 R1 q2⟩
  · subst ex
    obtain rfl : u = Value.ref a := rx
    have S1 := S.mono e1.gro
    refine getmeth_ok I1 ea cl hmt lf ?_
    refine PySem.W.callWith_KW (first := [.ref a]) (h₀ := X.base) I.ok.mod.kin hmt.kp hall (thn (ha.run pos pins s1 σ H1 (fun vs H2 => ∃ m2 h2 xs, xs.length = n ∧ Ext m1 H1 m2 H2 ∧ Rep X.K X.mg m2 H2 h2 ∧ m2[n']? = some a ∧ DvAll X.K X.mg m2 H2 xs vs ∧ rg X.K X.mg (DV X.K X.mg) W σ m2 H2 ((KL σm h2).bind fun ys h3 => code (g (.ref n' :: xs) ys) h3) Q) I1 ⟨m1, σm, h1, R1, S1, ?_⟩) fun us s2 ⟨vs, H2, I2, r, m2, h2, xs, lx, e2, R2, hn2, d2, q2⟩ => ?_) hpl hst
    · cases ea : AL σm h1 with
      | ok xs h2 => rw [ea] at q1; exact fun vs m2 H2 e2 R2 d2 => ⟨m2, h2, xs, l _ _ _ _ ea, e2, R2, e2.get hn, d2, rg.ext dmV e2 R2 q1⟩
      | exc y h1 => rw [ea] at q1; exact q1
      | stuck => rw [ea] at q1; exact q1
    · refine thn (hkw.run pos pins s2 σ H2 (fun vs2 H3 => ∃ m3 h3 ys, ys.length = ks.length ∧ Rep X.K X.mg m3 H3 h3 ∧ m3[n']? = some a ∧ DvAll X.K X.mg m3 H3 xs vs ∧ DvAll X.K X.mg m3 H3 ys vs2 ∧ rg X.K X.mg (DV X.K X.mg) W σ m3 H3 (code (g (.ref n' :: xs) ys) h3) Q) I2 ⟨m2, σm, h2, R2, S1.mono e2.gro, ?_⟩) fun ws s3 ⟨zs, H3, I3, rz, m3, h3, ys, ly, R3, hn3, d3, d4, q3⟩ => ⟨I3.kIn, ?_⟩
      · cases ea : KL σm h2 with
        | ok ys h3 => rw [ea] at q2; exact fun vs m3 H3 e3 R3 d3 => ⟨m3, h3, ys, l2 _ _ _ _ ea, R3, e3.get hn2, d2.mono e3.gro, d3, rg.ext dmV e3 R3 q2⟩
        | exc y h1 => rw [ea] at q2; exact q2
        | stuck => rw [ea] at q2; exact q2
      · rw [hks]
        exact run_fnM (us := .ref a :: us) (va := .ref a :: vs) (xs := .ref n' :: xs) F hr hgd hb tk I3 (.cons rfl r) rz (congrArg Nat.succ ((lenA_of d3 r).trans lx)) ((lenA_of d4 rz).trans ly) R3 (.cons (.ref hn3) d3) d4 q3
end
/-! #### makers -/
/-- a new instance is a place -/
theorem Rep.made (R : Rep K mg m H h) (hC : mg c = some (.ref C)) {x dx : Addr} (nx : H x = none) (nd : H dx = none) (ne : dx ≠ x) : Ext m H (m ++ [x]) (upd (upd H dx (.own x)) x (.ins C dx [])) ∧ Rep K mg (m ++ [x]) (upd (upd H dx (.own x)) x (.ins C dx [])) (h ++ [.ins c []]) := by
  have nx2 : upd H dx (.own x) x = none := by rw [upd_ne (Ne.symm ne)]; exact nx
  have e : Ext m H (m ++ [x]) (upd (upd H dx (.own x)) x (.ins C dx [])) := by
    refine ⟨⟨[x], rfl⟩, fun b u hb nb => ?_, fun b hb nb => ?_⟩
    · rw [upd_ne (ne_of_none hb nx), upd_ne (ne_of_none hb nd)]
      exact hb
    · rcases List.mem_append.mp hb with z | z
      · exact absurd z nb
      · have : b = x := by simpa using z
        rw [this]
        exact nx
  refine ⟨e, R.place (R.out nx) e.gro (fun b hb => ?_) ⟨C, dx, [], upd_same, hC, fun z => ?_, ?_, .nil⟩⟩
  · obtain ⟨u, hu⟩ := R.tracked hb
    rw [upd_ne (ne_of_none hu nx), upd_ne (ne_of_none hu nd)]
  · rcases List.mem_append.mp z with z | z
    · exact R.out nd z
    · exact ne (by simpa using z)
  · rw [upd_ne ne]
    exact upd_same
theorem run_makeM {pins : List (Addr × Obj)} {s : Shared} {Q : VK} {us ws : List Value} {va vb : List V} {xs ys : List MV} (M : Mk X.K C f) (hC : X.mg c = some (.ref C)) (F : FnM X.prog X.w X.K X.mg X.base k f fd ps code) (hr : Room (k + 1) X.A) (hgd : X.A.guards = some []) (hb : BnM X.K X.mg fd ps (n + 1) ks g) (tk : Takes X W)
    (I : L2.Inv X pins σ H s) (r1 : Vals va us) (r2 : Vals vb ws) (l1 : us.length = n) (l2 : ws.length = ks.length) (R : Rep X.K X.mg m H h) (d1 : DvAll X.K X.mg m H xs va) (d2 : DvAll X.K X.mg m H ys vb)
    (q : rg X.K X.mg (DV X.K X.mg) W σ m H ((code (g (.ref h.length :: xs) ys) (h ++ [.ins c []])).bind fun v h3 => match v with
      | .non => .ok (.ref h.length) h3
      | _ => .stuck) Q) : wpAny (model X.prog X.w) X.A (call (.ref C) us (ks.zip ws)) (EP X pins σ Q) X.xe s := by
  have nx := I.hok.fresh (Nat.le_succ s.heap.objs.size)
  have nd := I.hok.fresh (Nat.le_refl s.heap.objs.size)
  obtain ⟨e1, R1⟩ := R.made hC nx nd (Nat.ne_of_lt (Nat.lt_succ_self _))
  have I2 := Inv.made (C := C) I
  obtain ⟨zs, b, lz, bv⟩ := hb.to _ (.ref (s.heap.objs.size + 1) :: us) ws I2.kIn (congrArg Nat.succ l1) l2
  have hn : (m ++ [s.heap.objs.size + 1])[h.length]? = some (s.heap.objs.size + 1) := by rw [← R.len]; simp
  obtain ⟨vc, d3, r3⟩ := bv _ _ (.ref h.length :: xs) ys (.ref (s.heap.objs.size + 1) :: va) vb (.cons (.ref hn) (d1.mono e1.gro)) (.cons rfl r1) (d2.mono e1.gro) r2
  refine wpAny_call (make_map (f := f) I.kIn M.makes M.init (beq_iff_eq.mp M.fn) (codeAny_mono (F.run _ X.stack _ _ ⟨Value.ref (s.heap.objs.size + 1) :: us, ks.zip ws⟩ zs vc (fun v H2 => v = .non ∧ Q (.ref (s.heap.objs.size + 1)) H2) (fun cls d H2 => W cls d σ H2) _ _ _ (hr.make C us _)
    ?_ (I2.env0.make C us _) b r3 (by rw [r3.length]; exact lz) R1 d3 ?_) fun r s' hq' => ?_))
  · first | exact hgd | simpa [Around.under, Code.isGuard, guardIds] using hgd
  · cases ec : code (g (.ref h.length :: xs) ys) (h ++ [.ins c []]) with
    | ok v h' =>
      rw [ec] at q
      intro v' m' H' e' R' d'
      cases v with
      | non =>
        cases d'.dv (fun _ => MV.noConfusion)
        exact ⟨rfl, q (.ref (s.heap.objs.size + 1)) m' H' (e1.trans e') R' (.v (.ref (e'.get hn)))⟩
      | _ => exact q.elim
    | exc y h' =>
      rw [ec] at q
      exact fun cls d m' H' e' R' x => q cls d m' H' (e1.trans e') R' x
    | stuck => rw [ec] at q; exact q
  · cases r with
    | error e => exact tk e s' (XE.of_call I2 (fun cls d H' h => h) hq')
    | ok fl =>
      cases fl with
      | ret u =>
        obtain ⟨v, H', I3, rv, ev, q3⟩ := I2.after hq'
        subst ev
        exact ⟨rv, ⟨V.ref (s.heap.objs.size + 1), H', I3, rfl, q3⟩⟩
      | _ => exact False.elim hq'
end
end Mi

set_option maxHeartbeats 400000
/-! ### makers' calls; how arguments are bound; a law's end -/
namespace Mi
open PySem PySem.Spec PyProof.Rows L2
section
variable {K : PySem.W.Frag} {mg : Str → Option Value} {X : Cx} {W : WX} {m : List Addr} {H : Hp} {h : MH} {σ : L2.St} {k n j : Nat} {f C : Addr} {fd : FuncData} {ps ks : List Str} {g : List MV → List MV → List MV} {code : MF} {c : Str} {p pos : Pos} {e : Expr} {es : List Expr} {kws : List Keyword} {AL KL : MA}
variable (F : FnM X.prog X.w K mg X.base k f fd ps code) (hr : Room (k + 1) X.A) (hgd : X.A.guards = some []) (hb : BnM K mg fd ps (n + 1) ks g) (tk : Takes X W) (M : Mk K C f) (hC : mg c = some (.ref C))
include F hr hgd hb tk M hC
theorem se_make (hg : Gl X c) (hks : ks = []) (ha : SA K mg W X (e :: es) AL) (l : LenA AL n) (hK : X.K = K := by rfl) (hM : X.mg = mg := by rfl)
    (hdb : (c == ("__debug__" : Str)) = false := by decide) (he : starEach (e :: es) X.env = (false, eval e X.env) :: starEach es X.env := by rfl) (hpl : (backTo pos (starEach es X.env)).any (·.1) = false := by rfl) :
    SE K mg W X (.Call (.Name c p) (e :: es) [] pos) (eMake c g code AL aNil) := by
  subst hK hM hks
  refine ⟨fun pins s σ H Q I ⟨m, σm, h, R, S, q⟩ => wpAny_Call_Name_kw (ld_glob I hg hC ?_ hdb)⟩
  refine PySem.W.callWith_K (h₀ := X.base) I.ok.mod.kin M.kp (thn (ha.run pos pins s σ H (fun vs H1 => ∃ m1 h1 xs, xs.length = n ∧ Rep X.K X.mg m1 H1 h1 ∧ DvAll X.K X.mg m1 H1 xs vs ∧ rg X.K X.mg (DV X.K X.mg) W σ m1 H1 ((code (g (.ref h1.length :: xs) []) (h1 ++ [.ins c []])).bind fun v h3 => match v with
      | .non => .ok (.ref h1.length) h3
      | _ => .stuck) Q) I ⟨m, σm, h, R, S, ?_⟩) fun us s1 ⟨vs, H1, I1, r, m1, h1, xs, lx, R1, d1, q1⟩ => ⟨I1.kIn, ?_⟩) he hpl
  · unfold eMake at q
    cases ea : AL σm h with
    | ok xs h1 => rw [ea] at q; exact fun vs m1 H1 e1 R1 d1 => ⟨m1, h1, xs, l _ _ _ _ ea, R1, d1, rg.ext dmV e1 R1 q⟩
    | exc y h1 => rw [ea] at q; exact q
    | stuck => rw [ea] at q; exact q
  · exact run_makeM (ws := []) (vb := []) (ys := []) M hC F hr hgd hb tk I1 r .nil ((lenA_of d1 r).trans lx) rfl R1 d1 .nil q1
theorem se_make0 (hg : Gl X c) (hks : ks = []) (hn : n = 0) (hK : X.K = K := by rfl) (hM : X.mg = mg := by rfl) (hdb : (c == ("__debug__" : Str)) = false := by decide) : SE K mg W X (.Call (.Name c p) [] [] pos) (eMake c g code aNil aNil) := by
  subst hK hM hks hn
  refine ⟨fun pins s σ H Q I ⟨m, σm, h, R, S, q⟩ => wpAny_Call_Name_kw (ld_glob I hg hC ?_ hdb)⟩
  exact PySem.W.callWith_K0 I.kIn M.kp (run_makeM (us := []) (va := []) (xs := []) (ws := []) (vb := []) (ys := []) M hC F hr hgd hb tk I .nil .nil rfl rfl R .nil .nil q)
theorem se_makeK {j : Nat} (hg : Gl X c) (ha : SA K mg W X (e :: es) AL) (l : LenA AL n) (hkw : SK K mg W X kws KL) (l2 : LenA KL j) (hj : j = ks.length) (hK : X.K = K := by rfl) (hM : X.mg = mg := by rfl)
    (hall : (backToKw pos (keywordEach kws X.env)).all (·.1.isSome) = true := by rfl) (hks : (backToKw pos (keywordEach kws X.env)).filterMap (·.1) = ks := by rfl)
    (hdb : (c == ("__debug__" : Str)) = false := by decide) (he : starEach (e :: es) X.env = (false, eval e X.env) :: starEach es X.env := by rfl)
    (hpl : ((backTo pos (starEach (e :: es) X.env)).any (·.1) || (backToKw pos (keywordEach kws X.env)).any (·.1.isNone)) = false := by rfl) :
    SE K mg W X (.Call (.Name c p) (e :: es) kws pos) (eMake c g code AL KL) := by
  subst hK hM hj
  refine ⟨fun pins s σ H Q I ⟨m, σm, h, R, S, q⟩ => wpAny_Call_Name_kw (ld_glob I hg hC ?_ hdb)⟩
  unfold eMake at q
  refine PySem.W.callWith_KW (h₀ := X.base) I.ok.mod.kin M.kp hall (thn (ha.run pos pins s σ H (fun vs H1 => ∃ m1 h1 xs, xs.length = n ∧ Ext m H m1 H1 ∧ Rep X.K X.mg m1 H1 h1 ∧ DvAll X.K X.mg m1 H1 xs vs ∧ rg X.K X.mg (DV X.K X.mg) W σ m1 H1 ((KL σm h1).bind fun ys h2 => (code (g (.ref h2.length :: xs) ys) (h2 ++ [.ins c []])).bind fun v h3 => match v with
      | .non => .ok (.ref h2.length) h3
      | _ => .stuck) Q) I ⟨m, σm, h, R, S, ?_⟩) fun us s1 ⟨vs, H1, I1, r, m1, h1, xs, lx, e1, R1, d1, q1⟩ => ?_) hpl he
  · cases ea : AL σm h with
    | ok xs h1 => rw [ea] at q; exact fun vs m1 H1 e1 R1 d1 => ⟨m1, h1, xs, l _ _ _ _ ea, e1, R1, d1, rg.ext dmV e1 R1 q⟩
    | exc y h1 => rw [ea] at q; exact q
    | stuck => rw [ea] at q; exact q
  · refine thn (hkw.run pos pins s1 σ H1 (fun vs2 H2 => ∃ m2 h2 ys, ys.length = ks.length ∧ Rep X.K X.mg m2 H2 h2 ∧ DvAll X.K X.mg m2 H2 xs vs ∧ DvAll X.K X.mg m2 H2 ys vs2 ∧ rg X.K X.mg (DV X.K X.mg) W σ m2 H2 ((code (g (.ref h2.length :: xs) ys) (h2 ++ [.ins c []])).bind fun v h3 => match v with
      | .non => .ok (.ref h2.length) h3
      | _ => .stuck) Q) I1 ⟨m1, σm, h1, R1, S.mono e1.gro, ?_⟩) fun ws s2 ⟨zs, H2, I2, rz, m2, h2, ys, ly, R2, d2, d3, q2⟩ => ⟨I2.kIn, ?_⟩
    · cases ea : KL σm h1 with
      | ok ys h2 => rw [ea] at q1; exact fun vs m2 H2 e2 R2 d2 => ⟨m2, h2, ys, l2 _ _ _ _ ea, R2, d1.mono e2.gro, d2, rg.ext dmV e2 R2 q1⟩
      | exc y h1 => rw [ea] at q1; exact q1
      | stuck => rw [ea] at q1; exact q1
    · rw [hks]
      exact run_makeM M hC F hr hgd hb tk I2 r rz ((lenA_of d2 r).trans lx) ((lenA_of d3 rz).trans ly) R2 d2 d3 q2
theorem se_makeK0 {j : Nat} (hg : Gl X c) (hn : n = 0) (hkw : SK K mg W X kws KL) (l2 : LenA KL j) (hj : j = ks.length) (hK : X.K = K := by rfl) (hM : X.mg = mg := by rfl)
    (hall : (backToKw pos (keywordEach kws X.env)).all (·.1.isSome) = true := by rfl) (hks : (backToKw pos (keywordEach kws X.env)).filterMap (·.1) = ks := by rfl) (hdb : (c == ("__debug__" : Str)) = false := by decide)
    (hpl : ((backTo pos (starEach [] X.env)).any (·.1) || (backToKw pos (keywordEach kws X.env)).any (·.1.isNone)) = false := by rfl) : SE K mg W X (.Call (.Name c p) [] kws pos) (eMake c g code aNil KL) := by
  subst hK hM hj hn
  refine ⟨fun pins s σ H Q I ⟨m, σm, h, R, S, q⟩ => wpAny_Call_Name_kw (ld_glob I hg hC ?_ hdb)⟩
  refine PySem.W.callWith_KW0 (h₀ := X.base) I.ok.mod.kin M.kp hall ?_ hpl
  refine thn (hkw.run pos pins s σ H (fun vs2 H2 => ∃ m2 h2 ys, ys.length = ks.length ∧ Rep X.K X.mg m2 H2 h2 ∧ DvAll X.K X.mg m2 H2 ys vs2 ∧ rg X.K X.mg (DV X.K X.mg) W σ m2 H2 ((code (g [.ref h2.length] ys) (h2 ++ [.ins c []])).bind fun v h3 => match v with
      | .non => .ok (.ref h2.length) h3
      | _ => .stuck) Q) I ⟨m, σm, h, R, S, ?_⟩) fun ws s2 ⟨zs, H2, I2, rz, m2, h2, ys, ly, R2, d3, q2⟩ => ⟨I2.kIn, ?_⟩
  · have q : rg X.K X.mg (DV X.K X.mg) W σ m H ((KL σm h).bind fun ys h2 => (code (g [.ref h2.length] ys) (h2 ++ [.ins c []])).bind fun v h3 => match v with
      | .non => .ok (.ref h2.length) h3
      | _ => .stuck) Q := q
    cases ea : KL σm h with
    | ok ys h2 => rw [ea] at q; exact fun vs m2 H2 e2 R2 d2 => ⟨m2, h2, ys, l2 _ _ _ _ ea, R2, d2, rg.ext dmV e2 R2 q⟩
    | exc y h1 => rw [ea] at q; exact q
    | stuck => rw [ea] at q; exact q
  · rw [hks]
    exact run_makeM (us := []) (va := []) (xs := []) M hC F hr hgd hb tk I2 .nil rz rfl ((lenA_of d3 rz).trans ly) R2 .nil d3 q2
end
/-! #### how arguments are bound -/
inductive Src where
  | p (i : Nat) | d (i : Nat) | m (i : Nat) | k (i : Nat)
/-- the parameters' values: positional ones, defaults, lacking keyword-only ones, keywords -/
def gI1 {α : Type} (s : Src) (us ds mz ws : List α) : Option α := match s with
  | .p i => us[i]?
  | .d i => ds[i]?
  | .m i => mz[i]?
  | .k i => ws[i]?
def gI {α : Type} (src : List Src) (us ds mz ws : List α) : List α := match src with
  | [] => []
  | s :: r => (gI1 s us ds mz ws).toList ++ gI r us ds mz ws
theorem Vals.get2 {xs : List V} {us : List Value} (r : Vals xs us) (i : Nat) : (xs[i]? = none ∧ us[i]? = none) ∨ ∃ x u, xs[i]? = some x ∧ us[i]? = some u ∧ RelV x u := by
  cases e : xs[i]? with
  | none => exact .inl ⟨rfl, r.none_of e⟩
  | some x =>
    obtain ⟨u, h1, h2⟩ := r.get e
    exact .inr ⟨x, u, rfl, h1, h2⟩
theorem gI_vals {va da ma ka : List V} {us ds mz ws : List Value} (r1 : Vals va us) (r2 : Vals da ds) (r3 : Vals ma mz) (r4 : Vals ka ws) : ∀ src : List Src, Vals (gI src va da ma ka) (gI src us ds mz ws)
  | [] => .nil
  | s :: src => by
    refine Vals.append ?_ (gI_vals r1 r2 r3 r4 src)
    have step : ∀ {a : Option V} {b : Option Value}, ((a = none ∧ b = none) ∨ ∃ x u, a = some x ∧ b = some u ∧ RelV x u) → Vals a.toList b.toList := fun {a b} z => by
      rcases z with ⟨rfl, rfl⟩ | ⟨x, u, rfl, rfl, r⟩
      · exact .nil
      · exact .cons r .nil
    cases s with
    | p i => exact step (Vals.get2 r1 i)
    | d i => exact step (Vals.get2 r2 i)
    | m i => exact step (Vals.get2 r3 i)
    | k i => exact step (Vals.get2 r4 i)
section
variable {K : PySem.W.Frag} {mg : Str → Option Value} {m : List Addr} {H : Hp}
theorem DvAll.get2 {xs : List MV} {us : List V} (r : DvAll K mg m H xs us) (i : Nat) : (xs[i]? = none ∧ us[i]? = none) ∨ ∃ x u, xs[i]? = some x ∧ us[i]? = some u ∧ Dv K mg m H x u := by
  cases e : xs[i]? with
  | none =>
    refine .inl ⟨rfl, ?_⟩
    have := List.getElem?_eq_none_iff.mp e
    rw [r.length] at this
    exact List.getElem?_eq_none_iff.mpr this
  | some x =>
    obtain ⟨u, h1, h2⟩ := r.get e
    exact .inr ⟨x, u, rfl, h1, h2⟩
theorem gI_dv {va da ma ka : List MV} {us ds mz ws : List V} (r1 : DvAll K mg m H va us) (r2 : DvAll K mg m H da ds) (r3 : DvAll K mg m H ma mz) (r4 : DvAll K mg m H ka ws) : ∀ src : List Src, DvAll K mg m H (gI src va da ma ka) (gI src us ds mz ws)
  | [] => .nil
  | s :: src => by
    refine DvAll.append ?_ (gI_dv r1 r2 r3 r4 src)
    have step : ∀ {a : Option MV} {b : Option V}, ((a = none ∧ b = none) ∨ ∃ x u, a = some x ∧ b = some u ∧ Dv K mg m H x u) → DvAll K mg m H a.toList b.toList := fun {a b} z => by
      rcases z with ⟨rfl, rfl⟩ | ⟨x, u, rfl, rfl, r⟩
      · exact .nil
      · exact .cons r .nil
    cases s with
    | p i => exact step (DvAll.get2 r1 i)
    | d i => exact step (DvAll.get2 r2 i)
    | m i => exact step (DvAll.get2 r3 i)
    | k i => exact step (DvAll.get2 r4 i)
/-- constants as default values -/
def cV : MV → V
  | .bl b => .bl b
  | .int i => .int i
  | .str x => .str x
  | _ => .non
def isC : MV → Bool
  | .non | .bl _ | .int _ | .str _ => true
  | _ => false
theorem dv_const : ∀ {xs : List MV}, xs.all isC = true → DvAll K mg m H xs (xs.map cV)
  | [], _ => .nil
  | x :: xs, h => by
    rw [List.all_cons, Bool.and_eq_true] at h
    refine .cons ?_ (dv_const h.2)
    cases x with
    | non => exact .non
    | bl b => exact .bl b
    | int i => exact .int i
    | str x => exact .str x
    | _ => cases h.1
end
section
variable {K : PySem.W.Frag} {mg : Str → Option Value} {x qual : Str} {params : Arguments} {body : List Stmt} {scope : Scope} {f : Addr} {fd : FuncData} {ps : List Str}
/-- no defaults -/
theorem bnN (F : FunD K x qual params body scope [] [] f fd) (n : Nat) (ks : List Str) (src : List Src) (hl : ∀ us ws : List Value, us.length = n → ws.length = ks.length → (gI src us [] [] ws).length = ps.length)
    (h : ∀ (kV doc pm : Value) (an : Option Addr) (cdv ct : Value) (us ws : List Value), us.length = n → ws.length = ks.length → bindArgs (PySem.W.fnOf x qual params body scope .none kV doc pm an cdv ct) ⟨us, ks.zip ws⟩ = pure (ps.zip (gI src us [] [] ws))) : BnM K mg fd ps n ks (fun xs ys => gI src xs [] [] ys) := by
  obtain ⟨oc, od, dV, kV, doc, pm, an, cdv, ct, osl, rfl, lk, hcd, hD, hK⟩ := F.ex
  rcases hD with ⟨_, rfl⟩ | ⟨e, _⟩
  · exact ⟨fun s us ws _ e1 e2 => ⟨gI src us [] [] ws, .of_eq (h kV doc pm an cdv ct us ws e1 e2), hl us ws e1 e2, fun m H xs ys va vb d1 r1 d2 r2 => ⟨gI src va [] [] vb, gI_dv d1 .nil .nil d2 src, gI_vals r1 .nil .nil r2 src⟩⟩⟩
  · exact absurd rfl e
/-- positional defaults -/
theorem bnT {dvs : List V} {dms : List MV} (F : FunD K x qual params body scope dvs [] f fd) (n : Nat) (ks : List Str) (src : List Src) (hd : dvs ≠ []) (hdm : dms.map cV = dvs) (hc : dms.all isC = true) (hl : ∀ us its ws : List Value, us.length = n → its.length = dms.length → ws.length = ks.length → (gI src us its [] ws).length = ps.length)
    (h : ∀ (T : Addr) (kV doc pm : Value) (an : Option Addr) (cdv ct : Value) (us its ws : List Value), us.length = n → its.length = dvs.length → ws.length = ks.length →
      ∃ k, bindArgs (PySem.W.fnOf x qual params body scope (.ref T) kV doc pm an cdv ct) ⟨us, ks.zip ws⟩ = seqItems? (.ref T) >>= k ∧ k (some its.toArray) = pure (ps.zip (gI src us its [] ws))) : BnM K mg fd ps n ks (fun xs ys => gI src xs dms [] ys) := by
  obtain ⟨oc, od, dV, kV, doc, pm, an, cdv, ct, osl, rfl, lk, hcd, hD, hK⟩ := F.ex
  rcases hD with ⟨e, _⟩ | ⟨_, T, o, its, mm, rfl, lT, oT, rT⟩
  · exact absurd e hd
  · have li : its.length = dms.length := by rw [← rT.length, ← hdm, List.length_map]
    refine ⟨fun s us ws kin e1 e2 => ⟨gI src us its [] ws, ?_, hl us its ws e1 li e2, fun m H xs ys va vb d1 r1 d2 r2 => ⟨gI src va dvs [] vb, ?_, gI_vals r1 rT .nil r2 src⟩⟩⟩
    · obtain ⟨k, q1, q2⟩ := h T kV doc pm an cdv ct us its ws e1 rT.length.symm e2
      refine BindsTo.of_looks fun M => ?_
      rw [q1]
      exact looks_items kin lT oT (.of_pure q2)
    · rw [← hdm]
      exact gI_dv d1 (dv_const hc) .nil d2 src
/-- keyword-only parameters with defaults -/
theorem bnD {kws : List (Str × V)} {mms : List MV} (F : FunD K x qual params body scope [] kws f fd) (n : Nat) (ks : List Str) (src : List Src) (ms : List (Str × V)) (hk : kws ≠ []) (hms : ∀ q ∈ ms, q ∈ kws) (hmm : mms.map cV = ms.map (·.2)) (hc : mms.all isC = true)
    (hl : ∀ us mv ws : List Value, us.length = n → mv.length = ms.length → ws.length = ks.length → (gI src us [] mv ws).length = ps.length)
    (h : ∀ (D : Addr) (doc pm : Value) (an : Option Addr) (cdv ct : Value) (us mv ws : List Value), us.length = n → mv.length = ms.length → ws.length = ks.length →
      KwChain D ((ms.map (·.1)).zip mv) (bindArgs (PySem.W.fnOf x qual params body scope .none (.ref D) doc pm an cdv ct) ⟨us, ks.zip ws⟩) (ps.zip (gI src us [] mv ws))) : BnM K mg fd ps n ks (fun xs ys => gI src xs [] mms ys) := by
  obtain ⟨oc, od, dV, kV, doc, pm, an, cdv, ct, osl, rfl, lk, hcd, hD, hK⟩ := F.ex
  rcases hD with ⟨_, rfl⟩ | ⟨e, _⟩
  · rcases hK with e | ⟨D, rfl, hq⟩
    · exact absurd e hk
    · obtain ⟨mv, lm, rk, hks⟩ := kwd_vals (ms := ms) fun q hm => hq q (hms q hm)
      refine ⟨fun s us ws kin e1 e2 => ⟨gI src us [] mv ws, BindsTo.of_looks fun M => KwChain.looks kin hks (h D doc pm an cdv ct us mv ws e1 lm e2), hl us mv ws e1 lm e2, fun m H xs ys va vb d1 r1 d2 r2 => ⟨gI src va [] (ms.map (·.2)) vb, ?_, gI_vals r1 .nil rk r2 src⟩⟩⟩
      rw [← hmm]
      exact gI_dv d1 .nil (dv_const hc) d2 src
  · exact absurd rfl e
end
/-! #### the end of a law -/
theorem callM {P : Program} {w : World} {K : PySem.W.Frag} {mg mb : Str → Option Value} {k : Nat} {fa a : Addr} {fd : FuncData} {x : Str} {code : MF} {z : Shared} {vs : List Value} {ns : List Int} (kin : K.In z.heap) (hns : z.heap.Ns mainGlobals mg) (hbn : z.heap.Ns builtinsNs mb)
    (hbb : ∀ x : Str, x ≠ "__name__" → mb x = bootBuiltins x) (hlim : z.heap.NoLimit) (hg : z.gens = #[]) (ha : z.heap.get? a = some { cls := .type "list", data := .seq vs.toArray }) (hi : IntsAre vs ns) (hl : ns.length ≤ sizeLine) (hr : Room k callerA)
    (F : ∀ base : Heap, K.In base → base.Ns mainGlobals mg → FnM P w K mg base k fa fd [x] code) (hbind : ∀ (s : Shared) (u : Value), BindsTo s fd ⟨[u], []⟩ [(x, u)]) (hc : ∃ h', code [.con (ns.map MV.int)] [] = .ok (.bl true) h') :
    codeAny (model P w) callerA (.call (.ref fa) ⟨[.ref a], []⟩) (fun r t => r = .ok (.ret (.bool true)) ∧ OldK z.heap t.heap ∧ t.os = z.os ∧ AllBare t.gens) z := by
  have rv := vals_ints hi
  have lv := hi.length
  have dvi : ∀ {m : List Addr} {H : Hp} (l : List Int), DvAll K mg m H (l.map MV.int) (l.map V.int) := fun {m H} l => by
    induction l with
    | nil => exact .nil
    | cons i l ih => exact .cons (.int i) ih
  have main : ∀ H : Hp, HOk P w H z.heap → (∀ b, H b ≠ none → b = a ∧ K.lookup a = none ∧ H a = some (.frz { cls := .type "list", data := .seq vs.toArray } (.lst (ns.map V.int)))) → Dv K mg [] H (.con (ns.map MV.int)) (.ref a) →
      codeAny (model P w) callerA (.call (.ref fa) ⟨[.ref a], []⟩) (fun r t => r = .ok (.ret (.bool true)) ∧ OldK z.heap t.heap ∧ t.os = z.os ∧ AllBare t.gens) z := by
    intro H hok only dv
    have free : ∀ {b : Addr} {o : Obj}, z.heap.get? b = some o → (∀ its n, o.data ≠ .seq its n) → H b = none := fun {b o} e nd => by
      cases q : H b with
      | none => rfl
      | some u =>
        obtain ⟨rfl, _⟩ := only b (by rw [q]; simp)
        rw [ha] at e
        cases e
        exact absurd rfl (nd _ _)
    have ns1 : ∀ {b : Addr} {mm : Str → Option Value}, z.heap.Ns b mm → (hidT z.heap H).Ns b mm := fun {b mm} ⟨o, es, ep, e, d, r⟩ => ⟨o, es, ep, hidT_get e (free e fun _ _ y => by rw [d] at y; cases y), d, r⟩
    have kb : K.In (hidT z.heap H) := fun b o e => hidT_get (kin b o e) (by
      cases q : H b with
      | none => rfl
      | some u =>
        obtain ⟨rfl, hk, _⟩ := only b (by rw [q]; simp)
        rw [hk] at e
        cases e)
    have md : Mod K mg (hidT z.heap H) := ⟨kb, ns1 hns, ⟨mb, ns1 hbn, hbb⟩, let ⟨mc, y1, y2⟩ := hlim; ⟨mc, ns1 y1, y2⟩⟩
    have e0 : Env0 P w K mg (hidT z.heap H) callerA [] z H := ⟨rfl, md, fun b o e => of_hidT e, Nat.le_of_eq (hidT_size _ _), trivial, (fun b hb => nomatch (show b ∈ ([] : List Addr) from hb)), hok, .of_eq hg⟩
    obtain ⟨h', hc⟩ := hc
    have R0 : Rep K mg [] H [] := ⟨rfl, List.nodup_nil, fun n o a e => by simp at e⟩
    refine codeAny_mono ((F _ kb (ns1 hns)).run callerA [] z H ⟨[.ref a], []⟩ [.ref a] [.ref a] (fun v _ => v = .bl true) (fun _ _ _ => False) [] [] [.con (ns.map MV.int)] hr rfl e0 (hbind z (.ref a)) (.cons rfl .nil) rfl R0 (.cons dv .nil) ?_) fun r t y => ?_
    · rw [hc]
      intro v' m' H' _ _ d
      cases d.dv (fun _ => MV.noConfusion)
      rfl
    · cases r with
      | error e =>
        obtain ⟨_, _, _, _, _, _, _, _, _, _, _, _, no⟩ := y
        exact no.elim
      | ok fl =>
        cases fl with
        | ret u =>
          obtain ⟨v, H', os, bare, un, hok', r', q⟩ := y
          have q' : v = .bl true := q
          subst q'
          obtain rfl : u = Value.bool true := r'
          refine ⟨rfl, OldK.of_keep fun b o e => ?_, os, bare⟩
          cases q : H b with
          | none => exact un.keep b o e q (fun y => nomatch (show b ∈ ([] : List Addr) from y)) (by simp)
          | some u =>
            obtain ⟨rfl, _, fz⟩ := only b (by rw [q]; simp)
            obtain ⟨e1, _⟩ := hok b _ fz
            obtain ⟨e2, _⟩ := hok' b _ (un.frzs b _ _ fz)
            rw [e] at e1
            cases e1
            exact e2
        | _ => exact False.elim y
  cases hk : K.lookup a with
  | some o =>
    have e := kin a o hk
    rw [ha] at e
    cases e
    refine main (fun _ => none) (fun b u y => nomatch y) (fun b y => absurd rfl y) (.conK ⟨_, vs.toArray, _, hk, rfl, rfl, rfl, by rw [List.size_toArray, lv]; exact hl, by simpa using rv⟩ (dvi ns))
  | none =>
    have at_a : upd (fun _ => none) a (.frz { cls := .type "list", data := .seq vs.toArray } (.lst (ns.map V.int))) a = some _ := upd_same
    refine main (upd (fun _ => none) a (.frz { cls := .type "list", data := .seq vs.toArray } (.lst (ns.map V.int)))) (fun b u y => ?_) (fun b y => ?_) (.con at_a (by simp) (dvi ns))
    · by_cases hb : b = a
      · subst hb
        rw [upd_same] at y
        cases y
        exact ⟨ha, by rw [List.length_map]; exact hl, vs, _, rv, ha⟩
      · rw [upd_ne hb] at y
        cases y
    · by_cases hb : b = a
      · exact ⟨hb, hk, upd_same⟩
      · rw [upd_ne hb] at y
        exact absurd rfl y
/-- a law: F gives the written part, the def's meaning over every base -/
theorem walkM {l : PySem.W.OpenLaw} {n k : Nat} {q : Program} {loose : List Str} {XP : (Str → Option Value) → Heap → Prop} {YP : World → Heap → Prop} {d : DefRec} {x : Str} (hn : l.most = some n) (hn2 : n ≤ sizeLine) (hdf : d.params.defaults = []) (hr : Room k callerA)
    (F : ∀ (w : World) (mg : Str → Option Value) (fa : Addr) (h : Heap), YP w h → h.Ns mainGlobals mg → mg d.name = some (.ref fa) → ∃ (K : PySem.W.Frag) (fd : FuncData) (code : MF), K.In h ∧ (∀ (s : Shared) (u : Value), BindsTo s fd ⟨[u], []⟩ [(x, u)]) ∧
      (∀ ns : List Int, ns.length ≤ n → ∃ h', code [.con (ns.map MV.int)] [] = .ok (.bl true) h') ∧ ∀ base : Heap, K.In base → base.Ns mainGlobals mg → FnM l.prog w K mg base k fa fd [x] code) : PySem.W.WalkO q loose XP YP l.row.toRowW d [] (fun f vs => PySem.call f vs) := by
  refine Att.attach_call hn hdf fun w s₀ s₁ mg mb fa o pm cd doc a vs ns G Y ho hd hcd hmg hobj hints hlen hg => ?_
  obtain ⟨K, fd, code, kin, hb, hc, hF⟩ := F w mg fa _ Y G.T.g hmg
  exact callM kin G.T.g G.T.b G.T.builtins G.T.nolimit hg hobj hints (Nat.le_trans hlen hn2) hr hF hb (hc ns hlen)
end Mi

set_option maxHeartbeats 400000
namespace Mi
open PySem PySem.Spec PyProof.Rows L2
section
variable {K : PySem.W.Frag} {mg : Str → Option Value} {X : Cx} {W : WX}
theorem sv (i : Nat) {x : Str} {pos : Pos} (hN : X.N[i]? = some x := by rfl) (hv : Vis X.env.scope x := by first | exact Or.inl rfl | exact Or.inr (Or.inl rfl) | exact Or.inr (Or.inr rfl)) (hd : (x == ("__debug__" : Str)) = false := by decide) (hcd : (x == ("__classdict__" : Str)) = false := by decide) : SE K mg W X (.Name x pos) (eVar i) := se_var hN hv hd hcd
theorem atF {c f : Str} {C : Addr} (gl : mg c = some (.ref C)) (cl : Cls K C) (na : NoAttr K C f) : AtF K mg c f := fun C' h => by
  rw [gl] at h
  cases h
  exact ⟨cl, na⟩
/-- how arguments come to the parameters -/
def gb (src : List Src) (ds mz : List MV) (xs ys : List MV) : List MV := gI src xs ds mz ys
/-- a, b = e -/
def sAsgT (g : MG) (A : ME) : MSt := fun σ h => (eSet A σ h).st σ fun v h1 => (g v σ h1).st σ fun σ1 h2 => .next σ1 h2
theorem ss_asgT {t e : Expr} {A : ME} {g : MG} {vs : List Nat} {pos : Pos} (ha : SE K mg W X e A) (hg : SG K mg W X vs t g) (nx : NoX g) (hs : swapsWithSole [t] e pos.line X.env = pure false := by rfl) (hw : swappedStores [t] e X.env = pure none := by rfl)
    (h1 : (assignEach [t] X.env).map (·.2) = [assign t X.env] := by rfl) : SS K mg W X (.Assign [t] e pos) (sAsgT g A) := (ps_asg (se_set ha) hg hs hw h1).imp fun D σ H ⟨m, σm, h, R, S, q⟩ => by
  refine ⟨m, σm, h, R, S, ?_⟩
  unfold sAsgT at q
  cases ev : eSet A σm h with
  | stuck => rw [ev] at q; exact q.elim
  | exc x h1 => rw [ev] at q; exact fun cls d m' H' e' R' x => q cls d σ m' H' e' R' (S.mono e'.gro) x
  | ok v h1 =>
    rw [ev, Res.ok_st] at q
    intro v' m1 H1 e1 R1 d1
    have S1 := S.mono e1.gro
    refine ⟨m1, σm, h1, v, R1, S1, d1.dv (eSet_ns ev), rs.part S1 (rs.ext e1 R1 q) fun σ1 h2 s1 m2 H2 e2 R2 d2 q2 => ?_⟩
    exact q2 s1 m2 H2 e2 R2 d2.1
end
/-! ### the head's hook with facts of our own -/
abbrev AlB : Type := He.AlD × List Bool
def obsB (fa : List He.Fa) (fn : List He.DefD) (bs : List (PySem.W.Frag → Bool)) (K : PySem.W.Frag) : AlB := (He.obsD fa fn K, bs.map fun b => b K)
def valB (fn : List He.DefD) (bs : List (PySem.W.Frag → Bool)) : AlB := (He.valD fn, bs.map fun _ => true)
def SaysB (fa : List He.Fa) (fn : List He.DefD) (bs : List (PySem.W.Frag → Bool)) (K : PySem.W.Frag) : Prop := obsB fa fn bs K = valB fn bs
def obsBG (n : Nat) (fa : List He.Fa) (fn : List He.DefD) (bs : List (PySem.W.Frag → Bool)) (g : Addr → Option Obj) : AlB := obsB fa fn bs (He.frG g (He.asD g n))
def hookB (n : Nat) (fa : List He.Fa) (fn : List He.DefD) (bs : List (PySem.W.Frag → Bool)) : PySem.W.Hook where
  α := AlB
  obs := fun s => obsBG n fa fn bs s.heap.get?
  val := fun _ => valB fn bs
  says := fun _ h => ∃ K : PySem.W.Frag, K.In h ∧ SaysB fa fn bs K
  of := fun _ _ e => ⟨_, He.frG_in, e⟩
  keeps := fun _ _ _ ⟨K, hK, c⟩ k => ⟨K, PySem.W.Frag.In.keeps hK k, c⟩
theorem obsBG_eq {n : Nat} {fa : List He.Fa} {fn : List He.DefD} {bs : List (PySem.W.Frag → Bool)} {g : Addr → Option Obj} {s : Shared} (h : ∀ a, g a = s.heap.get? a) : obsBG n fa fn bs g = (hookB n fa fn bs).obs s := by
  have e : g = s.heap.get? := funext h
  rw [e] <;> rfl
theorem SaysB.d {fa : List He.Fa} {fn : List He.DefD} {bs : List (PySem.W.Frag → Bool)} {K : PySem.W.Frag} (c : SaysB fa fn bs K) : He.SaysD fa fn K := congrArg (fun z : AlB => z.1) c
theorem SaysB.own {fa : List He.Fa} {fn : List He.DefD} {bs : List (PySem.W.Frag → Bool)} {K : PySem.W.Frag} (c : SaysB fa fn bs K) (i : Nat) {b : PySem.W.Frag → Bool} (h : bs[i]? = some b := by rfl) : b K = true := by
  have e : bs.map (fun b => b K) = bs.map fun _ => true := congrArg (fun z : AlB => z.2) c
  have e2 : (bs.map fun b => b K)[i]? = (bs.map fun _ => true)[i]? := by rw [e]
  rw [List.getElem?_map, List.getElem?_map, h] at e2
  exact Option.some.inj e2
/-! own facts about exception classes -/
/-- the object of an exception class over ValueError, with a dict -/
def oexL (K : PySem.W.Frag) (C : Addr) : Bool := match K.lookup C with
  | some ⟨.type "type", _, .cls cd, sl⟩ => (match cd.mro, sl.toList with
    | .ref C' :: bm, [_, _, _, _, some (.builtin n), _] => C' == C && (n == "ValueError.__new__" && (!cd.hasDel && (cd.hasDict && PySem.HandSPX.refsVE bm)))
    | _, _ => false)
  | _ => false
def oexB (x : Str) (K : PySem.W.Frag) : Bool := oexL K (He.ga K x) && (decide (PySem.W.findIn K (.ref (He.ga K x)) "__setattr__" = some (some (.builtin "object.__setattr__"))) && (decide (PySem.W.subIn K (.ref (He.ga K x)) (.type "BaseException") = some true) &&
  (decide (PySem.W.typeIn K (.ref (He.ga K x)) = some (.type "type")) && PySem.W.keepIn K (.ref (He.ga K x)))))
theorem oexB_ok {x : Str} {K : PySem.W.Frag} (h : oexB x K = true) : OexC K (He.ga K x) := by
  obtain ⟨h1, h⟩ := Bool.and_eq_true_iff.mp h
  obtain ⟨h2, h⟩ := Bool.and_eq_true_iff.mp h
  obtain ⟨h3, h⟩ := Bool.and_eq_true_iff.mp h
  obtain ⟨h4, h5⟩ := Bool.and_eq_true_iff.mp h
  refine ⟨?_, of_decide_eq_true h2, of_decide_eq_true h3, of_decide_eq_true h4, h5⟩
  unfold oexL at h1
  split at h1
  · rename_i dd cd sl ho
    split at h1
    · rename_i C' bm k0 k1 k2 k3 n k5 hm hs
      simp only [Bool.and_eq_true, beq_iff_eq, Bool.not_eq_true'] at h1
      obtain ⟨rfl, rfl, hdel, hdic, hb⟩ := h1
      obtain ⟨nm, bs, mro, ns, qn, hd, sn, sub, ab, col, del⟩ := cd
      obtain ⟨sl⟩ := sl
      dsimp only at hm hdel hdic hs
      subst hm hdel hdic hs
      exact ⟨nm, qn, ns, bs, bm, sn, sub, ab, col, dd, k0, k1, k2, k3, k5, ho, hb⟩
    · cases h1
  · cases h1
/-- isinstance and fields of instances -/
def ecB (x : Str) (K : PySem.W.Frag) : Bool := xfB K (He.ga K x) && (decide (PySem.W.findIn K (.ref (He.ga K x)) "__class__" = some (some (.builtin "object.__class__"))) && (decide (PySem.W.specialIn K (.builtin "object.__class__") "__get__" = some (some (.builtin "getset_descriptor.__get__"))) &&
  (decide (PySem.W.takesIn K (.builtin "object.__class__") = some true) && decide (PySem.W.mroIn K (He.ga K x) (.type "object") = some true))))
theorem ecB_ok {x : Str} {K : PySem.W.Frag} (h : ecB x K = true) : ExcC K (He.ga K x) ∧ XfC K (He.ga K x) := by
  obtain ⟨h1, h⟩ := Bool.and_eq_true_iff.mp h
  obtain ⟨h2, h⟩ := Bool.and_eq_true_iff.mp h
  obtain ⟨h3, h⟩ := Bool.and_eq_true_iff.mp h
  obtain ⟨h4, h5⟩ := Bool.and_eq_true_iff.mp h
  have f := xfB_ok h1
  exact ⟨⟨f.ga, f.gg, f.exC, f.hdC, of_decide_eq_true h2, of_decide_eq_true h3, of_decide_eq_true h4, of_decide_eq_true h5⟩, f⟩
def kitF (x y : Str) (b : Bool) (K : PySem.W.Frag) : Bool := decide (PySem.W.kitOne K (.ref (He.ga K x)) (.ref (He.ga K y)) = some b)
theorem kitF_ok {x y : Str} {b : Bool} {K : PySem.W.Frag} (h : kitF x y b K = true) : PySem.W.kitOne K (.ref (He.ga K x)) (.ref (He.ga K y)) = some b := of_decide_eq_true h
def noatB (x f : Str) (K : PySem.W.Frag) : Bool := decide (PySem.W.findIn K (.ref (He.ga K x)) f = some none)
theorem noatB_ok {x f : Str} {K : PySem.W.Frag} (h : noatB x f K = true) : PySem.W.findIn K (.ref (He.ga K x)) f = some none := of_decide_eq_true h
/-- x.__init__ is ValueError's -/
structure LeC (K : PySem.W.Frag) (C : Addr) : Prop where
  rd : PySem.W.readsIn K C (.type "type") = true
  ga : PySem.W.specialIn K (.ref C) "__getattribute__" = some (some (.builtin "type.__getattribute__"))
  vV : PySem.W.findCls K (.ref C) (.type "type") "__init__" = some (.val (.builtin "ValueError.__init__"))
def leB (x : Str) (K : PySem.W.Frag) : Bool := PySem.W.readsIn K (He.ga K x) (.type "type") && (decide (PySem.W.specialIn K (.ref (He.ga K x)) "__getattribute__" = some (some (.builtin "type.__getattribute__"))) && (match PySem.W.findCls K (.ref (He.ga K x)) (.type "type") "__init__" with
  | some (.val (.builtin n)) => n == "ValueError.__init__"
  | _ => false))
theorem leB_ok {x : Str} {K : PySem.W.Frag} (h : leB x K = true) : LeC K (He.ga K x) := by
  obtain ⟨h1, h⟩ := Bool.and_eq_true_iff.mp h
  obtain ⟨h2, h3⟩ := Bool.and_eq_true_iff.mp h
  refine ⟨h1, of_decide_eq_true h2, ?_⟩
  split at h3
  · rename_i n e
    rw [e, beq_iff_eq.mp h3]
  · cases h3
end Mi

set_option maxHeartbeats 400000
/-! ### reckoning with plain meanings -/
namespace Mi
open PySem PySem.Spec PyProof.Rows L2
section
variable {α β : Type} {a : α} {h : MH} {σ : MS} {x : XV} {v : MV}
@[simp ↓] theorem bind_at {r : Res α} {f : α → MH → Res β} : r.bind f = match r with
  | .ok a h => f a h
  | .exc x h => .exc x h
  | .stuck => .stuck := id rfl
@[simp ↓] theorem bn_at {r : Res α} {f : α → MH → Res β} : r.bn f = match r with
  | .ok a h => f a h
  | _ => .stuck := id rfl
@[simp ↓] theorem st_at {r : Res α} {σ : MS} {f : α → MH → SR} : r.st σ f = match r with
  | .ok a h => f a h
  | .exc x h => .exc x σ h
  | .stuck => .stuck := id rfl
theorem bind_ok {f : α → MH → Res β} : (Res.ok a h).bind f = f a h := rfl
theorem bind_exc {f : α → MH → Res β} : (Res.exc x h : Res α).bind f = .exc x h := rfl
theorem bind_stuck {f : α → MH → Res β} : (Res.stuck : Res α).bind f = .stuck := rfl
theorem bn_ok {f : α → MH → Res β} : (Res.ok a h).bn f = f a h := rfl
theorem st_ok {f : α → MH → SR} : (Res.ok a h).st σ f = f a h := rfl
theorem st_exc {f : α → MH → SR} : (Res.exc x h : Res α).st σ f = .exc x σ h := rfl
def SR.thn (r : SR) (t : MSt) : SR := match r with
  | .next σ' h' => t σ' h'
  | r => r
def SR.out (r : SR) : Res MV := match r with
  | .ret v h' => .ok v h'
  | .next _ h' => .ok .non h'
  | .exc x _ h' => .exc x h'
  | _ => .stuck
@[simp ↓] theorem thn_at {r : SR} {t : MSt} : r.thn t = match r with
  | .next σ' h' => t σ' h'
  | r => r := id rfl
@[simp ↓] theorem out_at {r : SR} : r.out = match r with
  | .ret v h' => .ok v h'
  | .next _ h' => .ok .non h'
  | .exc x _ h' => .exc x h'
  | _ => .stuck := id rfl
theorem thn_next {t : MSt} : (SR.next σ h).thn t = t σ h := rfl
theorem thn_ret {t : MSt} : (SR.ret v h).thn t = .ret v h := rfl
theorem thn_exc {t : MSt} : (SR.exc x σ h).thn t = .exc x σ h := rfl
theorem thn_brk {t : MSt} : (SR.brk σ h).thn t = .brk σ h := rfl
theorem thn_cont {t : MSt} : (SR.cont σ h).thn t = .cont σ h := rfl
theorem out_ret : (SR.ret v h).out = .ok v h := rfl
theorem out_next : (SR.next σ h).out = .ok .non h := rfl
theorem out_exc : (SR.exc x σ h).out = .exc x h := rfl
end
section
variable {σ : MS} {h : MH} {A B C : ME} {T U : MT} {i j n : Nat} {v : MV} {s t : MSt} {AL KL : MA} {xs : List MV}
@[simp] theorem eVar_ap : eVar i σ h = match σ[i]? with
  | some (some v) => .ok v h
  | _ => .stuck := id rfl
@[simp] theorem eC_ap : eC v σ h = .ok v h := id rfl
@[simp] theorem eSet_ap : eSet A σ h = (A σ h).bind settle := id rfl
@[simp] theorem eUn_ap {op : MV → MH → Res MV} : eUn op A σ h = (A σ h).bind op := id rfl
@[simp] theorem eBin_ap {op : MV → MV → MH → Res MV} : eBin op A B σ h = (A σ h).bind fun x h1 => (B σ h1).bind fun y h2 => op x y h2 := id rfl
def tbK (v : MV) (h1 : MH) : Res Bool := match v with
  | .bl b => .ok b h1
  | _ => .stuck
@[simp] theorem tbK_bl {b : Bool} : tbK (.bl b) h = .ok b h := id rfl
@[simp] theorem tB_ap : tB A σ h = (A σ h).bind tbK := id rfl
def truK (v : MV) (h1 : MH) : Res Bool := match truM h1 v with
  | some b => .ok b h1
  | none => .stuck
@[simp] theorem truK_bl {b : Bool} : truK (.bl b) h = .ok b h := id rfl
@[simp] theorem tTru_ap : tTru A σ h = (A σ h).bind truK := id rfl
@[simp] theorem tAndM_ap : tAndM T U σ h = (T σ h).bind fun b h1 => if b = true then U σ h1 else .ok false h1 := id rfl
@[simp] theorem tOrM_ap : tOrM T U σ h = (T σ h).bind fun b h1 => if b = true then .ok true h1 else U σ h1 := id rfl
@[simp] theorem tNotM_ap : tNotM T σ h = (T σ h).bind fun b h1 => .ok (!b) h1 := id rfl
@[simp] theorem tYesM_ap : tYesM σ h = .ok true h := id rfl
def andK (σ : MS) (B : ME) (x : MV) (h1 : MH) : Res MV := match truM h1 x with
  | some true => B σ h1
  | some false => .ok x h1
  | none => .stuck
@[simp] theorem andK_t : andK σ B (.bl true) h = B σ h := id rfl
@[simp] theorem andK_f : andK σ B (.bl false) h = .ok (.bl false) h := id rfl
theorem andK_b {b : Bool} : andK σ B (.bl b) h = if b = true then B σ h else .ok (.bl false) h := by cases b <;> rfl
@[simp] theorem eAnd_ap : eAnd A B σ h = (A σ h).bind (andK σ B) := id rfl
def orK (σ : MS) (B : ME) (x : MV) (h1 : MH) : Res MV := match truM h1 x with
  | some true => .ok x h1
  | some false => B σ h1
  | none => .stuck
@[simp] theorem orK_t : orK σ B (.bl true) h = .ok (.bl true) h := id rfl
@[simp] theorem orK_f : orK σ B (.bl false) h = B σ h := id rfl
theorem orK_b {b : Bool} : orK σ B (.bl b) h = if b = true then .ok (.bl true) h else B σ h := by cases b <;> rfl
@[simp] theorem eOr_ap : eOr A B σ h = (A σ h).bind (orK σ B) := id rfl
def notK (x : MV) (h1 : MH) : Res MV := match truM h1 x with
  | some b => .ok (.bl (!b)) h1
  | none => .stuck
@[simp] theorem notK_bl {b : Bool} : notK (.bl b) h = .ok (.bl (!b)) h := id rfl
@[simp] theorem eNot_ap : eNot A σ h = (A σ h).bind notK := id rfl
@[simp] theorem eIf_ap : eIf T A B σ h = (T σ h).bind fun b h1 => if b = true then A σ h1 else B σ h1 := id rfl
def chK (op' : MV → MV → MH → Res MV) (y : MV) (C : ME) (σ : MS) (z : MV) (h3 : MH) : Res MV := match z with
  | .bl true => (C σ h3).bind fun w h4 => op' y w h4
  | .bl false => .ok (.bl false) h3
  | _ => .stuck
@[simp] theorem chK_t {op' : MV → MV → MH → Res MV} {y : MV} : chK op' y C σ (.bl true) h = (C σ h).bind fun w h4 => op' y w h4 := id rfl
@[simp] theorem chK_f {op' : MV → MV → MH → Res MV} {y : MV} : chK op' y C σ (.bl false) h = .ok (.bl false) h := id rfl
theorem chK_b {op' : MV → MV → MH → Res MV} {y : MV} {b : Bool} : chK op' y C σ (.bl b) h = if b = true then ((C σ h).bind fun w h4 => op' y w h4) else .ok (.bl false) h := by cases b <;> rfl
@[simp] theorem eChain_ap {op op' : MV → MV → MH → Res MV} : eChain op op' A B C σ h = (A σ h).bind fun x h1 => (B σ h1).bind fun y h2 => (op x y h2).bind (chK op' y C σ) := id rfl
@[simp] theorem aNil_ap : aNil σ h = .ok [] h := id rfl
@[simp] theorem aCons_ap : aCons A AL σ h = (A σ h).bind fun v h1 => (settle v h1).bind fun v h2 => (AL σ h2).bind fun vs h3 => .ok (v :: vs) h3 := id rfl
@[simp] theorem eTup_ap : eTup AL σ h = (AL σ h).bind fun xs h1 => .ok (.tup xs) h1 := id rfl
@[simp] theorem eLst_ap : eLst AL σ h = (AL σ h).bind fun xs h1 => .ok (.tmp xs) h1 := id rfl
@[simp] theorem eCB_ap {f : List MV → MH → Res MV} : eCB f AL σ h = (AL σ h).bind f := id rfl
@[simp] theorem eCB1_ap {f : MV → MH → Res MV} : eCB1 f A σ h = (A σ h).bind f := id rfl
@[simp] theorem settle_non : settle .non h = .ok .non h := id rfl
@[simp] theorem settle_bl {b : Bool} : settle (.bl b) h = .ok (.bl b) h := id rfl
@[simp] theorem settle_int {b : Int} : settle (.int b) h = .ok (.int b) h := id rfl
@[simp] theorem settle_str {b : Str} : settle (.str b) h = .ok (.str b) h := id rfl
@[simp] theorem settle_tup : settle (.tup xs) h = .ok (.tup xs) h := id rfl
@[simp] theorem settle_con : settle (.con xs) h = .ok (.con xs) h := id rfl
@[simp] theorem settle_ref : settle (.ref n) h = .ok (.ref n) h := id rfl
@[simp] theorem settle_ty {b : String} : settle (.ty b) h = .ok (.ty b) h := id rfl
@[simp] theorem settle_cls {b : Str} : settle (.cls b) h = .ok (.cls b) h := id rfl
@[simp] theorem settle_tmp : settle (.tmp xs) h = .ok (.ref h.length) (h ++ [.lst xs]) := id rfl
/-- a value that is no list in flight -/
def Set : MV → Prop
  | .tmp _ => False
  | _ => True
theorem settle_set (e : Set v) : settle v h = .ok v h := by cases v <;> first | rfl | cases e
def eM0K (f : MV → MH → Res MV) (x : MV) (h1 : MH) : Res MV := match x with
  | .str a => f (.str a) h1
  | _ => .stuck
@[simp] theorem eM0K_str {f : MV → MH → Res MV} {a : Str} : eM0K f (.str a) h = f (.str a) h := id rfl
@[simp] theorem eM0_ap {f : MV → MH → Res MV} : eM0 f A σ h = (A σ h).bind (eM0K f) := id rfl
def eM1K (f : MV → MV → MH → Res MV) (B : ME) (σ : MS) (x : MV) (h1 : MH) : Res MV := match x with
  | .str a => (B σ h1).bind fun y h2 => f (.str a) y h2
  | _ => .stuck
@[simp] theorem eM1K_str {f : MV → MV → MH → Res MV} {a : Str} : eM1K f B σ (.str a) h = (B σ h).bind fun y h2 => f (.str a) y h2 := id rfl
@[simp] theorem eM1_ap {f : MV → MV → MH → Res MV} : eM1 f A B σ h = (A σ h).bind (eM1K f B σ) := id rfl
@[simp] theorem eDic0_ap : eDic0 σ h = .ok (.ref h.length) (h ++ [.dic []]) := id rfl
@[simp] theorem eSl_ap {f : MV → Option Int → Option Int → MH → Res MV} {L U : MO'} : eSl f A L U σ h = (A σ h).bind fun x h1 => (L σ h1).bind fun lo h2 => (U σ h2).bind fun hi h3 => f x lo hi h3 := id rfl
@[simp] theorem oNo_ap : oNo σ h = .ok none h := id rfl
def oSoK (v : MV) (h : MH) : Res (Option Int) := match v with
  | .int i => .ok (some i) h
  | _ => .stuck
@[simp] theorem oSoK_int {i : Int} : oSoK (.int i) h = .ok (some i) h := id rfl
@[simp] theorem oSo_ap : oSo A σ h = (A σ h).bind oSoK := id rfl
@[simp] theorem eCall_ap {g : List MV → List MV → List MV} {code : MF} : eCall g code AL KL σ h = (AL σ h).bind fun xs h1 => (KL σ h1).bind fun ys h2 => code (g xs ys) h2 := id rfl
@[simp] theorem gb_ap {src : List Src} {ds mz ys : List MV} : gb src ds mz xs ys = gI src xs ds mz ys := id rfl
@[simp] theorem gI_nil {us ds mz ws : List MV} : gI [] us ds mz ws = [] := id rfl
@[simp] theorem gI_p {r : List Src} {us ds mz ws : List MV} : gI (.p i :: r) us ds mz ws = (us[i]?).toList ++ gI r us ds mz ws := id rfl
@[simp] theorem gI_d {r : List Src} {us ds mz ws : List MV} : gI (.d i :: r) us ds mz ws = (ds[i]?).toList ++ gI r us ds mz ws := id rfl
@[simp] theorem gI_k {r : List Src} {us ds mz ws : List MV} : gI (.k i :: r) us ds mz ws = (ws[i]?).toList ++ gI r us ds mz ws := id rfl
@[simp] theorem gI_m {r : List Src} {us ds mz ws : List MV} : gI (.m i :: r) us ds mz ws = (mz[i]?).toList ++ gI r us ds mz ws := id rfl
@[simp] theorem fnCode_ap {b : MSt} : fnCode n b xs h = (b (xs.map some ++ List.replicate (n - xs.length) none) h).out := id rfl
@[simp] theorem sNil_ap : sNil σ h = .next σ h := id rfl
@[simp] theorem sSeq_ap : sSeq s t σ h = (s σ h).thn t := id rfl
@[simp] theorem sAsg_ap : sAsg i A σ h = (A σ h).st σ fun v h1 => (settle v h1).st σ fun v h2 => .next (σ.set i (some v)) h2 := id rfl
@[simp] theorem sDrop_ap : sDrop A σ h = (A σ h).st σ fun _ h1 => .next σ h1 := id rfl
@[simp] theorem sRet_ap : sRet A σ h = (A σ h).st σ fun v h1 => .ret v h1 := id rfl
@[simp] theorem sRetN_ap : sRetN σ h = .ret .non h := id rfl
@[simp] theorem sIf_ap : sIf T s t σ h = (T σ h).st σ fun b h1 => if b = true then s σ h1 else t σ h1 := id rfl
@[simp] theorem sBrk_ap : sBrk σ h = .brk σ h := id rfl
@[simp] theorem sCont_ap : sCont σ h = .cont σ h := id rfl
def sSubK (o v : MV) (σ : MS) (i : MV) (h3 : MH) : SR := match setM o i v h3 with
  | some h4 => .next σ h4
  | none => .stuck
theorem sSubK_at {o v iv : MV} {h4 : MH} (e : setM o iv v h = some h4) : sSubK o v σ iv h = .next σ h4 := by unfold sSubK; rw [e]
@[simp] theorem sSub_ap {O I V : ME} : sSub O I V σ h = (eSet V σ h).st σ fun v h1 => (O σ h1).st σ fun o h2 => (I σ h2).st σ (sSubK o v σ) := id rfl
@[simp] theorem gN_ap : gN i v σ h = .ok (σ.set i (some v)) h := id rfl
@[simp] theorem eComp_ap {I : MI} {g : MG} {tt : MT} {te : ME} {vs : List Nat} : eComp I g tt te vs σ h = (I σ h).bind fun w h1 => compL w.still g tt te (wipeM σ vs) w.items [] h1 := id rfl
@[simp] theorem sFor_ap {I : MI} {g : MG} : sFor I g s σ h = (I σ h).st σ fun w h1 => sForL w.still g s w.items σ h1 := id rfl
@[simp] theorem wipe_nil : wipeM σ [] = σ := id rfl
@[simp] theorem wipe_cons {vs : List Nat} : wipeM σ (i :: vs) = (wipeM σ vs).set i none := id rfl
noncomputable def iSeqK (v : MV) (h1 : MH) : Res MW := match v with
  | .str z => .ok ⟨signs z, fun _ => true⟩ h1
  | .tup xs => .ok ⟨xs, fun _ => true⟩ h1
  | v => match asL h1 v with
    | some xs => .ok ⟨xs, stillL v xs⟩ h1
    | none => .stuck
@[simp] theorem iSeq_ap : iSeq A σ h = (A σ h).bind iSeqK := id rfl
@[simp] theorem iSeqK_str {z : Str} : iSeqK (.str z) h = .ok ⟨signs z, fun _ => true⟩ h := id rfl
@[simp] theorem iSeqK_tup : iSeqK (.tup xs) h = .ok ⟨xs, fun _ => true⟩ h := id rfl
@[simp] theorem iSeqK_tmp : iSeqK (.tmp xs) h = .ok ⟨xs, fun _ => true⟩ h := id rfl
@[simp] theorem iSeqK_con : iSeqK (.con xs) h = .ok ⟨xs, fun _ => true⟩ h := id rfl
theorem iSeqK_ref (e : h[n]? = some (.lst xs)) : iSeqK (.ref n) h = .ok ⟨xs, stillL (.ref n) xs⟩ h := by
  unfold iSeqK
  simp only [asL, e]
noncomputable def iR1K (vs : List MV) (h1 : MH) : Res MW := match vs with
  | [.int j] => @ite _ (-(2 ^ 62) ≤ j ∧ j < 2 ^ 62) (Classical.propDecidable _) (.ok ⟨upInts 0 j.toNat, fun _ => true⟩ h1) .stuck
  | _ => .stuck
@[simp] theorem iR1_ap : iR1 AL σ h = (AL σ h).bind iR1K := id rfl
theorem iR1K_int {j : Int} (a : -(2 ^ 62) ≤ j ∧ j < 2 ^ 62) : iR1K [.int j] h = .ok ⟨upInts 0 j.toNat, fun _ => true⟩ h := by
  exact if_pos a
end
/-! #### walks -/
section
variable {ι : Type} {st : MH → Bool} {g : MG} {tt : MT} {te : ME} {σ : MS} {s : MSt}
/-- a comprehension that changes nothing -/
theorem compL_pure (φ : ι → MV) (p : ι → Bool) (e : ι → MV) (h : MH) (hs : st h = true) : ∀ (l : List ι) (acc : List MV), acc.length + l.length ≤ sizeLine →
    (∀ x ∈ l, ∃ σ1, g (φ x) σ h = .ok σ1 h ∧ tt σ1 h = .ok (p x) h ∧ (p x = true → eSet te σ1 h = .ok (e x) h)) →
    compL st g tt te σ (l.map φ) acc h = .ok (.tmp (acc ++ (l.filter p).map e)) h
  | [], acc, _, _ => by simp [compL, hs]
  | x :: l, acc, len, H => by
    obtain ⟨σ1, e1, e2, e3⟩ := H x (List.mem_cons_self ..)
    rw [List.length_cons] at len
    show (if st h = true then (g (φ x) σ h).bn fun σ1 h1 => (tt σ1 h1).bn fun b h2 => if b = true then (if acc.length < sizeLine then ((eSet te) σ1 h2).bn fun v h4 => compL st g tt te σ (l.map φ) (acc ++ [v]) h4 else .stuck) else compL st g tt te σ (l.map φ) acc h2 else .stuck) = _
    rw [if_pos hs, e1, Res.ok_bn, e2, Res.ok_bn]
    cases q : p x with
    | true =>
      rw [if_pos rfl, if_pos (by omega), e3 q, Res.ok_bn, compL_pure φ p e h hs l (acc ++ [e x]) (by rw [List.length_append, List.length_singleton]; omega) fun y hy => H y (List.mem_cons_of_mem _ hy), List.filter_cons_of_pos q, List.map_cons, List.append_assoc]
      rfl
    | false =>
      rw [if_neg (by decide), compL_pure φ p e h hs l acc (by omega) fun y hy => H y (List.mem_cons_of_mem _ hy), List.filter_cons_of_neg (by rw [q]; decide)]
theorem compL_map (φ : ι → MV) (e : ι → MV) (h : MH) (hs : st h = true) (l : List ι) (len : l.length ≤ sizeLine)
    (H : ∀ x ∈ l, ∃ σ1, g (φ x) σ h = .ok σ1 h ∧ tt σ1 h = .ok true h ∧ eSet te σ1 h = .ok (e x) h) : compL st g tt te σ (l.map φ) [] h = .ok (.tmp (l.map e)) h := by
  have q := compL_pure φ (fun _ => true) e h hs l [] (by simpa using len) fun x hx => by
    obtain ⟨σ1, a, b, c⟩ := H x hx
    exact ⟨σ1, a, b, fun _ => c⟩
  rw [q, List.nil_append, List.filter_eq_self.mpr fun _ _ => rfl]
theorem compL_flt (φ : ι → MV) (p : ι → Bool) (h : MH) (hs : st h = true) (l : List ι) (len : l.length ≤ sizeLine)
    (H : ∀ x ∈ l, ∃ σ1, g (φ x) σ h = .ok σ1 h ∧ tt σ1 h = .ok (p x) h ∧ (p x = true → eSet te σ1 h = .ok (φ x) h)) : compL st g tt te σ (l.map φ) [] h = .ok (.tmp ((l.filter p).map φ)) h := by
  have q := compL_pure φ p φ h hs l [] (by simpa using len) H
  rw [q, List.nil_append]
theorem compL_flt1 (p : MV → Bool) (h : MH) (hs : st h = true) (l : List MV) (len : l.length ≤ sizeLine)
    (H : ∀ x ∈ l, ∃ σ1, g x σ h = .ok σ1 h ∧ tt σ1 h = .ok (p x) h ∧ (p x = true → eSet te σ1 h = .ok x h)) : compL st g tt te σ l [] h = .ok (.tmp (l.filter p)) h := by
  have q := compL_flt (st := st) (g := g) (tt := tt) (te := te) (σ := σ) id p h hs l len H
  simpa using q
theorem compL_map1 (e : MV → MV) (h : MH) (hs : st h = true) (l : List MV) (len : l.length ≤ sizeLine)
    (H : ∀ x ∈ l, ∃ σ1, g x σ h = .ok σ1 h ∧ tt σ1 h = .ok true h ∧ eSet te σ1 h = .ok (e x) h) : compL st g tt te σ l [] h = .ok (.tmp (l.map e)) h := by
  have q := compL_map (st := st) (g := g) (tt := tt) (te := te) (σ := σ) id e h hs l len H
  simpa using q
/-- a comprehension by a property of what was told so far; every item tells one -/
theorem compL_inv (P : List MV → List MV → MH → Prop) : ∀ (xs done acc : List MV) (h : MH), acc.length + xs.length ≤ sizeLine → P done acc h →
    (∀ done acc h, P done acc h → st h = true) →
    (∀ done x acc h, x ∈ xs → P done acc h → ∃ σ1 h1 h2 v h3, g x σ h = .ok σ1 h1 ∧ tt σ1 h1 = .ok true h2 ∧ eSet te σ1 h2 = .ok v h3 ∧ P (done ++ [x]) (acc ++ [v]) h3) →
    ∃ ys h', compL st g tt te σ xs acc h = .ok (.tmp ys) h' ∧ P (done ++ xs) ys h' ∧ ys.length = acc.length + xs.length
  | [], done, acc, h, _, p, hs, _ => ⟨acc, h, by simp [compL, hs _ _ _ p], by simpa using p, rfl⟩
  | x :: xs, done, acc, h, len, p, hs, H => by
    rw [List.length_cons] at len
    obtain ⟨σ1, h1, h2, v, h3, e1, e2, e3, p2⟩ := H done x acc h (List.mem_cons_self ..) p
    obtain ⟨ys, h', e4, p4, l4⟩ := compL_inv P xs (done ++ [x]) (acc ++ [v]) h3 (by rw [List.length_append, List.length_singleton]; omega) p2 hs fun d y a z m pp => H d y a z (List.mem_cons_of_mem _ m) pp
    refine ⟨ys, h', ?_, by simpa using p4, by rw [l4, List.length_append, List.length_singleton, List.length_cons]; omega⟩
    show (if st h = true then (g x σ h).bn fun σ1 h1 => (tt σ1 h1).bn fun b h2 => if b = true then (if acc.length < sizeLine then ((eSet te) σ1 h2).bn fun v h4 => compL st g tt te σ xs (acc ++ [v]) h4 else .stuck) else compL st g tt te σ xs acc h2 else .stuck) = _
    rw [if_pos (hs _ _ _ p), e1, Res.ok_bn, e2, Res.ok_bn, if_pos rfl, if_pos (by omega), e3, Res.ok_bn, e4]
/-- a walk by a property -/
theorem sForL_inv (P : List MV → MS → MH → Prop) : ∀ (xs done : List MV) (σ : MS) (h : MH), P done σ h →
    (∀ done σ h, P done σ h → st h = true) →
    (∀ done x σ h, x ∈ xs → P done σ h → ∃ σ1 h1 σ2 h2, g x σ h = .ok σ1 h1 ∧ (s σ1 h1 = .next σ2 h2 ∨ s σ1 h1 = .cont σ2 h2) ∧ P (done ++ [x]) σ2 h2) →
    ∃ σ' h', sForL st g s xs σ h = .next σ' h' ∧ P (done ++ xs) σ' h'
  | [], done, σ, h, p, hs, _ => ⟨σ, h, by simp [sForL, hs _ _ _ p], by simpa using p⟩
  | x :: xs, done, σ, h, p, hs, H => by
    obtain ⟨σ1, h1, σ2, h2, e1, e2, p2⟩ := H done x σ h (List.mem_cons_self ..) p
    obtain ⟨σ', h', e3, p3⟩ := sForL_inv P xs (done ++ [x]) σ2 h2 p2 hs fun d y a z m pp => H d y a z (List.mem_cons_of_mem _ m) pp
    refine ⟨σ', h', ?_, by simpa using p3⟩
    rcases e2 with e2 | e2 <;> simp [sForL, hs _ _ _ p, e1, e2, e3]
end
/-! #### texts by their signs -/
def st (l : List Nat) : Str := ⟨l.toArray⟩
theorem st_codes (l : List Nat) : (st l).cps.toList = l := by simp [st]
theorem st_len (l : List Nat) : (st l).length = l.length := by
  show l.toArray.size = l.length
  simp
theorem st_app (a b : List Nat) : st a ++ st b = st (a ++ b) := by
  show Str.append (st a) (st b) = st (a ++ b)
  unfold Str.append st
  simp
theorem st_of (z : Str) : st z.cps.toList = z := by
  cases z
  simp [st]
theorem cps_len (z : Str) : z.length = z.cps.toList.length := by
  show z.cps.size = _
  simp
theorem cps_app (a b : Str) : (a ++ b).cps.toList = a.cps.toList ++ b.cps.toList := by
  show (Str.append a b).cps.toList = _
  simp [Str.append]
theorem sizeJ (l : List Nat) (h : l.length ≤ 1000) : ((l.map fun c => st [c]).map (·.length)).sum + (l.map fun c => st [c]).length * (st []).length ≤ 16777216 := by
  rw [List.map_map, st_len, List.length_nil, Nat.mul_zero, Nat.add_zero]
  have : ∀ l : List Nat, (l.map ((fun x : Str => x.length) ∘ fun c => st [c])).sum = l.length := fun l => by
    induction l with
    | nil => rfl
    | cons c l ih =>
      rw [List.map_cons, List.sum_cons, ih]
      show (st [c]).length + l.length = l.length + 1
      rw [st_len, List.length_singleton]
      omega
  rw [this]
  omega
theorem join_st (l : List Nat) : Txt.join (st []) (l.map fun c => st [c]) = st l := by
  have h : ∀ l : List Nat, TL.joinL [] (l.map fun c => [c]) = l := by
    intro l
    induction l with
    | nil => rfl
    | cons a l ih =>
      cases l with
      | nil => rfl
      | cons b l =>
        show [a] ++ ([] ++ TL.joinL [] ((b :: l).map fun c => [c])) = a :: b :: l
        rw [ih]
        rfl
  have e := TL.tl_join (st []) (l.map fun c => st [c])
  rw [← TL.join_eq] at e
  have e2 : (l.map fun c => st [c]).map TL.tl = l.map fun c => [c] := by
    rw [List.map_map]
    rfl
  rw [e2] at e
  have e3 : TL.tl (st []) = [] := rfl
  rw [e3, h] at e
  rw [← st_of (Txt.join (st []) (l.map fun c => st [c]))]
  exact congrArg st e
theorem cut_sub (z : Str) (lo hi : Option Int) : (cutS z lo hi).cps.toList.Sublist z.cps.toList := by
  unfold cutS
  simp only [List.toList_toArray]
  exact (List.take_sublist _ _).trans (List.drop_sublist _ _)
theorem cutM_sub (xs : List MV) (lo hi : Option Int) : (cutM xs lo hi).Sublist xs := (List.take_sublist _ _).trans (List.drop_sublist _ _)
end Mi

set_option maxHeartbeats 1000000
namespace My
open PySem PySem.Spec PyProof.Rows L2 Mi
def top (i : Nat) : Stmt := PySem.Challenge.pw_appendlease_k01_words_paths_and_keys.main.body.getD i (.Pass ⟨0, 0, 0, 0⟩)
abbrev sis_whole : Stmt := top 5
abbrev sis_from : Stmt := top 6
abbrev sis_word : Stmt := top 7
abbrev sis_path : Stmt := top 8
abbrev sis_signs : Stmt := top 9
abbrev sis_key : Stmt := top 10
abbrev s_law_room : Stmt := top 12
abbrev s_law_take : Stmt := top 13
abbrev s_law_word : Stmt := top 14
abbrev s_law_line : Stmt := top 15
abbrev s_law_so : Stmt := top 16
abbrev s_law_right : Stmt := top 17
abbrev s_law_bent : Stmt := top 18
abbrev slaw : Stmt := top 19
abbrev nis_whole : List Str := ["thing"]
abbrev pis_whole : List Str := ["thing"]
abbrev nis_from : List Str := ["thing", "least", "most"]
abbrev pis_from : List Str := ["thing", "least", "most"]
abbrev nis_word : List Str := ["thing", "sign"]
abbrev pis_word : List Str := ["thing"]
abbrev nis_path : List Str := ["thing", "word"]
abbrev pis_path : List Str := ["thing"]
abbrev nis_signs : List Str := ["thing", "sign"]
abbrev pis_signs : List Str := ["thing"]
abbrev nis_key : List Str := ["thing"]
abbrev pis_key : List Str := ["thing"]
abbrev n_law_room : List Str := ["_law_script", "_law_k", "_law_cell", "_law_left"]
abbrev p_law_room : List Str := ["_law_script", "_law_k"]
abbrev n_law_take : List Str := ["_law_room_here", "_law_many", "_law_found"]
abbrev p_law_take : List Str := ["_law_room_here", "_law_many"]
abbrev n_law_word : List Str := ["_law_room_here", "_law_letters", "_law_size", "_law_turn"]
abbrev p_law_word : List Str := ["_law_room_here"]
abbrev n_law_line : List Str := ["_law_room_here", "_law_size", "_law_signs", "_law_turn"]
abbrev p_law_line : List Str := ["_law_room_here", "_law_size"]
abbrev n_law_so : List Str := ["_law_thing", "_law_small", "_law_words", "_law_paths", "_law_signs", "_law_whole", "_law_keys", "_law_sign", "_law_one"]
abbrev p_law_so : List Str := ["_law_thing"]
abbrev n_law_right : List Str := ["_law_thing", "_law_kept", "_law_found"]
abbrev p_law_right : List Str := ["_law_thing"]
abbrev n_law_bent : List Str := ["_law_room_here", "_law_thing", "_law_odd", "_law_at"]
abbrev p_law_bent : List Str := ["_law_room_here", "_law_thing"]
abbrev nlaw : List Str := ["_law_script", "_law_some", "_law_k", "_law_room_here", "_law_path", "_law_line_here", "_law_good", "_law_turn", "_law_thing"]
abbrev plaw : List Str := ["_law_script"]
def dis_word : He.DefD := ⟨("is_word", none), "is_word", "is_word", defArgs sis_word, defBody sis_word, defScope sis_word, [], []⟩
def dis_whole : He.DefD := ⟨("is_whole", none), "is_whole", "is_whole", defArgs sis_whole, defBody sis_whole, defScope sis_whole, [], []⟩
def dis_from : He.DefD := ⟨("is_from", none), "is_from", "is_from", defArgs sis_from, defBody sis_from, defScope sis_from, [.non], []⟩
def dis_key : He.DefD := ⟨("is_key", none), "is_key", "is_key", defArgs sis_key, defBody sis_key, defScope sis_key, [], []⟩
def dis_path : He.DefD := ⟨("is_path", none), "is_path", "is_path", defArgs sis_path, defBody sis_path, defScope sis_path, [], []⟩
def dis_signs : He.DefD := ⟨("is_signs", none), "is_signs", "is_signs", defArgs sis_signs, defBody sis_signs, defScope sis_signs, [], []⟩
def d_law_so : He.DefD := ⟨("_law_so", none), "_law_so", "_law_so", defArgs s_law_so, defBody s_law_so, defScope s_law_so, [], []⟩
def d_law_right : He.DefD := ⟨("_law_right", none), "_law_right", "_law_right", defArgs s_law_right, defBody s_law_right, defScope s_law_right, [], []⟩
def d_law_take : He.DefD := ⟨("_law_take", none), "_law_take", "_law_take", defArgs s_law_take, defBody s_law_take, defScope s_law_take, [], []⟩
def d_law_word : He.DefD := ⟨("_law_word", none), "_law_word", "_law_word", defArgs s_law_word, defBody s_law_word, defScope s_law_word, [], []⟩
def d_law_line : He.DefD := ⟨("_law_line", none), "_law_line", "_law_line", defArgs s_law_line, defBody s_law_line, defScope s_law_line, [], []⟩
def d_law_room : He.DefD := ⟨("_law_room", none), "_law_room", "_law_room", defArgs s_law_room, defBody s_law_room, defScope s_law_room, [], []⟩
def d_law_bent : He.DefD := ⟨("_law_bent", none), "_law_bent", "_law_bent", defArgs s_law_bent, defBody s_law_bent, defScope s_law_bent, [], []⟩
def dlaw : He.DefD := ⟨("law", none), "law", "law", defArgs slaw, defBody slaw, defScope slaw, [], []⟩
def fn : List He.DefD := [dis_word, dis_whole, dis_from, dis_key, dis_path, dis_signs, d_law_so, d_law_right, d_law_take, d_law_word, d_law_line, d_law_room, d_law_bent, dlaw]
def fa : List He.Fa := [.str "LETTERS" "abcdefghijklmnopqrstuvwxyz", .free "all", .free "len", .int "LONGEST" 8, .free "str", .free "isinstance", .free "bool", .free "int", .glo "is_whole", .glo "is_from", .glo "is_word", .free "tuple", .int "DEEPEST" 5, .glo "_law_so", .free "repr", .glo "is_key", .glo "is_signs", .glo "is_path", .free "range", .glo "_law_take", .free "list", .glo "_law_right", .str "FILLER" "~", .free "min", .free "max", .glo "_law_bent", .glo "_law_word", .glo "_law_line", .glo "_law_room", .glo "law"]
def bs : List (PySem.W.Frag → Bool) := []
def kt : KT := []
/-- what is known of the top -/
structure Tp (K : PySem.W.Frag) (mg : Str → Option Value) : Prop where
  says : ∃ h : Heap, K.In h ∧ h.Ns mainGlobals mg ∧ SaysB fa fn bs K
  kt : KTok K mg kt
section
variable {K : PySem.W.Frag} {mg : Str → Option Value}
theorem bn__law_right_1 {f : Addr} {fd : FuncData} (F : FunD K "_law_right" "_law_right" (defArgs s_law_right) (defBody s_law_right) (defScope s_law_right) [] [] f fd) : BnM K mg fd p_law_right 1 [] (gb [.p 0] [] []) :=
  bnN F 1 [] [.p 0] (fun us ws h1 h2 => match us, ws, h1, h2 with | [_], [], _, _ => rfl) (fun _ _ _ _ _ _ us ws h1 h2 => match us, ws, h1, h2 with | [_], [], _, _ => rfl)
theorem bn__law_bent_2 {f : Addr} {fd : FuncData} (F : FunD K "_law_bent" "_law_bent" (defArgs s_law_bent) (defBody s_law_bent) (defScope s_law_bent) [] [] f fd) : BnM K mg fd p_law_bent 2 [] (gb [.p 0, .p 1] [] []) :=
  bnN F 2 [] [.p 0, .p 1] (fun us ws h1 h2 => match us, ws, h1, h2 with | [_, _], [], _, _ => rfl) (fun _ _ _ _ _ _ us ws h1 h2 => match us, ws, h1, h2 with | [_, _], [], _, _ => rfl)
theorem bn__law_take_2 {f : Addr} {fd : FuncData} (F : FunD K "_law_take" "_law_take" (defArgs s_law_take) (defBody s_law_take) (defScope s_law_take) [] [] f fd) : BnM K mg fd p_law_take 2 [] (gb [.p 0, .p 1] [] []) :=
  bnN F 2 [] [.p 0, .p 1] (fun us ws h1 h2 => match us, ws, h1, h2 with | [_, _], [], _, _ => rfl) (fun _ _ _ _ _ _ us ws h1 h2 => match us, ws, h1, h2 with | [_, _], [], _, _ => rfl)
theorem bn__law_word_1 {f : Addr} {fd : FuncData} (F : FunD K "_law_word" "_law_word" (defArgs s_law_word) (defBody s_law_word) (defScope s_law_word) [] [] f fd) : BnM K mg fd p_law_word 1 [] (gb [.p 0] [] []) :=
  bnN F 1 [] [.p 0] (fun us ws h1 h2 => match us, ws, h1, h2 with | [_], [], _, _ => rfl) (fun _ _ _ _ _ _ us ws h1 h2 => match us, ws, h1, h2 with | [_], [], _, _ => rfl)
theorem bn__law_line_2 {f : Addr} {fd : FuncData} (F : FunD K "_law_line" "_law_line" (defArgs s_law_line) (defBody s_law_line) (defScope s_law_line) [] [] f fd) : BnM K mg fd p_law_line 2 [] (gb [.p 0, .p 1] [] []) :=
  bnN F 2 [] [.p 0, .p 1] (fun us ws h1 h2 => match us, ws, h1, h2 with | [_, _], [], _, _ => rfl) (fun _ _ _ _ _ _ us ws h1 h2 => match us, ws, h1, h2 with | [_, _], [], _, _ => rfl)
theorem bn__law_room_2 {f : Addr} {fd : FuncData} (F : FunD K "_law_room" "_law_room" (defArgs s_law_room) (defBody s_law_room) (defScope s_law_room) [] [] f fd) : BnM K mg fd p_law_room 2 [] (gb [.p 0, .p 1] [] []) :=
  bnN F 2 [] [.p 0, .p 1] (fun us ws h1 h2 => match us, ws, h1, h2 with | [_, _], [], _, _ => rfl) (fun _ _ _ _ _ _ us ws h1 h2 => match us, ws, h1, h2 with | [_, _], [], _, _ => rfl)
theorem bn__law_so_1 {f : Addr} {fd : FuncData} (F : FunD K "_law_so" "_law_so" (defArgs s_law_so) (defBody s_law_so) (defScope s_law_so) [] [] f fd) : BnM K mg fd p_law_so 1 [] (gb [.p 0] [] []) :=
  bnN F 1 [] [.p 0] (fun us ws h1 h2 => match us, ws, h1, h2 with | [_], [], _, _ => rfl) (fun _ _ _ _ _ _ us ws h1 h2 => match us, ws, h1, h2 with | [_], [], _, _ => rfl)
theorem bn_is_key_1 {f : Addr} {fd : FuncData} (F : FunD K "is_key" "is_key" (defArgs sis_key) (defBody sis_key) (defScope sis_key) [] [] f fd) : BnM K mg fd pis_key 1 [] (gb [.p 0] [] []) :=
  bnN F 1 [] [.p 0] (fun us ws h1 h2 => match us, ws, h1, h2 with | [_], [], _, _ => rfl) (fun _ _ _ _ _ _ us ws h1 h2 => match us, ws, h1, h2 with | [_], [], _, _ => rfl)
theorem bn_is_whole_1 {f : Addr} {fd : FuncData} (F : FunD K "is_whole" "is_whole" (defArgs sis_whole) (defBody sis_whole) (defScope sis_whole) [] [] f fd) : BnM K mg fd pis_whole 1 [] (gb [.p 0] [] []) :=
  bnN F 1 [] [.p 0] (fun us ws h1 h2 => match us, ws, h1, h2 with | [_], [], _, _ => rfl) (fun _ _ _ _ _ _ us ws h1 h2 => match us, ws, h1, h2 with | [_], [], _, _ => rfl)
theorem bn_is_signs_1 {f : Addr} {fd : FuncData} (F : FunD K "is_signs" "is_signs" (defArgs sis_signs) (defBody sis_signs) (defScope sis_signs) [] [] f fd) : BnM K mg fd pis_signs 1 [] (gb [.p 0] [] []) :=
  bnN F 1 [] [.p 0] (fun us ws h1 h2 => match us, ws, h1, h2 with | [_], [], _, _ => rfl) (fun _ _ _ _ _ _ us ws h1 h2 => match us, ws, h1, h2 with | [_], [], _, _ => rfl)
theorem bn_is_path_1 {f : Addr} {fd : FuncData} (F : FunD K "is_path" "is_path" (defArgs sis_path) (defBody sis_path) (defScope sis_path) [] [] f fd) : BnM K mg fd pis_path 1 [] (gb [.p 0] [] []) :=
  bnN F 1 [] [.p 0] (fun us ws h1 h2 => match us, ws, h1, h2 with | [_], [], _, _ => rfl) (fun _ _ _ _ _ _ us ws h1 h2 => match us, ws, h1, h2 with | [_], [], _, _ => rfl)
theorem bn_is_word_1 {f : Addr} {fd : FuncData} (F : FunD K "is_word" "is_word" (defArgs sis_word) (defBody sis_word) (defScope sis_word) [] [] f fd) : BnM K mg fd pis_word 1 [] (gb [.p 0] [] []) :=
  bnN F 1 [] [.p 0] (fun us ws h1 h2 => match us, ws, h1, h2 with | [_], [], _, _ => rfl) (fun _ _ _ _ _ _ us ws h1 h2 => match us, ws, h1, h2 with | [_], [], _, _ => rfl)
theorem bn_is_from_2 {f : Addr} {fd : FuncData} (F : FunD K "is_from" "is_from" (defArgs sis_from) (defBody sis_from) (defScope sis_from) [.non] [] f fd) : BnM K mg fd pis_from 2 [] (gb [.p 0, .p 1, .d 0] [.non] []) :=
  bnT F 2 [] [.p 0, .p 1, .d 0] (by simp) rfl rfl (fun us its ws h1 h2 h3 => match us, its, ws, h1, h2, h3 with | [_, _], [_], [], _, _, _ => rfl)
    (fun _ _ _ _ _ _ _ us its ws h1 h2 h3 => match us, its, ws, h1, h2, h3 with | [_, _], [_], [], _, _, _ => ⟨_, rfl, rfl⟩)
end
section
variable {P : Program} {w : World} {K : PySem.W.Frag} {mg : Str → Option Value} {base : Heap}
theorem scis_word : FnScope nis_word pis_word (defScope sis_word) := ⟨rfl, rfl, rfl, by decide +kernel, rfl, by decide +kernel, by decide +kernel⟩
noncomputable def b_is_word : MSt :=
  (sSeq (sIf (tOrM (tNotM (tTru (eCB (isiM kt) (aCons (eVar 0) (aCons (eC (.ty "str")) aNil))))) (tNotM (tB (eChain leM leM (eC (.int 1)) (eCB1 lenM (eVar 0)) (eC (.int 8)))))) (sRet (eC (.bl false))) sNil) (sRet (eCB1 allM (eComp (iSeq (eVar 0)) (gN 1) tYesM (eBin inM (eVar 1) (eC (.str "abcdefghijklmnopqrstuvwxyz"))) [1]))))
noncomputable def c_is_word : MF := fnCode 2 b_is_word
theorem ok_is_word (T : Tp K mg) {f : Addr} {fd : FuncData} (F : FunD K "is_word" "is_word" (defArgs sis_word) (defBody sis_word) (defScope sis_word) [] [] f fd) : FnM P w K mg base 1 f fd pis_word c_is_word := by
  obtain ⟨h0, KX, G0, c0⟩ := T.says
  have c := c0.d
  have i_LETTERS := He.str_ok KX G0 (c.fact 0 (f := .str "LETTERS" "abcdefghijklmnopqrstuvwxyz") rfl)
  have m_all := He.free_ok KX G0 (c.fact 1 (f := .free "all") rfl)
  have m_len := He.free_ok KX G0 (c.fact 2 (f := .free "len") rfl)
  have i_LONGEST := He.int_ok KX G0 (c.fact 3 (f := .int "LONGEST" 8) rfl)
  have m_str := He.free_ok KX G0 (c.fact 4 (f := .free "str") rfl)
  have m_isinstance := He.free_ok KX G0 (c.fact 5 (f := .free "isinstance") rfl)
  refine fnM_of F scis_word fun cdv A outer s H E hr hgd => ?_
  have hu := hr.units
  have tk := takes_of (X := cxOf (L2.CX P w) P w K mg base nis_word "is_word" (defScope sis_word) f cdv A outer s H E) rfl rfl rfl rfl
  have hp := passes_of (X := cxOf (L2.CX P w) P w K mg base nis_word "is_word" (defScope sis_word) f cdv A outer s H E) rfl
  exact (sss_cons (ss_if (SWt.pt (sw_or (st_not (st_tru (se_callB (cm_isi T.kt) m_isinstance (by decide +kernel) (by rfl) (sa_cons (sv 0) (sa_cons (se_ty (n := "str") m_str (by rfl) (by decide +kernel)) sa_nil))))) (sw_or1 (st_not (st_chain om_le om_le se_int (se_callB1 cm_len m_len (by decide +kernel) (by rfl) (sv 0)) (se_gint i_LONGEST (by rfl))))))) (sss_one (ss_ret se_bl)) sss_nil) (sss_one (ss_ret (se_callB1 (cm_all rfl) m_all (by decide +kernel) (by rfl) (se_lc (own := [("sign", 1)]) rfl scis_word.nd (si_seq (sv 0)) (blkOk_by (own := [("sign", 1)]) (N := nis_word) (sc := (defScope sis_word)) (by decide +kernel)) (fun _ _ _ _ _ => by exact (sg_name (i := 1) scis_word.nd rfl (Or.inl rfl) (by decide))) (fun _ _ _ _ _ => by exact spts_nil) (fun _ _ _ _ _ => by exact (se_cmp (om_in hu) (sv 1) (se_gstr i_LETTERS (by rfl)) rfl)))))))
theorem scis_whole : FnScope nis_whole pis_whole (defScope sis_whole) := ⟨rfl, rfl, rfl, by decide +kernel, rfl, by decide +kernel, by decide +kernel⟩
noncomputable def b_is_whole : MSt :=
  (sRet (eAnd (eCB (isiM kt) (aCons (eVar 0) (aCons (eC (.ty "int")) aNil))) (eNot (eCB (isiM kt) (aCons (eVar 0) (aCons (eC (.ty "bool")) aNil))))))
noncomputable def c_is_whole : MF := fnCode 1 b_is_whole
theorem ok_is_whole (T : Tp K mg) {f : Addr} {fd : FuncData} (F : FunD K "is_whole" "is_whole" (defArgs sis_whole) (defBody sis_whole) (defScope sis_whole) [] [] f fd) : FnM P w K mg base 1 f fd pis_whole c_is_whole := by
  obtain ⟨h0, KX, G0, c0⟩ := T.says
  have c := c0.d
  have m_bool := He.free_ok KX G0 (c.fact 6 (f := .free "bool") rfl)
  have m_isinstance := He.free_ok KX G0 (c.fact 5 (f := .free "isinstance") rfl)
  have m_int := He.free_ok KX G0 (c.fact 7 (f := .free "int") rfl)
  refine fnM_of F scis_whole fun cdv A outer s H E hr hgd => ?_
  have hu := hr.units
  have tk := takes_of (X := cxOf (L2.CX P w) P w K mg base nis_whole "is_whole" (defScope sis_whole) f cdv A outer s H E) rfl rfl rfl rfl
  have hp := passes_of (X := cxOf (L2.CX P w) P w K mg base nis_whole "is_whole" (defScope sis_whole) f cdv A outer s H E) rfl
  exact (sss_one (ss_ret (se_and (se_callB (cm_isi T.kt) m_isinstance (by decide +kernel) (by rfl) (sa_cons (sv 0) (sa_cons (se_ty (n := "int") m_int (by rfl) (by decide +kernel)) sa_nil))) (se_one (se_not (se_callB (cm_isi T.kt) m_isinstance (by decide +kernel) (by rfl) (sa_cons (sv 0) (sa_cons (se_ty (n := "bool") m_bool (by rfl) (by decide +kernel)) sa_nil))))))))
theorem scis_from : FnScope nis_from pis_from (defScope sis_from) := ⟨rfl, rfl, rfl, by decide +kernel, rfl, by decide +kernel, by decide +kernel⟩
noncomputable def b_is_from : MSt :=
  (sRet (eAnd (eCall (gb [.p 0] [] []) c_is_whole (aCons (eVar 0) aNil) aNil) (eAnd (eBin geM (eVar 0) (eVar 1)) (eOr (eBin isM (eVar 2) (eC .non)) (eBin leM (eVar 0) (eVar 2))))))
noncomputable def c_is_from : MF := fnCode 3 b_is_from
theorem ok_is_from (T : Tp K mg) {f : Addr} {fd : FuncData} (F : FunD K "is_from" "is_from" (defArgs sis_from) (defBody sis_from) (defScope sis_from) [.non] [] f fd) : FnM P w K mg base 2 f fd pis_from c_is_from := by
  obtain ⟨h0, KX, G0, c0⟩ := T.says
  have c := c0.d
  obtain ⟨fd_is_whole, F_is_whole⟩ := c.def_ 1 (d := dis_whole) rfl
  have G_is_whole := ok_is_whole (P := P) (w := w) (base := base) T F_is_whole
  have gl_is_whole := He.glo_ok KX G0 (c.fact 8 (f := .glo "is_whole") rfl)
  refine fnM_of F scis_from fun cdv A outer s H E hr hgd => ?_
  have hu := hr.units
  have tk := takes_of (X := cxOf (L2.CX P w) P w K mg base nis_from "is_from" (defScope sis_from) f cdv A outer s H E) rfl rfl rfl rfl
  have hp := passes_of (X := cxOf (L2.CX P w) P w K mg base nis_from "is_from" (defScope sis_from) f cdv A outer s H E) rfl
  exact (sss_one (ss_ret (se_and (se_call G_is_whole (by exact hr.mono (by decide)) hgd (bn_is_whole_1 F_is_whole) tk gl_is_whole F_is_whole.kp (by rfl) rfl (sa_cons (sv 0) sa_nil) (len_cons len_nil)) (se_and (se_cmp om_ge (sv 0) (sv 1) (nomark _)) (se_one (se_or (se_cmp om_is (sv 2) se_non (nomark _)) (se_one (se_cmp om_le (sv 0) (sv 2) (nomark _)))))))))
theorem scis_key : FnScope nis_key pis_key (defScope sis_key) := ⟨rfl, rfl, rfl, by decide +kernel, rfl, by decide +kernel, by decide +kernel⟩
noncomputable def b_is_key : MSt :=
  (sRet (eAnd (eCB (isiM kt) (aCons (eVar 0) (aCons (eC (.ty "tuple")) aNil))) (eAnd (eBin eqM (eCB1 lenM (eVar 0)) (eC (.int 2))) (eAnd (eCall (gb [.p 0] [] []) c_is_word (aCons (eBin ixM (eVar 0) (eC (.int 0))) aNil) aNil) (eCall (gb [.p 0, .p 1, .d 0] [.non] []) c_is_from (aCons (eBin ixM (eVar 0) (eC (.int 1))) (aCons (eC (.int 1)) aNil)) aNil)))))
noncomputable def c_is_key : MF := fnCode 1 b_is_key
theorem ok_is_key (T : Tp K mg) {f : Addr} {fd : FuncData} (F : FunD K "is_key" "is_key" (defArgs sis_key) (defBody sis_key) (defScope sis_key) [] [] f fd) : FnM P w K mg base 3 f fd pis_key c_is_key := by
  obtain ⟨h0, KX, G0, c0⟩ := T.says
  have c := c0.d
  obtain ⟨fd_is_from, F_is_from⟩ := c.def_ 2 (d := dis_from) rfl
  have G_is_from := ok_is_from (P := P) (w := w) (base := base) T F_is_from
  have gl_is_from := He.glo_ok KX G0 (c.fact 9 (f := .glo "is_from") rfl)
  obtain ⟨fd_is_word, F_is_word⟩ := c.def_ 0 (d := dis_word) rfl
  have G_is_word := ok_is_word (P := P) (w := w) (base := base) T F_is_word
  have gl_is_word := He.glo_ok KX G0 (c.fact 10 (f := .glo "is_word") rfl)
  have m_len := He.free_ok KX G0 (c.fact 2 (f := .free "len") rfl)
  have m_tuple := He.free_ok KX G0 (c.fact 11 (f := .free "tuple") rfl)
  have m_isinstance := He.free_ok KX G0 (c.fact 5 (f := .free "isinstance") rfl)
  refine fnM_of F scis_key fun cdv A outer s H E hr hgd => ?_
  have hu := hr.units
  have tk := takes_of (X := cxOf (L2.CX P w) P w K mg base nis_key "is_key" (defScope sis_key) f cdv A outer s H E) rfl rfl rfl rfl
  have hp := passes_of (X := cxOf (L2.CX P w) P w K mg base nis_key "is_key" (defScope sis_key) f cdv A outer s H E) rfl
  exact (sss_one (ss_ret (se_and (se_callB (cm_isi T.kt) m_isinstance (by decide +kernel) (by rfl) (sa_cons (sv 0) (sa_cons (se_ty (n := "tuple") m_tuple (by rfl) (by decide +kernel)) sa_nil))) (se_and (se_cmp (om_eq hu) (se_callB1 cm_len m_len (by decide +kernel) (by rfl) (sv 0)) se_int (nomark _)) (se_and (se_call G_is_word (by exact hr.mono (by decide)) hgd (bn_is_word_1 F_is_word) tk gl_is_word F_is_word.kp (by rfl) rfl (sa_cons (se_ix om_ix (sv 0) se_int (fun _ _ => rfl)) sa_nil) (len_cons len_nil)) (se_one (se_call G_is_from (by exact hr.mono (by decide)) hgd (bn_is_from_2 F_is_from) tk gl_is_from F_is_from.kp (by rfl) rfl (sa_cons (se_ix om_ix (sv 0) se_int (fun _ _ => rfl)) (sa_cons se_int sa_nil)) (len_cons (len_cons len_nil)))))))))
theorem scis_path : FnScope nis_path pis_path (defScope sis_path) := ⟨rfl, rfl, rfl, by decide +kernel, rfl, by decide +kernel, by decide +kernel⟩
noncomputable def b_is_path : MSt :=
  (sRet (eAnd (eCB (isiM kt) (aCons (eVar 0) (aCons (eC (.ty "tuple")) aNil))) (eAnd (eBin leM (eCB1 lenM (eVar 0)) (eC (.int 5))) (eCB1 allM (eComp (iSeq (eVar 0)) (gN 1) tYesM (eCall (gb [.p 0] [] []) c_is_word (aCons (eVar 1) aNil) aNil) [1])))))
noncomputable def c_is_path : MF := fnCode 2 b_is_path
theorem ok_is_path (T : Tp K mg) {f : Addr} {fd : FuncData} (F : FunD K "is_path" "is_path" (defArgs sis_path) (defBody sis_path) (defScope sis_path) [] [] f fd) : FnM P w K mg base 2 f fd pis_path c_is_path := by
  obtain ⟨h0, KX, G0, c0⟩ := T.says
  have c := c0.d
  obtain ⟨fd_is_word, F_is_word⟩ := c.def_ 0 (d := dis_word) rfl
  have G_is_word := ok_is_word (P := P) (w := w) (base := base) T F_is_word
  have gl_is_word := He.glo_ok KX G0 (c.fact 10 (f := .glo "is_word") rfl)
  have m_all := He.free_ok KX G0 (c.fact 1 (f := .free "all") rfl)
  have m_len := He.free_ok KX G0 (c.fact 2 (f := .free "len") rfl)
  have i_DEEPEST := He.int_ok KX G0 (c.fact 12 (f := .int "DEEPEST" 5) rfl)
  have m_tuple := He.free_ok KX G0 (c.fact 11 (f := .free "tuple") rfl)
  have m_isinstance := He.free_ok KX G0 (c.fact 5 (f := .free "isinstance") rfl)
  refine fnM_of F scis_path fun cdv A outer s H E hr hgd => ?_
  have hu := hr.units
  have tk := takes_of (X := cxOf (L2.CX P w) P w K mg base nis_path "is_path" (defScope sis_path) f cdv A outer s H E) rfl rfl rfl rfl
  have hp := passes_of (X := cxOf (L2.CX P w) P w K mg base nis_path "is_path" (defScope sis_path) f cdv A outer s H E) rfl
  exact (sss_one (ss_ret (se_and (se_callB (cm_isi T.kt) m_isinstance (by decide +kernel) (by rfl) (sa_cons (sv 0) (sa_cons (se_ty (n := "tuple") m_tuple (by rfl) (by decide +kernel)) sa_nil))) (se_and (se_cmp om_le (se_callB1 cm_len m_len (by decide +kernel) (by rfl) (sv 0)) (se_gint i_DEEPEST (by rfl)) (nomark _)) (se_one (se_callB1 (cm_all rfl) m_all (by decide +kernel) (by rfl) (se_lc (own := [("word", 1)]) rfl scis_path.nd (si_seq (sv 0)) (blkOk_by (own := [("word", 1)]) (N := nis_path) (sc := (defScope sis_path)) (by decide +kernel)) (fun _ _ _ _ _ => by exact (sg_name (i := 1) scis_path.nd rfl (Or.inl rfl) (by decide))) (fun _ _ _ _ _ => by exact spts_nil) (fun _ _ _ _ _ => by exact (se_call G_is_word (by exact hr.mono (by decide)) hgd (bn_is_word_1 F_is_word) takes0 gl_is_word F_is_word.kp (by rfl) rfl (sa_cons (sv 1) sa_nil) (len_cons len_nil))))))))))
theorem scis_signs : FnScope nis_signs pis_signs (defScope sis_signs) := ⟨rfl, rfl, rfl, by decide +kernel, rfl, by decide +kernel, by decide +kernel⟩
noncomputable def b_is_signs : MSt :=
  (sRet (eAnd (eCB (isiM kt) (aCons (eVar 0) (aCons (eC (.ty "str")) aNil))) (eCB1 allM (eComp (iSeq (eVar 0)) (gN 1) tYesM (eChain leM leM (eC (.str " ")) (eVar 1) (eC (.str "}"))) [1]))))
noncomputable def c_is_signs : MF := fnCode 2 b_is_signs
theorem ok_is_signs (T : Tp K mg) {f : Addr} {fd : FuncData} (F : FunD K "is_signs" "is_signs" (defArgs sis_signs) (defBody sis_signs) (defScope sis_signs) [] [] f fd) : FnM P w K mg base 1 f fd pis_signs c_is_signs := by
  obtain ⟨h0, KX, G0, c0⟩ := T.says
  have c := c0.d
  have m_all := He.free_ok KX G0 (c.fact 1 (f := .free "all") rfl)
  have m_str := He.free_ok KX G0 (c.fact 4 (f := .free "str") rfl)
  have m_isinstance := He.free_ok KX G0 (c.fact 5 (f := .free "isinstance") rfl)
  refine fnM_of F scis_signs fun cdv A outer s H E hr hgd => ?_
  have hu := hr.units
  have tk := takes_of (X := cxOf (L2.CX P w) P w K mg base nis_signs "is_signs" (defScope sis_signs) f cdv A outer s H E) rfl rfl rfl rfl
  have hp := passes_of (X := cxOf (L2.CX P w) P w K mg base nis_signs "is_signs" (defScope sis_signs) f cdv A outer s H E) rfl
  exact (sss_one (ss_ret (se_and (se_callB (cm_isi T.kt) m_isinstance (by decide +kernel) (by rfl) (sa_cons (sv 0) (sa_cons (se_ty (n := "str") m_str (by rfl) (by decide +kernel)) sa_nil))) (se_one (se_callB1 (cm_all rfl) m_all (by decide +kernel) (by rfl) (se_lc (own := [("sign", 1)]) rfl scis_signs.nd (si_seq (sv 0)) (blkOk_by (own := [("sign", 1)]) (N := nis_signs) (sc := (defScope sis_signs)) (by decide +kernel)) (fun _ _ _ _ _ => by exact (sg_name (i := 1) scis_signs.nd rfl (Or.inl rfl) (by decide))) (fun _ _ _ _ _ => by exact spts_nil) (fun _ _ _ _ _ => by exact (se_chain om_le om_le se_str (sv 1) se_str))))))))
theorem sc_law_so : FnScope n_law_so p_law_so (defScope s_law_so) := ⟨rfl, rfl, rfl, by decide +kernel, rfl, by decide +kernel, by decide +kernel⟩
noncomputable def b__law_so (self : MF) : MSt :=
  (sSeq (sAsg 1 (eC (.str "abcdefghijklmnopqrstuvwxyz"))) (sSeq (sAsg 2 (eAnd (eCB (isiM kt) (aCons (eVar 0) (aCons (eC (.ty "str")) aNil))) (eAnd (eChain leM leM (eC (.int 1)) (eCB1 lenM (eVar 0)) (eC (.int 8))) (eBin eqM (eComp (iSeq (eVar 0)) (gN 7) (tB (eBin notInM (eVar 7) (eVar 1))) (eVar 7) [7]) (eLst aNil))))) (sSeq (sAsg 3 (eAnd (eCB (isiM kt) (aCons (eVar 0) (aCons (eC (.ty "tuple")) aNil))) (eAnd (eBin leM (eCB1 lenM (eVar 0)) (eC (.int 5))) (eBin eqM (eComp (iSeq (eVar 0)) (gN 8) (tNotM (tTru (eBin ixM (eCall (gb [.p 0] [] []) self (aCons (eVar 8) aNil) aNil) (eC (.int 0))))) (eVar 8) [8]) (eLst aNil))))) (sSeq (sAsg 4 (eAnd (eCB (isiM kt) (aCons (eVar 0) (aCons (eC (.ty "str")) aNil))) (eBin eqM (eComp (iSeq (eVar 0)) (gN 7) (tNotM (tB (eChain leM leM (eC (.str " ")) (eVar 7) (eC (.str "}"))))) (eVar 7) [7]) (eLst aNil)))) (sSeq (sAsg 5 (eAnd (eCB (isiM kt) (aCons (eVar 0) (aCons (eC (.ty "int")) aNil))) (eNot (eCB (isiM kt) (aCons (eVar 0) (aCons (eC (.ty "bool")) aNil)))))) (sSeq (sAsg 6 (eAnd (eCB (isiM kt) (aCons (eVar 0) (aCons (eC (.ty "tuple")) aNil))) (eAnd (eBin eqM (eCB1 lenM (eVar 0)) (eC (.int 2))) (eAnd (eBin ixM (eCall (gb [.p 0] [] []) self (aCons (eBin ixM (eVar 0) (eC (.int 0))) aNil) aNil) (eC (.int 0))) (eBin ixM (eCall (gb [.p 0] [] []) self (aCons (eBin ixM (eVar 0) (eC (.int 1))) aNil) aNil) (eC (.int 3))))))) (sRet (eLst (aCons (eVar 2) (aCons (eVar 3) (aCons (eVar 4) (aCons (eVar 5) (aCons (eAnd (eVar 6) (eBin gtM (eBin ixM (eVar 0) (eC (.int 1))) (eC (.int 0)))) aNil)))))))))))))
noncomputable def c__law_so : Nat → MF
  | 0 => fun _ _ => .stuck
  | n + 1 => fnCode 9 (b__law_so (c__law_so n))
theorem ok__law_so (T : Tp K mg) : ∀ (n : Nat) {f : Addr} {fd : FuncData}, FunD K "_law_so" "_law_so" (defArgs s_law_so) (defBody s_law_so) (defScope s_law_so) [] [] f fd → FnM P w K mg base (0 + n) f fd p_law_so (c__law_so n)
  | 0, _, _, _ => ⟨fun _ _ _ _ _ _ _ _ _ _ _ _ _ _ _ _ _ _ _ _ q => q.elim⟩
  | n + 1, f, fd, F => by
    show FnM P w K mg base (0 + n + 1) f fd p_law_so (fnCode 9 (b__law_so (c__law_so n)))
    obtain ⟨h0, KX, G0, c0⟩ := T.says
    have c := c0.d
    obtain ⟨fd__law_so, F__law_so⟩ := c.def_ 6 (d := d_law_so) rfl
    have G__law_so := ok__law_so T n F__law_so
    have gl__law_so := He.glo_ok KX G0 (c.fact 13 (f := .glo "_law_so") rfl)
    have m_len := He.free_ok KX G0 (c.fact 2 (f := .free "len") rfl)
    have m_tuple := He.free_ok KX G0 (c.fact 11 (f := .free "tuple") rfl)
    have m_isinstance := He.free_ok KX G0 (c.fact 5 (f := .free "isinstance") rfl)
    have m_bool := He.free_ok KX G0 (c.fact 6 (f := .free "bool") rfl)
    have m_int := He.free_ok KX G0 (c.fact 7 (f := .free "int") rfl)
    have m_str := He.free_ok KX G0 (c.fact 4 (f := .free "str") rfl)
    refine fnM_of F sc_law_so fun cdv A outer s H E hr hgd => ?_
    have hu := hr.units
    have tk := takes_of (X := cxOf (L2.CX P w) P w K mg base n_law_so "_law_so" (defScope s_law_so) f cdv A outer s H E) rfl rfl rfl rfl
    have hp := passes_of (X := cxOf (L2.CX P w) P w K mg base n_law_so "_law_so" (defScope s_law_so) f cdv A outer s H E) rfl
    exact (sss_cons (ss_set (i := 1) sc_law_so.nd rfl (Or.inr rfl) se_str) (sss_cons (ss_set (i := 2) sc_law_so.nd rfl (Or.inl rfl) (se_and (se_callB (cm_isi T.kt) m_isinstance (by decide +kernel) (by rfl) (sa_cons (sv 0) (sa_cons (se_ty (n := "str") m_str (by rfl) (by decide +kernel)) sa_nil))) (se_and (se_chain om_le om_le se_int (se_callB1 cm_len m_len (by decide +kernel) (by rfl) (sv 0)) se_int) (se_one (se_cmp (om_eq hu) (se_lc (own := [("_law_sign", 7)]) rfl sc_law_so.nd (si_seq (sv 0)) (blkOk_by (own := [("_law_sign", 7)]) (N := n_law_so) (sc := (defScope s_law_so)) (by decide +kernel)) (fun _ _ _ _ _ => by exact (sg_name (i := 7) sc_law_so.nd rfl (Or.inl rfl) (by decide))) (fun _ _ _ _ _ => by exact (spts_one (st_cmp (om_notIn hu) (sv 7) (sv 1) rfl))) (fun _ _ _ _ _ => by exact (sv 7))) (se_lst sa_nil len_nil) (nomark _)))))) (sss_cons (ss_set (i := 3) sc_law_so.nd rfl (Or.inl rfl) (se_and (se_callB (cm_isi T.kt) m_isinstance (by decide +kernel) (by rfl) (sa_cons (sv 0) (sa_cons (se_ty (n := "tuple") m_tuple (by rfl) (by decide +kernel)) sa_nil))) (se_and (se_cmp om_le (se_callB1 cm_len m_len (by decide +kernel) (by rfl) (sv 0)) se_int (nomark _)) (se_one (se_cmp (om_eq hu) (se_lc (own := [("_law_one", 8)]) rfl sc_law_so.nd (si_seq (sv 0)) (blkOk_by (own := [("_law_one", 8)]) (N := n_law_so) (sc := (defScope s_law_so)) (by decide +kernel)) (fun _ _ _ _ _ => by exact (sg_name (i := 8) sc_law_so.nd rfl (Or.inl rfl) (by decide))) (fun _ _ _ _ _ => by exact (spts_one (st_not (st_tru (se_ix om_ix (se_call G__law_so (by exact hr.mono (by omega)) hgd (bn__law_so_1 F__law_so) takes0 gl__law_so F__law_so.kp (by rfl) rfl (sa_cons (sv 8) sa_nil) (len_cons len_nil)) se_int (fun _ _ => rfl)))))) (fun _ _ _ _ _ => by exact (sv 8))) (se_lst sa_nil len_nil) (nomark _)))))) (sss_cons (ss_set (i := 4) sc_law_so.nd rfl (Or.inl rfl) (se_and (se_callB (cm_isi T.kt) m_isinstance (by decide +kernel) (by rfl) (sa_cons (sv 0) (sa_cons (se_ty (n := "str") m_str (by rfl) (by decide +kernel)) sa_nil))) (se_one (se_cmp (om_eq hu) (se_lc (own := [("_law_sign", 7)]) rfl sc_law_so.nd (si_seq (sv 0)) (blkOk_by (own := [("_law_sign", 7)]) (N := n_law_so) (sc := (defScope s_law_so)) (by decide +kernel)) (fun _ _ _ _ _ => by exact (sg_name (i := 7) sc_law_so.nd rfl (Or.inl rfl) (by decide))) (fun _ _ _ _ _ => by exact (spts_one (st_not (st_chain om_le om_le se_str (sv 7) se_str)))) (fun _ _ _ _ _ => by exact (sv 7))) (se_lst sa_nil len_nil) (nomark _))))) (sss_cons (ss_set (i := 5) sc_law_so.nd rfl (Or.inl rfl) (se_and (se_callB (cm_isi T.kt) m_isinstance (by decide +kernel) (by rfl) (sa_cons (sv 0) (sa_cons (se_ty (n := "int") m_int (by rfl) (by decide +kernel)) sa_nil))) (se_one (se_not (se_callB (cm_isi T.kt) m_isinstance (by decide +kernel) (by rfl) (sa_cons (sv 0) (sa_cons (se_ty (n := "bool") m_bool (by rfl) (by decide +kernel)) sa_nil))))))) (sss_cons (ss_set (i := 6) sc_law_so.nd rfl (Or.inl rfl) (se_and (se_callB (cm_isi T.kt) m_isinstance (by decide +kernel) (by rfl) (sa_cons (sv 0) (sa_cons (se_ty (n := "tuple") m_tuple (by rfl) (by decide +kernel)) sa_nil))) (se_and (se_cmp (om_eq hu) (se_callB1 cm_len m_len (by decide +kernel) (by rfl) (sv 0)) se_int (nomark _)) (se_and (se_ix om_ix (se_call G__law_so (by exact hr.mono (by omega)) hgd (bn__law_so_1 F__law_so) tk gl__law_so F__law_so.kp (by rfl) rfl (sa_cons (se_ix om_ix (sv 0) se_int (fun _ _ => rfl)) sa_nil) (len_cons len_nil)) se_int (fun _ _ => rfl)) (se_one (se_ix om_ix (se_call G__law_so (by exact hr.mono (by omega)) hgd (bn__law_so_1 F__law_so) tk gl__law_so F__law_so.kp (by rfl) rfl (sa_cons (se_ix om_ix (sv 0) se_int (fun _ _ => rfl)) sa_nil) (len_cons len_nil)) se_int (fun _ _ => rfl))))))) (sss_one (ss_ret (se_lst (sa_cons (sv 2) (sa_cons (sv 3) (sa_cons (sv 4) (sa_cons (sv 5) (sa_cons (se_and (sv 6) (se_one (se_cmp om_gt (se_ix om_ix (sv 0) se_int (fun _ _ => rfl)) se_int (nomark _)))) sa_nil))))) (len_cons (len_cons (len_cons (len_cons (len_cons len_nil))))))))))))))
theorem sc_law_right : FnScope n_law_right p_law_right (defScope s_law_right) := ⟨rfl, rfl, rfl, by decide +kernel, rfl, by decide +kernel, by decide +kernel⟩
noncomputable def b__law_right : MSt :=
  (sSeq (sAsg 1 (eCB1 reprM (eVar 0))) (sSeq (sAsg 2 (eLst (aCons (eCall (gb [.p 0] [] []) c_is_word (aCons (eVar 0) aNil) aNil) (aCons (eCall (gb [.p 0] [] []) c_is_path (aCons (eVar 0) aNil) aNil) (aCons (eCall (gb [.p 0] [] []) c_is_signs (aCons (eVar 0) aNil) aNil) (aCons (eCall (gb [.p 0] [] []) c_is_whole (aCons (eVar 0) aNil) aNil) (aCons (eCall (gb [.p 0] [] []) c_is_key (aCons (eVar 0) aNil) aNil) aNil))))))) (sRet (eAnd (eBin eqM (eCB1 reprM (eVar 2)) (eCB1 reprM (eCall (gb [.p 0] [] []) (c__law_so 3) (aCons (eVar 0) aNil) aNil))) (eBin eqM (eCB1 reprM (eVar 0)) (eVar 1))))))
noncomputable def c__law_right : MF := fnCode 3 b__law_right
theorem ok__law_right (T : Tp K mg) {f : Addr} {fd : FuncData} (F : FunD K "_law_right" "_law_right" (defArgs s_law_right) (defBody s_law_right) (defScope s_law_right) [] [] f fd) : FnM P w K mg base 4 f fd p_law_right c__law_right := by
  obtain ⟨h0, KX, G0, c0⟩ := T.says
  have c := c0.d
  have m_repr := He.free_ok KX G0 (c.fact 14 (f := .free "repr") rfl)
  obtain ⟨fd__law_so, F__law_so⟩ := c.def_ 6 (d := d_law_so) rfl
  have G__law_so := ok__law_so (P := P) (w := w) (base := base) T 3 F__law_so
  have gl__law_so := He.glo_ok KX G0 (c.fact 13 (f := .glo "_law_so") rfl)
  obtain ⟨fd_is_key, F_is_key⟩ := c.def_ 3 (d := dis_key) rfl
  have G_is_key := ok_is_key (P := P) (w := w) (base := base) T F_is_key
  have gl_is_key := He.glo_ok KX G0 (c.fact 15 (f := .glo "is_key") rfl)
  obtain ⟨fd_is_whole, F_is_whole⟩ := c.def_ 1 (d := dis_whole) rfl
  have G_is_whole := ok_is_whole (P := P) (w := w) (base := base) T F_is_whole
  have gl_is_whole := He.glo_ok KX G0 (c.fact 8 (f := .glo "is_whole") rfl)
  obtain ⟨fd_is_signs, F_is_signs⟩ := c.def_ 5 (d := dis_signs) rfl
  have G_is_signs := ok_is_signs (P := P) (w := w) (base := base) T F_is_signs
  have gl_is_signs := He.glo_ok KX G0 (c.fact 16 (f := .glo "is_signs") rfl)
  obtain ⟨fd_is_path, F_is_path⟩ := c.def_ 4 (d := dis_path) rfl
  have G_is_path := ok_is_path (P := P) (w := w) (base := base) T F_is_path
  have gl_is_path := He.glo_ok KX G0 (c.fact 17 (f := .glo "is_path") rfl)
  obtain ⟨fd_is_word, F_is_word⟩ := c.def_ 0 (d := dis_word) rfl
  have G_is_word := ok_is_word (P := P) (w := w) (base := base) T F_is_word
  have gl_is_word := He.glo_ok KX G0 (c.fact 10 (f := .glo "is_word") rfl)
  refine fnM_of F sc_law_right fun cdv A outer s H E hr hgd => ?_
  have hu := hr.units
  have tk := takes_of (X := cxOf (L2.CX P w) P w K mg base n_law_right "_law_right" (defScope s_law_right) f cdv A outer s H E) rfl rfl rfl rfl
  have hp := passes_of (X := cxOf (L2.CX P w) P w K mg base n_law_right "_law_right" (defScope s_law_right) f cdv A outer s H E) rfl
  exact (sss_cons (ss_set (i := 1) sc_law_right.nd rfl (Or.inl rfl) (se_callB1 (cm_repr hu hgd) m_repr (by decide +kernel) (by rfl) (sv 0))) (sss_cons (ss_set (i := 2) sc_law_right.nd rfl (Or.inl rfl) (se_lst (sa_cons (se_call G_is_word (by exact hr.mono (by decide)) hgd (bn_is_word_1 F_is_word) tk gl_is_word F_is_word.kp (by rfl) rfl (sa_cons (sv 0) sa_nil) (len_cons len_nil)) (sa_cons (se_call G_is_path (by exact hr.mono (by decide)) hgd (bn_is_path_1 F_is_path) tk gl_is_path F_is_path.kp (by rfl) rfl (sa_cons (sv 0) sa_nil) (len_cons len_nil)) (sa_cons (se_call G_is_signs (by exact hr.mono (by decide)) hgd (bn_is_signs_1 F_is_signs) tk gl_is_signs F_is_signs.kp (by rfl) rfl (sa_cons (sv 0) sa_nil) (len_cons len_nil)) (sa_cons (se_call G_is_whole (by exact hr.mono (by decide)) hgd (bn_is_whole_1 F_is_whole) tk gl_is_whole F_is_whole.kp (by rfl) rfl (sa_cons (sv 0) sa_nil) (len_cons len_nil)) (sa_cons (se_call G_is_key (by exact hr.mono (by decide)) hgd (bn_is_key_1 F_is_key) tk gl_is_key F_is_key.kp (by rfl) rfl (sa_cons (sv 0) sa_nil) (len_cons len_nil)) sa_nil))))) (len_cons (len_cons (len_cons (len_cons (len_cons len_nil))))))) (sss_one (ss_ret (se_and (se_cmp (om_eq hu) (se_callB1 (cm_repr hu hgd) m_repr (by decide +kernel) (by rfl) (sv 2)) (se_callB1 (cm_repr hu hgd) m_repr (by decide +kernel) (by rfl) (se_call G__law_so (by exact hr.mono (by decide)) hgd (bn__law_so_1 F__law_so) tk gl__law_so F__law_so.kp (by rfl) rfl (sa_cons (sv 0) sa_nil) (len_cons len_nil))) (nomark _)) (se_one (se_cmp (om_eq hu) (se_callB1 (cm_repr hu hgd) m_repr (by decide +kernel) (by rfl) (sv 0)) (sv 1) (nomark _))))))))
theorem sc_law_take : FnScope n_law_take p_law_take (defScope s_law_take) := ⟨rfl, rfl, rfl, by decide +kernel, rfl, by decide +kernel, by decide +kernel⟩
noncomputable def b__law_take : MSt :=
  (sSeq (sIf (tB (eBin gtM (eBin ixM (eVar 0) (eC (.int 0))) (eC (.int 0)))) (sSeq (sAsg 2 (eBin modM (eBin ixM (eVar 0) (eC (.int 0))) (eVar 1))) (sSeq (sSub (eVar 0) (eC (.int 0)) (eBin fdivM (eBin ixM (eVar 0) (eC (.int 0))) (eVar 1))) (sRet (eVar 2)))) sNil) (sSeq (sSub (eVar 0) (eC (.int 1)) (eBin modM (eBin addM (eBin mulM (eBin ixM (eVar 0) (eC (.int 1))) (eC (.int 48271))) (eC (.int 39373))) (eC (.int 2147483647)))) (sSeq (sAsg 2 (eBin fdivM (eBin modM (eBin mulM (eBin ixM (eVar 0) (eC (.int 1))) (eBin ixM (eVar 0) (eC (.int 1)))) (eC (.int 2147483629))) (eC (.int 16)))) (sSeq (sIf (tB (eBin gtM (eVar 1) (eBin powM (eC (.int 10)) (eC (.int 6))))) (sSeq (sSub (eVar 0) (eC (.int 1)) (eBin modM (eBin addM (eBin mulM (eBin ixM (eVar 0) (eC (.int 1))) (eC (.int 48271))) (eC (.int 39373))) (eC (.int 2147483647)))) (sAsg 2 (eBin addM (eBin mulM (eVar 2) (eC (.int 2147483629))) (eBin modM (eBin mulM (eBin ixM (eVar 0) (eC (.int 1))) (eBin ixM (eVar 0) (eC (.int 1)))) (eC (.int 2147483587)))))) sNil) (sRet (eBin modM (eVar 2) (eVar 1)))))))
noncomputable def c__law_take : MF := fnCode 3 b__law_take
theorem ok__law_take (T : Tp K mg) {f : Addr} {fd : FuncData} (F : FunD K "_law_take" "_law_take" (defArgs s_law_take) (defBody s_law_take) (defScope s_law_take) [] [] f fd) : FnM P w K mg base 1 f fd p_law_take c__law_take := by
  obtain ⟨h0, KX, G0, c0⟩ := T.says
  have c := c0.d
  refine fnM_of F sc_law_take fun cdv A outer s H E hr hgd => ?_
  have hu := hr.units
  have tk := takes_of (X := cxOf (L2.CX P w) P w K mg base n_law_take "_law_take" (defScope s_law_take) f cdv A outer s H E) rfl rfl rfl rfl
  have hp := passes_of (X := cxOf (L2.CX P w) P w K mg base n_law_take "_law_take" (defScope s_law_take) f cdv A outer s H E) rfl
  exact (sss_cons (ss_if (st_cmp om_gt (se_ix om_ix (sv 0) se_int (fun _ _ => rfl)) se_int (nomark _)) (sss_cons (ss_set (i := 2) sc_law_take.nd rfl (Or.inl rfl) (se_op om_mod (se_ix om_ix (sv 0) se_int (fun _ _ => rfl)) (sv 1))) (sss_cons (ss_sub (sv 0) se_int (se_op om_fdiv (se_ix om_ix (sv 0) se_int (fun _ _ => rfl)) (sv 1))) (sss_one (ss_ret (sv 2))))) sss_nil) (sss_cons (ss_sub (sv 0) se_int (se_op om_mod (se_op om_add (se_op om_mul (se_ix om_ix (sv 0) se_int (fun _ _ => rfl)) se_int) se_int) se_int)) (sss_cons (ss_set (i := 2) sc_law_take.nd rfl (Or.inl rfl) (se_op om_fdiv (se_op om_mod (se_op om_mul (se_ix om_ix (sv 0) se_int (fun _ _ => rfl)) (se_ix om_ix (sv 0) se_int (fun _ _ => rfl))) se_int) se_int)) (sss_cons (ss_if (st_cmp om_gt (sv 1) (se_op om_pow se_int se_int) (nomark _)) (sss_cons (ss_sub (sv 0) se_int (se_op om_mod (se_op om_add (se_op om_mul (se_ix om_ix (sv 0) se_int (fun _ _ => rfl)) se_int) se_int) se_int)) (sss_one (ss_set (i := 2) sc_law_take.nd rfl (Or.inl rfl) (se_op om_add (se_op om_mul (sv 2) se_int) (se_op om_mod (se_op om_mul (se_ix om_ix (sv 0) se_int (fun _ _ => rfl)) (se_ix om_ix (sv 0) se_int (fun _ _ => rfl))) se_int))))) sss_nil) (sss_one (ss_ret (se_op om_mod (sv 2) (sv 1))))))))
theorem sc_law_word : FnScope n_law_word p_law_word (defScope s_law_word) := ⟨rfl, rfl, rfl, by decide +kernel, rfl, by decide +kernel, by decide +kernel⟩
noncomputable def b__law_word : MSt :=
  (sSeq (sAsg 1 (eC (.str "abcdefghijklmnopqrstuvwxyz"))) (sSeq (sAsg 2 (eBin ixM (eLst (aCons (eC (.int 1)) (aCons (eC (.int 2)) (aCons (eC (.int 3)) (aCons (eC (.int 8)) aNil))))) (eCall (gb [.p 0, .p 1] [] []) c__law_take (aCons (eVar 0) (aCons (eC (.int 4)) aNil)) aNil))) (sRet (eM1 joinM (eC (.str "")) (eComp (iR1 (aCons (eVar 2) aNil)) (gN 3) tYesM (eBin ixM (eVar 1) (eCall (gb [.p 0, .p 1] [] []) c__law_take (aCons (eVar 0) (aCons (eC (.int 26)) aNil)) aNil)) [3])))))
noncomputable def c__law_word : MF := fnCode 4 b__law_word
theorem ok__law_word (T : Tp K mg) {f : Addr} {fd : FuncData} (F : FunD K "_law_word" "_law_word" (defArgs s_law_word) (defBody s_law_word) (defScope s_law_word) [] [] f fd) : FnM P w K mg base 2 f fd p_law_word c__law_word := by
  obtain ⟨h0, KX, G0, c0⟩ := T.says
  have c := c0.d
  have m_range := He.free_ok KX G0 (c.fact 18 (f := .free "range") rfl)
  obtain ⟨fd__law_take, F__law_take⟩ := c.def_ 8 (d := d_law_take) rfl
  have G__law_take := ok__law_take (P := P) (w := w) (base := base) T F__law_take
  have gl__law_take := He.glo_ok KX G0 (c.fact 19 (f := .glo "_law_take") rfl)
  refine fnM_of F sc_law_word fun cdv A outer s H E hr hgd => ?_
  have hu := hr.units
  have tk := takes_of (X := cxOf (L2.CX P w) P w K mg base n_law_word "_law_word" (defScope s_law_word) f cdv A outer s H E) rfl rfl rfl rfl
  have hp := passes_of (X := cxOf (L2.CX P w) P w K mg base n_law_word "_law_word" (defScope s_law_word) f cdv A outer s H E) rfl
  exact (sss_cons (ss_set (i := 1) sc_law_word.nd rfl (Or.inr rfl) se_str) (sss_cons (ss_set (i := 2) sc_law_word.nd rfl (Or.inl rfl) (se_ix om_ix (se_lst (sa_cons se_int (sa_cons se_int (sa_cons se_int (sa_cons se_int sa_nil)))) (len_cons (len_cons (len_cons (len_cons len_nil))))) (se_call G__law_take (by exact hr.mono (by decide)) hgd (bn__law_take_2 F__law_take) tk gl__law_take F__law_take.kp (by rfl) rfl (sa_cons (sv 0) (sa_cons se_int sa_nil)) (len_cons (len_cons len_nil))) (fun _ _ => rfl))) (sss_one (ss_ret (se_m1 PySem.F.slot_str_join PySem.F.type_str_join mm_join se_str (se_lc (own := [("_law_turn", 3)]) rfl sc_law_word.nd (si_range1 m_range (by rfl) (sa_cons (sv 2) sa_nil)) (blkOk_by (own := [("_law_turn", 3)]) (N := n_law_word) (sc := (defScope s_law_word)) (by decide +kernel)) (fun _ _ _ _ _ => by exact (sg_name (i := 3) sc_law_word.nd rfl (Or.inl rfl) (by decide))) (fun _ _ _ _ _ => by exact spts_nil) (fun _ _ _ _ _ => by exact (se_ix om_ix (sv 1) (se_call G__law_take (by exact hr.mono (by decide)) hgd (bn__law_take_2 F__law_take) takes0 gl__law_take F__law_take.kp (by rfl) rfl (sa_cons (sv 0) (sa_cons se_int sa_nil)) (len_cons (len_cons len_nil))) (fun _ _ => rfl)))))))))
theorem sc_law_line : FnScope n_law_line p_law_line (defScope s_law_line) := ⟨rfl, rfl, rfl, by decide +kernel, rfl, by decide +kernel, by decide +kernel⟩
noncomputable def b__law_line : MSt :=
  (sSeq (sAsg 2 (eC (.str " !\"#0123456789:;=?@AZ[]az{|}.,"))) (sRet (eM1 joinM (eC (.str "")) (eComp (iR1 (aCons (eVar 1) aNil)) (gN 3) tYesM (eBin ixM (eVar 2) (eCall (gb [.p 0, .p 1] [] []) c__law_take (aCons (eVar 0) (aCons (eCB1 lenM (eVar 2)) aNil)) aNil)) [3]))))
noncomputable def c__law_line : MF := fnCode 4 b__law_line
theorem ok__law_line (T : Tp K mg) {f : Addr} {fd : FuncData} (F : FunD K "_law_line" "_law_line" (defArgs s_law_line) (defBody s_law_line) (defScope s_law_line) [] [] f fd) : FnM P w K mg base 2 f fd p_law_line c__law_line := by
  obtain ⟨h0, KX, G0, c0⟩ := T.says
  have c := c0.d
  have m_range := He.free_ok KX G0 (c.fact 18 (f := .free "range") rfl)
  obtain ⟨fd__law_take, F__law_take⟩ := c.def_ 8 (d := d_law_take) rfl
  have G__law_take := ok__law_take (P := P) (w := w) (base := base) T F__law_take
  have gl__law_take := He.glo_ok KX G0 (c.fact 19 (f := .glo "_law_take") rfl)
  have m_len := He.free_ok KX G0 (c.fact 2 (f := .free "len") rfl)
  refine fnM_of F sc_law_line fun cdv A outer s H E hr hgd => ?_
  have hu := hr.units
  have tk := takes_of (X := cxOf (L2.CX P w) P w K mg base n_law_line "_law_line" (defScope s_law_line) f cdv A outer s H E) rfl rfl rfl rfl
  have hp := passes_of (X := cxOf (L2.CX P w) P w K mg base n_law_line "_law_line" (defScope s_law_line) f cdv A outer s H E) rfl
  exact (sss_cons (ss_set (i := 2) sc_law_line.nd rfl (Or.inr rfl) se_str) (sss_one (ss_ret (se_m1 PySem.F.slot_str_join PySem.F.type_str_join mm_join se_str (se_lc (own := [("_law_turn", 3)]) rfl sc_law_line.nd (si_range1 m_range (by rfl) (sa_cons (sv 1) sa_nil)) (blkOk_by (own := [("_law_turn", 3)]) (N := n_law_line) (sc := (defScope s_law_line)) (by decide +kernel)) (fun _ _ _ _ _ => by exact (sg_name (i := 3) sc_law_line.nd rfl (Or.inl rfl) (by decide))) (fun _ _ _ _ _ => by exact spts_nil) (fun _ _ _ _ _ => by exact (se_ix om_ix (sv 2) (se_call G__law_take (by exact hr.mono (by decide)) hgd (bn__law_take_2 F__law_take) takes0 gl__law_take F__law_take.kp (by rfl) rfl (sa_cons (sv 0) (sa_cons (se_callB1 cm_len m_len (by decide +kernel) (by rfl) (sv 2)) sa_nil)) (len_cons (len_cons len_nil))) (fun _ _ => rfl))))))))
theorem sc_law_room : FnScope n_law_room p_law_room (defScope s_law_room) := ⟨rfl, rfl, rfl, by decide +kernel, rfl, by decide +kernel, by decide +kernel⟩
noncomputable def b__law_room : MSt :=
  (sSeq (sAsg 2 (eC (.int 0))) (sSeq (sIf (tB (eBin ltM (eVar 1) (eCB1 lenM (eVar 0)))) (sAsg 2 (eBin ixM (eVar 0) (eVar 1))) sNil) (sSeq (sAsg 3 (eC (.int 0))) (sSeq (sIf (tB (eBin geM (eVar 2) (eBin powM (eC (.int 10)) (eC (.int 18))))) (sAsg 3 (eVar 2)) sNil) (sRet (eLst (aCons (eVar 3) (aCons (eBin modM (eBin mulM (eBin addM (eBin addM (eBin modM (eVar 2) (eC (.int 2147483629))) (eBin mulM (eBin mulM (eC (.int 104729)) (eVar 1)) (eVar 1))) (eC (.int 7))) (eC (.int 48271))) (eC (.int 2147483647))) aNil))))))))
noncomputable def c__law_room : MF := fnCode 4 b__law_room
theorem ok__law_room (T : Tp K mg) {f : Addr} {fd : FuncData} (F : FunD K "_law_room" "_law_room" (defArgs s_law_room) (defBody s_law_room) (defScope s_law_room) [] [] f fd) : FnM P w K mg base 1 f fd p_law_room c__law_room := by
  obtain ⟨h0, KX, G0, c0⟩ := T.says
  have c := c0.d
  have m_len := He.free_ok KX G0 (c.fact 2 (f := .free "len") rfl)
  refine fnM_of F sc_law_room fun cdv A outer s H E hr hgd => ?_
  have hu := hr.units
  have tk := takes_of (X := cxOf (L2.CX P w) P w K mg base n_law_room "_law_room" (defScope s_law_room) f cdv A outer s H E) rfl rfl rfl rfl
  have hp := passes_of (X := cxOf (L2.CX P w) P w K mg base n_law_room "_law_room" (defScope s_law_room) f cdv A outer s H E) rfl
  exact (sss_cons (ss_set (i := 2) sc_law_room.nd rfl (Or.inl rfl) se_int) (sss_cons (ss_if (st_cmp om_lt (sv 1) (se_callB1 cm_len m_len (by decide +kernel) (by rfl) (sv 0)) (nomark _)) (sss_one (ss_set (i := 2) sc_law_room.nd rfl (Or.inl rfl) (se_ix om_ix (sv 0) (sv 1) (fun _ _ => rfl)))) sss_nil) (sss_cons (ss_set (i := 3) sc_law_room.nd rfl (Or.inl rfl) se_int) (sss_cons (ss_if (st_cmp om_ge (sv 2) (se_op om_pow se_int se_int) (nomark _)) (sss_one (ss_set (i := 3) sc_law_room.nd rfl (Or.inl rfl) (sv 2))) sss_nil) (sss_one (ss_ret (se_lst (sa_cons (sv 3) (sa_cons (se_op om_mod (se_op om_mul (se_op om_add (se_op om_add (se_op om_mod (sv 2) se_int) (se_op om_mul (se_op om_mul se_int (sv 1)) (sv 1))) se_int) se_int) se_int) sa_nil)) (len_cons (len_cons len_nil)))))))))
theorem sc_law_bent : FnScope n_law_bent p_law_bent (defScope s_law_bent) := ⟨rfl, rfl, rfl, by decide +kernel, rfl, by decide +kernel, by decide +kernel⟩
noncomputable def b__law_bent : MSt :=
  (sSeq (sAsg 2 (eLst (aCons (eC .non) (aCons (eC (.bl true)) (aCons (eC (.int 0)) (aCons (eUn negM (eC (.int 1))) (aCons (eC (.int 5)) (aCons (eC (.str "")) (aCons (eC (.str "A")) (aCons (eC (.str "a b")) (aCons (eC (.str "~")) (aCons (eC (.str "\n")) (aCons (eC (.str "abcdefghi")) (aCons (eTup aNil) (aCons (eLst aNil) (aCons (eLst (aCons (eC (.str "a")) aNil)) (aCons (eTup (aCons (eC (.str "a")) aNil)) (aCons eDic0 (aCons (eBin powM (eC (.int 10)) (eC (.int 20))) aNil))))))))))))))))))) (sSeq (sAsg 2 (eBin ixM (eVar 2) (eCall (gb [.p 0, .p 1] [] []) c__law_take (aCons (eVar 0) (aCons (eC (.int 17)) aNil)) aNil))) (sSeq (sIf (tTru (eCB (isiM kt) (aCons (eVar 1) (aCons (eC (.ty "str")) aNil)))) (sSeq (sAsg 3 (eCall (gb [.p 0, .p 1] [] []) c__law_take (aCons (eVar 0) (aCons (eBin addM (eCB1 lenM (eVar 1)) (eC (.int 1))) aNil)) aNil)) (sRet (eBin ixM (eLst (aCons (eVar 2) (aCons (eBin addM (eVar 1) (eC (.str "~"))) (aCons (eBin addM (eBin addM (eSl slM (eVar 1) oNo (oSo (eVar 3))) (eC (.str "\n"))) (eSl slM (eVar 1) (oSo (eVar 3)) oNo)) (aCons (eM0 upperM (eVar 1)) (aCons (eLst (aCons (eVar 1) aNil)) aNil)))))) (eCall (gb [.p 0, .p 1] [] []) c__law_take (aCons (eVar 0) (aCons (eC (.int 5)) aNil)) aNil)))) sNil) (sSeq (sAsg 3 (eCall (gb [.p 0, .p 1] [] []) c__law_take (aCons (eVar 0) (aCons (eBin addM (eCB1 lenM (eVar 1)) (eC (.int 1))) aNil)) aNil)) (sRet (eBin ixM (eLst (aCons (eBin addM (eBin addM (eSl slM (eVar 1) oNo (oSo (eVar 3))) (eTup (aCons (eVar 2) aNil))) (eSl slM (eVar 1) (oSo (eBin addM (eVar 3) (eC (.int 1)))) oNo)) (aCons (eBin addM (eVar 1) (eTup (aCons (eVar 2) aNil))) (aCons (eCB1 listM (eVar 1)) (aCons (eSl slM (eVar 1) oNo (oSo (eUn negM (eC (.int 1))))) (aCons (eVar 2) aNil)))))) (eCall (gb [.p 0, .p 1] [] []) c__law_take (aCons (eVar 0) (aCons (eC (.int 5)) aNil)) aNil)))))))
noncomputable def c__law_bent : MF := fnCode 4 b__law_bent
theorem ok__law_bent (T : Tp K mg) {f : Addr} {fd : FuncData} (F : FunD K "_law_bent" "_law_bent" (defArgs s_law_bent) (defBody s_law_bent) (defScope s_law_bent) [] [] f fd) : FnM P w K mg base 2 f fd p_law_bent c__law_bent := by
  obtain ⟨h0, KX, G0, c0⟩ := T.says
  have c := c0.d
  have m_list := He.free_ok KX G0 (c.fact 20 (f := .free "list") rfl)
  obtain ⟨fd__law_take, F__law_take⟩ := c.def_ 8 (d := d_law_take) rfl
  have G__law_take := ok__law_take (P := P) (w := w) (base := base) T F__law_take
  have gl__law_take := He.glo_ok KX G0 (c.fact 19 (f := .glo "_law_take") rfl)
  have m_len := He.free_ok KX G0 (c.fact 2 (f := .free "len") rfl)
  have m_str := He.free_ok KX G0 (c.fact 4 (f := .free "str") rfl)
  have m_isinstance := He.free_ok KX G0 (c.fact 5 (f := .free "isinstance") rfl)
  refine fnM_of F sc_law_bent fun cdv A outer s H E hr hgd => ?_
  have hu := hr.units
  have tk := takes_of (X := cxOf (L2.CX P w) P w K mg base n_law_bent "_law_bent" (defScope s_law_bent) f cdv A outer s H E) rfl rfl rfl rfl
  have hp := passes_of (X := cxOf (L2.CX P w) P w K mg base n_law_bent "_law_bent" (defScope s_law_bent) f cdv A outer s H E) rfl
  exact (sss_cons (ss_set (i := 2) sc_law_bent.nd rfl (Or.inl rfl) (se_lst (sa_cons se_non (sa_cons se_bl (sa_cons se_int (sa_cons (se_un om_neg se_int) (sa_cons se_int (sa_cons se_str (sa_cons se_str (sa_cons se_str (sa_cons se_str (sa_cons se_str (sa_cons se_str (sa_cons (se_tup sa_nil len_nil) (sa_cons (se_lst sa_nil len_nil) (sa_cons (se_lst (sa_cons se_str sa_nil) (len_cons len_nil)) (sa_cons (se_tup (sa_cons se_str sa_nil) (len_cons len_nil)) (sa_cons se_dic0 (sa_cons (se_op om_pow se_int se_int) sa_nil))))))))))))))))) (len_cons (len_cons (len_cons (len_cons (len_cons (len_cons (len_cons (len_cons (len_cons (len_cons (len_cons (len_cons (len_cons (len_cons (len_cons (len_cons (len_cons len_nil))))))))))))))))))) (sss_cons (ss_set (i := 2) sc_law_bent.nd rfl (Or.inl rfl) (se_ix om_ix (sv 2) (se_call G__law_take (by exact hr.mono (by decide)) hgd (bn__law_take_2 F__law_take) tk gl__law_take F__law_take.kp (by rfl) rfl (sa_cons (sv 0) (sa_cons se_int sa_nil)) (len_cons (len_cons len_nil))) (fun _ _ => rfl))) (sss_cons (ss_if (st_tru (se_callB (cm_isi T.kt) m_isinstance (by decide +kernel) (by rfl) (sa_cons (sv 1) (sa_cons (se_ty (n := "str") m_str (by rfl) (by decide +kernel)) sa_nil)))) (sss_cons (ss_set (i := 3) sc_law_bent.nd rfl (Or.inl rfl) (se_call G__law_take (by exact hr.mono (by decide)) hgd (bn__law_take_2 F__law_take) tk gl__law_take F__law_take.kp (by rfl) rfl (sa_cons (sv 0) (sa_cons (se_op om_add (se_callB1 cm_len m_len (by decide +kernel) (by rfl) (sv 1)) se_int) sa_nil)) (len_cons (len_cons len_nil)))) (sss_one (ss_ret (se_ix om_ix (se_lst (sa_cons (sv 2) (sa_cons (se_op om_add (sv 1) se_str) (sa_cons (se_op om_add (se_op om_add (se_slice om_sl (sv 1) so_none (so_some (sv 3))) se_str) (se_slice om_sl (sv 1) (so_some (sv 3)) so_none)) (sa_cons (se_m0 PySem.F.slot_str_upper PySem.F.type_str_upper mm_upper (sv 1)) (sa_cons (se_lst (sa_cons (sv 1) sa_nil) (len_cons len_nil)) sa_nil))))) (len_cons (len_cons (len_cons (len_cons (len_cons len_nil)))))) (se_call G__law_take (by exact hr.mono (by decide)) hgd (bn__law_take_2 F__law_take) tk gl__law_take F__law_take.kp (by rfl) rfl (sa_cons (sv 0) (sa_cons se_int sa_nil)) (len_cons (len_cons len_nil))) (fun _ _ => rfl))))) sss_nil) (sss_cons (ss_set (i := 3) sc_law_bent.nd rfl (Or.inl rfl) (se_call G__law_take (by exact hr.mono (by decide)) hgd (bn__law_take_2 F__law_take) tk gl__law_take F__law_take.kp (by rfl) rfl (sa_cons (sv 0) (sa_cons (se_op om_add (se_callB1 cm_len m_len (by decide +kernel) (by rfl) (sv 1)) se_int) sa_nil)) (len_cons (len_cons len_nil)))) (sss_one (ss_ret (se_ix om_ix (se_lst (sa_cons (se_op om_add (se_op om_add (se_slice om_sl (sv 1) so_none (so_some (sv 3))) (se_tup (sa_cons (sv 2) sa_nil) (len_cons len_nil))) (se_slice om_sl (sv 1) (so_some (se_op om_add (sv 3) se_int)) so_none)) (sa_cons (se_op om_add (sv 1) (se_tup (sa_cons (sv 2) sa_nil) (len_cons len_nil))) (sa_cons (se_callTy1 cm_list m_list (by decide +kernel) (by rfl) (sv 1)) (sa_cons (se_slice om_sl (sv 1) so_none (so_some (se_un om_neg se_int))) (sa_cons (sv 2) sa_nil))))) (len_cons (len_cons (len_cons (len_cons (len_cons len_nil)))))) (se_call G__law_take (by exact hr.mono (by decide)) hgd (bn__law_take_2 F__law_take) tk gl__law_take F__law_take.kp (by rfl) rfl (sa_cons (sv 0) (sa_cons se_int sa_nil)) (len_cons (len_cons len_nil))) (fun _ _ => rfl))))))))
theorem sclaw : FnScope nlaw plaw (defScope slaw) := ⟨rfl, rfl, rfl, by decide +kernel, rfl, by decide +kernel, by decide +kernel⟩
noncomputable def b_law : MSt :=
  (sSeq (sAsg 1 (eLst (aCons (eC .non) (aCons (eC (.bl true)) (aCons (eC (.bl false)) (aCons (eC (.int 0)) (aCons (eC (.int 1)) (aCons (eUn negM (eC (.int 1))) (aCons (eBin powM (eC (.int 10)) (eC (.int 29))) (aCons (eC (.str "")) (aCons (eC (.str "a")) (aCons (eC (.str "abcdefgh")) (aCons (eC (.str "abcdefghi")) (aCons (eC (.str "a1")) (aCons (eC (.str " ")) (aCons (eC (.str "}")) (aCons (eC (.str "~")) (aCons (eC (.str "a~")) aNil)))))))))))))))))) (sSeq (sAsg 1 (eBin addM (eVar 1) (eLst (aCons (eTup aNil) (aCons (eTup (aCons (eC (.str "a")) aNil)) aNil))))) (sSeq (sAsg 1 (eBin addM (eVar 1) (eLst (aCons (eBin mulM (eTup (aCons (eC (.str "a")) aNil)) (eC (.int 5))) (aCons (eBin mulM (eTup (aCons (eC (.str "a")) aNil)) (eC (.int 6))) (aCons (eTup (aCons (eC (.str "a")) (aCons (eC (.int 1)) aNil))) (aCons (eTup (aCons (eC (.str "a")) (aCons (eC (.int 0)) aNil))) (aCons (eTup (aCons (eC (.str "a")) (aCons (eC (.bl true)) aNil))) (aCons (eTup (aCons (eC (.str "A")) (aCons (eC (.int 1)) aNil))) (aCons (eLst (aCons (eC (.str "a")) (aCons (eC (.int 1)) aNil))) (aCons (eTup (aCons (eC (.str "a")) (aCons (eC (.int 1)) (aCons (eC (.int 1)) aNil)))) (aCons eDic0 aNil)))))))))))) (sSeq (sFor (iR1 (aCons (eCB max2M (aCons (eC (.int 1)) (aCons (eCB min2M (aCons (eCB1 lenM (eVar 0)) (aCons (eC (.int 30)) aNil))) aNil))) aNil)) (gN 2) (sSeq (sAsg 3 (eCall (gb [.p 0, .p 1] [] []) c__law_room (aCons (eVar 0) (aCons (eVar 2) aNil)) aNil)) (sSeq (sAsg 4 (eCB1 tupleM (eComp (iR1 (aCons (eCall (gb [.p 0, .p 1] [] []) c__law_take (aCons (eVar 3) (aCons (eC (.int 7)) aNil)) aNil) aNil)) (gN 7) tYesM (eCall (gb [.p 0] [] []) c__law_word (aCons (eVar 3) aNil) aNil) [7]))) (sSeq (sAsg 5 (eCall (gb [.p 0, .p 1] [] []) c__law_line (aCons (eVar 3) (aCons (eCall (gb [.p 0, .p 1] [] []) c__law_take (aCons (eVar 3) (aCons (eC (.int 9)) aNil)) aNil) aNil)) aNil)) (sSeq (sAsg 6 (eLst (aCons (eCall (gb [.p 0] [] []) c__law_word (aCons (eVar 3) aNil) aNil) (aCons (eVar 4) (aCons (eVar 5) (aCons (eTup (aCons (eCall (gb [.p 0] [] []) c__law_word (aCons (eVar 3) aNil) aNil) (aCons (eBin addM (eC (.int 1)) (eCall (gb [.p 0, .p 1] [] []) c__law_take (aCons (eVar 3) (aCons (eC (.int 99)) aNil)) aNil)) aNil))) aNil)))))) (sAsg 1 (eBin addM (eBin addM (eVar 1) (eVar 6)) (eComp (iSeq (eVar 6)) (gN 8) tYesM (eCall (gb [.p 0, .p 1] [] []) c__law_bent (aCons (eVar 3) (aCons (eVar 8) aNil)) aNil) [8])))))))) (sRet (eAnd (eBin eqM (eC (.str "~")) (eC (.str "~"))) (eBin eqM (eComp (iSeq (eVar 1)) (gN 8) (tNotM (tTru (eCall (gb [.p 0] [] []) c__law_right (aCons (eVar 8) aNil) aNil))) (eVar 8) [8]) (eLst aNil))))))))
noncomputable def c_law : MF := fnCode 9 b_law
theorem ok_law (T : Tp K mg) {f : Addr} {fd : FuncData} (F : FunD K "law" "law" (defArgs slaw) (defBody slaw) (defScope slaw) [] [] f fd) : FnM P w K mg base 5 f fd plaw c_law := by
  obtain ⟨h0, KX, G0, c0⟩ := T.says
  have c := c0.d
  obtain ⟨fd__law_right, F__law_right⟩ := c.def_ 7 (d := d_law_right) rfl
  have G__law_right := ok__law_right (P := P) (w := w) (base := base) T F__law_right
  have gl__law_right := He.glo_ok KX G0 (c.fact 21 (f := .glo "_law_right") rfl)
  have i_FILLER := He.str_ok KX G0 (c.fact 22 (f := .str "FILLER" "~") rfl)
  have m_len := He.free_ok KX G0 (c.fact 2 (f := .free "len") rfl)
  have m_min := He.free_ok KX G0 (c.fact 23 (f := .free "min") rfl)
  have m_max := He.free_ok KX G0 (c.fact 24 (f := .free "max") rfl)
  have m_range := He.free_ok KX G0 (c.fact 18 (f := .free "range") rfl)
  obtain ⟨fd__law_bent, F__law_bent⟩ := c.def_ 12 (d := d_law_bent) rfl
  have G__law_bent := ok__law_bent (P := P) (w := w) (base := base) T F__law_bent
  have gl__law_bent := He.glo_ok KX G0 (c.fact 25 (f := .glo "_law_bent") rfl)
  obtain ⟨fd__law_take, F__law_take⟩ := c.def_ 8 (d := d_law_take) rfl
  have G__law_take := ok__law_take (P := P) (w := w) (base := base) T F__law_take
  have gl__law_take := He.glo_ok KX G0 (c.fact 19 (f := .glo "_law_take") rfl)
  obtain ⟨fd__law_word, F__law_word⟩ := c.def_ 9 (d := d_law_word) rfl
  have G__law_word := ok__law_word (P := P) (w := w) (base := base) T F__law_word
  have gl__law_word := He.glo_ok KX G0 (c.fact 26 (f := .glo "_law_word") rfl)
  obtain ⟨fd__law_line, F__law_line⟩ := c.def_ 10 (d := d_law_line) rfl
  have G__law_line := ok__law_line (P := P) (w := w) (base := base) T F__law_line
  have gl__law_line := He.glo_ok KX G0 (c.fact 27 (f := .glo "_law_line") rfl)
  have m_tuple := He.free_ok KX G0 (c.fact 11 (f := .free "tuple") rfl)
  obtain ⟨fd__law_room, F__law_room⟩ := c.def_ 11 (d := d_law_room) rfl
  have G__law_room := ok__law_room (P := P) (w := w) (base := base) T F__law_room
  have gl__law_room := He.glo_ok KX G0 (c.fact 28 (f := .glo "_law_room") rfl)
  refine fnM_of F sclaw fun cdv A outer s H E hr hgd => ?_
  have hu := hr.units
  have tk := takes_of (X := cxOf (L2.CX P w) P w K mg base nlaw "law" (defScope slaw) f cdv A outer s H E) rfl rfl rfl rfl
  have hp := passes_of (X := cxOf (L2.CX P w) P w K mg base nlaw "law" (defScope slaw) f cdv A outer s H E) rfl
  exact (sss_cons (ss_set (i := 1) sclaw.nd rfl (Or.inl rfl) (se_lst (sa_cons se_non (sa_cons se_bl (sa_cons se_bl (sa_cons se_int (sa_cons se_int (sa_cons (se_un om_neg se_int) (sa_cons (se_op om_pow se_int se_int) (sa_cons se_str (sa_cons se_str (sa_cons se_str (sa_cons se_str (sa_cons se_str (sa_cons se_str (sa_cons se_str (sa_cons se_str (sa_cons se_str sa_nil)))))))))))))))) (len_cons (len_cons (len_cons (len_cons (len_cons (len_cons (len_cons (len_cons (len_cons (len_cons (len_cons (len_cons (len_cons (len_cons (len_cons (len_cons len_nil)))))))))))))))))) (sss_cons (ss_set (i := 1) sclaw.nd rfl (Or.inl rfl) (se_op om_add (sv 1) (se_lst (sa_cons (se_tup sa_nil len_nil) (sa_cons (se_tup (sa_cons se_str sa_nil) (len_cons len_nil)) sa_nil)) (len_cons (len_cons len_nil))))) (sss_cons (ss_set (i := 1) sclaw.nd rfl (Or.inl rfl) (se_op om_add (sv 1) (se_lst (sa_cons (se_op om_mul (se_tup (sa_cons se_str sa_nil) (len_cons len_nil)) se_int) (sa_cons (se_op om_mul (se_tup (sa_cons se_str sa_nil) (len_cons len_nil)) se_int) (sa_cons (se_tup (sa_cons se_str (sa_cons se_int sa_nil)) (len_cons (len_cons len_nil))) (sa_cons (se_tup (sa_cons se_str (sa_cons se_int sa_nil)) (len_cons (len_cons len_nil))) (sa_cons (se_tup (sa_cons se_str (sa_cons se_bl sa_nil)) (len_cons (len_cons len_nil))) (sa_cons (se_tup (sa_cons se_str (sa_cons se_int sa_nil)) (len_cons (len_cons len_nil))) (sa_cons (se_lst (sa_cons se_str (sa_cons se_int sa_nil)) (len_cons (len_cons len_nil))) (sa_cons (se_tup (sa_cons se_str (sa_cons se_int (sa_cons se_int sa_nil))) (len_cons (len_cons (len_cons len_nil)))) (sa_cons se_dic0 sa_nil))))))))) (len_cons (len_cons (len_cons (len_cons (len_cons (len_cons (len_cons (len_cons (len_cons len_nil)))))))))))) (sss_cons (ss_for (vs := [2]) hp rfl (si_range1 m_range (by rfl) (sa_cons (se_callB (cm_max2 rfl) m_max (by decide +kernel) (by rfl) (sa_cons se_int (sa_cons (se_callB (cm_min2 rfl) m_min (by decide +kernel) (by rfl) (sa_cons (se_callB1 cm_len m_len (by decide +kernel) (by rfl) (sv 0)) (sa_cons se_int sa_nil))) sa_nil))) sa_nil)) (sg_name (i := 2) sclaw.nd rfl (Or.inl rfl) (by decide)) (sss_cons (ss_set (i := 3) sclaw.nd rfl (Or.inr rfl) (se_call G__law_room (by exact hr.mono (by decide)) hgd (bn__law_room_2 F__law_room) tk gl__law_room F__law_room.kp (by rfl) rfl (sa_cons (sv 0) (sa_cons (sv 2) sa_nil)) (len_cons (len_cons len_nil)))) (sss_cons (ss_set (i := 4) sclaw.nd rfl (Or.inl rfl) (se_callTy1 cm_tuple m_tuple (by decide +kernel) (by rfl) (se_lc (own := [("_law_turn", 7)]) rfl sclaw.nd (si_range1 m_range (by rfl) (sa_cons (se_call G__law_take (by exact hr.mono (by decide)) hgd (bn__law_take_2 F__law_take) tk gl__law_take F__law_take.kp (by rfl) rfl (sa_cons (sv 3) (sa_cons se_int sa_nil)) (len_cons (len_cons len_nil))) sa_nil)) (blkOk_by (own := [("_law_turn", 7)]) (N := nlaw) (sc := (defScope slaw)) (by decide +kernel)) (fun _ _ _ _ _ => by exact (sg_name (i := 7) sclaw.nd rfl (Or.inl rfl) (by decide))) (fun _ _ _ _ _ => by exact spts_nil) (fun _ _ _ _ _ => by exact (se_call G__law_word (by exact hr.mono (by decide)) hgd (bn__law_word_1 F__law_word) takes0 gl__law_word F__law_word.kp (by rfl) rfl (sa_cons (sv 3) sa_nil) (len_cons len_nil)))))) (sss_cons (ss_set (i := 5) sclaw.nd rfl (Or.inl rfl) (se_call G__law_line (by exact hr.mono (by decide)) hgd (bn__law_line_2 F__law_line) tk gl__law_line F__law_line.kp (by rfl) rfl (sa_cons (sv 3) (sa_cons (se_call G__law_take (by exact hr.mono (by decide)) hgd (bn__law_take_2 F__law_take) tk gl__law_take F__law_take.kp (by rfl) rfl (sa_cons (sv 3) (sa_cons se_int sa_nil)) (len_cons (len_cons len_nil))) sa_nil)) (len_cons (len_cons len_nil)))) (sss_cons (ss_set (i := 6) sclaw.nd rfl (Or.inl rfl) (se_lst (sa_cons (se_call G__law_word (by exact hr.mono (by decide)) hgd (bn__law_word_1 F__law_word) tk gl__law_word F__law_word.kp (by rfl) rfl (sa_cons (sv 3) sa_nil) (len_cons len_nil)) (sa_cons (sv 4) (sa_cons (sv 5) (sa_cons (se_tup (sa_cons (se_call G__law_word (by exact hr.mono (by decide)) hgd (bn__law_word_1 F__law_word) tk gl__law_word F__law_word.kp (by rfl) rfl (sa_cons (sv 3) sa_nil) (len_cons len_nil)) (sa_cons (se_op om_add se_int (se_call G__law_take (by exact hr.mono (by decide)) hgd (bn__law_take_2 F__law_take) tk gl__law_take F__law_take.kp (by rfl) rfl (sa_cons (sv 3) (sa_cons se_int sa_nil)) (len_cons (len_cons len_nil)))) sa_nil)) (len_cons (len_cons len_nil))) sa_nil)))) (len_cons (len_cons (len_cons (len_cons len_nil)))))) (sss_one (ss_set (i := 1) sclaw.nd rfl (Or.inl rfl) (se_op om_add (se_op om_add (sv 1) (sv 6)) (se_lc (own := [("_law_thing", 8)]) rfl sclaw.nd (si_seq (sv 6)) (blkOk_by (own := [("_law_thing", 8)]) (N := nlaw) (sc := (defScope slaw)) (by decide +kernel)) (fun _ _ _ _ _ => by exact (sg_name (i := 8) sclaw.nd rfl (Or.inl rfl) (by decide))) (fun _ _ _ _ _ => by exact spts_nil) (fun _ _ _ _ _ => by exact (se_call G__law_bent (by exact hr.mono (by decide)) hgd (bn__law_bent_2 F__law_bent) takes0 gl__law_bent F__law_bent.kp (by rfl) rfl (sa_cons (sv 3) (sa_cons (sv 8) sa_nil)) (len_cons (len_cons len_nil))))))))))))) (sss_one (ss_ret (se_and (se_cmp (om_eq hu) (se_gstr i_FILLER (by rfl)) se_str (nomark _)) (se_one (se_cmp (om_eq hu) (se_lc (own := [("_law_thing", 8)]) rfl sclaw.nd (si_seq (sv 1)) (blkOk_by (own := [("_law_thing", 8)]) (N := nlaw) (sc := (defScope slaw)) (by decide +kernel)) (fun _ _ _ _ _ => by exact (sg_name (i := 8) sclaw.nd rfl (Or.inl rfl) (by decide))) (fun _ _ _ _ _ => by exact (spts_one (st_not (st_tru (se_call G__law_right (by exact hr.mono (by decide)) hgd (bn__law_right_1 F__law_right) takes0 gl__law_right F__law_right.kp (by rfl) rfl (sa_cons (sv 8) sa_nil) (len_cons len_nil)))))) (fun _ _ _ _ _ => by exact (sv 8))) (se_lst sa_nil len_nil) (nomark _))))))))))
end
end My

set_option maxHeartbeats 400000
namespace My
open PySem PySem.Spec PyProof.Rows L2 Mi
/-! ### what the things are -/
def SOk (z : Str) : Prop := z.cps.toList.length ≤ 60 ∧ ∀ c ∈ z.cps.toList, c < 128
def Sc : MV → Prop
  | .non => True
  | .bl _ => True
  | .int i => (PyData.shown (.int i)).length ≤ 60 ∧ i.natAbs.log2 < 1920
  | .str z => SOk z
  | _ => False
/-- of a kind of the language's own -/
def Kd (h : MH) : MV → Prop
  | .non => True
  | .bl _ => True
  | .int _ => True
  | .str z => z.length ≤ 60
  | .tup xs => xs.length ≤ 60
  | .ref k => (∃ xs, h[k]? = some (.lst xs)) ∨ (∃ kvs, h[k]? = some (.dic kvs))
  | _ => False
def isS : MV → Bool
  | .str _ => true
  | _ => false
def isT : MV → Bool
  | .tup _ => true
  | _ => false
def isB : MV → Bool
  | .bl _ => true
  | _ => false
def isI : MV → Bool
  | .bl _ => true
  | .int _ => true
  | _ => false
theorem isi_of {h : MH} {v : MV} (k : Kd h v) {n : String} {f : MV → Bool} (e1 : kitB "NoneType" n = some (f .non)) (e2 : ∀ b, kitB "bool" n = some (f (.bl b))) (e3 : ∀ b, kitB "int" n = some (f (.int b))) (e4 : ∀ b, kitB "str" n = some (f (.str b)))
    (e5 : ∀ b, kitB "tuple" n = some (f (.tup b))) (e6 : ∀ b, kitB "list" n = some (f (.ref b))) (e7 : ∀ b, kitB "dict" n = some (f (.ref b))) : isiM kt [v, .ty n] h = .ok (.bl (f v)) h := by
  have go : ∀ a, tgOf h v = some (.b a) → kitB a n = some (f v) → isiM kt [v, .ty n] h = .ok (.bl (f v)) h := fun a q1 q2 => by
    show (match tgOf h v, tgC (.ty n) with
      | some t, some c => (match kitT kt t c with
        | some b => Res.ok (MV.bl b) h
        | none => .stuck)
      | _, _ => .stuck) = _
    rw [q1]
    show (match kitB a n with
        | some b => Res.ok (MV.bl b) h
        | none => .stuck) = _
    rw [q2]
  cases v with
  | non => exact go _ rfl e1
  | bl b => exact go _ rfl (e2 b)
  | int b => exact go _ rfl (e3 b)
  | str b => exact go _ rfl (e4 b)
  | tup b => exact go _ rfl (e5 b)
  | ref b =>
    rcases k with ⟨xs, k⟩ | ⟨xs, k⟩
    · exact go "list" (by simp only [tgOf, k]) (e6 b)
    · exact go "dict" (by simp only [tgOf, k]) (e7 b)
  | tmp _ => exact k.elim
  | con _ => exact k.elim
  | ty _ => exact k.elim
  | cls _ => exact k.elim
  | fn _ => exact k.elim
  | exn _ _ _ => exact k.elim
theorem isi_str {h : MH} {v : MV} (k : Kd h v) : isiM kt [v, .ty "str"] h = .ok (.bl (isS v)) h := isi_of k (f := isS) (show kitB "NoneType" "str" = some false by decide +kernel) (fun _ => by exact (show kitB "bool" "str" = some false by decide +kernel)) (fun _ => by exact (show kitB "int" "str" = some false by decide +kernel)) (fun _ => by exact (show kitB "str" "str" = some true by decide +kernel)) (fun _ => by exact (show kitB "tuple" "str" = some false by decide +kernel)) (fun _ => by exact (show kitB "list" "str" = some false by decide +kernel)) (fun _ => by exact (show kitB "dict" "str" = some false by decide +kernel))
theorem isi_tup {h : MH} {v : MV} (k : Kd h v) : isiM kt [v, .ty "tuple"] h = .ok (.bl (isT v)) h := isi_of k (f := isT) (show kitB "NoneType" "tuple" = some false by decide +kernel) (fun _ => by exact (show kitB "bool" "tuple" = some false by decide +kernel)) (fun _ => by exact (show kitB "int" "tuple" = some false by decide +kernel)) (fun _ => by exact (show kitB "str" "tuple" = some false by decide +kernel)) (fun _ => by exact (show kitB "tuple" "tuple" = some true by decide +kernel)) (fun _ => by exact (show kitB "list" "tuple" = some false by decide +kernel)) (fun _ => by exact (show kitB "dict" "tuple" = some false by decide +kernel))
theorem isi_int {h : MH} {v : MV} (k : Kd h v) : isiM kt [v, .ty "int"] h = .ok (.bl (isI v)) h := isi_of k (f := isI) (show kitB "NoneType" "int" = some false by decide +kernel) (fun _ => by exact (show kitB "bool" "int" = some true by decide +kernel)) (fun _ => by exact (show kitB "int" "int" = some true by decide +kernel)) (fun _ => by exact (show kitB "str" "int" = some false by decide +kernel)) (fun _ => by exact (show kitB "tuple" "int" = some false by decide +kernel)) (fun _ => by exact (show kitB "list" "int" = some false by decide +kernel)) (fun _ => by exact (show kitB "dict" "int" = some false by decide +kernel))
theorem isi_bool {h : MH} {v : MV} (k : Kd h v) : isiM kt [v, .ty "bool"] h = .ok (.bl (isB v)) h := isi_of k (f := isB) (show kitB "NoneType" "bool" = some false by decide +kernel) (fun _ => by exact (show kitB "bool" "bool" = some true by decide +kernel)) (fun _ => by exact (show kitB "int" "bool" = some false by decide +kernel)) (fun _ => by exact (show kitB "str" "bool" = some false by decide +kernel)) (fun _ => by exact (show kitB "tuple" "bool" = some false by decide +kernel)) (fun _ => by exact (show kitB "list" "bool" = some false by decide +kernel)) (fun _ => by exact (show kitB "dict" "bool" = some false by decide +kernel))
theorem Kd.set {h : MH} {v : MV} (k : Kd h v) : settle v h = .ok v h := by cases v <;> first | rfl | exact k.elim
/-! ### the five looks -/
abbrev abc : Str := "abcdefghijklmnopqrstuvwxyz"
def inA (c : Nat) : Bool := inStr ⟨#[c]⟩ abc
def loR (c : Nat) : Bool := !decide ((⟨#[c]⟩ : Str).cps.toList < (" " : Str).cps.toList)
def hiR (c : Nat) : Bool := !decide (("}" : Str).cps.toList < (⟨#[c]⟩ : Str).cps.toList)
def inR (c : Nat) : Bool := loR c && hiR c
theorem chain_at {i c : Nat} {σ : MS} {h : MH} (e : σ[i]? = some (some (MV.str ⟨#[c]⟩))) : eChain leM leM (eC (.str " ")) (eVar i) (eC (.str "}")) σ h = .ok (.bl (inR c)) h := by
  have e2 : eVar i σ h = .ok (.str ⟨#[c]⟩) h := by simp [e]
  show (eVar i σ h).bind (fun y h2 => (leM (.str " ") y h2).bind (chK leM y (eC (.str "}")) σ)) = _
  rw [e2]
  show chK leM (.str ⟨#[c]⟩) (eC (.str "}")) σ (.bl (loR c)) h = _
  unfold inR
  cases loR c with
  | true => rfl
  | false => rfl
def wordP : MV → Bool
  | .str z => decide (1 ≤ z.length) && decide (z.length ≤ 8) && z.cps.toList.all inA
  | _ => false
def pathP : MV → Bool
  | .tup xs => decide (xs.length ≤ 5) && xs.all wordP
  | _ => false
def signsP : MV → Bool
  | .str z => z.cps.toList.all inR
  | _ => false
def wholeP : MV → Bool
  | .int _ => true
  | _ => false
def keyP : MV → Bool
  | .tup [a, .int i] => wordP a && decide (1 ≤ i)
  | _ => false
theorem mapM_bl {ι : Type} (f : ι → Bool) : ∀ l : List ι, (l.map fun c => MV.bl (f c)).mapM asB = some (l.map f)
  | [] => rfl
  | x :: l => by
    rw [List.map_cons, List.mapM_cons, mapM_bl f l]
    rfl
theorem all_bl {ι : Type} (f : ι → Bool) (l : List ι) (h : MH) : allM (.tmp (l.map fun c => MV.bl (f c))) h = .ok (.bl (l.all f)) h := by
  show (match (some (l.map fun c => MV.bl (f c))).bind fun xs => xs.mapM asB with
    | some bs => Res.ok (MV.bl (bs.all id)) h
    | none => .stuck) = _
  rw [Option.bind_some, mapM_bl]
  show Res.ok (MV.bl ((l.map f).all id)) h = _
  rw [List.all_map]
  rfl
theorem whole_at {h : MH} {v : MV} (k : Kd h v) : c_is_whole [v] h = .ok (.bl (wholeP v)) h := by
  simp [c_is_whole, b_is_whole, k.set, isi_int k, isi_bool k]
  cases v <;> simp [isI, isB, wholeP, isi_bool k]
theorem word_at {h : MH} {v : MV} (k : Kd h v) : c_is_word [v] h = .ok (.bl (wordP v)) h := by
  simp [c_is_word, b_is_word, k.set, isi_str k]
  cases v <;> simp [isS, wordP]
  rename_i z
  have hl : z.length ≤ sizeLine := Nat.le_trans k (by decide)
  simp [lenM, hl, leM]
  by_cases h1 : 1 ≤ z.length
  · have h1' : (1 : Int) ≤ z.length := by omega
    by_cases h2 : z.length ≤ 8
    · have h2' : (z.length : Int) ≤ 8 := by omega
      have q := compL_map (st := fun _ => true) (g := gN 1) (tt := tYesM) (te := eBin inM (eVar 1) (eC (.str abc))) (σ := [some (MV.str z), none]) (fun c : Nat => MV.str ⟨#[c]⟩) (fun c => MV.bl (inA c)) h rfl z.cps.toList (by rw [← cps_len]; omega) fun x hx => ⟨_, rfl, rfl, rfl⟩
      simp [h1, h2, h1', h2', Mi.signs, leM, q, all_bl]
    · have h2' : ¬ (z.length : Int) ≤ 8 := by omega
      simp [h1, h2, h1', h2', leM]
  · have h1' : ¬ (1 : Int) ≤ z.length := by omega
    simp [h1, h1', leM]
theorem signs_at {h : MH} {v : MV} (k : Kd h v) : c_is_signs [v] h = .ok (.bl (signsP v)) h := by
  simp [c_is_signs, b_is_signs, k.set, isi_str k]
  cases v <;> simp [isS, signsP]
  rename_i z
  have hl : z.length ≤ sizeLine := Nat.le_trans k (by decide)
  have q := compL_map (st := fun _ => true) (g := gN 1) (tt := tYesM) (te := eChain leM leM (eC (.str " ")) (eVar 1) (eC (.str "}"))) (σ := [some (MV.str z), none]) (fun c : Nat => MV.str ⟨#[c]⟩) (fun c => MV.bl (inR c)) h rfl z.cps.toList (by rw [← cps_len]; omega) fun x hx => ⟨_, rfl, rfl, by
    rw [eSet_ap, chain_at (c := x) rfl]
    rfl⟩
  simp [Mi.signs, q, all_bl]
theorem path_at {h : MH} {v : MV} (k : Kd h v) (ks : ∀ xs, v = .tup xs → ∀ x ∈ xs, Kd h x) : c_is_path [v] h = .ok (.bl (pathP v)) h := by
  simp [c_is_path, b_is_path, k.set, isi_tup k]
  cases v <;> simp [isT, pathP]
  rename_i xs
  have kx := ks xs rfl
  have kl : xs.length ≤ 60 := k
  have q := compL_map1 (st := fun _ => true) (g := gN 1) (tt := tYesM) (te := eCall (gb [.p 0] [] []) c_is_word (aCons (eVar 1) aNil) aNil) (σ := [some (MV.tup xs), none]) (fun x => MV.bl (wordP x)) h rfl xs (Nat.le_trans kl (by decide)) fun x hx => ⟨_, rfl, rfl, by
    simp [(kx x hx).set, word_at (kx x hx)]⟩
  by_cases h1 : xs.length ≤ 5
  · have h1' : (xs.length : Int) ≤ 5 := by omega
    simp [lenM, leM, h1, h1', q, all_bl]
  · have h1' : ¬ (xs.length : Int) ≤ 5 := by omega
    simp [lenM, leM, h1, h1']
theorem eq_ints {i j : Int} {h : MH} : eqM (.int i) (.int j) h = .ok (.bl (i == j)) h := rfl
theorem eq_nil {xs : List MV} {h : MH} : eqM (.tmp xs) (.tmp []) h = .ok (.bl xs.isEmpty) h := by
  cases xs with
  | nil => rfl
  | cons x xs => rfl
theorem key_at {h : MH} {v : MV} (k : Kd h v) (ks : ∀ xs, v = .tup xs → ∀ x ∈ xs, Kd h x) : c_is_key [v] h = .ok (.bl (keyP v)) h := by
  simp [c_is_key, b_is_key, k.set, isi_tup k]
  cases v <;> simp [isT, keyP]
  rename_i xs
  have kx := ks xs rfl
  match xs, kx with
  | [], _ => simp [lenM, eq_ints]
  | [a], _ => simp [lenM, eq_ints]
  | a :: b :: c :: r, _ =>
    have : ((r.length : Int) + 1 + 1 + 1 == 2) = false := by
      have : ¬ ((r.length : Int) + 1 + 1 + 1 = 2) := by omega
      simpa using this
    simp [lenM, eq_ints, this]
  | [a, b], kx =>
    have ka := kx a (by simp)
    have kb := kx b (by simp)
    have e0 : ixM (.tup [a, b]) (.int 0) h = .ok a h := rfl
    have e1 : ixM (.tup [a, b]) (.int 1) h = .ok b h := rfl
    simp [lenM, eq_ints, e0, e1, ka.set, word_at ka]
    cases hw : wordP a with
    | false => cases b <;> simp [hw]
    | true =>
      simp [e1, kb.set, c_is_from, b_is_from, whole_at kb]
      cases b with
      | int i => by_cases hi : 1 ≤ i <;> simp [hi, hw, isM, isNonM, wholeP, geM]
      | _ => simp [wholeP]
/-! ### the law's own look -/
def OkN : Nat → MH → MV → Prop
  | 0, _, _ => False
  | n + 1, h, v => Kd h v ∧ ∀ xs, v = .tup xs → ∀ x ∈ xs, OkN n h x
def five (v : MV) : List MV := [.bl (wordP v), .bl (pathP v), .bl (signsP v), .bl (wholeP v), .bl (keyP v)]
theorem emp_all {ι : Type} (p : ι → Bool) (f : ι → MV) : ∀ l : List ι, ((l.filter fun c => !p c).map f).isEmpty = l.all p
  | [] => rfl
  | x :: l => by
    rw [List.filter_cons, List.all_cons]
    cases p x with
    | true => simpa using emp_all p f l
    | false => simp
theorem emp_all1 (p : MV → Bool) (l : List MV) : (l.filter fun c => !p c).isEmpty = l.all p := by
  have := emp_all p id l
  simpa using this
theorem emp_cps (p : Nat → Bool) (z : Str) : (z.cps.toList.filter fun c => !p c).isEmpty = z.cps.all p := by
  have := emp_all p (fun _ => MV.non) z.cps.toList
  simpa using this
theorem cw {z : Str} {σ : MS} {h : MH} (hl : z.length ≤ 60) (e1 : σ[1]? = some (some (.str abc))) (e7 : 7 < σ.length) :
    compL (fun _ => true) (gN 7) (tB (eBin notInM (eVar 7) (eVar 1))) (eVar 7) σ (Mi.signs z) [] h = .ok (.tmp ((z.cps.toList.filter fun c => !inA c).map fun c => .str ⟨#[c]⟩)) h := by
  refine compL_flt (fun c : Nat => MV.str ⟨#[c]⟩) (fun c => !inA c) h rfl z.cps.toList (by rw [← cps_len]; exact Nat.le_trans hl (by decide)) fun x hx => ⟨_, rfl, ?_, fun _ => ?_⟩
  · simp [e1, e7, notInM, inM, inA]
  · simp [e7]
theorem cs {z : Str} {σ : MS} {h : MH} (hl : z.length ≤ 60) (e7 : 7 < σ.length) :
    compL (fun _ => true) (gN 7) (tNotM (tB (eChain leM leM (eC (.str " ")) (eVar 7) (eC (.str "}"))))) (eVar 7) σ (Mi.signs z) [] h = .ok (.tmp ((z.cps.toList.filter fun c => !inR c).map fun c => .str ⟨#[c]⟩)) h := by
  refine compL_flt (fun c : Nat => MV.str ⟨#[c]⟩) (fun c => !inR c) h rfl z.cps.toList (by rw [← cps_len]; exact Nat.le_trans hl (by decide)) fun x hx => ⟨_, rfl, ?_, fun _ => ?_⟩
  · rw [tNotM_ap, tB_ap, chain_at (c := x) (by simp [e7])]
    rfl
  · simp [e7]
theorem cp {self : MF} {xs : List MV} {σ : MS} {h : MH} (hl : xs.length ≤ 60) (e8 : 8 < σ.length) (ks : ∀ x ∈ xs, Kd h x) (hs : ∀ x ∈ xs, self [x] h = .ok (.tmp (five x)) h) :
    compL (fun _ => true) (gN 8) (tNotM (tTru (eBin ixM (eCall (gb [.p 0] [] []) self (aCons (eVar 8) aNil) aNil) (eC (.int 0))))) (eVar 8) σ xs [] h = .ok (.tmp (xs.filter fun x => !wordP x)) h := by
  refine compL_flt1 (fun x => !wordP x) h rfl xs (Nat.le_trans hl (by decide)) fun x hx => ⟨_, rfl, ?_, fun _ => ?_⟩
  · have e : ixM (.tmp (five x)) (.int 0) h = .ok (.bl (wordP x)) h := rfl
    simp [e8, (ks x hx).set, hs x hx, e]
  · simp [e8, (ks x hx).set]
theorem so_at {h : MH} : ∀ (n : Nat) (v : MV), OkN n h v → c__law_so n [v] h = .ok (.tmp (five v)) h
  | 0, _, o => o.elim
  | n + 1, v, o => by
    obtain ⟨k, ks⟩ := o
    have i1 := isi_str k
    have i2 := isi_tup k
    have i3 := isi_int k
    have i4 := isi_bool k
    cases v with
    | str z =>
      have hl : z.length ≤ 60 := k
      have hl2 : z.length ≤ sizeLine := Nat.le_trans hl (by decide)
      by_cases h1 : 1 ≤ z.length
      · have h1' : (1 : Int) ≤ z.length := by omega
        by_cases h2 : z.length ≤ 8
        · have h2' : (z.length : Int) ≤ 8 := by omega
          simp [c__law_so, b__law_so, i1, i2, i3, i4, isS, isT, isI, isB, five, wordP, pathP, signsP, wholeP, keyP, lenM, leM, hl2, h1, h1', h2, h2', cw hl, cs hl, eq_nil, emp_cps]
        · have h2' : ¬ (z.length : Int) ≤ 8 := by omega
          simp [c__law_so, b__law_so, i1, i2, i3, i4, isS, isT, isI, isB, five, wordP, pathP, signsP, wholeP, keyP, lenM, leM, hl2, h1, h1', h2, h2', cw hl, cs hl, eq_nil, emp_cps]
      · have h1' : ¬ (1 : Int) ≤ z.length := by omega
        simp [c__law_so, b__law_so, i1, i2, i3, i4, isS, isT, isI, isB, five, wordP, pathP, signsP, wholeP, keyP, lenM, leM, hl2, h1, h1', cw hl, cs hl, eq_nil, emp_cps]
    | tup xs =>
      have kx : ∀ x ∈ xs, Kd h x := fun x hx => by
        have := ks xs rfl x hx
        cases n with
        | zero => exact this.elim
        | succ n => exact this.1
      have hs : ∀ x ∈ xs, c__law_so n [x] h = .ok (.tmp (five x)) h := fun x hx => so_at n x (ks xs rfl x hx)
      have kl : xs.length ≤ 60 := k
      have e3 : ∀ x, ixM (.tmp (five x)) (.int 3) h = .ok (.bl (wholeP x)) h := fun _ => rfl
      have e0 : ∀ x, ixM (.tmp (five x)) (.int 0) h = .ok (.bl (wordP x)) h := fun _ => rfl
      show _ = Res.ok (MV.tmp [MV.bl false, MV.bl (pathP (.tup xs)), MV.bl false, MV.bl false, MV.bl (keyP (.tup xs))]) h
      match xs, kx, hs, kl, i1, i2, i3, i4 with
      | [], kx, hs, kl, i1, i2, i3, i4 => simp [c__law_so, b__law_so, i1, i2, i3, i4, isS, isT, isI, isB, lenM, leM, cp kl _ kx hs, eq_nil, emp_all1, eq_ints, pathP, keyP]
      | [a], kx, hs, kl, i1, i2, i3, i4 => simp [c__law_so, b__law_so, i1, i2, i3, i4, isS, isT, isI, isB, lenM, leM, cp kl _ kx hs, eq_nil, emp_all1, eq_ints, pathP, keyP]
      | [a, b], kx, hs, kl, i1, i2, i3, i4 =>
        have ka := kx a (by simp)
        have kb := kx b (by simp)
        have f0 : ixM (.tup [a, b]) (.int 0) h = .ok a h := rfl
        have f1 : ixM (.tup [a, b]) (.int 1) h = .ok b h := rfl
        have sa := hs a (by simp)
        have sb := hs b (by simp)
        cases hw : wordP a with
        | false => cases b <;> simp [c__law_so, b__law_so, i1, i2, i3, i4, isS, isT, isI, isB, lenM, leM, cp kl _ kx hs, eq_nil, emp_all1, eq_ints, pathP, hw, f0, f1, ka.set, kb.set, sa, sb, e0, e3, keyP]
        | true =>
          cases b with
          | int i =>
            by_cases hi : 1 ≤ i
            · have hi' : 0 < i := by omega
              simp [c__law_so, b__law_so, i1, i2, i3, i4, isS, isT, isI, isB, lenM, leM, cp kl _ kx hs, eq_nil, emp_all1, eq_ints, pathP, hw, f0, f1, ka.set, sa, sb, e0, e3, keyP, hi, hi', gtM, wholeP]
            · have hi' : ¬ 0 < i := by omega
              simp [c__law_so, b__law_so, i1, i2, i3, i4, isS, isT, isI, isB, lenM, leM, cp kl _ kx hs, eq_nil, emp_all1, eq_ints, pathP, hw, f0, f1, ka.set, sa, sb, e0, e3, keyP, hi, hi', gtM, wholeP]
          | _ => simp [c__law_so, b__law_so, i1, i2, i3, i4, isS, isT, isI, isB, lenM, leM, cp kl _ kx hs, eq_nil, emp_all1, eq_ints, pathP, hw, f0, f1, ka.set, kb.set, sa, sb, e0, e3, keyP, wholeP]
      | a :: b :: c :: r, kx, hs, kl, i1, i2, i3, i4 =>
        have : ((r.length : Int) + 1 + 1 + 1 == 2) = false := by
          have : ¬ ((r.length : Int) + 1 + 1 + 1 = 2) := by omega
          simpa using this
        by_cases h5 : r.length ≤ 2
        · have h5' : (r.length : Int) + 1 + 1 + 1 ≤ 5 := by omega
          simp [c__law_so, b__law_so, i1, i2, i3, i4, isS, isT, isI, isB, lenM, leM, cp kl _ kx hs, eq_nil, emp_all1, eq_ints, pathP, this, keyP, h5, h5']
        · have h5' : ¬ (r.length : Int) + 1 + 1 + 1 ≤ 5 := by omega
          simp [c__law_so, b__law_so, i1, i2, i3, i4, isS, isT, isI, isB, lenM, leM, cp kl _ kx hs, eq_nil, emp_all1, eq_ints, pathP, this, keyP, h5, h5']
    | non => simp [c__law_so, b__law_so, i1, i2, i3, i4, isS, isT, isI, isB, five, wordP, pathP, signsP, wholeP, keyP]
    | bl b => simp [c__law_so, b__law_so, i1, i2, i3, i4, isS, isT, isI, isB, five, wordP, pathP, signsP, wholeP, keyP]
    | int b => simp [c__law_so, b__law_so, i1, i2, i3, i4, isS, isT, isI, isB, five, wordP, pathP, signsP, wholeP, keyP]
    | ref b => simp [c__law_so, b__law_so, i1, i2, i3, i4, isS, isT, isI, isB, five, wordP, pathP, signsP, wholeP, keyP]
    | tmp _ => exact k.elim
    | con _ => exact k.elim
    | ty _ => exact k.elim
    | cls _ => exact k.elim
    | fn _ => exact k.elim
    | exn _ _ _ => exact k.elim
/-! ### texts of things -/
def Rq (n : Nat) (b : Bool) (B : Nat) (h : MH) (v : MV) : Prop := ∃ d, snapR n h v = some d ∧ d.showable = true ∧ d.leavesShort 60 = true ∧ d.bulk ≤ B ∧ (b = true → d.hasDict = false) ∧ (b = false → noLst d = true)
theorem rq_sc {n : Nat} {b : Bool} {h : MH} {v : MV} (s : Sc v) : Rq (n + 1) b 60 h v := by
  cases v with
  | non => exact ⟨.none, rfl, rfl, rfl, by decide, fun _ => rfl, fun _ => rfl⟩
  | bl x => exact ⟨.bool x, rfl, rfl, rfl, Nat.zero_le _, fun _ => rfl, fun _ => rfl⟩
  | int i => exact ⟨.int i, rfl, by simpa [PyData.showable] using s.2, by simpa [PyData.leavesShort] using s.1, Nat.zero_le _, fun _ => rfl, fun _ => rfl⟩
  | str z =>
    refine ⟨.str z, rfl, rfl, ?_, ?_, fun _ => rfl, fun _ => rfl⟩
    · simp only [PyData.leavesShort, List.all_eq_true, decide_eq_true_eq]
      exact fun c hc => Nat.lt_trans (s.2 c hc) (by decide)
    · have := s.1
      simpa [PyData.bulk] using this
  | _ => exact s.elim
theorem rq_all {n : Nat} {b : Bool} {B : Nat} {h : MH} : ∀ {xs : List MV}, (∀ x ∈ xs, Rq n b B h x) → ∃ ds, xs.mapM (snapR n h) = some ds ∧ PyData.showableAll ds = true ∧ PyData.leavesShortAll 60 ds = true ∧ PyData.bulkAll ds ≤ xs.length * (B + 1) ∧ (b = true → PyData.hasDictAll ds = false) ∧ (b = false → noLstAll ds = true)
  | [], _ => ⟨[], rfl, rfl, rfl, by simp [PyData.bulkAll], fun _ => rfl, fun _ => rfl⟩
  | x :: xs, H => by
    obtain ⟨d, a1, a2, a3, a4, a5, a6⟩ := H x (List.mem_cons_self ..)
    obtain ⟨ds, b1, b2, b3, b4, b5, b6⟩ := rq_all fun y hy => H y (List.mem_cons_of_mem _ hy)
    refine ⟨d :: ds, by rw [List.mapM_cons, a1, b1]; rfl, by simp [PyData.showableAll, a2, b2], by simp [PyData.leavesShortAll, a3, b3], ?_, fun e => by simp [PyData.hasDictAll, a5 e, b5 e], fun e => by simp [noLstAll, a6 e, b6 e]⟩
    rw [List.length_cons, Nat.add_mul, Nat.one_mul]
    simp only [PyData.bulkAll]
    omega
theorem rq_tup {n : Nat} {b : Bool} {B L : Nat} {h : MH} {xs : List MV} (hl : xs.length ≤ L) (H : ∀ x ∈ xs, Rq n b B h x) : Rq (n + 1) b (L * (B + 1)) h (.tup xs) := by
  obtain ⟨ds, b1, b2, b3, b4, b5, b6⟩ := rq_all H
  refine ⟨.tuple ds, by show (xs.mapM (snapR n h)).map PyData.tuple = _; rw [b1]; rfl, b2, b3, ?_, b5, b6⟩
  exact Nat.le_trans b4 (Nat.mul_le_mul_right _ hl)
theorem rq_lst {n k : Nat} {B : Nat} {h : MH} {xs : List MV} (e : h[k]? = some (.lst xs)) (hl : xs.length ≤ 9) (H : ∀ x ∈ xs, Rq n true B h x) : Rq (n + 1) true (9 * (B + 1)) h (.ref k) := by
  obtain ⟨ds, b1, b2, b3, b4, b5, b6⟩ := rq_all H
  refine ⟨.list ds, ?_, b2, b3, ?_, b5, fun x => by cases x⟩
  · simp only [snapR, e, b1]
    rfl
  · exact Nat.le_trans b4 (Nat.mul_le_mul_right _ hl)
theorem repr_rq {b : Bool} {h : MH} {v : MV} (r : Rq 30 b 12000 h v) : ∃ d, snapR 30 h v = some d ∧ ∀ h', snapR 30 h' v = some d → reprM v h' = .ok (.str d.shown) h' := by
  obtain ⟨d, a1, a2, a3, a4, a5, a6⟩ := r
  refine ⟨d, a1, fun h' e => ?_⟩
  unfold reprM
  rw [e]
  refine if_pos ⟨?_, a2, ?_⟩
  · unfold okR
    cases b with
    | true => rw [a5 rfl]; rfl
    | false => rw [a6 rfl, Bool.or_true]
  · have := PyData.shown_le_bulk 60 (by decide) d a3
    have : (62 : Nat) * d.bulk ≤ 62 * 12000 := Nat.mul_le_mul_left _ a4
    have e : sizeLine = 16777216 := by decide
    omega
/-! ### things -/
def Ob (b : Bool) (r : Nat) (h : MH) : MV → Prop
  | .ref k => k ≠ r ∧ ((b = false ∧ h[k]? = some (.dic [])) ∨ (b = true ∧ ∃ xs, h[k]? = some (.lst xs) ∧ xs.length ≤ 9 ∧ ∀ x ∈ xs, Sc x))
  | _ => False
def T1 (b : Bool) (r : Nat) (h : MH) (v : MV) : Prop := Sc v ∨ Ob b r h v ∨ ∃ xs, v = .tup xs ∧ xs.length ≤ 9 ∧ ∀ x ∈ xs, Sc x
def T2 (r : Nat) (h : MH) (v : MV) : Prop := ∃ b, T1 b r h v ∨ ∃ xs, v = .tup xs ∧ xs.length ≤ 20 ∧ ∀ x ∈ xs, T1 b r h x
/-- all but the place r stands -/
def Fr (r : Nat) (h h' : MH) : Prop := ∀ k o, h[k]? = some o → k ≠ r → h'[k]? = some o
theorem Fr.refl {r : Nat} {h : MH} : Fr r h h := fun _ _ e _ => e
theorem Fr.trans {r : Nat} {h h1 h2 : MH} (a : Fr r h h1) (b : Fr r h1 h2) : Fr r h h2 := fun k o e n => b k o (a k o e n) n
theorem get_app {h : MH} {o x : MO} {k : Nat} (e : h[k]? = some o) : (h ++ [x])[k]? = some o := by
  have := (List.getElem?_eq_some_iff.mp e).1
  rw [List.getElem?_append_left this]
  exact e
theorem Fr.app {r : Nat} {h : MH} {o : MO} : Fr r h (h ++ [o]) := fun k x e _ => get_app e
theorem Fr.set {r : Nat} {h : MH} {o : MO} : Fr r h (h.set r o) := fun k x e n => by rw [List.getElem?_set_ne (Ne.symm n)]; exact e
theorem Ob.mono {b : Bool} {r : Nat} {h h' : MH} {v : MV} (f : Fr r h h') (o : Ob b r h v) : Ob b r h' v := by
  cases v with
  | ref k => exact ⟨o.1, o.2.imp (fun x => ⟨x.1, f _ _ x.2 o.1⟩) fun ⟨x, xs, e, y⟩ => ⟨x, xs, f _ _ e o.1, y⟩⟩
  | _ => exact o.elim
theorem T1.mono {b : Bool} {r : Nat} {h h' : MH} {v : MV} (f : Fr r h h') (o : T1 b r h v) : T1 b r h' v := o.imp id fun o => o.imp (Ob.mono f) id
theorem T2.mono {r : Nat} {h h' : MH} {v : MV} (f : Fr r h h') (o : T2 r h v) : T2 r h' v := by
  obtain ⟨b, o⟩ := o
  exact ⟨b, o.imp (T1.mono f) fun ⟨xs, e, l, a⟩ => ⟨xs, e, l, fun x hx => (a x hx).mono f⟩⟩
theorem T2.new {r : Nat} {h : MH} {v : MV} (o : T2 r h v) : T2 h.length h v := by
  have ob : ∀ {b v}, Ob b r h v → Ob b h.length h v := fun {b v} o => by
    cases v with
    | ref k =>
      refine ⟨?_, o.2⟩
      rcases o.2 with ⟨_, e⟩ | ⟨_, xs, e, _⟩
      · exact Nat.ne_of_lt (List.getElem?_eq_some_iff.mp e).1
      · exact Nat.ne_of_lt (List.getElem?_eq_some_iff.mp e).1
    | _ => exact o.elim
  have t1 : ∀ {b v}, T1 b r h v → T1 b h.length h v := fun {b v} o => o.imp id fun o => o.imp ob id
  obtain ⟨b, o⟩ := o
  exact ⟨b, o.imp t1 fun ⟨xs, e, l, a⟩ => ⟨xs, e, l, fun x hx => t1 (a x hx)⟩⟩
theorem kd_sc {h : MH} {v : MV} (s : Sc v) : Kd h v := by
  cases v with
  | str z =>
    show z.length ≤ 60
    rw [cps_len]
    exact s.1
  | _ => first | trivial | exact s.elim
theorem ok_sc {n : Nat} {h : MH} {v : MV} (s : Sc v) : OkN (n + 1) h v := ⟨kd_sc s, fun xs e => by subst e; exact s.elim⟩
theorem kd_t1 {b : Bool} {r : Nat} {h : MH} {v : MV} (o : T1 b r h v) : OkN 2 h v := by
  rcases o with o | o | ⟨xs, rfl, l, a⟩
  · exact ok_sc o
  · cases v with
    | ref k => exact ⟨o.2.elim (fun x => .inr ⟨_, x.2⟩) fun ⟨_, xs, e, _⟩ => .inl ⟨_, e⟩, fun xs e => nomatch e⟩
    | _ => exact o.elim
  · refine ⟨Nat.le_trans l (by decide), fun ys e x hx => ?_⟩
    cases e
    exact ok_sc (a x hx)
theorem OkN.up : ∀ {n : Nat} {h : MH} {v : MV}, OkN n h v → OkN (n + 1) h v
  | 0, _, _, o => o.elim
  | n + 1, _, _, o => ⟨o.1, fun xs e x hx => (o.2 xs e x hx).up⟩
theorem ok_t2 {r : Nat} {h : MH} {v : MV} (o : T2 r h v) : OkN 3 h v := by
  obtain ⟨b, o | ⟨xs, rfl, l, a⟩⟩ := o
  · exact (kd_t1 o).up
  · refine ⟨Nat.le_trans l (by decide), fun ys e x hx => ?_⟩
    cases e
    exact kd_t1 (a x hx)
theorem rq_up {n : Nat} {b : Bool} {B C : Nat} {h : MH} {v : MV} (l : B ≤ C) (r : Rq n b B h v) : Rq n b C h v := by
  obtain ⟨d, a1, a2, a3, a4, a5⟩ := r
  exact ⟨d, a1, a2, a3, Nat.le_trans a4 l, a5⟩
theorem rq_t1 {n : Nat} {b : Bool} {r : Nat} {h : MH} {v : MV} (o : T1 b r h v) : Rq (n + 2) b 549 h v := by
  rcases o with o | o | ⟨xs, rfl, l, a⟩
  · exact rq_up (by decide) (rq_sc o)
  · cases v with
    | ref k =>
      rcases o.2 with ⟨rfl, e⟩ | ⟨rfl, xs, e, l, a⟩
      · exact ⟨.dict [], by simp [snapR, e], rfl, rfl, by decide, (fun x => by cases x), fun _ => rfl⟩
      · exact rq_lst e l fun x hx => rq_sc (a x hx)
    | _ => exact o.elim
  · exact rq_tup l fun x hx => rq_sc (a x hx)
theorem rq_t2 {r : Nat} {h : MH} {v : MV} (o : T2 r h v) : ∃ b, Rq 30 b 12000 h v := by
  obtain ⟨b, o | ⟨xs, rfl, l, a⟩⟩ := o
  · exact ⟨b, rq_up (by decide) (rq_t1 o)⟩
  · exact ⟨b, rq_up (by decide) (rq_tup l fun x hx => rq_t1 (a x hx))⟩
theorem mapM_mono {α β : Type} {f g : α → Option β} (H : ∀ v d, f v = some d → g v = some d) : ∀ {xs : List α} {ds : List β}, xs.mapM f = some ds → xs.mapM g = some ds
  | [], _, e => e
  | x :: xs, ds, e => by
    rw [List.mapM_cons] at e ⊢
    cases q : f x with
    | none => rw [q] at e; cases e
    | some d =>
      rw [q] at e
      rw [H x d q]
      cases q2 : xs.mapM f with
      | none => simp [q2] at e
      | some es =>
        rw [mapM_mono H q2]
        simpa [q2] using e
theorem map_mono {α β γ : Type} {f g : α → Option β} {c : List β → γ} {xs : List α} {d : γ} (H : ∀ v d, f v = some d → g v = some d) (e : (xs.mapM f).map c = some d) : (xs.mapM g).map c = some d := by
  cases q : xs.mapM f with
  | none => rw [q] at e; cases e
  | some ds =>
    rw [mapM_mono H q]
    rw [q] at e
    exact e
theorem snapR_app {x : MO} {h : MH} : ∀ (n : Nat) (v : MV) (d : PyData), snapR n h v = some d → snapR n (h ++ [x]) v = some d
  | 0, _, _, e => e
  | n + 1, v, d, e => by
    cases v with
    | tup xs => exact map_mono (snapR_app n) e
    | tmp xs => exact map_mono (snapR_app n) e
    | con xs => exact map_mono (snapR_app n) e
    | ref k =>
      cases q : h[k]? with
      | none => simp [snapR, q] at e
      | some o =>
        simp only [snapR, q, get_app q] at e ⊢
        cases o with
        | lst xs => exact map_mono (snapR_app n) e
        | ins c fs => cases e
        | dic kvs =>
          refine map_mono (fun p d e => ?_) e
          cases q1 : keyD p.1 with
          | none => rw [q1] at e; cases e
          | some a =>
            rw [q1] at e
            cases q2 : snapR n h p.2 with
            | none => simp [q2] at e
            | some b => rw [q2] at e; rw [snapR_app n p.2 b q2]; exact e
    | _ => exact e
theorem eq_str {a : Str} {h : MH} : eqM (.str a) (.str a) h = .ok (.bl true) h := by
  simp [eqM, farL, asL, snap, PyData.eqv]
def fiveD (v : MV) : PyData := .list [.bool (wordP v), .bool (pathP v), .bool (signsP v), .bool (wholeP v), .bool (keyP v)]
theorem snap_five {v : MV} {h : MH} : snapR 30 h (.tmp (five v)) = some (fiveD v) := by
  simp [snapR, five, fiveD]
theorem snap_ref {k : Nat} {xs : List MV} {h : MH} (q : h[k]? = some (.lst xs)) : snapR 30 h (.ref k) = snapR 30 h (.tmp xs) := by
  simp only [snapR, q]
theorem repr_d {v : MV} {d : PyData} {h : MH} (e : snapR 30 h v = some d) (a1 : okR d = true) (a2 : d.showable = true) (a3 : d.leavesShort 60 = true) (a4 : d.bulk ≤ 12000) : reprM v h = .ok (.str d.shown) h := by
  unfold reprM
  rw [e]
  refine if_pos ⟨a1, a2, ?_⟩
  have := PyData.shown_le_bulk 60 (by decide) d a3
  have : (62 : Nat) * d.bulk ≤ 62 * 12000 := Nat.mul_le_mul_left _ a4
  have e : sizeLine = 16777216 := by decide
  omega
theorem repr_five {v : MV} {h : MH} : reprM (.tmp (five v)) h = .ok (.str (fiveD v).shown) h :=
  repr_d snap_five (by simp [fiveD, okR, PyData.hasDict, PyData.hasDictAll]) (by simp [fiveD, PyData.showable, PyData.showableAll]) (by simp [fiveD, PyData.leavesShort, PyData.leavesShortAll]) (by simp [fiveD, PyData.bulk, PyData.bulkAll])
theorem repr_five_ref {v : MV} {h : MH} {k : Nat} (q : h[k]? = some (.lst (five v))) : reprM (.ref k) h = .ok (.str (fiveD v).shown) h :=
  repr_d ((snap_ref q).trans snap_five) (by simp [fiveD, okR, PyData.hasDict, PyData.hasDictAll]) (by simp [fiveD, PyData.showable, PyData.showableAll]) (by simp [fiveD, PyData.leavesShort, PyData.leavesShortAll]) (by simp [fiveD, PyData.bulk, PyData.bulkAll])
theorem right_at {r : Nat} {h : MH} {v : MV} (o : T2 r h v) : c__law_right [v] h = .ok (.bl true) (h ++ [.lst (five v)]) := by
  have o2 : T2 r (h ++ [.lst (five v)]) v := o.mono Fr.app
  have k3 := ok_t2 o
  have k := k3.1
  have k2 := (ok_t2 o2).1
  have ks : ∀ xs, v = .tup xs → ∀ x ∈ xs, Kd h x := fun xs e x hx => (k3.2 xs e x hx).1
  obtain ⟨b, rq⟩ := rq_t2 o
  obtain ⟨d, e1, e2⟩ := repr_rq rq
  have e3 := e2 h e1
  have e4 := e2 _ (snapR_app (x := .lst (five v)) 30 v d e1)
  have f1 := repr_five (v := v) (h := h ++ [.lst (five v)])
  have f2 := repr_five_ref (v := v) (h := h ++ [.lst (five v)]) (k := h.length) (by simp)
  have so := so_at 3 v (ok_t2 o2)
  have five_eq : [MV.bl (wordP v), .bl (pathP v), .bl (signsP v), .bl (wholeP v), .bl (keyP v)] = five v := rfl
  simp [c__law_right, b__law_right, k.set, k2.set, e3, e4, word_at k, path_at k ks, signs_at k, whole_at k, key_at k ks, five_eq, f1, f2, so, eq_str]
end My

set_option maxHeartbeats 400000
namespace My
open PySem PySem.Spec PyProof.Rows L2 Mi
/-! ### drawing -/
def Rm (h : MH) (r : Nat) : Prop := ∃ a b : Int, h[r]? = some (.lst [.int a, .int b])
theorem Rm.app {h : MH} {r : Nat} {o : MO} (p : Rm h r) : Rm (h ++ [o]) r := by
  obtain ⟨a, b, e⟩ := p
  exact ⟨a, b, get_app e⟩
theorem at0 {a b : MV} : atI [a, b] 0 = some a := rfl
theorem at1 {a b : MV} : atI [a, b] 1 = some b := rfl
theorem ix0 {h : MH} {r : Nat} {a b : MV} (e : h[r]? = some (.lst [a, b])) : ixM (.ref r) (.int 0) h = .ok a h := by simp [ixM, asL, e, at0]
theorem ix1 {h : MH} {r : Nat} {a b : MV} (e : h[r]? = some (.lst [a, b])) : ixM (.ref r) (.int 1) h = .ok b h := by simp [ixM, asL, e, at1]
theorem set0 {h : MH} {r : Nat} {a b v : MV} {σ : MS} (e : h[r]? = some (.lst [a, b])) : sSubK (.ref r) v σ (.int 0) h = .next σ (h.set r (.lst [v, b])) := by
  refine sSubK_at ?_
  simp only [setM, e]
  rfl
theorem set1 {h : MH} {r : Nat} {a b v : MV} {σ : MS} (e : h[r]? = some (.lst [a, b])) : sSubK (.ref r) v σ (.int 1) h = .next σ (h.set r (.lst [a, v])) := by
  refine sSubK_at ?_
  simp only [setM, e]
  rfl
theorem fmod_lt {a m : Int} (h : 0 < m) : a.fmod m < m := Int.fmod_lt_of_pos a h
theorem fmod_nn {a m : Int} (h : 0 < m) : 0 ≤ a.fmod m := Int.fmod_nonneg_of_pos a h
theorem mul_r {h : MH} {x y : Int} (a : -18446744073709551616 < y) (b : y < 18446744073709551616) : mulM (.int x) (.int y) h = .ok (.int (x * y)) h := by
  exact if_pos (.inr ⟨a, b⟩)
theorem mod_at {h : MH} {x y : Int} (a : y ≠ 0) : modM (.int x) (.int y) h = .ok (.int (x.fmod y)) h := by
  show (if _ then _ else _) = _
  exact if_pos a
theorem fdiv_at {h : MH} {x y : Int} (a : y ≠ 0) (b : y.natAbs < 1073741824) : fdivM (.int x) (.int y) h = .ok (.int (x.fdiv y)) h := by
  show (if _ then _ else _) = _
  exact if_pos ⟨a, b⟩
@[simp] theorem add_at {h : MH} {x y : Int} : addM (.int x) (.int y) h = .ok (.int (x + y)) h := rfl
theorem pow6 {h : MH} : powM (.int 10) (.int 6) h = .ok (.int 1000000) h := rfl
theorem take_at {h : MH} {r : Nat} {m : Int} (p : Rm h r) (h0 : 0 < m) (h1 : m < 1073741824) : ∃ v h', c__law_take [.ref r, .int m] h = .ok (.int v) h' ∧ 0 ≤ v ∧ v < m ∧ Rm h' r ∧ Fr r h h' ∧ h'.length = h.length := by
  obtain ⟨a, b, e⟩ := p
  have hr : r < h.length := (List.getElem?_eq_some_iff.mp e).1
  have gs : ∀ {o : MO}, (h.set r o)[r]? = some o := fun {o} => by simp [hr]
  have hm : m ≠ 0 := by omega
  have hn : m.natAbs < 1073741824 := by omega
  by_cases ha : 0 < a
  · refine ⟨a.fmod m, h.set r (.lst [.int (a.fdiv m), .int b]), ?_, fmod_nn h0, fmod_lt h0, ⟨_, _, gs⟩, Fr.set, by simp⟩
    simp [c__law_take, b__law_take, ix0 e, gtM, ha, mod_at hm, fdiv_at hm hn, set0 e]
  · have k1 : ∀ y : Int, mulM (.int y) (.int 48271) h = .ok (.int (y * 48271)) h := fun y => mul_r (by decide) (by decide)
    have hs : ∀ (b1 : Int), (b * 48271 + 39373).fmod 2147483647 = b1 → 0 ≤ b1 → b1 < 2147483647 → ∃ v h', c__law_take [.ref r, .int m] h = .ok (.int v) h' ∧ 0 ≤ v ∧ v < m ∧ Rm h' r ∧ Fr r h h' ∧ h'.length = h.length := fun b1 eb c1 c2 => by
      have e1 : (h.set r (.lst [.int a, .int b1]))[r]? = some (.lst [.int a, .int b1]) := gs
      have q1 : mulM (.int b1) (.int b1) (h.set r (.lst [.int a, .int b1])) = .ok (.int (b1 * b1)) (h.set r (.lst [.int a, .int b1])) := mul_r (by omega) (by omega)
      have q2 : ∀ {y : Int} {g : MH}, mulM (.int y) (.int 48271) g = .ok (.int (y * 48271)) g := fun {y g} => mul_r (by decide) (by decide)
      have q3 : ∀ {y : Int} {g : MH}, mulM (.int y) (.int 2147483629) g = .ok (.int (y * 2147483629)) g := fun {y g} => mul_r (by decide) (by decide)
      have m1 : ∀ {y : Int} {g : MH}, modM (.int y) (.int 2147483647) g = .ok (.int (y.fmod 2147483647)) g := fun {y g} => mod_at (by decide)
      have m2 : ∀ {y : Int} {g : MH}, modM (.int y) (.int 2147483629) g = .ok (.int (y.fmod 2147483629)) g := fun {y g} => mod_at (by decide)
      have m3 : ∀ {y : Int} {g : MH}, modM (.int y) (.int 2147483587) g = .ok (.int (y.fmod 2147483587)) g := fun {y g} => mod_at (by decide)
      have d1 : ∀ {y : Int} {g : MH}, fdivM (.int y) (.int 16) g = .ok (.int (y.fdiv 16)) g := fun {y g} => fdiv_at (by decide) (by decide)
      by_cases hb : 1000000 < m
      · have hs2 : ∀ (b2 : Int), (b1 * 48271 + 39373).fmod 2147483647 = b2 → 0 ≤ b2 → b2 < 2147483647 → ∃ v h', c__law_take [.ref r, .int m] h = .ok (.int v) h' ∧ 0 ≤ v ∧ v < m ∧ Rm h' r ∧ Fr r h h' ∧ h'.length = h.length := fun b2 eb2 f1 f2 => by
          have e2 : ((h.set r (.lst [.int a, .int b1])).set r (.lst [.int a, .int b2]))[r]? = some (.lst [.int a, .int b2]) := by simp [hr]
          have q4 : mulM (.int b2) (.int b2) ((h.set r (.lst [.int a, .int b1])).set r (.lst [.int a, .int b2])) = .ok (.int (b2 * b2)) ((h.set r (.lst [.int a, .int b1])).set r (.lst [.int a, .int b2])) := mul_r (by omega) (by omega)
          refine ⟨_, (h.set r (.lst [.int a, .int b1])).set r (.lst [.int a, .int b2]), ?_, fmod_nn (a := (b1 * b1 ).fmod 2147483629 |>.fdiv 16 |> (· * 2147483629 + (b2 * b2).fmod 2147483587)) h0, fmod_lt h0, ⟨_, _, e2⟩, Fr.trans Fr.set Fr.set, by simp⟩
          simp only [List.set_set] at e2 q4
          simp [c__law_take, b__law_take, ix0 e, ix1 e, ix1 e1, ix1 e2, gtM, ha, k1, m1, m2, m3, d1, q1, q2, q3, q4, mod_at hm, set1 e, set1 e1, eb, eb2, pow6, hb]
        exact hs2 _ rfl (fmod_nn (by decide)) (fmod_lt (by decide))
      · refine ⟨_, h.set r (.lst [.int a, .int b1]), ?_, fmod_nn (a := (b1 * b1 ).fmod 2147483629 |>.fdiv 16) h0, fmod_lt h0, ⟨_, _, e1⟩, Fr.set, by simp⟩
        simp [c__law_take, b__law_take, ix0 e, ix1 e, ix1 e1, gtM, ha, k1, m1, m2, d1, q1, mod_at hm, set1 e, eb, pow6, hb]
    exact hs _ rfl (fmod_nn (by decide)) (fmod_lt (by decide))
theorem atI_nn {α : Type} {xs : List α} {v : Int} (a : 0 ≤ v) (b : v < xs.length) : ∃ x, atI xs v = some x ∧ x ∈ xs := by
  have hb : v.toNat < xs.length := by omega
  refine ⟨xs[v.toNat], ?_, List.getElem_mem hb⟩
  unfold atI ixN
  rw [if_pos a, if_pos b]
  exact List.getElem?_eq_getElem hb
theorem ix_str {T : Str} {v : Int} {h : MH} (hT : T.cps.toList.all (fun c => decide (c < 128)) = true) (hl : T.length ≤ sizeLine) (a : 0 ≤ v) (b : v < T.length) : ∃ c, ixM (.str T) (.int v) h = .ok (.str (st [c])) h ∧ c < 128 := by
  obtain ⟨c, e, m⟩ := atI_nn (xs := T.cps.toList) a (by rw [← cps_len]; exact b)
  refine ⟨c, ?_, ?_⟩
  · show (if T.length ≤ sizeLine then _ else _) = _
    rw [if_pos hl, e]
    rfl
  · have := List.all_eq_true.mp hT c m
    simpa using this
theorem draws {te : ME} {σ : MS} {i n r : Nat} {h : MH} (hn : n ≤ 1000) (p : Rm h r)
    (step : ∀ h x, Rm h r → ∃ c h', eSet te (σ.set i (some x)) h = .ok (.str (st [c])) h' ∧ c < 128 ∧ Rm h' r ∧ Fr r h h' ∧ h'.length = h.length) :
    ∃ (l : List Nat) (h' : MH), compL (fun _ => true) (gN i) tYesM te σ (upInts 0 n) [] h = .ok (.tmp (l.map fun c => .str (st [c]))) h' ∧ l.length = n ∧ (∀ c ∈ l, c < 128) ∧ Rm h' r ∧ Fr r h h' ∧ h'.length = h.length := by
  have hu : (upInts 0 n).length = n := by simp [upInts]
  obtain ⟨ys, h', e, ⟨p1, p2, p3, l, rfl, hl⟩, len⟩ := compL_inv (st := fun _ => true) (g := gN i) (tt := tYesM) (te := te) (σ := σ) (fun _ acc h' => Rm h' r ∧ Fr r h h' ∧ h'.length = h.length ∧ ∃ l : List Nat, acc = l.map (fun c => MV.str (st [c])) ∧ ∀ c ∈ l, c < 128) (upInts 0 n) [] [] h
    (by rw [hu]; exact Nat.le_trans (by simpa using hn) (by decide)) ⟨p, Fr.refl, rfl, [], rfl, by simp⟩ (fun _ _ _ _ => rfl) fun done x acc h1 hx ⟨a1, a2, a3, l, a4, a5⟩ => by
      obtain ⟨c, h2, b1, b2, b3, b4, b5⟩ := step h1 x a1
      refine ⟨_, h1, h1, _, h2, rfl, rfl, b1, b3, a2.trans b4, b5.trans a3, l ++ [c], by simp [a4], fun d hd => ?_⟩
      rcases List.mem_append.mp hd with q | q
      · exact a5 d q
      · cases List.mem_singleton.mp q
        exact b2
  refine ⟨l, h', e, ?_, hl, p1, p2, p3⟩
  rw [List.length_map, hu] at len
  simpa using len
theorem mapM_str : ∀ l : List Nat, (l.map fun c => MV.str (st [c])).mapM asS = some (l.map fun c => st [c])
  | [] => rfl
  | x :: l => by
    rw [List.map_cons, List.mapM_cons, mapM_str l]
    rfl
theorem join_at {l : List Nat} {h : MH} (hl : l.length ≤ 1000) : joinM (.str "") (.tmp (l.map fun c => .str (st [c]))) h = .ok (.str (st l)) h := by
  have e : (asQ h (.tmp (l.map fun c => .str (st [c])))).bind (fun xs => xs.mapM asS) = some (l.map fun c => st [c]) := mapM_str l
  have e0 : ("" : Str) = st [] := by decide
  unfold joinM
  rw [e, e0]
  refine (if_pos (sizeJ l hl)).trans ?_
  rw [join_st]
theorem SOk.of {l : List Nat} (a : l.length ≤ 60) (b : ∀ c ∈ l, c < 128) : SOk (st l) := by
  unfold SOk
  rw [st_codes]
  exact ⟨a, b⟩
theorem len26 : abc.length = 26 := by decide +kernel
abbrev sgn : Str := " !\"#0123456789:;=?@AZ[]az{|}.,"
theorem len31 : sgn.length = 30 := by decide +kernel
theorem lenM31 {h : MH} : lenM (.str sgn) h = .ok (.int 30) h := by
  have e : sgn.length ≤ sizeLine := by rw [len31]; decide
  simp only [lenM, if_pos e, len31]
  rfl
theorem word_t {h : MH} {r : Nat} (p : Rm h r) : ∃ z h', c__law_word [.ref r] h = .ok (.str z) h' ∧ z.length ≤ 8 ∧ SOk z ∧ Rm h' r ∧ Fr r h h' ∧ h'.length = h.length := by
  obtain ⟨v, h1, e1, v1, v2, p1, f1, n1⟩ := take_at p (m := 4) (by decide) (by decide)
  have sz : ∃ n : Nat, n ≤ 8 ∧ ixM (.tmp [.int 1, .int 2, .int 3, .int 8]) (.int v) h1 = .ok (.int n) h1 := by
    have : v = 0 ∨ v = 1 ∨ v = 2 ∨ v = 3 := by omega
    rcases this with rfl | rfl | rfl | rfl
    · exact ⟨1, by decide, rfl⟩
    · exact ⟨2, by decide, rfl⟩
    · exact ⟨3, by decide, rfl⟩
    · exact ⟨8, by decide, rfl⟩
  obtain ⟨n, hn, e2⟩ := sz
  obtain ⟨l, h2, e3, l1, l2, p2, f2, n2⟩ := draws (te := eBin ixM (eVar 1) (eCall (gb [.p 0, .p 1] [] []) c__law_take (aCons (eVar 0) (aCons (eC (.int 26)) aNil)) aNil)) (σ := [some (MV.ref r), some (.str abc), some (.int n), none]) (i := 3) (n := n) (by omega) p1 fun g x pg => by
    obtain ⟨w, g', a1, a2, a3, a4, a5, a6⟩ := take_at pg (m := 26) (by decide) (by decide)
    obtain ⟨c, c1, c2⟩ := ix_str (T := abc) (h := g') (by decide +kernel) (by rw [len26]; decide) a2 (by rw [len26]; exact a3)
    exact ⟨c, g', by simp [a1, c1], c2, a4, a5, a6⟩
  refine ⟨st l, h2, ?_, by rw [st_len]; omega, SOk.of (by omega) l2, p2, f1.trans f2, n2.trans n1⟩
  have r1 : iR1K [.int (n : Int)] h1 = .ok ⟨upInts 0 n, fun _ => true⟩ h1 := iR1K_int (by omega)
  have j := join_at (l := l) (h := h2) (by omega)
  unfold c__law_word b__law_word
  generalize c__law_take = T at e1 e3 ⊢
  simp [e1, e2, r1, e3, j]
theorem line_t {h : MH} {r n : Nat} (p : Rm h r) (hn : n ≤ 20) : ∃ z h', c__law_line [.ref r, .int n] h = .ok (.str z) h' ∧ z.length ≤ 20 ∧ SOk z ∧ Rm h' r ∧ Fr r h h' ∧ h'.length = h.length := by
  obtain ⟨l, h2, e3, l1, l2, p2, f2, n2⟩ := draws (te := eBin ixM (eVar 2) (eCall (gb [.p 0, .p 1] [] []) c__law_take (aCons (eVar 0) (aCons (eCB1 lenM (eVar 2)) aNil)) aNil)) (σ := [some (MV.ref r), some (.int n), some (.str sgn), none]) (i := 3) (n := n) (by omega) p fun g x pg => by
    obtain ⟨w, g', a1, a2, a3, a4, a5, a6⟩ := take_at pg (m := 30) (by decide) (by decide)
    obtain ⟨c, c1, c2⟩ := ix_str (T := sgn) (h := g') (by decide +kernel) (by rw [len31]; decide) a2 (by rw [len31]; exact a3)
    exact ⟨c, g', by simp [lenM31, a1, c1], c2, a4, a5, a6⟩
  refine ⟨st l, h2, ?_, by rw [st_len]; omega, SOk.of (by omega) l2, p2, f2, n2⟩
  have r1 : iR1K [.int (n : Int)] h = .ok ⟨upInts 0 n, fun _ => true⟩ h := iR1K_int (by omega)
  have j := join_at (l := l) (h := h2) (by omega)
  unfold c__law_line b__law_line
  generalize c__law_take = T at e3 ⊢
  simp [r1, e3, j]
end My

set_option maxHeartbeats 400000
namespace My
open PySem PySem.Spec PyProof.Rows L2 Mi
theorem room_t {h : MH} {ns : List Int} {k : Nat} (hk : k ≤ 1000) : ∃ a b : Int, c__law_room [.con (ns.map MV.int), .int k] h = .ok (.tmp [.int a, .int b]) h := by
  have p18 : powM (.int 10) (.int 18) h = .ok (.int 1000000000000000000) h := rfl
  have le : lenM (.con (ns.map MV.int)) h = .ok (.int ns.length) h := by simp [lenM, asL]
  have m0 : ∀ {x : Int}, modM (.int x) (.int 2147483629) h = .ok (.int (x.fmod 2147483629)) h := fun {x} => mod_at (by decide)
  have m1 : ∀ {x : Int}, modM (.int x) (.int 2147483647) h = .ok (.int (x.fmod 2147483647)) h := fun {x} => mod_at (by decide)
  have u1 : ∀ {x : Int}, mulM (.int x) (.int 48271) h = .ok (.int (x * 48271)) h := fun {x} => mul_r (by decide) (by decide)
  have u2 : ∀ {x : Int}, mulM (.int x) (.int (k : Int)) h = .ok (.int (x * k)) h := fun {x} => mul_r (by omega) (by omega)
  by_cases hl : k < ns.length
  · have hl' : (k : Int) < ns.length := by omega
    have ix : ixM (.con (ns.map MV.int)) (.int k) h = .ok (.int ns[k]) h := by
      have : atI (ns.map MV.int) (k : Int) = some (.int ns[k]) := by
        unfold atI ixN
        rw [if_pos (by omega), if_pos (by simpa using hl')]
        simp [hl]
      simp [ixM, asL, this]
    by_cases hc : 1000000000000000000 ≤ ns[k]
    · exact ⟨_, _, by simp [c__law_room, b__law_room, ltM, le, hl, hl', ix, geM, p18, hc, m0, m1, u1, u2]; exact ⟨rfl, rfl⟩⟩
    · exact ⟨_, _, by simp [c__law_room, b__law_room, ltM, le, hl, hl', ix, geM, p18, hc, m0, m1, u1, u2]; exact ⟨rfl, rfl⟩⟩
  · have hl' : ¬ (k : Int) < ns.length := by omega
    exact ⟨_, _, by simp [c__law_room, b__law_room, ltM, le, hl, hl', geM, p18, m0, m1, u1, u2]; exact ⟨rfl, rfl⟩⟩
/-! ### things put otherwise -/
theorem SOk.app {a b : Str} {n m : Nat} (x : SOk a) (y : SOk b) (hn : a.length ≤ n) (hm : b.length ≤ m) (hs : n + m ≤ 60) : SOk (a ++ b) ∧ (a ++ b).length ≤ n + m := by
  have hl : (a ++ b).length = a.length + b.length := by
    rw [cps_len, cps_len a, cps_len b, cps_app, List.length_append]
  refine ⟨⟨?_, fun c hc => ?_⟩, by omega⟩
  · rw [← cps_len]
    omega
  · rw [cps_app] at hc
    rcases List.mem_append.mp hc with q | q
    · exact x.2 c q
    · exact y.2 c q
theorem SOk.cut {a : Str} (x : SOk a) (lo hi : Option Int) : SOk (cutS a lo hi) ∧ (cutS a lo hi).length ≤ a.length := by
  have s := cut_sub a lo hi
  refine ⟨⟨Nat.le_trans s.length_le x.1, fun c hc => x.2 c (s.subset hc)⟩, ?_⟩
  rw [cps_len, cps_len a]
  exact s.length_le
theorem upper_low : ∀ c : Fin 128, ∀ d ∈ Unicode.upperOf c.1, d < 128 := by decide +kernel
theorem SOk.upper {a : Str} (x : SOk a) (hl : a.length ≤ 20) : SOk (Txt.upper a) := by
  constructor
  · have := placed_le3 a (fun _ c => Unicode.upperOf c) (fun i c => by exact StrLaws.upperOf_le3 c)
    show (placed a fun _ c => Unicode.upperOf c).toList.length ≤ 60
    rw [Array.length_toList]
    omega
  · intro d hd
    have hd' : d ∈ (placed a fun _ c => Unicode.upperOf c) := by
      have : d ∈ (placed a fun _ c => Unicode.upperOf c).toList := hd
      simpa using this
    unfold placed at hd'
    rw [Array.mem_flatten] at hd'
    obtain ⟨ar, h1, h2⟩ := hd'
    rw [Array.mem_mapIdx] at h1
    obtain ⟨i, hi, rfl⟩ := h1
    have hc : a.cps[i] < 128 := x.2 _ (by simp)
    exact upper_low ⟨a.cps[i], hc⟩ d (by simpa using h2)
def odds (n : Nat) : List MV := [.non, .bl true, .int 0, .int (-1), .int 5, .str "", .str "A", .str "a b", .str "~", .str "\n", .str "abcdefghi", .tup [], .ref n, .ref (n + 1), .tup [.str "a"], .ref (n + 2), .int 100000000000000000000]
theorem sok_dec {z : Str} (h : (decide (z.cps.toList.length ≤ 60) && z.cps.toList.all fun c => decide (c < 128)) = true) : SOk z := by
  rw [Bool.and_eq_true, decide_eq_true_eq, List.all_eq_true] at h
  exact ⟨h.1, fun c hc => by simpa using h.2 c hc⟩
theorem odds_t1 {r n : Nat} {h : MH} (hr : r < n) (e0 : h[n]? = some (.lst [])) (e1 : h[n + 1]? = some (.lst [.str "a"])) (e2 : h[n + 2]? = some (.dic [])) : ∀ x ∈ odds n, ∃ b, T1 b r h x := by
  intro x hx
  have sa : Sc (.str "a") := sok_dec (by decide +kernel)
  simp only [odds, List.mem_cons, List.not_mem_nil, or_false] at hx
  rcases hx with rfl | rfl | rfl | rfl | rfl | rfl | rfl | rfl | rfl | rfl | rfl | rfl | rfl | rfl | rfl | rfl | rfl
  · exact ⟨true, .inl trivial⟩
  · exact ⟨true, .inl trivial⟩
  · exact ⟨true, .inl ⟨by decide +kernel, by decide +kernel⟩⟩
  · exact ⟨true, .inl ⟨by decide +kernel, by decide +kernel⟩⟩
  · exact ⟨true, .inl ⟨by decide +kernel, by decide +kernel⟩⟩
  · exact ⟨true, .inl (sok_dec (by decide +kernel))⟩
  · exact ⟨true, .inl (sok_dec (by decide +kernel))⟩
  · exact ⟨true, .inl (sok_dec (by decide +kernel))⟩
  · exact ⟨true, .inl (sok_dec (by decide +kernel))⟩
  · exact ⟨true, .inl (sok_dec (by decide +kernel))⟩
  · exact ⟨true, .inl (sok_dec (by decide +kernel))⟩
  · exact ⟨true, .inr (.inr ⟨[], rfl, by decide, by simp⟩)⟩
  · exact ⟨true, .inr (.inl ⟨by omega, .inr ⟨rfl, _, e0, by decide, by simp⟩⟩)⟩
  · exact ⟨true, .inr (.inl ⟨by omega, .inr ⟨rfl, _, e1, by decide, by simpa using sa⟩⟩)⟩
  · exact ⟨true, .inr (.inr ⟨[.str "a"], rfl, by decide, by simpa using sa⟩)⟩
  · exact ⟨false, .inr (.inl ⟨by omega, .inl ⟨rfl, e2⟩⟩)⟩
  · exact ⟨true, .inl ⟨by decide +kernel, by decide +kernel⟩⟩
theorem odds_set {n : Nat} {x : MV} (hx : x ∈ odds n) : Set x := by
  simp only [odds, List.mem_cons, List.not_mem_nil, or_false] at hx
  rcases hx with rfl | rfl | rfl | rfl | rfl | rfl | rfl | rfl | rfl | rfl | rfl | rfl | rfl | rfl | rfl | rfl | rfl <;> trivial
theorem add_str {a b : Str} {h : MH} (l : a.length + b.length ≤ 120) : addM (.str a) (.str b) h = .ok (.str (a ++ b)) h := by
  have : a.length + b.length ≤ sizeLine := Nat.le_trans l (by decide)
  exact if_pos this
theorem add_tup {a b : List MV} {h : MH} (l : a.length + b.length ≤ 120) : addM (.tup a) (.tup b) h = .ok (.tup (a ++ b)) h := by
  have : a.length + b.length ≤ sizeLine := Nat.le_trans l (by decide)
  exact if_pos this
theorem sl_str {z : Str} {h : MH} {lo hi : Option Int} (l : z.length ≤ 60) : slM (.str z) lo hi h = .ok (.str (cutS z lo hi)) h := by
  have : z.length ≤ sizeLine := Nat.le_trans l (by decide)
  exact if_pos this
theorem sl_tup {z : List MV} {h : MH} {lo hi : Option Int} : slM (.tup z) lo hi h = .ok (.tup (cutM z lo hi)) h := rfl
theorem len_str {z : Str} {h : MH} (l : z.length ≤ 60) : lenM (.str z) h = .ok (.int z.length) h := by
  have : z.length ≤ sizeLine := Nat.le_trans l (by decide)
  exact if_pos this
theorem up_str {z : Str} {h : MH} (l : z.length ≤ 60) : upperM (.str z) h = .ok (.str (Txt.upper z)) h := by
  have : z.length ≤ 5592405 := Nat.le_trans l (by decide)
  exact if_pos this
theorem ix_tmp {xs : List MV} {v : Int} {h : MH} (a : 0 ≤ v) (b : v < xs.length) : ∃ x, ixM (.tmp xs) (.int v) h = .ok x h ∧ x ∈ xs := by
  obtain ⟨x, e, m⟩ := atI_nn a b
  exact ⟨x, by simp [ixM, asL, e], m⟩
theorem ix_ref {xs : List MV} {v : Int} {k : Nat} {h : MH} (q : h[k]? = some (.lst xs)) (a : 0 ≤ v) (b : v < xs.length) : ∃ x, ixM (.ref k) (.int v) h = .ok x h ∧ x ∈ xs := by
  obtain ⟨x, e, m⟩ := atI_nn a b
  exact ⟨x, by simp [ixM, asL, q, e], m⟩
def h4 (h : MH) : MH := h ++ [.lst [], .lst [.str "a"], .dic [], .lst (odds h.length)]
theorem pow20 {h : MH} : powM (.int 10) (.int 20) h = .ok (.int 100000000000000000000) h := rfl
theorem bent_s {h : MH} {r : Nat} {z : Str} (p : Rm h r) (sz : SOk z) (lz : z.length ≤ 20) : ∃ x h', c__law_bent [.ref r, .str z] h = .ok x h' ∧ T2 r h' x ∧ Set x ∧ Rm h' r ∧ Fr r h h' := by
  obtain ⟨a, b, er⟩ := p
  have hr : r < h.length := (List.getElem?_eq_some_iff.mp er).1
  have f4 : Fr r h (h4 h) := fun k o e n => by
    have := (List.getElem?_eq_some_iff.mp e).1
    unfold h4
    rw [List.getElem?_append_left this]
    exact e
  have p4 : Rm (h4 h) r := ⟨a, b, by unfold h4; rw [List.getElem?_append_left hr]; exact er⟩
  have g0 : (h4 h)[h.length]? = some (.lst []) := by simp [h4]
  have g1 : (h4 h)[h.length + 1]? = some (.lst [.str "a"]) := by simp [h4]
  have g2 : (h4 h)[h.length + 2]? = some (.dic []) := by simp [h4]
  have g3 : (h4 h)[h.length + 3]? = some (.lst (odds h.length)) := by simp [h4]
  obtain ⟨v1, h5, e1, v11, v12, p5, f5, n5⟩ := take_at p4 (m := 17) (by decide) (by decide)
  obtain ⟨odd, e2, modd⟩ := ix_ref (f5 _ _ g3 (by omega)) v11 (show v1 < ((odds h.length).length : Int) from v12)
  obtain ⟨v2, h6, e3, v21, v22, p6, f6, n6⟩ := take_at p5 (m := (z.length : Int) + 1) (by omega) (by omega)
  have s1 : ∀ g, settle odd g = .ok odd g := fun g => settle_set (odds_set modd)
  have is : isiM kt [.str z, .ty "str"] h5 = .ok (.bl true) h5 := isi_str (v := .str z) (show z.length ≤ 60 by omega)
  have le := len_str (z := z) (h := h5) (by omega)
  have c1 := sz.cut none (some v2)
  have c2 := sz.cut (some v2) none
  have st1 : SOk "~" := sok_dec (by decide +kernel)
  have st2 : SOk "\n" := sok_dec (by decide +kernel)
  have l1 : ("~" : Str).length = 1 := by decide +kernel
  have l2 : ("\n" : Str).length = 1 := by decide +kernel
  have a1 := SOk.app sz st1 lz (Nat.le_of_eq l1) (by decide)
  have a2 := SOk.app c1.1 st2 (Nat.le_trans c1.2 lz) (Nat.le_of_eq l2) (by decide)
  have a3 := SOk.app a2.1 c2.1 a2.2 (Nat.le_trans c2.2 lz) (by decide)
  have q1 : addM (.str z) (.str "~") h6 = .ok (.str (z ++ "~")) h6 := add_str (by omega)
  have q2 : addM (.str (cutS z none (some v2))) (.str "\n") h6 = .ok (.str (cutS z none (some v2) ++ "\n")) h6 := add_str (by have := c1.2; omega)
  have q3 : addM (.str (cutS z none (some v2) ++ "\n")) (.str (cutS z (some v2) none)) h6 = .ok (.str (cutS z none (some v2) ++ "\n" ++ cutS z (some v2) none)) h6 := add_str (by have := a2.2; have := c2.2; omega)
  obtain ⟨v3, h8, e4, v31, v32, p8, f8, n8⟩ := take_at (p6.app (o := .lst [.str z])) (m := 5) (by decide) (by decide)
  obtain ⟨x, e5, mx⟩ := ix_tmp (xs := [odd, .str (z ++ "~"), .str (cutS z none (some v2) ++ "\n" ++ cutS z (some v2) none), .str (Txt.upper z), .ref h6.length]) (h := h8) v31 (show v3 < 5 from v32)
  have hr6 : r < h6.length := by
    obtain ⟨_, _, e⟩ := p6
    exact (List.getElem?_eq_some_iff.mp e).1
  have f48 : Fr r (h4 h) h8 := f5.trans (f6.trans (Fr.app.trans f8))
  refine ⟨x, h8, ?_, ?_, ?_, p8, f4.trans f48⟩
  · have eh : ∀ {α : Type} {f : MH → α}, f (h ++ [MO.lst [], MO.lst [MV.str "a"], MO.dic [], MO.lst (odds h.length)]) = f (h4 h) := rfl
    have sl1 := sl_str (z := z) (h := h6) (lo := none) (hi := some v2) (by omega)
    have sl2 := sl_str (z := z) (h := h6) (lo := some v2) (hi := none) (by omega)
    have up := up_str (z := z) (h := h6) (by omega)
    unfold c__law_bent b__law_bent
    generalize c__law_take = T at e1 e3 e4 ⊢
    generalize hh4 : h4 h = g4 at *
    have eg : h ++ [MO.lst [], MO.lst [MV.str "a"], MO.dic [], MO.lst (odds h.length)] = g4 := hh4
    simp only [odds] at eg
    simp [pow20, negM, eg, e1, e2, s1, is, le, e3, q1, q2, q3, sl1, sl2, up, e4, e5]
  · obtain ⟨b, to⟩ := odds_t1 (h := h4 h) (r := r) hr g0 g1 g2 odd modd
    simp only [List.mem_cons, List.not_mem_nil, or_false] at mx
    rcases mx with rfl | rfl | rfl | rfl | rfl
    · exact ⟨b, .inl (to.mono f48)⟩
    · exact ⟨true, .inl (.inl a1.1)⟩
    · exact ⟨true, .inl (.inl a3.1)⟩
    · exact ⟨true, .inl (.inl (sz.upper lz))⟩
    · exact ⟨true, .inl (.inr (.inl ⟨by omega, .inr ⟨rfl, [.str z], f8 _ _ (by simp) (by omega), by simp, fun y hy => by cases List.mem_singleton.mp hy; exact sz⟩⟩))⟩
  · simp only [List.mem_cons, List.not_mem_nil, or_false] at mx
    rcases mx with rfl | rfl | rfl | rfl | rfl
    · exact odds_set modd
    all_goals trivial
theorem bent_t {h : MH} {r : Nat} {xs : List MV} (p : Rm h r) (sx : ∀ x ∈ xs, Sc x) (lx : xs.length ≤ 7) : ∃ x h', c__law_bent [.ref r, .tup xs] h = .ok x h' ∧ T2 r h' x ∧ Set x ∧ Rm h' r ∧ Fr r h h' := by
  obtain ⟨a, b, er⟩ := p
  have hr : r < h.length := (List.getElem?_eq_some_iff.mp er).1
  have f4 : Fr r h (h4 h) := fun k o e n => by
    have := (List.getElem?_eq_some_iff.mp e).1
    unfold h4
    rw [List.getElem?_append_left this]
    exact e
  have p4 : Rm (h4 h) r := ⟨a, b, by unfold h4; rw [List.getElem?_append_left hr]; exact er⟩
  have g0 : (h4 h)[h.length]? = some (.lst []) := by simp [h4]
  have g1 : (h4 h)[h.length + 1]? = some (.lst [.str "a"]) := by simp [h4]
  have g2 : (h4 h)[h.length + 2]? = some (.dic []) := by simp [h4]
  have g3 : (h4 h)[h.length + 3]? = some (.lst (odds h.length)) := by simp [h4]
  obtain ⟨v1, h5, e1, v11, v12, p5, f5, n5⟩ := take_at p4 (m := 17) (by decide) (by decide)
  obtain ⟨odd, e2, modd⟩ := ix_ref (f5 _ _ g3 (by omega)) v11 (show v1 < ((odds h.length).length : Int) from v12)
  obtain ⟨v2, h6, e3, v21, v22, p6, f6, n6⟩ := take_at p5 (m := (xs.length : Int) + 1) (by omega) (by omega)
  have s1 : ∀ g, settle odd g = .ok odd g := fun g => settle_set (odds_set modd)
  have is : isiM kt [.tup xs, .ty "str"] h5 = .ok (.bl false) h5 := isi_str (v := .tup xs) (show xs.length ≤ 60 by omega)
  have le : lenM (.tup xs) h5 = .ok (.int xs.length) h5 := rfl
  have c1 := cutM_sub xs none (some v2)
  have c2 := cutM_sub xs (some (v2 + 1)) none
  have c3 := cutM_sub xs none (some (-1))
  have k1 := c1.length_le
  have k2 := c2.length_le
  have k3 := c3.length_le
  have q1 : addM (.tup (cutM xs none (some v2))) (.tup [odd]) h6 = .ok (.tup (cutM xs none (some v2) ++ [odd])) h6 := add_tup (by simp; omega)
  have q2 : addM (.tup (cutM xs none (some v2) ++ [odd])) (.tup (cutM xs (some (v2 + 1)) none)) h6 = .ok (.tup (cutM xs none (some v2) ++ [odd] ++ cutM xs (some (v2 + 1)) none)) h6 := add_tup (by simp; omega)
  have q3 : addM (.tup xs) (.tup [odd]) h6 = .ok (.tup (xs ++ [odd])) h6 := add_tup (by simp; omega)
  have li : listM (.tup xs) h6 = .ok (.tmp xs) h6 := rfl
  obtain ⟨v3, h8, e4, v31, v32, p8, f8, n8⟩ := take_at (p6.app (o := .lst xs)) (m := 5) (by decide) (by decide)
  obtain ⟨x, e5, mx⟩ := ix_tmp (xs := [.tup (cutM xs none (some v2) ++ [odd] ++ cutM xs (some (v2 + 1)) none), .tup (xs ++ [odd]), .ref h6.length, .tup (cutM xs none (some (-1))), odd]) (h := h8) v31 (show v3 < 5 from v32)
  have hr6 : r < h6.length := by
    obtain ⟨_, _, e⟩ := p6
    exact (List.getElem?_eq_some_iff.mp e).1
  have f48 : Fr r (h4 h) h8 := f5.trans (f6.trans (Fr.app.trans f8))
  refine ⟨x, h8, ?_, ?_, ?_, p8, f4.trans f48⟩
  · have sl1 := sl_tup (z := xs) (h := h6) (lo := none) (hi := some v2)
    have sl2 := sl_tup (z := xs) (h := h6) (lo := some (v2 + 1)) (hi := none)
    have sl3 := sl_tup (z := xs) (h := h6 ++ [.lst xs]) (lo := none) (hi := some (-1))
    unfold c__law_bent b__law_bent
    generalize c__law_take = T at e1 e3 e4 ⊢
    generalize hh4 : h4 h = g4 at *
    have eg : h ++ [MO.lst [], MO.lst [MV.str "a"], MO.dic [], MO.lst (odds h.length)] = g4 := hh4
    simp only [odds] at eg
    simp only [List.append_assoc, List.cons_append, List.nil_append] at q2 e5
    simp [pow20, negM, eg, e1, e2, s1, is, le, e3, q1, q2, q3, sl1, sl2, sl3, li, e4, e5]
  · obtain ⟨b, to⟩ := odds_t1 (h := h4 h) (r := r) hr g0 g1 g2 odd modd
    have to8 := to.mono f48
    have mix : ∀ ys : List MV, ys.length ≤ 20 → (∀ y ∈ ys, y = odd ∨ y ∈ xs) → T2 r h8 (.tup ys) := fun ys hl hy => ⟨b, .inr ⟨ys, rfl, hl, fun y m => by
      rcases hy y m with rfl | q
      · exact to8
      · exact .inl (sx y q)⟩⟩
    simp only [List.mem_cons, List.not_mem_nil, or_false] at mx
    rcases mx with rfl | rfl | rfl | rfl | rfl
    · refine mix _ (by simp; omega) fun y hy => ?_
      rcases List.mem_append.mp hy with hy | hy
      · rcases List.mem_append.mp hy with hy | hy
        · exact .inr (c1.subset hy)
        · exact .inl (List.mem_singleton.mp hy)
      · exact .inr (c2.subset hy)
    · refine mix _ (by simp; omega) fun y hy => ?_
      rcases List.mem_append.mp hy with hy | hy
      · exact .inr hy
      · exact .inl (List.mem_singleton.mp hy)
    · exact ⟨true, .inl (.inr (.inl ⟨by omega, .inr ⟨rfl, xs, f8 _ _ (by simp) (by omega), by omega, sx⟩⟩))⟩
    · exact mix _ (by omega) fun y hy => .inr (c3.subset hy)
    · exact ⟨b, .inl to8⟩
  · simp only [List.mem_cons, List.not_mem_nil, or_false] at mx
    rcases mx with rfl | rfl | rfl | rfl | rfl
    case inr.inr.inr.inr => exact odds_set modd
    all_goals trivial
end My

set_option maxHeartbeats 400000
namespace My
open PySem PySem.Spec PyProof.Rows L2 Mi
/-- a comprehension whose test never holds -/
theorem compL_none {st : MH → Bool} {g : MG} {tt : MT} {te : ME} {σ : MS} (P : MH → Prop) (hs : ∀ h, P h → st h = true) : ∀ (xs acc : List MV) (h : MH), P h →
    (∀ x h, x ∈ xs → P h → ∃ σ1 h1 h2, g x σ h = .ok σ1 h1 ∧ tt σ1 h1 = .ok false h2 ∧ P h2) → ∃ h', compL st g tt te σ xs acc h = .ok (.tmp acc) h' ∧ P h'
  | [], acc, h, p, _ => ⟨h, by simp [compL, hs h p], p⟩
  | x :: xs, acc, h, p, H => by
    obtain ⟨σ1, h1, h2, e1, e2, p2⟩ := H x h (List.mem_cons_self ..) p
    obtain ⟨h', e3, p3⟩ := compL_none P hs xs acc h2 p2 fun y g m q => H y g (List.mem_cons_of_mem _ m) q
    refine ⟨h', ?_, p3⟩
    show (if st h = true then (g x σ h).bn fun σ1 h1 => (tt σ1 h1).bn fun b h2 => if b = true then (if acc.length < sizeLine then ((eSet te) σ1 h2).bn fun v h4 => compL st g tt te σ xs (acc ++ [v]) h4 else .stuck) else compL st g tt te σ xs acc h2 else .stuck) = _
    rw [if_pos (hs h p), e1, Res.ok_bn, e2, Res.ok_bn, if_neg (by decide), e3]
theorem words_t {σ : MS} {n r : Nat} {h : MH} (e3 : σ[3]? = some (some (.ref r))) (l7 : 7 < σ.length) (hn : n ≤ 7) (p : Rm h r) :
    ∃ (ys : List MV) (h' : MH), compL (fun _ => true) (gN 7) tYesM (eCall (gb [.p 0] [] []) c__law_word (aCons (eVar 3) aNil) aNil) σ (upInts 0 n) [] h = .ok (.tmp ys) h' ∧ ys.length = n ∧ (∀ y ∈ ys, Sc y) ∧ Rm h' r ∧ Fr r h h' := by
  have hu : (upInts 0 n).length = n := by simp [upInts]
  obtain ⟨ys, h', e, ⟨p1, p2, hl⟩, len⟩ := compL_inv (st := fun _ => true) (g := gN 7) (tt := tYesM) (te := eCall (gb [.p 0] [] []) c__law_word (aCons (eVar 3) aNil) aNil) (σ := σ) (fun _ acc h' => Rm h' r ∧ Fr r h h' ∧ ∀ y ∈ acc, Sc y) (upInts 0 n) [] [] h
    (by rw [hu]; exact Nat.le_trans (by simpa using hn) (by decide)) ⟨p, Fr.refl, by simp⟩ (fun _ _ _ _ => rfl) fun done x acc h1 hx ⟨a1, a2, a3⟩ => by
      obtain ⟨z, h2, b1, b2, b3, b4, b5, b6⟩ := word_t a1
      refine ⟨_, h1, h1, .str z, h2, rfl, rfl, ?_, b4, a2.trans b5, fun d hd => ?_⟩
      · generalize c__law_word = T at b1 ⊢
        simp [List.getElem?_set, e3, b1]
      · rcases List.mem_append.mp hd with q | q
        · exact a3 d q
        · cases List.mem_singleton.mp q
          exact b3
  refine ⟨ys, h', e, ?_, hl, p1, p2⟩
  rw [hu] at len
  simpa using len
def Gd (x : MV) : Prop := (∃ z, x = .str z ∧ SOk z ∧ z.length ≤ 20) ∨ ∃ ys, x = .tup ys ∧ (∀ y ∈ ys, Sc y) ∧ ys.length ≤ 7
theorem Gd.t2 {r : Nat} {h : MH} {x : MV} (g : Gd x) : T2 r h x := by
  rcases g with ⟨z, rfl, s, _⟩ | ⟨ys, rfl, s, l⟩
  · exact ⟨true, .inl (.inl s)⟩
  · exact ⟨true, .inl (.inr (.inr ⟨ys, rfl, by omega, s⟩))⟩
theorem bents_t {σ : MS} {g r : Nat} {h : MH} {good : List MV} (e3 : σ[3]? = some (some (.ref r))) (l8 : 8 < σ.length) (hl : good.length ≤ 100) (hg : ∀ x ∈ good, Gd x) (eg : h[g]? = some (.lst good)) (gr : g ≠ r) (p : Rm h r) :
    ∃ (ys : List MV) (h' : MH), compL (stillL (.ref g) good) (gN 8) tYesM (eCall (gb [.p 0, .p 1] [] []) c__law_bent (aCons (eVar 3) (aCons (eVar 8) aNil)) aNil) σ good [] h = .ok (.tmp ys) h' ∧ ys.length = good.length ∧ (∀ y ∈ ys, T2 r h' y) ∧ Fr r h h' := by
  obtain ⟨ys, h', e, ⟨p1, p2, hl⟩, len⟩ := compL_inv (st := stillL (.ref g) good) (g := gN 8) (tt := tYesM) (te := eCall (gb [.p 0, .p 1] [] []) c__law_bent (aCons (eVar 3) (aCons (eVar 8) aNil)) aNil) (σ := σ) (fun _ acc h' => Rm h' r ∧ Fr r h h' ∧ ∀ y ∈ acc, T2 r h' y) good [] [] h
    (by exact Nat.le_trans (by simpa using hl) (by decide)) ⟨p, Fr.refl, by simp⟩ (fun _ _ h1 q => by
      have := q.2.1 g _ eg gr
      simp [stillL, this]) fun done x acc h1 hx ⟨a1, a2, a3⟩ => by
      have bt : ∃ y h', c__law_bent [.ref r, x] h1 = .ok y h' ∧ T2 r h' y ∧ Set y ∧ Rm h' r ∧ Fr r h1 h' := by
        rcases hg x hx with ⟨z, rfl, s, l⟩ | ⟨ys, rfl, s, l⟩
        · exact bent_s a1 s l
        · exact bent_t a1 s l
      have sx : ∀ g, settle x g = .ok x g := fun _ => by
        rcases hg x hx with ⟨z, rfl, _⟩ | ⟨ys, rfl, _⟩ <;> rfl
      obtain ⟨y, h2, b1, b2, b3, b4, b5⟩ := bt
      refine ⟨_, h1, h1, y, h2, rfl, rfl, ?_, b4, a2.trans b5, fun d hd => ?_⟩
      · have sy : settle y h2 = .ok y h2 := settle_set b3
        generalize c__law_bent = T at b1 ⊢
        simp [List.getElem?_set, e3, l8, sx, b1, sy]
      · rcases List.mem_append.mp hd with q | q
        · exact (a3 d q).mono b5
        · cases List.mem_singleton.mp q
          exact b2
  exact ⟨ys, h', e, by simpa using len, hl, p2⟩
theorem rights_t {σ : MS} {s r : Nat} {h : MH} {xs : List MV} (l8 : 8 < σ.length) (hx : ∀ x ∈ xs, T2 r h x) (es : h[s]? = some (.lst xs)) :
    ∃ h', compL (stillL (.ref s) xs) (gN 8) (tNotM (tTru (eCall (gb [.p 0] [] []) c__law_right (aCons (eVar 8) aNil) aNil))) (eVar 8) σ xs [] h = .ok (.tmp []) h' := by
  obtain ⟨h', e, _⟩ := compL_none (st := stillL (.ref s) xs) (g := gN 8) (tt := tNotM (tTru (eCall (gb [.p 0] [] []) c__law_right (aCons (eVar 8) aNil) aNil))) (te := eVar 8) (σ := σ) (fun h' => ∀ k o, h[k]? = some o → h'[k]? = some o) (fun h1 q => by
      have := q s _ es
      simp [stillL, this]) xs [] h (fun _ _ q => q) fun x h1 m q => by
      have t : T2 r h1 x := (hx x m).mono fun k o e _ => q k o e
      have rt := right_at t
      have sx : settle x h1 = .ok x h1 := (ok_t2 t).1.set
      refine ⟨_, h1, h1 ++ [.lst (five x)], rfl, ?_, fun k o e => get_app (q k o e)⟩
      generalize c__law_right = T at rt ⊢
      simp [l8, sx, rt]
  exact ⟨h', e⟩
theorem add_rr {s g : Nat} {xs ys : List MV} {h : MH} (e1 : h[s]? = some (.lst xs)) (e2 : h[g]? = some (.lst ys)) (l : xs.length + ys.length ≤ 10000) : addM (.ref s) (.ref g) h = .ok (.tmp (xs ++ ys)) h := by
  have : xs.length + ys.length ≤ sizeLine := Nat.le_trans l (by decide)
  simp [addM, asL0, e1, e2, this]
theorem add_rt {s : Nat} {xs ys : List MV} {h : MH} (e1 : h[s]? = some (.lst xs)) (l : xs.length + ys.length ≤ 10000) : addM (.ref s) (.tmp ys) h = .ok (.tmp (xs ++ ys)) h := by
  have : xs.length + ys.length ≤ sizeLine := Nat.le_trans l (by decide)
  simp [addM, asL0, e1, this]
theorem add_tt {xs ys : List MV} {h : MH} (l : xs.length + ys.length ≤ 10000) : addM (.tmp xs) (.tmp ys) h = .ok (.tmp (xs ++ ys)) h := by
  have : xs.length + ys.length ≤ sizeLine := Nat.le_trans l (by decide)
  simp [addM, asL0, this]
end My

set_option maxHeartbeats 400000
namespace My
open PySem PySem.Spec PyProof.Rows L2 Mi
/-- a walk by a property; what is walked is known -/
theorem sForL_inv2 {st : MH → Bool} {g : MG} {s : MSt} (all : List MV) (P : List MV → MS → MH → Prop) (hs : ∀ done σ h, P done σ h → st h = true)
    (H : ∀ done x rest σ h, all = done ++ x :: rest → P done σ h → ∃ σ1 h1 σ2 h2, g x σ h = .ok σ1 h1 ∧ s σ1 h1 = .next σ2 h2 ∧ P (done ++ [x]) σ2 h2) :
    ∀ (xs done : List MV) (σ : MS) (h : MH), all = done ++ xs → P done σ h → ∃ σ' h', sForL st g s xs σ h = .next σ' h' ∧ P all σ' h'
  | [], done, σ, h, e, p => ⟨σ, h, by simp [sForL, hs _ _ _ p], by rw [e, List.append_nil]; exact p⟩
  | x :: xs, done, σ, h, e, p => by
    obtain ⟨σ1, h1, σ2, h2, e1, e2, p2⟩ := H done x xs σ h e p
    obtain ⟨σ', h', e3, p3⟩ := sForL_inv2 all P hs H xs (done ++ [x]) σ2 h2 (by rw [e, List.append_assoc]; rfl) p2
    exact ⟨σ', h', by simp [sForL, hs _ _ _ p, e1, e2, e3], p3⟩
noncomputable def lbody : MSt :=
  (sSeq (sAsg 3 (eCall (gb [.p 0, .p 1] [] []) c__law_room (aCons (eVar 0) (aCons (eVar 2) aNil)) aNil)) (sSeq (sAsg 4 (eCB1 tupleM (eComp (iR1 (aCons (eCall (gb [.p 0, .p 1] [] []) c__law_take (aCons (eVar 3) (aCons (eC (.int 7)) aNil)) aNil) aNil)) (gN 7) tYesM (eCall (gb [.p 0] [] []) c__law_word (aCons (eVar 3) aNil) aNil) [7]))) (sSeq (sAsg 5 (eCall (gb [.p 0, .p 1] [] []) c__law_line (aCons (eVar 3) (aCons (eCall (gb [.p 0, .p 1] [] []) c__law_take (aCons (eVar 3) (aCons (eC (.int 9)) aNil)) aNil) aNil)) aNil)) (sSeq (sAsg 6 (eLst (aCons (eCall (gb [.p 0] [] []) c__law_word (aCons (eVar 3) aNil) aNil) (aCons (eVar 4) (aCons (eVar 5) (aCons (eTup (aCons (eCall (gb [.p 0] [] []) c__law_word (aCons (eVar 3) aNil) aNil) (aCons (eBin addM (eC (.int 1)) (eCall (gb [.p 0, .p 1] [] []) c__law_take (aCons (eVar 3) (aCons (eC (.int 99)) aNil)) aNil)) aNil))) aNil)))))) (sAsg 1 (eBin addM (eBin addM (eVar 1) (eVar 6)) (eComp (iSeq (eVar 6)) (gN 8) tYesM (eCall (gb [.p 0, .p 1] [] []) c__law_bent (aCons (eVar 3) (aCons (eVar 8) aNil)) aNil) [8])))))))
theorem sh99 : ∀ i : Fin 99, (PyData.shown (.int (1 + (i.1 : Int)))).length ≤ 60 ∧ (1 + (i.1 : Int)).natAbs.log2 < 1920 := by decide +kernel
theorem body_t {ns : List Int} {h : MH} {s k : Nat} {xs : List MV} {a2 a3 a4 a5 a6 : Option MV} (hk : k ≤ 1000) (es : h[s]? = some (.lst xs)) (lx : xs.length ≤ 5000) (hx : ∀ x ∈ xs, T2 h.length h x) :
    ∃ s' h' ys b3 b4 b5 b6, lbody [some (.con (ns.map MV.int)), some (.ref s), some (.int k), a3, a4, a5, a6, none, none] h = .next [some (.con (ns.map MV.int)), some (.ref s'), some (.int k), b3, b4, b5, b6, none, none] h' ∧
      h'[s']? = some (.lst ys) ∧ ys.length = xs.length + 8 ∧ ∀ y ∈ ys, T2 h'.length h' y := by
  obtain ⟨ra, rb, e1⟩ := room_t (ns := ns) (k := k) (h := h) hk
  have f0 : Fr h.length h (h ++ [.lst [.int ra, .int rb]]) := Fr.app
  have p0 : Rm (h ++ [.lst [.int ra, .int rb]]) h.length := ⟨ra, rb, by simp⟩
  generalize hr : h.length = r at *
  generalize hh1 : h ++ [.lst [.int ra, .int rb]] = h1 at *
  obtain ⟨v1, h2, e2, v11, v12, p2, f2, n2⟩ := take_at p0 (m := 7) (by decide) (by decide)
  obtain ⟨nv, rfl⟩ := Int.eq_ofNat_of_zero_le v11
  have r1 : iR1K [.int (nv : Int)] h2 = .ok ⟨upInts 0 nv, fun _ => true⟩ h2 := iR1K_int (by omega)
  obtain ⟨ws, h3, e3, l3, s3, p3, f3⟩ := words_t (σ := [some (.con (ns.map MV.int)), some (.ref s), some (.int k), some (.ref r), a4, a5, a6, none, none]) (n := nv) (r := r) (h := h2) rfl (by simp) (by omega) p2
  obtain ⟨v2, h4, e4, v21, v22, p4, f4, n4⟩ := take_at p3 (m := 9) (by decide) (by decide)
  obtain ⟨mv, rfl⟩ := Int.eq_ofNat_of_zero_le v21
  obtain ⟨ln, h5, e5, l5, s5, p5, f5, n5⟩ := line_t (n := mv) p4 (by omega)
  obtain ⟨w1, h6, e6, l6, s6, p6, f6, n6⟩ := word_t p5
  obtain ⟨w2, h7, e7, l7, s7, p7, f7, n7⟩ := word_t p6
  obtain ⟨v3, h8, e8, v31, v32, p8, f8, n8⟩ := take_at p7 (m := 99) (by decide) (by decide)
  obtain ⟨kv, rfl⟩ := Int.eq_ofNat_of_zero_le v31
  have sk : Sc (.int (1 + (kv : Int))) := sh99 ⟨kv, by omega⟩
  have fa : Fr r h h8 := f0.trans (f2.trans (f3.trans (f4.trans (f5.trans (f6.trans (f7.trans f8))))))
  have rs : s ≠ r := by
    have := (List.getElem?_eq_some_iff.mp es).1
    omega
  have good : ∀ x ∈ [MV.str w1, .tup ws, .str ln, .tup [.str w2, .int (1 + (kv : Int))]], Gd x := fun x hx => by
    simp only [List.mem_cons, List.not_mem_nil, or_false] at hx
    rcases hx with rfl | rfl | rfl | rfl
    · exact .inl ⟨w1, rfl, s6, by omega⟩
    · exact .inr ⟨ws, rfl, s3, by omega⟩
    · exact .inl ⟨ln, rfl, s5, l5⟩
    · refine .inr ⟨_, rfl, fun y hy => ?_, by simp⟩
      simp only [List.mem_cons, List.not_mem_nil, or_false] at hy
      rcases hy with rfl | rfl
      · exact s7
      · exact sk
  have rl : r < h8.length := by
    obtain ⟨_, _, e⟩ := p8
    exact (List.getElem?_eq_some_iff.mp e).1
  have eg : (h8 ++ [.lst [MV.str w1, .tup ws, .str ln, .tup [.str w2, .int (1 + (kv : Int))]]])[h8.length]? = some (.lst [MV.str w1, .tup ws, .str ln, .tup [.str w2, .int (1 + (kv : Int))]]) := by simp
  have es9 : (h8 ++ [.lst [MV.str w1, .tup ws, .str ln, .tup [.str w2, .int (1 + (kv : Int))]]])[s]? = some (.lst xs) := get_app (fa s _ es rs)
  have p9 := p8.app (o := .lst [MV.str w1, .tup ws, .str ln, .tup [.str w2, .int (1 + (kv : Int))]])
  have f9 : Fr r h8 (h8 ++ [.lst [MV.str w1, .tup ws, .str ln, .tup [.str w2, .int (1 + (kv : Int))]]]) := Fr.app
  generalize hgood : [MV.str w1, .tup ws, .str ln, .tup [.str w2, .int (1 + (kv : Int))]] = gd at *
  have lg : gd.length = 4 := by rw [← hgood]; rfl
  generalize hh9 : h8 ++ [.lst gd] = h9 at *
  obtain ⟨bs, h10, e10, l10, t10, f10⟩ := bents_t (σ := [some (.con (ns.map MV.int)), some (.ref s), some (.int k), some (.ref r), some (.tup ws), some (.str ln), some (.ref h8.length), none, none]) (g := h8.length) (r := r) (h := h9) rfl (by simp) (by omega) good eg (by omega) p9
  have q1 : addM (.ref s) (.ref h8.length) h9 = .ok (.tmp (xs ++ gd)) h9 := add_rr es9 eg (by omega)
  have q2 : addM (.tmp (xs ++ gd)) (.tmp bs) h10 = .ok (.tmp (xs ++ gd ++ bs)) h10 := add_tt (by rw [List.length_append]; omega)
  have i9 := iSeqK_ref eg
  refine ⟨h10.length, h10 ++ [.lst (xs ++ gd ++ bs)], xs ++ gd ++ bs, some (.ref r), some (.tup ws), some (.str ln), some (.ref h8.length), ?_, by simp, by rw [List.length_append, List.length_append]; omega, fun y hy => ?_⟩
  · unfold lbody
    generalize c__law_take = T at *
    generalize c__law_word = W at *
    generalize c__law_line = L at *
    generalize c__law_room = R at *
    generalize c__law_bent = B at *
    have tu : tupleM (.tmp ws) h3 = .ok (.tup ws) h3 := rfl
    simp [e1, hr, hh1, e2, r1, e3, tu, e4, e5, e6, e7, e8, hgood, hh9, q1, i9, e10, q2]
  · have fz : Fr r h10 (h10 ++ [.lst (xs ++ gd ++ bs)]) := Fr.app
    have : T2 r (h10 ++ [.lst (xs ++ gd ++ bs)]) y := by
      rcases List.mem_append.mp hy with hy | hy
      · rcases List.mem_append.mp hy with hy | hy
        · exact (hx y hy).mono (fa.trans (f9.trans (f10.trans fz)))
        · exact (good y hy).t2
      · exact (t10 y hy).mono fz
    exact this.new
end My

set_option maxHeartbeats 400000
namespace My
open PySem PySem.Spec PyProof.Rows L2 Mi
def L16 : List MV := [.non, .bl true, .bl false, .int 0, .int 1, .int (-1), .int 100000000000000000000000000000, .str "", .str "a", .str "abcdefgh", .str "abcdefghi", .str "a1", .str " ", .str "}", .str "~", .str "a~"]
def L2x : List MV := [.tup [], .tup [.str "a"]]
def L9x : List MV := [.tup [.str "a", .str "a", .str "a", .str "a", .str "a"], .tup [.str "a", .str "a", .str "a", .str "a", .str "a", .str "a"], .tup [.str "a", .int 1], .tup [.str "a", .int 0], .tup [.str "a", .bl true], .tup [.str "A", .int 1], .ref 2, .tup [.str "a", .int 1, .int 1], .ref 3]
def hz : MH := [.lst L16, .lst (L16 ++ L2x), .lst [.str "a", .int 1], .dic [], .lst (L16 ++ L2x ++ L9x)]
theorem base_t : ∀ x ∈ L16 ++ L2x ++ L9x, T2 hz.length hz x := by
  intro x hx
  have sa : Sc (.str "a") := sok_dec (by decide +kernel)
  have sA : Sc (.str "A") := sok_dec (by decide +kernel)
  have s1 : Sc (.int 1) := ⟨by decide +kernel, by decide +kernel⟩
  have s0 : Sc (.int 0) := ⟨by decide +kernel, by decide +kernel⟩
  simp only [L16, L2x, L9x, List.cons_append, List.nil_append, List.mem_cons, List.not_mem_nil, or_false] at hx
  rcases hx with rfl | rfl | rfl | rfl | rfl | rfl | rfl | rfl | rfl | rfl | rfl | rfl | rfl | rfl | rfl | rfl | rfl | rfl | rfl | rfl | rfl | rfl | rfl | rfl | rfl | rfl | rfl
  · exact ⟨true, .inl (.inl trivial)⟩
  · exact ⟨true, .inl (.inl trivial)⟩
  · exact ⟨true, .inl (.inl trivial)⟩
  · exact ⟨true, .inl (.inl ⟨by decide +kernel, by decide +kernel⟩)⟩
  · exact ⟨true, .inl (.inl ⟨by decide +kernel, by decide +kernel⟩)⟩
  · exact ⟨true, .inl (.inl ⟨by decide +kernel, by decide +kernel⟩)⟩
  · exact ⟨true, .inl (.inl ⟨by decide +kernel, by decide +kernel⟩)⟩
  · exact ⟨true, .inl (.inl (sok_dec (by decide +kernel)))⟩
  · exact ⟨true, .inl (.inl (sok_dec (by decide +kernel)))⟩
  · exact ⟨true, .inl (.inl (sok_dec (by decide +kernel)))⟩
  · exact ⟨true, .inl (.inl (sok_dec (by decide +kernel)))⟩
  · exact ⟨true, .inl (.inl (sok_dec (by decide +kernel)))⟩
  · exact ⟨true, .inl (.inl (sok_dec (by decide +kernel)))⟩
  · exact ⟨true, .inl (.inl (sok_dec (by decide +kernel)))⟩
  · exact ⟨true, .inl (.inl (sok_dec (by decide +kernel)))⟩
  · exact ⟨true, .inl (.inl (sok_dec (by decide +kernel)))⟩
  · exact ⟨true, .inl (.inr (.inr ⟨[], rfl, by decide, by simp⟩))⟩
  · exact ⟨true, .inl (.inr (.inr ⟨_, rfl, by simp, by intro y hy; simp only [List.mem_cons, List.not_mem_nil, or_false] at hy; rcases hy with rfl <;> first | exact sa | exact sA | exact s1 | exact s0 | trivial⟩))⟩
  · exact ⟨true, .inl (.inr (.inr ⟨_, rfl, by simp, by intro y hy; simp only [List.mem_cons, List.not_mem_nil, or_false] at hy; rcases hy with rfl | rfl | rfl | rfl | rfl <;> first | exact sa | exact sA | exact s1 | exact s0 | trivial⟩))⟩
  · exact ⟨true, .inl (.inr (.inr ⟨_, rfl, by simp, by intro y hy; simp only [List.mem_cons, List.not_mem_nil, or_false] at hy; rcases hy with rfl | rfl | rfl | rfl | rfl | rfl <;> first | exact sa | exact sA | exact s1 | exact s0 | trivial⟩))⟩
  · exact ⟨true, .inl (.inr (.inr ⟨_, rfl, by simp, by intro y hy; simp only [List.mem_cons, List.not_mem_nil, or_false] at hy; rcases hy with rfl | rfl <;> first | exact sa | exact sA | exact s1 | exact s0 | trivial⟩))⟩
  · exact ⟨true, .inl (.inr (.inr ⟨_, rfl, by simp, by intro y hy; simp only [List.mem_cons, List.not_mem_nil, or_false] at hy; rcases hy with rfl | rfl <;> first | exact sa | exact sA | exact s1 | exact s0 | trivial⟩))⟩
  · exact ⟨true, .inl (.inr (.inr ⟨_, rfl, by simp, by intro y hy; simp only [List.mem_cons, List.not_mem_nil, or_false] at hy; rcases hy with rfl | rfl <;> first | exact sa | exact sA | exact s1 | exact s0 | trivial⟩))⟩
  · exact ⟨true, .inl (.inr (.inr ⟨_, rfl, by simp, by intro y hy; simp only [List.mem_cons, List.not_mem_nil, or_false] at hy; rcases hy with rfl | rfl <;> first | exact sa | exact sA | exact s1 | exact s0 | trivial⟩))⟩
  · exact ⟨true, .inl (.inr (.inl ⟨by decide, .inr ⟨rfl, [.str "a", .int 1], rfl, by simp, by intro y hy; simp only [List.mem_cons, List.not_mem_nil, or_false] at hy; rcases hy with rfl | rfl <;> first | exact sa | exact sA | exact s1 | exact s0 | trivial⟩⟩))⟩
  · exact ⟨true, .inl (.inr (.inr ⟨_, rfl, by simp, by intro y hy; simp only [List.mem_cons, List.not_mem_nil, or_false] at hy; rcases hy with rfl | rfl | rfl <;> first | exact sa | exact sA | exact s1 | exact s0 | trivial⟩))⟩
  · exact ⟨false, .inl (.inr (.inl ⟨by decide, .inl ⟨rfl, rfl⟩⟩))⟩
theorem pow29 {h : MH} : powM (.int 10) (.int 29) h = .ok (.int 100000000000000000000000000000) h := rfl
theorem mul5 {h : MH} : mulM (.tup [.str "a"]) (.int 5) h = .ok (.tup [.str "a", .str "a", .str "a", .str "a", .str "a"]) h := by simp [mulM, List.replicate]
theorem mul6 {h : MH} : mulM (.tup [.str "a"]) (.int 6) h = .ok (.tup [.str "a", .str "a", .str "a", .str "a", .str "a", .str "a"]) h := by simp [mulM, List.replicate]
theorem law_true : ∀ ns : List Int, ns.length ≤ 63 → ∃ h', c_law [.con (ns.map MV.int)] [] = .ok (.bl true) h' := by
  intro ns hns
  have le : ∀ {h : MH}, lenM (.con (ns.map MV.int)) h = .ok (.int ns.length) h := fun {h} => by simp [lenM, asL]
  have mm : ∃ m : Nat, m ≤ 30 ∧ ∀ {h : MH}, ∃ w : Int, min2M [.int ns.length, .int 30] h = .ok (.int w) h ∧ max2M [.int 1, .int w] h = .ok (.int m) h := by
    by_cases h1 : ns.length < 30
    · by_cases h0 : ns.length = 0
      · exact ⟨1, by decide, fun {h} => ⟨0, by simp [min2M, h0], by simp [max2M]⟩⟩
      · refine ⟨ns.length, by omega, fun {h} => ⟨ns.length, ?_, ?_⟩⟩
        · have : ¬ (30 : Int) < ns.length := by omega
          simp [min2M, this]
        · by_cases h2 : (ns.length : Int) > 1
          · simp [max2M, h2]
          · have : ns.length = 1 := by omega
            simp [max2M, this]
    · refine ⟨30, by decide, fun {h} => ⟨30, ?_, by simp [max2M]⟩⟩
      by_cases h2 : (30 : Int) < ns.length
      · simp [min2M, h2]
      · have : ns.length = 30 := by omega
        simp [min2M, this]
  obtain ⟨m, hm, mm⟩ := mm
  obtain ⟨w, mm1, mm2⟩ := mm (h := hz)
  have r1 : iR1K [.int (m : Int)] hz = .ok ⟨upInts 0 m, fun _ => true⟩ hz := iR1K_int (by omega)
  have lu : (upInts 0 m).length = m := by simp [upInts]
  obtain ⟨σ', h', e1, s, xs, a2, a3, a4, a5, a6, rfl, es, lx, hx⟩ := sForL_inv2 (st := fun _ => true) (g := gN 2) (s := lbody) (upInts 0 m)
    (fun done σ h => ∃ s xs a2 a3 a4 a5 a6, σ = [some (.con (ns.map MV.int)), some (.ref s), a2, a3, a4, a5, a6, none, none] ∧ h[s]? = some (.lst xs) ∧ xs.length = 27 + 8 * done.length ∧ ∀ x ∈ xs, T2 h.length h x)
    (fun _ _ _ _ => rfl) (fun done x rest σ h eall ⟨s, xs, a2, a3, a4, a5, a6, eσ, es, lx, hx⟩ => by
      have mx : x ∈ upInts 0 m := by rw [eall]; simp
      have ld : done.length ≤ m := by
        have := congrArg List.length eall
        rw [lu, List.length_append] at this
        omega
      simp only [upInts, List.mem_map, List.mem_range] at mx
      obtain ⟨k, hk, rfl⟩ := mx
      obtain ⟨s', h2, ys, b3, b4, b5, b6, q1, q2, q3, q4⟩ := body_t (ns := ns) (k := k) (a2 := a2) (a3 := a3) (a4 := a4) (a5 := a5) (a6 := a6) (by omega) es (by omega) hx
      refine ⟨_, h, _, h2, rfl, ?_, s', ys, some (.int k), b3, b4, b5, b6, rfl, q2, by rw [List.length_append, List.length_singleton]; omega, q4⟩
      subst eσ
      have z : (0 : Int) + (k : Int) = k := by omega
      rw [z]
      exact q1)
    (upInts 0 m) [] [some (.con (ns.map MV.int)), some (.ref 4), none, none, none, none, none, none, none] hz rfl ⟨4, L16 ++ L2x ++ L9x, none, none, none, none, none, rfl, rfl, by decide, base_t⟩
  obtain ⟨h2, e2⟩ := rights_t (σ := [some (.con (ns.map MV.int)), some (.ref s), a2, a3, a4, a5, a6, none, none]) (s := s) (r := h'.length) (h := h') (xs := xs) (by simp) hx es
  refine ⟨h2, ?_⟩
  have i1 := iSeqK_ref es
  have t0 : eqM (.str "~") (.str "~") h' = .ok (.bl true) h' := eq_str
  have A1 : addM (.ref 0) (.tmp L2x) [.lst L16] = .ok (.tmp (L16 ++ L2x)) [.lst L16] := add_rt rfl (by decide)
  have A2 : addM (.ref 1) (.tmp L9x) [.lst L16, .lst (L16 ++ L2x), .lst [.str "a", .int 1], .dic []] = .ok (.tmp (L16 ++ L2x ++ L9x)) [.lst L16, .lst (L16 ++ L2x), .lst [.str "a", .int 1], .dic []] := add_rt rfl (by decide)
  unfold c_law b_law
  simp only [lbody] at e1
  generalize c__law_take = T at *
  generalize c__law_word = W at *
  generalize c__law_line = L at *
  generalize c__law_room = R at *
  generalize c__law_bent = B at *
  generalize c__law_right = Q at *
  have g16 : L16 = [.non, .bl true, .bl false, .int 0, .int 1, .int (-1), .int 100000000000000000000000000000, .str "", .str "a", .str "abcdefgh", .str "abcdefghi", .str "a1", .str " ", .str "}", .str "~", .str "a~"] := rfl
  have g2 : L2x = [.tup [], .tup [.str "a"]] := rfl
  have g9 : L9x = [.tup [.str "a", .str "a", .str "a", .str "a", .str "a"], .tup [.str "a", .str "a", .str "a", .str "a", .str "a", .str "a"], .tup [.str "a", .int 1], .tup [.str "a", .int 0], .tup [.str "a", .bl true], .tup [.str "A", .int 1], .ref 2, .tup [.str "a", .int 1, .int 1], .ref 3] := rfl
  have gz : [MO.lst L16, .lst (L16 ++ L2x), .lst [.str "a", .int 1], .dic [], .lst (L16 ++ (L2x ++ L9x))] = hz := by rw [← List.append_assoc]; rfl
  simp [negM, pow29, mul5, mul6, ← g16, ← g2, ← g9, A1, A2, gz, le, mm1, mm2, r1, e1, t0, i1, e2, eq_nil]
end My

namespace My
open PySem PySem.Spec PyProof.Rows L2 Mi
abbrev R : PySem.W.OpenRow := PySem.W.OpenLaw.row PySem.Challenge.rw_appendlease_k01_words_paths_and_keys
abbrev hk : PySem.W.Hook := hookB 6 fa fn bs
def ob (s : PySem.W.SharedT) : AlB := obsBG 6 fa fn bs (HandSHeadRun.getT s)
theorem ob_eq (s : PySem.W.SharedT) : ob s = hk.obs s.abs := obsBG_eq (HandSHeadRun.getT_eq s)
def loose0 : List Str := ["__name__", "LETTERS", "LONGEST", "DEEPEST", "FILLER", "is_whole", "is_from", "is_word", "is_path", "is_signs", "is_key", "_law_room", "_law_take", "_law_word", "_law_line", "_law_so", "_law_right", "_law_bent"]
abbrev loose : List Str := loose0
abbrev qv : Program := PySem.W.view R.prog [19]
theorem run (w : World) : HandSHeadRun.RunEq R qv hk ob 6000 loose w := by
  intro os
  kernel_rfl
theorem tp_of {K : PySem.W.Frag} {mg : Str → Option Value} {h : Heap} (KX : K.In h) (G : h.Ns mainGlobals mg) (c0 : SaysB fa fn bs K) : Tp K mg := ⟨⟨h, KX, G, c0⟩, ⟨fun _ _ _ _ _ h => (List.not_mem_nil h).elim, fun _ _ _ _ h => (List.not_mem_nil h).elim, fun _ _ _ _ h => (List.not_mem_nil h).elim⟩⟩
end My
open PySem PySem.W PySem.Calls PyProof.Rows
set_option maxHeartbeats 0 in
theorem PySem.Challenge.cw_appendlease_k01_words_paths_and_keys_holds : PySem.Challenge.rw_appendlease_k01_words_paths_and_keys.Holds := by
  w_on; o_law
  refine HandSHeadRun.head_any (r := OpenLaw.row PySem.Challenge.rw_appendlease_k01_words_paths_and_keys) (q := My.qv) (H := My.hk) (ob := My.ob) (M := 6000) (loose := My.loose) (d := HandSHeadRun.topDef (OpenLaw.row PySem.Challenge.rw_appendlease_k01_words_paths_and_keys).prog 19) (kwd := []) My.ob_eq
    (by kernel_rfl) (fun s => by kernel_rfl) My.run (by kernel_rfl) (by kernel_rfl) (by kernel_rfl) (by rfl) (by first | assumption | decide +kernel) (by decide +kernel) ⟨rfl, rfl, rfl, rfl, rfl, by decide +kernel⟩ ?hw ?hc
  case hw => w_witness2
  case hc =>
    refine Mi.walkM (l := PySem.Challenge.rw_appendlease_k01_words_paths_and_keys) (n := 63) (k := 5) (x := "_law_script") rfl (by decide) (by kernel_rfl) ⟨rfl, by decide, by decide⟩ ?F
    intro w mg fa h Y G hmg0
    obtain ⟨K, KX, c0⟩ := Y
    have hmg : mg ("law" : PySem.Str) = some (.ref fa) := by
      have e : (HandSHeadRun.topDef (OpenLaw.row PySem.Challenge.rw_appendlease_k01_words_paths_and_keys).prog 19).name = ("law" : PySem.Str) := by kernel_rfl
      rw [← e]
      exact hmg0
    have T : My.Tp K mg := My.tp_of KX G c0
    have c := c0.d
    obtain ⟨fd, F⟩ := c.def_ 13 (d := My.dlaw) rfl
    have gl := He.glo_ok KX G (c.fact 29 (f := .glo "law") rfl)
    have e := hmg.symm.trans gl
    cases e
    have b := L2.FunD.bindsA (ps := ["_law_script"]) F fun _ _ _ _ _ _ us hl => match us, hl with | [_], _ => rfl
    exact ⟨K, fd, My.c_law, KX, fun s v => b s [v] rfl, My.law_true, fun base _ _ => My.ok_law T F⟩
