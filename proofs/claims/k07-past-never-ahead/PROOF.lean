import PyProof.Rows.All
import Wide.All
import OpenK.AllK
import Wide.FinOn
import KE.KStateDown
import HandS.ForMost
import HandS.More
import HandS.Exc
import HandS.TryOnly
import HandS.ExcOwn
import HandS.WordsExc
import HandS.Defaults
import HandS.MakeKwOnly
import HandS.IsInst
import HandS.Flow
import HandS.Evl
import HandS.Walk
import HandS.Wide
import HandS.Head0
import HandS.Head1
import HandS.Head2
import HandS.HeadEnd
import HandS.HeadHook1
import HandS.HeadHook2
import PyProof.NeKinds
import PySem.Challenge.RW_appendlease_k07_whole_surely_past_is_nev
set_option Elab.async false
set_option linter.all false
set_option maxRecDepth 100000
set_option maxHeartbeats 4000000
namespace My
open PySem PySem.Spec PyProof.Rows L2
def top (i : Nat) : Stmt := PySem.Challenge.pw_appendlease_k07_whole_surely_past_is_nev.main.body.getD i (.Pass ⟨0, 0, 0, 0⟩)
abbrev s_wall : Stmt := top 0
abbrev sNoNumber___init__ : Stmt := inClass (top 3) 0
abbrev sis_whole : Stmt := top 5
abbrev sis_from : Stmt := top 6
abbrev sClock___init__ : Stmt := inClass (top 11) 0
abbrev sClock_look_at_off : Stmt := inClass (top 11) 1
abbrev sClock_tick : Stmt := inClass (top 11) 2
abbrev sClock_put_off : Stmt := inClass (top 11) 3
abbrev sClock_skew : Stmt := inClass (top 11) 4
abbrev sClock_off : Stmt := inClass (top 11) 5
abbrev sClock_true : Stmt := inClass (top 11) 6
abbrev sClock_shows : Stmt := inClass (top 11) 7
abbrev sClock_is_past : Stmt := inClass (top 11) 8
abbrev sClock_is_ahead : Stmt := inClass (top 11) 9
abbrev sClock_twin : Stmt := inClass (top 11) 10
abbrev s_law_pool : Stmt := top 13
abbrev s_law_take : Stmt := top 14
abbrev s_law_one : Stmt := top 15
abbrev s_law_right : Stmt := top 16
abbrev slaw : Stmt := top 17
abbrev n_wall : List Str := ["k"]
abbrev p_wall : List Str := ["k"]
abbrev nNoNumber___init__ : List Str := ["self", "name", "number"]
abbrev pNoNumber___init__ : List Str := ["self", "name", "number"]
abbrev nis_whole : List Str := ["thing"]
abbrev pis_whole : List Str := ["thing"]
abbrev nis_from : List Str := ["thing", "least", "most"]
abbrev pis_from : List Str := ["thing", "least", "most"]
abbrev nClock___init__ : List Str := ["self", "skew", "off"]
abbrev pClock___init__ : List Str := ["self", "skew", "off"]
abbrev nClock_look_at_off : List Str := ["self", "name", "off"]
abbrev pClock_look_at_off : List Str := ["self", "name", "off"]
abbrev nClock_tick : List Str := ["self", "many"]
abbrev pClock_tick : List Str := ["self", "many"]
abbrev nClock_put_off : List Str := ["self", "by"]
abbrev pClock_put_off : List Str := ["self", "by"]
abbrev nClock_skew : List Str := ["self"]
abbrev pClock_skew : List Str := ["self"]
abbrev nClock_off : List Str := ["self"]
abbrev pClock_off : List Str := ["self"]
abbrev nClock_true : List Str := ["self"]
abbrev pClock_true : List Str := ["self"]
abbrev nClock_shows : List Str := ["self"]
abbrev pClock_shows : List Str := ["self"]
abbrev nClock_is_past : List Str := ["self", "time"]
abbrev pClock_is_past : List Str := ["self", "time"]
abbrev nClock_is_ahead : List Str := ["self", "time"]
abbrev pClock_is_ahead : List Str := ["self", "time"]
abbrev nClock_twin : List Str := ["self"]
abbrev pClock_twin : List Str := ["self"]
abbrev n_law_pool : List Str := ["_law_script", "_law_k", "_law_cell", "_law_great", "_law_mixed"]
abbrev p_law_pool : List Str := ["_law_script", "_law_k"]
abbrev n_law_take : List Str := ["_law_pool_here", "_law_most", "_law_found"]
abbrev p_law_take : List Str := ["_law_pool_here", "_law_most"]
abbrev n_law_one : List Str := ["_law_pool_here", "_law_some"]
abbrev p_law_one : List Str := ["_law_pool_here", "_law_some"]
abbrev n_law_right : List Str := ["_law_hands", "_law_spread", "_law_passed", "_law_true", "_law_time", "_law_past", "_law_ahead", "_law_hand"]
abbrev p_law_right : List Str := ["_law_hands", "_law_spread", "_law_passed"]
abbrev nlaw : List Str := ["_law_script", "_law_k", "_law_pool_here", "_law_spread", "_law_turn", "_law_hands", "_law_passed", "_law_steps", "_law_hand"]
abbrev plaw : List Str := ["_law_script"]
def d_wall : He.DefD := ⟨("_wall", none), "_wall", "_wall", defArgs s_wall, defBody s_wall, defScope s_wall, [], []⟩
def dNoNumber___init__ : He.DefD := ⟨("NoNumber", some "__init__"), "__init__", "NoNumber.__init__", defArgs sNoNumber___init__, defBody sNoNumber___init__, defScope sNoNumber___init__, [], []⟩
def dis_whole : He.DefD := ⟨("is_whole", none), "is_whole", "is_whole", defArgs sis_whole, defBody sis_whole, defScope sis_whole, [], []⟩
def dis_from : He.DefD := ⟨("is_from", none), "is_from", "is_from", defArgs sis_from, defBody sis_from, defScope sis_from, [.non], []⟩
def dClock___init__ : He.DefD := ⟨("Clock", some "__init__"), "__init__", "Clock.__init__", defArgs sClock___init__, defBody sClock___init__, defScope sClock___init__, [], [("skew", (.int 2)), ("off", (.int 0))]⟩
def dClock_look_at_off : He.DefD := ⟨("Clock", some "look_at_off"), "look_at_off", "Clock.look_at_off", defArgs sClock_look_at_off, defBody sClock_look_at_off, defScope sClock_look_at_off, [], []⟩
def dClock_tick : He.DefD := ⟨("Clock", some "tick"), "tick", "Clock.tick", defArgs sClock_tick, defBody sClock_tick, defScope sClock_tick, [(.int 1)], []⟩
def dClock_put_off : He.DefD := ⟨("Clock", some "put_off"), "put_off", "Clock.put_off", defArgs sClock_put_off, defBody sClock_put_off, defScope sClock_put_off, [], []⟩
def dClock_skew : He.DefD := ⟨("Clock", some "skew"), "skew", "Clock.skew", defArgs sClock_skew, defBody sClock_skew, defScope sClock_skew, [], []⟩
def dClock_off : He.DefD := ⟨("Clock", some "off"), "off", "Clock.off", defArgs sClock_off, defBody sClock_off, defScope sClock_off, [], []⟩
def dClock_true : He.DefD := ⟨("Clock", some "true"), "true", "Clock.true", defArgs sClock_true, defBody sClock_true, defScope sClock_true, [], []⟩
def dClock_shows : He.DefD := ⟨("Clock", some "shows"), "shows", "Clock.shows", defArgs sClock_shows, defBody sClock_shows, defScope sClock_shows, [], []⟩
def dClock_is_past : He.DefD := ⟨("Clock", some "is_past"), "is_past", "Clock.is_past", defArgs sClock_is_past, defBody sClock_is_past, defScope sClock_is_past, [], []⟩
def dClock_is_ahead : He.DefD := ⟨("Clock", some "is_ahead"), "is_ahead", "Clock.is_ahead", defArgs sClock_is_ahead, defBody sClock_is_ahead, defScope sClock_is_ahead, [], []⟩
def dClock_twin : He.DefD := ⟨("Clock", some "twin"), "twin", "Clock.twin", defArgs sClock_twin, defBody sClock_twin, defScope sClock_twin, [], []⟩
def d_law_pool : He.DefD := ⟨("_law_pool", none), "_law_pool", "_law_pool", defArgs s_law_pool, defBody s_law_pool, defScope s_law_pool, [], []⟩
def d_law_take : He.DefD := ⟨("_law_take", none), "_law_take", "_law_take", defArgs s_law_take, defBody s_law_take, defScope s_law_take, [], []⟩
def d_law_one : He.DefD := ⟨("_law_one", none), "_law_one", "_law_one", defArgs s_law_one, defBody s_law_one, defScope s_law_one, [], []⟩
def d_law_right : He.DefD := ⟨("_law_right", none), "_law_right", "_law_right", defArgs s_law_right, defBody s_law_right, defScope s_law_right, [], []⟩
def dlaw : He.DefD := ⟨("law", none), "law", "law", defArgs slaw, defBody slaw, defScope slaw, [], []⟩
def fn : List He.DefD := [d_wall, dNoNumber___init__, dis_whole, dis_from, dClock___init__, dClock_look_at_off, dClock_tick, dClock_put_off, dClock_skew, dClock_off, dClock_true, dClock_shows, dClock_is_past, dClock_is_ahead, dClock_twin, d_law_pool, d_law_take, d_law_one, d_law_right, dlaw]
def fa : List He.Fa := [.glo "_wall", .glo "is_whole", .glo "is_from", .glo "_law_pool", .glo "_law_take", .glo "_law_one", .glo "_law_right", .glo "law", .glo "LeaseError", .glo "NoNumber", .glo "Clock", .cls "Clock", .mkr "Clock", .meth "Clock" "look_at_off", .meth "Clock" "tick", .meth "Clock" "put_off", .meth "Clock" "skew", .meth "Clock" "off", .meth "Clock" "true", .meth "Clock" "shows", .meth "Clock" "is_past", .meth "Clock" "is_ahead", .meth "Clock" "twin", .noat "Clock" "own_off", .noat "Clock" "own_skew", .noat "Clock" "own_true", .int "SKEW" 2, .int "MOST_SKEW" 10, .int "MOST_TICKS" 1000, .free "ValueError", .free "bool", .free "int", .free "isinstance", .free "len", .free "max", .free "min", .free "range"]
abbrev R : PySem.W.OpenRow := PySem.W.OpenLaw.row PySem.Challenge.rw_appendlease_k07_whole_surely_past_is_nev
abbrev hk : PySem.W.Hook := He.hookD 6 fa fn
def ob (s : PySem.W.SharedT) : He.AlD := He.obsDG 6 fa fn (HandSHeadRun.getT s)
theorem ob_eq (s : PySem.W.SharedT) : ob s = hk.obs s.abs := He.obsDG_eq (HandSHeadRun.getT_eq s)
def loose0 : List Str := ["_wall", "__name__", "LeaseError", "NoNumber", "is_whole", "is_from", "SKEW", "MOST_SKEW", "MOST_TICKS", "Clock", "_law_pool", "_law_take", "_law_one", "_law_right"]
abbrev loose : List Str := loose0
abbrev qv : Program := PySem.W.view R.prog [17]
theorem run (w : World) : HandSHeadRun.RunEq R qv hk ob 6000 loose w := by
  intro os
  kernel_rfl
/-! ### common words over the hand layer -/
section
variable {X : Cx}
/-- == and != of a list (whatever its items are) and an empty one -/
def rEqLen (K : PySem.W.Frag) : R2 := fun x y H Q => ∃ a b xs, x = .ref a ∧ y = .ref b ∧ SqL K H a xs ∧ SqL K H b [] ∧ Q (.bl xs.isEmpty) H
def rNeLen (K : PySem.W.Frag) : R2 := fun x y H Q => ∃ a b xs, x = .ref a ∧ y = .ref b ∧ SqL K H a xs ∧ SqL K H b [] ∧ Q (.bl (!xs.isEmpty)) H
theorem isl_of {h : Heap} {a : Addr} {its : Array Value} (p : PlainL h a its) : h.IsList a its := by
  obtain ⟨o, n, e, c, _, d⟩ := p
  exact ⟨o, e, c, n, d⟩
theorem op_eqLen (hu : X.A.units + 1 < cLine) : OpR X (compareOp .Eq) (rEqLen X.K) := by
  intro pins s σ H x y v u Q I rx ry h
  obtain ⟨a, b, xs, rfl, rfl, h1, h2, q⟩ := h
  cases rx
  cases ry
  obtain ⟨i1, r1, p1, _⟩ := I.list h1
  obtain ⟨i2, r2, p2, _⟩ := I.list h2
  have hu' : X.A.units < cLine := by omega
  cases r2
  cases xs with
  | nil =>
    cases r1
    refine SeqAt.eq_listAt (e := fun _ => true) (isl_of p1) (isl_of p2) rfl hu' (fun j h1 => absurd h1 (by simp)) ?_
    exact ⟨.bl true, H, I, rfl, q⟩
  | cons z zs =>
    cases r1 with
    | cons r t =>
      refine SeqAt.eq_list_lengthsAt (isl_of p1) (isl_of p2) (by simp) hu' ?_
      exact ⟨.bl false, H, I, rfl, q⟩
theorem op_neLen (hu : X.A.units + 1 < cLine) : OpR X (compareOp .NotEq) (rNeLen X.K) := by
  intro pins s σ H x y v u Q I rx ry h
  obtain ⟨a, b, xs, rfl, rfl, h1, h2, q⟩ := h
  cases rx
  cases ry
  obtain ⟨i1, r1, p1, _⟩ := I.list h1
  obtain ⟨i2, r2, p2, _⟩ := I.list h2
  have hu' : X.A.units < cLine := by omega
  cases r2
  cases xs with
  | nil =>
    cases r1
    refine SeqAt.RcNeAt.lists (e := fun _ => true) (isl_of p1) (isl_of p2) rfl hu' (fun j h1 => absurd h1 (by simp)) _ _ _ _ ?_
    exact ⟨.bl false, H, I, rfl, q⟩
  | cons z zs =>
    cases r1 with
    | cons r t =>
      refine SeqAt.RcNeAt.lists_lengths (isl_of p1) (isl_of p2) (by simp) hu' _ _ _ _ ?_
      exact ⟨.bl true, H, I, rfl, q⟩
end
/-! ### rules whose readings name the written part by a letter: they may stand within comprehensions -/
section
variable {X : Cx} (K : PySem.W.Frag)
theorem pi_listK {tg l : Expr} {tl : TE} (hl : PE X l tl) (hK : X.K = K := by rfl) : PI X tg l (iList K tl) := hK ▸ pi_list hl
theorem pi_tupK {tg l : Expr} {tl : TE} (hl : PE X l tl) (hK : X.K = K := by rfl) : PI X tg l (iTup K tl) := hK ▸ pi_tup hl
theorem pe_fldK {e : Expr} {f : Str} {pos : Pos} {ta : TE} (he : PE X e ta) (hb : attributeBase e f X.env (eval e X.env) = eval e X.env) (hK : X.K = K := by rfl) : PE X (.Attribute e f pos) (tFld K ta f) := hK ▸ pe_fld he hb
theorem ix_listK (hK : X.K = K := by rfl) : IxR X (rIxL K) := hK ▸ ix_list
theorem ix_tupK (hK : X.K = K := by rfl) : IxR X (rIxT K) := hK ▸ ix_tup
theorem sl_listK (hK : X.K = K := by rfl) : SlR X (rSlL K) := hK ▸ sl_list
theorem op_eqDK (hu : X.A.units + 64 < cLine) (hK : X.K = K := by rfl) : OpR X (compareOp .Eq) (rEqD K) := hK ▸ op_eqD hu
theorem op_neDK (hu : X.A.units + 64 < cLine) (hK : X.K = K := by rfl) : OpR X (compareOp .NotEq) (rNeD K) := hK ▸ op_neD hu
theorem op_eqLenK (hu : X.A.units + 1 < cLine) (hK : X.K = K := by rfl) : OpR X (compareOp .Eq) (rEqLen K) := hK ▸ op_eqLen hu
theorem op_neLenK (hu : X.A.units + 1 < cLine) (hK : X.K = K := by rfl) : OpR X (compareOp .NotEq) (rNeLen K) := hK ▸ op_neLen hu
theorem call_lenK (hK : X.K = K := by rfl) : CallR X (.builtin "len") (fun xs H Q => ∃ p ys, xs = [.ref p] ∧ (SqL K H p ys ∨ SqT K H p ys) ∧ Q (.int ys.length) H) := hK ▸ call_len_seq
theorem call_isiK' (hK : X.K = K := by rfl) : CallR X (.builtin "isinstance") (rIsi K) := hK ▸ call_isi
end
section
variable (P : Program) (w : World) (K : PySem.W.Frag) (mg : Str → Option Value) (base : Heap)
/-- a def of the module keeps a promise -/
def Df (k : Nat) (x : Str) (ps : List Str) (sp : Sp) : Prop := ∃ (f : Addr) (fd : FuncData), mg x = some (.ref f) ∧ PySem.W.keepIn K (.ref f) = true ∧ Binds K fd ps [] ∧ FnOk P w K mg base CX0 k f fd ps sp
/-- a method of the class at C keeps a promise -/
def Dm (C : Addr) (k : Nat) (m : Str) (ps : List Str) (sp : Sp) : Prop := ∃ (f : Addr) (fd : FuncData), Meth K C m f ∧ Binds K fd ps [] ∧ FnOk P w K mg base CX0 k f fd ps sp
end
/-! ### heaps -/
theorem Same.new {H : Hp} {p : Addr} {o : HO} (h : H p = none) : Same H (upd H p o) := fun b u e => by
  rw [upd_ne (ne_of_none e h)]
  exact e
/-- what H does not track may change -/
theorem Same.mut {H H' : Hp} {p : Addr} {o : HO} (e : Same H H') (h : H p = none) : Same H (upd H' p o) := fun b u hb => by
  rw [upd_ne (ne_of_none hb h)]
  exact e b u hb
/-- what stands beside what is changed -/
theorem same_at {H H' : Hp} {p b : Addr} {o u : HO} (s : Same (upd H p o) H') (e : H b = some u) (ne : b ≠ p) : H' b = some u := s b u (by rw [upd_ne ne]; exact e)
theorem same_here {H H' : Hp} {p : Addr} {o : HO} (s : Same (upd H p o) H') : H' p = some o := s p o upd_same
theorem same_upd2 {H H' : Hp} {p : Addr} {o u : HO} (s : Same (upd H p o) H') : Same (upd H p u) (upd H' p u) := fun b v e => by
  by_cases hb : b = p
  · subst hb
    rw [upd_same] at e ⊢
    exact e
  · rw [upd_ne hb] at e ⊢
    exact s b v (by rw [upd_ne hb]; exact e)
theorem same_sql {K : PySem.W.Frag} {H H' : Hp} {a : Addr} {xs : List V} (e : Same H H') (h : SqL K H a xs) : SqL K H' a xs := e.seq h
/-- [g x for x in xs if f x]: tests and elements may lay new things, and change none -/
theorem lc_mapf {K : PySem.W.Frag} {a : Addr} {xs : List V} {j : Nat} {tt : TT} {te : TE} {vs : List Nat} {σ : L2.St} {H1 : Hp} {D : Addr} {Qd : Hp → Prop} (f : V → Bool) (g : V → V) (hx : SqL K H1 a xs) (hD : H1 D = none) (hz : xs.length ≤ 100000)
    (hw : ∀ x, wipe ((wipe σ vs).set j (some x)) vs = wipe σ vs)
    (ht : ∀ x H', x ∈ xs → Same H1 H' → ∀ Q : Bool → Hp → Prop, (∀ H'', Same H' H'' → Q (f x) H'') → tt ((wipe σ vs).set j (some x)) H' Q)
    (he : ∀ x H', x ∈ xs → f x = true → Same H1 H' → ∀ Q : VK, (∀ H'', Same H' H'' → Q (g x) H'') → te ((wipe σ vs).set j (some x)) H' Q)
    (hd : ∀ H', Same H1 H' → H' D = some (.lst ((xs.filter f).map g)) → Qd H') :
    ∃ W : Nat → Nat → Hp → Prop, (∃ m, W 0 m (upd H1 D (.lst []))) ∧ ∀ i m H, W i m H →
      ((Itl K a).stop i H ∧ Qd H) ∨ ((Itl K a).go i H ∧ ∃ Nx : Hp → Prop, (∀ H', Nx H' → ∃ m', m' < m ∧ W (i + 1) m' H') ∧ ∀ x H', (Itl K a).yld i H x H' → gName j x (wipe σ vs) H' fun σ2 H2 => wipe σ2 vs = wipe σ vs ∧ tt σ2 H2 fun b H3 =>
        if b = true then te σ2 H3 fun y H4 => ∃ acc, H4 D = some (.lst acc) ∧ acc.length < sizeLine ∧ Nx (upd H4 D (.lst (acc ++ [y]))) else Nx H3) := by
  have tk : ∀ (i : Nat) (x : V), xs[i]? = some x → xs.take (i + 1) = xs.take i ++ [x] := fun i x h => by
    rw [List.take_add_one, h]
    rfl
  refine lc_list (xs := xs) (fun i H' => Same H1 H' ∧ H' D = some (.lst (((xs.take i).filter f).map g))) ⟨Same.new hD, upd_same⟩ (fun i H' _ p => p.1.seq hx) (fun i x H' hi p => ?_) (fun H' p => ?_)
  · obtain ⟨p1, p2⟩ := p
    have hm : x ∈ xs := List.mem_of_getElem? hi
    have hlen : i < xs.length := (List.getElem?_eq_some_iff.mp hi).1
    refine ⟨hw x, ht x H' hm p1 _ fun H3 s3 => ?_⟩
    cases hf : f x with
    | true =>
      show te _ H3 _
      refine he x H3 hm hf (p1.trans s3) _ fun H4 s4 => ⟨_, s4 _ _ (s3 _ _ p2), ?_, Same.mut ((p1.trans s3).trans s4) hD, ?_⟩
      · have h1 := List.length_filter_le f (xs.take i)
        rw [List.length_take] at h1
        rw [List.length_map]
        exact Nat.lt_of_le_of_lt (show _ ≤ 100000 by omega) (by decide)
      · rw [upd_same, tk i x hi, List.filter_append, List.map_append, List.filter_cons, if_pos hf]
        rfl
    | false =>
      refine ⟨p1.trans s3, ?_⟩
      rw [s3 _ _ p2, tk i x hi, List.filter_append, List.map_append, List.filter_cons, if_neg (by rw [hf]; decide)]
      simp
  · obtain ⟨p1, p2⟩ := p
    rw [List.take_length] at p2
    exact hd H' p1 p2
theorem rv_neLen {K : PySem.W.Frag} {H : Hp} {a p : Addr} {xs : List V} (h : SqL K H a xs) (hp : H p = some (.lst [])) : Evl.RV (rNeLen K) (.ref a) (.ref p) H (.bl (!xs.isEmpty)) := fun H1 e _ q => ⟨a, p, xs, rfl, rfl, Evl.ex_l e h, SqL.of (e _ _ hp), q H1 (Evl.Ex.refl H1)⟩
theorem rv_eqLen {K : PySem.W.Frag} {H : Hp} {a p : Addr} {xs : List V} (h : SqL K H a xs) (hp : H p = some (.lst [])) : Evl.RV (rEqLen K) (.ref a) (.ref p) H (.bl xs.isEmpty) := fun H1 e _ q => ⟨a, p, xs, rfl, rfl, Evl.ex_l e h, SqL.of (e _ _ hp), q H1 (Evl.Ex.refl H1)⟩
/-- x != [], x == [] -/
theorem et_neNil {K : PySem.W.Frag} {σ : L2.St} {H : Hp} {ta : TE} {a : Addr} {xs : List V} (ha : Evl.Ev ta σ H (.ref a)) (h : SqL K H a xs) : Evl.EvT (tTest (tOp (rNeLen K) ta (tLst tNil))) σ H (!xs.isEmpty) :=
  Evl.et_test (Evl.ev_opL ha (Evl.el_lst Evl.ea_nil (by show 0 ≤ 100000; decide)) fun _ _ hp e => rv_neLen (Evl.ex_l e h) hp)
section
variable (P : Program) (w : World) (K : PySem.W.Frag) (mg : Str → Option Value) (base : Heap)
/-- the class x at C is made by keywords ks: __init__ keeps a promise -/
def Dk (C : Addr) (k : Nat) (x : Str) (ps : List Str) (n : Nat) (ks : List Str) (gV : List V → List V → List V) (sp : Sp) : Prop := ∃ (f : Addr) (fd : FuncData) (g : List Value → List Value → List Value), Mk K C f ∧ mg x = some (.ref C) ∧ KBn K fd ps n ks g gV ∧ FnOk P w K mg base CX0 k f fd ps sp
end
theorem binds_nil {K : PySem.W.Frag} {fd : FuncData} {ps : List Str} (h : ∃ ds, Vals [] ds ∧ Binds K fd ps ds) : Binds K fd ps [] := by
  obtain ⟨ds, h1, h2⟩ := h
  cases h1
  exact h2

/-! ### is_whole, is_from -/
def spWholeI : Sp := fun vs H Q _ => ∃ x : Int, vs = [.int x] ∧ Q (.bl true) H
def spFromI : Sp := fun vs H Q _ => ∃ x l m : Int, vs = [.int x, .int l, .int m] ∧ Q (.bl (decide (l ≤ x) && decide (x ≤ m))) H
section
variable {P : Program} {w : World} {K : PySem.W.Frag} {mg : Str → Option Value} {base : Heap}
theorem scis_whole : FnScope nis_whole pis_whole (defScope sis_whole) := ⟨rfl, rfl, rfl, by decide +kernel, rfl, by decide +kernel, by decide +kernel⟩
theorem ok_is_whole (m_isinstance : mg "isinstance" = none) (m_int : mg "int" = none) (m_bool : mg "bool" = none) {f : Addr} {fd : FuncData} (F : FunD K "is_whole" "is_whole" (defArgs sis_whole) (defBody sis_whole) (defScope sis_whole) [] [] f fd) : FnOk P w K mg base CX0 1 f fd pis_whole spWholeI := by
  refine F.ok scis_whole (fun vs H Q E h => ?_) (fun cdv A outer s H vs Q E hr h => ?_)
  · obtain ⟨x, rfl, _⟩ := h
    rfl
  · obtain ⟨x, rfl, k⟩ := h
    refine ⟨_, PSs.nox (pss_one (ps_ret (pe_and (pe_callB (call_isiK' K) (by rfl) m_isinstance (by decide +kernel) (pa_cons (pv 0) (pa_cons (pe_bltn (v := .ty "int") (u := .type "int") (by rfl) m_int (by decide +kernel) rfl) pa_nil))) (pe_one (pe_not (pe_callB (call_isiK' K) (by rfl) m_isinstance (by decide +kernel) (pa_cons (pv 0) (pa_cons (pe_bltn (v := .ty "bool") (u := .type "bool") (by rfl) m_bool (by decide +kernel) rfl) pa_nil)))))))), ?_⟩
    refine ⟨_, rfl, _, _, _, _, true, rfl, .ty _, .base (.int _), kit_ty (by decide +kernel), true, rfl, iteT ?_⟩
    refine ⟨_, rfl, _, _, _, _, false, rfl, .ty _, .base (.int _), kit_ty (by decide +kernel), false, rfl, ?_⟩
    exact k
theorem scis_from : FnScope nis_from pis_from (defScope sis_from) := ⟨rfl, rfl, rfl, by decide +kernel, rfl, by decide +kernel, by decide +kernel⟩
theorem ok_is_from (D_is_whole : Df P w K mg base 1 "is_whole" pis_whole spWholeI) {f : Addr} {fd : FuncData} (F : FunD K "is_from" "is_from" (defArgs sis_from) (defBody sis_from) (defScope sis_from) [.non] [] f fd) : FnOk P w K mg base CX0 2 f fd pis_from spFromI := by
  obtain ⟨f_is_whole, fd_is_whole, m_is_whole, k_is_whole, b_is_whole, G_is_whole⟩ := D_is_whole
  refine F.ok scis_from (fun vs H Q E h => ?_) (fun cdv A outer s H vs Q E hr h => ?_)
  · obtain ⟨x, l, m, rfl, _⟩ := h
    rfl
  · obtain ⟨x, l, m, rfl, k⟩ := h
    refine ⟨_, PSs.nox (pss_one (ps_ret (pe_and (pe_call G_is_whole (by exact hr.mono (by decide)) rfl m_is_whole k_is_whole b_is_whole .nil pass0 (pa_cons (pv 0) pa_nil)) (pe_and (pe_cmpR op_ge (pv 0) (pv 1) (nomark _)) (pe_one (pe_or (pe_cmpR op_isN (pv 2) pe_non (nomark _)) (pe_one (pe_cmpR op_le (pv 0) (pv 2) (nomark _))))))))), ?_⟩
    refine ⟨_, rfl, x, rfl, true, rfl, iteT ?_⟩
    refine ⟨_, rfl, _, rfl, _, _, rfl, rfl, _, rfl, ?_⟩
    by_cases h1 : l ≤ x
    · rw [decide_eq_true h1] at k ⊢
      refine iteT ⟨_, rfl, rfl, false, rfl, iteF ⟨_, rfl, _, rfl, _, _, rfl, rfl, ?_⟩⟩
      exact k
    · rw [decide_eq_false h1] at k ⊢
      exact iteF k
end

/-! ### a Clock -/
def ck (s t o : Int) : List (Str × V) := [("own_skew", .int s), ("own_true", .int t), ("own_off", .int o)]
theorem ck_skew (s t o : Int) : (ck s t o).lookup ("own_skew" : Str) = some (.int s) := rfl
theorem ck_true (s t o : Int) : (ck s t o).lookup ("own_true" : Str) = some (.int t) := rfl
theorem ck_off (s t o : Int) : (ck s t o).lookup ("own_off" : Str) = some (.int o) := rfl
theorem ck_putT (s t o n : Int) : putF "own_true" (.int n) (ck s t o) = ck s n o := rfl
theorem ck_putO (s t o n : Int) : putF "own_off" (.int n) (ck s t o) = ck s t n := rfl
structure ClockTx (K : PySem.W.Frag) (mg : Str → Option Value) (C : Addr) : Prop where
  c : Cls K C
  nS : NoAttr K C "own_skew"
  nT : NoAttr K C "own_true"
  nO : NoAttr K C "own_off"
  mSkew : ∃ t, mg "MOST_SKEW" = some (.int 10 t)
  mTicks : ∃ t, mg "MOST_TICKS" = some (.int 1000 t)
def spLook (C : Addr) : Sp := fun vs H Q _ => ∃ (p dx : Addr) (x : Str) (b s : Int) (fs : List (Str × V)), vs = [.ref p, .str x, .int b] ∧ H p = some (.ins C dx fs) ∧ fs.lookup ("own_skew" : Str) = some (.int s) ∧ -s ≤ b ∧ b ≤ s ∧ Q .non H
def spInit (C : Addr) : Sp := fun vs H Q _ => ∃ (p dx : Addr) (s o : Int), vs = [.ref p, .int s, .int o] ∧ H p = some (.ins C dx []) ∧ 0 ≤ s ∧ s ≤ 10 ∧ -s ≤ o ∧ o ≤ s ∧ Q .non (upd H p (.ins C dx (ck s 0 o)))
def spTick (C : Addr) : Sp := fun vs H Q _ => ∃ (p dx : Addr) (s t o n : Int), vs = [.ref p, .int n] ∧ H p = some (.ins C dx (ck s t o)) ∧ 0 ≤ n ∧ n ≤ 1000 ∧ Q .non (upd H p (.ins C dx (ck s (t + n) o)))
def spPutOff (C : Addr) : Sp := fun vs H Q _ => ∃ (p dx : Addr) (s t o n : Int), vs = [.ref p, .int n] ∧ H p = some (.ins C dx (ck s t o)) ∧ -s ≤ n ∧ n ≤ s ∧ Q .non (upd H p (.ins C dx (ck s t n)))
def spGet (C : Addr) (g : Int → Int → Int → Int) : Sp := fun vs H Q _ => ∃ (p dx : Addr) (s t o : Int), vs = [.ref p] ∧ H p = some (.ins C dx (ck s t o)) ∧ Q (.int (g s t o)) H
def spPast (C : Addr) : Sp := fun vs H Q _ => ∃ (p dx : Addr) (s t o x : Int), vs = [.ref p, .int x] ∧ H p = some (.ins C dx (ck s t o)) ∧ Q (.bl (decide (x ≤ t + o - s))) H
def spAhead (C : Addr) : Sp := fun vs H Q _ => ∃ (p dx : Addr) (s t o x : Int), vs = [.ref p, .int x] ∧ H p = some (.ins C dx (ck s t o)) ∧ Q (.bl (decide (t + o + s < x))) H
section
variable {P : Program} {w : World} {K : PySem.W.Frag} {mg : Str → Option Value} {base : Heap} {C : Addr}
theorem scClock_look_at_off : FnScope nClock_look_at_off pClock_look_at_off (defScope sClock_look_at_off) := ⟨rfl, rfl, rfl, by decide +kernel, rfl, by decide +kernel, by decide +kernel⟩
theorem ok_look (T : ClockTx K mg C) (D_is_whole : Df P w K mg base 1 "is_whole" pis_whole spWholeI) {f : Addr} {fd : FuncData} (F : FunD K "look_at_off" "Clock.look_at_off" (defArgs sClock_look_at_off) (defBody sClock_look_at_off) (defScope sClock_look_at_off) [] [] f fd) : FnOk P w K mg base CX0 2 f fd pClock_look_at_off (spLook C) := by
  obtain ⟨f_is_whole, fd_is_whole, m_is_whole, k_is_whole, b_is_whole, G_is_whole⟩ := D_is_whole
  refine F.ok scClock_look_at_off (fun vs H Q E h => ?_) (fun cdv A outer s H vs Q E hr h => ?_)
  · obtain ⟨p, dx, x, b, s, fs, rfl, _⟩ := h
    rfl
  · obtain ⟨p, dx, x, b, s, fs, rfl, hp, hs, h1, h2, k⟩ := h
    refine ⟨_, PSs.nox (pss_one (ps_if (PW.pt (pw_or (pt_not (pt_val (pe_call G_is_whole (by exact hr.mono (by decide)) rfl m_is_whole k_is_whole b_is_whole .nil pass0 (pa_cons (pv 2) pa_nil)))) (pw_or1 (pt_not (pt_chain op_le op_le (pe_un un_neg (pe_fldK K (pv 0) rfl)) (pv 2) (pe_fldK K (pv 0) rfl)))))) (pss_one ps_never) pss_nil)), ?_⟩
    refine ⟨_, rfl, b, rfl, true, rfl, iteF ?_⟩
    refine ⟨_, rfl, p, C, dx, fs, _, rfl, hp, T.c, T.nS, hs, _, rfl, _, rfl, _, _, rfl, rfl, true, ?_, ?_⟩
    · exact congrArg V.bl (decide_eq_true h1)
    refine iteT ⟨_, rfl, p, C, dx, fs, _, rfl, hp, T.c, T.nS, hs, _, _, rfl, rfl, true, ?_, iteF k⟩
    exact congrArg V.bl (decide_eq_true h2)
theorem scClock___init__ : FnScope nClock___init__ pClock___init__ (defScope sClock___init__) := ⟨rfl, rfl, rfl, by decide +kernel, rfl, by decide +kernel, by decide +kernel⟩
theorem ok_init (T : ClockTx K mg C) (D_is_from : Df P w K mg base 2 "is_from" pis_from spFromI) (D_look_at_off : Dm P w K mg base C 2 "look_at_off" pClock_look_at_off (spLook C)) {f : Addr} {fd : FuncData} (F : FunD K "__init__" "Clock.__init__" (defArgs sClock___init__) (defBody sClock___init__) (defScope sClock___init__) [] [("skew", (.int 2)), ("off", (.int 0))] f fd) : FnOk P w K mg base CX0 3 f fd pClock___init__ (spInit C) := by
  obtain ⟨f_is_from, fd_is_from, m_is_from, k_is_from, b_is_from, G_is_from⟩ := D_is_from
  obtain ⟨f_look_at_off, fd_look_at_off, me_look_at_off, b_look_at_off, G_look_at_off⟩ := D_look_at_off
  have c_Clock := T.c
  obtain ⟨tk, m_MOST_SKEW⟩ := T.mSkew
  refine F.ok scClock___init__ (fun vs H Q E h => ?_) (fun cdv A outer s H vs Q E hr h => ?_)
  · obtain ⟨p, dx, s, o, rfl, _⟩ := h
    rfl
  · obtain ⟨p, dx, s, o, rfl, hp, h1, h2, h3, h4, k⟩ := h
    refine ⟨_, PSs.nox (pss_cons (ps_if (pt_not (pt_val (pe_call G_is_from (by exact hr.mono (by decide)) rfl m_is_from k_is_from b_is_from .nil pass0 (pa_cons (pv 1) (pa_cons pe_int (pa_cons (pe_glob (v := (.int 10)) rfl m_MOST_SKEW ⟨_, rfl⟩) pa_nil)))))) (pss_one ps_never) pss_nil) (pss_cons (ps_fld (pv 0) (pv 1) rfl) (pss_cons (ps_fld (pv 0) pe_int rfl) (pss_cons (ps_expr (pe_meth (pv 0) c_Clock me_look_at_off G_look_at_off (by exact hr.mono (by decide)) b_look_at_off .nil pass0 (pa_cons pe_str (pa_cons (pv 2) pa_nil)))) (pss_one (ps_fld (pv 0) (pv 2) rfl)))))), ?_⟩
    refine ⟨_, rfl, s, 0, 10, rfl, true, ?_, iteF ?_⟩
    · exact congrArg V.bl (by rw [decide_eq_true h1, decide_eq_true h2]; rfl)
    refine ⟨_, rfl, _, rfl, p, C, dx, [], rfl, hp, T.c, T.nS, (by show 0 < 1000; decide), ?_⟩
    refine ⟨_, rfl, p, C, dx, _, rfl, upd_same, T.c, T.nT, (by show 1 < 1000; decide), ?_⟩
    refine ⟨_, rfl, p, dx, _, rfl, upd_same, rfl, _, rfl, p, dx, _, o, s, _, rfl, upd_same, rfl, h3, h4, ?_⟩
    refine ⟨_, rfl, _, rfl, p, C, dx, _, rfl, upd_same, T.c, T.nO, (by show 2 < 1000; decide), ?_⟩
    show Q .non _
    rw [upd_upd, upd_upd]
    exact k
theorem scClock_tick : FnScope nClock_tick pClock_tick (defScope sClock_tick) := ⟨rfl, rfl, rfl, by decide +kernel, rfl, by decide +kernel, by decide +kernel⟩
theorem ok_tick (T : ClockTx K mg C) (D_is_from : Df P w K mg base 2 "is_from" pis_from spFromI) {f : Addr} {fd : FuncData} (F : FunD K "tick" "Clock.tick" (defArgs sClock_tick) (defBody sClock_tick) (defScope sClock_tick) [(.int 1)] [] f fd) : FnOk P w K mg base CX0 3 f fd pClock_tick (spTick C) := by
  obtain ⟨f_is_from, fd_is_from, m_is_from, k_is_from, b_is_from, G_is_from⟩ := D_is_from
  obtain ⟨tk, m_MOST_TICKS⟩ := T.mTicks
  refine F.ok scClock_tick (fun vs H Q E h => ?_) (fun cdv A outer s H vs Q E hr h => ?_)
  · obtain ⟨p, dx, s, t, o, n, rfl, _⟩ := h
    rfl
  · obtain ⟨p, dx, s, t, o, n, rfl, hp, h1, h2, k⟩ := h
    refine ⟨_, PSs.nox (pss_cons (ps_if (pt_not (pt_val (pe_call G_is_from (by exact hr.mono (by decide)) rfl m_is_from k_is_from b_is_from .nil pass0 (pa_cons (pv 1) (pa_cons pe_int (pa_cons (pe_glob (v := (.int 1000)) rfl m_MOST_TICKS ⟨_, rfl⟩) pa_nil)))))) (pss_one ps_never) pss_nil) (pss_one (ps_fldaug (pv 0) (pv 1) in_add))), ?_⟩
    refine ⟨_, rfl, n, 0, 1000, rfl, true, ?_, iteF ?_⟩
    · exact congrArg V.bl (by rw [decide_eq_true h1, decide_eq_true h2]; rfl)
    refine ⟨_, rfl, p, C, dx, _, _, rfl, hp, T.c, T.nT, ck_true _ _ _, _, rfl, _, _, rfl, rfl, _, _, hp, (by show 3 < 1000; decide), ?_⟩
    exact k
theorem scClock_put_off : FnScope nClock_put_off pClock_put_off (defScope sClock_put_off) := ⟨rfl, rfl, rfl, by decide +kernel, rfl, by decide +kernel, by decide +kernel⟩
theorem ok_put_off (T : ClockTx K mg C) (D_look_at_off : Dm P w K mg base C 2 "look_at_off" pClock_look_at_off (spLook C)) {f : Addr} {fd : FuncData} (F : FunD K "put_off" "Clock.put_off" (defArgs sClock_put_off) (defBody sClock_put_off) (defScope sClock_put_off) [] [] f fd) : FnOk P w K mg base CX0 3 f fd pClock_put_off (spPutOff C) := by
  obtain ⟨f_look_at_off, fd_look_at_off, me_look_at_off, b_look_at_off, G_look_at_off⟩ := D_look_at_off
  have c_Clock := T.c
  refine F.ok scClock_put_off (fun vs H Q E h => ?_) (fun cdv A outer s H vs Q E hr h => ?_)
  · obtain ⟨p, dx, s, t, o, n, rfl, _⟩ := h
    rfl
  · obtain ⟨p, dx, s, t, o, n, rfl, hp, h1, h2, k⟩ := h
    refine ⟨_, PSs.nox (pss_cons (ps_expr (pe_meth (pv 0) c_Clock me_look_at_off G_look_at_off (by exact hr.mono (by decide)) b_look_at_off .nil pass0 (pa_cons pe_str (pa_cons (pv 1) pa_nil)))) (pss_one (ps_fld (pv 0) (pv 1) rfl))), ?_⟩
    refine ⟨_, rfl, p, dx, _, rfl, hp, rfl, _, rfl, p, dx, _, n, s, _, rfl, hp, ck_skew _ _ _, h1, h2, ?_⟩
    refine ⟨_, rfl, _, rfl, p, C, dx, _, rfl, hp, T.c, T.nO, (by show 3 < 1000; decide), ?_⟩
    exact k
theorem scClock_true : FnScope nClock_true pClock_true (defScope sClock_true) := ⟨rfl, rfl, rfl, by decide +kernel, rfl, by decide +kernel, by decide +kernel⟩
theorem ok_true (T : ClockTx K mg C) {f : Addr} {fd : FuncData} (F : FunD K "true" "Clock.true" (defArgs sClock_true) (defBody sClock_true) (defScope sClock_true) [] [] f fd) : FnOk P w K mg base CX0 1 f fd pClock_true (spGet C fun _ t _ => t) := by
  refine F.ok scClock_true (fun vs H Q E h => ?_) (fun cdv A outer s H vs Q E hr h => ?_)
  · obtain ⟨p, dx, s, t, o, rfl, _⟩ := h
    rfl
  · obtain ⟨p, dx, s, t, o, rfl, hp, k⟩ := h
    refine ⟨_, PSs.nox (pss_one (ps_ret (pe_fldK K (pv 0) rfl))), ?_⟩
    exact ⟨_, rfl, p, C, dx, _, _, rfl, hp, T.c, T.nT, ck_true _ _ _, k⟩
theorem scClock_shows : FnScope nClock_shows pClock_shows (defScope sClock_shows) := ⟨rfl, rfl, rfl, by decide +kernel, rfl, by decide +kernel, by decide +kernel⟩
theorem ok_shows (T : ClockTx K mg C) {f : Addr} {fd : FuncData} (F : FunD K "shows" "Clock.shows" (defArgs sClock_shows) (defBody sClock_shows) (defScope sClock_shows) [] [] f fd) : FnOk P w K mg base CX0 1 f fd pClock_shows (spGet C fun _ t o => t + o) := by
  refine F.ok scClock_shows (fun vs H Q E h => ?_) (fun cdv A outer s H vs Q E hr h => ?_)
  · obtain ⟨p, dx, s, t, o, rfl, _⟩ := h
    rfl
  · obtain ⟨p, dx, s, t, o, rfl, hp, k⟩ := h
    refine ⟨_, PSs.nox (pss_one (ps_ret (pe_op op_add (pe_fldK K (pv 0) rfl) (pe_fldK K (pv 0) rfl)))), ?_⟩
    exact ⟨_, rfl, p, C, dx, _, _, rfl, hp, T.c, T.nT, ck_true _ _ _, _, rfl, p, C, dx, _, _, rfl, hp, T.c, T.nO, ck_off _ _ _, _, _, rfl, rfl, k⟩
theorem scClock_is_past : FnScope nClock_is_past pClock_is_past (defScope sClock_is_past) := ⟨rfl, rfl, rfl, by decide +kernel, rfl, by decide +kernel, by decide +kernel⟩
theorem ok_is_past (T : ClockTx K mg C) (D_shows : Dm P w K mg base C 1 "shows" pClock_shows (spGet C fun _ t o => t + o)) {f : Addr} {fd : FuncData} (F : FunD K "is_past" "Clock.is_past" (defArgs sClock_is_past) (defBody sClock_is_past) (defScope sClock_is_past) [] [] f fd) : FnOk P w K mg base CX0 2 f fd pClock_is_past (spPast C) := by
  obtain ⟨f_shows, fd_shows, me_shows, b_shows, G_shows⟩ := D_shows
  have c_Clock := T.c
  refine F.ok scClock_is_past (fun vs H Q E h => ?_) (fun cdv A outer s H vs Q E hr h => ?_)
  · obtain ⟨p, dx, s, t, o, x, rfl, _⟩ := h
    rfl
  · obtain ⟨p, dx, s, t, o, x, rfl, hp, k⟩ := h
    refine ⟨_, PSs.nox (pss_one (ps_ret (pe_cmpR op_ge (pe_op op_sub (pe_meth0 (pv 0) c_Clock me_shows G_shows (by exact hr.mono (by decide)) b_shows .nil pass0) (pe_fldK K (pv 0) rfl)) (pv 1) (nomark _)))), ?_⟩
    exact ⟨_, rfl, p, dx, _, rfl, hp, rfl, p, dx, s, t, o, rfl, hp, _, rfl, p, C, dx, _, _, rfl, hp, T.c, T.nS, ck_skew _ _ _, _, _, rfl, rfl, _, rfl, _, _, rfl, rfl, k⟩
theorem scClock_is_ahead : FnScope nClock_is_ahead pClock_is_ahead (defScope sClock_is_ahead) := ⟨rfl, rfl, rfl, by decide +kernel, rfl, by decide +kernel, by decide +kernel⟩
theorem ok_is_ahead (T : ClockTx K mg C) (D_shows : Dm P w K mg base C 1 "shows" pClock_shows (spGet C fun _ t o => t + o)) {f : Addr} {fd : FuncData} (F : FunD K "is_ahead" "Clock.is_ahead" (defArgs sClock_is_ahead) (defBody sClock_is_ahead) (defScope sClock_is_ahead) [] [] f fd) : FnOk P w K mg base CX0 2 f fd pClock_is_ahead (spAhead C) := by
  obtain ⟨f_shows, fd_shows, me_shows, b_shows, G_shows⟩ := D_shows
  have c_Clock := T.c
  refine F.ok scClock_is_ahead (fun vs H Q E h => ?_) (fun cdv A outer s H vs Q E hr h => ?_)
  · obtain ⟨p, dx, s, t, o, x, rfl, _⟩ := h
    rfl
  · obtain ⟨p, dx, s, t, o, x, rfl, hp, k⟩ := h
    refine ⟨_, PSs.nox (pss_one (ps_ret (pe_cmpR op_lt (pe_op op_add (pe_meth0 (pv 0) c_Clock me_shows G_shows (by exact hr.mono (by decide)) b_shows .nil pass0) (pe_fldK K (pv 0) rfl)) (pv 1) (nomark _)))), ?_⟩
    exact ⟨_, rfl, p, dx, _, rfl, hp, rfl, p, dx, s, t, o, rfl, hp, _, rfl, p, C, dx, _, _, rfl, hp, T.c, T.nS, ck_skew _ _ _, _, _, rfl, rfl, _, rfl, _, _, rfl, rfl, k⟩
end

/-! ### draws: _law_pool, _law_take, _law_one -/
def PoolO (o : HO) : Prop := ∃ a b : Int, o = .lst [.int a, .int b]
def spPool (K : PySem.W.Frag) : Sp := fun vs H Q _ => ∃ (a : Addr) (ns : List Int) (k : Int), vs = [.ref a, .int k] ∧ SqL K H a (ns.map V.int) ∧ ns.length ≤ 63 ∧ 0 ≤ k ∧ k < 64 ∧
  ∀ (p : Addr) (H' : Hp) (o : HO), H p = none → PoolO o → Same H H' → H' p = some o → Q (.ref p) H'
def spTake : Sp := fun vs H Q _ => ∃ (p : Addr) (m : Int) (o : HO), vs = [.ref p, .int m] ∧ H p = some o ∧ PoolO o ∧ 0 < m ∧ m < 1073741824 ∧ ∀ (v : Int) (o' : HO), 0 ≤ v → v < m → PoolO o' → Q (.int v) (upd H p o')
def spOne (K : PySem.W.Frag) : Sp := fun vs H Q _ => ∃ (p q : Addr) (xs : List V) (o : HO), vs = [.ref p, .ref q] ∧ H p = some o ∧ PoolO o ∧ SqL K H q xs ∧ q ≠ p ∧ 0 < xs.length ∧ xs.length < 1000 ∧ ∀ (v : V) (o' : HO), v ∈ xs → PoolO o' → Q v (upd H p o')
theorem b01 (b : Bool) : -(2 ^ 64) < (if b = true then (1 : Int) else 0) ∧ (if b = true then (1 : Int) else 0) < 2 ^ 64 := by cases b <;> decide
theorem fmod_lt {x m : Int} (h : 0 < m) : 0 ≤ x.fmod m ∧ x.fmod m < m := by
  rw [Int.fmod_eq_emod_of_nonneg _ (Int.le_of_lt h)]
  exact ⟨Int.emod_nonneg _ (by omega), Int.emod_lt_of_pos _ h⟩
section
variable {P : Program} {w : World} {K : PySem.W.Frag} {mg : Str → Option Value} {base : Heap}
theorem sc_law_take : FnScope n_law_take p_law_take (defScope s_law_take) := ⟨rfl, rfl, rfl, by decide +kernel, rfl, by decide +kernel, by decide +kernel⟩
theorem ok_take {f : Addr} {fd : FuncData} (F : FunD K "_law_take" "_law_take" (defArgs s_law_take) (defBody s_law_take) (defScope s_law_take) [] [] f fd) : FnOk P w K mg base CX0 1 f fd p_law_take spTake := by
  refine F.ok sc_law_take (fun vs H Q E h => ?_) (fun cdv A outer s H vs Q E hr h => ?_)
  · obtain ⟨p, m, o, rfl, _⟩ := h
    rfl
  · obtain ⟨p, m, o, rfl, hp, ⟨a, b, rfl⟩, h1, h2, k⟩ := h
    refine ⟨_, PSs.nox (pss_cons (ps_if (pt_cmpR op_gt (pe_ix (ix_listK K) (pv 0) pe_int (fun _ _ => rfl)) pe_int (nomark _)) (pss_cons (ps_set (i := 2) sc_law_take.nd rfl (Or.inl rfl) (pe_op op_modN (pe_ix (ix_listK K) (pv 0) pe_int (fun _ _ => rfl)) (pv 1))) (pss_cons (ps_asg (pe_op op_fdivN (pe_ix (ix_listK K) (pv 0) pe_int (fun _ _ => rfl)) (pv 1)) (pg_sub (pv 0) pe_int set_list)) (pss_one (ps_ret (pv 2))))) pss_nil) (pss_cons (ps_asg (pe_op op_modN (pe_op op_add (pe_op op_mul (pe_ix (ix_listK K) (pv 0) pe_int (fun _ _ => rfl)) pe_int) pe_int) pe_int) (pg_sub (pv 0) pe_int set_list)) (pss_one (ps_ret (pe_op op_modN (pe_op op_fdivN (pe_op op_modN (pe_op op_mul (pe_ix (ix_listK K) (pv 0) pe_int (fun _ _ => rfl)) (pe_ix (ix_listK K) (pv 0) pe_int (fun _ _ => rfl))) pe_int) pe_int) (pv 1)))))), ?_⟩
    have hn : m ≠ 0 := by omega
    refine ⟨_, rfl, p, _, _, _, rfl, rfl, SqL.of hp, rfl, _, _, rfl, rfl, _, rfl, ?_⟩
    refine ite2 (fun hc => ?_) (fun hc => ?_)
    · refine ⟨_, rfl, p, _, _, _, rfl, rfl, SqL.of hp, rfl, _, rfl, _, _, rfl, rfl, hn, ?_⟩
      refine ⟨_, rfl, p, _, _, _, rfl, rfl, SqL.of hp, rfl, _, rfl, _, _, rfl, rfl, ⟨hn, by omega⟩, ?_⟩
      refine ⟨_, rfl, p, _, _, 0, rfl, rfl, hp, rfl, ?_⟩
      refine ⟨_, rfl, ?_⟩
      obtain ⟨q1, q2⟩ := fmod_lt (x := a) h1
      exact k _ _ q1 q2 ⟨_, _, rfl⟩
    · refine ⟨_, rfl, p, _, _, _, rfl, rfl, SqL.of hp, rfl, _, _, rfl, rfl, .inr ⟨by decide, by decide⟩, _, _, rfl, rfl, _, _, rfl, rfl, (show (2147483647 : Int) ≠ 0 by decide), ?_⟩
      refine ⟨_, rfl, p, _, _, 1, rfl, rfl, hp, rfl, ?_⟩
      have bb := fmod_lt (x := b * 69621 + 7) (m := 2147483647) (by decide)
      have hp' : ∀ z : HO, upd H p z p = some z := fun z => upd_same
      refine ⟨_, rfl, p, _, _, _, rfl, rfl, SqL.of upd_same, rfl, _, rfl, p, _, _, _, rfl, rfl, SqL.of upd_same, rfl, _, _, rfl, rfl, .inl ⟨by omega, by omega⟩, _, _, rfl, rfl, (show (2147483629 : Int) ≠ 0 by decide), _, _, rfl, rfl, ⟨by decide, by decide⟩, _, rfl, _, _, rfl, rfl, hn, ?_⟩
      obtain ⟨q1, q2⟩ := fmod_lt (x := (((b * 69621 + 7).fmod 2147483647 * (b * 69621 + 7).fmod 2147483647).fmod 2147483629).fdiv 32) h1
      exact k _ _ q1 q2 ⟨_, _, rfl⟩
theorem sc_law_one : FnScope n_law_one p_law_one (defScope s_law_one) := ⟨rfl, rfl, rfl, by decide +kernel, rfl, by decide +kernel, by decide +kernel⟩
theorem sql_upd {H : Hp} {a p : Addr} {o : HO} {xs : List V} (h : SqL K H a xs) (ne : a ≠ p) : SqL K (upd H p o) a xs := by
  rcases h with (h | ⟨u, h⟩) | h
  · exact .inl (.inl (by rw [upd_ne ne]; exact h))
  · exact .inl (.inr ⟨u, by rw [upd_ne ne]; exact h⟩)
  · exact .inr h
theorem ok_one (m_len : mg "len" = none) (D__law_take : Df P w K mg base 1 "_law_take" p_law_take spTake) {f : Addr} {fd : FuncData} (F : FunD K "_law_one" "_law_one" (defArgs s_law_one) (defBody s_law_one) (defScope s_law_one) [] [] f fd) : FnOk P w K mg base CX0 2 f fd p_law_one (spOne K) := by
  obtain ⟨f__law_take, fd__law_take, m__law_take, k__law_take, b__law_take, G__law_take⟩ := D__law_take
  refine F.ok sc_law_one (fun vs H Q E h => ?_) (fun cdv A outer s H vs Q E hr h => ?_)
  · obtain ⟨p, q, xs, o, rfl, _⟩ := h
    rfl
  · obtain ⟨p, q, xs, o, rfl, hp, ho, hq, ne, l0, l1, k⟩ := h
    refine ⟨_, PSs.nox (pss_one (ps_ret (pe_ix (ix_listK K) (pv 1) (pe_call G__law_take (by exact hr.mono (by decide)) rfl m__law_take k__law_take b__law_take .nil pass0 (pa_cons (pv 0) (pa_cons (pe_callB (call_lenK K) (by rfl) m_len PySem.boot_len (pa_cons (pv 1) pa_nil)) pa_nil))) (fun _ _ => rfl)))), ?_⟩
    refine ⟨_, rfl, _, rfl, _, rfl, q, xs, rfl, .inl hq, p, _, o, rfl, hp, ho, by omega, by omega, fun v o' v0 v1 po => ?_⟩
    have hv : v.toNat < xs.length := by omega
    refine ⟨q, xs, v, xs[v.toNat], rfl, rfl, sql_upd hq ne, ?_, k _ _ (List.getElem_mem hv) po⟩
    exact at_of (j := v.toNat) (by omega) (List.getElem?_eq_getElem hv)
theorem sc_law_pool : FnScope n_law_pool p_law_pool (defScope s_law_pool) := ⟨rfl, rfl, rfl, by decide +kernel, rfl, by decide +kernel, by decide +kernel⟩
theorem ok_pool (m_max : mg "max" = none) (m_int : mg "int" = none) {f : Addr} {fd : FuncData} (F : FunD K "_law_pool" "_law_pool" (defArgs s_law_pool) (defBody s_law_pool) (defScope s_law_pool) [] [] f fd) : FnOk P w K mg base CX0 1 f fd p_law_pool (spPool K) := by
  refine F.ok sc_law_pool (fun vs H Q E h => ?_) (fun cdv A outer s H vs Q E hr h => ?_)
  · obtain ⟨a, ns, k, rfl, _⟩ := h
    rfl
  · obtain ⟨a, ns, i, rfl, ha, hl, i0, i1, k⟩ := h
    refine ⟨_, PSs.nox (pss_cons (ps_set (i := 2) sc_law_pool.nd rfl (Or.inl rfl) (pe_ix (ix_listK K) (pe_op op_cat (pe_slice (sl_listK K) (pv 0) (po_some (pv 1)) (po_some (pe_op op_add (pv 1) pe_int))) (pe_lst (pa_cons pe_int pa_nil))) pe_int (fun _ _ => rfl))) (pss_cons (ps_set (i := 3) sc_law_pool.nd rfl (Or.inl rfl) (pe_callB (call_max2 rfl) (by rfl) m_max (by decide +kernel) (pa_cons (pv 2) (pa_cons (pe_op op_sub (pe_un un_neg pe_int) (pv 2)) pa_nil)))) (pss_cons (ps_set (i := 4) sc_law_pool.nd rfl (Or.inl rfl) (pe_op op_modN (pe_op op_mul (pe_op op_add (pe_op op_add (pe_op op_add (pe_op op_modN (pv 3) pe_int) (pe_op op_mul (pe_op op_mul pe_int (pv 1)) (pv 1))) (pe_op op_mul pe_int (pv 1))) pe_int) pe_int) pe_int)) (pss_one (ps_ret (pe_lst (pa_cons (pe_op op_mul (pv 3) (pe_callTy call_int1 (by rfl) m_int (by decide +kernel) (pa_cons (pe_cmpR op_ge (pv 3) (pe_op op_pow pe_int pe_int) (nomark _)) pa_nil))) (pa_cons (pv 4) pa_nil)))))))), ?_⟩
    refine ⟨_, rfl, _, rfl, _, rfl, _, rfl, _, _, rfl, rfl, _, rfl, a, _, rfl, ha, fun p1 n1 => ?_⟩
    refine ⟨(by show 1 ≤ sizeLine; decide), fun p2 n2 => ?_⟩
    have ne12 : p1 ≠ p2 := fun e => by rw [e, upd_same] at n2; cases n2
    refine ⟨p1, p2, _, _, rfl, rfl, (by rw [upd_ne ne12, upd_same]), upd_same, ?_, fun p3 n3 => ?_⟩
    · have := cutV_length (ns.map V.int) (some i) (some (i + 1))
      rw [List.length_map] at this
      have : (cutV (ns.map V.int) (some i) (some (i + 1))).length + 1 ≤ 100 := by omega
      exact Nat.le_trans this (by decide)
    obtain ⟨c, hc⟩ : ∃ c : Int, (cutV (ns.map V.int) (some i) (some (i + 1)) ++ [V.int 0])[0]? = some (V.int c) := by
      cases hx : cutV (ns.map V.int) (some i) (some (i + 1)) with
      | nil => exact ⟨0, rfl⟩
      | cons y ys =>
        have hy : y ∈ ns.map V.int := by
          have : y ∈ cutV (ns.map V.int) (some i) (some (i + 1)) := by rw [hx]; exact List.mem_cons_self
          exact List.mem_of_mem_drop (List.mem_of_mem_take this)
        obtain ⟨c, _, rfl⟩ := List.mem_map.mp hy
        exact ⟨c, rfl⟩
    refine ⟨p3, _, 0, .int c, rfl, rfl, SqL.of upd_same, atI_nat (j := 0) hc, ?_⟩
    refine ⟨_, rfl, _, rfl, _, rfl, _, _, rfl, rfl, _, _, rfl, ?_⟩
    refine ⟨_, rfl, _, _, rfl, rfl, (show (2147483629 : Int) ≠ 0 by decide), _, rfl, _, _, rfl, rfl, .inl ⟨by decide, by decide⟩, _, rfl, _, _, rfl, rfl, .inr ⟨by omega, by omega⟩, _, _, rfl, rfl, _, rfl, _, _, rfl, rfl, .inl ⟨by decide, by decide⟩, _, _, rfl, rfl, _, _, rfl, rfl, _, _, rfl, rfl, .inr ⟨by decide, by decide⟩, _, _, rfl, rfl, (show (2147483647 : Int) ≠ 0 by decide), ?_⟩
    refine ⟨_, rfl, _, rfl, _, _, rfl, rfl, ⟨by decide, by decide, by decide⟩, _, _, rfl, rfl, .inr ⟨_, rfl, _, _, rfl, rfl, .inr ?_, _, rfl, (by show 2 ≤ sizeLine; decide), fun p4 n4 => ?_⟩⟩
    · exact b01 _
    have s3 : Same H (upd (upd (upd H p1 (HO.lst (cutV (ns.map V.int) (some i) (some (i + 1))))) p2 (.lst [.int 0])) p3 (.lst (cutV (ns.map V.int) (some i) (some (i + 1)) ++ [V.int 0]))) := fun b o e => by
      have e1 : upd H p1 (HO.lst (cutV (ns.map V.int) (some i) (some (i + 1)))) b = some o := by rw [upd_ne (ne_of_none e n1)]; exact e
      have e2 : upd (upd H p1 (HO.lst (cutV (ns.map V.int) (some i) (some (i + 1))))) p2 (.lst [.int 0]) b = some o := by rw [upd_ne (ne_of_none e1 n2)]; exact e1
      rw [upd_ne (ne_of_none e2 n3)]
      exact e2
    exact k p4 _ _ (s3.free n4) ⟨_, _, rfl⟩ (fun b o e => by rw [upd_ne (ne_of_none (s3 _ _ e) n4)]; exact s3 _ _ e) upd_same
end

/-! ### the law's own parts -/
structure Hands (C : Addr) (H : Hp) (l : Addr) (as : List Addr) (s t : Int) : Prop where
  lst : H l = some (.lst (as.map V.ref))
  nd : as.Nodup
  lo : 2 ≤ as.length
  hi : as.length ≤ 5
  ok : ∀ a ∈ as, ∃ (dx : Addr) (o : Int), H a = some (.ins C dx (ck s t o)) ∧ -s ≤ o ∧ o ≤ s
def offOf (H : Hp) (v : V) : Int := match v with
  | .ref a => (match H a with
    | some (.ins _ _ fs) => (match fs.lookup ("own_off" : Str) with
      | some (.int o) => o
      | _ => 0)
    | _ => 0)
  | _ => 0
theorem offOf_at {H : Hp} {C a dx : Addr} {s t o : Int} (h : H a = some (.ins C dx (ck s t o))) : offOf H (.ref a) = o := by
  unfold offOf
  simp only [h, ck_off]
def fPast (H : Hp) (s t x : Int) (v : V) : Bool := decide (x ≤ t + offOf H v - s)
def fAhead (H : Hp) (s t x : Int) (v : V) : Bool := decide (t + offOf H v + s < x)
theorem Hands.same {C : Addr} {H H' : Hp} {l : Addr} {as : List Addr} {s t : Int} (h : Hands C H l as s t) (e : Same H H') : Hands C H' l as s t :=
  ⟨e _ _ h.lst, h.nd, h.lo, h.hi, fun a ha => by
    obtain ⟨dx, o, h1, h2⟩ := h.ok a ha
    exact ⟨dx, o, e _ _ h1, h2⟩⟩
/-- a dict at d is changed -/
theorem Hands.beside {C : Addr} {H H' : Hp} {l d : Addr} {as : List Addr} {s t : Int} {kvs kvs' : List (Key × V)} (h : Hands C H l as s t) (hd : H d = some (.dK kvs)) (e : Same (upd H d (.dK kvs')) H') : Hands C H' l as s t :=
  ⟨same_at e h.lst (ne_of h.lst hd (by intro z; cases z)), h.nd, h.lo, h.hi, fun a ha => by
    obtain ⟨dx, o, h1, h2⟩ := h.ok a ha
    exact ⟨dx, o, same_at e h1 (ne_of h1 hd (by intro z; cases z)), h2⟩⟩
theorem Hands.lockd {C : Addr} {H : Hp} {l d : Addr} {as : List Addr} {s t : Int} {kvs : List (Key × V)} {u : HO} (h : Hands C H l as s t) (hd : H d = some (.dK kvs)) : Hands C (upd H d u) l as s t :=
  ⟨by rw [upd_ne (ne_of h.lst hd (by intro z; cases z))]; exact h.lst, h.nd, h.lo, h.hi, fun a ha => by
    obtain ⟨dx, o, h1, h2⟩ := h.ok a ha
    exact ⟨dx, o, by rw [upd_ne (ne_of h1 hd (by intro z; cases z))]; exact h1, h2⟩⟩
theorem Hands.past {C : Addr} {H : Hp} {l : Addr} {as : List Addr} {s t x : Int} (h : Hands C H l as s t) (hx : t < x) : (as.map V.ref).filter (fPast H s t x) = [] := by
  rw [List.filter_eq_nil_iff]
  intro v hv
  obtain ⟨a, ha, rfl⟩ := List.mem_map.mp hv
  obtain ⟨dx, o, h1, h2, h3⟩ := h.ok a ha
  unfold fPast
  rw [offOf_at h1]
  simp only [decide_eq_true_eq]
  omega
theorem Hands.ahead {C : Addr} {H : Hp} {l : Addr} {as : List Addr} {s t x : Int} (h : Hands C H l as s t) (hx : x ≤ t) : (as.map V.ref).filter (fAhead H s t x) = [] := by
  rw [List.filter_eq_nil_iff]
  intro v hv
  obtain ⟨a, ha, rfl⟩ := List.mem_map.mp hv
  obtain ⟨dx, o, h1, h2, h3⟩ := h.ok a ha
  unfold fAhead
  rw [offOf_at h1]
  simp only [decide_eq_true_eq]
  omega
theorem Hands.all {C : Addr} {H : Hp} {l : Addr} {as : List Addr} {s t x : Int} (h : Hands C H l as s t) (hx : x + 2 * s ≤ t) : (as.map V.ref).filter (fPast H s t x) = as.map V.ref := by
  rw [List.filter_eq_self]
  intro v hv
  obtain ⟨a, ha, rfl⟩ := List.mem_map.mp hv
  obtain ⟨dx, o, h1, h2, h3⟩ := h.ok a ha
  unfold fPast
  rw [offOf_at h1]
  simp only [decide_eq_true_eq]
  omega
def KeysOk (t : Int) (kvs : List (Key × V)) : Prop := ∀ kv ∈ kvs, ∃ n : Int, kv.1 = Sum.inl n ∧ n ≤ t
def spRight (C : Addr) : Sp := fun vs H Q _ => ∃ (l d : Addr) (as : List Addr) (s t : Int) (kvs : List (Key × V)), vs = [.ref l, .int s, .ref d] ∧ Hands C H l as s t ∧ 0 ≤ s ∧ s ≤ 10 ∧ 0 ≤ t ∧ t ≤ 100000 ∧ H d = some (.dK kvs) ∧ KeysOk t kvs ∧ kvs.length ≤ 10000 ∧
  ∀ (H' : Hp) (kvs' : List (Key × V)), Same (upd H d (.dK kvs')) H' → KeysOk t kvs' → kvs'.length ≤ kvs.length + 51 → Q (.bl true) H'
section
variable {P : Program} {w : World} {K : PySem.W.Frag} {mg : Str → Option Value} {base : Heap} {C : Addr}
theorem sc_law_right : FnScope n_law_right p_law_right (defScope s_law_right) := ⟨rfl, rfl, rfl, by decide +kernel, rfl, by decide +kernel, by decide +kernel⟩
theorem keys_put {t x : Int} {kvs : List (Key × V)} (h : KeysOk t kvs) (hx : x ≤ t) (v : V) : KeysOk t (putK kvs (Sum.inl x) v) := by
  intro kv hk
  unfold putK at hk
  split at hk
  · obtain ⟨kv0, h0, rfl⟩ := List.mem_map.mp hk
    split
    · rename_i he
      exact ⟨x, he, hx⟩
    · exact h kv0 h0
  · rcases List.mem_append.mp hk with h0 | h0
    · exact h kv h0
    · rw [List.mem_singleton.mp h0]
      exact ⟨x, rfl, hx⟩
theorem putK_len {κ : Type} [DecidableEq κ] (kvs : List (κ × V)) (k : κ) (v : V) : (putK kvs k v).length ≤ kvs.length + 1 := by
  unfold putK
  split
  · rw [List.length_map]
    omega
  · rw [List.length_append]
    exact Nat.le_refl _
set_option maxHeartbeats 8000000 in
theorem ok_right (T : ClockTx K mg C) (m_len : mg "len" = none) (m_range : mg "range" = none) (D_true : Dm P w K mg base C 1 "true" pClock_true (spGet C fun _ t _ => t)) (D_is_past : Dm P w K mg base C 2 "is_past" pClock_is_past (spPast C)) (D_is_ahead : Dm P w K mg base C 2 "is_ahead" pClock_is_ahead (spAhead C))
    {f : Addr} {fd : FuncData} (F : FunD K "_law_right" "_law_right" (defArgs s_law_right) (defBody s_law_right) (defScope s_law_right) [] [] f fd) : FnOk P w K mg base CX0 3 f fd p_law_right (spRight C) := by
  obtain ⟨f_true, fd_true, me_true, b_true, G_true⟩ := D_true
  obtain ⟨f_is_past, fd_is_past, me_is_past, b_is_past, G_is_past⟩ := D_is_past
  obtain ⟨f_is_ahead, fd_is_ahead, me_is_ahead, b_is_ahead, G_is_ahead⟩ := D_is_ahead
  have c_Clock := T.c
  refine F.ok sc_law_right (fun vs H Q E h => ?_) (fun cdv A outer s H vs Q E hr h => ?_)
  · obtain ⟨l, d, as, s, t, kvs, rfl, _⟩ := h
    rfl
  · obtain ⟨l, d, as, s, t, kvs, rfl, hH, s0, s1, t0, t1, hd, hk, hl, k⟩ := h
    have hu0 := hu_of hr
    refine ⟨_, PSs.nox (pss_cons (ps_set (i := 3) sc_law_right.nd rfl (Or.inl rfl) (pe_meth0 (pe_ix (ix_listK K) (pv 0) pe_int (fun _ _ => rfl)) c_Clock me_true G_true (by exact hr.mono (by decide)) b_true .nil pass0)) (pss_cons (ps_for PassesOwn.never rfl (pi_range2 (by rfl) m_range (pa_cons (pe_op op_sub (pv 3) pe_int) (pa_cons (pe_op op_add (pv 3) pe_int) pa_nil))) (pg_name (i := 4) sc_law_right.nd rfl (Or.inr rfl)) (pss_cons (ps_setLc (i := 5) (own := [("_law_hand", 7)]) (g := gName 7) (by rfl) sc_law_right.nd rfl rfl (sw_true rfl rfl rfl (by decide +kernel)) (pi_listK K (pv 0)) (blkOk_by (own := [("_law_hand", 7)]) (N := n_law_right) (sc := (defScope s_law_right)) (by decide +kernel)) (fun _ _ _ _ _ => (pg_name (i := 7) sc_law_right.nd rfl (Or.inl rfl))) (fun _ _ _ _ _ => by exact pts_one (pt_val (pe_meth (pv 7) c_Clock me_is_past G_is_past (by exact hr.mono (by decide)) b_is_past .nil pass0 (pa_cons (pv 4) pa_nil)))) (fun _ _ _ _ _ => by exact (pv 7))) (pss_cons (ps_setLc (i := 6) (own := [("_law_hand", 7)]) (g := gName 7) (by rfl) sc_law_right.nd rfl rfl (sw_true rfl rfl rfl (by decide +kernel)) (pi_listK K (pv 0)) (blkOk_by (own := [("_law_hand", 7)]) (N := n_law_right) (sc := (defScope s_law_right)) (by decide +kernel)) (fun _ _ _ _ _ => (pg_name (i := 7) sc_law_right.nd rfl (Or.inl rfl))) (fun _ _ _ _ _ => by exact pts_one (pt_val (pe_meth (pv 7) c_Clock me_is_ahead G_is_ahead (by exact hr.mono (by decide)) b_is_ahead .nil pass0 (pa_cons (pv 4) pa_nil)))) (fun _ _ _ _ _ => by exact (pv 7))) (pss_cons (ps_if (PW.pt (pw_or (PW.pt (pw_and (pt_cmpR (op_neLenK K (by exact hu0)) (pv 5) (pe_lst pa_nil) (nomark _)) (pw_and1 (PW.pt (pw_or (pt_cmpR (op_neLenK K (by exact hu0)) (pv 6) (pe_lst pa_nil) (nomark _)) (pw_or1 (pt_cmpR op_lt (pv 3) (pv 4) (nomark _)))))))) (pw_or1 (PW.pt (pw_and (pt_cmpR (op_neLenK K (by exact hu0)) (pv 6) (pe_lst pa_nil) (nomark _)) (pw_and1 (pt_cmpR op_ge (pv 3) (pv 4) (nomark _)))))))) (pss_one (ps_ret pe_bl)) pss_nil) (pss_cons (ps_if (PW.pt (pw_and (pt_cmpR op_ge (pv 3) (pe_op op_add (pv 4) (pe_op op_mul pe_int (pv 1))) (nomark _)) (pw_and1 (pt_cmpR op_lt (pe_callB (call_lenK K) (by rfl) m_len PySem.boot_len (pa_cons (pv 5) pa_nil)) (pe_callB (call_lenK K) (by rfl) m_len PySem.boot_len (pa_cons (pv 0) pa_nil)) (nomark _))))) (pss_one (ps_ret pe_bl)) pss_nil) (pss_one (ps_if (pt_cmpR (op_neLenK K (by exact hu0)) (pv 5) (pe_lst pa_nil) (nomark _)) (pss_one (ps_dput hu0 (pv 2) (pv 4) pe_bl rfl)) pss_nil))))))) (pss_one (ps_ret (pe_cmpR (op_eqLenK K (by exact hu0)) (pe_lock (pe_lc (own := [("_law_time", 4)]) (g := gName 4) (by rfl) sc_law_right.nd (pi_keys (pv 2)) (blkOk_by (own := [("_law_time", 4)]) (N := n_law_right) (sc := (defScope s_law_right)) (by decide +kernel)) (fun _ _ _ _ _ => (pg_name (i := 4) sc_law_right.nd rfl (Or.inr rfl))) (fun _ _ _ _ _ => by exact pts_one (pt_cmpR (op_neLenK K (by exact hu0)) (pe_lc (own := [("_law_hand", 7)]) (g := gName 7) (by rfl) sc_law_right.nd (pi_listK K (pv 0)) (blkOk_by (own := [("_law_hand", 7)]) (N := n_law_right) (sc := (relS { kind := .function, names := [(Str.ofString ".0", .«local»), (Str.ofString "_law_time", .cell), (Str.ofString "_law_hands", .free)], isGenerator := false, isCoroutine := false } (defScope s_law_right))) (by decide +kernel)) (fun _ _ _ _ _ => (pg_name (i := 7) sc_law_right.nd rfl (Or.inl rfl))) (fun _ _ _ _ _ => by exact pts_one (pt_val (pe_meth (pv 7) c_Clock me_is_ahead G_is_ahead (by exact hr.mono (by decide)) b_is_ahead .nil pass0 (pa_cons (pv 4) pa_nil)))) (fun _ _ _ _ _ => by exact (pv 7))) (pe_lst pa_nil) (nomark _))) (fun _ _ _ _ _ => by exact (pv 4)))) (pe_lst pa_nil) (nomark _)))))), ?_⟩
    obtain ⟨a0, as', rfl⟩ : ∃ a0 as', as = a0 :: as' := by
      cases as with
      | nil => exact absurd hH.lo (by decide)
      | cons a0 as' => exact ⟨a0, as', rfl⟩
    obtain ⟨dx0, o0, h0, _⟩ := hH.ok a0 List.mem_cons_self
    refine ⟨_, rfl, l, _, 0, .ref a0, rfl, rfl, SqL.of hH.lst, atI_nat (j := 0) rfl, a0, dx0, _, rfl, h0, rfl, a0, dx0, s, t, o0, rfl, h0, ?_⟩
    refine ⟨.int t, rfl, _, _, rfl, rfl, .int t, rfl, _, _, rfl, rfl, t - 25, t + 26, rfl, ⟨by omega, by omega, by omega, by omega⟩, ?_⟩
    have e51 : (t + 26 - (t - 25)).toNat = 51 := by omega
    rw [e51]
    refine for_range (lo := t - 25) (n := 51) (fun i σ H' => ∃ (kvs' : List (Key × V)) (v4 v5 v6 v7 : Option V), σ = [some (.ref l), some (.int s), some (.ref d), some (.int t), v4, v5, v6, v7] ∧ Same (upd H d (.dK kvs')) H' ∧ KeysOk t kvs' ∧ kvs'.length ≤ kvs.length + i)
      ⟨kvs, none, none, none, none, rfl, fun b u e => by
        by_cases hb : b = d
        · subst hb
          rw [upd_same] at e
          cases e
          exact hd
        · rw [upd_ne hb] at e
          exact e, hk, Nat.le_refl _⟩ ?_ ?_
    · rintro i σ H1 hi ⟨kvs', v4, v5, v6, v7, rfl, sm, hk', hl'⟩
      have hH1 := hH.beside hd sm
      have hd1 : H1 d = some (.dK kvs') := same_here sm
      generalize hx : t - 25 + (i : Int) = x
      refine ⟨_, rfl, l, rfl, ⟨_, SqL.of hH1.lst⟩, fun D1 n1 => lc_mapf (K := K) (fPast H1 s t x) id (SqL.of hH1.lst) n1 (by rw [List.length_map]; have := hH1.hi; omega) (fun _ => rfl) ?_ (fun v H' _ _ _ Q q => ⟨_, rfl, q H' (Same.refl H')⟩) ?_⟩
      · intro v H' hv sv Q q
        obtain ⟨a, ha, rfl⟩ := List.mem_map.mp hv
        obtain ⟨dx, o, ho, _⟩ := hH1.ok a ha
        refine ⟨_, rfl, a, dx, _, rfl, sv _ _ ho, rfl, _, rfl, a, dx, s, t, o, x, rfl, sv _ _ ho, _, rfl, ?_⟩
        have := q H' (Same.refl H')
        unfold fPast at this
        rw [offOf_at ho] at this
        exact this
      intro H2 s2 hD1
      rw [List.map_id] at hD1
      have hH2 := hH1.same s2
      refine ⟨_, rfl, l, rfl, ⟨_, SqL.of hH2.lst⟩, fun D2 n2 => lc_mapf (K := K) (fAhead H2 s t x) id (SqL.of hH2.lst) n2 (by rw [List.length_map]; have := hH2.hi; omega) (fun _ => rfl) ?_ (fun v H' _ _ _ Q q => ⟨_, rfl, q H' (Same.refl H')⟩) ?_⟩
      · intro v H' hv sv Q q
        obtain ⟨a, ha, rfl⟩ := List.mem_map.mp hv
        obtain ⟨dx, o, ho, _⟩ := hH2.ok a ha
        refine ⟨_, rfl, a, dx, _, rfl, sv _ _ ho, rfl, _, rfl, a, dx, s, t, o, x, rfl, sv _ _ ho, _, rfl, ?_⟩
        have := q H' (Same.refl H')
        unfold fAhead at this
        rw [offOf_at ho] at this
        exact this
      intro H3 s3 hD2
      rw [List.map_id] at hD2
      have hH3 := hH2.same s3
      have hD1' := s3 _ _ hD1
      have s13 : Same H1 H3 := s2.trans s3
      have fe : fAhead H2 s t x = fAhead H2 s t x := rfl
      generalize hp : ((a0 :: as').map V.ref).filter (fPast H1 s t x) = past at hD1'
      generalize hq : ((a0 :: as').map V.ref).filter (fAhead H2 s t x) = ahead at hD2
      have p1 : t < x → past = [] := fun h => by rw [← hp]; exact hH1.past h
      have p2 : x ≤ t → ahead = [] := fun h => by rw [← hq]; exact hH2.ahead h
      have p3 : x + 2 * s ≤ t → past.length = (a0 :: as').length := fun h => by rw [← hp, hH1.all h, List.length_map]
      have t5 := et_neNil (K := K) (σ := [some (.ref l), some (.int s), some (.ref d), some (.int t), some (.int x), some (.ref D1), some (.ref D2), v7]) (H := H3) (ta := tVar 5) (Evl.ev_var rfl) (SqL.of hD1')
      have t6 := et_neNil (K := K) (σ := [some (.ref l), some (.int s), some (.ref d), some (.int t), some (.int x), some (.ref D1), some (.ref D2), v7]) (H := H3) (ta := tVar 6) (Evl.ev_var rfl) (SqL.of hD2)
      refine Evl.q_when (Evl.et_or (Evl.et_and t5 fun _ => Evl.et_or t6 fun _ => Evl.et_test (Evl.ev_op (Evl.ev_var rfl) (Evl.ev_var rfl) Evl.rv_I0)) fun _ => Evl.et_and t6 fun _ => Evl.et_test (Evl.ev_op (Evl.ev_var rfl) (Evl.ev_var rfl) Evl.rv_I0)) (fun hb => ?_) (fun _ H4 s4 => ?_)
      · exfalso
        by_cases hx' : t < x
        · rw [p1 hx'] at hb
          have h2 : ¬ (x ≤ t) := by omega
          rw [decide_eq_false h2] at hb
          simp at hb
        · have h2 : x ≤ t := by omega
          rw [p2 h2, decide_eq_false hx'] at hb
          simp at hb
      refine Evl.q_when (Evl.et_and (Evl.et_test (Evl.ev_op (Evl.ev_var rfl) (Evl.ev_op (Evl.ev_var rfl) (Evl.ev_op Evl.ev_c (Evl.ev_var rfl) (Evl.rv_I (.inl ⟨by decide, by decide⟩))) Evl.rv_I0) Evl.rv_I0)) fun _ => Evl.et_test (Evl.ev_op (Evl.ev_len (Evl.ev_var rfl) (SqL.of (s4 _ _ hD1'))) (Evl.ev_len (Evl.ev_var rfl) (SqL.of (s4 _ _ hH3.lst))) Evl.rv_I0)) (fun hb => ?_) (fun _ H5 s5 => ?_)
      · exfalso
        rw [Bool.and_eq_true, decide_eq_true_eq, decide_eq_true_eq] at hb
        rw [p3 hb.1, List.length_map] at hb
        omega
      have s15 : Same H1 H5 := (s13.trans s4).trans s5
      refine Evl.s_when (Evl.EvT.mono (s4.trans s5) t5) (fun hb H6 s6 => ?_) (fun _ H6 s6 => ?_)
      · have hxt : x ≤ t := by
          by_cases hx' : t < x
          · rw [p1 hx'] at hb
            cases hb
          · omega
        have s16 : Same H1 H6 := s15.trans s6
        refine ⟨_, rfl, _, rfl, d, _, rfl, DPut.k (k := Sum.inl x) (s16 _ _ hd1) ?_, ?_⟩
        · exact Nat.lt_of_le_of_lt (show _ ≤ 20000 by omega) (by decide)
        refine ⟨putK kvs' (Sum.inl x) (.bl true), _, _, _, _, rfl, ?_, keys_put hk' hxt _, Nat.le_trans (putK_len _ _ _) (by omega)⟩
        exact same_upd2 (sm.trans s16)
      · exact ⟨kvs', _, _, _, _, rfl, sm.trans (s15.trans s6), hk', by omega⟩
    · rintro σ H1 ⟨kvs', v4, v5, v6, v7, rfl, sm, hk', hl'⟩
      have hH1 := hH.beside hd sm
      have hd1 : H1 d = some (.dK kvs') := same_here sm
      refine ⟨d, _, hd1, trivial, fun od => ⟨_, rfl, d, od, rfl, .inl ⟨kvs', upd_same, fun D3 n3 => ?_⟩⟩⟩
      have nD3 : D3 ≠ d := fun e => by rw [e, upd_same] at n3; cases n3
      have n3' : H1 D3 = none := by rw [upd_ne nD3] at n3; exact n3
      have hHz : Hands C (upd H1 d (.frz od (.dK kvs'))) l (a0 :: as') s t := hH1.lockd hd1
      refine lc_it walk_keys (fun i H2 => Same (upd H1 d (.frz od (.dK kvs'))) H2 ∧ H2 D3 = some (.lst [])) ⟨Same.new n3, upd_same⟩ (fun i H2 _ p => p.1 _ _ upd_same) ?_ ?_
      · rintro i x H2 H2' hi ⟨p1, p2⟩ ⟨rfl, ke, v, hkv, rfl⟩
        obtain ⟨n, rfl, hn⟩ : ∃ n : Int, ke = Sum.inl n ∧ n ≤ t := hk' (ke, v) (List.mem_of_getElem? hkv)
        have hH2 := hHz.same p1
        refine ⟨rfl, ?_⟩
        refine ⟨_, rfl, l, rfl, ⟨_, SqL.of hH2.lst⟩, fun D4 n4 => lc_mapf (K := K) (fAhead H2' s t n) id (SqL.of hH2.lst) n4 (by rw [List.length_map]; have := hH2.hi; omega) (fun _ => rfl) ?_ (fun v H' _ _ _ Q q => ⟨_, rfl, q H' (Same.refl H')⟩) ?_⟩
        · intro v H' hv sv Q q
          obtain ⟨a, ha, rfl⟩ := List.mem_map.mp hv
          obtain ⟨dx, o, ho, _⟩ := hH2.ok a ha
          refine ⟨_, rfl, a, dx, _, rfl, sv _ _ ho, rfl, _, rfl, a, dx, s, t, o, n, rfl, sv _ _ ho, _, rfl, ?_⟩
          have := q H' (Same.refl H')
          unfold fAhead at this
          rw [offOf_at ho] at this
          exact this
        intro H3 s3 hD4
        rw [List.map_id, hH2.ahead hn] at hD4
        refine ⟨Nat.zero_le _, fun p np => ⟨D4, p, [], rfl, rfl, SqL.of ((Same.new np) _ _ hD4), SqL.of upd_same, _, rfl, ?_⟩⟩
        have s5 : Same H2' (upd H3 p (.lst [])) := s3.trans (Same.new np)
        exact iteF ⟨p1.trans s5, s5 _ _ p2⟩
      · rintro H2 ⟨p1, p2⟩
        refine ⟨p1 _ _ upd_same, Nat.zero_le _, fun p np => ⟨D3, p, [], rfl, rfl, SqL.of ((Same.new np) _ _ (by rw [upd_ne nD3]; exact p2)), SqL.of upd_same, ?_⟩⟩
        refine k _ kvs' ?_ hk' (by omega)
        refine Same.trans ?_ (Same.new np)
        refine fun b u e => ?_
        by_cases hb : b = d
        · subst hb
          rw [upd_same] at e ⊢
          exact e
        · rw [upd_ne hb]
          exact p1 b u (by rw [upd_ne hb]; exact sm b u e)
end

structure HM (C : Addr) (H : Hp) (l : Addr) (as : List Addr) (s : Int) (tm : Nat → Int) : Prop where
  lst : H l = some (.lst (as.map V.ref))
  nd : as.Nodup
  lo : 2 ≤ as.length
  hi : as.length ≤ 5
  ok : ∀ (j : Nat) (a : Addr), as[j]? = some a → ∃ (dx : Addr) (o : Int), H a = some (.ins C dx (ck s (tm j) o)) ∧ -s ≤ o ∧ o ≤ s
theorem Hands.mid {C : Addr} {H : Hp} {l : Addr} {as : List Addr} {s t : Int} (h : Hands C H l as s t) : HM C H l as s fun _ => t :=
  ⟨h.lst, h.nd, h.lo, h.hi, fun j a ha => h.ok a (List.mem_of_getElem? ha)⟩
theorem HM.hands {C : Addr} {H : Hp} {l : Addr} {as : List Addr} {s t : Int} {tm : Nat → Int} (h : HM C H l as s tm) (e : ∀ j, j < as.length → tm j = t) : Hands C H l as s t :=
  ⟨h.lst, h.nd, h.lo, h.hi, fun a ha => by
    obtain ⟨j, hj, rfl⟩ := List.getElem_of_mem ha
    have := h.ok j _ (List.getElem?_eq_getElem hj)
    rw [e j hj] at this
    exact this⟩
theorem HM.ne {C : Addr} {H : Hp} {l q : Addr} {as : List Addr} {s : Int} {tm : Nat → Int} {o : HO} (h : HM C H l as s tm) (hq : H q = some o) (ho : PoolO o) : l ≠ q ∧ ∀ (j : Nat) (a : Addr), as[j]? = some a → a ≠ q := by
  obtain ⟨x, y, rfl⟩ := ho
  refine ⟨fun e => ?_, fun j a ha => ?_⟩
  · have h1 := h.lst
    rw [e, hq] at h1
    cases as with
    | nil => exact absurd h.lo (by decide)
    | cons a r =>
      have h2 := Option.some.inj h1
      injection h2 with h3
      injection h3 with h4
      cases h4
  · obtain ⟨dx, o, h1, _⟩ := h.ok j a ha
    exact ne_of h1 hq (by intro z; cases z)
theorem HM.beside {C : Addr} {H : Hp} {l q : Addr} {as : List Addr} {s : Int} {tm : Nat → Int} {o o' : HO} (h : HM C H l as s tm) (hq : H q = some o) (ho : PoolO o) : HM C (upd H q o') l as s tm :=
  ⟨by rw [upd_ne (h.ne hq ho).1]; exact h.lst, h.nd, h.lo, h.hi, fun j a ha => by
    obtain ⟨dx, o, h1, h2⟩ := h.ok j a ha
    exact ⟨dx, o, by rw [upd_ne ((h.ne hq ho).2 j a ha)]; exact h1, h2⟩⟩
theorem HM.set {C : Addr} {H : Hp} {l a dx : Addr} {as : List Addr} {s T o' : Int} {tm tm' : Nat → Int} {i : Nat} (h : HM C H l as s tm) (ha : as[i]? = some a) (h1 : -s ≤ o') (h2 : o' ≤ s) (e1 : tm' i = T) (e2 : ∀ j, j ≠ i → tm' j = tm j) : HM C (upd H a (.ins C dx (ck s T o'))) l as s tm' := by
  obtain ⟨dy, o, hy, _⟩ := h.ok i a ha
  refine ⟨?_, h.nd, h.lo, h.hi, fun j b hb => ?_⟩
  · rw [upd_ne (ne_of h.lst hy (by intro z; cases z))]
    exact h.lst
  · by_cases hj : j = i
    · subst hj
      have eb : b = a := Option.some.inj (hb.symm.trans ha)
      subst eb
      exact ⟨dx, o', by rw [upd_same, e1], h1, h2⟩
    · obtain ⟨dz, oz, hz, h3⟩ := h.ok j b hb
      have nb : b ≠ a := fun q => hj (nd_ix h.nd hb (by rw [q]; exact ha))
      exact ⟨dz, oz, by rw [upd_ne nb, e2 j hj]; exact hz, h3⟩
def spLaw (K : PySem.W.Frag) : Sp := fun vs H Q _ => ∃ (a : Addr) (ns : List Int), vs = [.ref a] ∧ SqL K H a (ns.map V.int) ∧ ns.length ≤ 63 ∧ ∀ H', Q (.bl true) H'
section
variable {P : Program} {w : World} {K : PySem.W.Frag} {mg : Str → Option Value} {base : Heap} {C : Addr}
theorem sclaw : FnScope nlaw plaw (defScope slaw) := ⟨rfl, rfl, rfl, by decide +kernel, rfl, by decide +kernel, by decide +kernel⟩
set_option maxHeartbeats 8000000 in
theorem ok_law (T : ClockTx K mg C) (m_len : mg "len" = none) (m_range : mg "range" = none) (m_max : mg "max" = none) (m_min : mg "min" = none)
    (D_pool : Df P w K mg base 1 "_law_pool" p_law_pool (spPool K)) (D_take : Df P w K mg base 1 "_law_take" p_law_take spTake) (D_one : Df P w K mg base 2 "_law_one" p_law_one (spOne K)) (D_right : Df P w K mg base 3 "_law_right" p_law_right (spRight C))
    (D_tick : Dm P w K mg base C 3 "tick" pClock_tick (spTick C)) (D_put : Dm P w K mg base C 3 "put_off" pClock_put_off (spPutOff C)) (D_mk : Dk P w K mg base C 3 "Clock" pClock___init__ 1 ["skew"] (fun vs zs => vs ++ zs ++ [.int 0]) (spInit C))
    {f : Addr} {fd : FuncData} (F : FunD K "law" "law" (defArgs slaw) (defBody slaw) (defScope slaw) [] [] f fd) : FnOk P w K mg base CX0 5 f fd plaw (spLaw K) := by
  obtain ⟨f__law_pool, fd__law_pool, m__law_pool, k__law_pool, b__law_pool, G__law_pool⟩ := D_pool
  obtain ⟨f__law_take, fd__law_take, m__law_take, k__law_take, b__law_take, G__law_take⟩ := D_take
  obtain ⟨f__law_one, fd__law_one, m__law_one, k__law_one, b__law_one, G__law_one⟩ := D_one
  obtain ⟨f__law_right, fd__law_right, m__law_right, k__law_right, b__law_right, G__law_right⟩ := D_right
  obtain ⟨f_tick, fd_tick, me_tick, b_tick, G_tick⟩ := D_tick
  obtain ⟨f_put_off, fd_put_off, me_put_off, b_put_off, G_put_off⟩ := D_put
  obtain ⟨f_init, fd_init, g_init, M_Clock, m_Clock, kb_Clock, G_init⟩ := D_mk
  have c_Clock := T.c
  refine F.ok sclaw (fun vs H Q E h => ?_) (fun cdv A outer s H vs Q E hr h => ?_)
  · obtain ⟨a, ns, rfl, _⟩ := h
    rfl
  · obtain ⟨a, ns, rfl, hS, hlen, k⟩ := h
    refine ⟨_, PSs.nox (pss_cons (ps_for PassesOwn.never rfl (pi_range1 (by rfl) m_range (pa_cons (pe_callB (call_max2 rfl) (by rfl) m_max (by decide +kernel) (pa_cons pe_int (pa_cons (pe_callB (call_min2 rfl) (by rfl) m_min (by decide +kernel) (pa_cons (pe_callB (call_lenK K) (by rfl) m_len PySem.boot_len (pa_cons (pv 0) pa_nil)) (pa_cons pe_int pa_nil))) pa_nil))) pa_nil)) (pg_name (i := 1) sclaw.nd rfl (Or.inl rfl)) (pss_cons (ps_set (i := 2) sclaw.nd rfl (Or.inl rfl) (pe_call G__law_pool (by exact hr.mono (by decide)) rfl m__law_pool k__law_pool b__law_pool .nil pass0 (pa_cons (pv 0) (pa_cons (pv 1) pa_nil)))) (pss_cons (ps_set (i := 3) sclaw.nd rfl (Or.inr rfl) (pe_call G__law_take (by exact hr.mono (by decide)) rfl m__law_take k__law_take b__law_take .nil pass0 (pa_cons (pv 2) (pa_cons pe_int pa_nil)))) (pss_cons (ps_setLc (i := 5) (own := [("_law_turn", 4)]) (g := gName 4) (by rfl) sclaw.nd rfl rfl (sw_true rfl rfl rfl (by decide +kernel)) (pi_range1 (by rfl) m_range (pa_cons (pe_op op_add pe_int (pe_call G__law_take (by exact hr.mono (by decide)) rfl m__law_take k__law_take b__law_take .nil pass0 (pa_cons (pv 2) (pa_cons pe_int pa_nil)))) pa_nil)) (blkOk_by (own := [("_law_turn", 4)]) (N := nlaw) (sc := (defScope slaw)) (by decide +kernel)) (fun _ _ _ _ _ => (pg_name (i := 4) sclaw.nd rfl (Or.inl rfl))) (fun _ _ _ _ _ => by exact pts_nil) (fun _ _ _ _ _ => by exact (pe_makeK0 M_Clock G_init (by exact hr.mono (by decide)) rfl m_Clock kb_Clock pass0 (pk_cons (pv 3) pk_nil)))) (pss_cons (ps_set (i := 6) sclaw.nd rfl (Or.inl rfl) pe_dnewK) (pss_one (ps_for PassesOwn.never rfl (pi_range1 (by rfl) m_range (pa_cons (pe_op op_add pe_int (pe_call G__law_take (by exact hr.mono (by decide)) rfl m__law_take k__law_take b__law_take .nil pass0 (pa_cons (pv 2) (pa_cons pe_int pa_nil)))) pa_nil)) (pg_name (i := 4) sclaw.nd rfl (Or.inl rfl)) (pss_cons (ps_set (i := 7) sclaw.nd rfl (Or.inl rfl) (pe_call G__law_one (by exact hr.mono (by decide)) rfl m__law_one k__law_one b__law_one .nil pass0 (pa_cons (pv 2) (pa_cons (pe_lst (pa_cons pe_int (pa_cons pe_int (pa_cons pe_int (pa_cons (pe_op op_add pe_int (pe_call G__law_take (by exact hr.mono (by decide)) rfl m__law_take k__law_take b__law_take .nil pass0 (pa_cons (pv 2) (pa_cons pe_int pa_nil)))) pa_nil))))) pa_nil)))) (pss_cons (ps_for PassesOwn.never rfl (pi_listK K (pv 5)) (pg_name (i := 8) sclaw.nd rfl (Or.inl rfl)) (pss_cons (ps_expr (pe_meth (pv 8) c_Clock me_tick G_tick (by exact hr.mono (by decide)) b_tick .nil pass0 (pa_cons (pv 7) pa_nil))) (pss_one (ps_if (pt_cmpR op_eq (pe_call G__law_take (by exact hr.mono (by decide)) rfl m__law_take k__law_take b__law_take .nil pass0 (pa_cons (pv 2) (pa_cons pe_int pa_nil))) pe_int (nomark _)) (pss_one (ps_expr (pe_meth (pv 8) c_Clock me_put_off G_put_off (by exact hr.mono (by decide)) b_put_off .nil pass0 (pa_cons (pe_op op_sub (pe_call G__law_take (by exact hr.mono (by decide)) rfl m__law_take k__law_take b__law_take .nil pass0 (pa_cons (pv 2) (pa_cons (pe_op op_add (pe_op op_mul pe_int (pv 3)) pe_int) pa_nil))) (pv 3)) pa_nil)))) pss_nil)))) (pss_one (ps_if (pt_not (pt_val (pe_call G__law_right (by exact hr.mono (by decide)) rfl m__law_right k__law_right b__law_right .nil pass0 (pa_cons (pv 5) (pa_cons (pv 3) (pa_cons (pv 6) pa_nil)))))) (pss_one (ps_ret pe_bl)) pss_nil))))))))))) (pss_one (ps_ret pe_bl))), ?_⟩
    refine ⟨_, rfl, a, _, rfl, .inl hS, _, _, rfl, _, _, rfl, ?_⟩
    rw [List.length_map]
    generalize hn : (if (if (10 : Int) < (ns.length : Int) then (10 : Int) else (ns.length : Int)) > 1 then (if (10 : Int) < (ns.length : Int) then (10 : Int) else (ns.length : Int)) else 1) = n
    have hn1 : 1 ≤ n ∧ n ≤ 10 := by
      rw [← hn]
      split <;> split <;> omega
    refine ⟨n, rfl, by omega, by omega, for_range (lo := 0) (n := n.toNat) (fun i σ H' => ∃ v1 v2 v3 v4 v5 v6 v7 v8 : Option V, σ = [some (.ref a), v1, v2, v3, v4, v5, v6, v7, v8] ∧ Same H H') ⟨none, none, none, none, none, none, none, none, rfl, Same.refl H⟩ ?_ (fun σ H' _ => k H')⟩
    rintro i σ H0 hi ⟨v1, v2, v3, v4, v5, v6, v7, v8, rfl, s0⟩
    refine ⟨_, rfl, _, rfl, a, ns, _, rfl, s0.seq hS, hlen, by omega, by omega, fun p H1 po np hpo s1 hp => ?_⟩
    refine ⟨_, rfl, p, 11, po, rfl, hp, hpo, by decide, by decide, fun s po' hs0 hs1 hpo' => ?_⟩
    have s1' : Same H0 (upd H1 p po') := Same.mut s1 np
    refine ⟨_, rfl, p, 4, po', rfl, upd_same, hpo', by decide, by decide, fun n4 po2 n40 n41 hpo2 => ?_⟩
    have s2 : Same H0 (upd (upd H1 p po') p po2) := Same.mut s1' np
    generalize hHb : upd (upd H1 p po') p po2 = Hb at s2 ⊢
    have hpb : Hb p = some po2 := by rw [← hHb]; exact upd_same
    refine ⟨_, _, rfl, rfl, _, rfl, by omega, by omega, fun l nl => ?_⟩
    refine lc_range (lo := 0) (n := (2 + n4).toNat) (fun i H' => Same Hb H' ∧ ∃ as : List Addr, H' l = some (.lst (as.map V.ref)) ∧ as.length = i ∧ as.Nodup ∧ ∀ a ∈ as, Hb a = none ∧ ∃ dx, H' a = some (.ins C dx (ck s 0 0)))
      ⟨Same.new nl, [], upd_same, rfl, List.nodup_nil, fun a ha => by cases ha⟩ ?_ ?_
    · rintro j H' hj ⟨sb, as, hl, hlen', hnd, has⟩
      refine ⟨rfl, ?_⟩
      refine ⟨_, rfl, rfl, rfl, fun x dx nx ndx nxd => ⟨x, dx, s, 0, rfl, upd_same, hs0, by omega, by omega, by omega, rfl, as.map V.ref, ?_, ?_, ?_⟩⟩
      · rw [upd_ne (ne_of_none hl nx), upd_ne (ne_of_none hl nx), upd_ne (ne_of_none hl ndx)]
        exact hl
      · rw [List.length_map]
        exact Nat.lt_of_le_of_lt (show _ ≤ 100 by omega) (by decide)
      · have sx : Same H' (upd (upd (upd H' dx (.own x)) x (.ins C dx [])) x (.ins C dx (ck s 0 0))) := by
          rw [upd_upd]
          exact Same.mut (Same.new ndx) nx
        have nlx : l ≠ x := ne_of_none hl nx
        refine ⟨Same.mut (sb.trans sx) nl, as ++ [x], ?_, ?_, ?_, ?_⟩
        · rw [upd_same, List.map_append]
          rfl
        · rw [List.length_append, hlen']
          rfl
        · refine nd_snoc hnd fun hm => ?_
          obtain ⟨_, d, hd⟩ := has x hm
          rw [nx] at hd
          cases hd
        · intro b hb
          rcases List.mem_append.mp hb with hb | hb
          · obtain ⟨h1, d, h2⟩ := has b hb
            refine ⟨h1, d, ?_⟩
            rw [upd_ne (ne_of h2 hl (by intro z; cases z))]
            exact sx _ _ h2
          · rw [List.mem_singleton.mp hb]
            exact ⟨sb.free nx, dx, by rw [upd_ne nlx.symm, upd_same]⟩
    rintro H2 ⟨sb, as, hl, hlen', hnd, has⟩
    have hp2 : H2 p = some po2 := sb _ _ hpb
    intro d nd
    have sd : Same H2 (upd H2 d (.dK [])) := Same.new nd
    have s02 : Same H (upd H2 d (.dK [])) := (s0.trans s2).trans (sb.trans sd)
    have np0 : H p = none := s0.free np
    have nl0 : H l = none := (s0.trans s2).free nl
    have nd0 : H d = none := ((s0.trans s2).trans sb).free nd
    have nas : ∀ a ∈ as, H a = none := fun a ha => (s0.trans s2).free (has a ha).1
    have hH : Hands C (upd H2 d (.dK [])) l as s 0 := ⟨sd _ _ hl, hnd, by omega, by omega, fun a ha => by
      obtain ⟨_, dx, h⟩ := has a ha
      exact ⟨dx, 0, sd _ _ h, by omega, by omega⟩⟩
    have hpd : upd H2 d (.dK []) p = some po2 := sd _ _ hp2
    have npd : p ≠ d := ne_of_none hp2 nd
    refine ⟨_, rfl, p, 31, po2, rfl, hpd, hpo2, by decide, by decide, fun n31 po3 n310 n311 hpo3 => ?_⟩
    refine ⟨_, _, rfl, rfl, _, rfl, by omega, by omega, ?_⟩
    refine for_range (lo := 0) (n := (10 + n31).toNat) (fun j σ H' => ∃ (t : Int) (kvs : List (Key × V)) (po : HO) (v4 v7 v8 : Option V), σ = [some (.ref a), (some (.int (0 + (i : Int)))), some (.ref p), some (.int s), v4, some (.ref l), some (.ref d), v7, v8] ∧ Same H H' ∧ H' p = some po ∧ PoolO po ∧ Hands C H' l as s t ∧ H' d = some (.dK kvs) ∧ KeysOk t kvs ∧ kvs.length ≤ 51 * j ∧ 0 ≤ t ∧ t ≤ 20 * (j : Int))
      ⟨0, [], po3, _, _, _, rfl, Same.mut s02 np0, upd_same, hpo3, HM.hands (HM.beside hH.mid hpd hpo2) (fun _ _ => rfl), by rw [upd_ne npd.symm]; exact upd_same, (fun kv hk => by cases hk), Nat.zero_le _, by decide, by decide⟩ ?_ ?_
    · rintro j σ H3 hj ⟨t, kvs, po4, v4', v7', v8', rfl, sH, hp, hpo4, hH, hd, hk, hkl, t0, t1⟩
      have hjj : (j : Int) < 41 := by omega
      refine ⟨_, rfl, _, rfl, p, 20, po4, rfl, hp, hpo4, by decide, by decide, fun v po5 hv0 hv1 hpo5 => ?_⟩
      refine ⟨_, _, rfl, rfl, (by show 4 ≤ sizeLine; decide), fun q nq => ?_⟩
      have nqp : q ≠ p := fun e => by rw [e, upd_same] at nq; cases nq
      refine ⟨p, q, _, po5, rfl, (by rw [upd_ne nqp.symm]; exact upd_same), hpo5, SqL.of upd_same, nqp, (by show 0 < 4; decide), (by show 4 < 1000; decide), fun st po6 hst hpo6 => ?_⟩
      obtain ⟨n, rfl, hn0, hn1⟩ : ∃ n : Int, st = .int n ∧ 0 ≤ n ∧ n ≤ 20 := by
        simp only [List.mem_cons, List.not_mem_nil, or_false] at hst
        rcases hst with h | h | h | h
        · exact ⟨_, h, by decide, by decide⟩
        · exact ⟨_, h, by decide, by decide⟩
        · exact ⟨_, h, by decide, by decide⟩
        · exact ⟨_, h, by omega, by omega⟩
      generalize hH4 : upd (upd (upd H3 p po5) q (HO.lst [.int 0, .int 1, .int 2, .int (1 + v)])) p po6 = H4
      have nq3 : H3 q = none := by rw [upd_ne nqp] at nq; exact nq
      have sH4 : Same H H4 := by
        rw [← hH4]
        exact Same.mut (Same.mut (Same.mut sH np0) (sH.free nq3)) np0
      have hp4 : H4 p = some po6 := by rw [← hH4]; exact upd_same
      have npd' : p ≠ d := by
        obtain ⟨x, y, rfl⟩ := hpo4
        exact ne_of hp hd (by intro z; cases z)
      have hd4 : H4 d = some (.dK kvs) := by
        rw [← hH4, upd_ne npd'.symm, upd_ne (ne_of_none hd nq3), upd_ne npd'.symm]
        exact hd
      have hM4 : HM C H4 l as s fun _ => t := by
        have h1 := HM.beside (o' := po6) hH.mid hp hpo4
        have e : ∀ b u, b ≠ p → H3 b = some u → H4 b = some u := fun b u nb e => by
          rw [← hH4, upd_ne nb, upd_ne (ne_of_none e nq3), upd_ne nb]
          exact e
        have hne := hH.mid.ne hp hpo4
        exact ⟨e _ _ hne.1 hH.lst, hH.nd, hH.lo, hH.hi, fun j a ha => by
          obtain ⟨dx, o, h1, h2⟩ := hH.mid.ok j a ha
          exact ⟨dx, o, e _ _ (hne.2 j a ha) h1, h2⟩⟩
      refine ⟨_, rfl, l, rfl, ⟨_, SqL.of hM4.lst⟩, for_list (K := K) (a := l) (xs := as.map V.ref) (fun y σ H' => ∃ (po : HO) (v8 : Option V), σ = [some (.ref a), (some (.int (0 + (i : Int)))), some (.ref p), some (.int s), some (.int (0 + (j : Int))), some (.ref l), some (.ref d), some (.int n), v8] ∧ Same H H' ∧ H' p = some po ∧ PoolO po ∧ H' d = some (.dK kvs) ∧ HM C H' l as s fun z => if z < y then t + n else t)
        ⟨po6, _, rfl, sH4, hp4, hpo6, hd4, hM4⟩ (fun y σ H' _ ⟨_, _, _, _, _, _, _, hM⟩ => SqL.of hM.lst) ?_ ?_⟩
      · rintro z0 y σ H5 hy ⟨po7, v8'', rfl, sH5, hp5, hpo7, hd5, hM5⟩
        obtain ⟨b, hb, rfl⟩ : ∃ b, as[z0]? = some b ∧ y = V.ref b := by
          rw [List.getElem?_map] at hy
          cases e : as[z0]? with
          | none =>
            rw [e] at hy
            cases hy
          | some b =>
            rw [e] at hy
            exact ⟨b, rfl, (Option.some.inj hy).symm⟩
        obtain ⟨dx, o, hbo, ho1, ho2⟩ := hM5.ok z0 b hb
        rw [if_neg (Nat.lt_irrefl z0)] at hbo
        have nb : H b = none := nas b (List.mem_of_getElem? hb)
        have hM6 : HM C (upd H5 b (.ins C dx (ck s (t + n) o))) l as s fun z => if z < z0 + 1 then t + n else t := by
          refine HM.set hM5 hb ho1 ho2 (by show (if z0 < z0 + 1 then t + n else t) = t + n; rw [if_pos (Nat.lt_succ_self z0)]) (fun z hz => ?_)
          show (if z < z0 + 1 then t + n else t) = (if z < z0 then t + n else t)
          by_cases h : z < z0
          · rw [if_pos h, if_pos (by omega)]
          · rw [if_neg h, if_neg (by omega)]
        have nbp : b ≠ p := (hM5.ne hp5 hpo7).2 z0 b hb
        have ndb : d ≠ b := ne_of hd5 hbo (by intro z; cases z)
        refine ⟨_, rfl, b, dx, _, rfl, hbo, rfl, _, rfl, b, dx, s, t, o, n, rfl, hbo, hn0, by omega, ?_⟩
        refine ⟨_, rfl, p, 3, po7, rfl, (by rw [upd_ne nbp.symm]; exact hp5), hpo7, by decide, by decide, fun c po8 hc0 hc1 hpo8 => ⟨rfl, _, rfl, ?_⟩⟩
        have hp6 : upd H5 b (.ins C dx (ck s (t + n) o)) p = some po7 := by rw [upd_ne nbp.symm]; exact hp5
        have hM7 : HM C (upd (upd H5 b (.ins C dx (ck s (t + n) o))) p po8) l as s fun z => if z < z0 + 1 then t + n else t := HM.beside hM6 hp6 hpo7
        have sH7 : Same H (upd (upd H5 b (.ins C dx (ck s (t + n) o))) p po8) := Same.mut (Same.mut sH5 nb) np0
        have hd7 : upd (upd H5 b (.ins C dx (ck s (t + n) o))) p po8 d = some (.dK kvs) := by rw [upd_ne npd'.symm, upd_ne ndb]; exact hd5
        refine ite2 (fun _ => ?_) (fun _ => ⟨po8, _, rfl, sH7, upd_same, hpo8, hd7, hM7⟩)
        have hb7 : upd (upd H5 b (.ins C dx (ck s (t + n) o))) p po8 b = some (.ins C dx (ck s (t + n) o)) := by rw [upd_ne nbp, upd_same]
        refine ⟨_, rfl, b, dx, _, rfl, hb7, rfl, _, rfl, _, rfl, _, _, rfl, rfl, .inl ⟨by decide, by decide⟩, _, _, rfl, rfl, p, 2 * s + 1, po8, rfl, upd_same, hpo8, by omega, by omega, fun c' po9 hc0' hc1' hpo9 => ?_⟩
        refine ⟨_, rfl, _, _, rfl, rfl, b, dx, s, t + n, o, c' - s, rfl, (by rw [upd_ne nbp]; exact hb7), by omega, by omega, ?_⟩
        have hM8 := HM.beside (o' := po9) hM7 (upd_same (H := upd H5 b (.ins C dx (ck s (t + n) o))) (a := p) (o := po8)) hpo8
        refine ⟨po9, _, rfl, Same.mut (Same.mut sH7 np0) nb, (by rw [upd_ne nbp.symm]; exact upd_same), hpo9, (by rw [upd_ne ndb, upd_ne npd'.symm]; exact hd7), ?_⟩
        exact HM.set hM8 hb (by omega) (by omega) (by show (if z0 < z0 + 1 then t + n else t) = t + n; rw [if_pos (Nat.lt_succ_self z0)]) (fun z hz => rfl)
      · rintro σ H5 ⟨po7, v8'', rfl, sH5, hp5, hpo7, hd5, hM5⟩
        have hH5 : Hands C H5 l as s (t + n) := HM.hands hM5 fun z hz => if_pos (by rw [List.length_map]; exact hz)
        refine ⟨_, rfl, _, rfl, _, rfl, l, d, as, s, t + n, kvs, rfl, hH5, hs0, by omega, by omega, by omega, hd5, fun kv hkv => ?_, by omega, fun H6 kvs' s6 hk6 hl6 => ⟨true, rfl, iteF ?_⟩⟩
        · obtain ⟨z, h1, h2⟩ := hk kv hkv
          exact ⟨z, h1, by omega⟩
        have sH6 : Same H H6 := fun b u e => same_at s6 (sH5 b u e) (ne_of_none e nd0)
        have npd5 : p ≠ d := npd'
        exact ⟨t + n, kvs', po7, _, _, _, rfl, sH6, same_at s6 hp5 npd5, hpo7, hH5.beside hd5 s6, same_here s6, hk6, by omega, by omega, by omega⟩
    · rintro σ H3 ⟨t, kvs, po4, v4', v7', v8', rfl, sH, _⟩
      exact ⟨_, _, _, _, _, _, _, _, rfl, sH⟩
end

/-! ### what the top has left -/
theorem facts {P : Program} {w : World} {K : PySem.W.Frag} {h : Heap} {mg : Str → Option Value} {f : Addr} (X : K.In h) (G : h.Ns mainGlobals mg) (hfa : mg ("law" : Str) = some (.ref f)) (c : He.SaysD fa fn K) :
    ∃ fd : FuncData, (∀ (s : Shared) (v : Value), BindsTo s fd ⟨[v], []⟩ [("_law_script", v)]) ∧ ∀ base : Heap, K.In base → base.Ns mainGlobals mg → FnOk P w K mg base CX0 5 f fd ["_law_script"] (spLaw K) := by
  have m_len := He.free_ok X G (c.fact 33 (f := .free "len") rfl)
  have m_range := He.free_ok X G (c.fact 36 (f := .free "range") rfl)
  have m_max := He.free_ok X G (c.fact 34 (f := .free "max") rfl)
  have m_min := He.free_ok X G (c.fact 35 (f := .free "min") rfl)
  have m_int := He.free_ok X G (c.fact 31 (f := .free "int") rfl)
  have m_bool := He.free_ok X G (c.fact 30 (f := .free "bool") rfl)
  have m_isinstance := He.free_ok X G (c.fact 32 (f := .free "isinstance") rfl)
  have T : ClockTx K mg (He.ga K "Clock") := ⟨He.cls_ok (c.fact 11 (f := .cls "Clock") rfl), He.noat_ok (c.fact 24 (f := .noat "Clock" "own_skew") rfl), He.noat_ok (c.fact 25 (f := .noat "Clock" "own_true") rfl), He.noat_ok (c.fact 23 (f := .noat "Clock" "own_off") rfl),
    He.int_ok X G (c.fact 27 (f := .int "MOST_SKEW" 10) rfl), He.int_ok X G (c.fact 28 (f := .int "MOST_TICKS" 1000) rfl)⟩
  obtain ⟨fd1, F1⟩ := c.def_ 2 (d := dis_whole) rfl
  obtain ⟨fd2, F2⟩ := c.def_ 3 (d := dis_from) rfl
  obtain ⟨fd3, F3⟩ := c.def_ 4 (d := dClock___init__) rfl
  obtain ⟨fd4, F4⟩ := c.def_ 5 (d := dClock_look_at_off) rfl
  obtain ⟨fd5, F5⟩ := c.def_ 6 (d := dClock_tick) rfl
  obtain ⟨fd6, F6⟩ := c.def_ 7 (d := dClock_put_off) rfl
  obtain ⟨fd7, F7⟩ := c.def_ 10 (d := dClock_true) rfl
  obtain ⟨fd8, F8⟩ := c.def_ 11 (d := dClock_shows) rfl
  obtain ⟨fd9, F9⟩ := c.def_ 12 (d := dClock_is_past) rfl
  obtain ⟨fd10, F10⟩ := c.def_ 13 (d := dClock_is_ahead) rfl
  obtain ⟨fd11, F11⟩ := c.def_ 15 (d := d_law_pool) rfl
  obtain ⟨fd12, F12⟩ := c.def_ 16 (d := d_law_take) rfl
  obtain ⟨fd13, F13⟩ := c.def_ 17 (d := d_law_one) rfl
  obtain ⟨fd14, F14⟩ := c.def_ 18 (d := d_law_right) rfl
  obtain ⟨fd, F⟩ := c.def_ 19 (d := dlaw) rfl
  have e := hfa.symm.trans (He.glo_ok X G (c.fact 7 (f := .glo "law") rfl))
  cases e
  have b := FunD.bindsA (ps := ["_law_script"]) F fun _ _ _ _ _ _ us hl => match us, hl with | [_], _ => rfl
  refine ⟨fd, fun s v => b s [v] rfl, fun base _ _ => ?_⟩
  have g1 : Df P w K mg base 1 "is_whole" pis_whole spWholeI := ⟨_, fd1, He.glo_ok X G (c.fact 1 (f := .glo "is_whole") rfl), F1.kp, F1.bindsN fun _ _ _ _ _ _ us hl => match us, hl with | [_], _ => rfl, ok_is_whole m_isinstance m_int m_bool F1⟩
  have g2 : Df P w K mg base 2 "is_from" pis_from spFromI := ⟨_, fd2, He.glo_ok X G (c.fact 2 (f := .glo "is_from") rfl), F2.kp, binds_nil (F2.binds1 3 1 (List.cons_ne_nil _ _) rfl fun _ _ _ _ _ _ _ us its h1 h2 => match us, its, h1, h2 with | [_, _, _], [_], _, _ => ⟨_, rfl, rfl⟩), ok_is_from g1 F2⟩
  have g4 : Dm P w K mg base (He.ga K "Clock") 2 "look_at_off" pClock_look_at_off (spLook (He.ga K "Clock")) := ⟨_, fd4, He.meth_ok (c.fact 13 (f := .meth "Clock" "look_at_off") rfl), F4.bindsN fun _ _ _ _ _ _ us hl => match us, hl with | [_, _, _], _ => rfl, ok_look T g1 F4⟩
  have g5 : Dm P w K mg base (He.ga K "Clock") 3 "tick" pClock_tick (spTick (He.ga K "Clock")) := ⟨_, fd5, He.meth_ok (c.fact 14 (f := .meth "Clock" "tick") rfl), binds_nil (F5.binds1 2 1 (List.cons_ne_nil _ _) rfl fun _ _ _ _ _ _ _ us its h1 h2 => match us, its, h1, h2 with | [_, _], [_], _, _ => ⟨_, rfl, rfl⟩), ok_tick T g2 F5⟩
  have g6 : Dm P w K mg base (He.ga K "Clock") 3 "put_off" pClock_put_off (spPutOff (He.ga K "Clock")) := ⟨_, fd6, He.meth_ok (c.fact 15 (f := .meth "Clock" "put_off") rfl), F6.bindsN fun _ _ _ _ _ _ us hl => match us, hl with | [_, _], _ => rfl, ok_put_off T g4 F6⟩
  have g7 : Dm P w K mg base (He.ga K "Clock") 1 "true" pClock_true (spGet (He.ga K "Clock") fun _ t _ => t) := ⟨_, fd7, He.meth_ok (c.fact 18 (f := .meth "Clock" "true") rfl), F7.bindsN fun _ _ _ _ _ _ us hl => match us, hl with | [_], _ => rfl, ok_true T F7⟩
  have g8 : Dm P w K mg base (He.ga K "Clock") 1 "shows" pClock_shows (spGet (He.ga K "Clock") fun _ t o => t + o) := ⟨_, fd8, He.meth_ok (c.fact 19 (f := .meth "Clock" "shows") rfl), F8.bindsN fun _ _ _ _ _ _ us hl => match us, hl with | [_], _ => rfl, ok_shows T F8⟩
  have g9 : Dm P w K mg base (He.ga K "Clock") 2 "is_past" pClock_is_past (spPast (He.ga K "Clock")) := ⟨_, fd9, He.meth_ok (c.fact 20 (f := .meth "Clock" "is_past") rfl), F9.bindsN fun _ _ _ _ _ _ us hl => match us, hl with | [_, _], _ => rfl, ok_is_past T g8 F9⟩
  have g10 : Dm P w K mg base (He.ga K "Clock") 2 "is_ahead" pClock_is_ahead (spAhead (He.ga K "Clock")) := ⟨_, fd10, He.meth_ok (c.fact 21 (f := .meth "Clock" "is_ahead") rfl), F10.bindsN fun _ _ _ _ _ _ us hl => match us, hl with | [_, _], _ => rfl, ok_is_ahead T g8 F10⟩
  have g11 : Df P w K mg base 1 "_law_pool" p_law_pool (spPool K) := ⟨_, fd11, He.glo_ok X G (c.fact 3 (f := .glo "_law_pool") rfl), F11.kp, F11.bindsN fun _ _ _ _ _ _ us hl => match us, hl with | [_, _], _ => rfl, ok_pool m_max m_int F11⟩
  have g12 : Df P w K mg base 1 "_law_take" p_law_take spTake := ⟨_, fd12, He.glo_ok X G (c.fact 4 (f := .glo "_law_take") rfl), F12.kp, F12.bindsN fun _ _ _ _ _ _ us hl => match us, hl with | [_, _], _ => rfl, ok_take F12⟩
  have g13 : Df P w K mg base 2 "_law_one" p_law_one (spOne K) := ⟨_, fd13, He.glo_ok X G (c.fact 5 (f := .glo "_law_one") rfl), F13.kp, F13.bindsN fun _ _ _ _ _ _ us hl => match us, hl with | [_, _], _ => rfl, ok_one m_len g12 F13⟩
  have g14 : Df P w K mg base 3 "_law_right" p_law_right (spRight (He.ga K "Clock")) := ⟨_, fd14, He.glo_ok X G (c.fact 6 (f := .glo "_law_right") rfl), F14.kp, F14.bindsN fun _ _ _ _ _ _ us hl => match us, hl with | [_, _, _], _ => rfl, ok_right T m_len m_range g7 g9 g10 F14⟩
  have g3 : Dk P w K mg base (He.ga K "Clock") 3 "Clock" pClock___init__ 1 ["skew"] (fun vs zs => vs ++ zs ++ [.int 0]) (spInit (He.ga K "Clock")) := by
    obtain ⟨mv, kb⟩ := F3.kbinds0 (ps := pClock___init__) 1 ["skew"] [("off", .int 0)] (fun us mv ws => us ++ ws ++ mv) (List.cons_ne_nil _ _) (by intro q hq; exact List.mem_cons_of_mem _ hq) (fun r1 r2 r3 => (r1.append r3).append r2)
      (fun _ _ _ _ _ _ us mv ws h1 h2 h3 => match us, mv, ws, h1, h2, h3 with | [_], [_], [_], _, _, _ => ⟨_, _, _, _, _, _, rfl, rfl, rfl⟩)
    exact ⟨_, fd3, _, He.mkr_ok (c.fact 12 (f := .mkr "Clock") rfl), He.glo_ok X G (c.fact 10 (f := .glo "Clock") rfl), kb, ok_init T g2 g4 F3⟩
  exact ok_law T m_len m_range m_max m_min g11 g12 g13 g14 g5 g6 g3 F
end My

open PySem PySem.W PySem.Calls PyProof.Rows
set_option maxRecDepth 100000 in
set_option maxHeartbeats 0 in
theorem PySem.Challenge.cw_appendlease_k07_whole_surely_past_is_nev_holds : PySem.Challenge.rw_appendlease_k07_whole_surely_past_is_nev.Holds := by
  w_on; o_law
  refine HandSHeadRun.head_any (r := OpenLaw.row PySem.Challenge.rw_appendlease_k07_whole_surely_past_is_nev) (q := My.qv) (H := My.hk) (ob := My.ob) (M := 6000) (loose := My.loose) (d := HandSHeadRun.topDef (OpenLaw.row PySem.Challenge.rw_appendlease_k07_whole_surely_past_is_nev).prog 17) (kwd := []) My.ob_eq
    (by kernel_rfl) (fun s => by kernel_rfl) My.run (by kernel_rfl) (by kernel_rfl) (by kernel_rfl) (by rfl) (by first | assumption | decide +kernel) (by decide +kernel) ⟨rfl, rfl, rfl, rfl, rfl, by decide +kernel⟩ ?hw ?hc
  case hw => w_witness2
  case hc =>
    refine L2.walk_ofE (l := PySem.Challenge.rw_appendlease_k07_whole_surely_past_is_nev) (n := 63) (k := 5) (x := "_law_script") (CX := L2.CX0) rfl (by decide) (by kernel_rfl) ⟨rfl, by decide, by decide⟩ ?F (fun _ _ _ _ z => z)
    intro w mg fa h Y G hmg0
    obtain ⟨K, KX, c⟩ := Y
    have hmg : mg ("law" : PySem.Str) = some (.ref fa) := by
      have e : (HandSHeadRun.topDef (OpenLaw.row PySem.Challenge.rw_appendlease_k07_whole_surely_past_is_nev).prog 17).name = ("law" : PySem.Str) := by kernel_rfl
      rw [← e]
      exact hmg0
    obtain ⟨fd, hb, hF⟩ := My.facts (P := (PySem.Challenge.rw_appendlease_k07_whole_surely_past_is_nev).prog) (w := w) KX G hmg c
    exact ⟨K, fd, My.spLaw K, KX, hb, fun H a ns hl _ hS => ⟨a, ns, rfl, hS, hl, fun _ => rfl⟩, hF⟩

#print axioms PySem.Challenge.cw_appendlease_k07_whole_surely_past_is_nev_holds
