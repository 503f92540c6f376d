import PyProof.Rows.All
import Wide.All
import OpenK.AllK
import Wide.FinOn
import KE.KStateDown
import HandS.ForMost
import HandS.More
import HandS.Exc
import HandS.TryOnly
import HandS.ExcOwn
import HandS.WordsExc
import HandS.Defaults
import HandS.MakeKwOnly
import HandS.IsInst
import HandS.Flow
import HandS.Evl
import HandS.Walk
import HandS.Wide
import HandS.Head0
import HandS.Head1
import HandS.Head2
import HandS.HeadEnd
import HandS.HeadHook1
import HandS.HeadHook2
import PyProof.NeKinds
import HandS.NoneIn
import PySem.Challenge.RW_appendlease_k06_clocks_told
set_option Elab.async false
set_option linter.all false
set_option maxRecDepth 100000
set_option maxHeartbeats 4000000
namespace My
open PySem PySem.Spec PyProof.Rows L2
def top (i : Nat) : Stmt := PySem.Challenge.pw_appendlease_k06_clocks_told.main.body.getD i (.Pass ⟨0, 0, 0, 0⟩)
abbrev sNoNumber___init__ : Stmt := inClass (top 2) 0
abbrev sis_whole : Stmt := top 4
abbrev sis_from : Stmt := top 5
abbrev sClock___init__ : Stmt := inClass (top 10) 0
abbrev sClock_look_at_off : Stmt := inClass (top 10) 1
abbrev sClock_tick : Stmt := inClass (top 10) 2
abbrev sClock_put_off : Stmt := inClass (top 10) 3
abbrev sClock_skew : Stmt := inClass (top 10) 4
abbrev sClock_off : Stmt := inClass (top 10) 5
abbrev sClock_true : Stmt := inClass (top 10) 6
abbrev sClock_shows : Stmt := inClass (top 10) 7
abbrev sClock_is_past : Stmt := inClass (top 10) 8
abbrev sClock_is_ahead : Stmt := inClass (top 10) 9
abbrev sClock_twin : Stmt := inClass (top 10) 10
abbrev s_law_pool : Stmt := top 12
abbrev s_law_take : Stmt := top 13
abbrev s_law_right : Stmt := top 14
abbrev s_law_gone : Stmt := top 15
abbrev slaw : Stmt := top 16
abbrev nNoNumber___init__ : List Str := ["self", "name", "number"]
abbrev pNoNumber___init__ : List Str := ["self", "name", "number"]
abbrev nis_whole : List Str := ["thing"]
abbrev pis_whole : List Str := ["thing"]
abbrev nis_from : List Str := ["thing", "least", "most"]
abbrev pis_from : List Str := ["thing", "least", "most"]
abbrev nClock___init__ : List Str := ["self", "skew", "off"]
abbrev pClock___init__ : List Str := ["self", "skew", "off"]
abbrev nClock_look_at_off : List Str := ["self", "name", "off"]
abbrev pClock_look_at_off : List Str := ["self", "name", "off"]
abbrev nClock_tick : List Str := ["self", "many"]
abbrev pClock_tick : List Str := ["self", "many"]
abbrev nClock_put_off : List Str := ["self", "by"]
abbrev pClock_put_off : List Str := ["self", "by"]
abbrev nClock_skew : List Str := ["self"]
abbrev pClock_skew : List Str := ["self"]
abbrev nClock_off : List Str := ["self"]
abbrev pClock_off : List Str := ["self"]
abbrev nClock_true : List Str := ["self"]
abbrev pClock_true : List Str := ["self"]
abbrev nClock_shows : List Str := ["self"]
abbrev pClock_shows : List Str := ["self"]
abbrev nClock_is_past : List Str := ["self", "time"]
abbrev pClock_is_past : List Str := ["self", "time"]
abbrev nClock_is_ahead : List Str := ["self", "time"]
abbrev pClock_is_ahead : List Str := ["self", "time"]
abbrev nClock_twin : List Str := ["self", "found"]
abbrev pClock_twin : List Str := ["self"]
abbrev n_law_pool : List Str := ["_law_script", "_law_k", "_law_cell", "_law_great", "_law_mixed"]
abbrev p_law_pool : List Str := ["_law_script", "_law_k"]
abbrev n_law_take : List Str := ["_law_pool_here", "_law_most", "_law_found"]
abbrev p_law_take : List Str := ["_law_pool_here", "_law_most"]
abbrev n_law_right : List Str := ["_law_clock", "_law_own", "_law_spread", "_law_true", "_law_apart", "_law_seen", "_law_time"]
abbrev p_law_right : List Str := ["_law_clock", "_law_own"]
abbrev n_law_gone : List Str := ["_law_pool_here", "_law_clock", "_law_own", "_law_way", "_law_steps"]
abbrev p_law_gone : List Str := ["_law_pool_here", "_law_clock", "_law_own"]
abbrev nlaw : List Str := ["_law_script", "_law_clock", "_law_k", "_law_pool_here", "_law_spread", "_law_own", "_law_turn", "_law_other", "_law_beside"]
abbrev plaw : List Str := ["_law_script"]
def dNoNumber___init__ : He.DefD := ⟨("NoNumber", some "__init__"), "__init__", "NoNumber.__init__", defArgs sNoNumber___init__, defBody sNoNumber___init__, defScope sNoNumber___init__, [], []⟩
def dis_whole : He.DefD := ⟨("is_whole", none), "is_whole", "is_whole", defArgs sis_whole, defBody sis_whole, defScope sis_whole, [], []⟩
def dis_from : He.DefD := ⟨("is_from", none), "is_from", "is_from", defArgs sis_from, defBody sis_from, defScope sis_from, [.non], []⟩
def dClock___init__ : He.DefD := ⟨("Clock", some "__init__"), "__init__", "Clock.__init__", defArgs sClock___init__, defBody sClock___init__, defScope sClock___init__, [], [("skew", (.int 2)), ("off", (.int 0))]⟩
def dClock_look_at_off : He.DefD := ⟨("Clock", some "look_at_off"), "look_at_off", "Clock.look_at_off", defArgs sClock_look_at_off, defBody sClock_look_at_off, defScope sClock_look_at_off, [], []⟩
def dClock_tick : He.DefD := ⟨("Clock", some "tick"), "tick", "Clock.tick", defArgs sClock_tick, defBody sClock_tick, defScope sClock_tick, [(.int 1)], []⟩
def dClock_put_off : He.DefD := ⟨("Clock", some "put_off"), "put_off", "Clock.put_off", defArgs sClock_put_off, defBody sClock_put_off, defScope sClock_put_off, [], []⟩
def dClock_skew : He.DefD := ⟨("Clock", some "skew"), "skew", "Clock.skew", defArgs sClock_skew, defBody sClock_skew, defScope sClock_skew, [], []⟩
def dClock_off : He.DefD := ⟨("Clock", some "off"), "off", "Clock.off", defArgs sClock_off, defBody sClock_off, defScope sClock_off, [], []⟩
def dClock_true : He.DefD := ⟨("Clock", some "true"), "true", "Clock.true", defArgs sClock_true, defBody sClock_true, defScope sClock_true, [], []⟩
def dClock_shows : He.DefD := ⟨("Clock", some "shows"), "shows", "Clock.shows", defArgs sClock_shows, defBody sClock_shows, defScope sClock_shows, [], []⟩
def dClock_is_past : He.DefD := ⟨("Clock", some "is_past"), "is_past", "Clock.is_past", defArgs sClock_is_past, defBody sClock_is_past, defScope sClock_is_past, [], []⟩
def dClock_is_ahead : He.DefD := ⟨("Clock", some "is_ahead"), "is_ahead", "Clock.is_ahead", defArgs sClock_is_ahead, defBody sClock_is_ahead, defScope sClock_is_ahead, [], []⟩
def dClock_twin : He.DefD := ⟨("Clock", some "twin"), "twin", "Clock.twin", defArgs sClock_twin, defBody sClock_twin, defScope sClock_twin, [], []⟩
def d_law_pool : He.DefD := ⟨("_law_pool", none), "_law_pool", "_law_pool", defArgs s_law_pool, defBody s_law_pool, defScope s_law_pool, [], []⟩
def d_law_take : He.DefD := ⟨("_law_take", none), "_law_take", "_law_take", defArgs s_law_take, defBody s_law_take, defScope s_law_take, [], []⟩
def d_law_right : He.DefD := ⟨("_law_right", none), "_law_right", "_law_right", defArgs s_law_right, defBody s_law_right, defScope s_law_right, [], []⟩
def d_law_gone : He.DefD := ⟨("_law_gone", none), "_law_gone", "_law_gone", defArgs s_law_gone, defBody s_law_gone, defScope s_law_gone, [], []⟩
def dlaw : He.DefD := ⟨("law", none), "law", "law", defArgs slaw, defBody slaw, defScope slaw, [], []⟩
def fn : List He.DefD := [dNoNumber___init__, dis_whole, dis_from, dClock___init__, dClock_look_at_off, dClock_tick, dClock_put_off, dClock_skew, dClock_off, dClock_true, dClock_shows, dClock_is_past, dClock_is_ahead, dClock_twin, d_law_pool, d_law_take, d_law_right, d_law_gone, dlaw]
def fa : List He.Fa := [.glo "is_whole", .glo "is_from", .glo "_law_pool", .glo "_law_take", .glo "_law_right", .glo "_law_gone", .glo "law", .glo "LeaseError", .glo "NoNumber", .glo "Clock", .cls "Clock", .mkr "Clock", .meth "Clock" "look_at_off", .meth "Clock" "tick", .meth "Clock" "put_off", .meth "Clock" "skew", .meth "Clock" "off", .meth "Clock" "true", .meth "Clock" "shows", .meth "Clock" "is_past", .meth "Clock" "is_ahead", .meth "Clock" "twin", .noat "Clock" "own_off", .noat "Clock" "own_skew", .noat "Clock" "own_true", .int "SKEW" 2, .int "MOST_SKEW" 10, .int "MOST_TICKS" 1000, .free "ValueError", .free "bool", .free "int", .free "isinstance", .free "len", .free "list", .free "max", .free "min", .free "range", .free "repr"]
abbrev R : PySem.W.OpenRow := PySem.W.OpenLaw.row PySem.Challenge.rw_appendlease_k06_clocks_told
abbrev hk : PySem.W.Hook := He.hookD 6 fa fn
def ob (s : PySem.W.SharedT) : He.AlD := He.obsDG 6 fa fn (HandSHeadRun.getT s)
theorem ob_eq (s : PySem.W.SharedT) : ob s = hk.obs s.abs := He.obsDG_eq (HandSHeadRun.getT_eq s)
def loose0 : List Str := ["__name__", "LeaseError", "NoNumber", "is_whole", "is_from", "SKEW", "MOST_SKEW", "MOST_TICKS", "Clock", "_law_pool", "_law_take", "_law_right", "_law_gone"]
abbrev loose : List Str := loose0
abbrev qv : Program := PySem.W.view R.prog [16]
theorem run (w : World) : HandSHeadRun.RunEq R qv hk ob 6000 loose w := by
  intro os
  kernel_rfl
/-! ### common words over the hand layer -/
section
variable {X : Cx}
/-- == and != of a list (whatever its items are) and an empty one -/
def rEqLen (K : PySem.W.Frag) : R2 := fun x y H Q => ∃ a b xs, x = .ref a ∧ y = .ref b ∧ SqL K H a xs ∧ SqL K H b [] ∧ Q (.bl xs.isEmpty) H
def rNeLen (K : PySem.W.Frag) : R2 := fun x y H Q => ∃ a b xs, x = .ref a ∧ y = .ref b ∧ SqL K H a xs ∧ SqL K H b [] ∧ Q (.bl (!xs.isEmpty)) H
theorem isl_of {h : Heap} {a : Addr} {its : Array Value} (p : PlainL h a its) : h.IsList a its := by
  obtain ⟨o, n, e, c, _, d⟩ := p
  exact ⟨o, e, c, n, d⟩
theorem op_eqLen (hu : X.A.units + 1 < cLine) : OpR X (compareOp .Eq) (rEqLen X.K) := by
  intro pins s σ H x y v u Q I rx ry h
  obtain ⟨a, b, xs, rfl, rfl, h1, h2, q⟩ := h
  cases rx
  cases ry
  obtain ⟨i1, r1, p1, _⟩ := I.list h1
  obtain ⟨i2, r2, p2, _⟩ := I.list h2
  have hu' : X.A.units < cLine := by omega
  cases r2
  cases xs with
  | nil =>
    cases r1
    refine SeqAt.eq_listAt (e := fun _ => true) (isl_of p1) (isl_of p2) rfl hu' (fun j h1 => absurd h1 (by simp)) ?_
    exact ⟨.bl true, H, I, rfl, q⟩
  | cons z zs =>
    cases r1 with
    | cons r t =>
      refine SeqAt.eq_list_lengthsAt (isl_of p1) (isl_of p2) (by simp) hu' ?_
      exact ⟨.bl false, H, I, rfl, q⟩
theorem op_neLen (hu : X.A.units + 1 < cLine) : OpR X (compareOp .NotEq) (rNeLen X.K) := by
  intro pins s σ H x y v u Q I rx ry h
  obtain ⟨a, b, xs, rfl, rfl, h1, h2, q⟩ := h
  cases rx
  cases ry
  obtain ⟨i1, r1, p1, _⟩ := I.list h1
  obtain ⟨i2, r2, p2, _⟩ := I.list h2
  have hu' : X.A.units < cLine := by omega
  cases r2
  cases xs with
  | nil =>
    cases r1
    refine SeqAt.RcNeAt.lists (e := fun _ => true) (isl_of p1) (isl_of p2) rfl hu' (fun j h1 => absurd h1 (by simp)) _ _ _ _ ?_
    exact ⟨.bl false, H, I, rfl, q⟩
  | cons z zs =>
    cases r1 with
    | cons r t =>
      refine SeqAt.RcNeAt.lists_lengths (isl_of p1) (isl_of p2) (by simp) hu' _ _ _ _ ?_
      exact ⟨.bl true, H, I, rfl, q⟩
end
section
variable {X : Cx}
def tfS (b : Bool) : Str := if b then "True" else "False"
theorem call_reprB : CallR X (.builtin "repr") (fun xs H Q => ∃ b, xs = [.bl b] ∧ Q (.str (tfS b)) H) := by
  intro pins s σ H xs us Q I r h
  obtain ⟨b, rfl, q⟩ := h
  obtain ⟨u, rfl, ru⟩ := vals1 r
  cases (show u = Value.bool b from ru)
  exact PySem.P.repr_of_bool ⟨.str _, H, I.tok _, ⟨_, rfl⟩, q⟩
end
/-! ### rules whose readings name the written part by a letter: they may stand within comprehensions -/
section
variable {X : Cx} (K : PySem.W.Frag)
theorem pi_listK {tg l : Expr} {tl : TE} (hl : PE X l tl) (hK : X.K = K := by rfl) : PI X tg l (iList K tl) := hK ▸ pi_list hl
theorem pi_tupK {tg l : Expr} {tl : TE} (hl : PE X l tl) (hK : X.K = K := by rfl) : PI X tg l (iTup K tl) := hK ▸ pi_tup hl
theorem pe_fldK {e : Expr} {f : Str} {pos : Pos} {ta : TE} (he : PE X e ta) (hb : attributeBase e f X.env (eval e X.env) = eval e X.env) (hK : X.K = K := by rfl) : PE X (.Attribute e f pos) (tFld K ta f) := hK ▸ pe_fld he hb
theorem ix_listK (hK : X.K = K := by rfl) : IxR X (rIxL K) := hK ▸ ix_list
theorem ix_tupK (hK : X.K = K := by rfl) : IxR X (rIxT K) := hK ▸ ix_tup
theorem sl_listK (hK : X.K = K := by rfl) : SlR X (rSlL K) := hK ▸ sl_list
theorem op_eqDK (hu : X.A.units + 64 < cLine) (hK : X.K = K := by rfl) : OpR X (compareOp .Eq) (rEqD K) := hK ▸ op_eqD hu
theorem op_neDK (hu : X.A.units + 64 < cLine) (hK : X.K = K := by rfl) : OpR X (compareOp .NotEq) (rNeD K) := hK ▸ op_neD hu
theorem op_eqLenK (hu : X.A.units + 1 < cLine) (hK : X.K = K := by rfl) : OpR X (compareOp .Eq) (rEqLen K) := hK ▸ op_eqLen hu
theorem op_neLenK (hu : X.A.units + 1 < cLine) (hK : X.K = K := by rfl) : OpR X (compareOp .NotEq) (rNeLen K) := hK ▸ op_neLen hu
theorem call_lenK (hK : X.K = K := by rfl) : CallR X (.builtin "len") (fun xs H Q => ∃ p ys, xs = [.ref p] ∧ (SqL K H p ys ∨ SqT K H p ys) ∧ Q (.int ys.length) H) := hK ▸ call_len_seq
theorem call_listK (hK : X.K = K := by rfl) : CallR X (.type "list") (fun xs H Q => ∃ p ys, xs = [.ref p] ∧ (SqL K H p ys ∨ SqT K H p ys) ∧ ∀ l, H l = none → Q (.ref l) (upd H l (.lst ys))) := hK ▸ call_list_of
theorem call_isiK' (hK : X.K = K := by rfl) : CallR X (.builtin "isinstance") (rIsi K) := hK ▸ call_isi
end
section
variable (P : Program) (w : World) (K : PySem.W.Frag) (mg : Str → Option Value) (base : Heap)
/-- a def of the module keeps a promise -/
def Df (k : Nat) (x : Str) (ps : List Str) (sp : Sp) : Prop := ∃ (f : Addr) (fd : FuncData), mg x = some (.ref f) ∧ PySem.W.keepIn K (.ref f) = true ∧ Binds K fd ps [] ∧ FnOk P w K mg base CX0 k f fd ps sp
/-- a method of the class at C keeps a promise -/
def Dm (C : Addr) (k : Nat) (m : Str) (ps : List Str) (sp : Sp) : Prop := ∃ (f : Addr) (fd : FuncData), Meth K C m f ∧ Binds K fd ps [] ∧ FnOk P w K mg base CX0 k f fd ps sp
end
/-! ### heaps -/
theorem Same.new {H : Hp} {p : Addr} {o : HO} (h : H p = none) : Same H (upd H p o) := fun b u e => by
  rw [upd_ne (ne_of_none e h)]
  exact e
/-- what H does not track may change -/
theorem Same.mut {H H' : Hp} {p : Addr} {o : HO} (e : Same H H') (h : H p = none) : Same H (upd H' p o) := fun b u hb => by
  rw [upd_ne (ne_of_none hb h)]
  exact e b u hb
/-- what stands beside what is changed -/
theorem same_at {H H' : Hp} {p b : Addr} {o u : HO} (s : Same (upd H p o) H') (e : H b = some u) (ne : b ≠ p) : H' b = some u := s b u (by rw [upd_ne ne]; exact e)
theorem same_here {H H' : Hp} {p : Addr} {o : HO} (s : Same (upd H p o) H') : H' p = some o := s p o upd_same
theorem same_upd2 {H H' : Hp} {p : Addr} {o u : HO} (s : Same (upd H p o) H') : Same (upd H p u) (upd H' p u) := fun b v e => by
  by_cases hb : b = p
  · subst hb
    rw [upd_same] at e ⊢
    exact e
  · rw [upd_ne hb] at e ⊢
    exact s b v (by rw [upd_ne hb]; exact e)
theorem same_sql {K : PySem.W.Frag} {H H' : Hp} {a : Addr} {xs : List V} (e : Same H H') (h : SqL K H a xs) : SqL K H' a xs := e.seq h
/-- [g x for x in xs if f x]: tests and elements may lay new things, and change none -/
theorem lc_mapf {K : PySem.W.Frag} {a : Addr} {xs : List V} {j : Nat} {tt : TT} {te : TE} {vs : List Nat} {σ : L2.St} {H1 : Hp} {D : Addr} {Qd : Hp → Prop} (f : V → Bool) (g : V → V) (hx : SqL K H1 a xs) (hD : H1 D = none) (hz : xs.length ≤ 100000)
    (hw : ∀ x, wipe ((wipe σ vs).set j (some x)) vs = wipe σ vs)
    (ht : ∀ x H', x ∈ xs → Same H1 H' → ∀ Q : Bool → Hp → Prop, (∀ H'', Same H' H'' → Q (f x) H'') → tt ((wipe σ vs).set j (some x)) H' Q)
    (he : ∀ x H', x ∈ xs → f x = true → Same H1 H' → ∀ Q : VK, (∀ H'', Same H' H'' → Q (g x) H'') → te ((wipe σ vs).set j (some x)) H' Q)
    (hd : ∀ H', Same H1 H' → H' D = some (.lst ((xs.filter f).map g)) → Qd H') :
    ∃ W : Nat → Nat → Hp → Prop, (∃ m, W 0 m (upd H1 D (.lst []))) ∧ ∀ i m H, W i m H →
      ((Itl K a).stop i H ∧ Qd H) ∨ ((Itl K a).go i H ∧ ∃ Nx : Hp → Prop, (∀ H', Nx H' → ∃ m', m' < m ∧ W (i + 1) m' H') ∧ ∀ x H', (Itl K a).yld i H x H' → gName j x (wipe σ vs) H' fun σ2 H2 => wipe σ2 vs = wipe σ vs ∧ tt σ2 H2 fun b H3 =>
        if b = true then te σ2 H3 fun y H4 => ∃ acc, H4 D = some (.lst acc) ∧ acc.length < sizeLine ∧ Nx (upd H4 D (.lst (acc ++ [y]))) else Nx H3) := by
  have tk : ∀ (i : Nat) (x : V), xs[i]? = some x → xs.take (i + 1) = xs.take i ++ [x] := fun i x h => by
    rw [List.take_add_one, h]
    rfl
  refine lc_list (xs := xs) (fun i H' => Same H1 H' ∧ H' D = some (.lst (((xs.take i).filter f).map g))) ⟨Same.new hD, upd_same⟩ (fun i H' _ p => p.1.seq hx) (fun i x H' hi p => ?_) (fun H' p => ?_)
  · obtain ⟨p1, p2⟩ := p
    have hm : x ∈ xs := List.mem_of_getElem? hi
    have hlen : i < xs.length := (List.getElem?_eq_some_iff.mp hi).1
    refine ⟨hw x, ht x H' hm p1 _ fun H3 s3 => ?_⟩
    cases hf : f x with
    | true =>
      show te _ H3 _
      refine he x H3 hm hf (p1.trans s3) _ fun H4 s4 => ⟨_, s4 _ _ (s3 _ _ p2), ?_, Same.mut ((p1.trans s3).trans s4) hD, ?_⟩
      · have h1 := List.length_filter_le f (xs.take i)
        rw [List.length_take] at h1
        rw [List.length_map]
        exact Nat.lt_of_le_of_lt (show _ ≤ 100000 by omega) (by decide)
      · rw [upd_same, tk i x hi, List.filter_append, List.map_append, List.filter_cons, if_pos hf]
        rfl
    | false =>
      refine ⟨p1.trans s3, ?_⟩
      rw [s3 _ _ p2, tk i x hi, List.filter_append, List.map_append, List.filter_cons, if_neg (by rw [hf]; decide)]
      simp
  · obtain ⟨p1, p2⟩ := p
    rw [List.take_length] at p2
    exact hd H' p1 p2
theorem rv_neLen {K : PySem.W.Frag} {H : Hp} {a p : Addr} {xs : List V} (h : SqL K H a xs) (hp : H p = some (.lst [])) : Evl.RV (rNeLen K) (.ref a) (.ref p) H (.bl (!xs.isEmpty)) := fun H1 e _ q => ⟨a, p, xs, rfl, rfl, Evl.ex_l e h, SqL.of (e _ _ hp), q H1 (Evl.Ex.refl H1)⟩
theorem rv_eqLen {K : PySem.W.Frag} {H : Hp} {a p : Addr} {xs : List V} (h : SqL K H a xs) (hp : H p = some (.lst [])) : Evl.RV (rEqLen K) (.ref a) (.ref p) H (.bl xs.isEmpty) := fun H1 e _ q => ⟨a, p, xs, rfl, rfl, Evl.ex_l e h, SqL.of (e _ _ hp), q H1 (Evl.Ex.refl H1)⟩
/-- x != [], x == [] -/
theorem et_neNil {K : PySem.W.Frag} {σ : L2.St} {H : Hp} {ta : TE} {a : Addr} {xs : List V} (ha : Evl.Ev ta σ H (.ref a)) (h : SqL K H a xs) : Evl.EvT (tTest (tOp (rNeLen K) ta (tLst tNil))) σ H (!xs.isEmpty) :=
  Evl.et_test (Evl.ev_opL ha (Evl.el_lst Evl.ea_nil (by show 0 ≤ 100000; decide)) fun _ _ hp e => rv_neLen (Evl.ex_l e h) hp)
section
variable (P : Program) (w : World) (K : PySem.W.Frag) (mg : Str → Option Value) (base : Heap)
/-- the class x at C is made by keywords ks: __init__ keeps a promise -/
def Dk (C : Addr) (k : Nat) (x : Str) (ps : List Str) (n : Nat) (ks : List Str) (gV : List V → List V → List V) (sp : Sp) : Prop := ∃ (f : Addr) (fd : FuncData) (g : List Value → List Value → List Value), Mk K C f ∧ mg x = some (.ref C) ∧ KBn K fd ps n ks g gV ∧ FnOk P w K mg base CX0 k f fd ps sp
end
theorem binds_nil {K : PySem.W.Frag} {fd : FuncData} {ps : List Str} (h : ∃ ds, Vals [] ds ∧ Binds K fd ps ds) : Binds K fd ps [] := by
  obtain ⟨ds, h1, h2⟩ := h
  cases h1
  exact h2
section
variable (P : Program) (w : World) (K : PySem.W.Frag) (mg : Str → Option Value) (base : Heap)
/-- a method, a class, called while defaults dvs fill up -/
def Dmd (C : Addr) (k : Nat) (m : Str) (ps : List Str) (dvs : List V) (sp : Sp) : Prop := ∃ (f : Addr) (fd : FuncData) (ds : List Value), Meth K C m f ∧ Vals dvs ds ∧ Binds K fd ps ds ∧ FnOk P w K mg base CX0 k f fd ps sp
def Dkd (C : Addr) (k : Nat) (x : Str) (ps : List Str) (dvs : List V) (sp : Sp) : Prop := ∃ (f : Addr) (fd : FuncData) (ds : List Value), Mk K C f ∧ mg x = some (.ref C) ∧ Vals dvs ds ∧ Binds K fd ps ds ∧ FnOk P w K mg base CX0 k f fd ps sp
end
theorem vals_reverse : ∀ {xs : List V} {us : List Value}, Vals xs us → Vals xs.reverse us.reverse
  | _, _, .nil => .nil
  | _, _, .cons r t => by
    rw [List.reverse_cons, List.reverse_cons]
    exact (vals_reverse t).append (.cons r .nil)

/-! ### is_whole, is_from -/
def spWholeI : Sp := fun vs H Q _ => ∃ x : Int, vs = [.int x] ∧ Q (.bl true) H
def spFromI : Sp := fun vs H Q _ => ∃ x l m : Int, vs = [.int x, .int l, .int m] ∧ Q (.bl (decide (l ≤ x) && decide (x ≤ m))) H
section
variable {P : Program} {w : World} {K : PySem.W.Frag} {mg : Str → Option Value} {base : Heap}
theorem scis_whole : FnScope nis_whole pis_whole (defScope sis_whole) := ⟨rfl, rfl, rfl, by decide +kernel, rfl, by decide +kernel, by decide +kernel⟩
theorem ok_is_whole (m_isinstance : mg "isinstance" = none) (m_int : mg "int" = none) (m_bool : mg "bool" = none) {f : Addr} {fd : FuncData} (F : FunD K "is_whole" "is_whole" (defArgs sis_whole) (defBody sis_whole) (defScope sis_whole) [] [] f fd) : FnOk P w K mg base CX0 1 f fd pis_whole spWholeI := by
  refine F.ok scis_whole (fun vs H Q E h => ?_) (fun cdv A outer s H vs Q E hr h => ?_)
  · obtain ⟨x, rfl, _⟩ := h
    rfl
  · obtain ⟨x, rfl, k⟩ := h
    refine ⟨_, PSs.nox (pss_one (ps_ret (pe_and (pe_callB (call_isiK' K) (by rfl) m_isinstance (by decide +kernel) (pa_cons (pv 0) (pa_cons (pe_bltn (v := .ty "int") (u := .type "int") (by rfl) m_int (by decide +kernel) rfl) pa_nil))) (pe_one (pe_not (pe_callB (call_isiK' K) (by rfl) m_isinstance (by decide +kernel) (pa_cons (pv 0) (pa_cons (pe_bltn (v := .ty "bool") (u := .type "bool") (by rfl) m_bool (by decide +kernel) rfl) pa_nil)))))))), ?_⟩
    refine ⟨_, rfl, _, _, _, _, true, rfl, .ty _, .base (.int _), kit_ty (by decide +kernel), true, rfl, iteT ?_⟩
    refine ⟨_, rfl, _, _, _, _, false, rfl, .ty _, .base (.int _), kit_ty (by decide +kernel), false, rfl, ?_⟩
    exact k
theorem scis_from : FnScope nis_from pis_from (defScope sis_from) := ⟨rfl, rfl, rfl, by decide +kernel, rfl, by decide +kernel, by decide +kernel⟩
theorem ok_is_from (D_is_whole : Df P w K mg base 1 "is_whole" pis_whole spWholeI) {f : Addr} {fd : FuncData} (F : FunD K "is_from" "is_from" (defArgs sis_from) (defBody sis_from) (defScope sis_from) [.non] [] f fd) : FnOk P w K mg base CX0 2 f fd pis_from spFromI := by
  obtain ⟨f_is_whole, fd_is_whole, m_is_whole, k_is_whole, b_is_whole, G_is_whole⟩ := D_is_whole
  refine F.ok scis_from (fun vs H Q E h => ?_) (fun cdv A outer s H vs Q E hr h => ?_)
  · obtain ⟨x, l, m, rfl, _⟩ := h
    rfl
  · obtain ⟨x, l, m, rfl, k⟩ := h
    refine ⟨_, PSs.nox (pss_one (ps_ret (pe_and (pe_call G_is_whole (by exact hr.mono (by decide)) rfl m_is_whole k_is_whole b_is_whole .nil pass0 (pa_cons (pv 0) pa_nil)) (pe_and (pe_cmpR op_ge (pv 0) (pv 1) (nomark _)) (pe_one (pe_or (pe_cmpR op_isN (pv 2) pe_non (nomark _)) (pe_one (pe_cmpR op_le (pv 0) (pv 2) (nomark _))))))))), ?_⟩
    refine ⟨_, rfl, x, rfl, true, rfl, iteT ?_⟩
    refine ⟨_, rfl, _, rfl, _, _, rfl, rfl, _, rfl, ?_⟩
    by_cases h1 : l ≤ x
    · rw [decide_eq_true h1] at k ⊢
      refine iteT ⟨_, rfl, rfl, false, rfl, iteF ⟨_, rfl, _, rfl, _, _, rfl, rfl, ?_⟩⟩
      exact k
    · rw [decide_eq_false h1] at k ⊢
      exact iteF k
end

/-! ### a Clock -/
def ck (s t o : Int) : List (Str × V) := [("own_skew", .int s), ("own_true", .int t), ("own_off", .int o)]
theorem ck_skew (s t o : Int) : (ck s t o).lookup ("own_skew" : Str) = some (.int s) := rfl
theorem ck_true (s t o : Int) : (ck s t o).lookup ("own_true" : Str) = some (.int t) := rfl
theorem ck_off (s t o : Int) : (ck s t o).lookup ("own_off" : Str) = some (.int o) := rfl
theorem ck_putT (s t o n : Int) : putF "own_true" (.int n) (ck s t o) = ck s n o := rfl
theorem ck_putO (s t o n : Int) : putF "own_off" (.int n) (ck s t o) = ck s t n := rfl
structure ClockTx (K : PySem.W.Frag) (mg : Str → Option Value) (C : Addr) : Prop where
  c : Cls K C
  nS : NoAttr K C "own_skew"
  nT : NoAttr K C "own_true"
  nO : NoAttr K C "own_off"
  mSkew : ∃ t, mg "MOST_SKEW" = some (.int 10 t)
  mTicks : ∃ t, mg "MOST_TICKS" = some (.int 1000 t)
def spLook (C : Addr) : Sp := fun vs H Q _ => ∃ (p dx : Addr) (x : Str) (b s : Int) (fs : List (Str × V)), vs = [.ref p, .str x, .int b] ∧ H p = some (.ins C dx fs) ∧ fs.lookup ("own_skew" : Str) = some (.int s) ∧ -s ≤ b ∧ b ≤ s ∧ Q .non H
def spInit (C : Addr) : Sp := fun vs H Q _ => ∃ (p dx : Addr) (s o : Int), vs = [.ref p, .int s, .int o] ∧ H p = some (.ins C dx []) ∧ 0 ≤ s ∧ s ≤ 10 ∧ -s ≤ o ∧ o ≤ s ∧ Q .non (upd H p (.ins C dx (ck s 0 o)))
def spTick (C : Addr) : Sp := fun vs H Q _ => ∃ (p dx : Addr) (s t o n : Int), vs = [.ref p, .int n] ∧ H p = some (.ins C dx (ck s t o)) ∧ 0 ≤ n ∧ n ≤ 1000 ∧ Q .non (upd H p (.ins C dx (ck s (t + n) o)))
def spPutOff (C : Addr) : Sp := fun vs H Q _ => ∃ (p dx : Addr) (s t o n : Int), vs = [.ref p, .int n] ∧ H p = some (.ins C dx (ck s t o)) ∧ -s ≤ n ∧ n ≤ s ∧ Q .non (upd H p (.ins C dx (ck s t n)))
def spGet (C : Addr) (g : Int → Int → Int → Int) : Sp := fun vs H Q _ => ∃ (p dx : Addr) (s t o : Int), vs = [.ref p] ∧ H p = some (.ins C dx (ck s t o)) ∧ Q (.int (g s t o)) H
def spPast (C : Addr) : Sp := fun vs H Q _ => ∃ (p dx : Addr) (s t o x : Int), vs = [.ref p, .int x] ∧ H p = some (.ins C dx (ck s t o)) ∧ Q (.bl (decide (x ≤ t + o - s))) H
def spAhead (C : Addr) : Sp := fun vs H Q _ => ∃ (p dx : Addr) (s t o x : Int), vs = [.ref p, .int x] ∧ H p = some (.ins C dx (ck s t o)) ∧ Q (.bl (decide (t + o + s < x))) H
section
variable {P : Program} {w : World} {K : PySem.W.Frag} {mg : Str → Option Value} {base : Heap} {C : Addr}
theorem scClock_look_at_off : FnScope nClock_look_at_off pClock_look_at_off (defScope sClock_look_at_off) := ⟨rfl, rfl, rfl, by decide +kernel, rfl, by decide +kernel, by decide +kernel⟩
theorem ok_look (T : ClockTx K mg C) (D_is_whole : Df P w K mg base 1 "is_whole" pis_whole spWholeI) {f : Addr} {fd : FuncData} (F : FunD K "look_at_off" "Clock.look_at_off" (defArgs sClock_look_at_off) (defBody sClock_look_at_off) (defScope sClock_look_at_off) [] [] f fd) : FnOk P w K mg base CX0 2 f fd pClock_look_at_off (spLook C) := by
  obtain ⟨f_is_whole, fd_is_whole, m_is_whole, k_is_whole, b_is_whole, G_is_whole⟩ := D_is_whole
  refine F.ok scClock_look_at_off (fun vs H Q E h => ?_) (fun cdv A outer s H vs Q E hr h => ?_)
  · obtain ⟨p, dx, x, b, s, fs, rfl, _⟩ := h
    rfl
  · obtain ⟨p, dx, x, b, s, fs, rfl, hp, hs, h1, h2, k⟩ := h
    refine ⟨_, PSs.nox (pss_one (ps_if (PW.pt (pw_or (pt_not (pt_val (pe_call G_is_whole (by exact hr.mono (by decide)) rfl m_is_whole k_is_whole b_is_whole .nil pass0 (pa_cons (pv 2) pa_nil)))) (pw_or1 (pt_not (pt_chain op_le op_le (pe_un un_neg (pe_fldK K (pv 0) rfl)) (pv 2) (pe_fldK K (pv 0) rfl)))))) (pss_one ps_never) pss_nil)), ?_⟩
    refine ⟨_, rfl, b, rfl, true, rfl, iteF ?_⟩
    refine ⟨_, rfl, p, C, dx, fs, _, rfl, hp, T.c, T.nS, hs, _, rfl, _, rfl, _, _, rfl, rfl, true, ?_, ?_⟩
    · exact congrArg V.bl (decide_eq_true h1)
    refine iteT ⟨_, rfl, p, C, dx, fs, _, rfl, hp, T.c, T.nS, hs, _, _, rfl, rfl, true, ?_, iteF k⟩
    exact congrArg V.bl (decide_eq_true h2)
theorem scClock___init__ : FnScope nClock___init__ pClock___init__ (defScope sClock___init__) := ⟨rfl, rfl, rfl, by decide +kernel, rfl, by decide +kernel, by decide +kernel⟩
theorem ok_init (T : ClockTx K mg C) (D_is_from : Df P w K mg base 2 "is_from" pis_from spFromI) (D_look_at_off : Dm P w K mg base C 2 "look_at_off" pClock_look_at_off (spLook C)) {f : Addr} {fd : FuncData} (F : FunD K "__init__" "Clock.__init__" (defArgs sClock___init__) (defBody sClock___init__) (defScope sClock___init__) [] [("skew", (.int 2)), ("off", (.int 0))] f fd) : FnOk P w K mg base CX0 3 f fd pClock___init__ (spInit C) := by
  obtain ⟨f_is_from, fd_is_from, m_is_from, k_is_from, b_is_from, G_is_from⟩ := D_is_from
  obtain ⟨f_look_at_off, fd_look_at_off, me_look_at_off, b_look_at_off, G_look_at_off⟩ := D_look_at_off
  have c_Clock := T.c
  obtain ⟨tk, m_MOST_SKEW⟩ := T.mSkew
  refine F.ok scClock___init__ (fun vs H Q E h => ?_) (fun cdv A outer s H vs Q E hr h => ?_)
  · obtain ⟨p, dx, s, o, rfl, _⟩ := h
    rfl
  · obtain ⟨p, dx, s, o, rfl, hp, h1, h2, h3, h4, k⟩ := h
    refine ⟨_, PSs.nox (pss_cons (ps_if (pt_not (pt_val (pe_call G_is_from (by exact hr.mono (by decide)) rfl m_is_from k_is_from b_is_from .nil pass0 (pa_cons (pv 1) (pa_cons pe_int (pa_cons (pe_glob (v := (.int 10)) rfl m_MOST_SKEW ⟨_, rfl⟩) pa_nil)))))) (pss_one ps_never) pss_nil) (pss_cons (ps_fld (pv 0) (pv 1) rfl) (pss_cons (ps_fld (pv 0) pe_int rfl) (pss_cons (ps_expr (pe_meth (pv 0) c_Clock me_look_at_off G_look_at_off (by exact hr.mono (by decide)) b_look_at_off .nil pass0 (pa_cons pe_str (pa_cons (pv 2) pa_nil)))) (pss_one (ps_fld (pv 0) (pv 2) rfl)))))), ?_⟩
    refine ⟨_, rfl, s, 0, 10, rfl, true, ?_, iteF ?_⟩
    · exact congrArg V.bl (by rw [decide_eq_true h1, decide_eq_true h2]; rfl)
    refine ⟨_, rfl, _, rfl, p, C, dx, [], rfl, hp, T.c, T.nS, (by show 0 < 1000; decide), ?_⟩
    refine ⟨_, rfl, p, C, dx, _, rfl, upd_same, T.c, T.nT, (by show 1 < 1000; decide), ?_⟩
    refine ⟨_, rfl, p, dx, _, rfl, upd_same, rfl, _, rfl, p, dx, _, o, s, _, rfl, upd_same, rfl, h3, h4, ?_⟩
    refine ⟨_, rfl, _, rfl, p, C, dx, _, rfl, upd_same, T.c, T.nO, (by show 2 < 1000; decide), ?_⟩
    show Q .non _
    rw [upd_upd, upd_upd]
    exact k
theorem scClock_tick : FnScope nClock_tick pClock_tick (defScope sClock_tick) := ⟨rfl, rfl, rfl, by decide +kernel, rfl, by decide +kernel, by decide +kernel⟩
theorem ok_tick (T : ClockTx K mg C) (D_is_from : Df P w K mg base 2 "is_from" pis_from spFromI) {f : Addr} {fd : FuncData} (F : FunD K "tick" "Clock.tick" (defArgs sClock_tick) (defBody sClock_tick) (defScope sClock_tick) [(.int 1)] [] f fd) : FnOk P w K mg base CX0 3 f fd pClock_tick (spTick C) := by
  obtain ⟨f_is_from, fd_is_from, m_is_from, k_is_from, b_is_from, G_is_from⟩ := D_is_from
  obtain ⟨tk, m_MOST_TICKS⟩ := T.mTicks
  refine F.ok scClock_tick (fun vs H Q E h => ?_) (fun cdv A outer s H vs Q E hr h => ?_)
  · obtain ⟨p, dx, s, t, o, n, rfl, _⟩ := h
    rfl
  · obtain ⟨p, dx, s, t, o, n, rfl, hp, h1, h2, k⟩ := h
    refine ⟨_, PSs.nox (pss_cons (ps_if (pt_not (pt_val (pe_call G_is_from (by exact hr.mono (by decide)) rfl m_is_from k_is_from b_is_from .nil pass0 (pa_cons (pv 1) (pa_cons pe_int (pa_cons (pe_glob (v := (.int 1000)) rfl m_MOST_TICKS ⟨_, rfl⟩) pa_nil)))))) (pss_one ps_never) pss_nil) (pss_one (ps_fldaug (pv 0) (pv 1) in_add))), ?_⟩
    refine ⟨_, rfl, n, 0, 1000, rfl, true, ?_, iteF ?_⟩
    · exact congrArg V.bl (by rw [decide_eq_true h1, decide_eq_true h2]; rfl)
    refine ⟨_, rfl, p, C, dx, _, _, rfl, hp, T.c, T.nT, ck_true _ _ _, _, rfl, _, _, rfl, rfl, _, _, hp, (by show 3 < 1000; decide), ?_⟩
    exact k
theorem scClock_put_off : FnScope nClock_put_off pClock_put_off (defScope sClock_put_off) := ⟨rfl, rfl, rfl, by decide +kernel, rfl, by decide +kernel, by decide +kernel⟩
theorem ok_put_off (T : ClockTx K mg C) (D_look_at_off : Dm P w K mg base C 2 "look_at_off" pClock_look_at_off (spLook C)) {f : Addr} {fd : FuncData} (F : FunD K "put_off" "Clock.put_off" (defArgs sClock_put_off) (defBody sClock_put_off) (defScope sClock_put_off) [] [] f fd) : FnOk P w K mg base CX0 3 f fd pClock_put_off (spPutOff C) := by
  obtain ⟨f_look_at_off, fd_look_at_off, me_look_at_off, b_look_at_off, G_look_at_off⟩ := D_look_at_off
  have c_Clock := T.c
  refine F.ok scClock_put_off (fun vs H Q E h => ?_) (fun cdv A outer s H vs Q E hr h => ?_)
  · obtain ⟨p, dx, s, t, o, n, rfl, _⟩ := h
    rfl
  · obtain ⟨p, dx, s, t, o, n, rfl, hp, h1, h2, k⟩ := h
    refine ⟨_, PSs.nox (pss_cons (ps_expr (pe_meth (pv 0) c_Clock me_look_at_off G_look_at_off (by exact hr.mono (by decide)) b_look_at_off .nil pass0 (pa_cons pe_str (pa_cons (pv 1) pa_nil)))) (pss_one (ps_fld (pv 0) (pv 1) rfl))), ?_⟩
    refine ⟨_, rfl, p, dx, _, rfl, hp, rfl, _, rfl, p, dx, _, n, s, _, rfl, hp, ck_skew _ _ _, h1, h2, ?_⟩
    refine ⟨_, rfl, _, rfl, p, C, dx, _, rfl, hp, T.c, T.nO, (by show 3 < 1000; decide), ?_⟩
    exact k
theorem scClock_true : FnScope nClock_true pClock_true (defScope sClock_true) := ⟨rfl, rfl, rfl, by decide +kernel, rfl, by decide +kernel, by decide +kernel⟩
theorem ok_true (T : ClockTx K mg C) {f : Addr} {fd : FuncData} (F : FunD K "true" "Clock.true" (defArgs sClock_true) (defBody sClock_true) (defScope sClock_true) [] [] f fd) : FnOk P w K mg base CX0 1 f fd pClock_true (spGet C fun _ t _ => t) := by
  refine F.ok scClock_true (fun vs H Q E h => ?_) (fun cdv A outer s H vs Q E hr h => ?_)
  · obtain ⟨p, dx, s, t, o, rfl, _⟩ := h
    rfl
  · obtain ⟨p, dx, s, t, o, rfl, hp, k⟩ := h
    refine ⟨_, PSs.nox (pss_one (ps_ret (pe_fldK K (pv 0) rfl))), ?_⟩
    exact ⟨_, rfl, p, C, dx, _, _, rfl, hp, T.c, T.nT, ck_true _ _ _, k⟩
theorem scClock_shows : FnScope nClock_shows pClock_shows (defScope sClock_shows) := ⟨rfl, rfl, rfl, by decide +kernel, rfl, by decide +kernel, by decide +kernel⟩
theorem ok_shows (T : ClockTx K mg C) {f : Addr} {fd : FuncData} (F : FunD K "shows" "Clock.shows" (defArgs sClock_shows) (defBody sClock_shows) (defScope sClock_shows) [] [] f fd) : FnOk P w K mg base CX0 1 f fd pClock_shows (spGet C fun _ t o => t + o) := by
  refine F.ok scClock_shows (fun vs H Q E h => ?_) (fun cdv A outer s H vs Q E hr h => ?_)
  · obtain ⟨p, dx, s, t, o, rfl, _⟩ := h
    rfl
  · obtain ⟨p, dx, s, t, o, rfl, hp, k⟩ := h
    refine ⟨_, PSs.nox (pss_one (ps_ret (pe_op op_add (pe_fldK K (pv 0) rfl) (pe_fldK K (pv 0) rfl)))), ?_⟩
    exact ⟨_, rfl, p, C, dx, _, _, rfl, hp, T.c, T.nT, ck_true _ _ _, _, rfl, p, C, dx, _, _, rfl, hp, T.c, T.nO, ck_off _ _ _, _, _, rfl, rfl, k⟩
theorem scClock_is_past : FnScope nClock_is_past pClock_is_past (defScope sClock_is_past) := ⟨rfl, rfl, rfl, by decide +kernel, rfl, by decide +kernel, by decide +kernel⟩
theorem ok_is_past (T : ClockTx K mg C) (D_shows : Dm P w K mg base C 1 "shows" pClock_shows (spGet C fun _ t o => t + o)) {f : Addr} {fd : FuncData} (F : FunD K "is_past" "Clock.is_past" (defArgs sClock_is_past) (defBody sClock_is_past) (defScope sClock_is_past) [] [] f fd) : FnOk P w K mg base CX0 2 f fd pClock_is_past (spPast C) := by
  obtain ⟨f_shows, fd_shows, me_shows, b_shows, G_shows⟩ := D_shows
  have c_Clock := T.c
  refine F.ok scClock_is_past (fun vs H Q E h => ?_) (fun cdv A outer s H vs Q E hr h => ?_)
  · obtain ⟨p, dx, s, t, o, x, rfl, _⟩ := h
    rfl
  · obtain ⟨p, dx, s, t, o, x, rfl, hp, k⟩ := h
    refine ⟨_, PSs.nox (pss_one (ps_ret (pe_cmpR op_ge (pe_op op_sub (pe_meth0 (pv 0) c_Clock me_shows G_shows (by exact hr.mono (by decide)) b_shows .nil pass0) (pe_fldK K (pv 0) rfl)) (pv 1) (nomark _)))), ?_⟩
    exact ⟨_, rfl, p, dx, _, rfl, hp, rfl, p, dx, s, t, o, rfl, hp, _, rfl, p, C, dx, _, _, rfl, hp, T.c, T.nS, ck_skew _ _ _, _, _, rfl, rfl, _, rfl, _, _, rfl, rfl, k⟩
theorem scClock_is_ahead : FnScope nClock_is_ahead pClock_is_ahead (defScope sClock_is_ahead) := ⟨rfl, rfl, rfl, by decide +kernel, rfl, by decide +kernel, by decide +kernel⟩
theorem ok_is_ahead (T : ClockTx K mg C) (D_shows : Dm P w K mg base C 1 "shows" pClock_shows (spGet C fun _ t o => t + o)) {f : Addr} {fd : FuncData} (F : FunD K "is_ahead" "Clock.is_ahead" (defArgs sClock_is_ahead) (defBody sClock_is_ahead) (defScope sClock_is_ahead) [] [] f fd) : FnOk P w K mg base CX0 2 f fd pClock_is_ahead (spAhead C) := by
  obtain ⟨f_shows, fd_shows, me_shows, b_shows, G_shows⟩ := D_shows
  have c_Clock := T.c
  refine F.ok scClock_is_ahead (fun vs H Q E h => ?_) (fun cdv A outer s H vs Q E hr h => ?_)
  · obtain ⟨p, dx, s, t, o, x, rfl, _⟩ := h
    rfl
  · obtain ⟨p, dx, s, t, o, x, rfl, hp, k⟩ := h
    refine ⟨_, PSs.nox (pss_one (ps_ret (pe_cmpR op_lt (pe_op op_add (pe_meth0 (pv 0) c_Clock me_shows G_shows (by exact hr.mono (by decide)) b_shows .nil pass0) (pe_fldK K (pv 0) rfl)) (pv 1) (nomark _)))), ?_⟩
    exact ⟨_, rfl, p, dx, _, rfl, hp, rfl, p, dx, s, t, o, rfl, hp, _, rfl, p, C, dx, _, _, rfl, hp, T.c, T.nS, ck_skew _ _ _, _, _, rfl, rfl, _, rfl, _, _, rfl, rfl, k⟩
end

def spTwin (C : Addr) : Sp := fun vs H Q _ => ∃ (p dx : Addr) (s t o : Int), vs = [.ref p] ∧ H p = some (.ins C dx (ck s t o)) ∧ 0 ≤ s ∧ s ≤ 10 ∧ -s ≤ o ∧ o ≤ s ∧ ∀ (q dy : Addr) (H' : Hp), H q = none → Same H H' → H' q = some (.ins C dy (ck s t o)) → Q (.ref q) H'
section
variable {P : Program} {w : World} {K : PySem.W.Frag} {mg : Str → Option Value} {base : Heap} {C : Addr}
theorem scClock_skew : FnScope nClock_skew pClock_skew (defScope sClock_skew) := ⟨rfl, rfl, rfl, by decide +kernel, rfl, by decide +kernel, by decide +kernel⟩
theorem ok_skew (T : ClockTx K mg C) {f : Addr} {fd : FuncData} (F : FunD K "skew" "Clock.skew" (defArgs sClock_skew) (defBody sClock_skew) (defScope sClock_skew) [] [] f fd) : FnOk P w K mg base CX0 1 f fd pClock_skew (spGet C fun s _ _ => s) := by
  refine F.ok scClock_skew (fun vs H Q E h => ?_) (fun cdv A outer s H vs Q E hr h => ?_)
  · obtain ⟨p, dx, s, t, o, rfl, _⟩ := h
    rfl
  · obtain ⟨p, dx, s, t, o, rfl, hp, k⟩ := h
    refine ⟨_, PSs.nox (pss_one (ps_ret (pe_fldK K (pv 0) rfl))), ?_⟩
    exact ⟨_, rfl, p, C, dx, _, _, rfl, hp, T.c, T.nS, ck_skew _ _ _, k⟩
theorem scClock_off : FnScope nClock_off pClock_off (defScope sClock_off) := ⟨rfl, rfl, rfl, by decide +kernel, rfl, by decide +kernel, by decide +kernel⟩
theorem ok_off (T : ClockTx K mg C) {f : Addr} {fd : FuncData} (F : FunD K "off" "Clock.off" (defArgs sClock_off) (defBody sClock_off) (defScope sClock_off) [] [] f fd) : FnOk P w K mg base CX0 1 f fd pClock_off (spGet C fun _ _ o => o) := by
  refine F.ok scClock_off (fun vs H Q E h => ?_) (fun cdv A outer s H vs Q E hr h => ?_)
  · obtain ⟨p, dx, s, t, o, rfl, _⟩ := h
    rfl
  · obtain ⟨p, dx, s, t, o, rfl, hp, k⟩ := h
    refine ⟨_, PSs.nox (pss_one (ps_ret (pe_fldK K (pv 0) rfl))), ?_⟩
    exact ⟨_, rfl, p, C, dx, _, _, rfl, hp, T.c, T.nO, ck_off _ _ _, k⟩
theorem scClock_twin : FnScope nClock_twin pClock_twin (defScope sClock_twin) := ⟨rfl, rfl, rfl, by decide +kernel, rfl, by decide +kernel, by decide +kernel⟩
theorem ok_twin (T : ClockTx K mg C) (D_mk : Dk P w K mg base C 3 "Clock" pClock___init__ 1 ["skew", "off"] (fun vs zs => vs ++ zs) (spInit C)) {f : Addr} {fd : FuncData} (F : FunD K "twin" "Clock.twin" (defArgs sClock_twin) (defBody sClock_twin) (defScope sClock_twin) [] [] f fd) : FnOk P w K mg base CX0 5 f fd pClock_twin (spTwin C) := by
  obtain ⟨f_init, fd_init, g_init, M_Clock, m_Clock, kb_Clock, G_init⟩ := D_mk
  refine F.ok scClock_twin (fun vs H Q E h => ?_) (fun cdv A outer s H vs Q E hr h => ?_)
  · obtain ⟨p, dx, s, t, o, rfl, _⟩ := h
    rfl
  · obtain ⟨p, dx, s, t, o, rfl, hp, s0, s1, o0, o1, k⟩ := h
    refine ⟨_, PSs.nox (pss_cons (ps_set (i := 1) scClock_twin.nd rfl (Or.inl rfl) (pe_makeK0 M_Clock G_init (by exact hr.mono (by decide)) rfl m_Clock kb_Clock pass0 (pk_cons (pe_fldK K (pv 0) rfl) (pk_cons (pe_fldK K (pv 0) rfl) pk_nil)))) (pss_cons (ps_fld (pv 1) (pe_fldK K (pv 0) rfl) rfl) (pss_one (ps_ret (pv 1))))), ?_⟩
    refine ⟨_, rfl, p, C, dx, _, _, rfl, hp, T.c, T.nS, ck_skew _ _ _, _, rfl, p, C, dx, _, _, rfl, hp, T.c, T.nO, ck_off _ _ _, rfl, rfl, fun q dy nq ndy nqd => ⟨q, dy, s, o, rfl, upd_same, s0, s1, o0, o1, rfl, ?_⟩⟩
    have npq : p ≠ q := ne_of_none hp nq
    rw [upd_upd]
    have sq : Same H (upd (upd H dy (.own q)) q (.ins C dy (ck s 0 o))) := Same.mut (Same.new ndy) nq
    refine ⟨_, rfl, p, C, dx, _, _, rfl, sq _ _ hp, T.c, T.nT, ck_true _ _ _, _, rfl, q, C, dy, _, rfl, upd_same, T.c, T.nT, (by show 3 < 1000; decide), ?_⟩
    refine ⟨_, rfl, k q dy _ nq ?_ upd_same⟩
    rw [upd_upd]
    exact Same.mut (Same.new ndy) nq
end

/-! ### draws: _law_pool, _law_take, _law_one -/
def PoolO (o : HO) : Prop := ∃ a b : Int, o = .lst [.int a, .int b]
def spPool (K : PySem.W.Frag) : Sp := fun vs H Q _ => ∃ (a : Addr) (ns : List Int) (k : Int), vs = [.ref a, .int k] ∧ SqL K H a (ns.map V.int) ∧ ns.length ≤ 63 ∧ 0 ≤ k ∧ k < 64 ∧
  ∀ (p : Addr) (H' : Hp) (o : HO), H p = none → PoolO o → Same H H' → H' p = some o → Q (.ref p) H'
def spTake : Sp := fun vs H Q _ => ∃ (p : Addr) (m : Int) (o : HO), vs = [.ref p, .int m] ∧ H p = some o ∧ PoolO o ∧ 0 < m ∧ m < 1073741824 ∧ ∀ (v : Int) (o' : HO), 0 ≤ v → v < m → PoolO o' → Q (.int v) (upd H p o')
def spOne (K : PySem.W.Frag) : Sp := fun vs H Q _ => ∃ (p q : Addr) (xs : List V) (o : HO), vs = [.ref p, .ref q] ∧ H p = some o ∧ PoolO o ∧ SqL K H q xs ∧ q ≠ p ∧ 0 < xs.length ∧ xs.length < 1000 ∧ ∀ (v : V) (o' : HO), v ∈ xs → PoolO o' → Q v (upd H p o')
theorem b01 (b : Bool) : -(2 ^ 64) < (if b = true then (1 : Int) else 0) ∧ (if b = true then (1 : Int) else 0) < 2 ^ 64 := by cases b <;> decide
theorem fmod_lt {x m : Int} (h : 0 < m) : 0 ≤ x.fmod m ∧ x.fmod m < m := by
  rw [Int.fmod_eq_emod_of_nonneg _ (Int.le_of_lt h)]
  exact ⟨Int.emod_nonneg _ (by omega), Int.emod_lt_of_pos _ h⟩
section
variable {P : Program} {w : World} {K : PySem.W.Frag} {mg : Str → Option Value} {base : Heap}
theorem sc_law_take : FnScope n_law_take p_law_take (defScope s_law_take) := ⟨rfl, rfl, rfl, by decide +kernel, rfl, by decide +kernel, by decide +kernel⟩
theorem ok_take {f : Addr} {fd : FuncData} (F : FunD K "_law_take" "_law_take" (defArgs s_law_take) (defBody s_law_take) (defScope s_law_take) [] [] f fd) : FnOk P w K mg base CX0 1 f fd p_law_take spTake := by
  refine F.ok sc_law_take (fun vs H Q E h => ?_) (fun cdv A outer s H vs Q E hr h => ?_)
  · obtain ⟨p, m, o, rfl, _⟩ := h
    rfl
  · obtain ⟨p, m, o, rfl, hp, ⟨a, b, rfl⟩, h1, h2, k⟩ := h
    refine ⟨_, PSs.nox (pss_cons (ps_if (pt_cmpR op_gt (pe_ix (ix_listK K) (pv 0) pe_int (fun _ _ => rfl)) pe_int (nomark _)) (pss_cons (ps_set (i := 2) sc_law_take.nd rfl (Or.inl rfl) (pe_op op_modN (pe_ix (ix_listK K) (pv 0) pe_int (fun _ _ => rfl)) (pv 1))) (pss_cons (ps_asg (pe_op op_fdivN (pe_ix (ix_listK K) (pv 0) pe_int (fun _ _ => rfl)) (pv 1)) (pg_sub (pv 0) pe_int set_list)) (pss_one (ps_ret (pv 2))))) pss_nil) (pss_cons (ps_asg (pe_op op_modN (pe_op op_add (pe_op op_mul (pe_ix (ix_listK K) (pv 0) pe_int (fun _ _ => rfl)) pe_int) pe_int) pe_int) (pg_sub (pv 0) pe_int set_list)) (pss_one (ps_ret (pe_op op_modN (pe_op op_fdivN (pe_op op_modN (pe_op op_mul (pe_ix (ix_listK K) (pv 0) pe_int (fun _ _ => rfl)) (pe_ix (ix_listK K) (pv 0) pe_int (fun _ _ => rfl))) pe_int) pe_int) (pv 1)))))), ?_⟩
    have hn : m ≠ 0 := by omega
    refine ⟨_, rfl, p, _, _, _, rfl, rfl, SqL.of hp, rfl, _, _, rfl, rfl, _, rfl, ?_⟩
    refine ite2 (fun hc => ?_) (fun hc => ?_)
    · refine ⟨_, rfl, p, _, _, _, rfl, rfl, SqL.of hp, rfl, _, rfl, _, _, rfl, rfl, hn, ?_⟩
      refine ⟨_, rfl, p, _, _, _, rfl, rfl, SqL.of hp, rfl, _, rfl, _, _, rfl, rfl, ⟨hn, by omega⟩, ?_⟩
      refine ⟨_, rfl, p, _, _, 0, rfl, rfl, hp, rfl, ?_⟩
      refine ⟨_, rfl, ?_⟩
      obtain ⟨q1, q2⟩ := fmod_lt (x := a) h1
      exact k _ _ q1 q2 ⟨_, _, rfl⟩
    · refine ⟨_, rfl, p, _, _, _, rfl, rfl, SqL.of hp, rfl, _, _, rfl, rfl, .inr ⟨by decide, by decide⟩, _, _, rfl, rfl, _, _, rfl, rfl, (show (2147483647 : Int) ≠ 0 by decide), ?_⟩
      refine ⟨_, rfl, p, _, _, 1, rfl, rfl, hp, rfl, ?_⟩
      have bb := fmod_lt (x := b * 69621 + 7) (m := 2147483647) (by decide)
      have hp' : ∀ z : HO, upd H p z p = some z := fun z => upd_same
      refine ⟨_, rfl, p, _, _, _, rfl, rfl, SqL.of upd_same, rfl, _, rfl, p, _, _, _, rfl, rfl, SqL.of upd_same, rfl, _, _, rfl, rfl, .inl ⟨by omega, by omega⟩, _, _, rfl, rfl, (show (2147483629 : Int) ≠ 0 by decide), _, _, rfl, rfl, ⟨by decide, by decide⟩, _, rfl, _, _, rfl, rfl, hn, ?_⟩
      obtain ⟨q1, q2⟩ := fmod_lt (x := (((b * 69621 + 7).fmod 2147483647 * (b * 69621 + 7).fmod 2147483647).fmod 2147483629).fdiv 32) h1
      exact k _ _ q1 q2 ⟨_, _, rfl⟩
theorem sql_upd {H : Hp} {a p : Addr} {o : HO} {xs : List V} (h : SqL K H a xs) (ne : a ≠ p) : SqL K (upd H p o) a xs := by
  rcases h with (h | ⟨u, h⟩) | h
  · exact .inl (.inl (by rw [upd_ne ne]; exact h))
  · exact .inl (.inr ⟨u, by rw [upd_ne ne]; exact h⟩)
  · exact .inr h
theorem sc_law_pool : FnScope n_law_pool p_law_pool (defScope s_law_pool) := ⟨rfl, rfl, rfl, by decide +kernel, rfl, by decide +kernel, by decide +kernel⟩
theorem ok_pool (m_max : mg "max" = none) (m_int : mg "int" = none) {f : Addr} {fd : FuncData} (F : FunD K "_law_pool" "_law_pool" (defArgs s_law_pool) (defBody s_law_pool) (defScope s_law_pool) [] [] f fd) : FnOk P w K mg base CX0 1 f fd p_law_pool (spPool K) := by
  refine F.ok sc_law_pool (fun vs H Q E h => ?_) (fun cdv A outer s H vs Q E hr h => ?_)
  · obtain ⟨a, ns, k, rfl, _⟩ := h
    rfl
  · obtain ⟨a, ns, i, rfl, ha, hl, i0, i1, k⟩ := h
    refine ⟨_, PSs.nox (pss_cons (ps_set (i := 2) sc_law_pool.nd rfl (Or.inl rfl) (pe_ix (ix_listK K) (pe_op op_cat (pe_slice (sl_listK K) (pv 0) (po_some (pv 1)) (po_some (pe_op op_add (pv 1) pe_int))) (pe_lst (pa_cons pe_int pa_nil))) pe_int (fun _ _ => rfl))) (pss_cons (ps_set (i := 3) sc_law_pool.nd rfl (Or.inl rfl) (pe_callB (call_max2 rfl) (by rfl) m_max (by decide +kernel) (pa_cons (pv 2) (pa_cons (pe_op op_sub (pe_un un_neg pe_int) (pv 2)) pa_nil)))) (pss_cons (ps_set (i := 4) sc_law_pool.nd rfl (Or.inl rfl) (pe_op op_modN (pe_op op_mul (pe_op op_add (pe_op op_add (pe_op op_add (pe_op op_modN (pv 3) pe_int) (pe_op op_mul (pe_op op_mul pe_int (pv 1)) (pv 1))) (pe_op op_mul pe_int (pv 1))) pe_int) pe_int) pe_int)) (pss_one (ps_ret (pe_lst (pa_cons (pe_op op_mul (pv 3) (pe_callTy call_int1 (by rfl) m_int (by decide +kernel) (pa_cons (pe_cmpR op_ge (pv 3) (pe_op op_pow pe_int pe_int) (nomark _)) pa_nil))) (pa_cons (pv 4) pa_nil)))))))), ?_⟩
    refine ⟨_, rfl, _, rfl, _, rfl, _, rfl, _, _, rfl, rfl, _, rfl, a, _, rfl, ha, fun p1 n1 => ?_⟩
    refine ⟨(by show 1 ≤ sizeLine; decide), fun p2 n2 => ?_⟩
    have ne12 : p1 ≠ p2 := fun e => by rw [e, upd_same] at n2; cases n2
    refine ⟨p1, p2, _, _, rfl, rfl, (by rw [upd_ne ne12, upd_same]), upd_same, ?_, fun p3 n3 => ?_⟩
    · have := cutV_length (ns.map V.int) (some i) (some (i + 1))
      rw [List.length_map] at this
      have : (cutV (ns.map V.int) (some i) (some (i + 1))).length + 1 ≤ 100 := by omega
      exact Nat.le_trans this (by decide)
    obtain ⟨c, hc⟩ : ∃ c : Int, (cutV (ns.map V.int) (some i) (some (i + 1)) ++ [V.int 0])[0]? = some (V.int c) := by
      cases hx : cutV (ns.map V.int) (some i) (some (i + 1)) with
      | nil => exact ⟨0, rfl⟩
      | cons y ys =>
        have hy : y ∈ ns.map V.int := by
          have : y ∈ cutV (ns.map V.int) (some i) (some (i + 1)) := by rw [hx]; exact List.mem_cons_self
          exact List.mem_of_mem_drop (List.mem_of_mem_take this)
        obtain ⟨c, _, rfl⟩ := List.mem_map.mp hy
        exact ⟨c, rfl⟩
    refine ⟨p3, _, 0, .int c, rfl, rfl, SqL.of upd_same, atI_nat (j := 0) hc, ?_⟩
    refine ⟨_, rfl, _, rfl, _, rfl, _, _, rfl, rfl, _, _, rfl, ?_⟩
    refine ⟨_, rfl, _, _, rfl, rfl, (show (2147483629 : Int) ≠ 0 by decide), _, rfl, _, _, rfl, rfl, .inl ⟨by decide, by decide⟩, _, rfl, _, _, rfl, rfl, .inr ⟨by omega, by omega⟩, _, _, rfl, rfl, _, rfl, _, _, rfl, rfl, .inl ⟨by decide, by decide⟩, _, _, rfl, rfl, _, _, rfl, rfl, _, _, rfl, rfl, .inr ⟨by decide, by decide⟩, _, _, rfl, rfl, (show (2147483647 : Int) ≠ 0 by decide), ?_⟩
    refine ⟨_, rfl, _, rfl, _, _, rfl, rfl, ⟨by decide, by decide, by decide⟩, _, _, rfl, rfl, .inr ⟨_, rfl, _, _, rfl, rfl, .inr ?_, _, rfl, (by show 2 ≤ sizeLine; decide), fun p4 n4 => ?_⟩⟩
    · exact b01 _
    have s3 : Same H (upd (upd (upd H p1 (HO.lst (cutV (ns.map V.int) (some i) (some (i + 1))))) p2 (.lst [.int 0])) p3 (.lst (cutV (ns.map V.int) (some i) (some (i + 1)) ++ [V.int 0]))) := fun b o e => by
      have e1 : upd H p1 (HO.lst (cutV (ns.map V.int) (some i) (some (i + 1)))) b = some o := by rw [upd_ne (ne_of_none e n1)]; exact e
      have e2 : upd (upd H p1 (HO.lst (cutV (ns.map V.int) (some i) (some (i + 1))))) p2 (.lst [.int 0]) b = some o := by rw [upd_ne (ne_of_none e1 n2)]; exact e1
      rw [upd_ne (ne_of_none e2 n3)]
      exact e2
    exact k p4 _ _ (s3.free n4) ⟨_, _, rfl⟩ (fun b o e => by rw [upd_ne (ne_of_none (s3 _ _ e) n4)]; exact s3 _ _ e) upd_same
end

/-! ### the law's own parts -/
def spRight (C : Addr) (K : PySem.W.Frag) : Sp := fun vs H Q _ => ∃ (p dx l : Addr) (s t o : Int), vs = [.ref p, .ref l] ∧ H p = some (.ins C dx (ck s t o)) ∧ SqL K H l [.int s, .int t, .int o] ∧ 0 ≤ s ∧ s ≤ 10 ∧ -s ≤ o ∧ o ≤ s ∧ 0 ≤ t ∧ t ≤ 1000000 ∧ ∀ H', Same H H' → Q (.bl true) H'
def spGone (C : Addr) : Sp := fun vs H Q _ => ∃ (q p dx l : Addr) (s t o : Int) (po : HO), vs = [.ref q, .ref p, .ref l] ∧ H q = some po ∧ PoolO po ∧ H p = some (.ins C dx (ck s t o)) ∧ H l = some (.lst [.int s, .int t, .int o]) ∧ q ≠ l ∧ 0 ≤ s ∧ s ≤ 10 ∧ -s ≤ o ∧ o ≤ s ∧
  ∀ (H' : Hp) (po' : HO) (t' o' : Int), PoolO po' → t ≤ t' → t' ≤ t + 1000 → -s ≤ o' → o' ≤ s → Same (upd (upd (upd H q po') l (.lst [.int s, .int t', .int o'])) p (.ins C dx (ck s t' o'))) H' → Q (.bl true) H'
def spLaw (K : PySem.W.Frag) : Sp := fun vs H Q _ => ∃ (a : Addr) (ns : List Int), vs = [.ref a] ∧ SqL K H a (ns.map V.int) ∧ ns.length ≤ 63 ∧ ∀ H', Q (.bl true) H'
section
variable {P : Program} {w : World} {K : PySem.W.Frag} {mg : Str → Option Value} {base : Heap} {C : Addr}
theorem sc_law_right : FnScope n_law_right p_law_right (defScope s_law_right) := ⟨rfl, rfl, rfl, by decide +kernel, rfl, by decide +kernel, by decide +kernel⟩
theorem ok_right (T : ClockTx K mg C) (m_range : mg "range" = none) (m_repr : mg "repr" = none) (D_true : Dm P w K mg base C 1 "true" pClock_true (spGet C fun _ t _ => t)) (D_shows : Dm P w K mg base C 1 "shows" pClock_shows (spGet C fun _ t o => t + o)) (D_off : Dm P w K mg base C 1 "off" pClock_off (spGet C fun _ _ o => o)) (D_skew : Dm P w K mg base C 1 "skew" pClock_skew (spGet C fun s _ _ => s))
    (D_is_past : Dm P w K mg base C 2 "is_past" pClock_is_past (spPast C)) (D_is_ahead : Dm P w K mg base C 2 "is_ahead" pClock_is_ahead (spAhead C))
    {f : Addr} {fd : FuncData} (F : FunD K "_law_right" "_law_right" (defArgs s_law_right) (defBody s_law_right) (defScope s_law_right) [] [] f fd) : FnOk P w K mg base CX0 3 f fd p_law_right (spRight C K) := by
  obtain ⟨f_true, fd_true, me_true, b_true, G_true⟩ := D_true
  obtain ⟨f_shows, fd_shows, me_shows, b_shows, G_shows⟩ := D_shows
  obtain ⟨f_off, fd_off, me_off, b_off, G_off⟩ := D_off
  obtain ⟨f_skew, fd_skew, me_skew, b_skew, G_skew⟩ := D_skew
  obtain ⟨f_is_past, fd_is_past, me_is_past, b_is_past, G_is_past⟩ := D_is_past
  obtain ⟨f_is_ahead, fd_is_ahead, me_is_ahead, b_is_ahead, G_is_ahead⟩ := D_is_ahead
  have c_Clock := T.c
  refine F.ok sc_law_right (fun vs H Q E h => ?_) (fun cdv A outer s H vs Q E hr h => ?_)
  · obtain ⟨p, dx, l, s, t, o, rfl, _⟩ := h
    rfl
  · obtain ⟨p, dx, l, s, t, o, rfl, hp, hl, s0, s1, o0, o1, t0, t1, k⟩ := h
    refine ⟨_, PSs.nox (pss_cons (ps_asg (pv 1) (pg_unl (by rfl) (pgs_cons (pg_name (i := 2) sc_law_right.nd rfl (Or.inl rfl)) (pgs_cons (pg_name (i := 3) sc_law_right.nd rfl (Or.inl rfl)) (pgs_cons (pg_name (i := 4) sc_law_right.nd rfl (Or.inl rfl)) pgs_nil))))) (pss_cons (ps_set (i := 5) sc_law_right.nd rfl (Or.inl rfl) (pe_op op_add (pv 3) (pv 4))) (pss_cons (ps_if (pt_cmpR (op_neDK K (by exact hr.units)) (pe_lst (pa_cons (pe_meth0 (pv 0) c_Clock me_shows G_shows (by exact hr.mono (by decide)) b_shows .nil pass0) (pa_cons (pe_meth0 (pv 0) c_Clock me_true G_true (by exact hr.mono (by decide)) b_true .nil pass0) (pa_cons (pe_meth0 (pv 0) c_Clock me_off G_off (by exact hr.mono (by decide)) b_off .nil pass0) (pa_cons (pe_meth0 (pv 0) c_Clock me_skew G_skew (by exact hr.mono (by decide)) b_skew .nil pass0) pa_nil))))) (pe_lst (pa_cons (pv 5) (pa_cons (pv 3) (pa_cons (pv 4) (pa_cons (pv 2) pa_nil))))) (nomark _)) (pss_one (ps_ret pe_bl)) pss_nil) (pss_cons (ps_for PassesOwn.never rfl (pi_range2 (by rfl) m_range (pa_cons (pe_op op_sub (pv 5) pe_int) (pa_cons (pe_op op_add (pv 5) pe_int) pa_nil))) (pg_name (i := 6) sc_law_right.nd rfl (Or.inl rfl)) (pss_cons (ps_if (pt_cmpR op_ne (pe_callB call_reprB (by rfl) m_repr (by decide +kernel) (pa_cons (pe_meth (pv 0) c_Clock me_is_past G_is_past (by exact hr.mono (by decide)) b_is_past .nil pass0 (pa_cons (pv 6) pa_nil)) pa_nil)) (pe_callB call_reprB (by rfl) m_repr (by decide +kernel) (pa_cons (pe_cmpR op_le (pv 6) (pe_op op_sub (pv 5) (pv 2)) (nomark _)) pa_nil)) (nomark _)) (pss_one (ps_ret pe_bl)) pss_nil) (pss_one (ps_if (pt_cmpR op_ne (pe_callB call_reprB (by rfl) m_repr (by decide +kernel) (pa_cons (pe_meth (pv 0) c_Clock me_is_ahead G_is_ahead (by exact hr.mono (by decide)) b_is_ahead .nil pass0 (pa_cons (pv 6) pa_nil)) pa_nil)) (pe_callB call_reprB (by rfl) m_repr (by decide +kernel) (pa_cons (pe_cmpR op_gt (pv 6) (pe_op op_add (pv 5) (pv 2)) (nomark _)) pa_nil)) (nomark _)) (pss_one (ps_ret pe_bl)) pss_nil)))) (pss_one (ps_ret pe_bl)))))), ?_⟩
    refine ⟨_, rfl, l, _, rfl, hl, rfl, _, _, rfl, _, _, rfl, _, _, rfl, rfl, ?_⟩
    refine ⟨_, rfl, _, rfl, _, _, rfl, rfl, ?_⟩
    refine ⟨_, rfl, p, dx, _, rfl, hp, rfl, p, dx, s, t, o, rfl, hp, _, rfl, p, dx, _, rfl, hp, rfl, p, dx, s, t, o, rfl, hp, _, rfl, p, dx, _, rfl, hp, rfl, p, dx, s, t, o, rfl, hp, _, rfl, p, dx, _, rfl, hp, rfl, p, dx, s, t, o, rfl, hp, (by show 4 ≤ sizeLine; decide), fun l1 n1 => ?_⟩
    refine ⟨_, rfl, _, rfl, _, rfl, _, rfl, (by show 4 ≤ sizeLine; decide), fun l2 n2 => ?_⟩
    have n12 : l1 ≠ l2 := fun e => by rw [e, upd_same] at n2; cases n2
    have da : Dp K (upd (upd H l1 (.lst [.int (t + o), .int t, .int o, .int s])) l2 (.lst [.int (t + o), .int t, .int o, .int s])) (.ref l1) (.list [.int (t + o), .int t, .int o, .int s]) := .lst (SqL.of (by rw [upd_ne n12]; exact upd_same)) (.cons (.int _) (.cons (.int _) (.cons (.int _) (.cons (.int _) .nil))))
    have db : Dp K (upd (upd H l1 (.lst [.int (t + o), .int t, .int o, .int s])) l2 (.lst [.int (t + o), .int t, .int o, .int s])) (.ref l2) (.list [.int (t + o), .int t, .int o, .int s]) := .lst (SqL.of upd_same) (.cons (.int _) (.cons (.int _) (.cons (.int _) (.cons (.int _) .nil))))
    refine ⟨_, _, da, db, rfl, rfl, false, ?_, iteF ?_⟩
    · exact congrArg V.bl (by rw [SeqAt.eqv_refl _ rfl]; rfl)
    have s2 : Same H (upd (upd H l1 (.lst [.int (t + o), .int t, .int o, .int s])) l2 (.lst [.int (t + o), .int t, .int o, .int s])) := (Same.new n1).trans (Same.new n2)
    generalize upd (upd H l1 (.lst [.int (t + o), .int t, .int o, .int s])) l2 (.lst [.int (t + o), .int t, .int o, .int s]) = H2 at s2
    refine ⟨_, rfl, _, _, rfl, rfl, _, rfl, _, _, rfl, rfl, t + o - 12, t + o + 13, rfl, ⟨by omega, by omega, by omega, by omega⟩, ?_⟩
    refine for_range (lo := t + o - 12) (fun i σ H' => ∃ v6 : Option V, σ = [some (.ref p), some (.ref l), some (.int s), some (.int t), some (.int o), some (.int (t + o)), v6] ∧ Same H H') ⟨none, rfl, s2⟩ ?_ (fun σ H' h => k H' h.choose_spec.2)
    rintro i σ H3 hi ⟨v6, rfl, s3⟩
    have hp3 := s3 _ _ hp
    generalize t + o - 12 + (i : Int) = x
    refine ⟨_, rfl, p, dx, _, rfl, hp3, rfl, _, rfl, p, dx, s, t, o, x, rfl, hp3, _, rfl, _, rfl, _, rfl, _, rfl, _, _, rfl, rfl, _, _, rfl, rfl, _, rfl, rfl, _, rfl, iteNS rfl ?_⟩
    refine ⟨_, rfl, p, dx, _, rfl, hp3, rfl, _, rfl, p, dx, s, t, o, x, rfl, hp3, _, rfl, _, rfl, _, rfl, _, rfl, _, _, rfl, rfl, _, _, rfl, rfl, _, rfl, rfl, _, rfl, iteNS rfl ?_⟩
    exact ⟨_, rfl, s3⟩
theorem sc_law_gone : FnScope n_law_gone p_law_gone (defScope s_law_gone) := ⟨rfl, rfl, rfl, by decide +kernel, rfl, by decide +kernel, by decide +kernel⟩
theorem ok_gone (T : ClockTx K mg C) (D_take : Df P w K mg base 1 "_law_take" p_law_take spTake) (D_tick : Dm P w K mg base C 3 "tick" pClock_tick (spTick C)) (D_put : Dm P w K mg base C 3 "put_off" pClock_put_off (spPutOff C))
    {f : Addr} {fd : FuncData} (F : FunD K "_law_gone" "_law_gone" (defArgs s_law_gone) (defBody s_law_gone) (defScope s_law_gone) [] [] f fd) : FnOk P w K mg base CX0 4 f fd p_law_gone (spGone C) := by
  obtain ⟨f__law_take, fd__law_take, m__law_take, k__law_take, b__law_take, G__law_take⟩ := D_take
  obtain ⟨f_tick, fd_tick, me_tick, b_tick, G_tick⟩ := D_tick
  obtain ⟨f_put_off, fd_put_off, me_put_off, b_put_off, G_put_off⟩ := D_put
  have c_Clock := T.c
  refine F.ok sc_law_gone (fun vs H Q E h => ?_) (fun cdv A outer s H vs Q E hr h => ?_)
  · obtain ⟨q, p, dx, l, s, t, o, po, rfl, _⟩ := h
    rfl
  · obtain ⟨q, p, dx, l, s, t, o, po, rfl, hq, hpo, hp, hl, nql, s0, s1, o0, o1, k⟩ := h
    have npq : p ≠ q := by
      obtain ⟨x, y, rfl⟩ := hpo
      exact ne_of hp hq (by intro z; cases z)
    have npl : p ≠ l := ne_of hp hl (by intro z; cases z)
    refine ⟨_, PSs.nox (pss_cons (ps_set (i := 3) sc_law_gone.nd rfl (Or.inl rfl) (pe_call G__law_take (by exact hr.mono (by decide)) rfl m__law_take k__law_take b__law_take .nil pass0 (pa_cons (pv 0) (pa_cons pe_int pa_nil)))) (pss_cons (ps_if (pt_cmpR op_eq (pv 3) pe_int (nomark _)) (pss_cons (ps_asg (pe_op op_sub (pe_call G__law_take (by exact hr.mono (by decide)) rfl m__law_take k__law_take b__law_take .nil pass0 (pa_cons (pv 0) (pa_cons (pe_op op_add (pe_op op_mul pe_int (pe_ix (ix_listK K) (pv 2) pe_int (fun _ _ => rfl))) pe_int) pa_nil))) (pe_ix (ix_listK K) (pv 2) pe_int (fun _ _ => rfl))) (pg_sub (pv 2) pe_int set_list)) (pss_one (ps_ret (pe_cmpR op_isN (pe_meth (pv 1) c_Clock me_put_off G_put_off (by exact hr.mono (by decide)) b_put_off .nil pass0 (pa_cons (pe_ix (ix_listK K) (pv 2) pe_int (fun _ _ => rfl)) pa_nil)) pe_non (nomark _))))) pss_nil) (pss_cons (ps_set (i := 4) sc_law_gone.nd rfl (Or.inl rfl) (pe_ix (ix_listK K) (pe_lst (pa_cons pe_int (pa_cons pe_int (pa_cons (pe_op op_add pe_int (pe_call G__law_take (by exact hr.mono (by decide)) rfl m__law_take k__law_take b__law_take .nil pass0 (pa_cons (pv 0) (pa_cons pe_int pa_nil)))) (pa_cons pe_int pa_nil))))) (pe_op op_sub (pv 3) pe_int) (fun _ _ => rfl))) (pss_cons (ps_asg (pe_op op_add (pe_ix (ix_listK K) (pv 2) pe_int (fun _ _ => rfl)) (pv 4)) (pg_sub (pv 2) pe_int set_list)) (pss_one (ps_ret (pe_cmpR op_isN (pe_meth (pv 1) c_Clock me_tick G_tick (by exact hr.mono (by decide)) b_tick .nil pass0 (pa_cons (pv 4) pa_nil)) pe_non (nomark _)))))))), ?_⟩
    refine ⟨_, rfl, q, 5, po, rfl, hq, hpo, by decide, by decide, fun way po1 w0 w1 hpo1 => ?_⟩
    refine ⟨_, rfl, rfl, _, rfl, ?_⟩
    refine ite2 (fun hc => ?_) (fun hc => ?_)
    · have hl1 : upd H q po1 l = some (.lst [.int s, .int t, .int o]) := by rw [upd_ne nql.symm]; exact hl
      refine ⟨_, rfl, _, rfl, l, _, 0, .int s, rfl, rfl, SqL.of hl1, rfl, _, _, rfl, rfl, .inl ⟨by decide, by decide⟩, _, _, rfl, rfl, q, 2 * s + 1, po1, rfl, upd_same, hpo1, by omega, by omega, fun c po2 c0 c1 hpo2 => ?_⟩
      rw [upd_upd]
      have hl2 : upd H q po2 l = some (.lst [.int s, .int t, .int o]) := by rw [upd_ne nql.symm]; exact hl
      refine ⟨_, rfl, l, _, 0, .int s, rfl, rfl, SqL.of hl2, rfl, _, _, rfl, rfl, _, rfl, l, _, 2, 2, rfl, rfl, hl2, rfl, ?_⟩
      have hp2 : upd (upd H q po2) l (.lst [.int s, .int t, .int (c - s)]) p = some (.ins C dx (ck s t o)) := by rw [upd_ne npl, upd_ne npq]; exact hp
      refine ⟨_, rfl, p, dx, _, rfl, hp2, rfl, _, rfl, l, _, 2, _, rfl, rfl, SqL.of upd_same, rfl, p, dx, s, t, o, c - s, rfl, hp2, by omega, by omega, rfl, ?_⟩
      exact k _ po2 t (c - s) hpo2 (by omega) (by omega) (by omega) (by omega) (Same.refl _)
    · refine ⟨_, rfl, q, 30, po1, rfl, upd_same, hpo1, by decide, by decide, fun v po2 v0 v1 hpo2 => ?_⟩
      rw [upd_upd]
      refine ⟨_, _, rfl, rfl, (by show 4 ≤ sizeLine; decide), fun r nr => ?_⟩
      have hw : 1 ≤ way := by
        by_cases h : way = 0
        · rw [h] at hc
          exact absurd rfl hc
        · omega
      obtain ⟨st, hst, st0, st1⟩ : ∃ st : Int, atI [V.int 0, V.int 1, V.int (1 + v), V.int 1000] (way - 1) = some (.int st) ∧ 0 ≤ st ∧ st ≤ 1000 := by
        have h4 : way = 1 ∨ way = 2 ∨ way = 3 ∨ way = 4 := by omega
        rcases h4 with rfl | rfl | rfl | rfl
        · exact ⟨0, rfl, by decide, by decide⟩
        · exact ⟨1, rfl, by decide, by decide⟩
        · exact ⟨1 + v, rfl, by omega, by omega⟩
        · exact ⟨1000, rfl, by decide, by decide⟩
      refine ⟨_, rfl, _, _, rfl, rfl, r, _, _, .int st, rfl, rfl, SqL.of upd_same, hst, ?_⟩
      have hl2 : upd H q po2 l = some (.lst [.int s, .int t, .int o]) := by rw [upd_ne nql.symm]; exact hl
      have hl3 : upd (upd H q po2) r (.lst [.int 0, .int 1, .int (1 + v), .int 1000]) l = some (.lst [.int s, .int t, .int o]) := by rw [upd_ne (ne_of_none hl2 nr)]; exact hl2
      refine ⟨_, rfl, l, _, 1, .int t, rfl, rfl, SqL.of hl3, rfl, _, rfl, _, _, rfl, rfl, _, rfl, l, _, 1, 1, rfl, rfl, hl3, rfl, ?_⟩
      have hp2 : upd H q po2 p = some (.ins C dx (ck s t o)) := by rw [upd_ne npq]; exact hp
      have hp4 : upd (upd (upd H q po2) r (.lst [.int 0, .int 1, .int (1 + v), .int 1000])) l (.lst [.int s, .int (t + st), .int o]) p = some (.ins C dx (ck s t o)) := by rw [upd_ne npl, upd_ne (ne_of_none hp2 nr)]; exact hp2
      refine ⟨_, rfl, p, dx, _, rfl, hp4, rfl, _, rfl, p, dx, s, t, o, st, rfl, hp4, st0, st1, rfl, ?_⟩
      refine k _ po2 (t + st) o hpo2 (by omega) (by omega) o0 o1 (fun b u e => ?_)
      by_cases hb : b = p
      · subst hb
        rw [upd_same] at e ⊢
        exact e
      · rw [upd_ne hb] at e ⊢
        by_cases hb2 : b = l
        · subst hb2
          rw [upd_same] at e
          show upd _ _ _ _ = _
          rw [upd_same]
          exact e
        · rw [upd_ne hb2] at e ⊢
          rw [upd_ne (ne_of_none e nr)]
          exact e
end

/-- a clock at p and the law's own list at l say the same -/
structure Pair (C : Addr) (H : Hp) (p l : Addr) (s t o : Int) : Prop where
  ob : ∃ dx, H p = some (.ins C dx (ck s t o))
  li : H l = some (.lst [.int s, .int t, .int o])
  o0 : -s ≤ o
  o1 : o ≤ s
theorem Pair.same {C : Addr} {H H' : Hp} {p l : Addr} {s t o : Int} (h : Pair C H p l s t o) (e : Same H H') : Pair C H' p l s t o := ⟨h.ob.imp fun _ x => e _ _ x, e _ _ h.li, h.o0, h.o1⟩
theorem Pair.at {C : Addr} {H H' : Hp} {p l : Addr} {s t o : Int} (h : Pair C H p l s t o) (e : ∀ b u, (b = p ∨ b = l) → H b = some u → H' b = some u) : Pair C H' p l s t o := ⟨h.ob.imp fun _ x => e _ _ (.inl rfl) x, e _ _ (.inr rfl) h.li, h.o0, h.o1⟩
theorem gone_post {H H' : Hp} {q l p : Addr} {o1 o2 o3 : HO} (s : Same (upd (upd (upd H q o1) l o2) p o3) H') (nql : q ≠ l) (npq : p ≠ q) (npl : p ≠ l) : H' q = some o1 ∧ H' l = some o2 ∧ H' p = some o3 ∧ ∀ b u, b ≠ q → b ≠ l → b ≠ p → H b = some u → H' b = some u := by
  refine ⟨s _ _ ?_, s _ _ ?_, s _ _ upd_same, fun b u h1 h2 h3 e => s _ _ ?_⟩
  · rw [upd_ne npq.symm, upd_ne nql]
    exact upd_same
  · rw [upd_ne npl.symm]
    exact upd_same
  · rw [upd_ne h3, upd_ne h2, upd_ne h1]
    exact e
theorem pool_ne {H : Hp} {q l : Addr} {po : HO} {s t o : Int} (hq : H q = some po) (hpo : PoolO po) (hl : H l = some (.lst [.int s, .int t, .int o])) : q ≠ l := by
  obtain ⟨x, y, rfl⟩ := hpo
  refine ne_of hq hl fun z => ?_
  injection z with z
  injection z with _ z
  injection z with _ z
  cases z
theorem pool_ins {H : Hp} {q p C dx : Addr} {po : HO} {fs : List (Str × V)} (hq : H q = some po) (hpo : PoolO po) (hp : H p = some (.ins C dx fs)) : p ≠ q := by
  obtain ⟨x, y, rfl⟩ := hpo
  exact ne_of hp hq (by intro z; cases z)
section
variable {P : Program} {w : World} {K : PySem.W.Frag} {mg : Str → Option Value} {base : Heap} {C : Addr}
theorem sclaw : FnScope nlaw plaw (defScope slaw) := ⟨rfl, rfl, rfl, by decide +kernel, rfl, by decide +kernel, by decide +kernel⟩
set_option maxHeartbeats 8000000 in
theorem ok_law (T : ClockTx K mg C) (m_len : mg "len" = none) (m_range : mg "range" = none) (m_max : mg "max" = none) (m_min : mg "min" = none) (m_list : mg "list" = none) (i_SKEW : ∃ t, mg "SKEW" = some (.int 2 t))
    (D_pool : Df P w K mg base 1 "_law_pool" p_law_pool (spPool K)) (D_take : Df P w K mg base 1 "_law_take" p_law_take spTake) (D_right : Df P w K mg base 3 "_law_right" p_law_right (spRight C K)) (D_gone : Df P w K mg base 4 "_law_gone" p_law_gone (spGone C))
    (D_true : Dm P w K mg base C 1 "true" pClock_true (spGet C fun _ t _ => t)) (D_twin : Dm P w K mg base C 5 "twin" pClock_twin (spTwin C)) (D_tick0 : Dmd P w K mg base C 3 "tick" pClock_tick [.int 1] (spTick C))
    (D_C0 : Dkd P w K mg base C 3 "Clock" pClock___init__ [.int 2, .int 0] (spInit C)) (D_CK : Dk P w K mg base C 3 "Clock" pClock___init__ 1 ["off", "skew"] (fun vs zs => vs ++ zs.reverse) (spInit C))
    {f : Addr} {fd : FuncData} (F : FunD K "law" "law" (defArgs slaw) (defBody slaw) (defScope slaw) [] [] f fd) : FnOk P w K mg base CX0 6 f fd plaw (spLaw K) := by
  obtain ⟨f__law_pool, fd__law_pool, m__law_pool, k__law_pool, b__law_pool, G__law_pool⟩ := D_pool
  obtain ⟨f__law_take, fd__law_take, m__law_take, k__law_take, b__law_take, G__law_take⟩ := D_take
  obtain ⟨f__law_right, fd__law_right, m__law_right, k__law_right, b__law_right, G__law_right⟩ := D_right
  obtain ⟨f__law_gone, fd__law_gone, m__law_gone, k__law_gone, b__law_gone, G__law_gone⟩ := D_gone
  obtain ⟨f_true, fd_true, me_true, b_true, G_true⟩ := D_true
  obtain ⟨f_twin, fd_twin, me_twin, b_twin, G_twin⟩ := D_twin
  obtain ⟨f_tick0, fd_tick0, ds_tick0, me_tick0, v_tick0, b_tick0, G_tick0⟩ := D_tick0
  obtain ⟨f_C0, fd_C0, ds_C0, M_C0, m_C0, v_C0, b_C0, G_C0⟩ := D_C0
  obtain ⟨f_CK, fd_CK, g_CK, M_CK, m_CK, kb_CK, G_CK⟩ := D_CK
  obtain ⟨tS, m_SKEW⟩ := i_SKEW
  have c_Clock := T.c
  refine F.ok sclaw (fun vs H Q E h => ?_) (fun cdv A outer s H vs Q E hr h => ?_)
  · obtain ⟨a, ns, rfl, _⟩ := h
    rfl
  · obtain ⟨a, ns, rfl, hS, hlen, k⟩ := h
    refine ⟨_, PSs.nox (pss_cons (ps_set (i := 1) sclaw.nd rfl (Or.inl rfl) (pe_make0 M_C0 G_C0 (by exact hr.mono (by decide)) rfl m_C0 b_C0 v_C0 pass0)) (pss_cons (ps_if (PW.pt (pw_or (pt_not (pt_val (pe_call G__law_right (by exact hr.mono (by decide)) rfl m__law_right k__law_right b__law_right .nil pass0 (pa_cons (pv 1) (pa_cons (pe_lst (pa_cons pe_int (pa_cons pe_int (pa_cons pe_int pa_nil)))) pa_nil))))) (pw_or (pt_cmpR op_ne (pe_glob (v := (.int 2)) rfl m_SKEW ⟨_, rfl⟩) pe_int (nomark _)) (pw_or (pt_cmpR op_notN (pe_meth0 (pv 1) c_Clock me_tick0 G_tick0 (by exact hr.mono (by decide)) b_tick0 v_tick0 pass0) pe_non (nomark _)) (pw_or1 (pt_cmpR op_ne (pe_meth0 (pv 1) c_Clock me_true G_true (by exact hr.mono (by decide)) b_true .nil pass0) pe_int (nomark _))))))) (pss_one (ps_ret pe_bl)) pss_nil) (pss_cons (ps_for PassesOwn.never rfl (pi_range1 (by rfl) m_range (pa_cons (pe_callB (call_max2 rfl) (by rfl) m_max (by decide +kernel) (pa_cons pe_int (pa_cons (pe_callB (call_min2 rfl) (by rfl) m_min (by decide +kernel) (pa_cons (pe_callB (call_lenK K) (by rfl) m_len PySem.boot_len (pa_cons (pv 0) pa_nil)) (pa_cons pe_int pa_nil))) pa_nil))) pa_nil)) (pg_name (i := 2) sclaw.nd rfl (Or.inl rfl)) (pss_cons (ps_set (i := 3) sclaw.nd rfl (Or.inl rfl) (pe_call G__law_pool (by exact hr.mono (by decide)) rfl m__law_pool k__law_pool b__law_pool .nil pass0 (pa_cons (pv 0) (pa_cons (pv 2) pa_nil)))) (pss_cons (ps_set (i := 4) sclaw.nd rfl (Or.inl rfl) (pe_call G__law_take (by exact hr.mono (by decide)) rfl m__law_take k__law_take b__law_take .nil pass0 (pa_cons (pv 3) (pa_cons pe_int pa_nil)))) (pss_cons (ps_set (i := 5) sclaw.nd rfl (Or.inl rfl) (pe_lst (pa_cons (pv 4) (pa_cons pe_int (pa_cons (pe_op op_sub (pe_call G__law_take (by exact hr.mono (by decide)) rfl m__law_take k__law_take b__law_take .nil pass0 (pa_cons (pv 3) (pa_cons (pe_op op_add (pe_op op_mul pe_int (pv 4)) pe_int) pa_nil))) (pv 4)) pa_nil))))) (pss_cons (ps_set (i := 1) sclaw.nd rfl (Or.inl rfl) (pe_makeK0 M_CK G_CK (by exact hr.mono (by decide)) rfl m_CK kb_CK pass0 (pk_cons (pe_ix (ix_listK K) (pv 5) pe_int (fun _ _ => rfl)) (pk_cons (pv 4) pk_nil)))) (pss_cons (ps_for PassesOwn.never rfl (pi_range1 (by rfl) m_range (pa_cons (pe_op op_add pe_int (pe_call G__law_take (by exact hr.mono (by decide)) rfl m__law_take k__law_take b__law_take .nil pass0 (pa_cons (pv 3) (pa_cons pe_int pa_nil)))) pa_nil)) (pg_name (i := 6) sclaw.nd rfl (Or.inl rfl)) (pss_one (ps_if (PW.pt (pw_or (pt_not (pt_val (pe_call G__law_gone (by exact hr.mono (by decide)) rfl m__law_gone k__law_gone b__law_gone .nil pass0 (pa_cons (pv 3) (pa_cons (pv 1) (pa_cons (pv 5) pa_nil)))))) (pw_or1 (pt_not (pt_val (pe_call G__law_right (by exact hr.mono (by decide)) rfl m__law_right k__law_right b__law_right .nil pass0 (pa_cons (pv 1) (pa_cons (pv 5) pa_nil)))))))) (pss_one (ps_ret pe_bl)) pss_nil))) (pss_cons (ps_set (i := 7) sclaw.nd rfl (Or.inl rfl) (pe_meth0 (pv 1) c_Clock me_twin G_twin (by exact hr.mono (by decide)) b_twin .nil pass0)) (pss_cons (ps_set (i := 8) sclaw.nd rfl (Or.inl rfl) (pe_callTy (call_listK K) (by rfl) m_list (by decide +kernel) (pa_cons (pv 5) pa_nil))) (pss_one (ps_for PassesOwn.never rfl (pi_range1 (by rfl) m_range (pa_cons (pe_call G__law_take (by exact hr.mono (by decide)) rfl m__law_take k__law_take b__law_take .nil pass0 (pa_cons (pv 3) (pa_cons pe_int pa_nil))) pa_nil)) (pg_name (i := 6) sclaw.nd rfl (Or.inl rfl)) (pss_cons (ps_if (PW.pt (pw_or (pt_not (pt_val (pe_call G__law_gone (by exact hr.mono (by decide)) rfl m__law_gone k__law_gone b__law_gone .nil pass0 (pa_cons (pv 3) (pa_cons (pv 1) (pa_cons (pv 5) pa_nil)))))) (pw_or1 (pt_not (pt_val (pe_call G__law_right (by exact hr.mono (by decide)) rfl m__law_right k__law_right b__law_right .nil pass0 (pa_cons (pv 7) (pa_cons (pv 8) pa_nil)))))))) (pss_one (ps_ret pe_bl)) pss_nil) (pss_cons (ps_if (PW.pt (pw_and (pt_cmpR op_eq (pe_call G__law_take (by exact hr.mono (by decide)) rfl m__law_take k__law_take b__law_take .nil pass0 (pa_cons (pv 3) (pa_cons pe_int pa_nil))) pe_int (nomark _)) (pw_and1 (pt_not (pt_val (pe_call G__law_gone (by exact hr.mono (by decide)) rfl m__law_gone k__law_gone b__law_gone .nil pass0 (pa_cons (pv 3) (pa_cons (pv 7) (pa_cons (pv 8) pa_nil))))))))) (pss_one (ps_ret pe_bl)) pss_nil) (pss_one (ps_if (PW.pt (pw_or (pt_not (pt_val (pe_call G__law_right (by exact hr.mono (by decide)) rfl m__law_right k__law_right b__law_right .nil pass0 (pa_cons (pv 1) (pa_cons (pv 5) pa_nil))))) (pw_or1 (pt_not (pt_val (pe_call G__law_right (by exact hr.mono (by decide)) rfl m__law_right k__law_right b__law_right .nil pass0 (pa_cons (pv 7) (pa_cons (pv 8) pa_nil)))))))) (pss_one (ps_ret pe_bl)) pss_nil)))))))))))))) (pss_one (ps_ret pe_bl))))), ?_⟩
    intro p0 d0 np0 nd0 npd0
    refine ⟨p0, d0, 2, 0, rfl, upd_same, by decide, by decide, by decide, by decide, rfl, ?_⟩
    rw [upd_upd]
    have z0 : Same H (upd (upd H d0 (.own p0)) p0 (.ins C d0 (ck 2 0 0))) := Same.mut (Same.new nd0) np0
    refine ⟨_, rfl, (by show 3 ≤ sizeLine; decide), fun l0 nl0 => ⟨p0, d0, l0, 2, 0, 0, rfl, (Same.new nl0) _ _ upd_same, SqL.of upd_same, by decide, by decide, by decide, by decide, by decide, by decide, fun H1 z1 => ⟨true, rfl, ?_⟩⟩⟩
    have z01 : Same H H1 := (z0.trans (Same.new nl0)).trans z1
    have hp1 : H1 p0 = some (.ins C d0 (ck 2 0 0)) := z1 _ _ ((Same.new nl0) _ _ upd_same)
    refine iteF ⟨rfl, _, rfl, iteF ?_⟩
    refine ⟨_, rfl, p0, d0, _, rfl, hp1, rfl, p0, d0, 2, 0, 0, 1, rfl, hp1, by decide, by decide, rfl, _, rfl, iteF ?_⟩
    refine ⟨_, rfl, p0, d0, _, rfl, upd_same, rfl, p0, d0, 2, 1, 0, rfl, upd_same, rfl, _, rfl, iteF ?_⟩
    have z2 : Same H (upd H1 p0 (.ins C d0 (ck 2 (0 + 1) 0))) := Same.mut z01 np0
    refine ⟨_, rfl, a, _, rfl, .inl (z2.seq hS), _, _, rfl, _, _, rfl, ?_⟩
    rw [List.length_map]
    generalize hn : (if (if (20 : Int) < (ns.length : Int) then (20 : Int) else (ns.length : Int)) > 1 then (if (20 : Int) < (ns.length : Int) then (20 : Int) else (ns.length : Int)) else 1) = n
    have hn1 : 1 ≤ n ∧ n ≤ 20 := by
      rw [← hn]
      split <;> split <;> omega
    refine ⟨n, rfl, by omega, by omega, for_range (lo := 0) (n := n.toNat) (fun i σ H' => ∃ v1 v2 v3 v4 v5 v6 v7 v8 : Option V, σ = [some (.ref a), v1, v2, v3, v4, v5, v6, v7, v8] ∧ Same H H') ⟨_, _, _, _, _, _, _, _, rfl, z2⟩ ?_ (fun σ H' _ => k H')⟩
    rintro i σ H0 hi ⟨v1, v2, v3, v4, v5, v6, v7, v8, rfl, s0⟩
    refine ⟨_, rfl, _, rfl, a, ns, _, rfl, s0.seq hS, hlen, by omega, by omega, fun q H1 po nq hpo s1 hq => ?_⟩
    refine ⟨_, rfl, q, 11, po, rfl, hq, hpo, by decide, by decide, fun s po' hs0 hs1 hpo' => ?_⟩
    have s1' : Same H (upd H1 q po') := Same.mut (s0.trans s1) (s0.free nq)
    have nq0 : H q = none := s0.free nq
    refine ⟨_, rfl, _, rfl, _, rfl, _, _, rfl, rfl, .inl ⟨by decide, by decide⟩, _, _, rfl, rfl, q, 2 * s + 1, po', rfl, upd_same, hpo', by omega, by omega, fun c po2 c0 c1 hpo2 => ?_⟩
    have s2 : Same H (upd (upd H1 q po') q po2) := Same.mut s1' nq0
    generalize hHb : upd (upd H1 q po') q po2 = Hb at s2 ⊢
    have hqb : Hb q = some po2 := by rw [← hHb]; exact upd_same
    refine ⟨_, rfl, _, _, rfl, rfl, (by show 3 ≤ sizeLine; decide), fun l nl => ?_⟩
    have nl0 : H l = none := s2.free nl
    refine ⟨_, rfl, l, _, 2, .int (c - s), rfl, rfl, SqL.of upd_same, rfl, _, rfl, rfl, rfl, fun p dp np ndp npd => ⟨p, dp, s, c - s, rfl, upd_same, hs0, by omega, by omega, by omega, rfl, ?_⟩⟩
    rw [upd_upd]
    have sl : Same Hb (upd Hb l (.lst [.int s, .int 0, .int (c - s)])) := Same.new nl
    have sp : Same (upd Hb l (.lst [.int s, .int 0, .int (c - s)])) (upd (upd (upd Hb l (.lst [.int s, .int 0, .int (c - s)])) dp (.own p)) p (.ins C dp (ck s 0 (c - s)))) := Same.mut (Same.new ndp) np
    have np1 : H p = none := (s2.trans sl).free np
    generalize hHc : upd (upd (upd Hb l (.lst [.int s, .int 0, .int (c - s)])) dp (.own p)) p (.ins C dp (ck s 0 (c - s))) = Hc at sp ⊢
    have hpc : Hc p = some (.ins C dp (ck s 0 (c - s))) := by rw [← hHc]; exact upd_same
    have sc : Same H Hc := (s2.trans sl).trans sp
    have hlc : Hc l = some (.lst [.int s, .int 0, .int (c - s)]) := sp _ _ upd_same
    have hqc : Hc q = some po2 := sp _ _ (sl _ _ hqb)
    refine ⟨_, rfl, q, 16, po2, rfl, hqc, hpo2, by decide, by decide, fun n16 po3 n0 n1 hpo3 => ⟨_, _, rfl, rfl, _, rfl, by omega, by omega, ?_⟩⟩
    have nqp : p ≠ q := pool_ins hqc hpo2 hpc
    have nql : q ≠ l := pool_ne hqc hpo2 hlc
    have npl : p ≠ l := ne_of hpc hlc (by intro z; cases z)
    refine for_range (lo := 0) (n := (1 + n16).toNat) (fun j σ H' => ∃ (t o : Int) (po : HO) (v6 v7 v8 : Option V), σ = [some (.ref a), some (.ref p), some (.int (0 + (i : Int))), some (.ref q), some (.int s), some (.ref l), v6, v7, v8] ∧ Same H H' ∧ H' q = some po ∧ PoolO po ∧ Pair C H' p l s t o ∧ 0 ≤ t ∧ t ≤ 1000 * (j : Int))
      ⟨0, c - s, po3, _, _, _, rfl, Same.mut sc nq0, upd_same, hpo3, ⟨⟨dp, by rw [upd_ne nqp]; exact hpc⟩, by rw [upd_ne nql.symm]; exact hlc, by omega, by omega⟩, by decide, by decide⟩ ?_ ?_
    · rintro j σ H3 hj ⟨t, o, po4, v6', v7', v8', rfl, sH, hq3, hpo4, hP, t0, t1⟩
      obtain ⟨⟨dx, hp3⟩, hl3, o0, o1⟩ := id hP
      refine ⟨_, rfl, _, rfl, _, rfl, q, p, dx, l, s, t, o, po4, rfl, hq3, hpo4, hp3, hl3, nql, hs0, by omega, o0, o1, fun H4 po5 t' o' hpo5 e0 e1 e2 e3 sg => ⟨true, rfl, iteF ?_⟩⟩
      obtain ⟨g1, g2, g3, g4⟩ := gone_post sg nql nqp npl
      have sH4 : Same H H4 := fun b u e => g4 b u (ne_of_none e nq0) (ne_of_none e nl0) (ne_of_none e np1) (sH b u e)
      refine ⟨_, rfl, _, rfl, p, dx, l, s, t', o', rfl, g3, SqL.of g2, hs0, by omega, e2, e3, by omega, by omega, fun H5 s5 => ⟨true, rfl, iteF ?_⟩⟩
      exact ⟨t', o', po5, _, _, _, rfl, sH4.trans s5, s5 _ _ g1, hpo5, ⟨⟨dx, s5 _ _ g3⟩, s5 _ _ g2, e2, e3⟩, by omega, by omega⟩
    rintro σ H3 ⟨t, o, po4, v6', v7', v8', rfl, sH, hq3, hpo4, hP, t0, t1⟩
    obtain ⟨⟨dx, hp3⟩, hl3, o0, o1⟩ := id hP
    refine ⟨_, rfl, p, dx, _, rfl, hp3, rfl, p, dx, s, t, o, rfl, hp3, hs0, by omega, o0, o1, fun p2 dy H4 np2 s4 h4 => ?_⟩
    refine ⟨_, rfl, l, _, rfl, .inl (SqL.of (s4 _ _ hl3)), fun l2 nl2 => ?_⟩
    have s5 : Same H4 (upd H4 l2 (.lst [.int s, .int t, .int o])) := Same.new nl2
    have np20 : H p2 = none := sH.free np2
    have nl20 : H l2 = none := (sH.trans s4).free nl2
    have hq5 := s5 _ _ (s4 _ _ hq3)
    have hp5 := s5 _ _ (s4 _ _ hp3)
    have hl5 := s5 _ _ (s4 _ _ hl3)
    have hp25 := s5 _ _ h4
    have hl25 : upd H4 l2 (.lst [.int s, .int t, .int o]) l2 = some (.lst [.int s, .int t, .int o]) := upd_same
    have npp : p ≠ p2 := ne_of_none hp3 np2
    have nll : l ≠ l2 := ne_of_none (s4 _ _ hl3) nl2
    have sH5 : Same H (upd H4 l2 (.lst [.int s, .int t, .int o])) := (sH.trans s4).trans s5
    generalize upd H4 l2 (.lst [.int s, .int t, .int o]) = H5 at *
    have nqp2 : p2 ≠ q := pool_ins hq5 hpo4 hp25
    have nql2 : q ≠ l2 := pool_ne hq5 hpo4 hl25
    have npl2 : p ≠ l2 := ne_of hp5 hl25 (by intro z; cases z)
    have np2l : p2 ≠ l := ne_of hp25 hl5 (by intro z; cases z)
    have np2l2 : p2 ≠ l2 := ne_of hp25 hl25 (by intro z; cases z)
    refine ⟨_, rfl, q, 15, po4, rfl, hq5, hpo4, by decide, by decide, fun n15 po6 m0 m1 hpo6 => ⟨_, rfl, by omega, by omega, ?_⟩⟩
    have n16' : ((1 + n16).toNat : Int) ≤ 16 := by omega
    refine for_range (lo := 0) (n := n15.toNat) (fun j σ H' => ∃ (t o t2 o2 : Int) (po : HO) (v6 : Option V), σ = [some (.ref a), some (.ref p), some (.int (0 + (i : Int))), some (.ref q), some (.int s), some (.ref l), v6, some (.ref p2), some (.ref l2)] ∧ Same H H' ∧ H' q = some po ∧ PoolO po ∧ Pair C H' p l s t o ∧ Pair C H' p2 l2 s t2 o2 ∧ 0 ≤ t ∧ t ≤ 16000 + 1000 * (j : Int) ∧ 0 ≤ t2 ∧ t2 ≤ 16000 + 1000 * (j : Int))
      ⟨t, o, t, o, po6, _, rfl, Same.mut sH5 nq0, upd_same, hpo6, ⟨⟨dx, by rw [upd_ne nqp]; exact hp5⟩, by rw [upd_ne nql.symm]; exact hl5, o0, o1⟩, ⟨⟨dy, by rw [upd_ne nqp2]; exact hp25⟩, by rw [upd_ne nql2.symm]; exact hl25, o0, o1⟩, t0, by omega, t0, by omega⟩ ?_ ?_
    · rintro j σ H6 hj ⟨t, o, t2, o2, po7, v6'', rfl, sH6, hq6, hpo7, hP, hP2, t0, t1, t20, t21⟩
      have hj15 : (j : Int) < 15 := by omega
      obtain ⟨⟨dx, hp6⟩, hl6, o0, o1⟩ := id hP
      refine ⟨_, rfl, _, rfl, _, rfl, q, p, dx, l, s, t, o, po7, rfl, hq6, hpo7, hp6, hl6, nql, hs0, by omega, o0, o1, fun H7 po8 t' o' hpo8 e0 e1 e2 e3 sg => ⟨true, rfl, iteF ?_⟩⟩
      obtain ⟨g1, g2, g3, g4⟩ := gone_post sg nql nqp npl
      have sH7 : Same H H7 := fun b u e => g4 b u (ne_of_none e nq0) (ne_of_none e nl0) (ne_of_none e np1) (sH6 b u e)
      have hP7 : Pair C H7 p l s t' o' := ⟨⟨dx, g3⟩, g2, e2, e3⟩
      have hP27 : Pair C H7 p2 l2 s t2 o2 := hP2.at fun b u hb e => by
        rcases hb with rfl | rfl
        · exact g4 _ _ nqp2 np2l npp.symm e
        · exact g4 _ _ nql2.symm nll.symm npl2.symm e
      obtain ⟨⟨dy, hp27⟩, hl27, o20, o21⟩ := id hP27
      refine ⟨_, rfl, _, rfl, p2, dy, l2, s, t2, o2, rfl, hp27, SqL.of hl27, hs0, by omega, o20, o21, by omega, by omega, fun H8 s8 => ⟨true, rfl, iteF ?_⟩⟩
      have hP8 := hP7.same s8
      have hP28 := hP27.same s8
      have sH8 := sH7.trans s8
      have hq8 := s8 _ _ g1
      refine ⟨_, rfl, q, 2, po8, rfl, hq8, hpo8, by decide, by decide, fun c2 po9 c20 c21 hpo9 => ⟨rfl, _, rfl, ?_⟩⟩
      have sH9 : Same H (upd H8 q po9) := Same.mut sH8 nq0
      have hP9 : Pair C (upd H8 q po9) p l s t' o' := hP8.at fun b u hb e => by
        rcases hb with rfl | rfl
        · rw [upd_ne nqp]; exact e
        · rw [upd_ne nql.symm]; exact e
      have hP29 : Pair C (upd H8 q po9) p2 l2 s t2 o2 := hP28.at fun b u hb e => by
        rcases hb with rfl | rfl
        · rw [upd_ne nqp2]; exact e
        · rw [upd_ne nql2.symm]; exact e
      have hq9 : upd H8 q po9 q = some po9 := upd_same
      generalize upd H8 q po9 = H9 at *
      obtain ⟨⟨dx9, hp9⟩, hl9, _, _⟩ := id hP9
      obtain ⟨⟨dy9, hp29⟩, hl29, _, _⟩ := id hP29
      refine ite2 (fun _ => ?_) (fun _ => iteF ?_)
      · refine ⟨_, rfl, _, rfl, _, rfl, q, p2, dy9, l2, s, t2, o2, po9, rfl, hq9, hpo9, hp29, hl29, nql2, hs0, by omega, o20, o21, fun H10 po10 t3 o3 hpo10 f0 f1 f2 f3 sg2 => ⟨true, rfl, iteF ?_⟩⟩
        obtain ⟨r1, r2, r3, r4⟩ := gone_post sg2 nql2 nqp2 np2l2
        have sH10 : Same H H10 := fun b u e => r4 b u (ne_of_none e nq0) (ne_of_none e nl20) (ne_of_none e np20) (sH9 b u e)
        have hp10 : H10 p = some (.ins C dx9 (ck s t' o')) := r4 _ _ nqp npl2 npp hp9
        have hl10 : H10 l = some (.lst [.int s, .int t', .int o']) := r4 _ _ nql.symm nll np2l.symm hl9
        refine ⟨_, rfl, _, rfl, p, dx9, l, s, t', o', rfl, hp10, SqL.of hl10, hs0, by omega, e2, e3, by omega, by omega, fun H11 s11 => ⟨true, rfl, iteF ?_⟩⟩
        refine ⟨_, rfl, _, rfl, p2, dy9, l2, s, t3, o3, rfl, s11 _ _ r3, SqL.of (s11 _ _ r2), hs0, by omega, f2, f3, by omega, by omega, fun H12 s12 => ⟨true, rfl, iteF ?_⟩⟩
        have s1012 := s11.trans s12
        exact ⟨t', o', t3, o3, po10, _, rfl, sH10.trans s1012, s1012 _ _ r1, hpo10, ⟨⟨dx9, s1012 _ _ hp10⟩, s1012 _ _ hl10, e2, e3⟩, ⟨⟨dy9, s1012 _ _ r3⟩, s1012 _ _ r2, f2, f3⟩, by omega, by omega, by omega, by omega⟩
      · refine ⟨_, rfl, _, rfl, p, dx9, l, s, t', o', rfl, hp9, SqL.of hl9, hs0, by omega, e2, e3, by omega, by omega, fun H11 s11 => ⟨true, rfl, iteF ?_⟩⟩
        refine ⟨_, rfl, _, rfl, p2, dy9, l2, s, t2, o2, rfl, s11 _ _ hp29, SqL.of (s11 _ _ hl29), hs0, by omega, o20, o21, by omega, by omega, fun H12 s12 => ⟨true, rfl, iteF ?_⟩⟩
        have s1012 := s11.trans s12
        exact ⟨t', o', t2, o2, po9, _, rfl, sH9.trans s1012, s1012 _ _ hq9, hpo9, hP9.same s1012, hP29.same s1012, by omega, by omega, by omega, by omega⟩
    · rintro σ H6 ⟨t, o, t2, o2, po7, v6'', rfl, sH6, _⟩
      exact ⟨_, _, _, _, _, _, _, _, rfl, sH6⟩
end

/-! ### what the top has left -/
theorem facts {P : Program} {w : World} {K : PySem.W.Frag} {h : Heap} {mg : Str → Option Value} {f : Addr} (X : K.In h) (G : h.Ns mainGlobals mg) (hfa : mg ("law" : Str) = some (.ref f)) (c : He.SaysD fa fn K) :
    ∃ fd : FuncData, (∀ (s : Shared) (v : Value), BindsTo s fd ⟨[v], []⟩ [("_law_script", v)]) ∧ ∀ base : Heap, K.In base → base.Ns mainGlobals mg → FnOk P w K mg base CX0 6 f fd ["_law_script"] (spLaw K) := by
  have gl_is_whole := He.glo_ok X G (c.fact 0 (f := .glo "is_whole") rfl)
  have gl_is_from := He.glo_ok X G (c.fact 1 (f := .glo "is_from") rfl)
  have gl__law_pool := He.glo_ok X G (c.fact 2 (f := .glo "_law_pool") rfl)
  have gl__law_take := He.glo_ok X G (c.fact 3 (f := .glo "_law_take") rfl)
  have gl__law_right := He.glo_ok X G (c.fact 4 (f := .glo "_law_right") rfl)
  have gl__law_gone := He.glo_ok X G (c.fact 5 (f := .glo "_law_gone") rfl)
  have gl_law := He.glo_ok X G (c.fact 6 (f := .glo "law") rfl)
  have gl_LeaseError := He.glo_ok X G (c.fact 7 (f := .glo "LeaseError") rfl)
  have gl_NoNumber := He.glo_ok X G (c.fact 8 (f := .glo "NoNumber") rfl)
  have gl_Clock := He.glo_ok X G (c.fact 9 (f := .glo "Clock") rfl)
  have cl_Clock := He.cls_ok (c.fact 10 (f := .cls "Clock") rfl)
  have mk_Clock := He.mkr_ok (c.fact 11 (f := .mkr "Clock") rfl)
  have mt_Clock_look_at_off := He.meth_ok (c.fact 12 (f := .meth "Clock" "look_at_off") rfl)
  have mt_Clock_tick := He.meth_ok (c.fact 13 (f := .meth "Clock" "tick") rfl)
  have mt_Clock_put_off := He.meth_ok (c.fact 14 (f := .meth "Clock" "put_off") rfl)
  have mt_Clock_skew := He.meth_ok (c.fact 15 (f := .meth "Clock" "skew") rfl)
  have mt_Clock_off := He.meth_ok (c.fact 16 (f := .meth "Clock" "off") rfl)
  have mt_Clock_true := He.meth_ok (c.fact 17 (f := .meth "Clock" "true") rfl)
  have mt_Clock_shows := He.meth_ok (c.fact 18 (f := .meth "Clock" "shows") rfl)
  have mt_Clock_is_past := He.meth_ok (c.fact 19 (f := .meth "Clock" "is_past") rfl)
  have mt_Clock_is_ahead := He.meth_ok (c.fact 20 (f := .meth "Clock" "is_ahead") rfl)
  have mt_Clock_twin := He.meth_ok (c.fact 21 (f := .meth "Clock" "twin") rfl)
  have na_Clock_own_off := He.noat_ok (c.fact 22 (f := .noat "Clock" "own_off") rfl)
  have na_Clock_own_skew := He.noat_ok (c.fact 23 (f := .noat "Clock" "own_skew") rfl)
  have na_Clock_own_true := He.noat_ok (c.fact 24 (f := .noat "Clock" "own_true") rfl)
  have i_SKEW := He.int_ok X G (c.fact 25 (f := .int "SKEW" 2) rfl)
  have i_MOST_SKEW := He.int_ok X G (c.fact 26 (f := .int "MOST_SKEW" 10) rfl)
  have i_MOST_TICKS := He.int_ok X G (c.fact 27 (f := .int "MOST_TICKS" 1000) rfl)
  have m_ValueError := He.free_ok X G (c.fact 28 (f := .free "ValueError") rfl)
  have m_bool := He.free_ok X G (c.fact 29 (f := .free "bool") rfl)
  have m_int := He.free_ok X G (c.fact 30 (f := .free "int") rfl)
  have m_isinstance := He.free_ok X G (c.fact 31 (f := .free "isinstance") rfl)
  have m_len := He.free_ok X G (c.fact 32 (f := .free "len") rfl)
  have m_list := He.free_ok X G (c.fact 33 (f := .free "list") rfl)
  have m_max := He.free_ok X G (c.fact 34 (f := .free "max") rfl)
  have m_min := He.free_ok X G (c.fact 35 (f := .free "min") rfl)
  have m_range := He.free_ok X G (c.fact 36 (f := .free "range") rfl)
  have m_repr := He.free_ok X G (c.fact 37 (f := .free "repr") rfl)
  obtain ⟨fd_NoNumber___init__, F_NoNumber___init__⟩ := c.def_ 0 (d := dNoNumber___init__) rfl
  obtain ⟨fd_is_whole, F_is_whole⟩ := c.def_ 1 (d := dis_whole) rfl
  obtain ⟨fd_is_from, F_is_from⟩ := c.def_ 2 (d := dis_from) rfl
  obtain ⟨fd_Clock___init__, F_Clock___init__⟩ := c.def_ 3 (d := dClock___init__) rfl
  obtain ⟨fd_Clock_look_at_off, F_Clock_look_at_off⟩ := c.def_ 4 (d := dClock_look_at_off) rfl
  obtain ⟨fd_Clock_tick, F_Clock_tick⟩ := c.def_ 5 (d := dClock_tick) rfl
  obtain ⟨fd_Clock_put_off, F_Clock_put_off⟩ := c.def_ 6 (d := dClock_put_off) rfl
  obtain ⟨fd_Clock_skew, F_Clock_skew⟩ := c.def_ 7 (d := dClock_skew) rfl
  obtain ⟨fd_Clock_off, F_Clock_off⟩ := c.def_ 8 (d := dClock_off) rfl
  obtain ⟨fd_Clock_true, F_Clock_true⟩ := c.def_ 9 (d := dClock_true) rfl
  obtain ⟨fd_Clock_shows, F_Clock_shows⟩ := c.def_ 10 (d := dClock_shows) rfl
  obtain ⟨fd_Clock_is_past, F_Clock_is_past⟩ := c.def_ 11 (d := dClock_is_past) rfl
  obtain ⟨fd_Clock_is_ahead, F_Clock_is_ahead⟩ := c.def_ 12 (d := dClock_is_ahead) rfl
  obtain ⟨fd_Clock_twin, F_Clock_twin⟩ := c.def_ 13 (d := dClock_twin) rfl
  obtain ⟨fd__law_pool, F__law_pool⟩ := c.def_ 14 (d := d_law_pool) rfl
  obtain ⟨fd__law_take, F__law_take⟩ := c.def_ 15 (d := d_law_take) rfl
  obtain ⟨fd__law_right, F__law_right⟩ := c.def_ 16 (d := d_law_right) rfl
  obtain ⟨fd__law_gone, F__law_gone⟩ := c.def_ 17 (d := d_law_gone) rfl
  obtain ⟨fd_law, F_law⟩ := c.def_ 18 (d := dlaw) rfl
  have e := hfa.symm.trans gl_law
  cases e
  have b := FunD.bindsA (ps := ["_law_script"]) F_law fun _ _ _ _ _ _ us hl => match us, hl with | [_], _ => rfl
  refine ⟨fd_law, fun s v => b s [v] rfl, fun base _ _ => ?_⟩

  have T : ClockTx K mg (He.ga K "Clock") := ⟨cl_Clock, na_Clock_own_skew, na_Clock_own_true, na_Clock_own_off, i_MOST_SKEW, i_MOST_TICKS⟩
  have D_is_whole : Df P w K mg base 1 "is_whole" pis_whole (spWholeI) := ⟨_, fd_is_whole, gl_is_whole, F_is_whole.kp, F_is_whole.bindsN fun _ _ _ _ _ _ us hl => match us, hl with | [_], _ => rfl, ok_is_whole m_isinstance m_int m_bool F_is_whole⟩
  have D_is_from : Df P w K mg base 2 "is_from" pis_from (spFromI) := ⟨_, fd_is_from, gl_is_from, F_is_from.kp, binds_nil (F_is_from.binds1 3 1 (List.cons_ne_nil _ _) rfl fun _ _ _ _ _ _ _ us its h1 h2 => match us, its, h1, h2 with | [_, _, _], [_], _, _ => ⟨_, rfl, rfl⟩), ok_is_from D_is_whole F_is_from⟩
  have D_Clock_look_at_off : Dm P w K mg base (He.ga K "Clock") 2 "look_at_off" pClock_look_at_off (spLook (He.ga K "Clock")) := ⟨_, fd_Clock_look_at_off, mt_Clock_look_at_off, F_Clock_look_at_off.bindsN fun _ _ _ _ _ _ us hl => match us, hl with | [_, _, _], _ => rfl, ok_look T D_is_whole F_Clock_look_at_off⟩
  have D_Clock_tick : Dm P w K mg base (He.ga K "Clock") 3 "tick" pClock_tick (spTick (He.ga K "Clock")) := ⟨_, fd_Clock_tick, mt_Clock_tick, binds_nil (F_Clock_tick.binds1 2 1 (List.cons_ne_nil _ _) rfl fun _ _ _ _ _ _ _ us its h1 h2 => match us, its, h1, h2 with | [_, _], [_], _, _ => ⟨_, rfl, rfl⟩), ok_tick T D_is_from F_Clock_tick⟩
  have D_Clock_put_off : Dm P w K mg base (He.ga K "Clock") 3 "put_off" pClock_put_off (spPutOff (He.ga K "Clock")) := ⟨_, fd_Clock_put_off, mt_Clock_put_off, F_Clock_put_off.bindsN fun _ _ _ _ _ _ us hl => match us, hl with | [_, _], _ => rfl, ok_put_off T D_Clock_look_at_off F_Clock_put_off⟩
  have D_Clock_true : Dm P w K mg base (He.ga K "Clock") 1 "true" pClock_true (spGet (He.ga K "Clock") fun _ t _ => t) := ⟨_, fd_Clock_true, mt_Clock_true, F_Clock_true.bindsN fun _ _ _ _ _ _ us hl => match us, hl with | [_], _ => rfl, ok_true T F_Clock_true⟩
  have D_Clock_shows : Dm P w K mg base (He.ga K "Clock") 1 "shows" pClock_shows (spGet (He.ga K "Clock") fun _ t o => t + o) := ⟨_, fd_Clock_shows, mt_Clock_shows, F_Clock_shows.bindsN fun _ _ _ _ _ _ us hl => match us, hl with | [_], _ => rfl, ok_shows T F_Clock_shows⟩
  have D_Clock_is_past : Dm P w K mg base (He.ga K "Clock") 2 "is_past" pClock_is_past (spPast (He.ga K "Clock")) := ⟨_, fd_Clock_is_past, mt_Clock_is_past, F_Clock_is_past.bindsN fun _ _ _ _ _ _ us hl => match us, hl with | [_, _], _ => rfl, ok_is_past T D_Clock_shows F_Clock_is_past⟩
  have D_Clock_is_ahead : Dm P w K mg base (He.ga K "Clock") 2 "is_ahead" pClock_is_ahead (spAhead (He.ga K "Clock")) := ⟨_, fd_Clock_is_ahead, mt_Clock_is_ahead, F_Clock_is_ahead.bindsN fun _ _ _ _ _ _ us hl => match us, hl with | [_, _], _ => rfl, ok_is_ahead T D_Clock_shows F_Clock_is_ahead⟩

  have D_Clock_skew : Dm P w K mg base (He.ga K "Clock") 1 "skew" pClock_skew (spGet (He.ga K "Clock") fun s _ _ => s) := ⟨_, fd_Clock_skew, mt_Clock_skew, F_Clock_skew.bindsN fun _ _ _ _ _ _ us hl => match us, hl with | [_], _ => rfl, ok_skew T F_Clock_skew⟩
  have D_Clock_off : Dm P w K mg base (He.ga K "Clock") 1 "off" pClock_off (spGet (He.ga K "Clock") fun _ _ o => o) := ⟨_, fd_Clock_off, mt_Clock_off, F_Clock_off.bindsN fun _ _ _ _ _ _ us hl => match us, hl with | [_], _ => rfl, ok_off T F_Clock_off⟩
  have G_init : FnOk P w K mg base CX0 3 _ fd_Clock___init__ pClock___init__ (spInit (He.ga K "Clock")) := ok_init T D_is_from D_Clock_look_at_off F_Clock___init__
  have D_mk : Dk P w K mg base (He.ga K "Clock") 3 "Clock" pClock___init__ 1 ["skew", "off"] (fun vs zs => vs ++ zs) (spInit (He.ga K "Clock")) := by
    obtain ⟨mv, kb⟩ := F_Clock___init__.kbinds0 (ps := pClock___init__) 1 ["skew", "off"] [] (fun us mv ws => us ++ ws) (List.cons_ne_nil _ _) (by intro q hq; cases hq) (fun r1 r2 r3 => r1.append r3)
      (fun _ _ _ _ _ _ us mv ws h1 h2 h3 => match us, mv, ws, h1, h2, h3 with | [_], [], [_, _], _, _, _ => rfl)
    exact ⟨_, _, _, mk_Clock, gl_Clock, kb, G_init⟩
  have D_CK : Dk P w K mg base (He.ga K "Clock") 3 "Clock" pClock___init__ 1 ["off", "skew"] (fun vs zs => vs ++ zs.reverse) (spInit (He.ga K "Clock")) := by
    obtain ⟨mv, kb⟩ := F_Clock___init__.kbinds0 (ps := pClock___init__) 1 ["off", "skew"] [] (fun us mv ws => us ++ ws.reverse) (List.cons_ne_nil _ _) (by intro q hq; cases hq) (fun r1 r2 r3 => r1.append (vals_reverse r3))
      (fun _ _ _ _ _ _ us mv ws h1 h2 h3 => match us, mv, ws, h1, h2, h3 with | [_], [], [_, _], _, _, _ => rfl)
    exact ⟨_, _, _, mk_Clock, gl_Clock, kb, G_init⟩
  have D_C0 : Dkd P w K mg base (He.ga K "Clock") 3 "Clock" pClock___init__ [.int 2, .int 0] (spInit (He.ga K "Clock")) := by
    obtain ⟨ds, h1, h2⟩ := F_Clock___init__.binds0 (ps := pClock___init__) 1 (List.cons_ne_nil _ _) rfl (fun _ _ _ _ _ _ us ks h1 h2 => match us, ks, h1, h2 with | [_], [_, _], _, _ => ⟨_, _, _, _, _, _, rfl, rfl, ⟨_, _, _, _, _, _, rfl, rfl, rfl⟩⟩)
    exact ⟨_, _, ds, mk_Clock, gl_Clock, h1, h2, G_init⟩
  have D_tick0 : Dmd P w K mg base (He.ga K "Clock") 3 "tick" pClock_tick [.int 1] (spTick (He.ga K "Clock")) := by
    obtain ⟨ds, h1, h2⟩ := F_Clock_tick.binds1 (ps := pClock_tick) 1 0 (List.cons_ne_nil _ _) rfl (fun _ _ _ _ _ _ _ us its h1 h2 => match us, its, h1, h2 with | [_], [_], _, _ => ⟨_, rfl, rfl⟩)
    exact ⟨_, _, ds, mt_Clock_tick, h1, h2, ok_tick T D_is_from F_Clock_tick⟩
  have D_Clock_twin : Dm P w K mg base (He.ga K "Clock") 5 "twin" pClock_twin (spTwin (He.ga K "Clock")) := ⟨_, fd_Clock_twin, mt_Clock_twin, F_Clock_twin.bindsN fun _ _ _ _ _ _ us hl => match us, hl with | [_], _ => rfl, ok_twin T D_mk F_Clock_twin⟩
  have D__law_pool : Df P w K mg base 1 "_law_pool" p_law_pool (spPool K) := ⟨_, fd__law_pool, gl__law_pool, F__law_pool.kp, F__law_pool.bindsN fun _ _ _ _ _ _ us hl => match us, hl with | [_, _], _ => rfl, ok_pool m_max m_int F__law_pool⟩
  have D__law_take : Df P w K mg base 1 "_law_take" p_law_take (spTake) := ⟨_, fd__law_take, gl__law_take, F__law_take.kp, F__law_take.bindsN fun _ _ _ _ _ _ us hl => match us, hl with | [_, _], _ => rfl, ok_take F__law_take⟩
  have D__law_right : Df P w K mg base 3 "_law_right" p_law_right (spRight (He.ga K "Clock") K) := ⟨_, fd__law_right, gl__law_right, F__law_right.kp, F__law_right.bindsN fun _ _ _ _ _ _ us hl => match us, hl with | [_, _], _ => rfl, ok_right T m_range m_repr D_Clock_true D_Clock_shows D_Clock_off D_Clock_skew D_Clock_is_past D_Clock_is_ahead F__law_right⟩
  have D__law_gone : Df P w K mg base 4 "_law_gone" p_law_gone (spGone (He.ga K "Clock")) := ⟨_, fd__law_gone, gl__law_gone, F__law_gone.kp, F__law_gone.bindsN fun _ _ _ _ _ _ us hl => match us, hl with | [_, _, _], _ => rfl, ok_gone T D__law_take D_Clock_tick D_Clock_put_off F__law_gone⟩
  exact ok_law T m_len m_range m_max m_min m_list i_SKEW D__law_pool D__law_take D__law_right D__law_gone D_Clock_true D_Clock_twin D_tick0 D_C0 D_CK F_law
end My

open PySem PySem.W PySem.Calls PyProof.Rows
set_option maxRecDepth 100000 in
set_option maxHeartbeats 0 in
theorem PySem.Challenge.cw_appendlease_k06_clocks_told_holds : PySem.Challenge.rw_appendlease_k06_clocks_told.Holds := by
  w_on; o_law
  refine HandSHeadRun.head_any (r := OpenLaw.row PySem.Challenge.rw_appendlease_k06_clocks_told) (q := My.qv) (H := My.hk) (ob := My.ob) (M := 6000) (loose := My.loose) (d := HandSHeadRun.topDef (OpenLaw.row PySem.Challenge.rw_appendlease_k06_clocks_told).prog 16) (kwd := []) My.ob_eq
    (by kernel_rfl) (fun s => by kernel_rfl) My.run (by kernel_rfl) (by kernel_rfl) (by kernel_rfl) (by rfl) (by first | assumption | decide +kernel) (by decide +kernel) ⟨rfl, rfl, rfl, rfl, rfl, by decide +kernel⟩ ?hw ?hc
  case hw => w_witness2
  case hc =>
    refine L2.walk_ofE (l := PySem.Challenge.rw_appendlease_k06_clocks_told) (n := 63) (k := 6) (x := "_law_script") (CX := L2.CX0) rfl (by decide) (by kernel_rfl) ⟨rfl, by decide, by decide⟩ ?F (fun _ _ _ _ z => z)
    intro w mg fa h Y G hmg0
    obtain ⟨K, KX, c⟩ := Y
    have hmg : mg ("law" : PySem.Str) = some (.ref fa) := by
      have e : (HandSHeadRun.topDef (OpenLaw.row PySem.Challenge.rw_appendlease_k06_clocks_told).prog 16).name = ("law" : PySem.Str) := by kernel_rfl
      rw [← e]
      exact hmg0
    obtain ⟨fd, hb, hF⟩ := My.facts (P := (PySem.Challenge.rw_appendlease_k06_clocks_told).prog) (w := w) KX G hmg c
    exact ⟨K, fd, My.spLaw K, KX, hb, fun H a ns hl _ hS => ⟨a, ns, rfl, hS, hl, fun _ => rfl⟩, hF⟩

#print axioms PySem.Challenge.cw_appendlease_k06_clocks_told_holds
