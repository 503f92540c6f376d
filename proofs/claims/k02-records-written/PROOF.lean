import PyProof.Rows.All
import Wide.All
import OpenK.AllK
import Wide.FinOn
import KE.KStateDown
import HandS.ForMost
import HandS.More
import HandS.Exc
import HandS.TryOnly
import HandS.ExcOwn
import HandS.WordsExc
import HandS.Defaults
import HandS.MakeKwOnly
import HandS.IsInst
import HandS.Flow
import HandS.Evl
import HandS.Walk
import HandS.Wide
import HandS.Head0
import HandS.Head1
import HandS.Head2
import HandS.HeadEnd
import HandS.HeadHook1
import HandS.HeadHook2
import PyProof.NeKinds
import HandS.NoneIn
import HandS.FStr
import PyProof.StrBlock2
import PyProof.Draws
import PyProof.EnumMake
import HandS.ExcInit
import HandS.ExcField
import HandS.ExcIs
import KE.KExcIs
import PySem.Challenge.RW_appendlease_k02_records_written
set_option Elab.async false
set_option linter.all false
set_option maxRecDepth 100000
set_option maxHeartbeats 200000
namespace My
open PySem PySem.Spec PyProof.Rows L2
def top (i : Nat) : Stmt := PySem.Challenge.pw_appendlease_k02_records_written.main.body.getD i (.Pass ⟨0, 0, 0, 0⟩)
abbrev sis_whole : Stmt := top 9
abbrev sis_from : Stmt := top 10
abbrev sis_word : Stmt := top 11
abbrev sis_signs : Stmt := top 12
abbrev sis_key : Stmt := top 13
abbrev sis_text : Stmt := top 17
abbrev ssum_of : Stmt := top 18
abbrev srecord : Stmt := top 19
abbrev s_law_room : Stmt := top 21
abbrev s_law_take : Stmt := top 22
abbrev s_law_word : Stmt := top 23
abbrev s_law_line : Stmt := top 24
abbrev s_law_sum : Stmt := top 25
abbrev s_law_frame : Stmt := top 26
abbrev s_law_refused : Stmt := top 27
abbrev slaw : Stmt := top 28
abbrev nis_whole : List Str := ["thing"]
abbrev pis_whole : List Str := ["thing"]
abbrev nis_from : List Str := ["thing", "least", "most"]
abbrev pis_from : List Str := ["thing", "least", "most"]
abbrev nis_word : List Str := ["thing", "sign"]
abbrev pis_word : List Str := ["thing"]
abbrev nis_signs : List Str := ["thing", "sign"]
abbrev pis_signs : List Str := ["thing"]
abbrev nis_key : List Str := ["thing"]
abbrev pis_key : List Str := ["thing"]
abbrev nis_text : List Str := ["thing"]
abbrev pis_text : List Str := ["thing"]
abbrev nsum_of : List Str := ["text", "at", "sign"]
abbrev psum_of : List Str := ["text"]
abbrev nrecord : List Str := ["key", "text", "word", "number"]
abbrev precord : List Str := ["key", "text"]
abbrev n_law_room : List Str := ["_law_script", "_law_k", "_law_cell", "_law_left"]
abbrev p_law_room : List Str := ["_law_script", "_law_k"]
abbrev n_law_take : List Str := ["_law_room_here", "_law_many", "_law_found"]
abbrev p_law_take : List Str := ["_law_room_here", "_law_many"]
abbrev n_law_word : List Str := ["_law_room_here", "_law_letters", "_law_size", "_law_turn"]
abbrev p_law_word : List Str := ["_law_room_here"]
abbrev n_law_line : List Str := ["_law_room_here", "_law_size", "_law_signs", "_law_turn"]
abbrev p_law_line : List Str := ["_law_room_here", "_law_size"]
abbrev n_law_sum : List Str := ["_law_line_here", "_law_total", "_law_at"]
abbrev p_law_sum : List Str := ["_law_line_here"]
abbrev n_law_frame : List Str := ["_law_owner", "_law_line_here", "_law_head"]
abbrev p_law_frame : List Str := ["_law_owner", "_law_line_here"]
abbrev n_law_refused : List Str := ["_law_owner", "_law_line_here", "_law_kept", "e"]
abbrev p_law_refused : List Str := ["_law_owner", "_law_line_here"]
abbrev nlaw : List Str := ["_law_script", "_law_k", "_law_room_here", "_law_owner", "_law_line_here", "_law_due", "_law_odd", "_law_bad"]
abbrev plaw : List Str := ["_law_script"]
/-! ### common words over the hand layer -/
section
variable {X : Cx}
/-- == and != of a list (whatever its items are) and an empty one -/
def rEqLen (K : PySem.W.Frag) : R2 := fun x y H Q => ∃ a b xs, x = .ref a ∧ y = .ref b ∧ SqL K H a xs ∧ SqL K H b [] ∧ Q (.bl xs.isEmpty) H
def rNeLen (K : PySem.W.Frag) : R2 := fun x y H Q => ∃ a b xs, x = .ref a ∧ y = .ref b ∧ SqL K H a xs ∧ SqL K H b [] ∧ Q (.bl (!xs.isEmpty)) H
theorem isl_of {h : Heap} {a : Addr} {its : Array Value} (p : PlainL h a its) : h.IsList a its := by
  obtain ⟨o, n, e, c, _, d⟩ := p
  exact ⟨o, e, c, n, d⟩
theorem op_eqLen (hu : X.A.units + 1 < cLine) : OpR X (compareOp .Eq) (rEqLen X.K) := by
  intro pins s σ H x y v u Q I rx ry h
  obtain ⟨a, b, xs, rfl, rfl, h1, h2, q⟩ := h
  cases rx
  cases ry
  obtain ⟨i1, r1, p1, _⟩ := I.list h1
  obtain ⟨i2, r2, p2, _⟩ := I.list h2
  have hu' : X.A.units < cLine := by omega
  cases r2
  cases xs with
  | nil =>
    cases r1
    refine SeqAt.eq_listAt (e := fun _ => true) (isl_of p1) (isl_of p2) rfl hu' (fun j h1 => absurd h1 (by simp)) ?_
    exact ⟨.bl true, H, I, rfl, q⟩
  | cons z zs =>
    cases r1 with
    | cons r t =>
      refine SeqAt.eq_list_lengthsAt (isl_of p1) (isl_of p2) (by simp) hu' ?_
      exact ⟨.bl false, H, I, rfl, q⟩
theorem op_neLen (hu : X.A.units + 1 < cLine) : OpR X (compareOp .NotEq) (rNeLen X.K) := by
  intro pins s σ H x y v u Q I rx ry h
  obtain ⟨a, b, xs, rfl, rfl, h1, h2, q⟩ := h
  cases rx
  cases ry
  obtain ⟨i1, r1, p1, _⟩ := I.list h1
  obtain ⟨i2, r2, p2, _⟩ := I.list h2
  have hu' : X.A.units < cLine := by omega
  cases r2
  cases xs with
  | nil =>
    cases r1
    refine SeqAt.RcNeAt.lists (e := fun _ => true) (isl_of p1) (isl_of p2) rfl hu' (fun j h1 => absurd h1 (by simp)) _ _ _ _ ?_
    exact ⟨.bl false, H, I, rfl, q⟩
  | cons z zs =>
    cases r1 with
    | cons r t =>
      refine SeqAt.RcNeAt.lists_lengths (isl_of p1) (isl_of p2) (by simp) hu' _ _ _ _ ?_
      exact ⟨.bl true, H, I, rfl, q⟩
end
section
variable {X : Cx}
def tfS (b : Bool) : Str := if b then "True" else "False"
theorem call_reprB : CallR X (.builtin "repr") (fun xs H Q => ∃ b, xs = [.bl b] ∧ Q (.str (tfS b)) H) := by
  intro pins s σ H xs us Q I r h
  obtain ⟨b, rfl, q⟩ := h
  obtain ⟨u, rfl, ru⟩ := vals1 r
  cases (show u = Value.bool b from ru)
  exact PySem.P.repr_of_bool ⟨.str _, H, I.tok _, ⟨_, rfl⟩, q⟩
end
/-! ### rules whose readings name the written part by a letter: they may stand within comprehensions -/
section
variable {X : Cx} (K : PySem.W.Frag)
theorem pi_listK {tg l : Expr} {tl : TE} (hl : PE X l tl) (hK : X.K = K := by rfl) : PI X tg l (iList K tl) := hK ▸ pi_list hl
theorem pi_tupK {tg l : Expr} {tl : TE} (hl : PE X l tl) (hK : X.K = K := by rfl) : PI X tg l (iTup K tl) := hK ▸ pi_tup hl
theorem pe_fldK {e : Expr} {f : Str} {pos : Pos} {ta : TE} (he : PE X e ta) (hb : attributeBase e f X.env (eval e X.env) = eval e X.env) (hK : X.K = K := by rfl) : PE X (.Attribute e f pos) (tFld K ta f) := hK ▸ pe_fld he hb
theorem pg_tupK {es : List Expr} {k : Nat} {t : TGs} {n : Nat} {pos : Pos} (hc : X.calm = true) (h : PGs X es t) (hn : (assignEach es X.env).length = n := by rfl) (hst : (assignEach es X.env).findIdx? (·.1) = none := by rfl) (hK : X.K = K := by rfl) : PG X (.Tuple es k pos) (gTup K n t) := hK ▸ pg_tup hc h hn hst
theorem ix_listK (hK : X.K = K := by rfl) : IxR X (rIxL K) := hK ▸ ix_list
theorem ix_tupK (hK : X.K = K := by rfl) : IxR X (rIxT K) := hK ▸ ix_tup
theorem sl_listK (hK : X.K = K := by rfl) : SlR X (rSlL K) := hK ▸ sl_list
theorem op_eqDK (hu : X.A.units + 64 < cLine) (hK : X.K = K := by rfl) : OpR X (compareOp .Eq) (rEqD K) := hK ▸ op_eqD hu
theorem op_neDK (hu : X.A.units + 64 < cLine) (hK : X.K = K := by rfl) : OpR X (compareOp .NotEq) (rNeD K) := hK ▸ op_neD hu
theorem op_eqLenK (hu : X.A.units + 1 < cLine) (hK : X.K = K := by rfl) : OpR X (compareOp .Eq) (rEqLen K) := hK ▸ op_eqLen hu
theorem op_neLenK (hu : X.A.units + 1 < cLine) (hK : X.K = K := by rfl) : OpR X (compareOp .NotEq) (rNeLen K) := hK ▸ op_neLen hu
theorem call_lenK (hK : X.K = K := by rfl) : CallR X (.builtin "len") (fun xs H Q => ∃ p ys, xs = [.ref p] ∧ (SqL K H p ys ∨ SqT K H p ys) ∧ Q (.int ys.length) H) := hK ▸ call_len_seq
theorem call_listK (hK : X.K = K := by rfl) : CallR X (.type "list") (fun xs H Q => ∃ p ys, xs = [.ref p] ∧ (SqL K H p ys ∨ SqT K H p ys) ∧ ∀ l, H l = none → Q (.ref l) (upd H l (.lst ys))) := hK ▸ call_list_of
theorem call_isiK' (hK : X.K = K := by rfl) : CallR X (.builtin "isinstance") (rIsi K) := hK ▸ call_isi
end
section
variable (P : Program) (w : World) (K : PySem.W.Frag) (mg : Str → Option Value) (base : Heap)
/-- a def of the module keeps a promise -/
def Df (k : Nat) (x : Str) (ps : List Str) (sp : Sp) : Prop := ∃ (f : Addr) (fd : FuncData), mg x = some (.ref f) ∧ PySem.W.keepIn K (.ref f) = true ∧ Binds K fd ps [] ∧ FnOk P w K mg base CX0 k f fd ps sp
/-- a method of the class at C keeps a promise -/
def Dm (C : Addr) (k : Nat) (m : Str) (ps : List Str) (sp : Sp) : Prop := ∃ (f : Addr) (fd : FuncData), Meth K C m f ∧ Binds K fd ps [] ∧ FnOk P w K mg base CX0 k f fd ps sp
end
/-! ### heaps -/
theorem Same.new {H : Hp} {p : Addr} {o : HO} (h : H p = none) : Same H (upd H p o) := fun b u e => by
  rw [upd_ne (ne_of_none e h)]
  exact e
/-- what H does not track may change -/
theorem Same.mut {H H' : Hp} {p : Addr} {o : HO} (e : Same H H') (h : H p = none) : Same H (upd H' p o) := fun b u hb => by
  rw [upd_ne (ne_of_none hb h)]
  exact e b u hb
/-- what stands beside what is changed -/
theorem same_at {H H' : Hp} {p b : Addr} {o u : HO} (s : Same (upd H p o) H') (e : H b = some u) (ne : b ≠ p) : H' b = some u := s b u (by rw [upd_ne ne]; exact e)
theorem same_here {H H' : Hp} {p : Addr} {o : HO} (s : Same (upd H p o) H') : H' p = some o := s p o upd_same
theorem same_upd2 {H H' : Hp} {p : Addr} {o u : HO} (s : Same (upd H p o) H') : Same (upd H p u) (upd H' p u) := fun b v e => by
  by_cases hb : b = p
  · subst hb
    rw [upd_same] at e ⊢
    exact e
  · rw [upd_ne hb] at e ⊢
    exact s b v (by rw [upd_ne hb]; exact e)
theorem same_sql {K : PySem.W.Frag} {H H' : Hp} {a : Addr} {xs : List V} (e : Same H H') (h : SqL K H a xs) : SqL K H' a xs := e.seq h
/-- [g x for x in xs if f x]: tests and elements may lay new things, and change none -/
theorem lc_mapf {K : PySem.W.Frag} {a : Addr} {xs : List V} {j : Nat} {tt : TT} {te : TE} {vs : List Nat} {σ : L2.St} {H1 : Hp} {D : Addr} {Qd : Hp → Prop} (f : V → Bool) (g : V → V) (hx : SqL K H1 a xs) (hD : H1 D = none) (hz : xs.length ≤ 100000)
    (hw : ∀ x, wipe ((wipe σ vs).set j (some x)) vs = wipe σ vs)
    (ht : ∀ x H', x ∈ xs → Same H1 H' → ∀ Q : Bool → Hp → Prop, (∀ H'', Same H' H'' → Q (f x) H'') → tt ((wipe σ vs).set j (some x)) H' Q)
    (he : ∀ x H', x ∈ xs → f x = true → Same H1 H' → ∀ Q : VK, (∀ H'', Same H' H'' → Q (g x) H'') → te ((wipe σ vs).set j (some x)) H' Q)
    (hd : ∀ H', Same H1 H' → H' D = some (.lst ((xs.filter f).map g)) → Qd H') :
    ∃ W : Nat → Nat → Hp → Prop, (∃ m, W 0 m (upd H1 D (.lst []))) ∧ ∀ i m H, W i m H →
      ((Itl K a).stop i H ∧ Qd H) ∨ ((Itl K a).go i H ∧ ∃ Nx : Hp → Prop, (∀ H', Nx H' → ∃ m', m' < m ∧ W (i + 1) m' H') ∧ ∀ x H', (Itl K a).yld i H x H' → gName j x (wipe σ vs) H' fun σ2 H2 => wipe σ2 vs = wipe σ vs ∧ tt σ2 H2 fun b H3 =>
        if b = true then te σ2 H3 fun y H4 => ∃ acc, H4 D = some (.lst acc) ∧ acc.length < sizeLine ∧ Nx (upd H4 D (.lst (acc ++ [y]))) else Nx H3) := by
  have tk : ∀ (i : Nat) (x : V), xs[i]? = some x → xs.take (i + 1) = xs.take i ++ [x] := fun i x h => by
    rw [List.take_add_one, h]
    rfl
  refine lc_list (xs := xs) (fun i H' => Same H1 H' ∧ H' D = some (.lst (((xs.take i).filter f).map g))) ⟨Same.new hD, upd_same⟩ (fun i H' _ p => p.1.seq hx) (fun i x H' hi p => ?_) (fun H' p => ?_)
  · obtain ⟨p1, p2⟩ := p
    have hm : x ∈ xs := List.mem_of_getElem? hi
    have hlen : i < xs.length := (List.getElem?_eq_some_iff.mp hi).1
    refine ⟨hw x, ht x H' hm p1 _ fun H3 s3 => ?_⟩
    cases hf : f x with
    | true =>
      show te _ H3 _
      refine he x H3 hm hf (p1.trans s3) _ fun H4 s4 => ⟨_, s4 _ _ (s3 _ _ p2), ?_, Same.mut ((p1.trans s3).trans s4) hD, ?_⟩
      · have h1 := List.length_filter_le f (xs.take i)
        rw [List.length_take] at h1
        rw [List.length_map]
        exact Nat.lt_of_le_of_lt (show _ ≤ 100000 by omega) (by decide)
      · rw [upd_same, tk i x hi, List.filter_append, List.map_append, List.filter_cons, if_pos hf]
        rfl
    | false =>
      refine ⟨p1.trans s3, ?_⟩
      rw [s3 _ _ p2, tk i x hi, List.filter_append, List.map_append, List.filter_cons, if_neg (by rw [hf]; decide)]
      simp
  · obtain ⟨p1, p2⟩ := p
    rw [List.take_length] at p2
    exact hd H' p1 p2
theorem rv_neLen {K : PySem.W.Frag} {H : Hp} {a p : Addr} {xs : List V} (h : SqL K H a xs) (hp : H p = some (.lst [])) : Evl.RV (rNeLen K) (.ref a) (.ref p) H (.bl (!xs.isEmpty)) := fun H1 e _ q => ⟨a, p, xs, rfl, rfl, Evl.ex_l e h, SqL.of (e _ _ hp), q H1 (Evl.Ex.refl H1)⟩
theorem rv_eqLen {K : PySem.W.Frag} {H : Hp} {a p : Addr} {xs : List V} (h : SqL K H a xs) (hp : H p = some (.lst [])) : Evl.RV (rEqLen K) (.ref a) (.ref p) H (.bl xs.isEmpty) := fun H1 e _ q => ⟨a, p, xs, rfl, rfl, Evl.ex_l e h, SqL.of (e _ _ hp), q H1 (Evl.Ex.refl H1)⟩
/-- x != [], x == [] -/
theorem et_neNil {K : PySem.W.Frag} {σ : L2.St} {H : Hp} {ta : TE} {a : Addr} {xs : List V} (ha : Evl.Ev ta σ H (.ref a)) (h : SqL K H a xs) : Evl.EvT (tTest (tOp (rNeLen K) ta (tLst tNil))) σ H (!xs.isEmpty) :=
  Evl.et_test (Evl.ev_opL ha (Evl.el_lst Evl.ea_nil (by show 0 ≤ 100000; decide)) fun _ _ hp e => rv_neLen (Evl.ex_l e h) hp)
section
variable (P : Program) (w : World) (K : PySem.W.Frag) (mg : Str → Option Value) (base : Heap)
/-- the class x at C is made by keywords ks: __init__ keeps a promise -/
def Dk (C : Addr) (k : Nat) (x : Str) (ps : List Str) (n : Nat) (ks : List Str) (gV : List V → List V → List V) (sp : Sp) : Prop := ∃ (f : Addr) (fd : FuncData) (g : List Value → List Value → List Value), Mk K C f ∧ mg x = some (.ref C) ∧ KBn K fd ps n ks g gV ∧ FnOk P w K mg base CX0 k f fd ps sp
end
theorem binds_nil {K : PySem.W.Frag} {fd : FuncData} {ps : List Str} (h : ∃ ds, Vals [] ds ∧ Binds K fd ps ds) : Binds K fd ps [] := by
  obtain ⟨ds, h1, h2⟩ := h
  cases h1
  exact h2
section
variable (P : Program) (w : World) (K : PySem.W.Frag) (mg : Str → Option Value) (base : Heap)
/-- a method, a class, called while defaults dvs fill up -/
def Dmd (C : Addr) (k : Nat) (m : Str) (ps : List Str) (dvs : List V) (sp : Sp) : Prop := ∃ (f : Addr) (fd : FuncData) (ds : List Value), Meth K C m f ∧ Vals dvs ds ∧ Binds K fd ps ds ∧ FnOk P w K mg base CX0 k f fd ps sp
def Dkd (C : Addr) (k : Nat) (x : Str) (ps : List Str) (dvs : List V) (sp : Sp) : Prop := ∃ (f : Addr) (fd : FuncData) (ds : List Value), Mk K C f ∧ mg x = some (.ref C) ∧ Vals dvs ds ∧ Binds K fd ps ds ∧ FnOk P w K mg base CX0 k f fd ps sp
end
theorem vals_reverse : ∀ {xs : List V} {us : List Value}, Vals xs us → Vals xs.reverse us.reverse
  | _, _, .nil => .nil
  | _, _, .cons r t => by
    rw [List.reverse_cons, List.reverse_cons]
    exact (vals_reverse t).append (.cons r .nil)

/-! ### more rules: o.m(e, k = v), text * n, enumerate(text) -/
section
variable {X : Cx} {CX : CXT} {k n : Nat} {f C : Addr} {fd : FuncData} {ps ks : List Str} {sp : Sp} {E : XK} {m : Str} {apos pos : Pos} {o e : Expr} {es : List Expr} {kws : List Keyword} {ta : TE} {t tk : TA} {g : List Value → List Value → List Value} {gV : List V → List V → List V}
def tMethN (C : Addr) (m : Str) (n j : Nat) (sp : Sp) (gV : List V → List V → List V) (E : XK) (ta : TE) (t tk : TA) : TE := fun σ H Q => ta σ H fun x H1 => ∃ a dx fs, x = .ref a ∧ H1 a = some (.ins C dx fs) ∧ fs.lookup m = none ∧
  t σ H1 fun vs H2 => tk σ H2 fun zs H3 => vs.length = n ∧ zs.length = j ∧ sp (gV (x :: vs) zs) H3 Q E
theorem pe_methN {pl : Sem Bool} (he : PE X o ta) (c : Cls X.K C) (hm : Meth X.K C m f) (F : FnOk X.prog X.w X.K X.mg X.base CX k f fd ps sp) (hr : Room k X.A) (hb : KBn X.K fd ps (n + 1) ks g gV) (hx : Passes CX X E) (ha : PA X (e :: es) t) (hkw : PK X kws tk)
    (hall : (backToKw pos (keywordEach kws X.env)).all (·.1.isSome) = true := by rfl) (hks : (backToKw pos (keywordEach kws X.env)).filterMap (·.1) = ks := by rfl)
    (hst : starEach (e :: es) X.env = (false, eval e X.env) :: starEach es X.env := by rfl) (hpl : ((backTo pos (starEach (e :: es) X.env)).any (·.1) || (backToKw pos (keywordEach kws X.env)).any (·.1.isNone)) = false := by rfl)
    (ht : eval (.Call (.Attribute o m apos) (e :: es) kws pos) X.env = (do
      let ov ← eval o X.env
      standAt apos.atName
      let (f, first) ← holding [ov] (getMethod ov m pl)
      callWith pos f first (backTo pos (starEach (e :: es) X.env)) (backToKw pos (keywordEach kws X.env))) := by rfl) :
    PE X (.Call (.Attribute o m apos) (e :: es) kws pos) (tMethN C m n ks.length sp gV E ta t tk) := by
  refine ⟨fun pins s σ H Q I h => ?_⟩
  refine PySem.W.methodCall_KW (pl := pl) (thn (he.run pins s σ H _ I h) fun u s1 ⟨x, H1, I1, rx, a, dx, fs, ex, ea, l, q⟩ => ?_) ht
  subst ex
  obtain rfl : u = Value.ref a := rx
  refine getmeth_ok I1 ea c hm l ?_
  refine PySem.W.callWith_KW (first := [.ref a]) (h₀ := X.base) I.ok.mod.kin hm.kp hall (thn (ha.run pos pins s1 σ H1 _ I1 q) fun us s2 ⟨vs, H2, I2, r, q2⟩ => ?_) hpl hst
  refine thn (hkw.run pos pins s2 σ H2 _ I2 q2) fun ws s3 ⟨zs, H3, I3, rz, l1, l2, q3⟩ => ⟨I3.kIn, ?_⟩
  rw [hks]
  exact run_fnN (n := n + 1) (us := .ref a :: us) (vs := .ref a :: vs) F hr hb hx I3 (.cons rfl r) rz (congrArg Nat.succ l1) l2 q3
/-- text * n -/
theorem op_mul_str : OpR X (binaryOp .Mult) (fun x y H Q => ∃ z i, x = .str z ∧ y = .int i ∧ MulOk z i ∧ Q (.str (Txt.mul z i)) H) := by
  intro pins s σ H x y v u Q I rx ry h
  obtain ⟨z, i, rfl, rfl, hm, q⟩ := h
  obtain ⟨t, rfl⟩ := rx
  obtain ⟨t', rfl⟩ := ry
  exact SB.mul hm fun t' k => ⟨.str _, H, I.tok _, ⟨_, rfl⟩, q⟩
end
/-! ### enumerate(text) -/
theorem draws_str {prog : Program} {w : World} {A : Around} (hh : A.handled = none) (it : Addr) (x : Str) (t : Tok) :
    Draws prog w A it [it] x.cps.size (fun i v => ∃ c u, x.cps[i]? = some c ∧ v = .str ⟨#[c]⟩ u) (fun i h => h.IsStrIter it (strIterType x) x t i) := by
  unfold strIterType
  cases x.cps.all (· < 128) with
  | true => exact Draws.strAscii hh it x t
  | false => exact Draws.strWide hh it x t
def ItES (x : Str) : It := ⟨fun i _ => i < x.cps.size, fun i H v H' => ∃ T c, v = .ref T ∧ H T = none ∧ H' = upd H T (.tup [.int (i : Nat), .str ⟨#[c]⟩]) ∧ x.cps[i]? = some c, fun i _ => i = x.cps.size⟩
theorem turn_enumS {P : Program} {w : World} {K : PySem.W.Frag} {elts : List Expr} {kk : Nat} {tpos : Pos} (x : Str) (t : Tok) (e it : Addr) :
    Turn P w K (.Tuple elts kk tpos) (ItES x) [e, it] e (fun i h => (∃ old, IsEnum h e it ((i : Nat) : Int) old) ∧ h.IsStrIter it (strIterType x) x t i ∧ e ≠ it) where
  mem := by simp
  obj := fun i h st b hb => by
    obtain ⟨⟨old, he⟩, ⟨o, ho, hc, hd⟩, _⟩ := st
    have e' : b = e ∨ b = it := by simpa using hb
    rcases e' with z | z
    · rw [z]; exact ⟨_, he, fun v q => nomatch q⟩
    · rw [z]; exact ⟨o, ho, fun v q => by rw [hd] at q; cases q⟩
  keep := fun i h h' st k => let ⟨⟨old, he⟩, ⟨o, ho, hr⟩, hne⟩ := st; ⟨⟨old, k e (by simp) _ he⟩, ⟨o, k it (by simp) _ ho, hr⟩, hne⟩
  item := by
    intro X hP hw hK hc i pins s σ H E I hf st hg
    subst hP hw hK
    obtain ⟨⟨old, he⟩, hit, hne⟩ := st
    have hel : e < s.heap.objs.size := Heap.lt_size he
    have hil : it < s.heap.objs.size := by obtain ⟨_, q, _⟩ := hit; exact Heap.lt_size q
    refine wpAny_pyNext_enum_itemD (draws_str (show X.A.in1.handled = none from I.ok.hd hc) it x t) he hit hg hne (by simp [hne]) fun v h' tk hP ho hit' hT hsz hk => ?_
    obtain ⟨c, u, hcx, rfl⟩ := hP
    refine ⟨_, rfl, wpAny_letOwnedTupleGo_enum (s := { s with heap := h', toks := tk + 1 }) ho fun h'' he' sb => ?_⟩
    have hT2 : h''.get? s.heap.objs.size = some { cls := .type "tuple", data := .seq #[.int i tk, .str ⟨#[c]⟩ u] } := (sb.2 _ (Nat.ne_of_gt hel)).trans hT
    have new : ObjOk X.prog X.w (upd H s.heap.objs.size (.tup [.int (i : Nat), .str ⟨#[c]⟩])) h'' s.heap.objs.size (.tup [.int (i : Nat), .str ⟨#[c]⟩]) :=
      ⟨by show 2 ≤ sizeLine; decide, [.int i tk, .str ⟨#[c]⟩ u], .cons ⟨_, rfl⟩ (.cons ⟨_, rfl⟩ .nil), ⟨_, hT2, rfl, _, rfl⟩⟩
    have I1 : Inv X pins σ (upd H s.heap.objs.size (.tup [.int (i : Nat), .str ⟨#[c]⟩])) { s with heap := h'', toks := tk + 1 } :=
      I.turnedNew (ch := [e, it]) (fun b ob hb q => (sb.2 b (fun z => hb (by simp [z]))).trans (hk b ob (fun z => hb (by simp [z])) (fun z => hb (by simp [z])) q)) hf (Nat.le_refl _) new
    refine ⟨.ref s.heap.objs.size, _, I1, rfl, ⟨_, c, rfl, I.hok.fresh (Nat.le_refl _), rfl, hcx⟩, ⟨⟨.str ⟨#[c]⟩ u, ?_⟩, ?_, hne⟩, fun b hb => ?_⟩
    · have e1 : ((i + 1 : Nat) : Int) = (i : Int) + 1 := by omega
      rw [e1]; exact he'
    · obtain ⟨o, ho', hr⟩ := hit'
      exact ⟨o, (sb.2 it (Ne.symm hne)).trans ho', hr⟩
    · have hb' : b < s.heap.objs.size := by
        have e' : b = e ∨ b = it := by simpa using hb
        rcases e' with z | z
        · rw [z]; exact hel
        · rw [z]; exact hil
      rw [upd_ne (Nat.ne_of_lt hb')]
      exact (hf b hb).1
  done := by
    intro X hP hw hK hc i pins s σ H E I hf st hg
    subst hP hw hK
    obtain ⟨⟨old, he⟩, hit, hne⟩ := st
    have hg' : i = x.cps.size := hg
    subst hg'
    obtain ⟨f0, f1, f2, f3, f4, f5⟩ := hf it (by simp)
    exact wpAny_pyNext_enum_endD (draws_str (show X.A.in1.handled = none from I.ok.hd hc) it x t) he hit fun h' eb => ⟨rfl, I.turned (t' := s.toks) (fun b o hb q => eb b o hb q) f0 f1 f3 f4 f5⟩
  self := fun A i s Q E st h => let ⟨⟨_, he⟩, _⟩ := st; wpAny_pyIter_enum he h
def iEnumS (ta : TA) : TI := fun σ H R => ta σ H fun vs H1 => ∃ x, vs = [.str x] ∧ R (ItES x) H1
theorem pi_enumS {X : Cx} {e : Expr} {ta : TA} {p pos tpos : Pos} {elts : List Expr} {kk : Nat} (hg : Gl X "enumerate") (hm : X.mg "enumerate" = none) (ha : PA X [e] ta) (hs : starEach [e] X.env = [(false, eval e X.env)] := by rfl) :
    PI X (.Tuple elts kk tpos) (.Call (.Name "enumerate" p) [e] [] pos) (iEnumS ta) := by
  refine ⟨fun pins s σ H R I h => ?_⟩
  refine Call_ (ld_blt I hg hm boot_enumerate (PyProof.Rows.callWith_type1 (thn (ha.run pos pins s σ H _ I h) fun us s1 ⟨vs, H1, I1, r1, q1⟩ => ?_) hs rfl))
  obtain ⟨x, ex, q⟩ := q1
  subst ex
  cases r1 with
  | cons r rr =>
    cases rr
    obtain ⟨t, rfl⟩ := r
    refine call_enumerate_str fun h' he hit hsz hk => wpAny_pyIter_enum he ?_
    have I2 : Inv X pins σ H1 { s1 with heap := h' } := I1.kept (t' := s1.toks) hk
    refine ⟨s1.heap.objs.size + 1, [s1.heap.objs.size + 1, s1.heap.objs.size], _, _, H1, rfl, I2, turn_enumS x t (s1.heap.objs.size + 1) s1.heap.objs.size, ⟨⟨.none, he⟩, hit, Nat.succ_ne_self _⟩, fun b hb => ?_, q⟩
    have e' : b = s1.heap.objs.size + 1 ∨ b = s1.heap.objs.size := by simpa using hb
    have hle : s1.heap.objs.size ≤ b := by
      rcases e' with z | z
      · rw [z]; exact Nat.le_add_right _ _
      · rw [z]; exact Nat.le_refl _
    exact I1.fpOk hle (I1.hok.fresh hle)
theorem walk_enumS {x : Str} : Walk (ItES x) x.cps.size (fun _ => True) (YPair (fun i => some (.int (i : Nat))) (fun i => x.cps[i]?.map fun c => .str ⟨#[c]⟩)) :=
  ⟨fun _ _ hi _ => hi, fun _ _ => rfl, fun i H v H' _ _ y => by
    obtain ⟨T, c, h1, h2, h3, h4⟩ := y
    exact ⟨T, _, _, h1, h2, h3, rfl, by show Option.map _ (x.cps[i]?) = _; rw [h4]; rfl⟩⟩

/-! ### len(o), repr(o), o == p by own defs -/
section
variable {X : Cx} {k : Nat} {f C : Addr} {fd : FuncData} {ps : List Str} {sp : Sp}
theorem run_in1 {pins : List (Addr × Obj)} {σ : L2.St} {H : Hp} {s : Shared} {Q : VK} {us : List Value} {vs : List V} (F : FnOk X.prog X.w X.K X.mg X.base CX0 k f fd ps sp) (hr : Room (k + 1) X.A) (hb : Binds X.K fd ps []) (I : Inv X pins σ H s) (r : Vals vs us) (h : sp vs H Q E0) :
    wpAny (model X.prog X.w) X.A.in1 (call (.ref f) us) (EP X pins σ Q) X.xe s := by
  have hl : (us ++ []).length = ps.length := by
    rw [List.append_nil, ← r.length]
    exact F.len _ _ _ _ h
  have r2 : Vals vs (us ++ []) := by rw [List.append_nil]; exact r
  refine wpAny_call (codeAny_mono (F.run X.A.in1 X.stack s H ⟨us, []⟩ (us ++ []) vs Q E0 hr.in1 I.env0.in1 (hb s us I.kIn hl) r2 h) fun r s' hq => ?_)
  cases r with
  | error e => exact False.elim hq
  | ok fl =>
    cases fl with
    | ret u => exact I.after hq
    | next => exact False.elim hq
    | brk => exact False.elim hq
    | cont => exact False.elim hq
theorem call_lenOwn (hm : Meth X.K C "__len__" f) (F : FnOk X.prog X.w X.K X.mg X.base CX0 k f fd ps sp) (hr : Room (k + 1) X.A) (hb : Binds X.K fd ps []) :
    CallR X (.builtin "len") (fun xs H Q => ∃ a dx fs, xs = [V.ref a] ∧ H a = some (.ins C dx fs) ∧ sp [.ref a] H (fun z H' => ∃ i : Int, z = .int i ∧ 0 ≤ i ∧ i < 2 ^ 63 ∧ Q (.int i) H') E0) := by
  intro pins s σ H xs us Q I r h
  obtain ⟨a, dx, fs, rfl, ha, q⟩ := h
  obtain ⟨u, rfl, ru⟩ := vals1 r
  cases (show u = Value.ref a from ru)
  obtain ⟨mA, O, _⟩ := ins_get I.hok ha
  obtain ⟨od, J, _⟩ := O.look
  obtain ⟨m, hF⟩ := I.fr
  refine PySem.W.len_K hF I.ok.mod.kin J hm.at_ hm.fn (wpAny_mono (run_in1 (vs := [.ref a]) (us := [.ref a]) F hr hb I (.cons rfl .nil) q) (fun w s' z => ?_) fun _ _ x => x)
  obtain ⟨z', H', I', rz, i, rfl, i0, i1, qz⟩ := z
  obtain ⟨t, e⟩ := (show ∃ t, w = Value.int i t from rz)
  cases e
  exact ⟨⟨i0, i1⟩, .int i, H', I'.tok _, ⟨_, rfl⟩, qz⟩
theorem call_reprOwn (hm : Meth X.K C "__repr__" f) (F : FnOk X.prog X.w X.K X.mg X.base CX0 k f fd ps sp) (hr : Room (k + 1) X.A) (hb : Binds X.K fd ps []) :
    CallR X (.builtin "repr") (fun xs H Q => ∃ a dx fs, xs = [V.ref a] ∧ H a = some (.ins C dx fs) ∧ sp [.ref a] H (fun z H' => ∃ y : Str, z = .str y ∧ Q (.str y) H') E0) := by
  intro pins s σ H xs us Q I r h
  obtain ⟨a, dx, fs, rfl, ha, q⟩ := h
  obtain ⟨u, rfl, ru⟩ := vals1 r
  cases (show u = Value.ref a from ru)
  obtain ⟨mA, O, _⟩ := ins_get I.hok ha
  obtain ⟨od, J, _⟩ := O.look
  obtain ⟨m, hF⟩ := I.fr
  refine PySem.W.repr_K (Room.in1 hr).units0 hF I.ok.mod.kin J hm.at_ hm.fn (wpAny_mono (run_in1 (vs := [.ref a]) (us := [.ref a]) F hr hb I (.cons rfl .nil) q) (fun w s' z => ?_) fun _ _ x => x)
  obtain ⟨z', H', I', rz, y, rfl, qz⟩ := z
  obtain ⟨t, e⟩ := (show ∃ t, w = Value.str y t from rz)
  cases e
  exact ⟨.str y, H', I', ⟨t, rfl⟩, qz⟩
/-- o == y, o's own __eq__ tells a truth; y of a built-in kind or of o's own class -/
def rEqOwn (K : PySem.W.Frag) (C : Addr) (sp : Sp) : R2 := fun x y H Q => ∃ a dx fs t, x = .ref a ∧ H a = some (.ins C dx fs) ∧ TyX K H y t ∧ PySem.W.notFirst K C t = true ∧ sp [x, y] H (fun z H' => ∃ b : Bool, z = .bl b ∧ Q (.bl b) H') E0
end
/-! ### texts by their signs -/
def st (l : List Nat) : Str := ⟨l.toArray⟩
theorem st_cps (l : List Nat) : (st l).cps = l.toArray := rfl
theorem st_codes (l : List Nat) : (st l).cps.toList = l := by simp [st]
theorem st_len (l : List Nat) : (st l).length = l.length := by
  show l.toArray.size = l.length
  simp
theorem st_app (a b : List Nat) : st a ++ st b = st (a ++ b) := by
  show Str.append (st a) (st b) = st (a ++ b)
  unfold Str.append st
  simp
theorem st_of (z : Str) : st z.cps.toList = z := by
  cases z
  simp [st]
theorem st_inj {a b : List Nat} (h : st a = st b) : a = b := by
  have := congrArg (fun z : Str => z.cps.toList) h
  simpa [st] using this
theorem sIx_none (n d : Nat) : HT.sIx n d none = d := rfl
theorem sIx_nat (n d i : Nat) : HT.sIx n d (some (i : Int)) = min i n := by
  show (if (i : Int) < 0 then ((i : Int) + (n : Int)).toNat else min (i : Int).toNat n) = min i n
  rw [if_neg (by omega), Int.toNat_natCast]
theorem st_take (l : List Nat) (i : Nat) : cutS (st l) none (some (i : Int)) = st (l.take i) := by
  unfold cutS
  rw [sIx_none, sIx_nat, st_len, st_codes]
  show st _ = _
  congr 1
  rw [List.drop_zero, Nat.sub_zero]
  by_cases h : i ≤ l.length
  · rw [Nat.min_eq_left h]
  · rw [Nat.min_eq_right (by omega), List.take_of_length_le (Nat.le_refl _), List.take_of_length_le (by omega)]
theorem st_drop (l : List Nat) (i : Nat) : cutS (st l) (some (i : Int)) none = st (l.drop i) := by
  unfold cutS
  rw [sIx_none, sIx_nat, st_len, st_codes]
  show st _ = _
  congr 1
  by_cases h : i ≤ l.length
  · rw [Nat.min_eq_left h, List.take_of_length_le (by rw [List.length_drop]; exact Nat.le_refl _)]
  · rw [Nat.min_eq_right (by omega), List.drop_of_length_le (Nat.le_refl _), List.drop_of_length_le (by omega), List.take_nil]
theorem cutV_take (l : List V) (i : Nat) : cutV l none (some (i : Int)) = l.take i := by
  unfold cutV
  rw [sIx_none, sIx_nat, List.drop_zero, Nat.sub_zero]
  by_cases h : i ≤ l.length
  · rw [Nat.min_eq_left h]
  · rw [Nat.min_eq_right (by omega), List.take_of_length_le (Nat.le_refl _), List.take_of_length_le (by omega)]
theorem cutV_drop (l : List V) (i : Nat) : cutV l (some (i : Int)) none = l.drop i := by
  unfold cutV
  rw [sIx_none, sIx_nat]
  by_cases h : i ≤ l.length
  · rw [Nat.min_eq_left h, List.take_of_length_le (by rw [List.length_drop]; exact Nat.le_refl _)]
  · rw [Nat.min_eq_right (by omega), List.drop_of_length_le (Nat.le_refl _), List.drop_of_length_le (by omega), List.take_nil]
theorem foldl_app : ∀ (ls : List (Array Nat)) (a : Array Nat), (ls.foldl (· ++ ·) a).toList = a.toList ++ (ls.map Array.toList).flatten
  | [], a => by simp
  | x :: ls, a => by
    rw [List.foldl_cons, foldl_app ls, List.map_cons, List.flatten_cons, ← List.append_assoc, Array.toList_append]
theorem st_mul (l : List Nat) (n : Nat) : Txt.mul (st l) (n : Int) = st ((List.replicate n l).flatten) := by
  unfold Txt.mul
  by_cases h0 : n = 0
  · subst h0
    rw [if_pos (by decide)]
    rfl
  · rw [if_neg (by omega)]
    by_cases h1 : ((n : Int) == 1 || (st l).length == 0) = true
    · rw [if_pos h1]
      rcases Bool.or_eq_true_iff.mp h1 with h | h
      · have : n = 1 := by have := eq_of_beq h; omega
        subst this
        simp
      · have : (st l).length = 0 := eq_of_beq h
        rw [st_len] at this
        have e := List.eq_nil_of_length_eq_zero this
        subst e
        have : (List.replicate n ([] : List Nat)).flatten = [] := by
          induction n with
          | zero => rfl
          | succ m _ => simp
        rw [this]
    · rw [if_neg h1, Int.toNat_natCast]
      have := foldl_app (List.replicate n (st l).cps) #[]
      have e : (⟨(List.replicate n (st l).cps).foldl (· ++ ·) #[]⟩ : Str) = st ((List.replicate n (st l).cps).foldl (· ++ ·) #[]).toList := (st_of _).symm
      rw [e, this, List.map_replicate, st_codes]
      rfl
theorem mulOk_of {l : List Nat} {n : Nat} (h : l.length * n ≤ 100000) (hn : n ≤ 100000) : MulOk (st l) (n : Int) := by
  have e63 : (2 : Int) ^ 63 = 9223372036854775808 := by decide
  refine ⟨?_, fun h1 h2 => ?_, fun h1 h2 => ?_⟩
  · rw [e63, Bool.or_eq_false_iff]
    exact ⟨decide_eq_false (by omega), decide_eq_false (by omega)⟩
  · rw [st_len, e63]
    have h3 : 0 < n := by omega
    have h4 : l.length ≤ 100000 := Nat.le_trans (Nat.le_mul_of_pos_right _ h3) h
    have h5 : (100000 : Int) ≤ (9223372036854775808 - 1) / (n : Int) := Int.le_ediv_of_mul_le (by omega) (by omega)
    omega
  · rw [st_len, Int.toNat_natCast]
    exact notLongL (Nat.le_trans h (by decide))

/-! ### the head's hook with facts of our own -/
abbrev AlB : Type := He.AlD × List Bool
def obsB (fa : List He.Fa) (fn : List He.DefD) (bs : List (PySem.W.Frag → Bool)) (K : PySem.W.Frag) : AlB := (He.obsD fa fn K, bs.map fun b => b K)
def valB (fn : List He.DefD) (bs : List (PySem.W.Frag → Bool)) : AlB := (He.valD fn, bs.map fun _ => true)
def SaysB (fa : List He.Fa) (fn : List He.DefD) (bs : List (PySem.W.Frag → Bool)) (K : PySem.W.Frag) : Prop := obsB fa fn bs K = valB fn bs
def obsBG (n : Nat) (fa : List He.Fa) (fn : List He.DefD) (bs : List (PySem.W.Frag → Bool)) (g : Addr → Option Obj) : AlB := obsB fa fn bs (He.frG g (He.asD g n))
def hookB (n : Nat) (fa : List He.Fa) (fn : List He.DefD) (bs : List (PySem.W.Frag → Bool)) : PySem.W.Hook where
  α := AlB
  obs := fun s => obsBG n fa fn bs s.heap.get?
  val := fun _ => valB fn bs
  says := fun _ h => ∃ K : PySem.W.Frag, K.In h ∧ SaysB fa fn bs K
  of := fun _ _ e => ⟨_, He.frG_in, e⟩
  keeps := fun _ _ _ ⟨K, hK, c⟩ k => ⟨K, PySem.W.Frag.In.keeps hK k, c⟩
theorem obsBG_eq {n : Nat} {fa : List He.Fa} {fn : List He.DefD} {bs : List (PySem.W.Frag → Bool)} {g : Addr → Option Obj} {s : Shared} (h : ∀ a, g a = s.heap.get? a) : obsBG n fa fn bs g = (hookB n fa fn bs).obs s := by
  have e : g = s.heap.get? := funext h
  rw [e] <;> rfl
theorem SaysB.d {fa : List He.Fa} {fn : List He.DefD} {bs : List (PySem.W.Frag → Bool)} {K : PySem.W.Frag} (c : SaysB fa fn bs K) : He.SaysD fa fn K := congrArg (fun z : AlB => z.1) c
theorem SaysB.own {fa : List He.Fa} {fn : List He.DefD} {bs : List (PySem.W.Frag → Bool)} {K : PySem.W.Frag} (c : SaysB fa fn bs K) (i : Nat) {b : PySem.W.Frag → Bool} (h : bs[i]? = some b := by rfl) : b K = true := by
  have e : bs.map (fun b => b K) = bs.map fun _ => true := congrArg (fun z : AlB => z.2) c
  have e2 : (bs.map fun b => b K)[i]? = (bs.map fun _ => true)[i]? := by rw [e]
  rw [List.getElem?_map, List.getElem?_map, h] at e2
  exact Option.some.inj e2
/-! own facts about exception classes -/
/-- the object of an exception class over ValueError, with a dict -/
def oexL (K : PySem.W.Frag) (C : Addr) : Bool := match K.lookup C with
  | some ⟨.type "type", _, .cls cd, sl⟩ => (match cd.mro, sl.toList with
    | .ref C' :: bm, [_, _, _, _, some (.builtin n), _] => C' == C && (n == "ValueError.__new__" && (!cd.hasDel && (cd.hasDict && PySem.HandSPX.refsVE bm)))
    | _, _ => false)
  | _ => false
def oexB (x : Str) (K : PySem.W.Frag) : Bool := oexL K (He.ga K x) && (decide (PySem.W.findIn K (.ref (He.ga K x)) "__setattr__" = some (some (.builtin "object.__setattr__"))) && (decide (PySem.W.subIn K (.ref (He.ga K x)) (.type "BaseException") = some true) &&
  (decide (PySem.W.typeIn K (.ref (He.ga K x)) = some (.type "type")) && PySem.W.keepIn K (.ref (He.ga K x)))))
theorem oexB_ok {x : Str} {K : PySem.W.Frag} (h : oexB x K = true) : OexC K (He.ga K x) := by
  obtain ⟨h1, h⟩ := Bool.and_eq_true_iff.mp h
  obtain ⟨h2, h⟩ := Bool.and_eq_true_iff.mp h
  obtain ⟨h3, h⟩ := Bool.and_eq_true_iff.mp h
  obtain ⟨h4, h5⟩ := Bool.and_eq_true_iff.mp h
  refine ⟨?_, of_decide_eq_true h2, of_decide_eq_true h3, of_decide_eq_true h4, h5⟩
  unfold oexL at h1
  split at h1
  · rename_i dd cd sl ho
    split at h1
    · rename_i C' bm k0 k1 k2 k3 n k5 hm hs
      simp only [Bool.and_eq_true, beq_iff_eq, Bool.not_eq_true'] at h1
      obtain ⟨rfl, rfl, hdel, hdic, hb⟩ := h1
      obtain ⟨nm, bs, mro, ns, qn, hd, sn, sub, ab, col, del⟩ := cd
      obtain ⟨sl⟩ := sl
      dsimp only at hm hdel hdic hs
      subst hm hdel hdic hs
      exact ⟨nm, qn, ns, bs, bm, sn, sub, ab, col, dd, k0, k1, k2, k3, k5, ho, hb⟩
    · cases h1
  · cases h1
/-- isinstance and fields of instances -/
def ecB (x : Str) (K : PySem.W.Frag) : Bool := xfB K (He.ga K x) && (decide (PySem.W.findIn K (.ref (He.ga K x)) "__class__" = some (some (.builtin "object.__class__"))) && (decide (PySem.W.specialIn K (.builtin "object.__class__") "__get__" = some (some (.builtin "getset_descriptor.__get__"))) &&
  (decide (PySem.W.takesIn K (.builtin "object.__class__") = some true) && decide (PySem.W.mroIn K (He.ga K x) (.type "object") = some true))))
theorem ecB_ok {x : Str} {K : PySem.W.Frag} (h : ecB x K = true) : ExcC K (He.ga K x) ∧ XfC K (He.ga K x) := by
  obtain ⟨h1, h⟩ := Bool.and_eq_true_iff.mp h
  obtain ⟨h2, h⟩ := Bool.and_eq_true_iff.mp h
  obtain ⟨h3, h⟩ := Bool.and_eq_true_iff.mp h
  obtain ⟨h4, h5⟩ := Bool.and_eq_true_iff.mp h
  have f := xfB_ok h1
  exact ⟨⟨f.ga, f.gg, f.exC, f.hdC, of_decide_eq_true h2, of_decide_eq_true h3, of_decide_eq_true h4, of_decide_eq_true h5⟩, f⟩
def kitF (x y : Str) (b : Bool) (K : PySem.W.Frag) : Bool := decide (PySem.W.kitOne K (.ref (He.ga K x)) (.ref (He.ga K y)) = some b)
theorem kitF_ok {x y : Str} {b : Bool} {K : PySem.W.Frag} (h : kitF x y b K = true) : PySem.W.kitOne K (.ref (He.ga K x)) (.ref (He.ga K y)) = some b := of_decide_eq_true h
def noatB (x f : Str) (K : PySem.W.Frag) : Bool := decide (PySem.W.findIn K (.ref (He.ga K x)) f = some none)
theorem noatB_ok {x f : Str} {K : PySem.W.Frag} (h : noatB x f K = true) : PySem.W.findIn K (.ref (He.ga K x)) f = some none := of_decide_eq_true h
/-- x.__init__ is ValueError's -/
structure LeC (K : PySem.W.Frag) (C : Addr) : Prop where
  rd : PySem.W.readsIn K C (.type "type") = true
  ga : PySem.W.specialIn K (.ref C) "__getattribute__" = some (some (.builtin "type.__getattribute__"))
  vV : PySem.W.findCls K (.ref C) (.type "type") "__init__" = some (.val (.builtin "ValueError.__init__"))
def leB (x : Str) (K : PySem.W.Frag) : Bool := PySem.W.readsIn K (He.ga K x) (.type "type") && (decide (PySem.W.specialIn K (.ref (He.ga K x)) "__getattribute__" = some (some (.builtin "type.__getattribute__"))) && (match PySem.W.findCls K (.ref (He.ga K x)) (.type "type") "__init__" with
  | some (.val (.builtin n)) => n == "ValueError.__init__"
  | _ => false))
theorem leB_ok {x : Str} {K : PySem.W.Frag} (h : leB x K = true) : LeC K (He.ga K x) := by
  obtain ⟨h1, h⟩ := Bool.and_eq_true_iff.mp h
  obtain ⟨h2, h3⟩ := Bool.and_eq_true_iff.mp h
  refine ⟨h1, of_decide_eq_true h2, ?_⟩
  split at h3
  · rename_i n e
    rw [e, beq_iff_eq.mp h3]
  · cases h3

/-! ### an exception that is caught and kept as a value behind its suite -/
section
variable {X : Cx} {pins : List (Addr × Obj)} {σ : L2.St} {H : Hp} {s : Shared} {a : Addr}
/-- at a: a kept exception of the class cls, its dict d -/
def kx (a : Addr) (cls : Value) (d : Option Addr) : HO := .ext fun h => ∃ o vs, h.get? a = some o ∧ Zc cls d o ∧ o.data = .fields vs
theorem kx_ok {P : Program} {w : World} {h : Heap} {cls : Value} {d : Option Addr} {o : Obj} {vs : Array Value} (e : h.get? a = some o) (z : Zc cls d o) (q : o.data = .fields vs) : ObjOk P w H h a (kx a cls d) :=
  ⟨⟨o, vs, e, z, q⟩, ⟨o, e⟩, fun _ _ ⟨o, vs, e, z, q⟩ k => ⟨o, vs, k o e, z, q⟩⟩
theorem kx_at {P : Program} {w : World} {h : Heap} {cls : Value} {d : Option Addr} (hok : HOk P w H h) (e : H a = some (kx a cls d)) : ∃ o vs, h.get? a = some o ∧ Zc cls d o ∧ o.data = .fields vs := by
  have x : ObjOk P w H h a (.ext fun h => ∃ o vs, h.get? a = some o ∧ Zc cls d o ∧ o.data = .fields vs) := hok a _ e
  exact x.1
/-- an object of ours that was not tracked is tracked from now on -/
theorem Inv.track {φ : Heap → Prop} {o : Obj} (I : Inv X pins σ H s) (ho : s.heap.get? a = some o) (hc : ∀ v, o.data ≠ .cell v) (na : H a = none) (nL : a ≠ X.env.locals) (n0 : X.s_0.heap.get? a = none) (np : ∀ p ∈ X.pn ++ pins, p.1 ≠ a)
    (new : ObjOk X.prog X.w (upd H a (.ext φ)) s.heap a (.ext φ)) : Inv X pins σ (upd H a (.ext φ)) s where
  ok := I.ok
  os := I.os
  bare := I.bare
  base := {
    keep := I.base.keep
    slot := I.base.slot
    free := fun b u e n hx => by
      rw [upd_ne (fun z => by rw [z, n0] at e; cases e)]
      exact I.base.free b u e n hx
    there := I.base.there
    tups := fun b xs e => by
      have q := I.base.tups b xs e
      rw [upd_ne (ne_of_none q na)]
      exact q
    frzs := fun b u v e => by
      have q := I.base.frzs b u v e
      rw [upd_ne (ne_of_none q na)]
      exact q
    tbls := fun b ps e => by
      obtain ⟨m, q⟩ := I.base.tbls b ps e
      exact ⟨m, by rw [upd_ne (ne_of_none q na)]; exact q⟩ }
  loc := I.loc
  cell := I.cell
  free := by
    rw [upd_ne (Ne.symm nL)]
    exact I.free
  freeC := fun x c e => by
    obtain ⟨v, u, hu, hd⟩ := I.cell x c e
    rw [upd_ne (fun z => by rw [z, ho] at hu; cases hu; exact hc _ hd)]
    exact I.freeC x c e
  pin := fun p hp => by
    obtain ⟨h1, h2, h3⟩ := I.pin p hp
    exact ⟨h1, by rw [upd_ne (np p hp)]; exact h2, h3⟩
  hok := fun b u e => by
    by_cases hb : b = a
    · subst hb
      rw [upd_same] at e
      cases e
      exact new
    · rw [upd_ne hb] at e
      exact (I.hok b u e).stay (fun _ _ _ q => q) (fun c q => by rw [upd_ne (ne_of_none q na)]; exact q) fun c xs q => by rw [upd_ne (ne_of_none q na)]; exact q
  len := I.len
end
/-- what 'except x as n: suite' wishes of an exception of the body, the exception being kept behind the suite -/
def wKeep (K : PySem.W.Frag) (c : Value) (i : Nat) (ts : Addr → Value → Option Addr → TS) (D : Ends) : WX := fun cls d σ H => PySem.W.exmOne K cls c = some true ∧ ∀ a, H a = none →
  ts a cls d { nx := fun σ' H' => D.nx (σ'.set i none) (upd H' a (kx a cls d)), rt := fun _ _ => False, bk := fun _ _ => False, ct := fun _ _ => False } (σ.set i (some (.ref a))) H
section
variable {X : Cx} {x n : Str} {c : Value} {i : Nat} {body suite : List Stmt} {b₀ : Stmt} {np pos pos' : Pos} {tb : WX → TS} {ts : Addr → Value → Option Addr → TS}
theorem ps_try_keep (hs : X.stack = X.env :: X.outer) (hf : X.env.frame = some X.env.locals) (hex : X.ex = []) (hN : X.N.Nodup) (hi : X.N[i]? = some n) (hln : X.env.kindOf n = some .local) (hc : Names X x c)
    (hb : ∀ (W : WX) (pn : List (Addr × Obj)) (xe : Value → Shared → Prop), Takes (X.tr pn xe) W → PassesOwn (model X.prog X.w) X.A X.env xe → PSs (X.tr pn xe) body (tb W))
    (hsu : ∀ (a : Addr) (oe : Obj) (cls : Value) (d : Option Addr) (pn : List (Addr × Obj)), Zc cls d oe → (∃ vs, oe.data = .fields vs) → PSs (X.suite a ((a, oe) :: pn)) (b₀ :: suite) (ts a cls d)) :
    PS X (.Try body [.ExceptHandler (some (.Name x np)) (some n) (b₀ :: suite) pos'] [] [] pos) (fun D σ H => tb (wKeep X.K c i ts D) D σ H) := by
  refine ⟨fun pins s σ H D I h => wpAny_Try_except ?_⟩
  have ok := I.ok
  have hfr : X.A.frames = some (X.env :: X.outer) := by rw [ok.frames, hs]
  have body_ := (hb (wKeep X.K c i ts D) (X.pn ++ pins) (fun e s₁ => wpAny (model X.prog X.w) X.A (noteFrame e X.env) (fun _ s₂ => wpAny (model X.prog X.w) X.A (setFlight e none) (fun _ s₃ =>
    wpAny (model X.prog X.w) X.A (handleBy e X.env [.ExceptHandler (some (.Name x np)) (some n) (b₀ :: suite) pos']) (SP X pins D) X.xe s₃) X.xe s₂) X.xe s₁) (fun u s' air => ?_) PassesOwn.looking).run [] s σ H D (I.toTry _) h
  · refine wpAny_mono body_ (fun f s1 hsp => ?_) fun _ _ z => z
    cases f with
    | next => exact let ⟨σ', H', J, q⟩ := hsp; wpAny_execs_nil ⟨σ', H', J.ofTry ok, q⟩
    | brk => exact let ⟨σ', H', J, q⟩ := hsp; ⟨σ', H', J.ofTry ok, q⟩
    | cont => exact let ⟨σ', H', J, q⟩ := hsp; ⟨σ', H', J.ofTry ok, q⟩
    | ret u => exact let ⟨v, σ', H', J, r, q⟩ := hsp; ⟨v, σ', H', J.ofTry ok, r, q⟩
  · obtain ⟨a, B, sI, pins', σ', H', cls, d, rfl, J', nb, up, sky, na, os, ag, hm, hyes⟩ := air
    have J : Inv X pins σ' H' sI := J'.ofTry ok
    rw [hs] at sky
    refine Sky.land Zc.steady hfr hf sky fun h3 fl3 up3 => ?_
    have J3 : Inv X pins σ' H' { s' with heap := h3 } := J.landed nb fl3.1 (up.trans up3) os ag
    obtain ⟨o3, vs3, he3, hz3, hd3⟩ := fl3.there
    have nfr : a ∉ frs (X.env :: X.outer) := fun hm => by
      obtain ⟨_, o', e', hnf⟩ := fl3.2.2.1.mem hm
      rw [he3] at e'
      cases e'
      exact hnf _ hd3
    have nL : a ≠ X.env.locals := fun z => nfr (List.mem_filterMap.mpr ⟨X.env, List.mem_cons_self, by rw [hf, z]⟩)
    have nF : a ∉ X.fs := fun hm => by
      obtain ⟨e, he, q⟩ := List.mem_filterMap.mp hm
      exact nfr (List.mem_filterMap.mpr ⟨e, List.mem_cons_of_mem _ he, q⟩)
    have nI : sI.heap.get? a = none := by
      cases e : sI.heap.get? a with
      | none => rfl
      | some u =>
        have z := nb a u e (by rw [hs]; exact nfr)
        rw [fl3.2.1] at z
        cases z
    have n0 : X.s_0.heap.get? a = none := by
      cases e : X.s_0.heap.get? a with
      | none => rfl
      | some u =>
        obtain ⟨u', z⟩ := J.base.there a u e (by rw [hex]; exact fun z => nomatch z)
        rw [nI] at z
        cases z
    have npin : ∀ p ∈ X.pn ++ pins, p.1 ≠ a := fun p hp z => by
      have q := (J.pin p hp).1
      rw [z, nI] at q
      cases q
    have S3 := J3.suite he3 hd3 na nL nF
    refine wpAny_handleBy_cons (codeAny_handlers_test ?_) (by intro q; cases q)
    have LT : PySem.W.Looks (model X.prog X.w) h3 (typeOf (.ref a)) cls := fun A Q E s k q => wpAny_typeOf_ref (k _ _ he3) (by rw [hz3.1]; exact q)
    have LM := PySem.W.exm_one (M := model X.prog X.w) (J3.kIn) LT hm
    have test : ∀ {Q : Value → Shared → Prop} {E : Value → Shared → Prop}, Q c { s' with heap := h3 } → wpAny (model X.prog X.w) (X.A.mark (some (.ref a))) (eval (.Name x np) X.env) Q E { s' with heap := h3 } := fun {Q E} q => by
      obtain ⟨hg, hdbg, hm | ⟨hm, hv, hnn⟩⟩ := hc
      · exact ld_glob (X := X.suite a ((a, o3) :: (X.pn ++ pins))) S3 hg hm q hdbg
      · exact ld_blt (X := X.suite a ((a, o3) :: (X.pn ++ pins))) S3 hg hm hv q hnn hdbg
    refine test (LM.here (codeAny_handlers_suite_as (HandSPX.lands_againZ fl3 fun h4 fl4 up4 => ?_)))
    have J4 : Inv X pins σ' H' { s' with heap := h4 } := J.landed nb fl4.1 ((up.trans up3).trans up4) os ag
    obtain ⟨o4, vs4, he4, hz4, hd4⟩ := fl4.there
    refine store_ok (X := X.suite a ((a, o4) :: (X.pn ++ pins))) (v := .ref a) (J4.suite he4 hd4 na nL nF) hN hi (.inl hln) rfl (fun s5 S5 => ?_) (.inr hln)
    refine wpAny_mono ((hsu a o4 cls d (X.pn ++ pins) hz4 ⟨_, hd4⟩).run [] s5 _ H' _ S5 (hyes a na)) (fun f s6 hsp => ?_) (fun _ _ z => False.elim z)
    cases f with
    | next =>
      obtain ⟨σ6, H6, S6, q6⟩ := hsp
      obtain ⟨p1, p2, p3, p4, p5⟩ := S6.pin (a, o4) (List.mem_append_left _ List.mem_cons_self)
      have T6 := Inv.track (φ := fun h => ∃ o vs, h.get? a = some o ∧ Zc cls d o ∧ o.data = .fields vs) (S6.unsuite ok) p1 p5 p2 nL n0 npin (kx_ok p1 hz4 hd4)
      exact gone_ok T6 hN hi hln fun s7 J7 => ⟨_, _, J7, q6⟩
    | brk => exact let ⟨_, _, _, q⟩ := hsp; q.elim
    | cont => exact let ⟨_, _, _, q⟩ := hsp; q.elim
    | ret u => exact let ⟨_, _, _, _, _, q⟩ := hsp; q.elim
end

/-! ### kept exceptions: their fields, isinstance -/
/-- a kept exception with its dict, if it has one -/
def KxAt (H : Hp) (a C : Addr) (d : Option Addr) : Prop := H a = some (kx a (.ref C) d) ∧ (d = none ∨ ∃ dd fs, d = some dd ∧ H dd = some (.xd fs))
section
variable {X : Cx} {pins : List (Addr × Obj)} {σ : L2.St} {H : Hp} {s : Shared} {a C : Addr} {d : Option Addr}
theorem KxAt.inst (I : Inv X pins σ H s) (h : KxAt H a C d) : ∃ o od, PySem.W.InstAt s.heap a o C od := by
  obtain ⟨h1, h2⟩ := h
  obtain ⟨⟨oc, od, dt, sl⟩, vs, ho, ⟨hz1, hz2⟩, hd⟩ := kx_at I.hok h1
  dsimp only at hz1 hz2 hd
  subst hz1 hz2 hd
  rcases h2 with rfl | ⟨dd, fs, rfl, h2⟩
  · exact ⟨_, none, ho, rfl, rfl, trivial⟩
  · have hx : ObjOk X.prog X.w H s.heap dd (.xd fs) := I.hok dd _ h2
    obtain ⟨mA, hns, _⟩ := hx
    obtain ⟨o2, ho2, _⟩ := lookIn_ns hns
    exact ⟨_, some o2, ho, rfl, rfl, ho2⟩
theorem excC_kit {K : PySem.W.Frag} {x : Addr} {ox : Obj} {od : Option Obj} (c : ExcC K C) : PySem.W.KitX K (.ref x) (.ref C) (fun h => PySem.W.InstAt h x ox C od) := by
  obtain ⟨cd, hc, _⟩ := PySem.W.any_some c.hd
  exact PySem.W.kitx_exc (by rw [hc]; rfl) c.hg c.hk c.hs c.ha c.hn c.ht c.hm
/-- isinstance(x, c): a kept exception, or what rIsi knows -/
def rIsX (K : PySem.W.Frag) : List V → Hp → VK → Prop := fun xs H Q => rIsi K xs H Q ∨ ∃ (a C : Addr) (d : Option Addr) (c : V) (u : Value) (b : Bool), xs = [.ref a, c] ∧ KxAt H a C d ∧ ExcC K C ∧ ClsV c u ∧ PySem.W.kitOne K (.ref C) u = some b ∧ Q (.bl b) H
theorem call_isX (K : PySem.W.Frag) (hK : X.K = K := by rfl) : CallR X (.builtin "isinstance") (rIsX K) := by
  subst hK
  intro pins s σ H xs us Q I r h
  rcases h with h | ⟨a, C, d, c, u, b, rfl, ha, ec, k, e, q⟩
  · exact call_isi pins s σ H xs us Q I r h
  obtain ⟨u1, u2, rfl, r1, r2⟩ := vals2 r
  have e2 := k.eq r2
  subst e2
  cases (show u1 = Value.ref a from r1)
  obtain ⟨o, od, J⟩ := ha.inst I
  exact PySem.W.kia_one (excC_kit ec) I.kIn J e (fun z => nomatch z) fun tk => ⟨.bl b, H, I.tok tk, rfl, q⟩
/-- isinstance(x, (c1, ..)) -/
def rIsXT (K : PySem.W.Frag) : List V → Hp → VK → Prop := fun xs H Q => rIsiT K xs H Q ∨ ∃ (a C tp : Addr) (d : Option Addr) (cs : List V) (ws : List Value) (b : Bool), xs = [.ref a, .ref tp] ∧ H tp = some (.tup cs) ∧ KxAt H a C d ∧ ExcC K C ∧ Paired ClsV cs ws ∧ PySem.W.kitAny K (.ref C) ws = some b ∧ Q (.bl b) H
theorem call_isXT (K : PySem.W.Frag) (hK : X.K = K := by rfl) : CallR X (.builtin "isinstance") (rIsXT K) := by
  subst hK
  intro pins s σ H xs us Q I r h
  rcases h with h | ⟨a, C, tp, d, cs, ws, b, rfl, hT, ha, ec, k, e, q⟩
  · exact call_isiT pins s σ H xs us Q I r h
  obtain ⟨u1, u2, rfl, r1, r2⟩ := vals2 r
  cases (show u1 = Value.ref a from r1)
  cases (show u2 = Value.ref tp from r2)
  obtain ⟨o, od, J⟩ := ha.inst I
  obtain ⟨_, its, rv, ⟨oc, od2, dt, sl⟩, h1, h2, n, h3⟩ := (show ObjOk X.prog X.w H s.heap tp (.tup cs) from I.hok tp _ hT)
  have e3 := ClsV.all k rv
  subst e3
  dsimp only at h2 h3
  subst h2 h3
  exact PySem.W.kia_tup (excC_kit ec) I.kIn J h1 e (fun z => nomatch z) fun tk => ⟨.bl b, H, I.tok tk, rfl, q⟩
/-- e.f of a kept exception -/
def tKxf (K : PySem.W.Frag) (f : Str) (te : TE) : TE := fun σ H Q => te σ H fun x H1 => ∃ (a C dd : Addr) (fs : List (Str × V)) (v : V), x = .ref a ∧ H1 a = some (kx a (.ref C) (some dd)) ∧ XfC K C ∧ PySem.W.findIn K (.ref C) f = some none ∧ H1 dd = some (.xd fs) ∧ fs.lookup f = some v ∧ Q v H1
theorem pe_kxf {K : PySem.W.Frag} {e : Expr} {te : TE} {pos : Pos} {f : Str} (he : PE X e te) (hK : X.K = K := by rfl) (hb : attributeBase e f X.env (eval e X.env) = eval e X.env := by rfl) : PE X (.Attribute e f pos) (tKxf K f te) := by
  subst hK
  refine ⟨fun pins s σ H Q I h => attr_of hb (thn (he.run pins s σ H _ I h) fun u s1 hh => ?_)⟩
  obtain ⟨x, H1, I1, rx, a, C, dd, fs, v, ex, ea, T, hno, ed, l, q⟩ := hh
  subst ex
  obtain rfl : u = Value.ref a := rx
  obtain ⟨o, vs, ho, hz, hd⟩ := kx_at I1.hok ea
  have hx : ObjOk X.prog X.w H1 s1.heap dd (.xd fs) := I1.hok dd _ ed
  obtain ⟨mA, hns, hr⟩ := hx
  obtain ⟨od, h2, hl⟩ := lookIn_ns hns
  obtain ⟨u, hu, ru⟩ := RelO.some_of (v := v) (o := mA f) (by rw [← l]; exact hr f)
  have J : PySem.W.InstAt s1.heap a o C (some od) := ⟨ho, hz.1, by unfold PySem.W.notCls; rw [hd], by rw [hz.2]; exact h2⟩
  exact HandSPX.exc_get I1.kIn J T.ga T.gg T.exC (PySem.W.findObj_own T.hdC hno rfl (by rw [hl, hu])) (handed_of ru) ⟨v, H1, I1.tok _, ru, q⟩
end

theorem take_snoc {α : Type} (l : List α) {i : Nat} {x : α} (h : l[i]? = some x) : l.take (i + 1) = l.take i ++ [x] := by
  rw [List.take_add_one, h]
  rfl
/-! ### words: is_whole, is_from, is_word, is_signs, is_key of any data -/
theorem cr_allK {X : Cx} (K : PySem.W.Frag) (hc : X.calm = true) (hK : X.K = K := by rfl) : CallR X (.builtin "all") (rAll K) := hK ▸ cr_all hc
theorem cr_sumK {X : Cx} (K : PySem.W.Frag) (hc : X.calm = true) (hK : X.K = K := by rfl) : CallR X (.builtin "sum") (rSum K) := hK ▸ cr_sum hc
def tyN : PyData → String
  | .none => "NoneType"
  | .bool _ => "bool"
  | .int _ => "int"
  | .str _ => "str"
  | .list _ => "list"
  | .tuple _ => "tuple"
  | .dict _ => "dict"
theorem dp_ty {K : PySem.W.Frag} {H : Hp} {v : V} {d : PyData} (h : Dp K H v d) : TyX K H v (.type (tyN d)) := by
  cases h with
  | non => exact .base .non
  | bl b => exact .base (.bl b)
  | int i => exact .base (.int i)
  | str x => exact .base (.str x)
  | lst h _ =>
    rcases h with (h | ⟨u, h⟩) | ⟨o, its, n, h1, h2, _⟩
    · exact .base (.lst h)
    · exact .base (.frz h)
    · exact .kList h1 h2
  | tup h _ =>
    rcases h with (h | ⟨u, h⟩) | ⟨o, its, n, h1, h2, _⟩
    · exact .base (.tup h)
    · exact .fTuple h
    · exact .kTuple h1 h2
/-- isinstance(x, T), T a built-in class -/
def isK (d : PyData) (T : String) : Bool := match d, T with
  | .int _, "int" => true
  | .bool _, "int" => true
  | .bool _, "bool" => true
  | .str _, "str" => true
  | .tuple _, "tuple" => true
  | _, _ => false
theorem isK_int (K : PySem.W.Frag) (d : PyData) : PySem.W.kitOne K (.type (tyN d)) (.type "int") = some (isK d "int") := by
  cases d with
  | none => exact kit_ty (a := "NoneType") (b := "int") (r := false) (by decide +kernel)
  | bool _ => exact kit_ty (a := "bool") (b := "int") (r := true) (by decide +kernel)
  | int _ => exact kit_ty (a := "int") (b := "int") (r := true) (by decide +kernel)
  | str _ => exact kit_ty (a := "str") (b := "int") (r := false) (by decide +kernel)
  | list _ => exact kit_ty (a := "list") (b := "int") (r := false) (by decide +kernel)
  | tuple _ => exact kit_ty (a := "tuple") (b := "int") (r := false) (by decide +kernel)
  | dict _ => exact kit_ty (a := "dict") (b := "int") (r := false) (by decide +kernel)
theorem isK_bool (K : PySem.W.Frag) (d : PyData) : PySem.W.kitOne K (.type (tyN d)) (.type "bool") = some (isK d "bool") := by
  cases d with
  | none => exact kit_ty (a := "NoneType") (b := "bool") (r := false) (by decide +kernel)
  | bool _ => exact kit_ty (a := "bool") (b := "bool") (r := true) (by decide +kernel)
  | int _ => exact kit_ty (a := "int") (b := "bool") (r := false) (by decide +kernel)
  | str _ => exact kit_ty (a := "str") (b := "bool") (r := false) (by decide +kernel)
  | list _ => exact kit_ty (a := "list") (b := "bool") (r := false) (by decide +kernel)
  | tuple _ => exact kit_ty (a := "tuple") (b := "bool") (r := false) (by decide +kernel)
  | dict _ => exact kit_ty (a := "dict") (b := "bool") (r := false) (by decide +kernel)
theorem isK_str (K : PySem.W.Frag) (d : PyData) : PySem.W.kitOne K (.type (tyN d)) (.type "str") = some (isK d "str") := by
  cases d with
  | none => exact kit_ty (a := "NoneType") (b := "str") (r := false) (by decide +kernel)
  | bool _ => exact kit_ty (a := "bool") (b := "str") (r := false) (by decide +kernel)
  | int _ => exact kit_ty (a := "int") (b := "str") (r := false) (by decide +kernel)
  | str _ => exact kit_ty (a := "str") (b := "str") (r := true) (by decide +kernel)
  | list _ => exact kit_ty (a := "list") (b := "str") (r := false) (by decide +kernel)
  | tuple _ => exact kit_ty (a := "tuple") (b := "str") (r := false) (by decide +kernel)
  | dict _ => exact kit_ty (a := "dict") (b := "str") (r := false) (by decide +kernel)
theorem isK_tup (K : PySem.W.Frag) (d : PyData) : PySem.W.kitOne K (.type (tyN d)) (.type "tuple") = some (isK d "tuple") := by
  cases d with
  | none => exact kit_ty (a := "NoneType") (b := "tuple") (r := false) (by decide +kernel)
  | bool _ => exact kit_ty (a := "bool") (b := "tuple") (r := false) (by decide +kernel)
  | int _ => exact kit_ty (a := "int") (b := "tuple") (r := false) (by decide +kernel)
  | str _ => exact kit_ty (a := "str") (b := "tuple") (r := false) (by decide +kernel)
  | list _ => exact kit_ty (a := "list") (b := "tuple") (r := false) (by decide +kernel)
  | tuple _ => exact kit_ty (a := "tuple") (b := "tuple") (r := true) (by decide +kernel)
  | dict _ => exact kit_ty (a := "dict") (b := "tuple") (r := false) (by decide +kernel)
def dWhole : PyData → Bool
  | .int _ => true
  | _ => false
def dFrom (l : Int) : PyData → Bool
  | .int i => decide (l ≤ i)
  | _ => false
def lettersL : List Nat := ("abcdefghijklmnopqrstuvwxyz" : Str).cps.toList
def zWord (z : Str) : Bool := decide (1 ≤ (z.length : Int)) && (decide ((z.length : Int) ≤ 8) && z.cps.toList.all fun c => decide (c ∈ lettersL))
def dWord : PyData → Bool
  | .str z => zWord z
  | _ => false
def sgOk (c : Nat) : Bool := !decide ([c] < ((" " : Str).cps.toList)) && !decide ((("}" : Str).cps.toList) < [c])
def zSigns (z : Str) : Bool := z.cps.toList.all sgOk
def dSigns : PyData → Bool
  | .str z => zSigns z
  | _ => false
def dKey : PyData → Bool
  | .tuple [a, b] => dWord a && dFrom 1 b
  | _ => false
theorem dp_tup {K : PySem.W.Frag} {H : Hp} {v : V} {d : PyData} (h : Dp K H v d) (e : isK d "tuple" = true) : ∃ a xs ds, v = .ref a ∧ d = .tuple ds ∧ SqT K H a xs ∧ DpAll K H xs ds := by
  cases h with
  | tup h1 h2 => exact ⟨_, _, _, rfl, rfl, h1, h2⟩
  | _ => cases e
theorem dpall_len {K : PySem.W.Frag} {H : Hp} : ∀ {xs : List V} {ds : List PyData}, DpAll K H xs ds → xs.length = ds.length
  | [], _, h => by cases h; rfl
  | _ :: _, _, h => by
    cases h with
    | cons _ h => rw [List.length_cons, List.length_cons, dpall_len h]
theorem dpall2 {K : PySem.W.Frag} {H : Hp} {xs : List V} {ds : List PyData} (h : DpAll K H xs ds) (h2 : xs.length = 2) : ∃ x y dx dy, xs = [x, y] ∧ ds = [dx, dy] ∧ Dp K H x dx ∧ Dp K H y dy := by
  match xs, h2 with
  | [x, y], _ =>
    cases h with
    | cons h1 h =>
      cases h with
      | cons h2 h =>
        cases h
        exact ⟨_, _, _, _, rfl, rfl, h1, h2⟩
theorem dKey_ne {ds : List PyData} (h : ds.length ≠ 2) : dKey (.tuple ds) = false := by
  match ds, h with
  | [], _ => rfl
  | [_], _ => rfl
  | [_, _], z => exact absurd rfl z
  | _ :: _ :: _ :: _, _ => rfl
theorem Same.seqT {K : PySem.W.Frag} {H H' : Hp} {a : Addr} {xs : List V} (e : Same H H') (h : SqT K H a xs) : SqT K H' a xs := by
  rcases h with (h | ⟨u, h⟩) | h
  · exact .inl (.inl (e _ _ h))
  · exact .inl (.inr ⟨u, e _ _ h⟩)
  · exact .inr h
mutual
theorem Dp.same {K : PySem.W.Frag} {H H' : Hp} {v : V} {d : PyData} (h : Dp K H v d) (e : Same H H') : Dp K H' v d := by
  cases h with
  | non => exact .non
  | bl b => exact .bl b
  | int i => exact .int i
  | str z => exact .str z
  | lst h1 h2 => exact .lst (e.seq h1) (DpAll.same h2 e)
  | tup h1 h2 => exact .tup (Same.seqT e h1) (DpAll.same h2 e)
theorem DpAll.same {K : PySem.W.Frag} {H H' : Hp} {v : List V} {d : List PyData} (h : DpAll K H v d) (e : Same H H') : DpAll K H' v d := by
  cases h with
  | nil => exact .nil
  | cons h1 h2 => exact .cons (Dp.same h1 e) (DpAll.same h2 e)
end
/-- texts within are not too long -/
def shortD : PyData → Bool
  | .str z => decide (z.length ≤ 100000)
  | _ => true
def shortK : PyData → Bool
  | .tuple (d :: _) => shortD d
  | _ => true
/-- [e for c in text] -/
theorem line200 {n : Nat} (h : n ≤ 100000) : n ≤ sizeLine := Nat.le_trans h (by decide)
theorem lc_str {z : Str} {i : Nat} {te : TE} {vs : List Nat} {σ : L2.St} {H1 : Hp} {D : Addr} {Qd : Hp → Prop} (g : Nat → V) (hD : H1 D = none) (hz : z.cps.size ≤ 100000)
    (hw : ∀ x, wipe ((wipe σ vs).set i (some x)) vs = wipe σ vs)
    (he : ∀ (c : Nat) H', c ∈ z.cps.toList → Same H1 H' → ∀ Q : VK, (∀ H'', Same H' H'' → Q (g c) H'') → te ((wipe σ vs).set i (some (.str ⟨#[c]⟩))) H' Q)
    (hd : ∀ H', Same H1 H' → H' D = some (.lst (z.cps.toList.map g)) → Qd H') :
    ∃ W : Nat → Nat → Hp → Prop, (∃ m, W 0 m (upd H1 D (.lst []))) ∧ ∀ t m H, W t m H →
      ((Its z).stop t H ∧ Qd H) ∨ ((Its z).go t H ∧ ∃ Nx : Hp → Prop, (∀ H', Nx H' → ∃ m', m' < m ∧ W (t + 1) m' H') ∧ ∀ x H', (Its z).yld t H x H' → gName i x (wipe σ vs) H' fun σ2 H2 => wipe σ2 vs = wipe σ vs ∧ tYes σ2 H2 fun b H3 =>
        if b = true then te σ2 H3 fun y H4 => ∃ acc, H4 D = some (.lst acc) ∧ acc.length < sizeLine ∧ Nx (upd H4 D (.lst (acc ++ [y]))) else Nx H3) := by
  refine lc_it walk_str (fun t H' => Same H1 H' ∧ H' D = some (.lst ((z.cps.toList.take t).map g))) ⟨Same.new hD, upd_same⟩ (fun _ _ _ _ => trivial) (fun t x H' H'' ht p y => ?_) (fun H' p => ?_)
  · obtain ⟨p1, p2⟩ := p
    obtain ⟨rfl, c, hc, rfl⟩ := y
    have hc' : z.cps.toList[t]? = some c := by rw [Array.getElem?_toList]; exact hc
    refine ⟨hw _, ?_⟩
    refine he c H'' (List.mem_of_getElem? hc') p1 _ fun H2 s2 => ⟨_, s2 _ _ p2, ?_, Same.mut (p1.trans s2) hD, ?_⟩
    · rw [List.length_map, List.length_take]
      exact Nat.lt_of_le_of_lt (show _ ≤ 100000 by omega) (by decide)
    · rw [upd_same, take_snoc z.cps.toList hc', List.map_append]
      rfl
  · obtain ⟨p1, p2⟩ := p
    refine hd H' p1 ?_
    rw [p2, List.take_of_length_le (by simp)]
def spWhole (K : PySem.W.Frag) : Sp := fun vs H Q _ => ∃ (v : V) (d : PyData), vs = [v] ∧ Dp K H v d ∧ Q (.bl (dWhole d)) H
def spFromN (K : PySem.W.Frag) : Sp := fun vs H Q _ => ∃ (v : V) (d : PyData) (l : Int), vs = [v, .int l, .non] ∧ Dp K H v d ∧ Q (.bl (dFrom l d)) H
def spWord (K : PySem.W.Frag) : Sp := fun vs H Q _ => ∃ (v : V) (d : PyData), vs = [v] ∧ Dp K H v d ∧ shortD d = true ∧ ∀ H', Same H H' → Q (.bl (dWord d)) H'
def spSignsD (K : PySem.W.Frag) : Sp := fun vs H Q _ => ∃ (v : V) (d : PyData), vs = [v] ∧ Dp K H v d ∧ shortD d = true ∧ ∀ H', Same H H' → Q (.bl (dSigns d)) H'
def spKey (K : PySem.W.Frag) : Sp := fun vs H Q _ => ∃ (v : V) (d : PyData), vs = [v] ∧ Dp K H v d ∧ shortK d = true ∧ ∀ H', Same H H' → Q (.bl (dKey d)) H'
/-- a def of the module, defaults filling up -/
def Dfd (P : Program) (w : World) (K : PySem.W.Frag) (mg : Str → Option Value) (base : Heap) (CX : CXT) (k : Nat) (x : Str) (ps : List Str) (dvs : List V) (sp : Sp) : Prop := ∃ (f : Addr) (fd : FuncData) (ds : List Value), mg x = some (.ref f) ∧ PySem.W.keepIn K (.ref f) = true ∧ Vals dvs ds ∧ Binds K fd ps ds ∧ FnOk P w K mg base CX k f fd ps sp
section
variable {P : Program} {w : World} {K : PySem.W.Frag} {mg : Str → Option Value} {base : Heap}
theorem scis_whole : FnScope nis_whole pis_whole (defScope sis_whole) := ⟨rfl, rfl, rfl, by decide +kernel, rfl, by decide +kernel, by decide +kernel⟩
theorem ok_wholeD (m_isinstance : mg "isinstance" = none) (m_int : mg "int" = none) (m_bool : mg "bool" = none) {f : Addr} {fd : FuncData} (F : FunD K "is_whole" "is_whole" (defArgs sis_whole) (defBody sis_whole) (defScope sis_whole) [] [] f fd) : FnOk P w K mg base CX0 1 f fd pis_whole (spWhole K) := by
  refine F.ok scis_whole (fun vs H Q E h => ?_) (fun cdv A outer s H vs Q E hr h => ?_)
  · obtain ⟨v, d, rfl, _⟩ := h
    rfl
  · obtain ⟨v, d, rfl, hd, k⟩ := h
    refine ⟨_, PSs.nox (pss_one (ps_ret (pe_and (pe_callB (call_isiK' K) (by rfl) m_isinstance (by decide +kernel) (pa_cons (pv 0) (pa_cons (pe_bltn (v := .ty "int") (u := .type "int") (by rfl) m_int (by decide +kernel) rfl) pa_nil))) (pe_one (pe_not (pe_callB (call_isiK' K) (by rfl) m_isinstance (by decide +kernel) (pa_cons (pv 0) (pa_cons (pe_bltn (v := .ty "bool") (u := .type "bool") (by rfl) m_bool (by decide +kernel) rfl) pa_nil)))))))), ?_⟩
    refine ⟨_, rfl, _, _, _, _, isK d "int", rfl, .ty _, dp_ty hd, isK_int K d, _, rfl, ?_⟩
    cases h1 : isK d "int" with
    | false =>
      refine iteF ?_
      have e : dWhole d = false := by cases d <;> first | rfl | cases h1
      rw [e] at k
      exact k
    | true =>
      refine iteT ⟨_, rfl, _, _, _, _, isK d "bool", rfl, .ty _, dp_ty hd, isK_bool K d, _, rfl, ?_⟩
      have e : dWhole d = !isK d "bool" := by cases d <;> first | rfl | cases h1
      rw [e] at k
      exact k
theorem scis_from : FnScope nis_from pis_from (defScope sis_from) := ⟨rfl, rfl, rfl, by decide +kernel, rfl, by decide +kernel, by decide +kernel⟩
theorem ok_fromN (D_is_whole : Df P w K mg base 1 "is_whole" pis_whole (spWhole K)) {f : Addr} {fd : FuncData} (F : FunD K "is_from" "is_from" (defArgs sis_from) (defBody sis_from) (defScope sis_from) [.non] [] f fd) : FnOk P w K mg base CX0 2 f fd pis_from (spFromN K) := by
  obtain ⟨f_is_whole, fd_is_whole, m_is_whole, k_is_whole, b_is_whole, G_is_whole⟩ := D_is_whole
  refine F.ok scis_from (fun vs H Q E h => ?_) (fun cdv A outer s H vs Q E hr h => ?_)
  · obtain ⟨v, d, l, rfl, _⟩ := h
    rfl
  · obtain ⟨v, d, l, rfl, hd, k⟩ := h
    refine ⟨_, PSs.nox (pss_one (ps_ret (pe_and (pe_call G_is_whole (by exact hr.mono (by decide)) rfl m_is_whole k_is_whole b_is_whole .nil pass0 (pa_cons (pv 0) pa_nil)) (pe_and (pe_cmpR op_ge (pv 0) (pv 1) (nomark _)) (pe_one (pe_or (pe_cmpR op_isN (pv 2) pe_non (nomark _)) (pe_one (pe_cmpR op_le (pv 0) (pv 2) (nomark _))))))))), ?_⟩
    refine ⟨_, rfl, v, d, rfl, hd, _, rfl, ?_⟩
    cases h1 : dWhole d with
    | false =>
      refine iteF ?_
      have e : dFrom l d = false := by cases d <;> first | rfl | cases h1
      rw [e] at k
      exact k
    | true =>
      cases hd with
      | int i =>
        refine iteT ⟨_, rfl, _, rfl, _, _, rfl, rfl, _, rfl, ?_⟩
        by_cases h2 : l ≤ i
        · have e : dFrom l (.int i) = true := decide_eq_true h2
          rw [e] at k
          rw [decide_eq_true h2]
          exact iteT ⟨_, rfl, rfl, true, rfl, iteT k⟩
        · have e : dFrom l (.int i) = false := decide_eq_false h2
          rw [e] at k
          rw [decide_eq_false h2]
          exact iteF k
      | _ => cases h1
theorem scis_word : FnScope nis_word pis_word (defScope sis_word) := ⟨rfl, rfl, rfl, by decide +kernel, rfl, by decide +kernel, by decide +kernel⟩
theorem sub_all {α : Type} (l : List α) (f : α → Bool) : (l.map f).all id = l.all f := by
  induction l with
  | nil => rfl
  | cons a l ih => rw [List.map_cons, List.all_cons, List.all_cons, ih]; rfl
theorem ok_word (m_isinstance : mg "isinstance" = none) (m_str : mg "str" = none) (m_len : mg "len" = none) (m_all : mg "all" = none) (i_LONGEST : ∃ t, mg "LONGEST" = some (.int 8 t)) (i_LETTERS : ∃ t, mg "LETTERS" = some (.str "abcdefghijklmnopqrstuvwxyz" t)) {f : Addr} {fd : FuncData} (F : FunD K "is_word" "is_word" (defArgs sis_word) (defBody sis_word) (defScope sis_word) [] [] f fd) : FnOk P w K mg base CX0 1 f fd pis_word (spWord K) := by
  obtain ⟨t1, m_LONGEST⟩ := i_LONGEST
  obtain ⟨t2, m_LETTERS⟩ := i_LETTERS
  refine F.ok scis_word (fun vs H Q E h => ?_) (fun cdv A outer s H vs Q E hr h => ?_)
  · obtain ⟨v, d, rfl, _⟩ := h
    rfl
  · obtain ⟨v, d, rfl, hd, hz, k⟩ := h
    refine ⟨_, PSs.nox (pss_cons (ps_if (PW.pt (pw_or (pt_not (pt_val (pe_callB (call_isiK' K) (by rfl) m_isinstance (by decide +kernel) (pa_cons (pv 0) (pa_cons (pe_bltn (v := .ty "str") (u := .type "str") (by rfl) m_str (by decide +kernel) rfl) pa_nil))))) (pw_or1 (pt_not (pt_chain op_le op_le pe_int (pe_callB call_len_str (by rfl) m_len PySem.boot_len (pa_cons (pv 0) pa_nil)) (pe_glob (v := (.int 8)) rfl m_LONGEST ⟨_, rfl⟩)))))) (pss_one (ps_ret pe_bl)) pss_nil) (pss_one (ps_ret (pe_callB (cr_allK K rfl) (by rfl) m_all (by decide +kernel) (pa_cons (pe_lc (own := [("sign", 1)]) (g := gName 1) (by rfl) scis_word.nd (pi_str (pv 0)) (blkOk_by (own := [("sign", 1)]) (N := nis_word) (sc := (defScope sis_word)) (by decide +kernel)) (fun _ _ _ _ _ => (pg_name (i := 1) scis_word.nd rfl (Or.inl rfl))) (fun _ _ _ _ _ => by exact pts_nil) (fun _ _ _ _ _ => by exact (pe_cmpR op_in_sign (pv 1) (pe_glob (v := (.str "abcdefghijklmnopqrstuvwxyz")) rfl m_LETTERS ⟨_, rfl⟩) rfl))) pa_nil))))), ?_⟩
    refine ⟨_, rfl, _, _, _, _, isK d "str", rfl, .ty _, dp_ty hd, isK_str K d, _, rfl, ?_⟩
    cases h1 : isK d "str" with
    | false =>
      have e : dWord d = false := by cases d <;> first | rfl | cases h1
      rw [e] at k
      exact iteT (k H (Same.refl H))
    | true =>
      cases hd with
      | str z =>
        have hz' : z.length ≤ 100000 := of_decide_eq_true hz
        refine iteF ⟨_, rfl, z, rfl, line200 hz', _, _, rfl, rfl, _, rfl, ?_⟩
        by_cases g1 : 1 ≤ (z.length : Int)
        · rw [decide_eq_true g1]
          by_cases g2 : (z.length : Int) ≤ 8
          · have e : dWord (.str z) = z.cps.toList.all fun c => decide (c ∈ lettersL) := by
              show (decide _ && (decide _ && _)) = _
              rw [decide_eq_true g1, decide_eq_true g2]
              rfl
            rw [e] at k
            refine iteT ⟨_, _, rfl, rfl, true, congrArg V.bl (decide_eq_true g2), iteF ?_⟩
            refine ⟨_, rfl, z, rfl, fun D nD => lc_str (fun c => .bl (decide (c ∈ lettersL))) nD hz' (fun _ => rfl) (fun c H' _ _ Q q => ⟨_, rfl, c, _, rfl, rfl, q H' (Same.refl _)⟩) fun H' s' hD' => ?_⟩
            refine ⟨D, z.cps.toList.map fun c => decide (c ∈ lettersL), rfl, SqL.of ?_, ?_⟩
            · rw [hD', List.map_map]
              rfl
            · rw [sub_all]
              exact k H' s'
          · have e : dWord (.str z) = false := by
              show (decide _ && (decide _ && _)) = _
              rw [decide_eq_false g2, Bool.false_and, Bool.and_false]
            rw [e] at k
            exact iteT ⟨_, _, rfl, rfl, false, congrArg V.bl (decide_eq_false g2), iteT (k H (Same.refl H))⟩
        · have e : dWord (.str z) = false := by
            show (decide _ && (decide _ && _)) = _
            rw [decide_eq_false g1, Bool.false_and]
          rw [e] at k
          rw [decide_eq_false g1]
          exact iteF ⟨false, rfl, iteT (k H (Same.refl H))⟩
      | _ => cases h1
theorem scis_signs : FnScope nis_signs pis_signs (defScope sis_signs) := ⟨rfl, rfl, rfl, by decide +kernel, rfl, by decide +kernel, by decide +kernel⟩
theorem ok_signsD (m_isinstance : mg "isinstance" = none) (m_str : mg "str" = none) (m_all : mg "all" = none) {f : Addr} {fd : FuncData} (F : FunD K "is_signs" "is_signs" (defArgs sis_signs) (defBody sis_signs) (defScope sis_signs) [] [] f fd) : FnOk P w K mg base CX0 1 f fd pis_signs (spSignsD K) := by
  refine F.ok scis_signs (fun vs H Q E h => ?_) (fun cdv A outer s H vs Q E hr h => ?_)
  · obtain ⟨v, d, rfl, _⟩ := h
    rfl
  · obtain ⟨v, d, rfl, hd, hz, k⟩ := h
    refine ⟨_, PSs.nox (pss_one (ps_ret (pe_and (pe_callB (call_isiK' K) (by rfl) m_isinstance (by decide +kernel) (pa_cons (pv 0) (pa_cons (pe_bltn (v := .ty "str") (u := .type "str") (by rfl) m_str (by decide +kernel) rfl) pa_nil))) (pe_one (pe_callB (cr_allK K rfl) (by rfl) m_all (by decide +kernel) (pa_cons (pe_lc (own := [("sign", 1)]) (g := gName 1) (by rfl) scis_signs.nd (pi_str (pv 0)) (blkOk_by (own := [("sign", 1)]) (N := nis_signs) (sc := (defScope sis_signs)) (by decide +kernel)) (fun _ _ _ _ _ => (pg_name (i := 1) scis_signs.nd rfl (Or.inl rfl))) (fun _ _ _ _ _ => by exact pts_nil) (fun _ _ _ _ _ => by exact (pe_chain op_le_str op_le_str pe_str (pv 1) pe_str))) pa_nil)))))), ?_⟩
    refine ⟨_, rfl, _, _, _, _, isK d "str", rfl, .ty _, dp_ty hd, isK_str K d, _, rfl, ?_⟩
    cases h1 : isK d "str" with
    | false =>
      have e : dSigns d = false := by cases d <;> first | rfl | cases h1
      rw [e] at k
      exact iteF (k H (Same.refl H))
    | true =>
      cases hd with
      | str z =>
        have hz' : z.length ≤ 100000 := of_decide_eq_true hz
        refine iteT ⟨_, rfl, z, rfl, fun D nD => lc_str (fun c => .bl (sgOk c)) nD hz' (fun _ => rfl) (fun c H' _ _ Q q => ?_) fun H' s' hD' => ?_⟩
        · refine ⟨_, rfl, _, _, rfl, rfl, _, rfl, ?_⟩
          cases h2 : (!decide ([c] < (" " : Str).cps.toList)) with
          | false =>
            have e : sgOk c = false := by unfold sgOk; rw [h2]; rfl
            rw [e] at q
            exact iteF (q H' (Same.refl _))
          | true =>
            refine iteT ⟨_, _, rfl, rfl, ?_⟩
            have e : sgOk c = !decide ((("}" : Str).cps.toList) < [c]) := by unfold sgOk; rw [h2]; rfl
            rw [e] at q
            exact q H' (Same.refl _)
        · refine ⟨D, z.cps.toList.map sgOk, rfl, SqL.of ?_, ?_⟩
          · rw [hD', List.map_map]
            rfl
          · rw [sub_all]
            exact k H' s'
      | _ => cases h1
theorem scis_key : FnScope nis_key pis_key (defScope sis_key) := ⟨rfl, rfl, rfl, by decide +kernel, rfl, by decide +kernel, by decide +kernel⟩
theorem ok_key (m_isinstance : mg "isinstance" = none) (m_tuple : mg "tuple" = none) (m_len : mg "len" = none) (D_is_word : Df P w K mg base 1 "is_word" pis_word (spWord K)) (D_from : Dfd P w K mg base CX0 2 "is_from" pis_from [.non] (spFromN K)) {f : Addr} {fd : FuncData} (F : FunD K "is_key" "is_key" (defArgs sis_key) (defBody sis_key) (defScope sis_key) [] [] f fd) : FnOk P w K mg base CX0 3 f fd pis_key (spKey K) := by
  obtain ⟨f_is_word, fd_is_word, m_is_word, k_is_word, b_is_word, G_is_word⟩ := D_is_word
  obtain ⟨f_is_from2, fd_is_from2, ds_is_from2, m_is_from2, k_is_from2, v_is_from2, b_is_from2, G_is_from2⟩ := D_from
  refine F.ok scis_key (fun vs H Q E h => ?_) (fun cdv A outer s H vs Q E hr h => ?_)
  · obtain ⟨v, d, rfl, _⟩ := h
    rfl
  · obtain ⟨v, d, rfl, hd, hz, k⟩ := h
    refine ⟨_, PSs.nox (pss_one (ps_ret (pe_and (pe_callB (call_isiK' K) (by rfl) m_isinstance (by decide +kernel) (pa_cons (pv 0) (pa_cons (pe_bltn (v := .ty "tuple") (u := .type "tuple") (by rfl) m_tuple (by decide +kernel) rfl) pa_nil))) (pe_and (pe_cmpR op_eq (pe_callB (call_lenK K) (by rfl) m_len PySem.boot_len (pa_cons (pv 0) pa_nil)) pe_int (nomark _)) (pe_and (pe_call G_is_word (by exact hr.mono (by decide)) rfl m_is_word k_is_word b_is_word .nil pass0 (pa_cons (pe_ix (ix_tupK K) (pv 0) pe_int (fun _ _ => rfl)) pa_nil)) (pe_one (pe_call G_is_from2 (by exact hr.mono (by decide)) rfl m_is_from2 k_is_from2 b_is_from2 v_is_from2 pass0 (pa_cons (pe_ix (ix_tupK K) (pv 0) pe_int (fun _ _ => rfl)) (pa_cons pe_int pa_nil))))))))), ?_⟩
    refine ⟨_, rfl, _, _, _, _, isK d "tuple", rfl, .ty _, dp_ty hd, isK_tup K d, _, rfl, ?_⟩
    cases h1 : isK d "tuple" with
    | false =>
      have e : dKey d = false := by cases d <;> first | rfl | cases h1
      rw [e] at k
      exact iteF (k H (Same.refl H))
    | true =>
      obtain ⟨a, xs, ds, rfl, rfl, hx, hds⟩ := dp_tup hd h1
      have hl : xs.length = ds.length := dpall_len hds
      by_cases h2 : xs.length = 2
      · obtain ⟨x, y, dx, dy, rfl, rfl, hx1, hy1⟩ := dpall2 hds h2
        have hzx : shortD dx = true := hz
        refine iteT ⟨_, rfl, a, [x, y], rfl, .inr hx, rfl, true, rfl, iteT ?_⟩
        refine ⟨_, rfl, a, _, _, x, rfl, rfl, hx, rfl, x, dx, rfl, hx1, hzx, fun H' s' => ⟨_, rfl, ?_⟩⟩
        cases h3 : dWord dx with
        | false =>
          have e : dKey (.tuple [dx, dy]) = false := by
            show (dWord dx && _) = false
            rw [h3]
            rfl
          rw [e] at k
          exact iteF (k H' s')
        | true =>
          have e : dKey (.tuple [dx, dy]) = dFrom 1 dy := by
            show (dWord dx && _) = _
            rw [h3]
            rfl
          rw [e] at k
          exact iteT ⟨_, rfl, a, _, _, y, rfl, rfl, Same.seqT s' hx, rfl, y, dy, 1, rfl, Dp.same hy1 s', k H' s'⟩
      · have e2 : decide (V.int (xs.length : Int) = V.int 2) = false := decide_eq_false fun z => h2 (by injection z with z; omega)
        have e : dKey (.tuple ds) = false := dKey_ne (by omega)
        rw [e] at k
        exact iteT ⟨_, rfl, a, xs, rfl, .inr hx, rfl, false, congrArg V.bl e2, iteF (k H (Same.refl H))⟩
end

/-! ### records: is_text, sum_of, record -/
def zText (z : Str) : Bool := zSigns z && (decide ((z.length : Int) ≤ 60) && (!decide (60 ∈ z.cps.toList) && !decide (62 ∈ z.cps.toList)))
def dText : PyData → Bool
  | .str z => zText z
  | _ => false
/-- the weighted sum of the signs, the first counted i + 1 times -/
def wsum (i : Nat) : List Nat → Int
  | [] => 0
  | c :: l => (c : Int) * (i + 1) + wsum (i + 1) l
def zSum (z : Str) : Int := (wsum 0 z.cps.toList).fmod 9973
theorem wsum_snoc (l : List Nat) (c : Nat) : ∀ i, wsum i (l ++ [c]) = wsum i l + (c : Int) * ((i + l.length : Nat) + 1) := by
  induction l with
  | nil => intro i; show (c : Int) * (i + 1) + 0 = 0 + (c : Int) * ((i + 0 : Nat) + 1); rw [Nat.add_zero]; omega
  | cons a l ih =>
    intro i
    show (a : Int) * (i + 1) + wsum (i + 1) (l ++ [c]) = ((a : Int) * (i + 1) + wsum (i + 1) l) + _
    rw [ih, List.length_cons, show i + 1 + l.length = i + (l.length + 1) by omega]
    omega
/-- the items of the comprehension -/
def wl (l : List Nat) : List Int := l.zipIdx.map fun p => (p.1 : Int) * ((p.2 : Int) + 1)
theorem wl_snoc (l : List Nat) (c : Nat) : wl (l ++ [c]) = wl l ++ [(c : Int) * ((l.length : Int) + 1)] := by
  unfold wl
  rw [List.zipIdx_append, List.map_append]
  simp
theorem wl_sum (l : List Nat) : (wl l).sum = wsum 0 l := by
  have h : ∀ (l : List Nat) (k : Nat), ((l.zipIdx k).map fun p => (p.1 : Int) * ((p.2 : Int) + 1)).sum = wsum k l := by
    intro l
    induction l with
    | nil => intro k; rfl
    | cons a l ih =>
      intro k
      rw [List.zipIdx_cons, List.map_cons, List.sum_cons, ih]
      rfl
  exact h l 0
theorem sum_lt (z : Str) : 0 ≤ zSum z ∧ zSum z < 9973 := by
  unfold zSum
  rw [Int.fmod_eq_emod_of_nonneg _ (by decide)]
  exact ⟨Int.emod_nonneg _ (by decide), Int.emod_lt_of_pos _ (by decide)⟩
theorem log_lt {i : Int} (h0 : 0 ≤ i) (h1 : i < 2 ^ 60) : i.natAbs.log2 < 1920 := by
  obtain ⟨n, rfl⟩ := Int.eq_ofNat_of_zero_le h0
  have h : n < 2 ^ 60 := by omega
  by_cases hn : n = 0
  · subst hn
    decide
  · exact Nat.lt_trans ((Nat.log2_lt hn).mpr h) (by decide)
theorem small_int {i : Int} (h0 : 0 ≤ i) (h1 : i < 2 ^ 60) : i.natAbs.log2 < 1920 ∧ (toString i : Str).length ≤ 1921 := ⟨log_lt h0 h1, PyProof.Rows.int_text_len_1921 (log_lt h0 h1)⟩
theorem key_inv {K : PySem.W.Frag} {H : Hp} {v : V} {d : PyData} (h : Dp K H v d) (e : dKey d = true) : ∃ a x n, v = .ref a ∧ d = .tuple [.str x, .int n] ∧ SqT K H a [.str x, .int n] ∧ zWord x = true ∧ 1 ≤ n := by
  have e1 : isK d "tuple" = true := by cases d <;> first | rfl | cases e
  obtain ⟨a, xs, ds, rfl, rfl, hx, hds⟩ := dp_tup h e1
  have hl := dpall_len hds
  have h2 : xs.length = 2 := by
    rw [hl]
    exact Classical.byContradiction fun z => by
      rw [dKey_ne z] at e
      cases e
  obtain ⟨x, y, dx, dy, rfl, rfl, hx1, hy1⟩ := dpall2 hds h2
  have e2 : (dWord dx && dFrom 1 dy) = true := e
  obtain ⟨e3, e4⟩ := Bool.and_eq_true_iff.mp e2
  cases hx1 with
  | str z =>
    cases hy1 with
    | int n => exact ⟨a, z, n, rfl, rfl, hx, e3, of_decide_eq_true e4⟩
    | _ => cases e4
  | _ => cases e3
theorem text_inv {K : PySem.W.Frag} {H : Hp} {v : V} {d : PyData} (h : Dp K H v d) (e : dText d = true) : ∃ z, v = .str z ∧ d = .str z ∧ zText z = true := by
  cases h with
  | str z => exact ⟨z, rfl, rfl, e⟩
  | _ => cases e
theorem text_bnd {z : Str} (e : zText z = true) : z.cps.size ≤ 60 ∧ ∀ c ∈ z.cps.toList, c < 126 := by
  obtain ⟨e1, e⟩ := Bool.and_eq_true_iff.mp e
  obtain ⟨e2, e⟩ := Bool.and_eq_true_iff.mp e
  have h := of_decide_eq_true e2
  refine ⟨by have : z.length = z.cps.size := rfl; omega, fun c hc => ?_⟩
  have h2 := List.all_eq_true.mp e1 c hc
  obtain ⟨_, h3⟩ := Bool.and_eq_true_iff.mp h2
  have h4 : ¬ ([125] : List Nat) < [c] := by
    have : ("}" : Str).cps.toList = [125] := by decide +kernel
    rw [this] at h3
    simpa using h3
  have h5 : ¬ (125 < c) := fun z => h4 (List.Lex.rel z)
  omega
theorem str_app (a b : Str) : (a ++ b).length = a.length + b.length := by
  rw [← st_of a, ← st_of b, st_app, st_len, st_len, st_len, List.length_append]
theorem str_nil (a : Str) : Str.empty ++ a = a := by
  rw [← st_of a]
  show st [] ++ st _ = _
  rw [st_app, List.nil_append]
def spTextD (K : PySem.W.Frag) : Sp := fun vs H Q _ => ∃ (v : V) (d : PyData), vs = [v] ∧ Dp K H v d ∧ shortD d = true ∧ ∀ H', Same H H' → Q (.bl (dText d)) H'
def spSumOf : Sp := fun vs H Q _ => ∃ z : Str, vs = [.str z] ∧ z.cps.size ≤ 1000 ∧ (∀ c ∈ z.cps.toList, c < 1000) ∧ ∀ H', Same H H' → Q (.int (zSum z)) H'
def recText (w : Str) (n : Int) (z : Str) : Str := "<" ++ w ++ "." ++ toString n ++ " " ++ toString (z.length : Int) ++ " " ++ toString (zSum z) ++ " " ++ z ++ ">"
def spRecord (K : PySem.W.Frag) (CN : Addr) : Sp := fun vs H Q E => ∃ (v1 v2 : V) (d1 d2 : PyData), vs = [v1, v2] ∧ Dp K H v1 d1 ∧ Dp K H v2 d2 ∧ shortK d1 = true ∧ shortD d2 = true ∧
  (∀ (x : Str) (n : Int) (z : Str), d1 = .tuple [.str x, .int n] → d2 = .str z → dKey d1 = true → dText d2 = true → n.natAbs.log2 < 1920 ∧ ∀ H', Same H H' → Q (.str (recText x n z)) H') ∧
  ((dKey d1 && dText d2) = false → ∀ H', Same H H' → E (.ref CN) none H')
section
variable {P : Program} {w : World} {K : PySem.W.Frag} {mg : Str → Option Value} {base : Heap}
theorem scis_text : FnScope nis_text pis_text (defScope sis_text) := ⟨rfl, rfl, rfl, by decide +kernel, rfl, by decide +kernel, by decide +kernel⟩
theorem ok_text (m_len : mg "len" = none) (i_MOST_TEXT : ∃ t, mg "MOST_TEXT" = some (.int 60 t)) (D_is_signs : Df P w K mg base 1 "is_signs" pis_signs (spSignsD K)) {f : Addr} {fd : FuncData} (F : FunD K "is_text" "is_text" (defArgs sis_text) (defBody sis_text) (defScope sis_text) [] [] f fd) : FnOk P w K mg base CX0 2 f fd pis_text (spTextD K) := by
  obtain ⟨f_is_signs, fd_is_signs, m_is_signs, k_is_signs, b_is_signs, G_is_signs⟩ := D_is_signs
  obtain ⟨t1, m_MOST_TEXT⟩ := i_MOST_TEXT
  refine F.ok scis_text (fun vs H Q E h => ?_) (fun cdv A outer s H vs Q E hr h => ?_)
  · obtain ⟨v, d, rfl, _⟩ := h
    rfl
  · obtain ⟨v, d, rfl, hd, hz, k⟩ := h
    refine ⟨_, PSs.nox (pss_one (ps_ret (pe_and (pe_call G_is_signs (by exact hr.mono (by decide)) rfl m_is_signs k_is_signs b_is_signs .nil pass0 (pa_cons (pv 0) pa_nil)) (pe_and (pe_cmpR op_le (pe_callB call_len_str (by rfl) m_len PySem.boot_len (pa_cons (pv 0) pa_nil)) (pe_glob (v := (.int 60)) rfl m_MOST_TEXT ⟨_, rfl⟩) (nomark _)) (pe_and (pe_cmpR op_notIn_sign pe_str (pv 0) rfl) (pe_one (pe_cmpR op_notIn_sign pe_str (pv 0) rfl))))))), ?_⟩
    refine ⟨_, rfl, v, d, rfl, hd, hz, fun H1 s1 => ⟨_, rfl, ?_⟩⟩
    cases h1 : dSigns d with
    | false =>
      have e : dText d = false := by
        cases d with
        | str z =>
          show (zSigns z && _) = false
          rw [show zSigns z = false from h1]
          rfl
        | _ => rfl
      rw [e] at k
      exact iteF (k H1 s1)
    | true =>
      cases d with
      | str z =>
        cases hd
        have hz' : z.length ≤ 100000 := of_decide_eq_true hz
        have h60 : ("<" : Str) = ⟨#[60]⟩ := by decide +kernel
        have h62 : (">" : Str) = ⟨#[62]⟩ := by decide +kernel
        have e0 : dText (.str z) = (decide ((z.length : Int) ≤ 60) && (!decide (60 ∈ z.cps.toList) && !decide (62 ∈ z.cps.toList))) := by
          show (zSigns z && _) = _
          rw [show zSigns z = true from h1]
          rfl
        rw [e0] at k
        refine iteT ⟨_, rfl, z, rfl, line200 hz', _, _, rfl, rfl, _, rfl, ?_⟩
        by_cases g1 : (z.length : Int) ≤ 60
        · rw [decide_eq_true g1, Bool.true_and] at k
          rw [decide_eq_true g1]
          refine iteT ⟨_, rfl, 60, z, congrArg V.str h60, rfl, _, rfl, ?_⟩
          cases g2 : (!decide (60 ∈ z.cps.toList)) with
          | false =>
            rw [g2] at k
            exact iteF (k H1 s1)
          | true =>
            rw [g2] at k
            exact iteT ⟨_, rfl, 62, z, congrArg V.str h62, rfl, k H1 s1⟩
        · rw [decide_eq_false g1] at k
          rw [decide_eq_false g1]
          exact iteF (k H1 s1)
      | _ => cases h1
theorem scsum_of : FnScope nsum_of psum_of (defScope ssum_of) := ⟨rfl, rfl, rfl, by decide +kernel, rfl, by decide +kernel, by decide +kernel⟩
theorem ok_sum_of (m_sum : mg "sum" = none) (m_enumerate : mg "enumerate" = none) (m_ord : mg "ord" = none) (i_ROUND : ∃ t, mg "ROUND" = some (.int 9973 t)) {f : Addr} {fd : FuncData} (F : FunD K "sum_of" "sum_of" (defArgs ssum_of) (defBody ssum_of) (defScope ssum_of) [] [] f fd) : FnOk P w K mg base CX0 1 f fd psum_of spSumOf := by
  obtain ⟨t1, m_ROUND⟩ := i_ROUND
  refine F.ok scsum_of (fun vs H Q E h => ?_) (fun cdv A outer s H vs Q E hr h => ?_)
  · obtain ⟨z, rfl, _⟩ := h
    rfl
  · obtain ⟨z, rfl, hz, hc, k⟩ := h
    refine ⟨_, PSs.nox (pss_one (ps_ret (pe_op op_modN (pe_callB (cr_sumK K rfl) (by rfl) m_sum (by decide +kernel) (pa_cons (pe_lc (own := [("at", 1), ("sign", 2)]) (by rfl) scsum_of.nd (pi_enumS (by rfl) m_enumerate (pa_cons (pv 0) pa_nil)) (blkOk_by (own := [("at", 1), ("sign", 2)]) (N := nsum_of) (sc := (defScope ssum_of)) (by decide +kernel)) (fun _ _ _ _ _ => (pg_tupK K (n := 2) (by rfl) (pgs_cons (pg_name (i := 1) scsum_of.nd rfl (Or.inl rfl)) (pgs_cons (pg_name (i := 2) scsum_of.nd rfl (Or.inl rfl)) pgs_nil)))) (fun _ _ _ _ _ => by exact pts_nil) (fun _ _ _ _ _ => by exact (pe_op op_mul (pe_callB call_ord (by rfl) m_ord (by decide +kernel) (pa_cons (pv 2) pa_nil)) (pe_op op_add (pv 1) pe_int)))) pa_nil)) (pe_glob (v := (.int 9973)) rfl m_ROUND ⟨_, rfl⟩)))), ?_⟩
    refine ⟨_, rfl, z, rfl, fun D nD => ?_⟩
    refine lc_it walk_enumS (fun t H' => Same H H' ∧ H' D = some (.lst ((wl (z.cps.toList.take t)).map V.int))) ⟨Same.new nD, upd_same⟩ (fun _ _ _ _ => trivial) (fun t x H' H'' ht p y => ?_) (fun H' p => ?_)
    · obtain ⟨p1, p2⟩ := p
      obtain ⟨T, y1, y2, rfl, nT, rfl, e1, e2⟩ := y
      cases e1
      obtain ⟨c, hc'⟩ : ∃ c, z.cps.toList[t]? = some c := ⟨z.cps.toList[t]'(by simpa using ht), List.getElem?_eq_getElem (by simpa using ht)⟩
      have hy2 : y2 = V.str ⟨#[c]⟩ := by
        have h3 : (z.cps[t]?).map (fun c => V.str ⟨#[c]⟩) = some y2 := e2
        rw [show z.cps[t]? = some c by rw [← Array.getElem?_toList]; exact hc'] at h3
        exact (Option.some.inj h3).symm
      subst hy2
      have hc1 := hc c (List.mem_of_getElem? hc')
      have sT := Same.new (o := .tup [.int (t : Nat), .str ⟨#[c]⟩]) nT
      have lt : (z.cps.toList.take t).length = t := by
        rw [List.length_take]
        have : t < z.cps.toList.length := by simpa using ht
        omega
      refine ⟨T, _, rfl, .inl (.inl upd_same), rfl, _, _, rfl, _, _, rfl, rfl, rfl, ?_⟩
      refine ⟨_, rfl, _, rfl, rfl, _, rfl, _, _, rfl, rfl, _, _, rfl, rfl, .inl ⟨?_, ?_⟩, _, sT _ _ p2, ?_, Same.mut (p1.trans sT) nD, ?_⟩
      · show -(2 ^ 64) < ((c : Nat) : Int)
        omega
      · show ((c : Nat) : Int) < 2 ^ 64
        omega
      · rw [List.length_map]
        have : (wl (z.cps.toList.take t)).length = t := by
          unfold wl
          rw [List.length_map, List.length_zipIdx, lt]
        rw [this]
        exact Nat.lt_of_le_of_lt (show _ ≤ 1000 by omega) (by decide)
      · rw [upd_same, take_snoc _ hc', wl_snoc, lt, List.map_append]
        rfl
    · obtain ⟨p1, p2⟩ := p
      rw [List.take_of_length_le (by simp)] at p2
      refine ⟨D, wl z.cps.toList, rfl, SqL.of p2, _, _, rfl, rfl, (show (9973 : Int) ≠ 0 by decide), ?_⟩
      rw [wl_sum]
      exact k H' p1
theorem screcord : FnScope nrecord precord (defScope srecord) := ⟨rfl, rfl, rfl, by decide +kernel, rfl, by decide +kernel, by decide +kernel⟩
theorem ok_record {CN : Addr} (m_len : mg "len" = none) (m_NoRecord : mg "NoRecord" = some (.ref CN)) (xN : PySem.W.excIn K CN He.veBase "ValueError.__new__" = true ∧ PySem.W.keepIn K (.ref CN) = true ∧ PySem.W.subIn K (.ref CN) (.type "BaseException") = some true ∧ PySem.W.typeIn K (.ref CN) = some (.type "type"))
    (D_is_key : Df P w K mg base 3 "is_key" pis_key (spKey K)) (D_is_text : Df P w K mg base 2 "is_text" pis_text (spTextD K)) (D_sum_of : Df P w K mg base 1 "sum_of" psum_of spSumOf) {f : Addr} {fd : FuncData} (F : FunD K "record" "record" (defArgs srecord) (defBody srecord) (defScope srecord) [] [] f fd) : FnOk P w K mg base (L2.CX P w) 4 f fd precord (spRecord K CN) := by
  obtain ⟨f_is_key, fd_is_key, m_is_key, k_is_key, b_is_key, G_is_key⟩ := D_is_key
  obtain ⟨f_is_text, fd_is_text, m_is_text, k_is_text, b_is_text, G_is_text⟩ := D_is_text
  obtain ⟨f_sum_of, fd_sum_of, m_sum_of, k_sum_of, b_sum_of, G_sum_of⟩ := D_sum_of
  obtain ⟨x1, x2, x3, x4⟩ := xN
  refine F.ok (CX := L2.CX P w) screcord (fun vs H Q E h => ?_) (fun cdv A outer s H vs Q E hr h => ?_)
  · obtain ⟨v1, v2, d1, d2, rfl, _⟩ := h
    rfl
  · obtain ⟨v1, v2, d1, d2, rfl, hd1, hd2, hz1, hz2, kY, kN⟩ := h
    have tk : Takes (cxOf (L2.CX P w) P w K mg base nrecord "record" (defScope srecord) f cdv A outer s H E) (fun cls d _ H => E cls d H) := takes_of rfl rfl rfl rfl
    refine ⟨_, (pss_cons (ps_if (PW.pt (pw_or (pt_not (pt_val (pe_call G_is_key (by exact hr.mono (by decide)) rfl m_is_key k_is_key b_is_key .nil pass0 (pa_cons (pv 0) pa_nil)))) (pw_or1 (pt_not (pt_val (pe_call G_is_text (by exact hr.mono (by decide)) rfl m_is_text k_is_text b_is_text .nil pass0 (pa_cons (pv 1) pa_nil))))))) (pss_one (ps_raise rfl tk (pmk_own PySem.F.excBase_ValueError x1 m_NoRecord x2 (raises_own x3 x4) rfl))) pss_nil) (pss_cons (ps_asg (pv 0) (pg_tupK K (n := 2) (by rfl) (pgs_cons (pg_name (i := 2) screcord.nd rfl (Or.inl rfl)) (pgs_cons (pg_name (i := 3) screcord.nd rfl (Or.inl rfl)) pgs_nil)))) (pss_one (ps_ret (pe_joined (PJ.cons pe_str (PJ.cons (pe_fmt (pv 2)) (PJ.cons pe_str (PJ.cons (pe_fmt (pv 3)) (PJ.cons pe_str (PJ.cons (pe_fmt (pe_callB call_len_str (by rfl) m_len PySem.boot_len (pa_cons (pv 1) pa_nil))) (PJ.cons pe_str (PJ.cons (pe_fmt (pe_call G_sum_of (by exact hr.mono (by decide)) rfl m_sum_of k_sum_of b_sum_of .nil pass0 (pa_cons (pv 1) pa_nil))) (PJ.cons pe_str (PJ.cons (pe_fmt (pv 1)) (PJ.cons pe_str PJ.nil)))))))))))))))), ?_⟩
    refine ⟨_, rfl, v1, d1, rfl, hd1, hz1, fun H1 s1 => ⟨_, rfl, ?_⟩⟩
    cases h1 : dKey d1 with
    | false => exact iteT (kN (by rw [h1]; rfl) H1 s1)
    | true =>
      refine iteF ⟨_, rfl, v2, d2, rfl, Dp.same hd2 s1, hz2, fun H2 s2 => ⟨_, rfl, ?_⟩⟩
      have s12 := s1.trans s2
      cases h2 : dText d2 with
      | false => exact iteT (kN (by rw [h1, h2]; rfl) H2 s12)
      | true =>
        refine iteF ?_
        obtain ⟨a, x, n, rfl, rfl, ha, hx, hn⟩ := key_inv hd1 h1
        obtain ⟨z, rfl, rfl, hz⟩ := text_inv hd2 h2
        obtain ⟨kn1, kY⟩ := kY x n z rfl rfl h1 h2
        have kn2 := PyProof.Rows.int_text_len_1921 kn1
        obtain ⟨hz60, hzc⟩ := text_bnd hz
        have hzl : z.length ≤ 60 := hz60
        have hxl : x.length ≤ 8 := by
          obtain ⟨_, e⟩ := Bool.and_eq_true_iff.mp hx
          obtain ⟨e2, _⟩ := Bool.and_eq_true_iff.mp e
          have := of_decide_eq_true e2
          omega
        obtain ⟨g1, g2⟩ := small_int (i := (z.length : Int)) (by omega) (by omega)
        obtain ⟨g3, g4⟩ := small_int (sum_lt z).1 (by have := (sum_lt z).2; omega)
        have l1 : ("<" : Str).length = 1 := by decide +kernel
        have l2 : ("." : Str).length = 1 := by decide +kernel
        have l3 : (" " : Str).length = 1 := by decide +kernel
        have l4 : (">" : Str).length = 1 := by decide +kernel
        have e0 := str_nil
        refine ⟨_, rfl, a, _, rfl, Same.seqT s12 ha, rfl, _, _, rfl, _, _, rfl, rfl, ?_⟩
        refine ⟨_, rfl, line200 (by rw [e0, l1]; omega), ?_⟩
        rw [e0]
        refine ⟨_, rfl, .inl ⟨x, rfl, line200 (by omega), _, rfl, line200 (by rw [str_app, l1]; omega), ?_⟩⟩
        refine ⟨_, rfl, line200 (by rw [str_app, str_app, l1, l2]; omega), ?_⟩
        refine ⟨_, rfl, .inr ⟨n, rfl, kn1, _, rfl, line200 (by rw [str_app, str_app, str_app, l1, l2]; omega), ?_⟩⟩
        refine ⟨_, rfl, line200 (by rw [str_app, str_app, str_app, str_app, l1, l2, l3]; omega), ?_⟩
        refine ⟨_, rfl, z, rfl, line200 (by omega), .inr ⟨_, rfl, g1, _, rfl, line200 (by rw [str_app, str_app, str_app, str_app, str_app, l1, l2, l3]; omega), ?_⟩⟩
        refine ⟨_, rfl, line200 (by rw [str_app, str_app, str_app, str_app, str_app, str_app, l1, l2, l3]; omega), ?_⟩
        refine ⟨_, rfl, z, rfl, by omega, (fun c hc => by have := hzc c hc; omega), fun H3 s3 => .inr ⟨_, rfl, g3, _, rfl, line200 (by rw [str_app, str_app, str_app, str_app, str_app, str_app, str_app, l1, l2, l3]; omega), ?_⟩⟩
        refine ⟨_, rfl, line200 (by rw [str_app, str_app, str_app, str_app, str_app, str_app, str_app, str_app, l1, l2, l3]; omega), ?_⟩
        refine ⟨_, rfl, .inl ⟨z, rfl, line200 (by omega), _, rfl, line200 (by rw [str_app, str_app, str_app, str_app, str_app, str_app, str_app, str_app, str_app, l1, l2, l3]; omega), ?_⟩⟩
        refine ⟨_, rfl, line200 (by rw [str_app, str_app, str_app, str_app, str_app, str_app, str_app, str_app, str_app, str_app, l1, l2, l3, l4]; omega), ?_⟩
        exact kY H3 (s12.trans s3)
end

/-! ### draws of the room: _law_room, _law_take, _law_word, _law_line -/
def PoolO (o : HO) : Prop := ∃ a b : Int, o = .lst [.int a, .int b]
def spRoom (K : PySem.W.Frag) : Sp := fun vs H Q _ => ∃ (a : Addr) (ns : List Int) (k : Int), vs = [.ref a, .int k] ∧ SqL K H a (ns.map V.int) ∧ ns.length ≤ 63 ∧ 0 ≤ k ∧ k < 64 ∧
  ∀ (p : Addr) (o : HO), H p = none → PoolO o → Q (.ref p) (upd H p o)
def spTake : Sp := fun vs H Q _ => ∃ (p : Addr) (m : Int) (o : HO), vs = [.ref p, .int m] ∧ H p = some o ∧ PoolO o ∧ 0 < m ∧ m ≤ 1000000 ∧ ∀ (v : Int) (o' : HO), 0 ≤ v → v < m → PoolO o' → Q (.int v) (upd H p o')
theorem fmod_lt {x m : Int} (h : 0 < m) : 0 ≤ x.fmod m ∧ x.fmod m < m := by
  rw [Int.fmod_eq_emod_of_nonneg _ (Int.le_of_lt h)]
  exact ⟨Int.emod_nonneg _ (by omega), Int.emod_lt_of_pos _ h⟩
theorem same_pool {H H1 : Hp} {q : Addr} {o o2 : HO} (s : Same (upd H q o) H1) : Same (upd H q o2) (upd H1 q o2) := same_upd2 s
theorem upd_free {H : Hp} {q p : Addr} {o : HO} (h : upd H q o p = none) : H p = none ∧ p ≠ q := by
  have ne : p ≠ q := fun e => by
    rw [e, upd_same] at h
    cases h
  exact ⟨by rw [upd_ne ne] at h; exact h, ne⟩
/-- [menu[take(pool, ..)] for turn in range(n)] -/
theorem lc_draw {q D : Addr} {n i : Nat} {te : TE} {vs : List Nat} {σ : L2.St} {H1 : Hp} {Qd : Hp → Prop} {po1 : HO} (mn : List Nat) (hD : H1 D = none) (hq : H1 q = some po1) (hpo1 : PoolO po1) (hn : n ≤ 1000)
    (hw : ∀ x, wipe ((wipe σ vs).set i (some x)) vs = wipe σ vs)
    (he : ∀ (x : V) (H' : Hp) (po : HO), H' q = some po → PoolO po → ∀ Q : VK, (∀ (c : Nat) (po' : HO), c ∈ mn → PoolO po' → Q (.str (st [c])) (upd H' q po')) → te ((wipe σ vs).set i (some x)) H' Q)
    (hd : ∀ (H' : Hp) (po' : HO) (cs : List Nat), cs.length = n → (∀ c ∈ cs, c ∈ mn) → PoolO po' → Same (upd H1 q po') H' → H' D = some (.lst (cs.map fun c => V.str (st [c]))) → Qd H') :
    ∃ W : Nat → Nat → Hp → Prop, (∃ m, W 0 m (upd H1 D (.lst []))) ∧ ∀ t m H, W t m H →
      ((Itr 0 n).stop t H ∧ Qd H) ∨ ((Itr 0 n).go t H ∧ ∃ Nx : Hp → Prop, (∀ H', Nx H' → ∃ m', m' < m ∧ W (t + 1) m' H') ∧ ∀ x H', (Itr 0 n).yld t H x H' → gName i x (wipe σ vs) H' fun σ2 H2 => wipe σ2 vs = wipe σ vs ∧ tYes σ2 H2 fun b H3 =>
        if b = true then te σ2 H3 fun y H4 => ∃ acc, H4 D = some (.lst acc) ∧ acc.length < sizeLine ∧ Nx (upd H4 D (.lst (acc ++ [y]))) else Nx H3) := by
  have nDq : D ≠ q := (ne_of_none hq hD).symm
  refine lc_range (lo := 0) (n := n) (fun i H' => ∃ (po' : HO) (cs : List Nat), PoolO po' ∧ cs.length = i ∧ (∀ c ∈ cs, c ∈ mn) ∧ H' D = some (.lst (cs.map fun c => V.str (st [c]))) ∧ Same (upd H1 q po') H') ⟨po1, [], hpo1, rfl, (fun c hc => by cases hc), upd_same, ?_⟩ ?_ ?_
  · intro b u hb
    by_cases h : b = q
    · subst h
      rw [upd_same] at hb
      cases hb
      rw [upd_ne nDq.symm]
      exact hq
    · rw [upd_ne h] at hb
      rw [upd_ne (ne_of_none hb hD)]
      exact hb
  · rintro t H' ht ⟨po2, cs, hpo2, hcs, hlt, hD2, sH⟩
    refine ⟨hw _, he _ H' po2 (same_here sH) hpo2 _ fun c po3 hc hpo3 => ⟨_, Eq.trans (upd_ne nDq) hD2, ?_, po3, cs ++ [c], hpo3, ?_, ?_, ?_, ?_⟩⟩
    · rw [List.length_map, hcs]
      exact Nat.lt_of_le_of_lt (show _ ≤ 1000 by omega) (by decide)
    · rw [List.length_append, hcs]
      rfl
    · intro c' hc'
      rcases List.mem_append.mp hc' with h | h
      · exact hlt c' h
      · rw [List.mem_singleton.mp h]
        exact hc
    · rw [upd_same, List.map_append]
      rfl
    · exact Same.mut (same_pool sH) (by rw [upd_ne nDq]; exact hD)
  · rintro H' ⟨po2, cs, hpo2, hcs, hlt, hD2, sH⟩
    exact hd H' po2 cs hcs hlt hpo2 sH hD2
theorem sizeJ (l : List Nat) (h : l.length ≤ 1000) : ((l.map fun c => st [c]).map (·.length)).sum + (l.map fun c => st [c]).length * (st []).length ≤ 16777216 := by
  rw [List.map_map, st_len, List.length_nil, Nat.mul_zero, Nat.add_zero]
  have : ∀ l : List Nat, (l.map ((fun x : Str => x.length) ∘ fun c => st [c])).sum = l.length := fun l => by
    induction l with
    | nil => rfl
    | cons c l ih =>
      rw [List.map_cons, List.sum_cons, ih]
      show (st [c]).length + l.length = l.length + 1
      rw [st_len, List.length_singleton]
      omega
  rw [this]
  omega
theorem join_st (l : List Nat) : Txt.join (st []) (l.map fun c => st [c]) = st l := by
  have h : ∀ l : List Nat, TL.joinL [] (l.map fun c => [c]) = l := by
    intro l
    induction l with
    | nil => rfl
    | cons a l ih =>
      cases l with
      | nil => rfl
      | cons b l =>
        show [a] ++ ([] ++ TL.joinL [] ((b :: l).map fun c => [c])) = a :: b :: l
        rw [ih]
        rfl
  have e := TL.tl_join (st []) (l.map fun c => st [c])
  rw [← TL.join_eq] at e
  have e2 : (l.map fun c => st [c]).map TL.tl = l.map fun c => [c] := by
    rw [List.map_map]
    rfl
  rw [e2] at e
  have e3 : TL.tl (st []) = [] := rfl
  rw [e3, h] at e
  rw [← st_of (Txt.join (st []) (l.map fun c => st [c]))]
  exact congrArg st e
def spDrawW : Sp := fun vs H Q _ => ∃ (q : Addr) (po : HO), vs = [.ref q] ∧ H q = some po ∧ PoolO po ∧
  ∀ (s : List Nat) (po' : HO) (H' : Hp), 1 ≤ s.length → s.length ≤ 8 → (∀ c ∈ s, c ∈ lettersL) → PoolO po' → Same (upd H q po') H' → Q (.str (st s)) H'
def lineL : List Nat := (" !\"#0123456789:;=?@AZ[]az{|}.," : Str).cps.toList
def spDrawL : Sp := fun vs H Q _ => ∃ (q : Addr) (m : Int) (po : HO), vs = [.ref q, .int m] ∧ H q = some po ∧ PoolO po ∧ 0 ≤ m ∧ m ≤ 1000 ∧
  ∀ (s : List Nat) (po' : HO) (H' : Hp), (s.length : Int) = m → (∀ c ∈ s, c ∈ lineL) → PoolO po' → Same (upd H q po') H' → Q (.str (st s)) H'
section
variable {P : Program} {w : World} {K : PySem.W.Frag} {mg : Str → Option Value} {base : Heap}
theorem sc_law_room : FnScope n_law_room p_law_room (defScope s_law_room) := ⟨rfl, rfl, rfl, by decide +kernel, rfl, by decide +kernel, by decide +kernel⟩
theorem ok_room (m_len : mg "len" = none) {f : Addr} {fd : FuncData} (F : FunD K "_law_room" "_law_room" (defArgs s_law_room) (defBody s_law_room) (defScope s_law_room) [] [] f fd) : FnOk P w K mg base CX0 1 f fd p_law_room (spRoom K) := by
  refine F.ok sc_law_room (fun vs H Q E h => ?_) (fun cdv A outer s H vs Q E hr h => ?_)
  · obtain ⟨a, ns, k, rfl, _⟩ := h
    rfl
  · obtain ⟨a, ns, i, rfl, ha, hl, i0, i1, k⟩ := h
    refine ⟨_, PSs.nox (pss_cons (ps_set (i := 2) sc_law_room.nd rfl (Or.inl rfl) pe_int) (pss_cons (ps_if (pt_cmpR op_lt (pv 1) (pe_callB (call_lenK K) (by rfl) m_len PySem.boot_len (pa_cons (pv 0) pa_nil)) (nomark _)) (pss_one (ps_set (i := 2) sc_law_room.nd rfl (Or.inl rfl) (pe_ix (ix_listK K) (pv 0) (pv 1) (fun _ _ => rfl)))) pss_nil) (pss_cons (ps_set (i := 3) sc_law_room.nd rfl (Or.inl rfl) pe_int) (pss_cons (ps_if (pt_cmpR op_ge (pv 2) (pe_op op_pow pe_int pe_int) (nomark _)) (pss_one (ps_set (i := 3) sc_law_room.nd rfl (Or.inl rfl) (pv 2))) pss_nil) (pss_one (ps_ret (pe_lst (pa_cons (pv 3) (pa_cons (pe_op op_modN (pe_op op_mul (pe_op op_add (pe_op op_add (pe_op op_modN (pv 2) pe_int) (pe_op op_mul (pe_op op_mul pe_int (pv 1)) (pv 1))) pe_int) pe_int) pe_int) pa_nil))))))))), ?_⟩
    have fin : ∀ (c left : Int), tRet (tLst (tCons (tVar 3) (tCons (tOp (rI (fun _ j => j ≠ 0) fun i j => .int (i.fmod j)) (tOp (rI CMul fun i j => .int (i * j)) (tOp (rI0 fun i j => .int (i + j)) (tOp (rI0 fun i j => .int (i + j)) (tOp (rI (fun _ j => j ≠ 0) fun i j => .int (i.fmod j)) (tVar 2) (tC (.int 2147483629))) (tOp (rI CMul fun i j => .int (i * j)) (tOp (rI CMul fun i j => .int (i * j)) (tC (.int 104729)) (tVar 1)) (tVar 1))) (tC (.int 7))) (tC (.int 48271))) (tC (.int 2147483647))) tNil))) { nx := fun _ H' => Q .non H', rt := Q } [some (.ref a), some (.int i), some (.int c), some (.int left)] H := by
      intro c left
      refine ⟨_, rfl, _, rfl, _, _, rfl, rfl, (show (2147483629 : Int) ≠ 0 by decide), _, rfl, _, _, rfl, rfl, .inl ⟨by decide, by decide⟩, _, rfl, _, _, rfl, rfl, .inr ⟨by omega, by omega⟩, _, _, rfl, rfl, _, _, rfl, rfl, _, _, rfl, rfl, .inr ⟨by decide, by decide⟩, _, _, rfl, rfl, (show (2147483647 : Int) ≠ 0 by decide), (by show 2 ≤ sizeLine; decide), fun p np => ?_⟩
      exact k p _ np ⟨_, _, rfl⟩
    have mid : ∀ c : Int, tSeq (tIfS (tTest (tOp (rI0 fun i j => .bl (decide (i ≥ j))) (tVar 2) (tOp (rI CPow fun i j => .int (i ^ j.toNat)) (tC (.int 10)) (tC (.int 18))))) (tAsg (tVar 2) (gName 3)) tNext) (tRet (tLst (tCons (tVar 3) (tCons (tOp (rI (fun _ j => j ≠ 0) fun i j => .int (i.fmod j)) (tOp (rI CMul fun i j => .int (i * j)) (tOp (rI0 fun i j => .int (i + j)) (tOp (rI0 fun i j => .int (i + j)) (tOp (rI (fun _ j => j ≠ 0) fun i j => .int (i.fmod j)) (tVar 2) (tC (.int 2147483629))) (tOp (rI CMul fun i j => .int (i * j)) (tOp (rI CMul fun i j => .int (i * j)) (tC (.int 104729)) (tVar 1)) (tVar 1))) (tC (.int 7))) (tC (.int 48271))) (tC (.int 2147483647))) tNil)))) { nx := fun _ H' => Q .non H', rt := Q } [some (.ref a), some (.int i), some (.int c), some (.int 0)] H := by
      intro c
      refine ⟨_, rfl, _, _, rfl, rfl, ⟨by decide, by decide, by decide⟩, _, _, rfl, rfl, _, rfl, ?_⟩
      exact ite2 (fun _ => ⟨_, rfl, fin c c⟩) (fun _ => fin c 0)
    refine ⟨_, rfl, _, rfl, a, _, rfl, .inl ha, _, _, rfl, rfl, _, rfl, ?_⟩
    refine ite2 (fun hc => ?_) (fun _ => mid 0)
    rw [decide_eq_true_eq, List.length_map] at hc
    have hi : i.toNat < ns.length := by omega
    refine ⟨_, rfl, _, rfl, a, _, i, .int ns[i.toNat], rfl, rfl, ha, at_of (j := i.toNat) (by omega) ?_, mid _⟩
    rw [List.getElem?_map, List.getElem?_eq_getElem hi]
    rfl
theorem sc_law_take : FnScope n_law_take p_law_take (defScope s_law_take) := ⟨rfl, rfl, rfl, by decide +kernel, rfl, by decide +kernel, by decide +kernel⟩
theorem ok_take {f : Addr} {fd : FuncData} (F : FunD K "_law_take" "_law_take" (defArgs s_law_take) (defBody s_law_take) (defScope s_law_take) [] [] f fd) : FnOk P w K mg base CX0 1 f fd p_law_take spTake := by
  refine F.ok sc_law_take (fun vs H Q E h => ?_) (fun cdv A outer s H vs Q E hr h => ?_)
  · obtain ⟨p, m, o, rfl, _⟩ := h
    rfl
  · obtain ⟨p, m, o, rfl, hp, ⟨a, b, rfl⟩, h1, h2, k⟩ := h
    refine ⟨_, PSs.nox (pss_cons (ps_if (pt_cmpR op_gt (pe_ix (ix_listK K) (pv 0) pe_int (fun _ _ => rfl)) pe_int (nomark _)) (pss_cons (ps_set (i := 2) sc_law_take.nd rfl (Or.inl rfl) (pe_op op_modN (pe_ix (ix_listK K) (pv 0) pe_int (fun _ _ => rfl)) (pv 1))) (pss_cons (ps_asg (pe_op op_fdivN (pe_ix (ix_listK K) (pv 0) pe_int (fun _ _ => rfl)) (pv 1)) (pg_sub (pv 0) pe_int set_list)) (pss_one (ps_ret (pv 2))))) pss_nil) (pss_cons (ps_asg (pe_op op_modN (pe_op op_add (pe_op op_mul (pe_ix (ix_listK K) (pv 0) pe_int (fun _ _ => rfl)) pe_int) pe_int) pe_int) (pg_sub (pv 0) pe_int set_list)) (pss_cons (ps_set (i := 2) sc_law_take.nd rfl (Or.inl rfl) (pe_op op_fdivN (pe_op op_modN (pe_op op_mul (pe_ix (ix_listK K) (pv 0) pe_int (fun _ _ => rfl)) (pe_ix (ix_listK K) (pv 0) pe_int (fun _ _ => rfl))) pe_int) pe_int)) (pss_cons (ps_if (pt_cmpR op_gt (pv 1) (pe_op op_pow pe_int pe_int) (nomark _)) (pss_cons (ps_asg (pe_op op_modN (pe_op op_add (pe_op op_mul (pe_ix (ix_listK K) (pv 0) pe_int (fun _ _ => rfl)) pe_int) pe_int) pe_int) (pg_sub (pv 0) pe_int set_list)) (pss_one (ps_set (i := 2) sc_law_take.nd rfl (Or.inl rfl) (pe_op op_add (pe_op op_mul (pv 2) pe_int) (pe_op op_modN (pe_op op_mul (pe_ix (ix_listK K) (pv 0) pe_int (fun _ _ => rfl)) (pe_ix (ix_listK K) (pv 0) pe_int (fun _ _ => rfl))) pe_int))))) pss_nil) (pss_one (ps_ret (pe_op op_modN (pv 2) (pv 1)))))))), ?_⟩
    have hn : m ≠ 0 := by omega
    refine ⟨_, rfl, p, _, _, _, rfl, rfl, SqL.of hp, rfl, _, _, rfl, rfl, _, rfl, ?_⟩
    refine ite2 (fun hc => ?_) (fun hc => ?_)
    · refine ⟨_, rfl, p, _, _, _, rfl, rfl, SqL.of hp, rfl, _, rfl, _, _, rfl, rfl, hn, ?_⟩
      refine ⟨_, rfl, p, _, _, _, rfl, rfl, SqL.of hp, rfl, _, rfl, _, _, rfl, rfl, ⟨hn, by omega⟩, ?_⟩
      refine ⟨_, rfl, p, _, _, 0, rfl, rfl, hp, rfl, ?_⟩
      refine ⟨_, rfl, ?_⟩
      obtain ⟨q1, q2⟩ := fmod_lt (x := a) h1
      exact k _ _ q1 q2 ⟨_, _, rfl⟩
    · refine ⟨_, rfl, p, _, _, _, rfl, rfl, SqL.of hp, rfl, _, _, rfl, rfl, .inr ⟨by decide, by decide⟩, _, _, rfl, rfl, _, _, rfl, rfl, (show (2147483647 : Int) ≠ 0 by decide), ?_⟩
      refine ⟨_, rfl, p, _, _, 1, rfl, rfl, hp, rfl, ?_⟩
      have bb := fmod_lt (x := b * 48271 + 39373) (m := 2147483647) (by decide)
      refine ⟨_, rfl, p, _, _, _, rfl, rfl, SqL.of upd_same, rfl, _, rfl, p, _, _, _, rfl, rfl, SqL.of upd_same, rfl, _, _, rfl, rfl, .inl ⟨by omega, by omega⟩, _, _, rfl, rfl, (show (2147483629 : Int) ≠ 0 by decide), _, _, rfl, rfl, ⟨by decide, by decide⟩, ?_⟩
      refine ⟨_, rfl, _, _, rfl, rfl, ⟨by decide, by decide, by decide⟩, _, _, rfl, rfl, false, ?_, iteF ?_⟩
      · exact congrArg V.bl (decide_eq_false (by show ¬ (m > 10 ^ 6); omega))
      refine ⟨_, rfl, _, rfl, _, _, rfl, rfl, hn, ?_⟩
      obtain ⟨q1, q2⟩ := fmod_lt (x := (((b * 48271 + 39373).fmod 2147483647 * (b * 48271 + 39373).fmod 2147483647).fmod 2147483629).fdiv 16) h1
      exact k _ _ q1 q2 ⟨_, _, rfl⟩
theorem sc_law_word : FnScope n_law_word p_law_word (defScope s_law_word) := ⟨rfl, rfl, rfl, by decide +kernel, rfl, by decide +kernel, by decide +kernel⟩
theorem letters_st : ("abcdefghijklmnopqrstuvwxyz" : Str) = st lettersL := (st_of _).symm
theorem letters_len : lettersL.length = 26 := by decide +kernel
theorem line_st : (" !\"#0123456789:;=?@AZ[]az{|}.," : Str) = st lineL := (st_of _).symm
theorem line_len : lineL.length = 30 := by decide +kernel
theorem ok_drawW (m_range : mg "range" = none) (D__law_take : Df P w K mg base 1 "_law_take" p_law_take spTake) {f : Addr} {fd : FuncData} (F : FunD K "_law_word" "_law_word" (defArgs s_law_word) (defBody s_law_word) (defScope s_law_word) [] [] f fd) : FnOk P w K mg base CX0 2 f fd p_law_word spDrawW := by
  obtain ⟨f__law_take, fd__law_take, m__law_take, k__law_take, b__law_take, G__law_take⟩ := D__law_take
  refine F.ok sc_law_word (fun vs H Q E h => ?_) (fun cdv A outer s H vs Q E hr h => ?_)
  · obtain ⟨q, po, rfl, _⟩ := h
    rfl
  · obtain ⟨q, po, rfl, hq, hpo, k⟩ := h
    refine ⟨_, PSs.nox (pss_cons (ps_set (i := 1) sc_law_word.nd rfl (Or.inr rfl) pe_str) (pss_cons (ps_set (i := 2) sc_law_word.nd rfl (Or.inl rfl) (pe_ix (ix_listK K) (pe_lst (pa_cons pe_int (pa_cons pe_int (pa_cons pe_int (pa_cons pe_int pa_nil))))) (pe_call G__law_take (by exact hr.mono (by decide)) rfl m__law_take k__law_take b__law_take .nil pass0 (pa_cons (pv 0) (pa_cons pe_int pa_nil))) (fun _ _ => rfl))) (pss_one (ps_ret (pe_join pe_str (pe_lc (own := [("_law_turn", 3)]) (g := gName 3) (by rfl) sc_law_word.nd (pi_range1 (by rfl) m_range (pa_cons (pv 2) pa_nil)) (blkOk_by (own := [("_law_turn", 3)]) (N := n_law_word) (sc := (defScope s_law_word)) (by decide +kernel)) (fun _ _ _ _ _ => (pg_name (i := 3) sc_law_word.nd rfl (Or.inl rfl))) (fun _ _ _ _ _ => by exact pts_nil) (fun _ _ _ _ _ => by exact (pe_ix ix_str (pv 1) (pe_call G__law_take (by exact hr.mono (by decide)) rfl m__law_take k__law_take b__law_take .nil pass0 (pa_cons (pv 0) (pa_cons pe_int pa_nil))) (fun _ _ => rfl))))))))), ?_⟩
    refine ⟨(by show 4 ≤ sizeLine; decide), fun L nL => ?_⟩
    have sL := Same.new (o := .lst [.int 1, .int 2, .int 3, .int 8]) nL
    refine ⟨_, rfl, q, 4, po, rfl, sL _ _ hq, hpo, by decide, by decide, fun v po1 v0 v1 hpo1 => ?_⟩
    obtain ⟨n, hn, n1, n8⟩ : ∃ n : Nat, atI [V.int 1, V.int 2, V.int 3, V.int 8] v = some (.int (n : Int)) ∧ 1 ≤ n ∧ n ≤ 8 := by
      obtain ⟨j, rfl⟩ := Int.eq_ofNat_of_zero_le v0
      have : j = 0 ∨ j = 1 ∨ j = 2 ∨ j = 3 := by omega
      rcases this with rfl | rfl | rfl | rfl
      · exact ⟨1, rfl, by decide, by decide⟩
      · exact ⟨2, rfl, by decide, by decide⟩
      · exact ⟨3, rfl, by decide, by decide⟩
      · exact ⟨8, rfl, by decide, by decide⟩
    have nLq : L ≠ q := (ne_of_none hq nL).symm
    refine ⟨L, _, v, .int n, rfl, rfl, SqL.of (Eq.trans (upd_ne nLq) upd_same), hn, ?_⟩
    have b1 : Same (upd H q po1) (upd (upd H L (.lst [.int 1, .int 2, .int 3, .int 8])) q po1) := fun b u hb => by
      by_cases h : b = q
      · subst h
        rw [upd_same] at hb
        rw [upd_same]
        exact hb
      · rw [upd_ne h] at hb
        rw [upd_ne h, upd_ne (ne_of_none hb nL)]
        exact hb
    refine ⟨⟨_, rfl⟩, _, rfl, _, rfl, by omega, by omega, fun D nD => lc_draw lettersL nD upd_same hpo1 (by omega) (fun _ => rfl) (fun x H' po2 hq2 hpo2 Q q2 => ?_) (fun H' po2 cs hcs hm hpo2 sH hD => ?_)⟩
    · refine ⟨_, rfl, _, rfl, q, 26, po2, rfl, hq2, hpo2, by decide, by decide, fun v po3 v0 v1 hpo3 => ?_⟩
      obtain ⟨j, rfl⟩ := Int.eq_ofNat_of_zero_le v0
      have hv : j < lettersL.length := by rw [letters_len]; omega
      refine ⟨_, (j : Int), lettersL[j], rfl, rfl, (by rw [letters_st, st_len, letters_len]; exact line200 (by decide)), atI_nat (j := j) ?_, q2 _ _ (List.getElem_mem hv) hpo3⟩
      rw [letters_st, st_codes]
      exact List.getElem?_eq_getElem hv
    · refine ⟨st [], D, cs.map (fun c => st [c]), rfl, rfl, .inl (SqL.of (by rw [hD, List.map_map]; rfl)), sizeJ cs (by omega), ?_⟩
      rw [join_st]
      have hn' : cs.length = n := by rw [hcs]; exact Int.toNat_natCast n
      refine k cs po2 H' (by omega) (by omega) hm hpo2 ?_
      have e : upd (upd (upd H L (.lst [.int 1, .int 2, .int 3, .int 8])) q po1) q po2 = upd (upd H L (.lst [.int 1, .int 2, .int 3, .int 8])) q po2 := upd_upd
      rw [e] at sH
      exact Same.trans (fun b u hb => by
        by_cases h : b = q
        · subst h
          rw [upd_same] at hb
          rw [upd_same]
          exact hb
        · rw [upd_ne h] at hb
          rw [upd_ne h, upd_ne (ne_of_none hb nL)]
          exact hb) sH
theorem sc_law_line : FnScope n_law_line p_law_line (defScope s_law_line) := ⟨rfl, rfl, rfl, by decide +kernel, rfl, by decide +kernel, by decide +kernel⟩
theorem ok_drawL (m_len : mg "len" = none) (m_range : mg "range" = none) (D__law_take : Df P w K mg base 1 "_law_take" p_law_take spTake) {f : Addr} {fd : FuncData} (F : FunD K "_law_line" "_law_line" (defArgs s_law_line) (defBody s_law_line) (defScope s_law_line) [] [] f fd) : FnOk P w K mg base CX0 2 f fd p_law_line spDrawL := by
  obtain ⟨f__law_take, fd__law_take, m__law_take, k__law_take, b__law_take, G__law_take⟩ := D__law_take
  refine F.ok sc_law_line (fun vs H Q E h => ?_) (fun cdv A outer s H vs Q E hr h => ?_)
  · obtain ⟨q, m, po, rfl, _⟩ := h
    rfl
  · obtain ⟨q, m, po, rfl, hq, hpo, m0, m1, k⟩ := h
    refine ⟨_, PSs.nox (pss_cons (ps_set (i := 2) sc_law_line.nd rfl (Or.inr rfl) pe_str) (pss_one (ps_ret (pe_join pe_str (pe_lc (own := [("_law_turn", 3)]) (g := gName 3) (by rfl) sc_law_line.nd (pi_range1 (by rfl) m_range (pa_cons (pv 1) pa_nil)) (blkOk_by (own := [("_law_turn", 3)]) (N := n_law_line) (sc := (defScope s_law_line)) (by decide +kernel)) (fun _ _ _ _ _ => (pg_name (i := 3) sc_law_line.nd rfl (Or.inl rfl))) (fun _ _ _ _ _ => by exact pts_nil) (fun _ _ _ _ _ => by exact (pe_ix ix_str (pv 2) (pe_call G__law_take (by exact hr.mono (by decide)) rfl m__law_take k__law_take b__law_take .nil pass0 (pa_cons (pv 0) (pa_cons (pe_callB call_len_str (by rfl) m_len PySem.boot_len (pa_cons (pv 2) pa_nil)) pa_nil))) (fun _ _ => rfl)))))))), ?_⟩
    have l30 : (" !\"#0123456789:;=?@AZ[]az{|}.," : Str).length = 30 := by rw [line_st, st_len, line_len]
    refine ⟨⟨_, rfl⟩, _, rfl, _, rfl, by omega, by omega, fun D nD => lc_draw lineL nD hq hpo (by omega) (fun _ => rfl) (fun x H' po2 hq2 hpo2 Q q2 => ?_) (fun H' po2 cs hcs hm hpo2 sH hD => ?_)⟩
    · refine ⟨_, rfl, _, rfl, _, rfl, _, rfl, (by rw [l30]; exact line200 (by decide)), q, _, po2, rfl, hq2, hpo2, ?_, ?_, fun v po3 v0 v1 hpo3 => ?_⟩
      · rw [l30]
        decide
      · rw [l30]
        decide
      rw [l30] at v1
      obtain ⟨j, rfl⟩ := Int.eq_ofNat_of_zero_le v0
      have hv : j < lineL.length := by rw [line_len]; omega
      refine ⟨_, (j : Int), lineL[j], rfl, rfl, (by rw [l30]; exact line200 (by decide)), atI_nat (j := j) ?_, q2 _ _ (List.getElem_mem hv) hpo3⟩
      rw [line_st, st_codes]
      exact List.getElem?_eq_getElem hv
    · refine ⟨st [], D, cs.map (fun c => st [c]), rfl, rfl, .inl (SqL.of (by rw [hD, List.map_map]; rfl)), sizeJ cs (by omega), ?_⟩
      rw [join_st]
      exact k cs po2 H' (by omega) hm hpo2 sH
end

/-! ### a call that may raise, within a body that takes it -/
section
variable {X : Cx} {k : Nat} {f : Addr} {fd : FuncData} {ps : List Str} {sp : Sp} {x : Str} {ds : List Value} {dvs : List V} {e : Expr} {es : List Expr} {t : TA} {p pos : Pos} {W : WX}
def tCallX (sp : Sp) (dvs : List V) (W : WX) (t : TA) : TE := fun σ H Q => t σ H fun vs H1 => sp (vs ++ dvs) H1 Q (fun cls d H2 => W cls d σ H2)
theorem pe_callX (F : FnOk X.prog X.w X.K X.mg X.base (L2.CX X.prog X.w) k f fd ps sp) (hr : Room k X.A) (hg : Gl X x) (hm : X.mg x = some (.ref f)) (hk : PySem.W.keepIn X.K (.ref f) = true) (hb : Binds X.K fd ps ds) (hd : Vals dvs ds) (tk : Takes X W)
    (ha : PA X (e :: es) t) (hdb : (x == ("__debug__" : Str)) = false := by decide) (he : starEach (e :: es) X.env = (false, eval e X.env) :: starEach es X.env := by rfl) (hpl : (backTo pos (starEach es X.env)).any (·.1) = false := by rfl) :
    PE X (.Call (.Name x p) (e :: es) [] pos) (tCallX sp dvs W t) := by
  refine ⟨fun pins s σ H Q I h => wpAny_Call_Name_kw (ld_glob I hg hm ?_ hdb)⟩
  refine PySem.W.callWith_K (h₀ := X.base) I.ok.mod.kin hk (thn (ha.run pos pins s σ H _ I h) fun us s1 ⟨vs, H1, I1, r, q⟩ => ⟨I1.kIn, ?_⟩) he hpl
  have r2 : Vals (vs ++ dvs) (us ++ ds) := r.append hd
  have hl : (us ++ ds).length = ps.length := by rw [← r2.length]; exact F.len _ _ _ _ q
  refine wpAny_call (codeAny_mono (F.run X.A X.stack s1 H1 ⟨us, []⟩ (us ++ ds) (vs ++ dvs) Q _ hr I1.env0 (hb s1 us I1.kIn hl) r2 q) fun r s' hq => ?_)
  cases r with
  | error e => exact tk e s' (XE.of_call I1 (fun cls d H' h => h) hq)
  | ok fl =>
    cases fl with
    | ret u => exact I1.after hq
    | _ => exact False.elim hq
end
section
variable {X : Cx} {CX : CXT} {k : Nat} {f : Addr} {fd : FuncData} {ps ks : List Str} {sp : Sp} {E : XK} {x : Str} {p pos : Pos} {kws : List Keyword} {tk : TA} {g : List Value → List Value → List Value} {gV : List V → List V → List V}
/-- f(k = v, ..) -/
theorem pe_callK0 (F : FnOk X.prog X.w X.K X.mg X.base CX k f fd ps sp) (hr : Room k X.A) (hg : Gl X x) (hm : X.mg x = some (.ref f)) (hk : PySem.W.keepIn X.K (.ref f) = true) (hb : KBn X.K fd ps 0 ks g gV) (hx : Passes CX X E) (hkw : PK X kws tk)
    (hall : (backToKw pos (keywordEach kws X.env)).all (·.1.isSome) = true := by rfl) (hks : (backToKw pos (keywordEach kws X.env)).filterMap (·.1) = ks := by rfl) (hdb : (x == ("__debug__" : Str)) = false := by decide)
    (hpl : ((backTo pos (starEach [] X.env)).any (·.1) || (backToKw pos (keywordEach kws X.env)).any (·.1.isNone)) = false := by rfl) :
    PE X (.Call (.Name x p) [] kws pos) (tCallN 0 ks.length sp gV E tNil tk) := by
  refine ⟨fun pins s σ H Q I h => wpAny_Call_Name_kw (ld_glob I hg hm ?_ hdb)⟩
  refine PySem.W.callWith_KW0 (h₀ := X.base) I.ok.mod.kin hk hall ?_ hpl
  refine thn (hkw.run pos pins s σ H _ I h) fun ws s2 ⟨zs, H2, I2, rz, l1, l2, q2⟩ => ⟨I2.kIn, ?_⟩
  rw [hks]
  exact run_fnN (us := []) (vs := []) F hr hb hx I2 .nil rz rfl l2 q2
end
/-- no defaults at all, some parameters given by names -/
theorem kbinds_none {K : PySem.W.Frag} {x qual : Str} {params : Arguments} {body : List Stmt} {scope : Scope} {kws : List (Str × V)} {f : Addr} {fd : FuncData} {ps : List Str} (F : FunD K x qual params body scope [] kws f fd) (n : Nat) (ks : List Str) (g : {α : Type} → List α → List α → List α)
    (hrel : ∀ {vs zs : List V} {us ws : List Value}, Vals vs us → Vals zs ws → Vals (g vs zs) (g us ws))
    (h : ∀ (kV doc pm : Value) (an : Option Addr) (cdv ct : Value) (us ws : List Value), us.length = n → ws.length = ks.length → bindArgs (PySem.W.fnOf x qual params body scope .none kV doc pm an cdv ct) ⟨us, ks.zip ws⟩ = pure (ps.zip (g us ws))) :
    KBn K fd ps n ks (fun us ws => g us ws) (fun vs zs => g vs zs) := by
  obtain ⟨oc, od, dV, kV, doc, pm, an, cdv, ct, osl, rfl, lk, hcd, hD, hK⟩ := F.ex
  rcases hD with ⟨_, rfl⟩ | ⟨e, _⟩
  · exact ⟨fun s us ws _ h1 h2 => .of_eq (h kV doc pm an cdv ct us ws h1 h2), hrel⟩
  · exact absurd rfl e

/-! ### the law's own parts -/
def spLSum : Sp := fun vs H Q _ => ∃ z : Str, vs = [.str z] ∧ z.cps.size ≤ 1000 ∧ (∀ c ∈ z.cps.toList, c < 1000) ∧ Q (.int (zSum z)) H
def spFrame (K : PySem.W.Frag) : Sp := fun vs H Q _ => ∃ (a : Addr) (x : Str) (n : Int) (z : Str), vs = [.ref a, .str z] ∧ SqT K H a [.str x, .int n] ∧ x.length ≤ 100 ∧ n.natAbs.log2 < 1920 ∧ z.cps.size ≤ 1000 ∧ (∀ c ∈ z.cps.toList, c < 1000) ∧ Q (.str (recText x n z)) H
def spRefused (K : PySem.W.Frag) : Sp := fun vs H Q _ => ∃ (v1 v2 : V) (d1 d2 : PyData), vs = [v1, v2] ∧ Dp K H v1 d1 ∧ Dp K H v2 d2 ∧ shortK d1 = true ∧ shortD d2 = true ∧ (dKey d1 && dText d2) = false ∧ ∀ H', Same H H' → Q (.bl true) H'
/-- what is said of the classes -/
structure RecC (K : PySem.W.Frag) (mg : Str → Option Value) (CL CN C1 C2 C3 : Addr) : Prop where
  mL : mg "LeaseError" = some (.ref CL)
  mN : mg "NoRecord" = some (.ref CN)
  m1 : mg "NoLetter" = some (.ref C1)
  m2 : mg "NoRow" = some (.ref C2)
  m3 : mg "NoSigns" = some (.ref C3)
  ex : PySem.W.exmOne K (.ref CN) (.ref CL) = some true
  ec : ExcC K CN
  kN : PySem.W.kitOne K (.ref CN) (.ref CN) = some true
  k1 : PySem.W.kitOne K (.ref CN) (.ref C1) = some false
  k2 : PySem.W.kitOne K (.ref CN) (.ref C2) = some false
  k3 : PySem.W.kitOne K (.ref CN) (.ref C3) = some false
section
variable {P : Program} {w : World} {K : PySem.W.Frag} {mg : Str → Option Value} {base : Heap}
theorem sc_law_sum : FnScope n_law_sum p_law_sum (defScope s_law_sum) := ⟨rfl, rfl, rfl, by decide +kernel, rfl, by decide +kernel, by decide +kernel⟩
theorem ok_lsum (m_len : mg "len" = none) (m_range : mg "range" = none) (m_ord : mg "ord" = none) {f : Addr} {fd : FuncData} (F : FunD K "_law_sum" "_law_sum" (defArgs s_law_sum) (defBody s_law_sum) (defScope s_law_sum) [] [] f fd) : FnOk P w K mg base CX0 1 f fd p_law_sum spLSum := by
  refine F.ok sc_law_sum (fun vs H Q E h => ?_) (fun cdv A outer s H vs Q E hr h => ?_)
  · obtain ⟨z, rfl, _⟩ := h
    rfl
  · obtain ⟨z, rfl, hz, hc, k⟩ := h
    refine ⟨_, PSs.nox (pss_cons (ps_set (i := 1) sc_law_sum.nd rfl (Or.inl rfl) pe_int) (pss_cons (ps_for PassesOwn.never rfl (pi_range1 (by rfl) m_range (pa_cons (pe_callB call_len_str (by rfl) m_len PySem.boot_len (pa_cons (pv 0) pa_nil)) pa_nil)) (pg_name (i := 2) sc_law_sum.nd rfl (Or.inl rfl)) (pss_one (ps_set (i := 1) sc_law_sum.nd rfl (Or.inl rfl) (pe_op op_modN (pe_op op_add (pv 1) (pe_op op_mul (pe_callB call_ord (by rfl) m_ord (by decide +kernel) (pa_cons (pe_ix ix_str (pv 0) (pv 2) (fun _ _ => rfl)) pa_nil)) (pe_op op_add (pv 2) pe_int))) pe_int)))) (pss_one (ps_ret (pv 1))))), ?_⟩
    have hzl : z.length = z.cps.size := rfl
    have hsz : z.cps.toList.length = z.cps.size := by simp
    refine ⟨_, rfl, z, rfl, line200 (by omega), _, rfl, by omega, by omega, for_range (lo := 0) (n := ((z.length : Nat) : Int).toNat) (fun i σ H' => H' = H ∧ ∃ v2, σ = [some (.str z), some (.int ((wsum 0 (z.cps.toList.take i)).fmod 9973)), v2]) ⟨rfl, none, rfl⟩ ?_ ?_⟩
    · rintro i σ H' hi ⟨rfl, v2, rfl⟩
      rw [Int.toNat_natCast] at hi
      have hi' : i < z.cps.toList.length := by omega
      have hg := List.getElem?_eq_getElem hi'
      have hc1 := hc _ (List.getElem_mem hi')
      refine ⟨_, rfl, _, rfl, _, rfl, _, (i : Int), z.cps.toList[i], rfl, (by rw [Int.zero_add]), line200 (by omega), atI_nat (j := i) hg, _, rfl, rfl, _, rfl, _, _, rfl, rfl, _, _, rfl, rfl, .inl ⟨?_, ?_⟩, _, _, rfl, rfl, _, _, rfl, rfl, (show (9973 : Int) ≠ 0 by decide), rfl, some (.int (0 + (i : Int))), congrArg (fun t : Int => [some (V.str z), some (V.int t), some (V.int (0 + (i : Int)))]) ?_⟩
      · show -(2 ^ 64) < ((z.cps.toList[i] : Nat) : Int)
        omega
      · show ((z.cps.toList[i] : Nat) : Int) < 2 ^ 64
        omega
      · rw [take_snoc _ hg, wsum_snoc, List.length_take]
        have e : min i z.cps.toList.length = i := by omega
        rw [e]
        show ((wsum 0 (z.cps.toList.take i)).fmod 9973 + ((z.cps.toList[i] : Nat) : Int) * (0 + (i : Int) + 1)).fmod 9973 = _
        rw [Int.fmod_eq_emod_of_nonneg _ (by decide), Int.fmod_eq_emod_of_nonneg _ (by decide), Int.fmod_eq_emod_of_nonneg _ (by decide), Int.emod_add_emod]
        congr 2
    · rintro σ H' ⟨rfl, v2, rfl⟩
      refine ⟨_, rfl, ?_⟩
      rw [Int.toNat_natCast, List.take_of_length_le (by omega)]
      exact k
theorem sc_law_frame : FnScope n_law_frame p_law_frame (defScope s_law_frame) := ⟨rfl, rfl, rfl, by decide +kernel, rfl, by decide +kernel, by decide +kernel⟩
theorem ok_frame (m_len : mg "len" = none) (m_str : mg "str" = none) (D__law_sum : Df P w K mg base 1 "_law_sum" p_law_sum spLSum) {f : Addr} {fd : FuncData} (F : FunD K "_law_frame" "_law_frame" (defArgs s_law_frame) (defBody s_law_frame) (defScope s_law_frame) [] [] f fd) : FnOk P w K mg base CX0 2 f fd p_law_frame (spFrame K) := by
  obtain ⟨f__law_sum, fd__law_sum, m__law_sum, k__law_sum, b__law_sum, G__law_sum⟩ := D__law_sum
  refine F.ok sc_law_frame (fun vs H Q E h => ?_) (fun cdv A outer s H vs Q E hr h => ?_)
  · obtain ⟨a, x, n, z, rfl, _⟩ := h
    rfl
  · obtain ⟨a, x, n, z, rfl, ha, hx, hn, hz, hc, k⟩ := h
    refine ⟨_, PSs.nox (pss_cons (ps_set (i := 2) sc_law_frame.nd rfl (Or.inl rfl) (pe_op op_add_str (pe_op op_add_str (pe_op op_add_str (pe_op op_add_str (pe_op op_add_str pe_str (pe_ix (ix_tupK K) (pv 0) pe_int (fun _ _ => rfl))) pe_str) (pe_callTy call_str_int (by rfl) m_str (by decide +kernel) (pa_cons (pe_ix (ix_tupK K) (pv 0) pe_int (fun _ _ => rfl)) pa_nil))) pe_str) (pe_callTy call_str_int (by rfl) m_str (by decide +kernel) (pa_cons (pe_callB call_len_str (by rfl) m_len PySem.boot_len (pa_cons (pv 1) pa_nil)) pa_nil)))) (pss_one (ps_ret (pe_op op_add_str (pe_op op_add_str (pe_op op_add_str (pe_op op_add_str (pe_op op_add_str (pv 2) pe_str) (pe_callTy call_str_int (by rfl) m_str (by decide +kernel) (pa_cons (pe_call G__law_sum (by exact hr.mono (by decide)) rfl m__law_sum k__law_sum b__law_sum .nil pass0 (pa_cons (pv 1) pa_nil)) pa_nil))) pe_str) (pv 1)) pe_str)))), ?_⟩
    have hzl : z.length = z.cps.size := rfl
    have kn2 := PyProof.Rows.int_text_len_1921 hn
    obtain ⟨g1, g2⟩ := small_int (i := (z.length : Int)) (by omega) (by omega)
    obtain ⟨g3, g4⟩ := small_int (sum_lt z).1 (by have := (sum_lt z).2; omega)
    have l1 : ("<" : Str).length = 1 := by decide +kernel
    have l2 : ("." : Str).length = 1 := by decide +kernel
    have l3 : (" " : Str).length = 1 := by decide +kernel
    have l4 : (">" : Str).length = 1 := by decide +kernel
    refine ⟨_, rfl, a, _, _, .str x, rfl, rfl, ha, rfl, _, _, rfl, rfl, line200 (by rw [l1]; omega), ?_⟩
    refine ⟨_, _, rfl, rfl, line200 (by rw [str_app, l1, l2]; omega), ?_⟩
    refine ⟨_, rfl, a, _, _, .int n, rfl, rfl, ha, rfl, _, rfl, hn, _, _, rfl, rfl, line200 (by rw [str_app, str_app, l1, l2]; omega), ?_⟩
    refine ⟨_, _, rfl, rfl, line200 (by rw [str_app, str_app, str_app, l1, l2, l3]; omega), ?_⟩
    refine ⟨_, rfl, z, rfl, line200 (by omega), _, rfl, g1, _, _, rfl, rfl, line200 (by rw [str_app, str_app, str_app, str_app, l1, l2, l3]; omega), ?_⟩
    refine ⟨_, rfl, _, _, rfl, rfl, line200 (by rw [str_app, str_app, str_app, str_app, str_app, l1, l2, l3]; omega), ?_⟩
    refine ⟨_, rfl, z, rfl, hz, hc, _, rfl, g3, _, _, rfl, rfl, line200 (by rw [str_app, str_app, str_app, str_app, str_app, str_app, l1, l2, l3]; omega), ?_⟩
    refine ⟨_, _, rfl, rfl, line200 (by rw [str_app, str_app, str_app, str_app, str_app, str_app, str_app, l1, l2, l3]; omega), ?_⟩
    refine ⟨_, rfl, _, _, rfl, rfl, line200 (by rw [str_app, str_app, str_app, str_app, str_app, str_app, str_app, str_app, l1, l2, l3]; omega), ?_⟩
    refine ⟨_, _, rfl, rfl, line200 (by rw [str_app, str_app, str_app, str_app, str_app, str_app, str_app, str_app, str_app, l1, l2, l3, l4]; omega), ?_⟩
    exact k
theorem sc_law_refused : FnScope n_law_refused p_law_refused (defScope s_law_refused) := ⟨rfl, rfl, rfl, by decide +kernel, rfl, by decide +kernel, by decide +kernel⟩
theorem ok_refused {CL CN C1 C2 C3 : Addr} (R : RecC K mg CL CN C1 C2 C3) (m_isinstance : mg "isinstance" = none) (D_record : Dfd P w K mg base (L2.CX P w) 4 "record" precord [] (spRecord K CN)) {f : Addr} {fd : FuncData} (F : FunD K "_law_refused" "_law_refused" (defArgs s_law_refused) (defBody s_law_refused) (defScope s_law_refused) [] [] f fd) : FnOk P w K mg base CX0 5 f fd p_law_refused (spRefused K) := by
  obtain ⟨f_record, fd_record, ds_record, m_record, k_record, v_record, b_record, G_record⟩ := D_record
  have m_LeaseError := R.mL
  refine F.ok sc_law_refused (fun vs H Q E h => ?_) (fun cdv A outer s H vs Q E hr h => ?_)
  · obtain ⟨v1, v2, d1, d2, rfl, _⟩ := h
    rfl
  · obtain ⟨v1, v2, d1, d2, rfl, hd1, hd2, hz1, hz2, hno, k⟩ := h
    refine ⟨_, PSs.nox (pss_cons (ps_set (i := 2) sc_law_refused.nd rfl (Or.inl rfl) pe_non) (pss_cons (ps_try_keep (i := 3) (c := .ref CL) rfl rfl rfl sc_law_refused.nd rfl rfl ⟨rfl, by decide, .inl m_LeaseError⟩ (fun W pn xe tk _ => pss_one (ps_expr (pe_callX G_record (by exact hr.mono (by decide)) rfl m_record k_record b_record v_record tk (pa_cons (pv 0) (pa_cons (pv 1) pa_nil))))) (fun a oe cls d pn _ _ => pss_one (ps_set (i := 2) sc_law_refused.nd rfl (Or.inl rfl) (pv 3)))) (pss_one (ps_ret (pe_and (pe_callB (call_isX K) (by rfl) m_isinstance (by decide +kernel) (pa_cons (pv 2) (pa_cons (pe_glob (v := .ref CN) rfl R.mN rfl) pa_nil))) (pe_one (pe_not (pe_callB (call_isXT K) (by rfl) m_isinstance (by decide +kernel) (pa_cons (pv 2) (pa_cons (pe_tup (pa_cons (pe_glob (v := .ref C1) rfl R.m1 rfl) (pa_cons (pe_glob (v := .ref C2) rfl R.m2 rfl) (pa_cons (pe_glob (v := .ref C3) rfl R.m3 rfl) pa_nil)))) pa_nil)))))))))), ?_⟩
    refine ⟨_, rfl, _, rfl, v1, v2, d1, d2, rfl, hd1, hd2, hz1, hz2, (fun x n z e1 e2 h1 h2 => by rw [h1, h2] at hno; cases hno), fun _ H1 s1 => ⟨R.ex, fun a na => ⟨_, rfl, ?_⟩⟩⟩
    have s2 := Same.new (o := kx a (.ref CN) none) na
    refine ⟨_, rfl, .inr ⟨a, CN, none, .ref CN, .ref CN, true, rfl, ⟨upd_same, .inl rfl⟩, R.ec, .own _, R.kN, true, rfl, iteT ?_⟩⟩
    refine ⟨_, rfl, (by show 3 ≤ sizeLine; decide), fun t nt => .inr ⟨a, CN, t, none, [.ref C1, .ref C2, .ref C3], [.ref C1, .ref C2, .ref C3], false, rfl, upd_same, ⟨(Same.new nt) _ _ upd_same, .inl rfl⟩, R.ec, .cons (.own _) (.cons (.own _) (.cons (.own _) .nil)), ?_, false, rfl, ?_⟩⟩
    · exact kitAny_cons R.k1 (fun _ => kitAny_cons R.k2 (fun _ => kitAny_cons R.k3 (fun _ => kitAny_nil) (fun z => by cases z)) (fun z => by cases z)) (fun z => by cases z)
    · exact k _ (s1.trans (s2.trans (Same.new nt)))
theorem dpall_get {K : PySem.W.Frag} {H : Hp} : ∀ {xs : List V} {ds : List PyData} {j : Nat} {v : V}, DpAll K H xs ds → xs[j]? = some v → ∃ d, ds[j]? = some d ∧ Dp K H v d
  | [], _, _, _, _, e => by simp at e
  | x :: xs, _, 0, v, h, e => by
    cases h with
    | cons h1 h2 =>
      have : x = v := by simpa using e
      subst this
      exact ⟨_, rfl, h1⟩
  | x :: xs, _, j + 1, v, h, e => by
    cases h with
    | cons h1 h2 => exact dpall_get (j := j) h2 (by simpa using e)
/-- one of a list of data by a drawn number -/
theorem dp_pick {K : PySem.W.Frag} {H : Hp} {xs : List V} {ds : List PyData} {i : Int} (h : DpAll K H xs ds) (p : PyData → Bool) (hp : ds.all p = true) (i0 : 0 ≤ i) (i1 : i < xs.length) : ∃ v d, atI xs i = some v ∧ p d = true ∧ ∀ H', DpAll K H' xs ds → Dp K H' v d := by
  obtain ⟨j, rfl⟩ := Int.eq_ofNat_of_zero_le i0
  have hj : j < xs.length := by omega
  obtain ⟨d, hd, hv⟩ := dpall_get h (List.getElem?_eq_getElem hj)
  refine ⟨xs[j], d, at_of rfl (List.getElem?_eq_getElem hj), List.all_eq_true.mp hp d (List.mem_of_getElem? hd), fun H' h' => ?_⟩
  obtain ⟨d', hd', hv'⟩ := dpall_get h' (List.getElem?_eq_getElem hj)
  rw [hd] at hd'
  cases hd'
  exact hv'
theorem Same.updBoth {H H' : Hp} {q : Addr} {o : HO} (s : Same H H') : Same (upd H q o) (upd H' q o) := fun b u e => by
  by_cases h : b = q
  · subst h
    rw [upd_same] at e
    rw [upd_same]
    exact e
  · rw [upd_ne h] at e
    rw [upd_ne h]
    exact s _ _ e
theorem word_ok {s : List Nat} (h1 : 1 ≤ s.length) (h2 : s.length ≤ 8) (h3 : ∀ c ∈ s, c ∈ lettersL) : zWord (st s) = true := by
  unfold zWord
  rw [st_len, decide_eq_true (by omega), decide_eq_true (by omega), st_codes]
  exact List.all_eq_true.mpr fun c hc => decide_eq_true (h3 c hc)
theorem line_ok {s : List Nat} (h2 : s.length ≤ 60) (h3 : ∀ c ∈ s, c ∈ lineL) : zText (st s) = true := by
  have h4 : ∀ c ∈ lineL, (sgOk c && (decide (c ≠ 60) && decide (c ≠ 62))) = true := by decide +kernel
  unfold zText zSigns
  rw [st_len, decide_eq_true (show (s.length : Int) ≤ 60 by omega), st_codes]
  have e1 : s.all sgOk = true := List.all_eq_true.mpr fun c hc => (Bool.and_eq_true_iff.mp (h4 c (h3 c hc))).1
  have e2 : decide (60 ∈ s) = false := decide_eq_false fun z => by
    have := h4 60 (h3 60 z)
    revert this
    decide +kernel
  have e3 : decide (62 ∈ s) = false := decide_eq_false fun z => by
    have := h4 62 (h3 62 z)
    revert this
    decide +kernel
  rw [e1, e2, e3]
  rfl
def spLaw (K : PySem.W.Frag) : Sp := fun vs H Q _ => ∃ (a : Addr) (ns : List Int), vs = [.ref a] ∧ SqL K H a (ns.map V.int) ∧ ns.length ≤ 63 ∧ ∀ H', Q (.bl true) H'
/-- a def called by names -/
def Dfn (P : Program) (w : World) (K : PySem.W.Frag) (mg : Str → Option Value) (base : Heap) (CX : CXT) (k : Nat) (x : Str) (ps : List Str) (n : Nat) (ks : List Str) (gV : List V → List V → List V) (sp : Sp) : Prop := ∃ (f : Addr) (fd : FuncData) (g : List Value → List Value → List Value), mg x = some (.ref f) ∧ PySem.W.keepIn K (.ref f) = true ∧ KBn K fd ps n ks g gV ∧ FnOk P w K mg base CX k f fd ps sp
theorem sclaw : FnScope nlaw plaw (defScope slaw) := ⟨rfl, rfl, rfl, by decide +kernel, rfl, by decide +kernel, by decide +kernel⟩
set_option maxHeartbeats 1000000 in
theorem ok_law {CN : Addr} (m_len : mg "len" = none) (m_range : mg "range" = none) (m_max : mg "max" = none) (m_min : mg "min" = none)
    (D__law_room : Df P w K mg base 1 "_law_room" p_law_room (spRoom K)) (D__law_take : Df P w K mg base 1 "_law_take" p_law_take spTake) (D__law_word : Df P w K mg base 2 "_law_word" p_law_word spDrawW) (D__law_line : Df P w K mg base 2 "_law_line" p_law_line spDrawL)
    (D__law_frame : Df P w K mg base 2 "_law_frame" p_law_frame (spFrame K)) (D__law_refused : Df P w K mg base 5 "_law_refused" p_law_refused (spRefused K))
    (D_record : Dfd P w K mg base (L2.CX P w) 4 "record" precord [] (spRecord K CN)) (D_recordN : Dfn P w K mg base (L2.CX P w) 4 "record" precord 0 ["text", "key"] (fun vs zs => vs ++ zs.reverse) (spRecord K CN))
    {f : Addr} {fd : FuncData} (F : FunD K "law" "law" (defArgs slaw) (defBody slaw) (defScope slaw) [] [] f fd) : FnOk P w K mg base CX0 6 f fd plaw (spLaw K) := by
  obtain ⟨f__law_room, fd__law_room, m__law_room, k__law_room, b__law_room, G__law_room⟩ := D__law_room
  obtain ⟨f__law_take, fd__law_take, m__law_take, k__law_take, b__law_take, G__law_take⟩ := D__law_take
  obtain ⟨f__law_word, fd__law_word, m__law_word, k__law_word, b__law_word, G__law_word⟩ := D__law_word
  obtain ⟨f__law_line, fd__law_line, m__law_line, k__law_line, b__law_line, G__law_line⟩ := D__law_line
  obtain ⟨f__law_frame, fd__law_frame, m__law_frame, k__law_frame, b__law_frame, G__law_frame⟩ := D__law_frame
  obtain ⟨f__law_refused, fd__law_refused, m__law_refused, k__law_refused, b__law_refused, G__law_refused⟩ := D__law_refused
  obtain ⟨f_record, fd_record, ds_record, m_record, k_record, v_record, b_record, G_record⟩ := D_record
  obtain rfl : ds_record = [] := by cases v_record; rfl
  obtain ⟨f_rn, fd_rn, g_rn, m_record_text_key, k_record_text_key, kb_record_text_key, G_record_text_key⟩ := D_recordN
  refine F.ok sclaw (fun vs H Q E h => ?_) (fun cdv A outer s H vs Q E hr h => ?_)
  · obtain ⟨a, ns, rfl, _⟩ := h
    rfl
  · obtain ⟨a, ns, rfl, hS, hlen, k⟩ := h
    refine ⟨_, PSs.nox (pss_cons (ps_for PassesOwn.never rfl (pi_range1 (by rfl) m_range (pa_cons (pe_callB (call_max2 rfl) (by rfl) m_max (by decide +kernel) (pa_cons pe_int (pa_cons (pe_callB (call_min2 rfl) (by rfl) m_min (by decide +kernel) (pa_cons (pe_callB (call_lenK K) (by rfl) m_len PySem.boot_len (pa_cons (pv 0) pa_nil)) (pa_cons pe_int pa_nil))) pa_nil))) pa_nil)) (pg_name (i := 1) sclaw.nd rfl (Or.inl rfl)) (pss_cons (ps_set (i := 2) sclaw.nd rfl (Or.inl rfl) (pe_call G__law_room (by exact hr.mono (by decide)) rfl m__law_room k__law_room b__law_room .nil pass0 (pa_cons (pv 0) (pa_cons (pv 1) pa_nil)))) (pss_cons (ps_set (i := 3) sclaw.nd rfl (Or.inl rfl) (pe_tup (pa_cons (pe_call G__law_word (by exact hr.mono (by decide)) rfl m__law_word k__law_word b__law_word .nil pass0 (pa_cons (pv 2) pa_nil)) (pa_cons (pe_ix (ix_listK K) (pe_lst (pa_cons pe_int (pa_cons pe_int (pa_cons pe_int (pa_cons (pe_op op_pow pe_int pe_int) pa_nil))))) (pe_call G__law_take (by exact hr.mono (by decide)) rfl m__law_take k__law_take b__law_take .nil pass0 (pa_cons (pv 2) (pa_cons pe_int pa_nil))) (fun _ _ => rfl)) pa_nil)))) (pss_cons (ps_set (i := 4) sclaw.nd rfl (Or.inl rfl) (pe_call G__law_line (by exact hr.mono (by decide)) rfl m__law_line k__law_line b__law_line .nil pass0 (pa_cons (pv 2) (pa_cons (pe_ix (ix_listK K) (pe_lst (pa_cons pe_int (pa_cons pe_int (pa_cons pe_int (pa_cons pe_int (pa_cons pe_int (pa_cons pe_int pa_nil))))))) (pe_call G__law_take (by exact hr.mono (by decide)) rfl m__law_take k__law_take b__law_take .nil pass0 (pa_cons (pv 2) (pa_cons pe_int pa_nil))) (fun _ _ => rfl)) pa_nil)))) (pss_cons (ps_set (i := 5) sclaw.nd rfl (Or.inl rfl) (pe_call G__law_frame (by exact hr.mono (by decide)) rfl m__law_frame k__law_frame b__law_frame .nil pass0 (pa_cons (pv 3) (pa_cons (pv 4) pa_nil)))) (pss_cons (ps_if (PW.pt (pw_or (pt_cmpR op_ne (pe_call G_record (by exact hr.mono (by decide)) rfl m_record k_record b_record .nil passL (pa_cons (pv 3) (pa_cons (pv 4) pa_nil))) (pv 5) (nomark _)) (pw_or1 (pt_cmpR op_ne (pe_callK0 G_record_text_key (by exact hr.mono (by decide)) rfl m_record_text_key k_record_text_key kb_record_text_key passL (pk_cons (pv 4) (pk_cons (pv 3) pk_nil))) (pv 5) (nomark _))))) (pss_one (ps_ret pe_bl)) pss_nil) (pss_cons (ps_set (i := 6) sclaw.nd rfl (Or.inl rfl) (pe_ix (ix_listK K) (pe_lst (pa_cons pe_non (pa_cons (pe_tup pa_nil) (pa_cons (pe_tup (pa_cons pe_str (pa_cons pe_int pa_nil))) (pa_cons (pe_tup (pa_cons pe_str (pa_cons pe_int pa_nil))) (pa_cons (pe_lst (pa_cons pe_str (pa_cons pe_int pa_nil))) (pa_cons (pe_tup (pa_cons pe_str (pa_cons pe_bl pa_nil))) (pa_cons pe_str (pa_cons (pe_tup (pa_cons pe_str (pa_cons pe_int (pa_cons pe_int pa_nil)))) pa_nil))))))))) (pe_call G__law_take (by exact hr.mono (by decide)) rfl m__law_take k__law_take b__law_take .nil pass0 (pa_cons (pv 2) (pa_cons pe_int pa_nil))) (fun _ _ => rfl))) (pss_cons (ps_set (i := 7) sclaw.nd rfl (Or.inl rfl) (pe_ix (ix_listK K) (pe_lst (pa_cons pe_non (pa_cons pe_int (pa_cons (pe_op op_mul_str pe_str pe_int) (pa_cons pe_str (pa_cons pe_str (pa_cons pe_str (pa_cons pe_str (pa_cons (pe_lst (pa_cons pe_str pa_nil)) (pa_cons (pe_tup (pa_cons pe_str pa_nil)) pa_nil)))))))))) (pe_call G__law_take (by exact hr.mono (by decide)) rfl m__law_take k__law_take b__law_take .nil pass0 (pa_cons (pv 2) (pa_cons pe_int pa_nil))) (fun _ _ => rfl))) (pss_one (ps_if (PW.pt (pw_or (pt_not (pt_val (pe_call G__law_refused (by exact hr.mono (by decide)) rfl m__law_refused k__law_refused b__law_refused .nil pass0 (pa_cons (pv 6) (pa_cons (pv 4) pa_nil))))) (pw_or (pt_not (pt_val (pe_call G__law_refused (by exact hr.mono (by decide)) rfl m__law_refused k__law_refused b__law_refused .nil pass0 (pa_cons (pv 3) (pa_cons (pv 7) pa_nil))))) (pw_or1 (pt_not (pt_val (pe_call G__law_refused (by exact hr.mono (by decide)) rfl m__law_refused k__law_refused b__law_refused .nil pass0 (pa_cons (pv 6) (pa_cons (pv 7) pa_nil))))))))) (pss_one (ps_ret pe_bl)) pss_nil)))))))))) (pss_one (ps_ret (pe_and (pe_cmpR op_eq (pe_call G_record (by exact hr.mono (by decide)) rfl m_record k_record b_record .nil passL (pa_cons (pe_tup (pa_cons pe_str (pa_cons pe_int pa_nil))) (pa_cons pe_str pa_nil))) pe_str (nomark _)) (pe_one (pe_cmpR op_eq (pe_call G_record (by exact hr.mono (by decide)) rfl m_record k_record b_record .nil passL (pa_cons (pe_tup (pa_cons pe_str (pa_cons pe_int pa_nil))) (pa_cons pe_str pa_nil))) pe_str (nomark _))))))), ?_⟩
    refine ⟨_, rfl, a, _, rfl, .inl hS, _, _, rfl, _, _, rfl, ?_⟩
    rw [List.length_map]
    generalize hn : (if (if (30 : Int) < (ns.length : Int) then (30 : Int) else (ns.length : Int)) > 1 then (if (30 : Int) < (ns.length : Int) then (30 : Int) else (ns.length : Int)) else 1) = n
    have hn1 : 1 ≤ n ∧ n ≤ 30 := by
      rw [← hn]
      split <;> split <;> omega
    refine ⟨n, rfl, by omega, by omega, for_range (lo := 0) (n := n.toNat) (fun i σ H' => ∃ v1 v2 v3 v4 v5 v6 v7 : Option V, σ = [some (.ref a), v1, v2, v3, v4, v5, v6, v7] ∧ Same H H') ⟨_, _, _, _, _, _, _, rfl, Same.refl H⟩ ?_ ?_⟩
    · rintro i σ H0 hi ⟨v1, v2, v3, v4, v5, v6, v7, rfl, s0⟩
      refine ⟨_, rfl, _, rfl, a, ns, _, rfl, s0.seq hS, hlen, by omega, by omega, fun q po nq hpo => ?_⟩
      have nq0 : H q = none := s0.free nq
      refine ⟨_, rfl, q, po, rfl, upd_same, hpo, fun sw po1 H1 w1 w8 wl hpo1 e1 => ?_⟩
      rw [upd_upd] at e1
      have hq1 := same_here e1
      have sH1 : Same H H1 := fun b u e => same_at e1 (s0 _ _ e) (ne_of_none e nq0)
      refine ⟨_, _, rfl, rfl, ⟨by decide, by decide, by decide⟩, (by show 4 ≤ sizeLine; decide), fun L1 n1 => ?_⟩
      refine ⟨_, rfl, q, 4, po1, rfl, (Same.new n1) _ _ hq1, hpo1, by decide, by decide, fun v po2 v0 v1 hpo2 => ?_⟩
      obtain ⟨nn, hnn, hlog, h1n⟩ : ∃ nn : Int, atI [V.int 1, .int 9, .int 10, .int (10 ^ (12 : Int).toNat)] v = some (.int nn) ∧ nn.natAbs.log2 < 1920 ∧ 1 ≤ nn := by
        obtain ⟨j, rfl⟩ := Int.eq_ofNat_of_zero_le v0
        have : j = 0 ∨ j = 1 ∨ j = 2 ∨ j = 3 := by omega
        rcases this with rfl | rfl | rfl | rfl
        · exact ⟨1, rfl, by decide, by decide⟩
        · exact ⟨9, rfl, by decide, by decide⟩
        · exact ⟨10, rfl, by decide, by decide⟩
        · exact ⟨10 ^ (12 : Int).toNat, rfl, log_lt (by decide) (by decide), by decide⟩
      have n1q : L1 ≠ q := (ne_of_none hq1 n1).symm
      refine ⟨L1, _, v, .int nn, rfl, rfl, SqL.of (Eq.trans (upd_ne n1q) upd_same), hnn, (by show 2 ≤ sizeLine; decide), fun T nT => ?_⟩
      have sH2 : Same H (upd (upd (upd H1 L1 (.lst [.int 1, .int 9, .int 10, .int (10 ^ (12 : Int).toNat)])) q po2) T (.tup [.str (st sw), .int nn])) := Same.mut (Same.mut (Same.mut sH1 (sH1.free n1)) nq0) ((Same.mut (Same.mut sH1 (sH1.free n1)) nq0).free nT)
      have hT2 : upd (upd (upd H1 L1 (.lst [.int 1, .int 9, .int 10, .int (10 ^ (12 : Int).toNat)])) q po2) T (.tup [.str (st sw), .int nn]) T = some (.tup [.str (st sw), .int nn]) := upd_same
      have hq2 : upd (upd (upd H1 L1 (.lst [.int 1, .int 9, .int 10, .int (10 ^ (12 : Int).toNat)])) q po2) T (.tup [.str (st sw), .int nn]) q = some po2 := (Same.new nT) _ _ upd_same
      show tSeq _ _ _ [some (.ref a), some (.int (0 + (i : Int))), some (.ref q), some (.ref T), v4, v5, v6, v7] _
      generalize upd (upd (upd H1 L1 (.lst [.int 1, .int 9, .int 10, .int (10 ^ (12 : Int).toNat)])) q po2) T (.tup [.str (st sw), .int nn]) = H2 at sH2 hT2 hq2 ⊢
      have hTq : T ≠ q := by
        obtain ⟨x, y, rfl⟩ := hpo2
        exact ne_of hT2 hq2 (by intro z; cases z)
      refine ⟨_, rfl, (by show 6 ≤ sizeLine; decide), fun L2 n2 => ?_⟩
      refine ⟨_, rfl, q, 6, po2, rfl, (Same.new n2) _ _ hq2, hpo2, by decide, by decide, fun v po3 v0 v1 hpo3 => ?_⟩
      obtain ⟨mm, hmm, m0, m60⟩ : ∃ mm : Int, atI [V.int 0, .int 1, .int 9, .int 10, .int 59, .int 60] v = some (.int mm) ∧ 0 ≤ mm ∧ mm ≤ 60 := by
        obtain ⟨j, rfl⟩ := Int.eq_ofNat_of_zero_le v0
        have : j = 0 ∨ j = 1 ∨ j = 2 ∨ j = 3 ∨ j = 4 ∨ j = 5 := by omega
        rcases this with rfl | rfl | rfl | rfl | rfl | rfl
        · exact ⟨0, rfl, by decide, by decide⟩
        · exact ⟨1, rfl, by decide, by decide⟩
        · exact ⟨9, rfl, by decide, by decide⟩
        · exact ⟨10, rfl, by decide, by decide⟩
        · exact ⟨59, rfl, by decide, by decide⟩
        · exact ⟨60, rfl, by decide, by decide⟩
      have n2q : L2 ≠ q := (ne_of_none hq2 n2).symm
      refine ⟨L2, _, v, .int mm, rfl, rfl, SqL.of (Eq.trans (upd_ne n2q) upd_same), hmm, ?_⟩
      refine ⟨q, mm, po3, rfl, upd_same, hpo3, m0, by omega, fun sl po4 H4 hl hm hpo4 e4 => ?_⟩
      rw [upd_upd] at e4
      have hq4 := same_here e4
      have hT4 : H4 T = some (.tup [.str (st sw), .int nn]) := same_at e4 ((Same.new n2) _ _ hT2) hTq
      have sH4 : Same H H4 := fun b u e => same_at e4 ((Same.new n2) _ _ (sH2 _ _ e)) (ne_of_none e nq0)
      have zs60 : (st sl).cps.size ≤ 60 := by
        have : (st sl).cps.size = sl.length := by rw [st_cps]; simp
        omega
      have hzT := line_ok (s := sl) (by omega) hm
      have hzW := word_ok w1 w8 wl
      have zc : ∀ c ∈ (st sl).cps.toList, c < 1000 := fun c hc => by have := (text_bnd hzT).2 c hc; omega
      have hxl : (st sw).length ≤ 8 := by rw [st_len]; exact w8
      refine ⟨_, rfl, _, rfl, T, st sw, nn, st sl, rfl, .inl (.inl hT4), by omega, hlog, by omega, zc, ?_⟩
      have dK : dKey (.tuple [.str (st sw), .int nn]) = true := by
        show (zWord (st sw) && decide (1 ≤ nn)) = true
        rw [hzW, decide_eq_true h1n]
        rfl
      have dT : dText (.str (st sl)) = true := hzT
      have kT : ∀ {H' : Hp}, H' T = some (.tup [.str (st sw), .int nn]) → Dp K H' (.ref T) (.tuple [.str (st sw), .int nn]) := fun h => .tup (.inl (.inl h)) (.cons (.str _) (.cons (.int _) .nil))
      have shW : shortK (.tuple [.str (st sw), .int nn]) = true := decide_eq_true (by omega)
      have shL : shortD (.str (st sl)) = true := decide_eq_true (by rw [st_len]; omega)
      refine ⟨_, rfl, _, rfl, .ref T, .str (st sl), _, _, rfl, kT hT4, .str _, shW, shL, (fun x n z e1 e2 _ _ => ?_), (fun hno => by rw [dK, dT] at hno; cases hno)⟩
      cases e1
      cases e2
      refine ⟨hlog, fun H5 s5 => ⟨_, rfl, rfl, false, ?_, iteF ?_⟩⟩
      · exact congrArg V.bl (by rw [decide_eq_true rfl]; rfl)
      refine ⟨_, rfl, _, rfl, rfl, rfl, .ref T, .str (st sl), _, _, rfl, kT (s5 _ _ hT4), .str _, shW, shL, (fun x n z e1 e2 _ _ => ?_), (fun hno => by rw [dK, dT] at hno; cases hno)⟩
      cases e1
      cases e2
      refine ⟨hlog, fun H6 s6 => ⟨_, rfl, rfl, false, ?_, iteF ?_⟩⟩
      · exact congrArg V.bl (by rw [decide_eq_true rfl]; rfl)
      have s46 := s5.trans s6
      have hq6 := s46 _ _ hq4
      have hT6 := s46 _ _ hT4
      have sH6 := sH4.trans s46
      refine ⟨Nat.zero_le _, fun t0 n0 => ⟨(by show 2 ≤ sizeLine; decide), fun t1 n1 => ⟨(by show 2 ≤ sizeLine; decide), fun t2 n2 => ⟨(by show 2 ≤ sizeLine; decide), fun t3 n3 => ⟨(by show 2 ≤ sizeLine; decide), fun t4 n4 => ⟨(by show 3 ≤ sizeLine; decide), fun t5 n5 => ⟨(by show 8 ≤ sizeLine; decide), fun L nL => ?_⟩⟩⟩⟩⟩⟩⟩
      have y0 := Same.new (o := .tup []) n0
      have y1 := Same.new (o := .tup [.str "a", .int 0]) n1
      have y2 := Same.new (o := .tup [.str "A", .int 1]) n2
      have y3 := Same.new (o := .lst [.str "a", .int 1]) n3
      have y4 := Same.new (o := .tup [.str "a", .bl true]) n4
      have y5 := Same.new (o := .tup [.str "a", .int 1, .int 2]) n5
      have y6 := Same.new (o := .lst [.non, .ref t0, .ref t1, .ref t2, .ref t3, .ref t4, .str "a.1", .ref t5]) nL
      have y06 := (y0.trans (y1.trans y2)).trans ((y3.trans y4).trans (y5.trans y6))
      have hqL := y06 _ _ hq6
      have ht0 := ((y1.trans y2).trans ((y3.trans y4).trans (y5.trans y6))) t0 _ upd_same
      have ht1 := (y2.trans ((y3.trans y4).trans (y5.trans y6))) t1 _ upd_same
      have ht2 := ((y3.trans y4).trans (y5.trans y6)) t2 _ upd_same
      have ht3 := (y4.trans (y5.trans y6)) t3 _ upd_same
      have ht4 := (y5.trans y6) t4 _ upd_same
      have ht5 := y6 t5 _ upd_same
      have nLq : L ≠ q := (ne_of_none ((y0.trans (y1.trans y2)).trans ((y3.trans y4).trans y5) _ _ hq6) nL).symm
      have n3q : t3 ≠ q := (ne_of_none ((y0.trans (y1.trans y2)) _ _ hq6) n3).symm
      refine ⟨_, rfl, q, 8, po4, rfl, hqL, hpo4, by decide, by decide, fun v po5 v0 v1 hpo5 => ?_⟩
      have tq : ∀ {t : Addr} {xs : List V} {Hx : Hp}, Hx q = some po4 → Hx t = some (.tup xs) → t ≠ q := fun hx ht => by
        obtain ⟨x, y, rfl⟩ := hpo4
        exact ne_of ht hx (by intro z; cases z)
      have hT7 : upd (upd (upd (upd (upd (upd (upd (upd H6 t0 (.tup [])) t1 (.tup [.str "a", .int 0])) t2 (.tup [.str "A", .int 1])) t3 (.lst [.str "a", .int 1])) t4 (.tup [.str "a", .bl true])) t5 (.tup [.str "a", .int 1, .int 2])) L (.lst [.non, .ref t0, .ref t1, .ref t2, .ref t3, .ref t4, .str "a.1", .ref t5])) q po5 T = some (.tup [.str (st sw), .int nn]) := by
        rw [upd_ne hTq]
        exact y06 _ _ hT6
      have hq7 : upd (upd (upd (upd (upd (upd (upd (upd H6 t0 (.tup [])) t1 (.tup [.str "a", .int 0])) t2 (.tup [.str "A", .int 1])) t3 (.lst [.str "a", .int 1])) t4 (.tup [.str "a", .bl true])) t5 (.tup [.str "a", .int 1, .int 2])) L (.lst [.non, .ref t0, .ref t1, .ref t2, .ref t3, .ref t4, .str "a.1", .ref t5])) q po5 q = some po5 := upd_same
      have sH7 : Same H (upd (upd (upd (upd (upd (upd (upd (upd H6 t0 (.tup [])) t1 (.tup [.str "a", .int 0])) t2 (.tup [.str "A", .int 1])) t3 (.lst [.str "a", .int 1])) t4 (.tup [.str "a", .bl true])) t5 (.tup [.str "a", .int 1, .int 2])) L (.lst [.non, .ref t0, .ref t1, .ref t2, .ref t3, .ref t4, .str "a.1", .ref t5])) q po5) := Same.mut (sH6.trans y06) nq0
      have hx7 : ∀ o : HO, DpAll K (upd (upd (upd (upd (upd (upd (upd (upd H6 t0 (.tup [])) t1 (.tup [.str "a", .int 0])) t2 (.tup [.str "A", .int 1])) t3 (.lst [.str "a", .int 1])) t4 (.tup [.str "a", .bl true])) t5 (.tup [.str "a", .int 1, .int 2])) L (.lst [.non, .ref t0, .ref t1, .ref t2, .ref t3, .ref t4, .str "a.1", .ref t5])) q o) [.non, .ref t0, .ref t1, .ref t2, .ref t3, .ref t4, .str "a.1", .ref t5]
          [.none, .tuple [], .tuple [.str "a", .int 0], .tuple [.str "A", .int 1], .list [.str "a", .int 1], .tuple [.str "a", .bool true], .str "a.1", .tuple [.str "a", .int 1, .int 2]] :=
        fun o => .cons .non (.cons (.tup (.inl (.inl (Eq.trans (upd_ne (tq hqL ht0)) ht0))) .nil) (.cons (.tup (.inl (.inl (Eq.trans (upd_ne (tq hqL ht1)) ht1))) (.cons (.str _) (.cons (.int _) .nil))) (.cons (.tup (.inl (.inl (Eq.trans (upd_ne (tq hqL ht2)) ht2))) (.cons (.str _) (.cons (.int _) .nil)))
          (.cons (.lst (SqL.of (Eq.trans (upd_ne n3q) ht3)) (.cons (.str _) (.cons (.int _) .nil))) (.cons (.tup (.inl (.inl (Eq.trans (upd_ne (tq hqL ht4)) ht4))) (.cons (.str _) (.cons (.bl _) .nil))) (.cons (.str _) (.cons (.tup (.inl (.inl (Eq.trans (upd_ne (tq hqL ht5)) ht5))) (.cons (.str _) (.cons (.int _) (.cons (.int _) .nil)))) .nil)))))))
      have hL7 : upd (upd (upd (upd (upd (upd (upd (upd H6 t0 (.tup [])) t1 (.tup [.str "a", .int 0])) t2 (.tup [.str "A", .int 1])) t3 (.lst [.str "a", .int 1])) t4 (.tup [.str "a", .bl true])) t5 (.tup [.str "a", .int 1, .int 2])) L (.lst [.non, .ref t0, .ref t1, .ref t2, .ref t3, .ref t4, .str "a.1", .ref t5])) q po5 L = some (.lst [.non, .ref t0, .ref t1, .ref t2, .ref t3, .ref t4, .str "a.1", .ref t5]) := Eq.trans (upd_ne nLq) upd_same
      obtain ⟨vo, do_, hvo, hpd, hdA⟩ := dp_pick (hx7 po5) (fun d => !dKey d && shortK d) (by decide +kernel) v0 v1
      refine ⟨L, _, v, vo, rfl, rfl, SqL.of hL7, hvo, ?_⟩
      show tSeq _ _ _ [some (.ref a), some (.int (0 + (i : Int))), some (.ref q), some (.ref T), some (.str (st sl)), some (.str (recText (st sw) nn (st sl))), some vo, v7] _
      have hdo : Dp K (upd (upd (upd (upd (upd (upd (upd (upd H6 t0 (.tup [])) t1 (.tup [.str "a", .int 0])) t2 (.tup [.str "A", .int 1])) t3 (.lst [.str "a", .int 1])) t4 (.tup [.str "a", .bl true])) t5 (.tup [.str "a", .int 1, .int 2])) L (.lst [.non, .ref t0, .ref t1, .ref t2, .ref t3, .ref t4, .str "a.1", .ref t5])) q po5) vo do_ := hdA _ (hx7 po5)
      have hdo2 : ∀ o : HO, Dp K (upd (upd (upd (upd (upd (upd (upd (upd (upd H6 t0 (.tup [])) t1 (.tup [.str "a", .int 0])) t2 (.tup [.str "A", .int 1])) t3 (.lst [.str "a", .int 1])) t4 (.tup [.str "a", .bl true])) t5 (.tup [.str "a", .int 1, .int 2])) L (.lst [.non, .ref t0, .ref t1, .ref t2, .ref t3, .ref t4, .str "a.1", .ref t5])) q po5) q o) vo do_ := fun o => by
        rw [upd_upd]
        exact hdA _ (hx7 o)
      clear hx7 hL7 ht0 ht1 ht2 ht3 ht4 ht5 hqL
      generalize upd (upd (upd (upd (upd (upd (upd (upd H6 t0 (.tup [])) t1 (.tup [.str "a", .int 0])) t2 (.tup [.str "A", .int 1])) t3 (.lst [.str "a", .int 1])) t4 (.tup [.str "a", .bl true])) t5 (.tup [.str "a", .int 1, .int 2])) L (.lst [.non, .ref t0, .ref t1, .ref t2, .ref t3, .ref t4, .str "a.1", .ref t5])) q po5 = H7 at hT7 hq7 sH7 hdo hdo2 ⊢
      obtain ⟨hpd1, hpd2⟩ := Bool.and_eq_true_iff.mp hpd
      have hpd1 : dKey do_ = false := by simpa using hpd1
      have hx1 : ("x" : Str) = st [120] := by decide +kernel
      refine ⟨st [120], (61 : Nat), by rw [hx1], rfl, mulOk_of (by decide) (by decide), ?_⟩
      rw [st_mul]
      refine ⟨(by show 1 ≤ sizeLine; decide), fun u0 m0 => ⟨(by show 1 ≤ sizeLine; decide), fun u1 m1 => ⟨(by show 9 ≤ sizeLine; decide), fun L3 nL3 => ?_⟩⟩⟩
      have y0 := Same.new (o := .lst [.str "x"]) m0
      have y1 := Same.new (o := .tup [.str "x"]) m1
      have y2 := Same.new (o := .lst [.non, .int 5, .str (st (List.replicate 61 [120]).flatten), .str "a<", .str ">", .str "~", .str "a\nb", .ref u0, .ref u1]) nL3
      have y02 := (y0.trans y1).trans y2
      have hqL := y02 _ _ hq7
      have hu0 := (y1.trans y2) u0 _ upd_same
      have hu1 := y2 u1 _ upd_same
      have u0q : u0 ≠ q := (ne_of_none hq7 m0).symm
      have u1q : u1 ≠ q := (ne_of_none (y0 _ _ hq7) m1).symm
      have nL3q : L3 ≠ q := (ne_of_none ((y0.trans y1) _ _ hq7) nL3).symm
      refine ⟨_, rfl, q, 9, po5, rfl, hqL, hpo5, by decide, by decide, fun v po6 v0 v1 hpo6 => ?_⟩
      have hx8 : DpAll K (upd (upd (upd (upd H7 u0 (.lst [.str "x"])) u1 (.tup [.str "x"])) L3 (.lst [.non, .int 5, .str (st (List.replicate 61 [120]).flatten), .str "a<", .str ">", .str "~", .str "a\nb", .ref u0, .ref u1])) q po6) [.non, .int 5, .str (st (List.replicate 61 [120]).flatten), .str "a<", .str ">", .str "~", .str "a\nb", .ref u0, .ref u1]
          [.none, .int 5, .str (st (List.replicate 61 [120]).flatten), .str "a<", .str ">", .str "~", .str "a\nb", .list [.str "x"], .tuple [.str "x"]] :=
        .cons .non (.cons (.int _) (.cons (.str _) (.cons (.str _) (.cons (.str _) (.cons (.str _) (.cons (.str _) (.cons (.lst (SqL.of (Eq.trans (upd_ne u0q) hu0)) (.cons (.str _) .nil)) (.cons (.tup (.inl (.inl (Eq.trans (upd_ne u1q) hu1))) (.cons (.str _) .nil)) .nil))))))))
      obtain ⟨vb, db, hvb, hpb, hbA⟩ := dp_pick hx8 (fun d => !dText d && shortD d) (by decide +kernel) v0 v1
      have hdb := hbA _ hx8
      refine ⟨L3, _, v, vb, rfl, rfl, SqL.of (Eq.trans (upd_ne nL3q) upd_same), hvb, ?_⟩
      have hdo8 : Dp K (upd (upd (upd (upd H7 u0 (.lst [.str "x"])) u1 (.tup [.str "x"])) L3 (.lst [.non, .int 5, .str (st (List.replicate 61 [120]).flatten), .str "a<", .str ">", .str "~", .str "a\nb", .ref u0, .ref u1])) q po6) vo do_ := Dp.same (hdo2 po6) (Same.updBoth y02)
      have hT8 : upd (upd (upd (upd H7 u0 (.lst [.str "x"])) u1 (.tup [.str "x"])) L3 (.lst [.non, .int 5, .str (st (List.replicate 61 [120]).flatten), .str "a<", .str ">", .str "~", .str "a\nb", .ref u0, .ref u1])) q po6 T = some (.tup [.str (st sw), .int nn]) := by
        rw [upd_ne hTq]
        exact y02 _ _ hT7
      have sH8 : Same H (upd (upd (upd (upd H7 u0 (.lst [.str "x"])) u1 (.tup [.str "x"])) L3 (.lst [.non, .int 5, .str (st (List.replicate 61 [120]).flatten), .str "a<", .str ">", .str "~", .str "a\nb", .ref u0, .ref u1])) q po6) := Same.mut (sH7.trans y02) nq0
      show tSeq _ _ _ [some (.ref a), some (.int (0 + (i : Int))), some (.ref q), some (.ref T), some (.str (st sl)), some (.str (recText (st sw) nn (st sl))), some vo, some vb] _
      clear hx8 hu0 hu1 hqL
      generalize upd (upd (upd (upd H7 u0 (.lst [.str "x"])) u1 (.tup [.str "x"])) L3 (.lst [.non, .int 5, .str (st (List.replicate 61 [120]).flatten), .str "a<", .str ">", .str "~", .str "a\nb", .ref u0, .ref u1])) q po6 = H8 at hdb hdo8 hT8 sH8 ⊢
      obtain ⟨hpb1, hpb2⟩ := Bool.and_eq_true_iff.mp hpb
      have hpb1 : dText db = false := by simpa using hpb1
      refine ⟨_, rfl, _, rfl, vo, .str (st sl), do_, _, rfl, hdo8, .str _, hpd2, shL, (by rw [hpd1]; rfl), fun H9 s9 => ⟨true, rfl, iteF ?_⟩⟩
      refine ⟨_, rfl, _, rfl, .ref T, vb, _, db, rfl, kT (s9 _ _ hT8), Dp.same hdb s9, shW, hpb2, (by rw [hpb1, Bool.and_false]), fun H10 s10 => ⟨true, rfl, iteF ?_⟩⟩
      refine ⟨_, rfl, _, rfl, vo, vb, do_, db, rfl, Dp.same hdo8 (s9.trans s10), Dp.same hdb (s9.trans s10), hpd2, hpb2, (by rw [hpb1, Bool.and_false]), fun H11 s11 => ⟨true, rfl, iteF ?_⟩⟩
      exact ⟨_, _, _, _, _, _, _, rfl, sH8.trans ((s9.trans s10).trans s11)⟩
    · rintro σ H0 ⟨v1, v2, v3, v4, v5, v6, v7, rfl, s0⟩
      have r1 : recText "a" 1 "" = "<a.1 0 0 >" := by decide +kernel
      have r2 : recText "ab" 12 "AB" = "<ab.12 2 197 AB>" := by decide +kernel
      refine ⟨(by show 2 ≤ sizeLine; decide), fun t nt => ?_⟩
      refine ⟨.ref t, .str "", .tuple [.str "a", .int 1], .str "", rfl, .tup (.inl (.inl upd_same)) (.cons (.str _) (.cons (.int _) .nil)), .str _, by decide +kernel, by decide +kernel, (fun x n z e1 e2 _ _ => ?_), (fun hno => Bool.noConfusion (hno.symm.trans (show (_ && _) = true by decide +kernel)))⟩
      cases e1
      cases e2
      refine ⟨by decide, fun H1 s1 => ⟨rfl, true, ?_, iteT ?_⟩⟩
      · exact congrArg V.bl (by rw [r1]; exact decide_eq_true rfl)
      refine ⟨(by show 2 ≤ sizeLine; decide), fun t nt => ?_⟩
      refine ⟨.ref t, .str "AB", .tuple [.str "ab", .int 12], .str "AB", rfl, .tup (.inl (.inl upd_same)) (.cons (.str _) (.cons (.int _) .nil)), .str _, by decide +kernel, by decide +kernel, (fun x n z e1 e2 _ _ => ?_), (fun hno => Bool.noConfusion (hno.symm.trans (show (_ && _) = true by decide +kernel)))⟩
      cases e1
      cases e2
      refine ⟨by decide, fun H1 s1 => ⟨rfl, ?_⟩⟩
      rw [r2, decide_eq_true rfl]
      exact k _
end

def dis_whole : He.DefD := ⟨("is_whole", none), "is_whole", "is_whole", defArgs sis_whole, defBody sis_whole, defScope sis_whole, [], []⟩
def dis_from : He.DefD := ⟨("is_from", none), "is_from", "is_from", defArgs sis_from, defBody sis_from, defScope sis_from, [.non], []⟩
def dis_word : He.DefD := ⟨("is_word", none), "is_word", "is_word", defArgs sis_word, defBody sis_word, defScope sis_word, [], []⟩
def dis_signs : He.DefD := ⟨("is_signs", none), "is_signs", "is_signs", defArgs sis_signs, defBody sis_signs, defScope sis_signs, [], []⟩
def dis_key : He.DefD := ⟨("is_key", none), "is_key", "is_key", defArgs sis_key, defBody sis_key, defScope sis_key, [], []⟩
def dis_text : He.DefD := ⟨("is_text", none), "is_text", "is_text", defArgs sis_text, defBody sis_text, defScope sis_text, [], []⟩
def dsum_of : He.DefD := ⟨("sum_of", none), "sum_of", "sum_of", defArgs ssum_of, defBody ssum_of, defScope ssum_of, [], []⟩
def drecord : He.DefD := ⟨("record", none), "record", "record", defArgs srecord, defBody srecord, defScope srecord, [], []⟩
def d_law_room : He.DefD := ⟨("_law_room", none), "_law_room", "_law_room", defArgs s_law_room, defBody s_law_room, defScope s_law_room, [], []⟩
def d_law_take : He.DefD := ⟨("_law_take", none), "_law_take", "_law_take", defArgs s_law_take, defBody s_law_take, defScope s_law_take, [], []⟩
def d_law_word : He.DefD := ⟨("_law_word", none), "_law_word", "_law_word", defArgs s_law_word, defBody s_law_word, defScope s_law_word, [], []⟩
def d_law_line : He.DefD := ⟨("_law_line", none), "_law_line", "_law_line", defArgs s_law_line, defBody s_law_line, defScope s_law_line, [], []⟩
def d_law_sum : He.DefD := ⟨("_law_sum", none), "_law_sum", "_law_sum", defArgs s_law_sum, defBody s_law_sum, defScope s_law_sum, [], []⟩
def d_law_frame : He.DefD := ⟨("_law_frame", none), "_law_frame", "_law_frame", defArgs s_law_frame, defBody s_law_frame, defScope s_law_frame, [], []⟩
def d_law_refused : He.DefD := ⟨("_law_refused", none), "_law_refused", "_law_refused", defArgs s_law_refused, defBody s_law_refused, defScope s_law_refused, [], []⟩
def dlaw : He.DefD := ⟨("law", none), "law", "law", defArgs slaw, defBody slaw, defScope slaw, [], []⟩
def fn : List He.DefD := [dis_whole, dis_from, dis_word, dis_signs, dis_key, dis_text, dsum_of, drecord, d_law_room, d_law_take, d_law_word, d_law_line, d_law_sum, d_law_frame, d_law_refused, dlaw]
def fa : List He.Fa := [.glo "is_whole", .glo "is_from", .glo "is_word", .glo "is_signs", .glo "is_key", .glo "is_text", .glo "sum_of", .glo "record", .glo "_law_room", .glo "_law_take", .glo "_law_word", .glo "_law_line", .glo "_law_sum", .glo "_law_frame", .glo "_law_refused", .glo "law", .glo "LeaseError", .glo "NoRecord", .glo "NoLetter", .glo "NoSigns", .glo "NoRow", .str "LETTERS" "abcdefghijklmnopqrstuvwxyz", .int "LONGEST" 8, .int "MOST_TEXT" 60, .int "ROUND" 9973, .free "ValueError", .free "all", .free "bool", .free "enumerate", .free "int", .free "isinstance", .free "len", .free "max", .free "min", .free "ord", .free "range", .free "str", .free "sum", .free "tuple", .exc "NoRecord", .exm "NoRecord" "LeaseError" true]
abbrev R : PySem.W.OpenRow := PySem.W.OpenLaw.row PySem.Challenge.rw_appendlease_k02_records_written
def bs : List (PySem.W.Frag → Bool) := [ecB "NoRecord", kitF "NoRecord" "NoRecord" true, kitF "NoRecord" "NoLetter" false, kitF "NoRecord" "NoRow" false, kitF "NoRecord" "NoSigns" false]
abbrev hk : PySem.W.Hook := hookB 6 fa fn bs
def ob (s : PySem.W.SharedT) : AlB := obsBG 6 fa fn bs (HandSHeadRun.getT s)
theorem ob_eq (s : PySem.W.SharedT) : ob s = hk.obs s.abs := obsBG_eq (HandSHeadRun.getT_eq s)
def loose0 : List Str := ["__name__", "LeaseError", "NoRecord", "NoLetter", "NoSigns", "NoRow", "LETTERS", "LONGEST", "is_whole", "is_from", "is_word", "is_signs", "is_key", "MOST_TEXT", "ROUND", "is_text", "sum_of", "record", "_law_room", "_law_take", "_law_word", "_law_line", "_law_sum", "_law_frame", "_law_refused"]
abbrev loose : List Str := loose0
abbrev qv : Program := PySem.W.view R.prog [28]
theorem run (w : World) : HandSHeadRun.RunEq R qv hk ob 6000 loose w := by
  intro os
  kernel_rfl
/-! ### what the top has left -/
theorem facts {P : Program} {w : World} {K : PySem.W.Frag} {h : Heap} {mg : Str → Option Value} {f : Addr} (X : K.In h) (G : h.Ns mainGlobals mg) (hfa : mg ("law" : Str) = some (.ref f)) (c0 : SaysB fa fn bs K) :
    ∃ fd : FuncData, (∀ (s : Shared) (v : Value), BindsTo s fd ⟨[v], []⟩ [("_law_script", v)]) ∧ ∀ base : Heap, K.In base → base.Ns mainGlobals mg → FnOk P w K mg base CX0 6 f fd ["_law_script"] (spLaw K) := by
  have c := c0.d
  have gl_is_whole := He.glo_ok X G (c.fact 0 (f := .glo "is_whole") rfl)
  have gl_is_from := He.glo_ok X G (c.fact 1 (f := .glo "is_from") rfl)
  have gl_is_word := He.glo_ok X G (c.fact 2 (f := .glo "is_word") rfl)
  have gl_is_signs := He.glo_ok X G (c.fact 3 (f := .glo "is_signs") rfl)
  have gl_is_key := He.glo_ok X G (c.fact 4 (f := .glo "is_key") rfl)
  have gl_is_text := He.glo_ok X G (c.fact 5 (f := .glo "is_text") rfl)
  have gl_sum_of := He.glo_ok X G (c.fact 6 (f := .glo "sum_of") rfl)
  have gl_record := He.glo_ok X G (c.fact 7 (f := .glo "record") rfl)
  have gl__law_room := He.glo_ok X G (c.fact 8 (f := .glo "_law_room") rfl)
  have gl__law_take := He.glo_ok X G (c.fact 9 (f := .glo "_law_take") rfl)
  have gl__law_word := He.glo_ok X G (c.fact 10 (f := .glo "_law_word") rfl)
  have gl__law_line := He.glo_ok X G (c.fact 11 (f := .glo "_law_line") rfl)
  have gl__law_sum := He.glo_ok X G (c.fact 12 (f := .glo "_law_sum") rfl)
  have gl__law_frame := He.glo_ok X G (c.fact 13 (f := .glo "_law_frame") rfl)
  have gl__law_refused := He.glo_ok X G (c.fact 14 (f := .glo "_law_refused") rfl)
  have gl_law := He.glo_ok X G (c.fact 15 (f := .glo "law") rfl)
  have gl_LeaseError := He.glo_ok X G (c.fact 16 (f := .glo "LeaseError") rfl)
  have gl_NoRecord := He.glo_ok X G (c.fact 17 (f := .glo "NoRecord") rfl)
  have gl_NoLetter := He.glo_ok X G (c.fact 18 (f := .glo "NoLetter") rfl)
  have gl_NoSigns := He.glo_ok X G (c.fact 19 (f := .glo "NoSigns") rfl)
  have gl_NoRow := He.glo_ok X G (c.fact 20 (f := .glo "NoRow") rfl)
  have i_LETTERS := He.str_ok X G (c.fact 21 (f := .str "LETTERS" "abcdefghijklmnopqrstuvwxyz") rfl)
  have i_LONGEST := He.int_ok X G (c.fact 22 (f := .int "LONGEST" 8) rfl)
  have i_MOST_TEXT := He.int_ok X G (c.fact 23 (f := .int "MOST_TEXT" 60) rfl)
  have i_ROUND := He.int_ok X G (c.fact 24 (f := .int "ROUND" 9973) rfl)
  have m_ValueError := He.free_ok X G (c.fact 25 (f := .free "ValueError") rfl)
  have m_all := He.free_ok X G (c.fact 26 (f := .free "all") rfl)
  have m_bool := He.free_ok X G (c.fact 27 (f := .free "bool") rfl)
  have m_enumerate := He.free_ok X G (c.fact 28 (f := .free "enumerate") rfl)
  have m_int := He.free_ok X G (c.fact 29 (f := .free "int") rfl)
  have m_isinstance := He.free_ok X G (c.fact 30 (f := .free "isinstance") rfl)
  have m_len := He.free_ok X G (c.fact 31 (f := .free "len") rfl)
  have m_max := He.free_ok X G (c.fact 32 (f := .free "max") rfl)
  have m_min := He.free_ok X G (c.fact 33 (f := .free "min") rfl)
  have m_ord := He.free_ok X G (c.fact 34 (f := .free "ord") rfl)
  have m_range := He.free_ok X G (c.fact 35 (f := .free "range") rfl)
  have m_str := He.free_ok X G (c.fact 36 (f := .free "str") rfl)
  have m_sum := He.free_ok X G (c.fact 37 (f := .free "sum") rfl)
  have m_tuple := He.free_ok X G (c.fact 38 (f := .free "tuple") rfl)
  have xc_NoRecord := He.exc_ok (c.fact 39 (f := .exc "NoRecord") rfl)
  have xm_NoRecord_LeaseError := He.exm_ok (c.fact 40 (f := .exm "NoRecord" "LeaseError" true) rfl)
  have ec_NoRecord := ecB_ok (c0.own 0 (b := ecB "NoRecord") rfl)
  have kit_NoRecord_NoRecord := kitF_ok (c0.own 1 (b := kitF "NoRecord" "NoRecord" true) rfl)
  have kit_NoRecord_NoLetter := kitF_ok (c0.own 2 (b := kitF "NoRecord" "NoLetter" false) rfl)
  have kit_NoRecord_NoRow := kitF_ok (c0.own 3 (b := kitF "NoRecord" "NoRow" false) rfl)
  have kit_NoRecord_NoSigns := kitF_ok (c0.own 4 (b := kitF "NoRecord" "NoSigns" false) rfl)
  obtain ⟨fd_is_whole, F_is_whole⟩ := c.def_ 0 (d := dis_whole) rfl
  obtain ⟨fd_is_from, F_is_from⟩ := c.def_ 1 (d := dis_from) rfl
  obtain ⟨fd_is_word, F_is_word⟩ := c.def_ 2 (d := dis_word) rfl
  obtain ⟨fd_is_signs, F_is_signs⟩ := c.def_ 3 (d := dis_signs) rfl
  obtain ⟨fd_is_key, F_is_key⟩ := c.def_ 4 (d := dis_key) rfl
  obtain ⟨fd_is_text, F_is_text⟩ := c.def_ 5 (d := dis_text) rfl
  obtain ⟨fd_sum_of, F_sum_of⟩ := c.def_ 6 (d := dsum_of) rfl
  obtain ⟨fd_record, F_record⟩ := c.def_ 7 (d := drecord) rfl
  obtain ⟨fd__law_room, F__law_room⟩ := c.def_ 8 (d := d_law_room) rfl
  obtain ⟨fd__law_take, F__law_take⟩ := c.def_ 9 (d := d_law_take) rfl
  obtain ⟨fd__law_word, F__law_word⟩ := c.def_ 10 (d := d_law_word) rfl
  obtain ⟨fd__law_line, F__law_line⟩ := c.def_ 11 (d := d_law_line) rfl
  obtain ⟨fd__law_sum, F__law_sum⟩ := c.def_ 12 (d := d_law_sum) rfl
  obtain ⟨fd__law_frame, F__law_frame⟩ := c.def_ 13 (d := d_law_frame) rfl
  obtain ⟨fd__law_refused, F__law_refused⟩ := c.def_ 14 (d := d_law_refused) rfl
  obtain ⟨fd_law, F_law⟩ := c.def_ 15 (d := dlaw) rfl
  have e := hfa.symm.trans gl_law
  cases e
  have b := FunD.bindsA (ps := ["_law_script"]) F_law fun _ _ _ _ _ _ us hl => match us, hl with | [_], _ => rfl
  refine ⟨fd_law, fun s v => b s [v] rfl, fun base _ _ => ?_⟩

  have D_is_whole : Df P w K mg base 1 "is_whole" pis_whole (spWhole K) := ⟨_, fd_is_whole, gl_is_whole, F_is_whole.kp, F_is_whole.bindsN fun _ _ _ _ _ _ us hl => match us, hl with | [_], _ => rfl, ok_wholeD m_isinstance m_int m_bool F_is_whole⟩
  have D_from : Dfd P w K mg base CX0 2 "is_from" pis_from [.non] (spFromN K) := by
    obtain ⟨ds, h1, h2⟩ := F_is_from.binds1 (ps := pis_from) 2 0 (List.cons_ne_nil _ _) rfl (fun _ _ _ _ _ _ _ us its h1 h2 => match us, its, h1, h2 with | [_, _], [_], _, _ => ⟨_, rfl, rfl⟩)
    exact ⟨_, _, ds, gl_is_from, F_is_from.kp, h1, h2, ok_fromN D_is_whole F_is_from⟩
  have D_is_word : Df P w K mg base 1 "is_word" pis_word (spWord K) := ⟨_, fd_is_word, gl_is_word, F_is_word.kp, F_is_word.bindsN fun _ _ _ _ _ _ us hl => match us, hl with | [_], _ => rfl, ok_word m_isinstance m_str m_len m_all i_LONGEST i_LETTERS F_is_word⟩
  have D_is_signs : Df P w K mg base 1 "is_signs" pis_signs (spSignsD K) := ⟨_, fd_is_signs, gl_is_signs, F_is_signs.kp, F_is_signs.bindsN fun _ _ _ _ _ _ us hl => match us, hl with | [_], _ => rfl, ok_signsD m_isinstance m_str m_all F_is_signs⟩
  have D_is_key : Df P w K mg base 3 "is_key" pis_key (spKey K) := ⟨_, fd_is_key, gl_is_key, F_is_key.kp, F_is_key.bindsN fun _ _ _ _ _ _ us hl => match us, hl with | [_], _ => rfl, ok_key m_isinstance m_tuple m_len D_is_word D_from F_is_key⟩
  have D_is_text : Df P w K mg base 2 "is_text" pis_text (spTextD K) := ⟨_, fd_is_text, gl_is_text, F_is_text.kp, F_is_text.bindsN fun _ _ _ _ _ _ us hl => match us, hl with | [_], _ => rfl, ok_text m_len i_MOST_TEXT D_is_signs F_is_text⟩
  have D_sum_of : Df P w K mg base 1 "sum_of" psum_of (spSumOf) := ⟨_, fd_sum_of, gl_sum_of, F_sum_of.kp, F_sum_of.bindsN fun _ _ _ _ _ _ us hl => match us, hl with | [_], _ => rfl, ok_sum_of m_sum m_enumerate m_ord i_ROUND F_sum_of⟩
  have G_record : FnOk P w K mg base (L2.CX P w) 4 _ fd_record precord (spRecord K (He.ga K "NoRecord")) := ok_record m_len gl_NoRecord xc_NoRecord D_is_key D_is_text D_sum_of F_record
  have D_record : Dfd P w K mg base (L2.CX P w) 4 "record" precord [] (spRecord K (He.ga K "NoRecord")) := ⟨_, fd_record, [], gl_record, F_record.kp, .nil, F_record.bindsN fun _ _ _ _ _ _ us hl => match us, hl with | [_, _], _ => rfl, G_record⟩
  have D_recordN : Dfn P w K mg base (L2.CX P w) 4 "record" precord 0 ["text", "key"] (fun vs zs => vs ++ zs.reverse) (spRecord K (He.ga K "NoRecord")) := by
    have kb := kbinds_none (ps := precord) F_record 0 ["text", "key"] (fun us ws => us ++ ws.reverse) (fun r1 r3 => r1.append (vals_reverse r3)) (fun _ _ _ _ _ _ us ws h1 h3 => match us, ws, h1, h3 with | [], [_, _], _, _ => rfl)
    exact ⟨_, fd_record, _, gl_record, F_record.kp, kb, G_record⟩
  have R : RecC K mg (He.ga K "LeaseError") (He.ga K "NoRecord") (He.ga K "NoLetter") (He.ga K "NoRow") (He.ga K "NoSigns") := ⟨gl_LeaseError, gl_NoRecord, gl_NoLetter, gl_NoRow, gl_NoSigns, xm_NoRecord_LeaseError, ec_NoRecord.1, kit_NoRecord_NoRecord, kit_NoRecord_NoLetter, kit_NoRecord_NoRow, kit_NoRecord_NoSigns⟩
  have D__law_room : Df P w K mg base 1 "_law_room" p_law_room (spRoom K) := ⟨_, fd__law_room, gl__law_room, F__law_room.kp, F__law_room.bindsN fun _ _ _ _ _ _ us hl => match us, hl with | [_, _], _ => rfl, ok_room m_len F__law_room⟩
  have D__law_take : Df P w K mg base 1 "_law_take" p_law_take (spTake) := ⟨_, fd__law_take, gl__law_take, F__law_take.kp, F__law_take.bindsN fun _ _ _ _ _ _ us hl => match us, hl with | [_, _], _ => rfl, ok_take F__law_take⟩
  have D__law_word : Df P w K mg base 2 "_law_word" p_law_word (spDrawW) := ⟨_, fd__law_word, gl__law_word, F__law_word.kp, F__law_word.bindsN fun _ _ _ _ _ _ us hl => match us, hl with | [_], _ => rfl, ok_drawW m_range D__law_take F__law_word⟩
  have D__law_line : Df P w K mg base 2 "_law_line" p_law_line (spDrawL) := ⟨_, fd__law_line, gl__law_line, F__law_line.kp, F__law_line.bindsN fun _ _ _ _ _ _ us hl => match us, hl with | [_, _], _ => rfl, ok_drawL m_len m_range D__law_take F__law_line⟩
  have D__law_sum : Df P w K mg base 1 "_law_sum" p_law_sum (spLSum) := ⟨_, fd__law_sum, gl__law_sum, F__law_sum.kp, F__law_sum.bindsN fun _ _ _ _ _ _ us hl => match us, hl with | [_], _ => rfl, ok_lsum m_len m_range m_ord F__law_sum⟩
  have D__law_frame : Df P w K mg base 2 "_law_frame" p_law_frame (spFrame K) := ⟨_, fd__law_frame, gl__law_frame, F__law_frame.kp, F__law_frame.bindsN fun _ _ _ _ _ _ us hl => match us, hl with | [_, _], _ => rfl, ok_frame m_len m_str D__law_sum F__law_frame⟩
  have D__law_refused : Df P w K mg base 5 "_law_refused" p_law_refused (spRefused K) := ⟨_, fd__law_refused, gl__law_refused, F__law_refused.kp, F__law_refused.bindsN fun _ _ _ _ _ _ us hl => match us, hl with | [_, _], _ => rfl, ok_refused R m_isinstance D_record F__law_refused⟩
  exact ok_law m_len m_range m_max m_min D__law_room D__law_take D__law_word D__law_line D__law_frame D__law_refused D_record D_recordN F_law
end My

open PySem PySem.W PySem.Calls PyProof.Rows
set_option maxRecDepth 100000 in
set_option maxHeartbeats 0 in
theorem PySem.Challenge.cw_appendlease_k02_records_written_holds : PySem.Challenge.rw_appendlease_k02_records_written.Holds := by
  w_on; o_law
  refine HandSHeadRun.head_any (r := OpenLaw.row PySem.Challenge.rw_appendlease_k02_records_written) (q := My.qv) (H := My.hk) (ob := My.ob) (M := 6000) (loose := My.loose) (d := HandSHeadRun.topDef (OpenLaw.row PySem.Challenge.rw_appendlease_k02_records_written).prog 28) (kwd := []) My.ob_eq
    (by kernel_rfl) (fun s => by kernel_rfl) My.run (by kernel_rfl) (by kernel_rfl) (by kernel_rfl) (by rfl) (by first | assumption | decide +kernel) (by decide +kernel) ⟨rfl, rfl, rfl, rfl, rfl, by decide +kernel⟩ ?hw ?hc
  case hw => w_witness2
  case hc =>
    refine L2.walk_ofE (l := PySem.Challenge.rw_appendlease_k02_records_written) (n := 63) (k := 6) (x := "_law_script") (CX := L2.CX0) rfl (by decide) (by kernel_rfl) ⟨rfl, by decide, by decide⟩ ?F (fun _ _ _ _ z => z)
    intro w mg fa h Y G hmg0
    obtain ⟨K, KX, c⟩ := Y
    have hmg : mg ("law" : PySem.Str) = some (.ref fa) := by
      have e : (HandSHeadRun.topDef (OpenLaw.row PySem.Challenge.rw_appendlease_k02_records_written).prog 28).name = ("law" : PySem.Str) := by kernel_rfl
      rw [← e]
      exact hmg0
    obtain ⟨fd, hb, hF⟩ := My.facts (P := (PySem.Challenge.rw_appendlease_k02_records_written).prog) (w := w) KX G hmg c
    exact ⟨K, fd, My.spLaw K, KX, hb, fun H a ns hl _ hS => ⟨a, ns, rfl, hS, hl, fun _ => rfl⟩, hF⟩

#print axioms PySem.Challenge.cw_appendlease_k02_records_written_holds
