import PyProof.Rows.All
import Wide.All
import OpenK.AllK
import Wide.FinOn
import KE.KStateDown
import HandS.ForMost
import HandS.More
import HandS.Exc
import HandS.TryOnly
import HandS.ExcOwn
import HandS.WordsExc
import HandS.Defaults
import HandS.MakeKwOnly
import HandS.IsInst
import HandS.Flow
import HandS.Evl
import HandS.Walk
import HandS.Wide
import HandS.Head0
import HandS.Head1
import HandS.Head2
import HandS.HeadEnd
import HandS.HeadHook1
import HandS.HeadHook2
import PyProof.NeKinds
import HandS.NoneIn
import HandS.FStr
import PyProof.StrBlock2
import PyProof.Draws
import PyProof.EnumMake
import PySem.Challenge.RW_appendlease_k09_pieces_put
set_option Elab.async false
set_option linter.all false
set_option maxRecDepth 100000
set_option maxHeartbeats 4000000
namespace My
open PySem PySem.Spec PyProof.Rows L2
def top (i : Nat) : Stmt := PySem.Challenge.pw_appendlease_k09_pieces_put.main.body.getD i (.Pass ⟨0, 0, 0, 0⟩)
abbrev s_wall : Stmt := top 0
abbrev sNoNumber___init__ : Stmt := inClass (top 3) 0
abbrev sNoPlace___init__ : Stmt := inClass (top 4) 0
abbrev sis_whole : Stmt := top 7
abbrev sis_from : Stmt := top 8
abbrev sPiece___init__ : Stmt := inClass (top 13) 0
abbrev sPiece_put : Stmt := inClass (top 13) 1
abbrev sPiece_signs : Stmt := inClass (top 13) 2
abbrev sPiece_marks : Stmt := inClass (top 13) 3
abbrev sPiece_size : Stmt := inClass (top 13) 4
abbrev sPiece_twin : Stmt := inClass (top 13) 5
abbrev sPiece___len__ : Stmt := inClass (top 13) 6
abbrev sPiece___eq__ : Stmt := inClass (top 13) 7
abbrev sPiece___repr__ : Stmt := inClass (top 13) 8
abbrev s_law_pool : Stmt := top 15
abbrev s_law_take : Stmt := top 16
abbrev s_law_one : Stmt := top 17
abbrev s_law_signs : Stmt := top 18
abbrev s_law_key : Stmt := top 19
abbrev s_law_laid : Stmt := top 20
abbrev s_law_piece_so : Stmt := top 21
abbrev s_law_put_some : Stmt := top 22
abbrev slaw : Stmt := top 23
abbrev n_wall : List Str := ["k"]
abbrev p_wall : List Str := ["k"]
abbrev nNoNumber___init__ : List Str := ["self", "name", "number"]
abbrev pNoNumber___init__ : List Str := ["self", "name", "number"]
abbrev nNoPlace___init__ : List Str := ["self", "place"]
abbrev pNoPlace___init__ : List Str := ["self", "place"]
abbrev nis_whole : List Str := ["thing"]
abbrev pis_whole : List Str := ["thing"]
abbrev nis_from : List Str := ["thing", "least", "most"]
abbrev pis_from : List Str := ["thing", "least", "most"]
abbrev nPiece___init__ : List Str := ["self", "size"]
abbrev pPiece___init__ : List Str := ["self", "size"]
abbrev nPiece_put : List Str := ["self", "place", "signs", "mark", "lack", "end", "text", "marks"]
abbrev pPiece_put : List Str := ["self", "place", "signs", "mark"]
abbrev nPiece_signs : List Str := ["self"]
abbrev pPiece_signs : List Str := ["self"]
abbrev nPiece_marks : List Str := ["self"]
abbrev pPiece_marks : List Str := ["self"]
abbrev nPiece_size : List Str := ["self"]
abbrev pPiece_size : List Str := ["self"]
abbrev nPiece_twin : List Str := ["self"]
abbrev pPiece_twin : List Str := ["self"]
abbrev nPiece___len__ : List Str := ["self"]
abbrev pPiece___len__ : List Str := ["self"]
abbrev nPiece___eq__ : List Str := ["self", "other"]
abbrev pPiece___eq__ : List Str := ["self", "other"]
abbrev nPiece___repr__ : List Str := ["self"]
abbrev pPiece___repr__ : List Str := ["self"]
abbrev n_law_pool : List Str := ["_law_script", "_law_k", "_law_cell", "_law_great", "_law_mixed"]
abbrev p_law_pool : List Str := ["_law_script", "_law_k"]
abbrev n_law_take : List Str := ["_law_pool_here", "_law_most", "_law_found"]
abbrev p_law_take : List Str := ["_law_pool_here", "_law_most"]
abbrev n_law_one : List Str := ["_law_pool_here", "_law_some"]
abbrev p_law_one : List Str := ["_law_pool_here", "_law_some"]
abbrev n_law_signs : List Str := ["_law_pool_here", "_law_most", "_law_menu", "_law_turn"]
abbrev p_law_signs : List Str := ["_law_pool_here", "_law_most"]
abbrev n_law_key : List Str := ["_law_pool_here"]
abbrev p_law_key : List Str := ["_law_pool_here"]
abbrev n_law_laid : List Str := ["_law_own", "_law_spot", "_law_signs_here", "_law_who", "_law_row", "_law_at", "_law_sign"]
abbrev p_law_laid : List Str := ["_law_own", "_law_spot", "_law_signs_here", "_law_who"]
abbrev n_law_piece_so : List Str := ["_law_piece", "_law_own", "_law_turn", "_law_found", "_law_sign", "_law_who"]
abbrev p_law_piece_so : List Str := ["_law_piece", "_law_own"]
abbrev n_law_put_some : List Str := ["_law_pool_here", "_law_piece", "_law_own", "_law_signs_here", "_law_who", "_law_ends", "_law_spot"]
abbrev p_law_put_some : List Str := ["_law_pool_here", "_law_piece", "_law_own"]
abbrev nlaw : List Str := ["_law_script", "_law_piece", "_law_own", "_law_k", "_law_pool_here", "_law_turn"]
abbrev plaw : List Str := ["_law_script"]
def d_wall : He.DefD := ⟨("_wall", none), "_wall", "_wall", defArgs s_wall, defBody s_wall, defScope s_wall, [], []⟩
def dNoNumber___init__ : He.DefD := ⟨("NoNumber", some "__init__"), "__init__", "NoNumber.__init__", defArgs sNoNumber___init__, defBody sNoNumber___init__, defScope sNoNumber___init__, [], []⟩
def dNoPlace___init__ : He.DefD := ⟨("NoPlace", some "__init__"), "__init__", "NoPlace.__init__", defArgs sNoPlace___init__, defBody sNoPlace___init__, defScope sNoPlace___init__, [], []⟩
def dis_whole : He.DefD := ⟨("is_whole", none), "is_whole", "is_whole", defArgs sis_whole, defBody sis_whole, defScope sis_whole, [], []⟩
def dis_from : He.DefD := ⟨("is_from", none), "is_from", "is_from", defArgs sis_from, defBody sis_from, defScope sis_from, [.non], []⟩
def dPiece___init__ : He.DefD := ⟨("Piece", some "__init__"), "__init__", "Piece.__init__", defArgs sPiece___init__, defBody sPiece___init__, defScope sPiece___init__, [(.int 60)], []⟩
def dPiece_put : He.DefD := ⟨("Piece", some "put"), "put", "Piece.put", defArgs sPiece_put, defBody sPiece_put, defScope sPiece_put, [], [("mark", .non)]⟩
def dPiece_signs : He.DefD := ⟨("Piece", some "signs"), "signs", "Piece.signs", defArgs sPiece_signs, defBody sPiece_signs, defScope sPiece_signs, [], []⟩
def dPiece_marks : He.DefD := ⟨("Piece", some "marks"), "marks", "Piece.marks", defArgs sPiece_marks, defBody sPiece_marks, defScope sPiece_marks, [], []⟩
def dPiece_size : He.DefD := ⟨("Piece", some "size"), "size", "Piece.size", defArgs sPiece_size, defBody sPiece_size, defScope sPiece_size, [], []⟩
def dPiece_twin : He.DefD := ⟨("Piece", some "twin"), "twin", "Piece.twin", defArgs sPiece_twin, defBody sPiece_twin, defScope sPiece_twin, [], []⟩
def dPiece___len__ : He.DefD := ⟨("Piece", some "__len__"), "__len__", "Piece.__len__", defArgs sPiece___len__, defBody sPiece___len__, defScope sPiece___len__, [], []⟩
def dPiece___eq__ : He.DefD := ⟨("Piece", some "__eq__"), "__eq__", "Piece.__eq__", defArgs sPiece___eq__, defBody sPiece___eq__, defScope sPiece___eq__, [], []⟩
def dPiece___repr__ : He.DefD := ⟨("Piece", some "__repr__"), "__repr__", "Piece.__repr__", defArgs sPiece___repr__, defBody sPiece___repr__, defScope sPiece___repr__, [], []⟩
def d_law_pool : He.DefD := ⟨("_law_pool", none), "_law_pool", "_law_pool", defArgs s_law_pool, defBody s_law_pool, defScope s_law_pool, [], []⟩
def d_law_take : He.DefD := ⟨("_law_take", none), "_law_take", "_law_take", defArgs s_law_take, defBody s_law_take, defScope s_law_take, [], []⟩
def d_law_one : He.DefD := ⟨("_law_one", none), "_law_one", "_law_one", defArgs s_law_one, defBody s_law_one, defScope s_law_one, [], []⟩
def d_law_signs : He.DefD := ⟨("_law_signs", none), "_law_signs", "_law_signs", defArgs s_law_signs, defBody s_law_signs, defScope s_law_signs, [], []⟩
def d_law_key : He.DefD := ⟨("_law_key", none), "_law_key", "_law_key", defArgs s_law_key, defBody s_law_key, defScope s_law_key, [], []⟩
def d_law_laid : He.DefD := ⟨("_law_laid", none), "_law_laid", "_law_laid", defArgs s_law_laid, defBody s_law_laid, defScope s_law_laid, [], []⟩
def d_law_piece_so : He.DefD := ⟨("_law_piece_so", none), "_law_piece_so", "_law_piece_so", defArgs s_law_piece_so, defBody s_law_piece_so, defScope s_law_piece_so, [], []⟩
def d_law_put_some : He.DefD := ⟨("_law_put_some", none), "_law_put_some", "_law_put_some", defArgs s_law_put_some, defBody s_law_put_some, defScope s_law_put_some, [], []⟩
def dlaw : He.DefD := ⟨("law", none), "law", "law", defArgs slaw, defBody slaw, defScope slaw, [], []⟩
def fn : List He.DefD := [d_wall, dNoNumber___init__, dNoPlace___init__, dis_whole, dis_from, dPiece___init__, dPiece_put, dPiece_signs, dPiece_marks, dPiece_size, dPiece_twin, dPiece___len__, dPiece___eq__, dPiece___repr__, d_law_pool, d_law_take, d_law_one, d_law_signs, d_law_key, d_law_laid, d_law_piece_so, d_law_put_some, dlaw]
def fa : List He.Fa := [.glo "_wall", .glo "is_whole", .glo "is_from", .glo "_law_pool", .glo "_law_take", .glo "_law_one", .glo "_law_signs", .glo "_law_key", .glo "_law_laid", .glo "_law_piece_so", .glo "_law_put_some", .glo "law", .glo "LeaseError", .glo "NoNumber", .glo "NoPlace", .glo "Piece", .cls "Piece", .mkr "Piece", .meth "Piece" "put", .meth "Piece" "signs", .meth "Piece" "marks", .meth "Piece" "size", .meth "Piece" "twin", .meth "Piece" "__len__", .meth "Piece" "__eq__", .meth "Piece" "__repr__", .noat "Piece" "own_marks", .noat "Piece" "own_signs", .noat "Piece" "own_size", .str "FILLER" "~", .int "SIZE" 60, .int "LEAST_SIZE" 24, .int "MOST_SIZE" 200, .free "ValueError", .free "bool", .free "enumerate", .free "int", .free "isinstance", .free "len", .free "list", .free "max", .free "min", .free "range", .free "repr", .free "str"]
abbrev R : PySem.W.OpenRow := PySem.W.OpenLaw.row PySem.Challenge.rw_appendlease_k09_pieces_put
abbrev hk : PySem.W.Hook := He.hookD 6 fa fn
def ob (s : PySem.W.SharedT) : He.AlD := He.obsDG 6 fa fn (HandSHeadRun.getT s)
theorem ob_eq (s : PySem.W.SharedT) : ob s = hk.obs s.abs := He.obsDG_eq (HandSHeadRun.getT_eq s)
def loose0 : List Str := ["_wall", "__name__", "LeaseError", "NoNumber", "NoPlace", "FILLER", "is_whole", "is_from", "SIZE", "LEAST_SIZE", "MOST_SIZE", "Piece", "_law_pool", "_law_take", "_law_one", "_law_signs", "_law_key", "_law_laid", "_law_piece_so", "_law_put_some"]
abbrev loose : List Str := loose0
abbrev qv : Program := PySem.W.view R.prog [23]
theorem run (w : World) : HandSHeadRun.RunEq R qv hk ob 6000 loose w := by
  intro os
  kernel_rfl
/-! ### common words over the hand layer -/
section
variable {X : Cx}
/-- == and != of a list (whatever its items are) and an empty one -/
def rEqLen (K : PySem.W.Frag) : R2 := fun x y H Q => ∃ a b xs, x = .ref a ∧ y = .ref b ∧ SqL K H a xs ∧ SqL K H b [] ∧ Q (.bl xs.isEmpty) H
def rNeLen (K : PySem.W.Frag) : R2 := fun x y H Q => ∃ a b xs, x = .ref a ∧ y = .ref b ∧ SqL K H a xs ∧ SqL K H b [] ∧ Q (.bl (!xs.isEmpty)) H
theorem isl_of {h : Heap} {a : Addr} {its : Array Value} (p : PlainL h a its) : h.IsList a its := by
  obtain ⟨o, n, e, c, _, d⟩ := p
  exact ⟨o, e, c, n, d⟩
theorem op_eqLen (hu : X.A.units + 1 < cLine) : OpR X (compareOp .Eq) (rEqLen X.K) := by
  intro pins s σ H x y v u Q I rx ry h
  obtain ⟨a, b, xs, rfl, rfl, h1, h2, q⟩ := h
  cases rx
  cases ry
  obtain ⟨i1, r1, p1, _⟩ := I.list h1
  obtain ⟨i2, r2, p2, _⟩ := I.list h2
  have hu' : X.A.units < cLine := by omega
  cases r2
  cases xs with
  | nil =>
    cases r1
    refine SeqAt.eq_listAt (e := fun _ => true) (isl_of p1) (isl_of p2) rfl hu' (fun j h1 => absurd h1 (by simp)) ?_
    exact ⟨.bl true, H, I, rfl, q⟩
  | cons z zs =>
    cases r1 with
    | cons r t =>
      refine SeqAt.eq_list_lengthsAt (isl_of p1) (isl_of p2) (by simp) hu' ?_
      exact ⟨.bl false, H, I, rfl, q⟩
theorem op_neLen (hu : X.A.units + 1 < cLine) : OpR X (compareOp .NotEq) (rNeLen X.K) := by
  intro pins s σ H x y v u Q I rx ry h
  obtain ⟨a, b, xs, rfl, rfl, h1, h2, q⟩ := h
  cases rx
  cases ry
  obtain ⟨i1, r1, p1, _⟩ := I.list h1
  obtain ⟨i2, r2, p2, _⟩ := I.list h2
  have hu' : X.A.units < cLine := by omega
  cases r2
  cases xs with
  | nil =>
    cases r1
    refine SeqAt.RcNeAt.lists (e := fun _ => true) (isl_of p1) (isl_of p2) rfl hu' (fun j h1 => absurd h1 (by simp)) _ _ _ _ ?_
    exact ⟨.bl false, H, I, rfl, q⟩
  | cons z zs =>
    cases r1 with
    | cons r t =>
      refine SeqAt.RcNeAt.lists_lengths (isl_of p1) (isl_of p2) (by simp) hu' _ _ _ _ ?_
      exact ⟨.bl true, H, I, rfl, q⟩
end
section
variable {X : Cx}
def tfS (b : Bool) : Str := if b then "True" else "False"
theorem call_reprB : CallR X (.builtin "repr") (fun xs H Q => ∃ b, xs = [.bl b] ∧ Q (.str (tfS b)) H) := by
  intro pins s σ H xs us Q I r h
  obtain ⟨b, rfl, q⟩ := h
  obtain ⟨u, rfl, ru⟩ := vals1 r
  cases (show u = Value.bool b from ru)
  exact PySem.P.repr_of_bool ⟨.str _, H, I.tok _, ⟨_, rfl⟩, q⟩
end
/-! ### rules whose readings name the written part by a letter: they may stand within comprehensions -/
section
variable {X : Cx} (K : PySem.W.Frag)
theorem pi_listK {tg l : Expr} {tl : TE} (hl : PE X l tl) (hK : X.K = K := by rfl) : PI X tg l (iList K tl) := hK ▸ pi_list hl
theorem pi_tupK {tg l : Expr} {tl : TE} (hl : PE X l tl) (hK : X.K = K := by rfl) : PI X tg l (iTup K tl) := hK ▸ pi_tup hl
theorem pe_fldK {e : Expr} {f : Str} {pos : Pos} {ta : TE} (he : PE X e ta) (hb : attributeBase e f X.env (eval e X.env) = eval e X.env) (hK : X.K = K := by rfl) : PE X (.Attribute e f pos) (tFld K ta f) := hK ▸ pe_fld he hb
theorem pg_tupK {es : List Expr} {k : Nat} {t : TGs} {n : Nat} {pos : Pos} (hc : X.calm = true) (h : PGs X es t) (hn : (assignEach es X.env).length = n := by rfl) (hst : (assignEach es X.env).findIdx? (·.1) = none := by rfl) (hK : X.K = K := by rfl) : PG X (.Tuple es k pos) (gTup K n t) := hK ▸ pg_tup hc h hn hst
theorem ix_listK (hK : X.K = K := by rfl) : IxR X (rIxL K) := hK ▸ ix_list
theorem ix_tupK (hK : X.K = K := by rfl) : IxR X (rIxT K) := hK ▸ ix_tup
theorem sl_listK (hK : X.K = K := by rfl) : SlR X (rSlL K) := hK ▸ sl_list
theorem op_eqDK (hu : X.A.units + 64 < cLine) (hK : X.K = K := by rfl) : OpR X (compareOp .Eq) (rEqD K) := hK ▸ op_eqD hu
theorem op_neDK (hu : X.A.units + 64 < cLine) (hK : X.K = K := by rfl) : OpR X (compareOp .NotEq) (rNeD K) := hK ▸ op_neD hu
theorem op_eqLenK (hu : X.A.units + 1 < cLine) (hK : X.K = K := by rfl) : OpR X (compareOp .Eq) (rEqLen K) := hK ▸ op_eqLen hu
theorem op_neLenK (hu : X.A.units + 1 < cLine) (hK : X.K = K := by rfl) : OpR X (compareOp .NotEq) (rNeLen K) := hK ▸ op_neLen hu
theorem call_lenK (hK : X.K = K := by rfl) : CallR X (.builtin "len") (fun xs H Q => ∃ p ys, xs = [.ref p] ∧ (SqL K H p ys ∨ SqT K H p ys) ∧ Q (.int ys.length) H) := hK ▸ call_len_seq
theorem call_listK (hK : X.K = K := by rfl) : CallR X (.type "list") (fun xs H Q => ∃ p ys, xs = [.ref p] ∧ (SqL K H p ys ∨ SqT K H p ys) ∧ ∀ l, H l = none → Q (.ref l) (upd H l (.lst ys))) := hK ▸ call_list_of
theorem call_isiK' (hK : X.K = K := by rfl) : CallR X (.builtin "isinstance") (rIsi K) := hK ▸ call_isi
end
section
variable (P : Program) (w : World) (K : PySem.W.Frag) (mg : Str → Option Value) (base : Heap)
/-- a def of the module keeps a promise -/
def Df (k : Nat) (x : Str) (ps : List Str) (sp : Sp) : Prop := ∃ (f : Addr) (fd : FuncData), mg x = some (.ref f) ∧ PySem.W.keepIn K (.ref f) = true ∧ Binds K fd ps [] ∧ FnOk P w K mg base CX0 k f fd ps sp
/-- a method of the class at C keeps a promise -/
def Dm (C : Addr) (k : Nat) (m : Str) (ps : List Str) (sp : Sp) : Prop := ∃ (f : Addr) (fd : FuncData), Meth K C m f ∧ Binds K fd ps [] ∧ FnOk P w K mg base CX0 k f fd ps sp
end
/-! ### heaps -/
theorem Same.new {H : Hp} {p : Addr} {o : HO} (h : H p = none) : Same H (upd H p o) := fun b u e => by
  rw [upd_ne (ne_of_none e h)]
  exact e
/-- what H does not track may change -/
theorem Same.mut {H H' : Hp} {p : Addr} {o : HO} (e : Same H H') (h : H p = none) : Same H (upd H' p o) := fun b u hb => by
  rw [upd_ne (ne_of_none hb h)]
  exact e b u hb
/-- what stands beside what is changed -/
theorem same_at {H H' : Hp} {p b : Addr} {o u : HO} (s : Same (upd H p o) H') (e : H b = some u) (ne : b ≠ p) : H' b = some u := s b u (by rw [upd_ne ne]; exact e)
theorem same_here {H H' : Hp} {p : Addr} {o : HO} (s : Same (upd H p o) H') : H' p = some o := s p o upd_same
theorem same_upd2 {H H' : Hp} {p : Addr} {o u : HO} (s : Same (upd H p o) H') : Same (upd H p u) (upd H' p u) := fun b v e => by
  by_cases hb : b = p
  · subst hb
    rw [upd_same] at e ⊢
    exact e
  · rw [upd_ne hb] at e ⊢
    exact s b v (by rw [upd_ne hb]; exact e)
theorem same_sql {K : PySem.W.Frag} {H H' : Hp} {a : Addr} {xs : List V} (e : Same H H') (h : SqL K H a xs) : SqL K H' a xs := e.seq h
/-- [g x for x in xs if f x]: tests and elements may lay new things, and change none -/
theorem lc_mapf {K : PySem.W.Frag} {a : Addr} {xs : List V} {j : Nat} {tt : TT} {te : TE} {vs : List Nat} {σ : L2.St} {H1 : Hp} {D : Addr} {Qd : Hp → Prop} (f : V → Bool) (g : V → V) (hx : SqL K H1 a xs) (hD : H1 D = none) (hz : xs.length ≤ 100000)
    (hw : ∀ x, wipe ((wipe σ vs).set j (some x)) vs = wipe σ vs)
    (ht : ∀ x H', x ∈ xs → Same H1 H' → ∀ Q : Bool → Hp → Prop, (∀ H'', Same H' H'' → Q (f x) H'') → tt ((wipe σ vs).set j (some x)) H' Q)
    (he : ∀ x H', x ∈ xs → f x = true → Same H1 H' → ∀ Q : VK, (∀ H'', Same H' H'' → Q (g x) H'') → te ((wipe σ vs).set j (some x)) H' Q)
    (hd : ∀ H', Same H1 H' → H' D = some (.lst ((xs.filter f).map g)) → Qd H') :
    ∃ W : Nat → Nat → Hp → Prop, (∃ m, W 0 m (upd H1 D (.lst []))) ∧ ∀ i m H, W i m H →
      ((Itl K a).stop i H ∧ Qd H) ∨ ((Itl K a).go i H ∧ ∃ Nx : Hp → Prop, (∀ H', Nx H' → ∃ m', m' < m ∧ W (i + 1) m' H') ∧ ∀ x H', (Itl K a).yld i H x H' → gName j x (wipe σ vs) H' fun σ2 H2 => wipe σ2 vs = wipe σ vs ∧ tt σ2 H2 fun b H3 =>
        if b = true then te σ2 H3 fun y H4 => ∃ acc, H4 D = some (.lst acc) ∧ acc.length < sizeLine ∧ Nx (upd H4 D (.lst (acc ++ [y]))) else Nx H3) := by
  have tk : ∀ (i : Nat) (x : V), xs[i]? = some x → xs.take (i + 1) = xs.take i ++ [x] := fun i x h => by
    rw [List.take_add_one, h]
    rfl
  refine lc_list (xs := xs) (fun i H' => Same H1 H' ∧ H' D = some (.lst (((xs.take i).filter f).map g))) ⟨Same.new hD, upd_same⟩ (fun i H' _ p => p.1.seq hx) (fun i x H' hi p => ?_) (fun H' p => ?_)
  · obtain ⟨p1, p2⟩ := p
    have hm : x ∈ xs := List.mem_of_getElem? hi
    have hlen : i < xs.length := (List.getElem?_eq_some_iff.mp hi).1
    refine ⟨hw x, ht x H' hm p1 _ fun H3 s3 => ?_⟩
    cases hf : f x with
    | true =>
      show te _ H3 _
      refine he x H3 hm hf (p1.trans s3) _ fun H4 s4 => ⟨_, s4 _ _ (s3 _ _ p2), ?_, Same.mut ((p1.trans s3).trans s4) hD, ?_⟩
      · have h1 := List.length_filter_le f (xs.take i)
        rw [List.length_take] at h1
        rw [List.length_map]
        exact Nat.lt_of_le_of_lt (show _ ≤ 100000 by omega) (by decide)
      · rw [upd_same, tk i x hi, List.filter_append, List.map_append, List.filter_cons, if_pos hf]
        rfl
    | false =>
      refine ⟨p1.trans s3, ?_⟩
      rw [s3 _ _ p2, tk i x hi, List.filter_append, List.map_append, List.filter_cons, if_neg (by rw [hf]; decide)]
      simp
  · obtain ⟨p1, p2⟩ := p
    rw [List.take_length] at p2
    exact hd H' p1 p2
theorem rv_neLen {K : PySem.W.Frag} {H : Hp} {a p : Addr} {xs : List V} (h : SqL K H a xs) (hp : H p = some (.lst [])) : Evl.RV (rNeLen K) (.ref a) (.ref p) H (.bl (!xs.isEmpty)) := fun H1 e _ q => ⟨a, p, xs, rfl, rfl, Evl.ex_l e h, SqL.of (e _ _ hp), q H1 (Evl.Ex.refl H1)⟩
theorem rv_eqLen {K : PySem.W.Frag} {H : Hp} {a p : Addr} {xs : List V} (h : SqL K H a xs) (hp : H p = some (.lst [])) : Evl.RV (rEqLen K) (.ref a) (.ref p) H (.bl xs.isEmpty) := fun H1 e _ q => ⟨a, p, xs, rfl, rfl, Evl.ex_l e h, SqL.of (e _ _ hp), q H1 (Evl.Ex.refl H1)⟩
/-- x != [], x == [] -/
theorem et_neNil {K : PySem.W.Frag} {σ : L2.St} {H : Hp} {ta : TE} {a : Addr} {xs : List V} (ha : Evl.Ev ta σ H (.ref a)) (h : SqL K H a xs) : Evl.EvT (tTest (tOp (rNeLen K) ta (tLst tNil))) σ H (!xs.isEmpty) :=
  Evl.et_test (Evl.ev_opL ha (Evl.el_lst Evl.ea_nil (by show 0 ≤ 100000; decide)) fun _ _ hp e => rv_neLen (Evl.ex_l e h) hp)
section
variable (P : Program) (w : World) (K : PySem.W.Frag) (mg : Str → Option Value) (base : Heap)
/-- the class x at C is made by keywords ks: __init__ keeps a promise -/
def Dk (C : Addr) (k : Nat) (x : Str) (ps : List Str) (n : Nat) (ks : List Str) (gV : List V → List V → List V) (sp : Sp) : Prop := ∃ (f : Addr) (fd : FuncData) (g : List Value → List Value → List Value), Mk K C f ∧ mg x = some (.ref C) ∧ KBn K fd ps n ks g gV ∧ FnOk P w K mg base CX0 k f fd ps sp
end
theorem binds_nil {K : PySem.W.Frag} {fd : FuncData} {ps : List Str} (h : ∃ ds, Vals [] ds ∧ Binds K fd ps ds) : Binds K fd ps [] := by
  obtain ⟨ds, h1, h2⟩ := h
  cases h1
  exact h2
section
variable (P : Program) (w : World) (K : PySem.W.Frag) (mg : Str → Option Value) (base : Heap)
/-- a method, a class, called while defaults dvs fill up -/
def Dmd (C : Addr) (k : Nat) (m : Str) (ps : List Str) (dvs : List V) (sp : Sp) : Prop := ∃ (f : Addr) (fd : FuncData) (ds : List Value), Meth K C m f ∧ Vals dvs ds ∧ Binds K fd ps ds ∧ FnOk P w K mg base CX0 k f fd ps sp
def Dkd (C : Addr) (k : Nat) (x : Str) (ps : List Str) (dvs : List V) (sp : Sp) : Prop := ∃ (f : Addr) (fd : FuncData) (ds : List Value), Mk K C f ∧ mg x = some (.ref C) ∧ Vals dvs ds ∧ Binds K fd ps ds ∧ FnOk P w K mg base CX0 k f fd ps sp
end
theorem vals_reverse : ∀ {xs : List V} {us : List Value}, Vals xs us → Vals xs.reverse us.reverse
  | _, _, .nil => .nil
  | _, _, .cons r t => by
    rw [List.reverse_cons, List.reverse_cons]
    exact (vals_reverse t).append (.cons r .nil)

/-! ### more rules: o.m(e, k = v), text * n, enumerate(text) -/
section
variable {X : Cx} {CX : CXT} {k n : Nat} {f C : Addr} {fd : FuncData} {ps ks : List Str} {sp : Sp} {E : XK} {m : Str} {apos pos : Pos} {o e : Expr} {es : List Expr} {kws : List Keyword} {ta : TE} {t tk : TA} {g : List Value → List Value → List Value} {gV : List V → List V → List V}
def tMethN (C : Addr) (m : Str) (n j : Nat) (sp : Sp) (gV : List V → List V → List V) (E : XK) (ta : TE) (t tk : TA) : TE := fun σ H Q => ta σ H fun x H1 => ∃ a dx fs, x = .ref a ∧ H1 a = some (.ins C dx fs) ∧ fs.lookup m = none ∧
  t σ H1 fun vs H2 => tk σ H2 fun zs H3 => vs.length = n ∧ zs.length = j ∧ sp (gV (x :: vs) zs) H3 Q E
theorem pe_methN {pl : Sem Bool} (he : PE X o ta) (c : Cls X.K C) (hm : Meth X.K C m f) (F : FnOk X.prog X.w X.K X.mg X.base CX k f fd ps sp) (hr : Room k X.A) (hb : KBn X.K fd ps (n + 1) ks g gV) (hx : Passes CX X E) (ha : PA X (e :: es) t) (hkw : PK X kws tk)
    (hall : (backToKw pos (keywordEach kws X.env)).all (·.1.isSome) = true := by rfl) (hks : (backToKw pos (keywordEach kws X.env)).filterMap (·.1) = ks := by rfl)
    (hst : starEach (e :: es) X.env = (false, eval e X.env) :: starEach es X.env := by rfl) (hpl : ((backTo pos (starEach (e :: es) X.env)).any (·.1) || (backToKw pos (keywordEach kws X.env)).any (·.1.isNone)) = false := by rfl)
    (ht : eval (.Call (.Attribute o m apos) (e :: es) kws pos) X.env = (do
      let ov ← eval o X.env
      standAt apos.atName
      let (f, first) ← holding [ov] (getMethod ov m pl)
      callWith pos f first (backTo pos (starEach (e :: es) X.env)) (backToKw pos (keywordEach kws X.env))) := by rfl) :
    PE X (.Call (.Attribute o m apos) (e :: es) kws pos) (tMethN C m n ks.length sp gV E ta t tk) := by
  refine ⟨fun pins s σ H Q I h => ?_⟩
  refine PySem.W.methodCall_KW (pl := pl) (thn (he.run pins s σ H _ I h) fun u s1 ⟨x, H1, I1, rx, a, dx, fs, ex, ea, l, q⟩ => ?_) ht
  subst ex
  obtain rfl : u = Value.ref a := rx
  refine getmeth_ok I1 ea c hm l ?_
  refine PySem.W.callWith_KW (first := [.ref a]) (h₀ := X.base) I.ok.mod.kin hm.kp hall (thn (ha.run pos pins s1 σ H1 _ I1 q) fun us s2 ⟨vs, H2, I2, r, q2⟩ => ?_) hpl hst
  refine thn (hkw.run pos pins s2 σ H2 _ I2 q2) fun ws s3 ⟨zs, H3, I3, rz, l1, l2, q3⟩ => ⟨I3.kIn, ?_⟩
  rw [hks]
  exact run_fnN (n := n + 1) (us := .ref a :: us) (vs := .ref a :: vs) F hr hb hx I3 (.cons rfl r) rz (congrArg Nat.succ l1) l2 q3
/-- text * n -/
theorem op_mul_str : OpR X (binaryOp .Mult) (fun x y H Q => ∃ z i, x = .str z ∧ y = .int i ∧ MulOk z i ∧ Q (.str (Txt.mul z i)) H) := by
  intro pins s σ H x y v u Q I rx ry h
  obtain ⟨z, i, rfl, rfl, hm, q⟩ := h
  obtain ⟨t, rfl⟩ := rx
  obtain ⟨t', rfl⟩ := ry
  exact SB.mul hm fun t' k => ⟨.str _, H, I.tok _, ⟨_, rfl⟩, q⟩
end
/-! ### enumerate(text) -/
theorem draws_str {prog : Program} {w : World} {A : Around} (hh : A.handled = none) (it : Addr) (x : Str) (t : Tok) :
    Draws prog w A it [it] x.cps.size (fun i v => ∃ c u, x.cps[i]? = some c ∧ v = .str ⟨#[c]⟩ u) (fun i h => h.IsStrIter it (strIterType x) x t i) := by
  unfold strIterType
  cases x.cps.all (· < 128) with
  | true => exact Draws.strAscii hh it x t
  | false => exact Draws.strWide hh it x t
def ItES (x : Str) : It := ⟨fun i _ => i < x.cps.size, fun i H v H' => ∃ T c, v = .ref T ∧ H T = none ∧ H' = upd H T (.tup [.int (i : Nat), .str ⟨#[c]⟩]) ∧ x.cps[i]? = some c, fun i _ => i = x.cps.size⟩
theorem turn_enumS {P : Program} {w : World} {K : PySem.W.Frag} {elts : List Expr} {kk : Nat} {tpos : Pos} (x : Str) (t : Tok) (e it : Addr) :
    Turn P w K (.Tuple elts kk tpos) (ItES x) [e, it] e (fun i h => (∃ old, IsEnum h e it ((i : Nat) : Int) old) ∧ h.IsStrIter it (strIterType x) x t i ∧ e ≠ it) where
  mem := by simp
  obj := fun i h st b hb => by
    obtain ⟨⟨old, he⟩, ⟨o, ho, hc, hd⟩, _⟩ := st
    have e' : b = e ∨ b = it := by simpa using hb
    rcases e' with z | z
    · rw [z]; exact ⟨_, he, fun v q => nomatch q⟩
    · rw [z]; exact ⟨o, ho, fun v q => by rw [hd] at q; cases q⟩
  keep := fun i h h' st k => let ⟨⟨old, he⟩, ⟨o, ho, hr⟩, hne⟩ := st; ⟨⟨old, k e (by simp) _ he⟩, ⟨o, k it (by simp) _ ho, hr⟩, hne⟩
  item := by
    intro X hP hw hK hc i pins s σ H E I hf st hg
    subst hP hw hK
    obtain ⟨⟨old, he⟩, hit, hne⟩ := st
    have hel : e < s.heap.objs.size := Heap.lt_size he
    have hil : it < s.heap.objs.size := by obtain ⟨_, q, _⟩ := hit; exact Heap.lt_size q
    refine wpAny_pyNext_enum_itemD (draws_str (show X.A.in1.handled = none from I.ok.hd hc) it x t) he hit hg hne (by simp [hne]) fun v h' tk hP ho hit' hT hsz hk => ?_
    obtain ⟨c, u, hcx, rfl⟩ := hP
    refine ⟨_, rfl, wpAny_letOwnedTupleGo_enum (s := { s with heap := h', toks := tk + 1 }) ho fun h'' he' sb => ?_⟩
    have hT2 : h''.get? s.heap.objs.size = some { cls := .type "tuple", data := .seq #[.int i tk, .str ⟨#[c]⟩ u] } := (sb.2 _ (Nat.ne_of_gt hel)).trans hT
    have new : ObjOk X.prog X.w (upd H s.heap.objs.size (.tup [.int (i : Nat), .str ⟨#[c]⟩])) h'' s.heap.objs.size (.tup [.int (i : Nat), .str ⟨#[c]⟩]) :=
      ⟨by show 2 ≤ sizeLine; decide, [.int i tk, .str ⟨#[c]⟩ u], .cons ⟨_, rfl⟩ (.cons ⟨_, rfl⟩ .nil), ⟨_, hT2, rfl, _, rfl⟩⟩
    have I1 : Inv X pins σ (upd H s.heap.objs.size (.tup [.int (i : Nat), .str ⟨#[c]⟩])) { s with heap := h'', toks := tk + 1 } :=
      I.turnedNew (ch := [e, it]) (fun b ob hb q => (sb.2 b (fun z => hb (by simp [z]))).trans (hk b ob (fun z => hb (by simp [z])) (fun z => hb (by simp [z])) q)) hf (Nat.le_refl _) new
    refine ⟨.ref s.heap.objs.size, _, I1, rfl, ⟨_, c, rfl, I.hok.fresh (Nat.le_refl _), rfl, hcx⟩, ⟨⟨.str ⟨#[c]⟩ u, ?_⟩, ?_, hne⟩, fun b hb => ?_⟩
    · have e1 : ((i + 1 : Nat) : Int) = (i : Int) + 1 := by omega
      rw [e1]; exact he'
    · obtain ⟨o, ho', hr⟩ := hit'
      exact ⟨o, (sb.2 it (Ne.symm hne)).trans ho', hr⟩
    · have hb' : b < s.heap.objs.size := by
        have e' : b = e ∨ b = it := by simpa using hb
        rcases e' with z | z
        · rw [z]; exact hel
        · rw [z]; exact hil
      rw [upd_ne (Nat.ne_of_lt hb')]
      exact (hf b hb).1
  done := by
    intro X hP hw hK hc i pins s σ H E I hf st hg
    subst hP hw hK
    obtain ⟨⟨old, he⟩, hit, hne⟩ := st
    have hg' : i = x.cps.size := hg
    subst hg'
    obtain ⟨f0, f1, f2, f3, f4, f5⟩ := hf it (by simp)
    exact wpAny_pyNext_enum_endD (draws_str (show X.A.in1.handled = none from I.ok.hd hc) it x t) he hit fun h' eb => ⟨rfl, I.turned (t' := s.toks) (fun b o hb q => eb b o hb q) f0 f1 f3 f4 f5⟩
  self := fun A i s Q E st h => let ⟨⟨_, he⟩, _⟩ := st; wpAny_pyIter_enum he h
def iEnumS (ta : TA) : TI := fun σ H R => ta σ H fun vs H1 => ∃ x, vs = [.str x] ∧ R (ItES x) H1
theorem pi_enumS {X : Cx} {e : Expr} {ta : TA} {p pos tpos : Pos} {elts : List Expr} {kk : Nat} (hg : Gl X "enumerate") (hm : X.mg "enumerate" = none) (ha : PA X [e] ta) (hs : starEach [e] X.env = [(false, eval e X.env)] := by rfl) :
    PI X (.Tuple elts kk tpos) (.Call (.Name "enumerate" p) [e] [] pos) (iEnumS ta) := by
  refine ⟨fun pins s σ H R I h => ?_⟩
  refine Call_ (ld_blt I hg hm boot_enumerate (PyProof.Rows.callWith_type1 (thn (ha.run pos pins s σ H _ I h) fun us s1 ⟨vs, H1, I1, r1, q1⟩ => ?_) hs rfl))
  obtain ⟨x, ex, q⟩ := q1
  subst ex
  cases r1 with
  | cons r rr =>
    cases rr
    obtain ⟨t, rfl⟩ := r
    refine call_enumerate_str fun h' he hit hsz hk => wpAny_pyIter_enum he ?_
    have I2 : Inv X pins σ H1 { s1 with heap := h' } := I1.kept (t' := s1.toks) hk
    refine ⟨s1.heap.objs.size + 1, [s1.heap.objs.size + 1, s1.heap.objs.size], _, _, H1, rfl, I2, turn_enumS x t (s1.heap.objs.size + 1) s1.heap.objs.size, ⟨⟨.none, he⟩, hit, Nat.succ_ne_self _⟩, fun b hb => ?_, q⟩
    have e' : b = s1.heap.objs.size + 1 ∨ b = s1.heap.objs.size := by simpa using hb
    have hle : s1.heap.objs.size ≤ b := by
      rcases e' with z | z
      · rw [z]; exact Nat.le_add_right _ _
      · rw [z]; exact Nat.le_refl _
    exact I1.fpOk hle (I1.hok.fresh hle)
theorem walk_enumS {x : Str} : Walk (ItES x) x.cps.size (fun _ => True) (YPair (fun i => some (.int (i : Nat))) (fun i => x.cps[i]?.map fun c => .str ⟨#[c]⟩)) :=
  ⟨fun _ _ hi _ => hi, fun _ _ => rfl, fun i H v H' _ _ y => by
    obtain ⟨T, c, h1, h2, h3, h4⟩ := y
    exact ⟨T, _, _, h1, h2, h3, rfl, by show Option.map _ (x.cps[i]?) = _; rw [h4]; rfl⟩⟩

/-! ### xs[a:c] = ys, the end perhaps beyond -/
section
variable {prog : Program} {w : World} {A : Around} {E : Value → Shared → Prop} {s : Shared}
theorem cut_run {a c n : Nat} (hac : a ≤ c) (ha : a ≤ n) : sliceBounds (some (a : Int)) (some (c : Int)) none n = ((a : Int), ((min c n : Nat) : Int), 1) := by
  simp only [sliceBounds, Option.getD_none]
  have z1 : ¬ ((a : Int) < 0) := by omega
  have z2 : ¬ ((c : Int) < 0) := by omega
  simp only [z1, z2, if_false, show (1 : Int) > 0 by decide, if_true]
  congr 1
  · omega
  · congr 1
    omega
theorem setItem_cut {l b sl : Addr} {items new : Array Value} {n n2 : Nat} {vl vu : Value} {a c : Nat} {Q : Unit → Shared → Prop}
    (e : s.heap.get? l = some { cls := .type "list", data := .seq items n }) (e2 : s.heap.get? b = some { cls := .type "list", data := .seq new n2 }) (hne : l ≠ b)
    (hs : s.heap.IsSliceOf sl vl vu .none) (pl : IsPart vl (some (a : Int))) (pu : IsPart vu (some (c : Int))) (hac : a ≤ c) (ha : a ≤ items.size)
    (hsz : items.size + new.size ≤ sizeLine) (h : Q () { s with heap := s.heap.update l (Obj.mapSeq fun xs => xs.extract 0 a ++ new ++ xs.extract (min c items.size) xs.size) }) :
    wpAny (model prog w) A (setItem (.ref l) (.ref sl) (.ref b)) Q E s := by
  have tl : s.heap.IsList l items := PySem.IsL.isList e
  have tb : s.heap.IsList b new := PySem.IsL.isList e2
  obtain ⟨os, hos, hcs, hds⟩ := id hs
  have ts : s.TypeIs (.ref sl) "slice" := ⟨os, hos, hcs⟩
  have ap : Builtin.List.listSameRef (.ref l) (.ref b) = false := by
    unfold Builtin.List.listSameRef
    exact beq_eq_false_iff_ne.mpr hne
  have top : (max (a : Int) ((min c items.size : Nat) : Int)).toNat = min c items.size := by omega
  have big : ((fun xs : Array Value => xs.extract 0 a ++ new ++ xs.extract (min c items.size) xs.size) items).size ≤ sizeLine + 1 := by
    simp only [Array.size_append, Array.size_extract]
    omega
  unfold setItem
  try with_reducible refine wpAny_holding ?_
  first | refine wpAny_bind (wpAny_pure ?_) | skip
  refine wpAny_bind (wpAny_sequenceKey tl.typeIs (by decide) ?_)
  refine wpAny_bind (wpAny_callSpecial?_slot (name := Str.ofString "__setitem__") tl.typeIs slot_list_setitem (wpAny_call_entry slot_list_setitem tl.typeIs entry_list_setitem ?_ (args_list_setitem _ _ _)))
  show wpAny _ _ (Builtin.List.listSubscript? (.ref sl) >>= _) _ _ s
  refine wpAny_bind ?_
  unfold Builtin.List.listSubscript?
  refine wpAny_bind (wpAny_specialOf ts slice_no_index ?_)
  simp only [Option.isNone_none, if_true]
  refine wpAny_pure ?_
  show wpAny _ _ (typeOf (.ref sl) >>= _) _ _ s
  refine wpAny_bind (wpAny_typeOf ts ?_)
  first | rw [if_neg (by decide)] | refine PySem.W.KFB.if_not (by decide) ?_
  rw [listSliceParts_eq]
  refine wpAny_bind (wpAny_bind (wpAny_field hos hds (x := .none) rfl (wpAny_bind (wpAny_listPart .none ?_))))
  rw [if_neg (show ¬ ((rawPart none == rawInt 0) = true) from Bool.false_ne_true)]
  refine wpAny_bind (wpAny_field hos hds (x := vl) rfl (wpAny_bind (wpAny_listPart pl (wpAny_bind (wpAny_field hos hds (x := vu) rfl (wpAny_bind (wpAny_listPart pu (wpAny_pure ?_))))))))
  first | simp only [ap, Bool.false_eq_true, if_false] | refine PySem.W.KFB.if_not ap ?_ | (dsimp only; rw [if_neg (by rw [ap]; exact Bool.false_ne_true)])
  refine wpAny_bind (m := Builtin.List.listAllItems (.ref b) "must assign iterable to extended slice") ?_
  unfold Builtin.List.listAllItems
  refine wpAny_bind (wpAny_typeOf tb.typeIs ?_)
  first | refine PySem.W.KFB.if_so (by decide) ?_ | rw [if_pos (by decide)] | simp only [beq_self_eq_true, Bool.true_or, if_true]
  unfold Builtin.List.listItems
  refine wpAny_bind (wpAny_seqItems e2 rfl (wpAny_pure (wpAny_bind (wpAny_bind (wpAny_seqItems e rfl (wpAny_pure ?_))))))
  refine wpAny_bind (wpAny_of_eq ((sliceIndices_raw (some (a : Int)) (some (c : Int)) none items.size (by simp)).trans (congrArg (pure : Int × Int × Int → Sem (Int × Int × Int)) (cut_run hac ha))) ?_)
  show wpAny _ _ (if ((1 : Int) == 1) = true then _ else _) _ _ s
  rw [if_pos (by decide)]
  refine wpAny_bind (wpAny_rule ?_)
  first | simp only [notLongL hsz, Bool.false_eq_true, if_false] | refine PySem.W.KFB.if_not (notLongL hsz) ?_
  first | refine wpAny_bind (wpAny_pure ?_) | skip
  show wpAny _ _ (updateSeq l (fun xs => xs.extract 0 ((a : Int)).toNat ++ new ++ xs.extract (max (a : Int) ((min c items.size : Nat) : Int)).toNat xs.size) >>= _) _ _ s
  rw [top, Int.toNat_natCast]
  refine wpAny_bind (wpAny_updateSeq (hz := Nat.le_trans (Nat.le_add_right _ _) hsz) (_hz' := big) e rfl (wpAny_bind (wpAny_letGo ?_)))
  first | exact wpAny_bind (wpAny_pure (wpAny_pure ⟨.none, rfl, wpAny_pure h⟩)) | exact wpAny_pure ⟨.none, rfl, wpAny_pure h⟩
end
section
variable {X : Cx} {o : Expr} {lo hi : Option Expr} {to : TE} {tl th : TO} {pos p2 : Pos}
def gSlS (to : TE) (tl th : TO) : TG := fun v σ H Q => to σ H fun x H1 => tl σ H1 fun l H2 => th σ H2 fun u H3 => ∃ (a b : Addr) (xs ys : List V) (i j : Nat), x = .ref a ∧ v = .ref b ∧ l = some (i : Int) ∧ u = some (j : Int) ∧ H3 a = some (.lst xs) ∧ H3 b = some (.lst ys) ∧ a ≠ b ∧ i ≤ j ∧ i ≤ xs.length ∧
  xs.length + ys.length ≤ sizeLine ∧ Q σ (upd H3 a (.lst (xs.take i ++ ys ++ xs.drop j)))
theorem pg_slS (ho : PE X o to) (hl : PO X lo tl) (hu : PO X hi th)
    (ha : ∀ v, assign (.Subscript o (.Slice lo hi none p2) pos) X.env v = (do
      let ov ← holding [v] (eval o X.env)
      let iv ← holding [v, ov] (eval (.Slice lo hi none p2) X.env)
      standAt pos
      holding [v, ov, iv] (setItem ov iv v)
      release [iv, v, ov] []) := by intro _; rfl) : PG X (.Subscript o (.Slice lo hi none p2) pos) (gSlS to tl th) := by
  refine ⟨fun pins s σ H v u Q I r h => ?_⟩
  rw [ha]
  refine wpAny_bind (wpAny_holding (thn (ho.run pins s σ H _ I h) fun ov s1 ⟨x, H1, I1, r1, q1⟩ => ?_))
  refine wpAny_bind (wpAny_holding ?_)
  refine wpAny_Slice (thn (hl.run pins s1 σ H1 _ I1 q1) fun vl s2 ⟨l, H2, I2, pl, q2⟩ => thn (hu.run pins s2 σ H2 _ I2 q2) fun vu s3 ⟨m, H3, I3, pu, q3⟩ => ?_)
  rw [evalPart_none]
  refine wpAny_pure ?_
  obtain ⟨a, b, xs, ys, i, j, rfl, rfl, rfl, rfl, ha', hb', hne, hij, hi, hz, q⟩ := q3
  obtain rfl : ov = Value.ref a := r1
  obtain rfl : u = Value.ref b := r
  have I4 : Inv X pins σ H3 { s3 with heap := s3.heap.push { cls := .type "slice", data := .fields #[vl, vu, .none] } } := I3.kept (t' := s3.toks) fun b ob q => Heap.get?_push_of_some _ q
  refine wpAny_bind (wpAny_standAt (wpAny_bind (wpAny_holding ?_)))
  obtain ⟨z, its, n, rv, hl1, e⟩ := I4.lstM ha'
  obtain ⟨z2, its2, n2, rv2, hl2, e2⟩ := I4.lstM hb'
  refine setItem_cut e e2 hne (Heap.IsSliceOf.new ..) pl pu hij (by rw [List.size_toArray]; omega) (by rw [List.size_toArray, List.size_toArray]; omega) (wpAny_release ⟨σ, _, ?_, q⟩)
  have hl1' := rv.length
  refine I4.lset (its' := its.take i ++ its2 ++ its.drop j) (t' := s3.toks) ha' e ?_ (Vals.append (Vals.append (rv.take _) rv2) (rv.drop _)) ?_
  · rw [show (its.toArray).size = its.length by simp]
    have := splice_eq its its2 i (min j its.length)
    rw [List.size_toArray] at this
    show its.toArray.extract 0 i ++ its2.toArray ++ its.toArray.extract (min j its.length) its.toArray.size = _
    rw [List.size_toArray, this]
    have ed : its.drop (min j its.length) = its.drop j := by
      by_cases hj : j ≤ its.length
      · rw [Nat.min_eq_left hj]
      · rw [List.drop_of_length_le (by omega), List.drop_of_length_le (by omega)]
    rw [ed]
  · rw [List.length_append, List.length_append, List.length_take, List.length_drop]
    omega
end

/-! ### len(o), repr(o), o == p by own defs -/
section
variable {X : Cx} {k : Nat} {f C : Addr} {fd : FuncData} {ps : List Str} {sp : Sp}
theorem run_in1 {pins : List (Addr × Obj)} {σ : L2.St} {H : Hp} {s : Shared} {Q : VK} {us : List Value} {vs : List V} (F : FnOk X.prog X.w X.K X.mg X.base CX0 k f fd ps sp) (hr : Room (k + 1) X.A) (hb : Binds X.K fd ps []) (I : Inv X pins σ H s) (r : Vals vs us) (h : sp vs H Q E0) :
    wpAny (model X.prog X.w) X.A.in1 (call (.ref f) us) (EP X pins σ Q) X.xe s := by
  have hl : (us ++ []).length = ps.length := by
    rw [List.append_nil, ← r.length]
    exact F.len _ _ _ _ h
  have r2 : Vals vs (us ++ []) := by rw [List.append_nil]; exact r
  refine wpAny_call (codeAny_mono (F.run X.A.in1 X.stack s H ⟨us, []⟩ (us ++ []) vs Q E0 hr.in1 I.env0.in1 (hb s us I.kIn hl) r2 h) fun r s' hq => ?_)
  cases r with
  | error e => exact False.elim hq
  | ok fl =>
    cases fl with
    | ret u => exact I.after hq
    | next => exact False.elim hq
    | brk => exact False.elim hq
    | cont => exact False.elim hq
theorem call_lenOwn (hm : Meth X.K C "__len__" f) (F : FnOk X.prog X.w X.K X.mg X.base CX0 k f fd ps sp) (hr : Room (k + 1) X.A) (hb : Binds X.K fd ps []) :
    CallR X (.builtin "len") (fun xs H Q => ∃ a dx fs, xs = [V.ref a] ∧ H a = some (.ins C dx fs) ∧ sp [.ref a] H (fun z H' => ∃ i : Int, z = .int i ∧ 0 ≤ i ∧ i < 2 ^ 63 ∧ Q (.int i) H') E0) := by
  intro pins s σ H xs us Q I r h
  obtain ⟨a, dx, fs, rfl, ha, q⟩ := h
  obtain ⟨u, rfl, ru⟩ := vals1 r
  cases (show u = Value.ref a from ru)
  obtain ⟨mA, O, _⟩ := ins_get I.hok ha
  obtain ⟨od, J, _⟩ := O.look
  obtain ⟨m, hF⟩ := I.fr
  refine PySem.W.len_K hF I.ok.mod.kin J hm.at_ hm.fn (wpAny_mono (run_in1 (vs := [.ref a]) (us := [.ref a]) F hr hb I (.cons rfl .nil) q) (fun w s' z => ?_) fun _ _ x => x)
  obtain ⟨z', H', I', rz, i, rfl, i0, i1, qz⟩ := z
  obtain ⟨t, e⟩ := (show ∃ t, w = Value.int i t from rz)
  cases e
  exact ⟨⟨i0, i1⟩, .int i, H', I'.tok _, ⟨_, rfl⟩, qz⟩
theorem call_reprOwn (hm : Meth X.K C "__repr__" f) (F : FnOk X.prog X.w X.K X.mg X.base CX0 k f fd ps sp) (hr : Room (k + 1) X.A) (hb : Binds X.K fd ps []) :
    CallR X (.builtin "repr") (fun xs H Q => ∃ a dx fs, xs = [V.ref a] ∧ H a = some (.ins C dx fs) ∧ sp [.ref a] H (fun z H' => ∃ y : Str, z = .str y ∧ Q (.str y) H') E0) := by
  intro pins s σ H xs us Q I r h
  obtain ⟨a, dx, fs, rfl, ha, q⟩ := h
  obtain ⟨u, rfl, ru⟩ := vals1 r
  cases (show u = Value.ref a from ru)
  obtain ⟨mA, O, _⟩ := ins_get I.hok ha
  obtain ⟨od, J, _⟩ := O.look
  obtain ⟨m, hF⟩ := I.fr
  refine PySem.W.repr_K (Room.in1 hr).units0 hF I.ok.mod.kin J hm.at_ hm.fn (wpAny_mono (run_in1 (vs := [.ref a]) (us := [.ref a]) F hr hb I (.cons rfl .nil) q) (fun w s' z => ?_) fun _ _ x => x)
  obtain ⟨z', H', I', rz, y, rfl, qz⟩ := z
  obtain ⟨t, e⟩ := (show ∃ t, w = Value.str y t from rz)
  cases e
  exact ⟨.str y, H', I', ⟨t, rfl⟩, qz⟩
/-- o == y, o's own __eq__ tells a truth; y of a built-in kind or of o's own class -/
def rEqOwn (K : PySem.W.Frag) (C : Addr) (sp : Sp) : R2 := fun x y H Q => ∃ a dx fs t, x = .ref a ∧ H a = some (.ins C dx fs) ∧ TyX K H y t ∧ PySem.W.notFirst K C t = true ∧ sp [x, y] H (fun z H' => ∃ b : Bool, z = .bl b ∧ Q (.bl b) H') E0
end
/-! ### texts by their signs -/
def st (l : List Nat) : Str := ⟨l.toArray⟩
theorem st_cps (l : List Nat) : (st l).cps = l.toArray := rfl
theorem st_codes (l : List Nat) : (st l).cps.toList = l := by simp [st]
theorem st_len (l : List Nat) : (st l).length = l.length := by
  show l.toArray.size = l.length
  simp
theorem st_app (a b : List Nat) : st a ++ st b = st (a ++ b) := by
  show Str.append (st a) (st b) = st (a ++ b)
  unfold Str.append st
  simp
theorem st_of (z : Str) : st z.cps.toList = z := by
  cases z
  simp [st]
theorem st_inj {a b : List Nat} (h : st a = st b) : a = b := by
  have := congrArg (fun z : Str => z.cps.toList) h
  simpa [st] using this
theorem sIx_none (n d : Nat) : HT.sIx n d none = d := rfl
theorem sIx_nat (n d i : Nat) : HT.sIx n d (some (i : Int)) = min i n := by
  show (if (i : Int) < 0 then ((i : Int) + (n : Int)).toNat else min (i : Int).toNat n) = min i n
  rw [if_neg (by omega), Int.toNat_natCast]
theorem st_take (l : List Nat) (i : Nat) : cutS (st l) none (some (i : Int)) = st (l.take i) := by
  unfold cutS
  rw [sIx_none, sIx_nat, st_len, st_codes]
  show st _ = _
  congr 1
  rw [List.drop_zero, Nat.sub_zero]
  by_cases h : i ≤ l.length
  · rw [Nat.min_eq_left h]
  · rw [Nat.min_eq_right (by omega), List.take_of_length_le (Nat.le_refl _), List.take_of_length_le (by omega)]
theorem st_drop (l : List Nat) (i : Nat) : cutS (st l) (some (i : Int)) none = st (l.drop i) := by
  unfold cutS
  rw [sIx_none, sIx_nat, st_len, st_codes]
  show st _ = _
  congr 1
  by_cases h : i ≤ l.length
  · rw [Nat.min_eq_left h, List.take_of_length_le (by rw [List.length_drop]; exact Nat.le_refl _)]
  · rw [Nat.min_eq_right (by omega), List.drop_of_length_le (Nat.le_refl _), List.drop_of_length_le (by omega), List.take_nil]
theorem cutV_take (l : List V) (i : Nat) : cutV l none (some (i : Int)) = l.take i := by
  unfold cutV
  rw [sIx_none, sIx_nat, List.drop_zero, Nat.sub_zero]
  by_cases h : i ≤ l.length
  · rw [Nat.min_eq_left h]
  · rw [Nat.min_eq_right (by omega), List.take_of_length_le (Nat.le_refl _), List.take_of_length_le (by omega)]
theorem cutV_drop (l : List V) (i : Nat) : cutV l (some (i : Int)) none = l.drop i := by
  unfold cutV
  rw [sIx_none, sIx_nat]
  by_cases h : i ≤ l.length
  · rw [Nat.min_eq_left h, List.take_of_length_le (by rw [List.length_drop]; exact Nat.le_refl _)]
  · rw [Nat.min_eq_right (by omega), List.drop_of_length_le (Nat.le_refl _), List.drop_of_length_le (by omega), List.take_nil]
theorem foldl_app : ∀ (ls : List (Array Nat)) (a : Array Nat), (ls.foldl (· ++ ·) a).toList = a.toList ++ (ls.map Array.toList).flatten
  | [], a => by simp
  | x :: ls, a => by
    rw [List.foldl_cons, foldl_app ls, List.map_cons, List.flatten_cons, ← List.append_assoc, Array.toList_append]
theorem st_mul (l : List Nat) (n : Nat) : Txt.mul (st l) (n : Int) = st ((List.replicate n l).flatten) := by
  unfold Txt.mul
  by_cases h0 : n = 0
  · subst h0
    rw [if_pos (by decide)]
    rfl
  · rw [if_neg (by omega)]
    by_cases h1 : ((n : Int) == 1 || (st l).length == 0) = true
    · rw [if_pos h1]
      rcases Bool.or_eq_true_iff.mp h1 with h | h
      · have : n = 1 := by have := eq_of_beq h; omega
        subst this
        simp
      · have : (st l).length = 0 := eq_of_beq h
        rw [st_len] at this
        have e := List.eq_nil_of_length_eq_zero this
        subst e
        have : (List.replicate n ([] : List Nat)).flatten = [] := by
          induction n with
          | zero => rfl
          | succ m _ => simp
        rw [this]
    · rw [if_neg h1, Int.toNat_natCast]
      have := foldl_app (List.replicate n (st l).cps) #[]
      have e : (⟨(List.replicate n (st l).cps).foldl (· ++ ·) #[]⟩ : Str) = st ((List.replicate n (st l).cps).foldl (· ++ ·) #[]).toList := (st_of _).symm
      rw [e, this, List.map_replicate, st_codes]
      rfl
theorem mulOk_of {l : List Nat} {n : Nat} (h : l.length * n ≤ 100000) (hn : n ≤ 100000) : MulOk (st l) (n : Int) := by
  have e63 : (2 : Int) ^ 63 = 9223372036854775808 := by decide
  refine ⟨?_, fun h1 h2 => ?_, fun h1 h2 => ?_⟩
  · rw [e63, Bool.or_eq_false_iff]
    exact ⟨decide_eq_false (by omega), decide_eq_false (by omega)⟩
  · rw [st_len, e63]
    have h3 : 0 < n := by omega
    have h4 : l.length ≤ 100000 := Nat.le_trans (Nat.le_mul_of_pos_right _ h3) h
    have h5 : (100000 : Int) ≤ (9223372036854775808 - 1) / (n : Int) := Int.le_ediv_of_mul_le (by omega) (by omega)
    omega
  · rw [st_len, Int.toNat_natCast]
    exact notLongL (Nat.le_trans h (by decide))

/-! ### is_whole, is_from -/
def spWholeI : Sp := fun vs H Q _ => ∃ x : Int, vs = [.int x] ∧ Q (.bl true) H
def spFromI : Sp := fun vs H Q _ => ∃ x l m : Int, vs = [.int x, .int l, .int m] ∧ Q (.bl (decide (l ≤ x) && decide (x ≤ m))) H
section
variable {P : Program} {w : World} {K : PySem.W.Frag} {mg : Str → Option Value} {base : Heap}
theorem scis_whole : FnScope nis_whole pis_whole (defScope sis_whole) := ⟨rfl, rfl, rfl, by decide +kernel, rfl, by decide +kernel, by decide +kernel⟩
theorem ok_is_whole (m_isinstance : mg "isinstance" = none) (m_int : mg "int" = none) (m_bool : mg "bool" = none) {f : Addr} {fd : FuncData} (F : FunD K "is_whole" "is_whole" (defArgs sis_whole) (defBody sis_whole) (defScope sis_whole) [] [] f fd) : FnOk P w K mg base CX0 1 f fd pis_whole spWholeI := by
  refine F.ok scis_whole (fun vs H Q E h => ?_) (fun cdv A outer s H vs Q E hr h => ?_)
  · obtain ⟨x, rfl, _⟩ := h
    rfl
  · obtain ⟨x, rfl, k⟩ := h
    refine ⟨_, PSs.nox (pss_one (ps_ret (pe_and (pe_callB (call_isiK' K) (by rfl) m_isinstance (by decide +kernel) (pa_cons (pv 0) (pa_cons (pe_bltn (v := .ty "int") (u := .type "int") (by rfl) m_int (by decide +kernel) rfl) pa_nil))) (pe_one (pe_not (pe_callB (call_isiK' K) (by rfl) m_isinstance (by decide +kernel) (pa_cons (pv 0) (pa_cons (pe_bltn (v := .ty "bool") (u := .type "bool") (by rfl) m_bool (by decide +kernel) rfl) pa_nil)))))))), ?_⟩
    refine ⟨_, rfl, _, _, _, _, true, rfl, .ty _, .base (.int _), kit_ty (by decide +kernel), true, rfl, iteT ?_⟩
    refine ⟨_, rfl, _, _, _, _, false, rfl, .ty _, .base (.int _), kit_ty (by decide +kernel), false, rfl, ?_⟩
    exact k
theorem scis_from : FnScope nis_from pis_from (defScope sis_from) := ⟨rfl, rfl, rfl, by decide +kernel, rfl, by decide +kernel, by decide +kernel⟩
theorem ok_is_from (D_is_whole : Df P w K mg base 1 "is_whole" pis_whole spWholeI) {f : Addr} {fd : FuncData} (F : FunD K "is_from" "is_from" (defArgs sis_from) (defBody sis_from) (defScope sis_from) [.non] [] f fd) : FnOk P w K mg base CX0 2 f fd pis_from spFromI := by
  obtain ⟨f_is_whole, fd_is_whole, m_is_whole, k_is_whole, b_is_whole, G_is_whole⟩ := D_is_whole
  refine F.ok scis_from (fun vs H Q E h => ?_) (fun cdv A outer s H vs Q E hr h => ?_)
  · obtain ⟨x, l, m, rfl, _⟩ := h
    rfl
  · obtain ⟨x, l, m, rfl, k⟩ := h
    refine ⟨_, PSs.nox (pss_one (ps_ret (pe_and (pe_call G_is_whole (by exact hr.mono (by decide)) rfl m_is_whole k_is_whole b_is_whole .nil pass0 (pa_cons (pv 0) pa_nil)) (pe_and (pe_cmpR op_ge (pv 0) (pv 1) (nomark _)) (pe_one (pe_or (pe_cmpR op_isN (pv 2) pe_non (nomark _)) (pe_one (pe_cmpR op_le (pv 0) (pv 2) (nomark _))))))))), ?_⟩
    refine ⟨_, rfl, x, rfl, true, rfl, iteT ?_⟩
    refine ⟨_, rfl, _, rfl, _, _, rfl, rfl, _, rfl, ?_⟩
    by_cases h1 : l ≤ x
    · rw [decide_eq_true h1] at k ⊢
      refine iteT ⟨_, rfl, rfl, false, rfl, iteF ⟨_, rfl, _, rfl, _, _, rfl, rfl, ?_⟩⟩
      exact k
    · rw [decide_eq_false h1] at k ⊢
      exact iteF k
end

/-! ### a Piece: its row, sign and mark by sign and mark -/
abbrev Row := List (Nat × V)
def sg (r : Row) : List Nat := r.map (·.1)
def mk (r : Row) : List V := r.map (·.2)
def putG {M : Type} (e : M) (r : List (Nat × M)) (k : Nat) (s : List Nat) (m : M) : List (Nat × M) :=
  (r ++ List.replicate (k - r.length) (126, e)).take k ++ s.map (fun c => (c, m)) ++ (r ++ List.replicate (k - r.length) (126, e)).drop (k + s.length)
abbrev putRow (r : Row) (k : Nat) (s : List Nat) (m : V) : Row := putG V.non r k s m
theorem putRow_len {M : Type} (e : M) (r : List (Nat × M)) (k : Nat) (s : List Nat) (m : M) : (putG e r k s m).length = max r.length (k + s.length) := by
  unfold putG
  simp only [List.length_append, List.length_take, List.length_drop, List.length_map, List.length_replicate]
  omega
theorem putRow_sg (r : Row) (k : Nat) (s : List Nat) (m : V) : sg (putRow r k s m) = ((sg r ++ (List.replicate (k - r.length) [126]).flatten).take k ++ s) ++ (sg r ++ (List.replicate (k - r.length) [126]).flatten).drop (k + s.length) := by
  unfold putRow putG sg
  have e1 : (List.replicate (k - r.length) ([126] : List Nat)).flatten = (List.replicate (k - r.length) (126, V.non)).map (·.1) := by
    rw [List.map_replicate]
    generalize k - r.length = n
    induction n with
    | zero => rfl
    | succ n ih => rw [List.replicate_succ, List.flatten_cons, ih]; rfl
  rw [e1, ← List.map_append, List.map_append, List.map_append, List.map_take, List.map_drop, List.map_map]
  have e2 : s.map ((fun x : Nat × V => x.1) ∘ fun c => (c, m)) = s := by
    induction s with
    | nil => rfl
    | cons a s ih => rw [List.map_cons, ih]; rfl
  rw [e2]
theorem putRow_mk (r : Row) (k : Nat) (s : List Nat) (m : V) : mk (putRow r k s m) = ((mk r ++ (List.replicate (k - r.length) [V.non]).flatten).take k ++ (List.replicate s.length [m]).flatten) ++ (mk r ++ (List.replicate (k - r.length) [V.non]).flatten).drop (k + s.length) := by
  unfold putRow putG mk
  have e1 : ∀ (n : Nat) (v : V), (List.replicate n [v]).flatten = List.replicate n v := fun n v => by
    induction n with
    | zero => rfl
    | succ n ih => rw [List.replicate_succ, List.flatten_cons, ih]; rfl
  have e2 : List.replicate (k - r.length) V.non = (List.replicate (k - r.length) ((126 : Nat), V.non)).map (·.2) := by rw [List.map_replicate]
  rw [e1, e1, e2, ← List.map_append, List.map_append, List.map_append, List.map_take, List.map_drop, List.map_map]
  congr 2
  induction s with
  | nil => rfl
  | cons a s ih => rw [List.map_cons, ih]; rfl
def pf (n : Int) (z : Str) (l : Addr) : List (Str × V) := [("own_size", .int n), ("own_signs", .str z), ("own_marks", .ref l)]
theorem pf_size (n : Int) (z : Str) (l : Addr) : (pf n z l).lookup ("own_size" : Str) = some (.int n) := rfl
theorem pf_signs (n : Int) (z : Str) (l : Addr) : (pf n z l).lookup ("own_signs" : Str) = some (.str z) := rfl
theorem pf_marks (n : Int) (z : Str) (l : Addr) : (pf n z l).lookup ("own_marks" : Str) = some (.ref l) := rfl
/-- at p a Piece of the size n with this row -/
structure PcAt (C : Addr) (H : Hp) (p : Addr) (n : Int) (r : Row) : Prop where
  ob : ∃ dx l, H p = some (.ins C dx (pf n (st (sg r)) l)) ∧ H l = some (.lst (mk r))
  lo : 24 ≤ n
  hi : n ≤ 200
  len : (r.length : Int) ≤ n
theorem PcAt.same {C : Addr} {H H' : Hp} {p : Addr} {n : Int} {r : Row} (h : PcAt C H p n r) (e : Same H H') : PcAt C H' p n r := by
  obtain ⟨⟨dx, l, h1, h2⟩, h3, h4, h5⟩ := h
  exact ⟨⟨dx, l, e _ _ h1, e _ _ h2⟩, h3, h4, h5⟩
structure PieceTx (K : PySem.W.Frag) (mg : Str → Option Value) (C : Addr) : Prop where
  c : Cls K C
  nZ : NoAttr K C "own_size"
  nS : NoAttr K C "own_signs"
  nM : NoAttr K C "own_marks"
  mLeast : ∃ t, mg "LEAST_SIZE" = some (.int 24 t)
  mMost : ∃ t, mg "MOST_SIZE" = some (.int 200 t)
  mFill : ∃ t, mg "FILLER" = some (.str "~" t)
  len : mg "len" = none
  max : mg "max" = none
  list : mg "list" = none
/-- the marks' list of the Piece at p is not l -/
def MkNot (H : Hp) (p l : Addr) : Prop := ∀ C dx n z, H p ≠ some (.ins C dx (pf n z l))
theorem MkNot.of {H H0 : Hp} {p l9 C dx : Addr} {n : Int} {z : Str} (h : H p = some (.ins C dx (pf n z l9))) (h9 : H0 l9 = none) {l : Addr} (hl : H0 l ≠ none) : MkNot H p l := by
  intro C' dx' n' z' e
  rw [h] at e
  injection e with e
  injection e with _ _ e
  injection e with _ e
  injection e with _ e
  injection e with e _
  injection e with _ e
  injection e with e
  exact hl (e ▸ h9)
def spPInit (C : Addr) : Sp := fun vs H Q _ => ∃ (p dx : Addr) (n : Int), vs = [.ref p, .int n] ∧ H p = some (.ins C dx []) ∧ 24 ≤ n ∧ n ≤ 200 ∧ ∀ H' : Hp, PcAt C H' p n [] → (∀ b u, b ≠ p → H b = some u → H' b = some u) → (∀ l, H l ≠ none → MkNot H' p l) → Q .non H'
def spPut (C : Addr) : Sp := fun vs H Q _ => ∃ (p : Addr) (n : Int) (r : Row) (k : Nat) (s : List Nat) (m : V), vs = [.ref p, .int k, .str (st s), m] ∧ PcAt C H p n r ∧ (k : Int) + s.length ≤ n ∧
  ∀ H' : Hp, PcAt C H' p n (putRow r k s m) → (∀ b u, b ≠ p → H b = some u → H' b = some u) → (∀ l, H l ≠ none → MkNot H' p l) → Q .non H'
def spSigns (C : Addr) : Sp := fun vs H Q _ => ∃ (p : Addr) (n : Int) (r : Row), vs = [.ref p] ∧ PcAt C H p n r ∧ Q (.str (st (sg r))) H
def spSize (C : Addr) : Sp := fun vs H Q _ => ∃ (p : Addr) (n : Int) (r : Row), vs = [.ref p] ∧ PcAt C H p n r ∧ Q (.int n) H
def spLen (C : Addr) : Sp := fun vs H Q _ => ∃ (p : Addr) (n : Int) (r : Row), vs = [.ref p] ∧ PcAt C H p n r ∧ Q (.int r.length) H
def spMarks (C : Addr) : Sp := fun vs H Q _ => ∃ (p : Addr) (n : Int) (r : Row), vs = [.ref p] ∧ PcAt C H p n r ∧ ∀ l, H l = none → Q (.ref l) (upd H l (.lst (mk r)))
theorem small_text {i : Int} (h0 : 0 ≤ i) (h1 : i ≤ 200) : (toString i : Str).length ≤ 100 := by
  have h : ∀ n : Nat, n ≤ 200 → (toString (n : Int) : Str).length ≤ 100 := by decide +kernel
  obtain ⟨n, rfl⟩ := Int.eq_ofNat_of_zero_le h0
  exact h n (by omega)
def pieceText (i n : Int) : Str := "Piece(" ++ toString i ++ " of " ++ toString n ++ ")"
def spRepr (C : Addr) : Sp := fun vs H Q _ => ∃ (p : Addr) (n : Int) (r : Row), vs = [.ref p] ∧ PcAt C H p n r ∧ Q (.str (pieceText r.length n)) H
section
variable {P : Program} {w : World} {K : PySem.W.Frag} {mg : Str → Option Value} {base : Heap} {C : Addr}
theorem scPiece___init__ : FnScope nPiece___init__ pPiece___init__ (defScope sPiece___init__) := ⟨rfl, rfl, rfl, by decide +kernel, rfl, by decide +kernel, by decide +kernel⟩
theorem ok_pinit (T : PieceTx K mg C) (D_is_from : Df P w K mg base 2 "is_from" pis_from spFromI) {f : Addr} {fd : FuncData} (F : FunD K "__init__" "Piece.__init__" (defArgs sPiece___init__) (defBody sPiece___init__) (defScope sPiece___init__) [(.int 60)] [] f fd) : FnOk P w K mg base CX0 3 f fd pPiece___init__ (spPInit C) := by
  obtain ⟨f_is_from, fd_is_from, m_is_from, k_is_from, b_is_from, G_is_from⟩ := D_is_from
  obtain ⟨t1, m_LEAST_SIZE⟩ := T.mLeast
  obtain ⟨t2, m_MOST_SIZE⟩ := T.mMost
  refine F.ok scPiece___init__ (fun vs H Q E h => ?_) (fun cdv A outer s H vs Q E hr h => ?_)
  · obtain ⟨p, dx, n, rfl, _⟩ := h
    rfl
  · obtain ⟨p, dx, n, rfl, hp, h1, h2, k⟩ := h
    refine ⟨_, PSs.nox (pss_cons (ps_if (pt_not (pt_val (pe_call G_is_from (by exact hr.mono (by decide)) rfl m_is_from k_is_from b_is_from .nil pass0 (pa_cons (pv 1) (pa_cons (pe_glob (v := (.int 24)) rfl m_LEAST_SIZE ⟨_, rfl⟩) (pa_cons (pe_glob (v := (.int 200)) rfl m_MOST_SIZE ⟨_, rfl⟩) pa_nil)))))) (pss_one ps_never) pss_nil) (pss_cons (ps_fld (pv 0) (pv 1) rfl) (pss_cons (ps_fld (pv 0) pe_str rfl) (pss_one (ps_fld (pv 0) (pe_lst pa_nil) rfl))))), ?_⟩
    refine ⟨_, rfl, n, 24, 200, rfl, true, ?_, iteF ?_⟩
    · exact congrArg V.bl (by rw [decide_eq_true h1, decide_eq_true h2]; rfl)
    refine ⟨_, rfl, _, rfl, p, C, dx, [], rfl, hp, T.c, T.nZ, (by show 0 < 1000; decide), ?_⟩
    refine ⟨_, rfl, p, C, dx, _, rfl, upd_same, T.c, T.nS, (by show 1 < 1000; decide), ?_⟩
    refine ⟨Nat.zero_le _, fun l nl => ?_⟩
    have npl : p ≠ l := fun e => by
      rw [e, upd_same] at nl
      cases nl
    refine ⟨_, rfl, p, C, dx, _, rfl, Eq.trans (upd_ne npl) upd_same, T.c, T.nM, (by show 2 < 1000; decide), ?_⟩
    refine k _ ⟨⟨dx, l, upd_same, by rw [upd_ne npl.symm, upd_same]; rfl⟩, h1, h2, by simp; omega⟩ (fun b u hb e => ?_) fun l' hl' => MkNot.of (H0 := H) upd_same (by rw [upd_ne npl.symm, upd_ne npl.symm] at nl; exact nl) hl'
    have nl0 : H l = none := by rw [upd_ne npl.symm, upd_ne npl.symm] at nl; exact nl
    rw [upd_ne hb, upd_ne (ne_of_none e nl0), upd_ne hb, upd_ne hb]
    exact e
theorem scPiece_signs : FnScope nPiece_signs pPiece_signs (defScope sPiece_signs) := ⟨rfl, rfl, rfl, by decide +kernel, rfl, by decide +kernel, by decide +kernel⟩
theorem ok_signs (T : PieceTx K mg C) {f : Addr} {fd : FuncData} (F : FunD K "signs" "Piece.signs" (defArgs sPiece_signs) (defBody sPiece_signs) (defScope sPiece_signs) [] [] f fd) : FnOk P w K mg base CX0 1 f fd pPiece_signs (spSigns C) := by
  refine F.ok scPiece_signs (fun vs H Q E h => ?_) (fun cdv A outer s H vs Q E hr h => ?_)
  · obtain ⟨p, n, r, rfl, _⟩ := h
    rfl
  · obtain ⟨p, n, r, rfl, ⟨⟨dx, l, h1, h2⟩, _⟩, k⟩ := h
    refine ⟨_, PSs.nox (pss_one (ps_ret (pe_fldK K (pv 0) rfl))), ?_⟩
    exact ⟨_, rfl, p, C, dx, _, _, rfl, h1, T.c, T.nS, pf_signs _ _ _, k⟩
theorem scPiece_size : FnScope nPiece_size pPiece_size (defScope sPiece_size) := ⟨rfl, rfl, rfl, by decide +kernel, rfl, by decide +kernel, by decide +kernel⟩
theorem ok_size (T : PieceTx K mg C) {f : Addr} {fd : FuncData} (F : FunD K "size" "Piece.size" (defArgs sPiece_size) (defBody sPiece_size) (defScope sPiece_size) [] [] f fd) : FnOk P w K mg base CX0 1 f fd pPiece_size (spSize C) := by
  refine F.ok scPiece_size (fun vs H Q E h => ?_) (fun cdv A outer s H vs Q E hr h => ?_)
  · obtain ⟨p, n, r, rfl, _⟩ := h
    rfl
  · obtain ⟨p, n, r, rfl, ⟨⟨dx, l, h1, h2⟩, _⟩, k⟩ := h
    refine ⟨_, PSs.nox (pss_one (ps_ret (pe_fldK K (pv 0) rfl))), ?_⟩
    exact ⟨_, rfl, p, C, dx, _, _, rfl, h1, T.c, T.nZ, pf_size _ _ _, k⟩
theorem sg_len (r : Row) : (sg r).length = r.length := List.length_map _
theorem mk_len (r : Row) : (mk r).length = r.length := List.length_map _
theorem line200 {n : Nat} (h : n ≤ 100000) : n ≤ sizeLine := Nat.le_trans h (by decide)
theorem scPiece___len__ : FnScope nPiece___len__ pPiece___len__ (defScope sPiece___len__) := ⟨rfl, rfl, rfl, by decide +kernel, rfl, by decide +kernel, by decide +kernel⟩
theorem ok_len (T : PieceTx K mg C) {f : Addr} {fd : FuncData} (F : FunD K "__len__" "Piece.__len__" (defArgs sPiece___len__) (defBody sPiece___len__) (defScope sPiece___len__) [] [] f fd) : FnOk P w K mg base CX0 1 f fd pPiece___len__ (spLen C) := by
  have m_len := T.len
  refine F.ok scPiece___len__ (fun vs H Q E h => ?_) (fun cdv A outer s H vs Q E hr h => ?_)
  · obtain ⟨p, n, r, rfl, _⟩ := h
    rfl
  · obtain ⟨p, n, r, rfl, ⟨⟨dx, l, h1, h2⟩, lo, hi, hl⟩, k⟩ := h
    refine ⟨_, PSs.nox (pss_one (ps_ret (pe_callB call_len_str (by rfl) m_len PySem.boot_len (pa_cons (pe_fldK K (pv 0) rfl) pa_nil)))), ?_⟩
    refine ⟨_, rfl, p, C, dx, _, _, rfl, h1, T.c, T.nS, pf_signs _ _ _, _, rfl, line200 (by rw [st_len, sg_len]; omega), ?_⟩
    rw [st_len, sg_len]
    exact k
theorem scPiece_marks : FnScope nPiece_marks pPiece_marks (defScope sPiece_marks) := ⟨rfl, rfl, rfl, by decide +kernel, rfl, by decide +kernel, by decide +kernel⟩
theorem ok_marks (T : PieceTx K mg C) {f : Addr} {fd : FuncData} (F : FunD K "marks" "Piece.marks" (defArgs sPiece_marks) (defBody sPiece_marks) (defScope sPiece_marks) [] [] f fd) : FnOk P w K mg base CX0 1 f fd pPiece_marks (spMarks C) := by
  have m_list := T.list
  refine F.ok scPiece_marks (fun vs H Q E h => ?_) (fun cdv A outer s H vs Q E hr h => ?_)
  · obtain ⟨p, n, r, rfl, _⟩ := h
    rfl
  · obtain ⟨p, n, r, rfl, ⟨⟨dx, l, h1, h2⟩, _⟩, k⟩ := h
    refine ⟨_, PSs.nox (pss_one (ps_ret (pe_callTy (call_listK K) (by rfl) m_list (by decide +kernel) (pa_cons (pe_fldK K (pv 0) rfl) pa_nil)))), ?_⟩
    exact ⟨_, rfl, p, C, dx, _, _, rfl, h1, T.c, T.nM, pf_marks _ _ _, l, _, rfl, .inl (SqL.of h2), k⟩
theorem fillS : ("~" : Str) = st [126] := by decide +kernel
theorem scPiece_put : FnScope nPiece_put pPiece_put (defScope sPiece_put) := ⟨rfl, rfl, rfl, by decide +kernel, rfl, by decide +kernel, by decide +kernel⟩
set_option maxHeartbeats 8000000 in
theorem ok_put (T : PieceTx K mg C) (D_is_from : Df P w K mg base 2 "is_from" pis_from spFromI) {f : Addr} {fd : FuncData} (F : FunD K "put" "Piece.put" (defArgs sPiece_put) (defBody sPiece_put) (defScope sPiece_put) [] [("mark", .non)] f fd) : FnOk P w K mg base CX0 3 f fd pPiece_put (spPut C) := by
  obtain ⟨f_is_from, fd_is_from, m_is_from, k_is_from, b_is_from, G_is_from⟩ := D_is_from
  obtain ⟨t1, m_FILLER⟩ := T.mFill
  have m_len := T.len
  have m_max := T.max
  refine F.ok scPiece_put (fun vs H Q E h => ?_) (fun cdv A outer s H vs Q E hr h => ?_)
  · obtain ⟨p, n, r, k, s, m, rfl, _⟩ := h
    rfl
  · obtain ⟨p, n, r, k, s, m, rfl, ⟨⟨dx, l, h1, h2⟩, lo, hi, hl⟩, hk, q⟩ := h
    refine ⟨_, PSs.nox (pss_cons (ps_if (pt_not (pt_val (pe_call G_is_from (by exact hr.mono (by decide)) rfl m_is_from k_is_from b_is_from .nil pass0 (pa_cons (pv 1) (pa_cons pe_int (pa_cons (pe_op op_sub (pe_fldK K (pv 0) rfl) (pe_callB call_len_str (by rfl) m_len PySem.boot_len (pa_cons (pv 2) pa_nil))) pa_nil)))))) (pss_one ps_never) pss_nil) (pss_cons (ps_set (i := 4) scPiece_put.nd rfl (Or.inl rfl) (pe_callB (call_max2 rfl) (by rfl) m_max (by decide +kernel) (pa_cons pe_int (pa_cons (pe_op op_sub (pv 1) (pe_callB call_len_str (by rfl) m_len PySem.boot_len (pa_cons (pe_fldK K (pv 0) rfl) pa_nil))) pa_nil)))) (pss_cons (ps_set (i := 5) scPiece_put.nd rfl (Or.inl rfl) (pe_op op_add (pv 1) (pe_callB call_len_str (by rfl) m_len PySem.boot_len (pa_cons (pv 2) pa_nil)))) (pss_cons (ps_par (i := 6) (j := 7) (by rfl) scPiece_put.nd rfl rfl (by decide) rfl rfl (pa_cons (pe_op op_add_str (pe_fldK K (pv 0) rfl) (pe_op op_mul_str (pe_glob (v := (.str "~")) rfl m_FILLER ⟨_, rfl⟩) (pv 4))) (pa_cons (pe_op op_cat (pe_fldK K (pv 0) rfl) (pe_op op_rep (pe_lst (pa_cons pe_non pa_nil)) (pv 4))) pa_nil)) (by rfl)) (pss_cons (ps_fld (pv 0) (pe_op op_add_str (pe_op op_add_str (pe_slice sl_str (pv 6) po_none (po_some (pv 1))) (pv 2)) (pe_slice sl_str (pv 6) (po_some (pv 5)) po_none)) rfl) (pss_one (ps_fld (pv 0) (pe_op op_cat (pe_op op_cat (pe_slice (sl_listK K) (pv 7) po_none (po_some (pv 1))) (pe_op op_rep (pe_lst (pa_cons (pv 3) pa_nil)) (pe_callB call_len_str (by rfl) m_len PySem.boot_len (pa_cons (pv 2) pa_nil)))) (pe_slice (sl_listK K) (pv 7) (po_some (pv 5)) po_none)) rfl))))))), ?_⟩
    refine ⟨_, rfl, _, rfl, p, C, dx, _, _, rfl, h1, T.c, T.nZ, pf_size _ _ _, _, rfl, _, rfl, line200 (by rw [st_len]; omega), _, _, rfl, rfl, k, 0, n - ((st s).length : Int), rfl, true, ?_, iteF ?_⟩
    · exact congrArg V.bl (by rw [st_len, decide_eq_true (by omega), decide_eq_true (by omega)]; rfl)
    refine ⟨_, rfl, _, rfl, p, C, dx, _, _, rfl, h1, T.c, T.nS, pf_signs _ _ _, _, rfl, line200 (by rw [st_len, sg_len]; omega), _, _, rfl, rfl, _, _, rfl, ?_⟩
    rw [st_len, sg_len]
    generalize hL : (if (k : Int) - (r.length : Int) > 0 then (k : Int) - (r.length : Int) else 0) = L
    obtain rfl : L = ((k - r.length : Nat) : Int) := by
      rw [← hL]
      split <;> omega
    generalize hN : k - r.length = N
    refine ⟨_, rfl, _, rfl, _, rfl, line200 (by rw [st_len]; omega), _, _, rfl, rfl, ?_⟩
    have eN : V.int ((k : Int) + ((st s).length : Int)) = V.int ((k + s.length : Nat) : Int) := by
      rw [st_len]
      exact congrArg V.int (by omega)
    have hN' : N ≤ 200 := by omega
    have hr' : r.length ≤ 200 := by omega
    have fl1 : ((List.replicate N ([126] : List Nat)).flatten).length = N := by simp
    refine ⟨_, rfl, p, C, dx, _, _, rfl, h1, T.c, T.nS, pf_signs _ _ _, _, rfl, _, _, rfl, rfl, (by rw [fillS]; exact mulOk_of (by simp; omega) (by omega)), _, _, rfl, rfl, ?_, ?_⟩
    · rw [fillS, st_mul, st_len, st_len, sg_len, fl1]
      exact line200 (by omega)
    rw [fillS, st_mul, st_app]
    refine ⟨_, rfl, p, C, dx, _, _, rfl, h1, T.c, T.nM, pf_marks _ _ _, (by show 1 ≤ sizeLine; decide), fun l1 n1 => ?_⟩
    refine ⟨_, rfl, l1, _, [V.non], rfl, rfl, upd_same, by omega, by omega, line200 (by simp; omega), fun l2 n2 => ?_⟩
    rw [Int.toNat_natCast]
    have s1 : Same H (upd (upd H l1 (.lst [V.non])) l2 (.lst (List.replicate N [V.non]).flatten)) := (Same.new n1).trans (Same.new n2)
    have fl2 : ((List.replicate N ([V.non] : List V)).flatten).length = N := by simp
    refine ⟨l, l2, _, _, rfl, rfl, s1 _ _ h2, upd_same, line200 (by rw [mk_len, fl2]; omega), fun l3 n3 => ?_⟩
    have s2 := s1.trans (Same.new (o := .lst (mk r ++ (List.replicate N [V.non]).flatten)) n3)
    have hl3 : upd (upd (upd H l1 (.lst [V.non])) l2 (.lst (List.replicate N [V.non]).flatten)) l3 (.lst (mk r ++ (List.replicate N [V.non]).flatten)) l3 = some (.lst (mk r ++ (List.replicate N [V.non]).flatten)) := upd_same
    generalize hH3 : upd (upd (upd H l1 (.lst [V.non])) l2 (.lst (List.replicate N [V.non]).flatten)) l3 (.lst (mk r ++ (List.replicate N [V.non]).flatten)) = H3 at s2 hl3
    refine ⟨_, _, rfl, ?_⟩
    have lt : ∀ x : Str, x = st (sg r ++ (List.replicate N [126]).flatten) → x.length ≤ sizeLine := fun x e => by
      rw [e, st_len, List.length_append, sg_len, fl1]
      exact line200 (by omega)
    refine ⟨_, rfl, _, rfl, _, rfl, _, rfl, lt _ rfl, ?_⟩
    rw [st_take]
    have hs' : s.length ≤ 200 := by omega
    have z1 : ((sg r ++ (List.replicate N [126]).flatten).take k).length ≤ 400 := by
      rw [List.length_take, List.length_append, sg_len, fl1]
      omega
    have z2 : ((sg r ++ (List.replicate N [126]).flatten).drop (k + s.length)).length ≤ 400 := by
      rw [List.length_drop, List.length_append, sg_len, fl1]
      omega
    refine ⟨_, rfl, _, _, rfl, rfl, line200 (by rw [st_len, st_len]; omega), ?_⟩
    rw [st_app]
    refine ⟨_, rfl, _, rfl, ((k + s.length : Nat) : Int), eN, _, rfl, lt _ rfl, ?_⟩
    rw [st_drop]
    refine ⟨_, _, rfl, rfl, line200 (by rw [st_len, st_len, List.length_append]; omega), ?_⟩
    rw [st_app]
    refine ⟨_, rfl, p, C, dx, _, rfl, s2 _ _ h1, T.c, T.nS, (by show 3 < 1000; decide), ?_⟩
    have npl3 : l3 ≠ p := (ne_of (s2 _ _ h1) hl3 (by intro z; cases z)).symm
    have hu : ∀ o : HO, upd H3 p o l3 = some (.lst (mk r ++ (List.replicate N [V.non]).flatten)) := fun o => by rw [upd_ne npl3]; exact hl3
    refine ⟨_, rfl, _, rfl, _, rfl, l3, _, rfl, SqL.of (hu _), fun l4 n4 => ?_⟩
    rw [cutV_take]
    refine ⟨_, rfl, (by show 1 ≤ sizeLine; decide), fun l5 n5 => ?_⟩
    refine ⟨_, rfl, _, rfl, line200 (by rw [st_len]; omega), l5, _, [m], rfl, rfl, upd_same, by rw [st_len]; omega, by rw [st_len]; omega, line200 (by rw [st_len]; simp; omega), fun l6 n6 => ?_⟩
    rw [st_len, Int.toNat_natCast]
    have hp4 : ∀ o : HO, upd H3 p o p = some o := fun o => upd_same
    generalize hH4 : upd H3 p _ = H4 at n4 n5 n6
    have hl34 : H4 l3 = some (.lst (mk r ++ (List.replicate N [V.non]).flatten)) := by rw [← hH4]; exact hu _
    have t4 := Same.new (o := .lst ((mk r ++ (List.replicate N [V.non]).flatten).take k)) n4
    have t5 := Same.new (o := .lst [m]) n5
    have t6 := Same.new (o := .lst (List.replicate s.length [m]).flatten) n6
    have fl3 : ((List.replicate s.length ([m] : List V)).flatten).length = s.length := by simp
    have y1 : ((mk r ++ (List.replicate N [V.non]).flatten).take k).length ≤ 400 := by
      rw [List.length_take, List.length_append, mk_len, fl2]
      omega
    have y2 : ((mk r ++ (List.replicate N [V.non]).flatten).drop (k + s.length)).length ≤ 400 := by
      rw [List.length_drop, List.length_append, mk_len, fl2]
      omega
    refine ⟨l4, l6, _, _, rfl, rfl, t6 _ _ (t5 _ _ upd_same), upd_same, line200 (by rw [fl3]; omega), fun l7 n7 => ?_⟩
    have t7 := Same.new (o := .lst ((mk r ++ (List.replicate N [V.non]).flatten).take k ++ (List.replicate s.length [m]).flatten)) n7
    refine ⟨_, rfl, _, rfl, ((k + s.length : Nat) : Int), eN, l3, _, rfl, SqL.of (t7 _ _ (t6 _ _ (t5 _ _ (t4 _ _ hl34)))), fun l8 n8 => ?_⟩
    rw [cutV_drop]
    have t8 := Same.new (o := .lst ((mk r ++ (List.replicate N [V.non]).flatten).drop (k + s.length))) n8
    refine ⟨l7, l8, _, _, rfl, rfl, t8 _ _ upd_same, upd_same, line200 (by rw [List.length_append, fl3]; omega), fun l9 n9 => ?_⟩
    have t9 := Same.new (o := .lst (((mk r ++ (List.replicate N [V.non]).flatten).take k ++ (List.replicate s.length [m]).flatten) ++ (mk r ++ (List.replicate N [V.non]).flatten).drop (k + s.length))) n9
    have t49 := (((t4.trans t5).trans (t6.trans t7)).trans (t8.trans t9))
    have hp5 : H4 p = some (.ins C dx (putF "own_signs" (.str (st ((sg r ++ (List.replicate N [126]).flatten).take k ++ s ++ (sg r ++ (List.replicate N [126]).flatten).drop (k + s.length)))) (pf n (st (sg r)) l))) := by rw [← hH4]; exact upd_same
    refine ⟨_, rfl, p, C, dx, _, rfl, t49 _ _ hp5, T.c, T.nM, (by show 3 < 1000; decide), ?_⟩
    have nl9 : H l9 = none := by
      cases hz : H l9 with
      | none => rfl
      | some u =>
        have nlp9 : l9 ≠ p := (ne_of_none (((t4.trans t5).trans (t6.trans t7)).trans t8 _ _ hp5) n9).symm
        have : H4 l9 = some u := by rw [← hH4, upd_ne nlp9]; exact s2 _ _ hz
        rw [(((t4.trans t5).trans (t6.trans t7)).trans t8) _ _ this] at n9
        cases n9
    refine q _ ⟨⟨dx, l9, ?_, ?_⟩, lo, hi, ?_⟩ (fun b u hb e => ?_) fun l' hl' => MkNot.of (H0 := H) upd_same nl9 hl'
    · rw [upd_same, putRow_sg, hN]
      rfl
    · have nlp : l9 ≠ p := (ne_of_none (((t4.trans t5).trans (t6.trans t7)).trans t8 _ _ hp5) n9).symm
      rw [upd_ne nlp, upd_same, putRow_mk, hN]
    · rw [putRow_len]
      omega
    · rw [upd_ne hb]
      refine t49 _ _ ?_
      rw [← hH4, upd_ne hb]
      exact s2 _ _ e
theorem scPiece___repr__ : FnScope nPiece___repr__ pPiece___repr__ (defScope sPiece___repr__) := ⟨rfl, rfl, rfl, by decide +kernel, rfl, by decide +kernel, by decide +kernel⟩
theorem ok_repr (T : PieceTx K mg C) {f : Addr} {fd : FuncData} (F : FunD K "__repr__" "Piece.__repr__" (defArgs sPiece___repr__) (defBody sPiece___repr__) (defScope sPiece___repr__) [] [] f fd) : FnOk P w K mg base CX0 1 f fd pPiece___repr__ (spRepr C) := by
  have m_len := T.len
  refine F.ok scPiece___repr__ (fun vs H Q E h => ?_) (fun cdv A outer s H vs Q E hr h => ?_)
  · obtain ⟨p, n, r, rfl, _⟩ := h
    rfl
  · obtain ⟨p, n, r, rfl, ⟨⟨dx, l, h1, h2⟩, lo, hi, hl⟩, k⟩ := h
    refine ⟨_, PSs.nox (pss_one (ps_ret (pe_joined (PJ.cons pe_str (PJ.cons (pe_fmt (pe_callB call_len_str (by rfl) m_len PySem.boot_len (pa_cons (pe_fldK K (pv 0) rfl) pa_nil))) (PJ.cons pe_str (PJ.cons (pe_fmt (pe_fldK K (pv 0) rfl)) (PJ.cons pe_str PJ.nil)))))))), ?_⟩
    have lg : ∀ i : Int, 0 ≤ i → i ≤ 200 → i.natAbs.log2 < 1920 ∧ (toString i : Str).length ≤ 100 := fun i i0 i1 => ⟨Nat.lt_of_le_of_lt (Nat.log2_le_self _) (by omega), small_text i0 i1⟩
    have h6 : ("Piece(" : Str).length = 6 := by decide +kernel
    have h4 : (" of " : Str).length = 4 := by decide +kernel
    have h1' : (")" : Str).length = 1 := by decide +kernel
    have la : ∀ a b : Str, (a ++ b).length = a.length + b.length := fun a b => by
      rw [← st_of a, ← st_of b, st_app, st_len, st_len, st_len, List.length_append]
    have e0 : ∀ a : Str, Str.empty ++ a = a := fun a => by
      rw [← st_of a]
      show st [] ++ st _ = _
      rw [st_app, List.nil_append]
    obtain ⟨g1, g2⟩ := lg n (by omega) hi
    obtain ⟨g3, g4⟩ := lg (r.length : Int) (by omega) (by omega)
    refine ⟨_, rfl, ?_, _, rfl, p, C, dx, _, _, rfl, h1, T.c, T.nS, pf_signs _ _ _, _, rfl, line200 (by rw [st_len, sg_len]; omega), ?_⟩
    · rw [e0, h6]
      exact line200 (by omega)
    rw [st_len, sg_len, e0]
    refine .inr ⟨_, rfl, g3, _, rfl, line200 (by rw [la, h6]; omega), _, rfl, line200 (by rw [la, la, h6, h4]; omega), _, rfl, p, C, dx, _, _, rfl, h1, T.c, T.nZ, pf_size _ _ _, .inr ⟨_, rfl, g1, _, rfl, line200 (by rw [la, la, la, h6, h4]; omega), _, rfl, line200 (by rw [la, la, la, la, h6, h4, h1']; omega), k⟩⟩
end

/-! ### rows by their data: a mark is None, or a pair of a text and a number -/
abbrev MD := Option (Str × Int)
abbrev RowT := List (Nat × MD)
def MkAt (H : Hp) (m : V) (d : MD) : Prop := match d with
  | none => m = .non
  | some (z, i) => PyData.strOk z = true ∧ ∃ a, m = .ref a ∧ H a = some (.tup [.str z, .int i])
def RowD (H : Hp) : Row → RowT → Prop
  | [], [] => True
  | (c, m) :: r, (c', d) :: R => c = c' ∧ MkAt H m d ∧ RowD H r R
  | _, _ => False
def mdata : MD → PyData
  | none => .none
  | some (z, i) => .tuple [.str z, .int i]
/-- what is changed is no tuple -/
def Tups (H H' : Hp) : Prop := ∀ b xs, H b = some (.tup xs) → H' b = some (.tup xs)
theorem MkAt.keep {H H' : Hp} {m : V} {d : MD} (h : MkAt H m d) (e : Tups H H') : MkAt H' m d := by
  cases d with
  | none => exact h
  | some q =>
    obtain ⟨z, i⟩ := q
    obtain ⟨h1, a, h2, h3⟩ := h
    exact ⟨h1, a, h2, e _ _ h3⟩
theorem RowD.keep {H H' : Hp} (e : Tups H H') : ∀ {r : Row} {R : RowT}, RowD H r R → RowD H' r R
  | [], [], _ => trivial
  | (c, m) :: r, (c', d) :: R, h => ⟨h.1, h.2.1.keep e, RowD.keep e h.2.2⟩
  | [], _ :: _, h => h
  | _ :: _, [], h => h
theorem RowD.len {H : Hp} : ∀ {r : Row} {R : RowT}, RowD H r R → r.length = R.length
  | [], [], _ => rfl
  | _ :: _, _ :: _, h => congrArg Nat.succ (RowD.len h.2.2)
  | [], _ :: _, h => h.elim
  | _ :: _, [], h => h.elim
theorem RowD.app {H : Hp} : ∀ {r : Row} {R : RowT} {r' : Row} {R' : RowT}, RowD H r R → RowD H r' R' → RowD H (r ++ r') (R ++ R')
  | [], [], _, _, _, h' => h'
  | _ :: _, _ :: _, _, _, h, h' => ⟨h.1, h.2.1, RowD.app h.2.2 h'⟩
  | [], _ :: _, _, _, h, _ => h.elim
  | _ :: _, [], _, _, h, _ => h.elim
theorem RowD.take {H : Hp} : ∀ {r : Row} {R : RowT} (n : Nat), RowD H r R → RowD H (r.take n) (R.take n)
  | _, _, 0, _ => trivial
  | [], [], _ + 1, _ => trivial
  | _ :: _, _ :: _, n + 1, h => ⟨h.1, h.2.1, RowD.take n h.2.2⟩
  | [], _ :: _, _ + 1, h => h.elim
  | _ :: _, [], _ + 1, h => h.elim
theorem RowD.drop {H : Hp} : ∀ {r : Row} {R : RowT} (n : Nat), RowD H r R → RowD H (r.drop n) (R.drop n)
  | _, _, 0, h => h
  | [], [], _ + 1, _ => trivial
  | _ :: _, _ :: _, n + 1, h => RowD.drop n h.2.2
  | [], _ :: _, _ + 1, h => h.elim
  | _ :: _, [], _ + 1, h => h.elim
theorem RowD.fill {H : Hp} (n : Nat) : RowD H (List.replicate n (126, V.non)) (List.replicate n (126, none)) := by
  induction n with
  | zero => exact trivial
  | succ n ih => exact ⟨rfl, rfl, ih⟩
theorem RowD.signs {H : Hp} {m : V} {d : MD} (h : MkAt H m d) : ∀ s : List Nat, RowD H (s.map fun c => (c, m)) (s.map fun c => (c, d))
  | [] => trivial
  | _ :: s => ⟨rfl, h, RowD.signs h s⟩
theorem RowD.put {H : Hp} {r : Row} {R : RowT} {k : Nat} {s : List Nat} {m : V} {d : MD} (h : RowD H r R) (hm : MkAt H m d) : RowD H (putRow r k s m) (putG none R k s d) := by
  have hb := h.app (RowD.fill (k - r.length))
  unfold putRow putG
  rw [h.len] at hb ⊢
  exact ((hb.take k).app (RowD.signs hm s)).app (hb.drop _)
theorem RowD.sg {H : Hp} : ∀ {r : Row} {R : RowT}, RowD H r R → sg r = R.map (·.1)
  | [], [], _ => rfl
  | (c, m) :: r, (c', d) :: R, h => by
    show c :: My.sg r = c' :: R.map (·.1)
    rw [h.1, RowD.sg h.2.2]
  | [], _ :: _, h => h.elim
  | _ :: _, [], h => h.elim
theorem MkAt.dp {K : PySem.W.Frag} {H : Hp} {m : V} {d : MD} (h : MkAt H m d) : Dp K H m (mdata d) := by
  cases d with
  | none =>
    have : m = .non := h
    rw [this]
    exact .non
  | some q =>
    obtain ⟨z, i⟩ := q
    obtain ⟨_, a, rfl, h3⟩ := h
    exact .tup (.inl (.inl h3)) (.cons (.str _) (.cons (.int _) .nil))
theorem RowD.dps {K : PySem.W.Frag} {H : Hp} : ∀ {r : Row} {R : RowT}, RowD H r R → DpAll K H (mk r) (R.map fun x => mdata x.2)
  | [], [], _ => .nil
  | _ :: _, _ :: _, h => .cons h.2.1.dp (RowD.dps h.2.2)
  | [], _ :: _, h => h.elim
  | _ :: _, [], h => h.elim
theorem MkAt.lay {H : Hp} {m : V} {d : MD} (h : MkAt H m d) : (mdata d).canLay0 = true := by
  cases d with
  | none => rfl
  | some q =>
    obtain ⟨z, i⟩ := q
    show (PyData.strOk z && (true && true)) = true
    rw [h.1]
    rfl
theorem RowD.lay {H : Hp} : ∀ {r : Row} {R : RowT}, RowD H r R → PyData.canLayAll0 (R.map fun x => mdata x.2) = true
  | [], [], _ => rfl
  | (_, _) :: _, (_, _) :: R, h => by
    show (_ && _) = true
    rw [h.2.1.lay]
    exact RowD.lay h.2.2
  | [], _ :: _, h => h.elim
  | _ :: _, [], h => h.elim
theorem mdepth (d : MD) : (mdata d).depth ≤ 3 := by
  cases d with
  | none => decide
  | some q =>
    obtain ⟨z, i⟩ := q
    show max 0 (max 0 0) + 1 ≤ 3
    decide
/-- at p a Piece of this size with a row of these data -/
def PcIs (C : Addr) (H : Hp) (p : Addr) (n : Int) (R : RowT) : Prop := ∃ r, PcAt C H p n r ∧ RowD H r R
theorem PcIs.same {C : Addr} {H H' : Hp} {p : Addr} {n : Int} {R : RowT} (h : PcIs C H p n R) (e : Same H H') : PcIs C H' p n R := by
  obtain ⟨r, h1, h2⟩ := h
  exact ⟨r, h1.same e, h2.keep fun b xs q => e _ _ q⟩
/-- all but p stands -/
def But (p : Addr) (H H' : Hp) : Prop := ∀ b u, b ≠ p → H b = some u → H' b = some u
theorem PcIs.but {C : Addr} {H H' : Hp} {p q : Addr} {n : Int} {R : RowT} {xs : List V} (h : PcIs C H p n R) (e : But q H H') (ne : p ≠ q) (nl : ∀ l, H l ≠ none → l = q → ∀ ys, H l ≠ some (.lst ys)) (nt : ∀ ys, H q ≠ some (.tup ys)) : PcIs C H' p n R := by
  obtain ⟨r, ⟨⟨dx, l, h1, h2⟩, h3, h4, h5⟩, hr⟩ := h
  have hlq : l ≠ q := fun z => nl l (by rw [h2]; simp) z _ h2
  exact ⟨r, ⟨⟨dx, l, e _ _ ne h1, e _ _ hlq h2⟩, h3, h4, h5⟩, hr.keep fun b xs q' => e _ _ (fun z => nt xs (by rw [← z]; exact q')) q'⟩
/-- the law's own row: a list at l of pairs -/
def Pairs (H : Hp) : List Addr → Row → Prop
  | [], [] => True
  | a :: as, x :: r => H a = some (.tup [.str (st [x.1]), x.2]) ∧ Pairs H as r
  | _, _ => False
theorem Pairs.keep {H H' : Hp} (e : Tups H H') : ∀ {as : List Addr} {r : Row}, Pairs H as r → Pairs H' as r
  | [], [], _ => trivial
  | _ :: _, _ :: _, h => ⟨e _ _ h.1, Pairs.keep e h.2⟩
  | [], _ :: _, h => h
  | _ :: _, [], h => h
theorem Pairs.len {H : Hp} : ∀ {as : List Addr} {r : Row}, Pairs H as r → as.length = r.length
  | [], [], _ => rfl
  | _ :: _, _ :: _, h => congrArg Nat.succ (Pairs.len h.2)
  | [], _ :: _, h => h.elim
  | _ :: _, [], h => h.elim
theorem Pairs.app {H : Hp} : ∀ {as : List Addr} {r : Row} {bs : List Addr} {r' : Row}, Pairs H as r → Pairs H bs r' → Pairs H (as ++ bs) (r ++ r')
  | [], [], _, _, _, h' => h'
  | _ :: _, _ :: _, _, _, h, h' => ⟨h.1, Pairs.app h.2 h'⟩
  | [], _ :: _, _, _, h, _ => h.elim
  | _ :: _, [], _, _, h, _ => h.elim
theorem Pairs.take {H : Hp} : ∀ {as : List Addr} {r : Row} (n : Nat), Pairs H as r → Pairs H (as.take n) (r.take n)
  | _, _, 0, _ => trivial
  | [], [], _ + 1, _ => trivial
  | _ :: _, _ :: _, n + 1, h => ⟨h.1, Pairs.take n h.2⟩
  | [], _ :: _, _ + 1, h => h.elim
  | _ :: _, [], _ + 1, h => h.elim
theorem Pairs.drop {H : Hp} : ∀ {as : List Addr} {r : Row} (n : Nat), Pairs H as r → Pairs H (as.drop n) (r.drop n)
  | _, _, 0, h => h
  | [], [], _ + 1, _ => trivial
  | _ :: _, _ :: _, n + 1, h => Pairs.drop n h.2
  | [], _ :: _, _ + 1, h => h.elim
  | _ :: _, [], _ + 1, h => h.elim
theorem Pairs.get {H : Hp} : ∀ {as : List Addr} {r : Row} {i : Nat} {a : Addr}, Pairs H as r → as[i]? = some a → ∃ x, r[i]? = some x ∧ H a = some (.tup [.str (st [x.1]), x.2])
  | [], [], i, a, _, e => by simp at e
  | b :: as, x :: r, 0, a, h, e => by
    have : b = a := by simpa using e
    subst this
    exact ⟨x, rfl, h.1⟩
  | b :: as, x :: r, i + 1, a, h, e => Pairs.get (i := i) h.2 (by simpa using e)
  | [], _ :: _, _, _, h, _ => h.elim
  | _ :: _, [], _, _, h, _ => h.elim
def ownD (n : Int) (l : Addr) : List (Key × V) := [(Sum.inr "wide", .int n), (Sum.inr "row", .ref l)]
theorem own_wide (n : Int) (l : Addr) : valV (ownD n l) (Sum.inr ("wide" : Str)) = some (.int n) := rfl
theorem own_row (n : Int) (l : Addr) : valV (ownD n l) (Sum.inr ("row" : Str)) = some (.ref l) := rfl
/-- at d the law's own dict of a width and a row (a list at l) -/
structure OwnAt (H : Hp) (d l : Addr) (n : Int) (r : Row) : Prop where
  dic : H d = some (.dK (ownD n l))
  row : ∃ as : List Addr, H l = some (.lst (as.map V.ref)) ∧ Pairs H as r
theorem OwnAt.keep {H H' : Hp} {d l : Addr} {n : Int} {r : Row} (h : OwnAt H d l n r) (e : Same H H') : OwnAt H' d l n r := by
  obtain ⟨h1, as, h2, h3⟩ := h
  exact ⟨e _ _ h1, as, e _ _ h2, h3.keep fun b xs q => e _ _ q⟩
def OwnIs (H : Hp) (d l : Addr) (n : Int) (R : RowT) : Prop := ∃ r, OwnAt H d l n r ∧ RowD H r R
theorem OwnIs.same {H H' : Hp} {d l : Addr} {n : Int} {R : RowT} (h : OwnIs H d l n R) (e : Same H H') : OwnIs H' d l n R := by
  obtain ⟨r, h1, h2⟩ := h
  exact ⟨r, h1.keep e, h2.keep fun b xs q => e _ _ q⟩
theorem join_st (l : List Nat) : Txt.join (st []) (l.map fun c => st [c]) = st l := by
  have h : ∀ l : List Nat, TL.joinL [] (l.map fun c => [c]) = l := by
    intro l
    induction l with
    | nil => rfl
    | cons a l ih =>
      cases l with
      | nil => rfl
      | cons b l =>
        show [a] ++ ([] ++ TL.joinL [] ((b :: l).map fun c => [c])) = a :: b :: l
        rw [ih]
        rfl
  have e := TL.tl_join (st []) (l.map fun c => st [c])
  rw [← TL.join_eq] at e
  have e2 : (l.map fun c => st [c]).map TL.tl = l.map fun c => [c] := by
    rw [List.map_map]
    rfl
  rw [e2] at e
  have e3 : TL.tl (st []) = [] := rfl
  rw [e3, h] at e
  rw [← st_of (Txt.join (st []) (l.map fun c => st [c]))]
  exact congrArg st e

/-! ### draws: _law_pool, _law_take, _law_one -/
def PoolO (o : HO) : Prop := ∃ a b : Int, o = .lst [.int a, .int b]
def spPool (K : PySem.W.Frag) : Sp := fun vs H Q _ => ∃ (a : Addr) (ns : List Int) (k : Int), vs = [.ref a, .int k] ∧ SqL K H a (ns.map V.int) ∧ ns.length ≤ 63 ∧ 0 ≤ k ∧ k < 64 ∧
  ∀ (p : Addr) (H' : Hp) (o : HO), H p = none → PoolO o → Same H H' → H' p = some o → Q (.ref p) H'
def spTake : Sp := fun vs H Q _ => ∃ (p : Addr) (m : Int) (o : HO), vs = [.ref p, .int m] ∧ H p = some o ∧ PoolO o ∧ 0 < m ∧ m < 1073741824 ∧ ∀ (v : Int) (o' : HO), 0 ≤ v → v < m → PoolO o' → Q (.int v) (upd H p o')
def spOne (K : PySem.W.Frag) : Sp := fun vs H Q _ => ∃ (p q : Addr) (xs : List V) (o : HO), vs = [.ref p, .ref q] ∧ H p = some o ∧ PoolO o ∧ SqL K H q xs ∧ q ≠ p ∧ 0 < xs.length ∧ xs.length < 1000 ∧ ∀ (v : V) (o' : HO), v ∈ xs → PoolO o' → Q v (upd H p o')
theorem b01 (b : Bool) : -(2 ^ 64) < (if b = true then (1 : Int) else 0) ∧ (if b = true then (1 : Int) else 0) < 2 ^ 64 := by cases b <;> decide
theorem fmod_lt {x m : Int} (h : 0 < m) : 0 ≤ x.fmod m ∧ x.fmod m < m := by
  rw [Int.fmod_eq_emod_of_nonneg _ (Int.le_of_lt h)]
  exact ⟨Int.emod_nonneg _ (by omega), Int.emod_lt_of_pos _ h⟩
section
variable {P : Program} {w : World} {K : PySem.W.Frag} {mg : Str → Option Value} {base : Heap}
theorem sc_law_take : FnScope n_law_take p_law_take (defScope s_law_take) := ⟨rfl, rfl, rfl, by decide +kernel, rfl, by decide +kernel, by decide +kernel⟩
theorem ok_take {f : Addr} {fd : FuncData} (F : FunD K "_law_take" "_law_take" (defArgs s_law_take) (defBody s_law_take) (defScope s_law_take) [] [] f fd) : FnOk P w K mg base CX0 1 f fd p_law_take spTake := by
  refine F.ok sc_law_take (fun vs H Q E h => ?_) (fun cdv A outer s H vs Q E hr h => ?_)
  · obtain ⟨p, m, o, rfl, _⟩ := h
    rfl
  · obtain ⟨p, m, o, rfl, hp, ⟨a, b, rfl⟩, h1, h2, k⟩ := h
    refine ⟨_, PSs.nox (pss_cons (ps_if (pt_cmpR op_gt (pe_ix (ix_listK K) (pv 0) pe_int (fun _ _ => rfl)) pe_int (nomark _)) (pss_cons (ps_set (i := 2) sc_law_take.nd rfl (Or.inl rfl) (pe_op op_modN (pe_ix (ix_listK K) (pv 0) pe_int (fun _ _ => rfl)) (pv 1))) (pss_cons (ps_asg (pe_op op_fdivN (pe_ix (ix_listK K) (pv 0) pe_int (fun _ _ => rfl)) (pv 1)) (pg_sub (pv 0) pe_int set_list)) (pss_one (ps_ret (pv 2))))) pss_nil) (pss_cons (ps_asg (pe_op op_modN (pe_op op_add (pe_op op_mul (pe_ix (ix_listK K) (pv 0) pe_int (fun _ _ => rfl)) pe_int) pe_int) pe_int) (pg_sub (pv 0) pe_int set_list)) (pss_one (ps_ret (pe_op op_modN (pe_op op_fdivN (pe_op op_modN (pe_op op_mul (pe_ix (ix_listK K) (pv 0) pe_int (fun _ _ => rfl)) (pe_ix (ix_listK K) (pv 0) pe_int (fun _ _ => rfl))) pe_int) pe_int) (pv 1)))))), ?_⟩
    have hn : m ≠ 0 := by omega
    refine ⟨_, rfl, p, _, _, _, rfl, rfl, SqL.of hp, rfl, _, _, rfl, rfl, _, rfl, ?_⟩
    refine ite2 (fun hc => ?_) (fun hc => ?_)
    · refine ⟨_, rfl, p, _, _, _, rfl, rfl, SqL.of hp, rfl, _, rfl, _, _, rfl, rfl, hn, ?_⟩
      refine ⟨_, rfl, p, _, _, _, rfl, rfl, SqL.of hp, rfl, _, rfl, _, _, rfl, rfl, ⟨hn, by omega⟩, ?_⟩
      refine ⟨_, rfl, p, _, _, 0, rfl, rfl, hp, rfl, ?_⟩
      refine ⟨_, rfl, ?_⟩
      obtain ⟨q1, q2⟩ := fmod_lt (x := a) h1
      exact k _ _ q1 q2 ⟨_, _, rfl⟩
    · refine ⟨_, rfl, p, _, _, _, rfl, rfl, SqL.of hp, rfl, _, _, rfl, rfl, .inr ⟨by decide, by decide⟩, _, _, rfl, rfl, _, _, rfl, rfl, (show (2147483647 : Int) ≠ 0 by decide), ?_⟩
      refine ⟨_, rfl, p, _, _, 1, rfl, rfl, hp, rfl, ?_⟩
      have bb := fmod_lt (x := b * 69621 + 7) (m := 2147483647) (by decide)
      have hp' : ∀ z : HO, upd H p z p = some z := fun z => upd_same
      refine ⟨_, rfl, p, _, _, _, rfl, rfl, SqL.of upd_same, rfl, _, rfl, p, _, _, _, rfl, rfl, SqL.of upd_same, rfl, _, _, rfl, rfl, .inl ⟨by omega, by omega⟩, _, _, rfl, rfl, (show (2147483629 : Int) ≠ 0 by decide), _, _, rfl, rfl, ⟨by decide, by decide⟩, _, rfl, _, _, rfl, rfl, hn, ?_⟩
      obtain ⟨q1, q2⟩ := fmod_lt (x := (((b * 69621 + 7).fmod 2147483647 * (b * 69621 + 7).fmod 2147483647).fmod 2147483629).fdiv 32) h1
      exact k _ _ q1 q2 ⟨_, _, rfl⟩
theorem sc_law_one : FnScope n_law_one p_law_one (defScope s_law_one) := ⟨rfl, rfl, rfl, by decide +kernel, rfl, by decide +kernel, by decide +kernel⟩
theorem sql_upd {H : Hp} {a p : Addr} {o : HO} {xs : List V} (h : SqL K H a xs) (ne : a ≠ p) : SqL K (upd H p o) a xs := by
  rcases h with (h | ⟨u, h⟩) | h
  · exact .inl (.inl (by rw [upd_ne ne]; exact h))
  · exact .inl (.inr ⟨u, by rw [upd_ne ne]; exact h⟩)
  · exact .inr h
theorem ok_one (m_len : mg "len" = none) (D__law_take : Df P w K mg base 1 "_law_take" p_law_take spTake) {f : Addr} {fd : FuncData} (F : FunD K "_law_one" "_law_one" (defArgs s_law_one) (defBody s_law_one) (defScope s_law_one) [] [] f fd) : FnOk P w K mg base CX0 2 f fd p_law_one (spOne K) := by
  obtain ⟨f__law_take, fd__law_take, m__law_take, k__law_take, b__law_take, G__law_take⟩ := D__law_take
  refine F.ok sc_law_one (fun vs H Q E h => ?_) (fun cdv A outer s H vs Q E hr h => ?_)
  · obtain ⟨p, q, xs, o, rfl, _⟩ := h
    rfl
  · obtain ⟨p, q, xs, o, rfl, hp, ho, hq, ne, l0, l1, k⟩ := h
    refine ⟨_, PSs.nox (pss_one (ps_ret (pe_ix (ix_listK K) (pv 1) (pe_call G__law_take (by exact hr.mono (by decide)) rfl m__law_take k__law_take b__law_take .nil pass0 (pa_cons (pv 0) (pa_cons (pe_callB (call_lenK K) (by rfl) m_len PySem.boot_len (pa_cons (pv 1) pa_nil)) pa_nil))) (fun _ _ => rfl)))), ?_⟩
    refine ⟨_, rfl, _, rfl, _, rfl, q, xs, rfl, .inl hq, p, _, o, rfl, hp, ho, by omega, by omega, fun v o' v0 v1 po => ?_⟩
    have hv : v.toNat < xs.length := by omega
    refine ⟨q, xs, v, xs[v.toNat], rfl, rfl, sql_upd hq ne, ?_, k _ _ (List.getElem_mem hv) po⟩
    exact at_of (j := v.toNat) (by omega) (List.getElem?_eq_getElem hv)
theorem sc_law_pool : FnScope n_law_pool p_law_pool (defScope s_law_pool) := ⟨rfl, rfl, rfl, by decide +kernel, rfl, by decide +kernel, by decide +kernel⟩
theorem ok_pool (m_max : mg "max" = none) (m_int : mg "int" = none) {f : Addr} {fd : FuncData} (F : FunD K "_law_pool" "_law_pool" (defArgs s_law_pool) (defBody s_law_pool) (defScope s_law_pool) [] [] f fd) : FnOk P w K mg base CX0 1 f fd p_law_pool (spPool K) := by
  refine F.ok sc_law_pool (fun vs H Q E h => ?_) (fun cdv A outer s H vs Q E hr h => ?_)
  · obtain ⟨a, ns, k, rfl, _⟩ := h
    rfl
  · obtain ⟨a, ns, i, rfl, ha, hl, i0, i1, k⟩ := h
    refine ⟨_, PSs.nox (pss_cons (ps_set (i := 2) sc_law_pool.nd rfl (Or.inl rfl) (pe_ix (ix_listK K) (pe_op op_cat (pe_slice (sl_listK K) (pv 0) (po_some (pv 1)) (po_some (pe_op op_add (pv 1) pe_int))) (pe_lst (pa_cons pe_int pa_nil))) pe_int (fun _ _ => rfl))) (pss_cons (ps_set (i := 3) sc_law_pool.nd rfl (Or.inl rfl) (pe_callB (call_max2 rfl) (by rfl) m_max (by decide +kernel) (pa_cons (pv 2) (pa_cons (pe_op op_sub (pe_un un_neg pe_int) (pv 2)) pa_nil)))) (pss_cons (ps_set (i := 4) sc_law_pool.nd rfl (Or.inl rfl) (pe_op op_modN (pe_op op_mul (pe_op op_add (pe_op op_add (pe_op op_add (pe_op op_modN (pv 3) pe_int) (pe_op op_mul (pe_op op_mul pe_int (pv 1)) (pv 1))) (pe_op op_mul pe_int (pv 1))) pe_int) pe_int) pe_int)) (pss_one (ps_ret (pe_lst (pa_cons (pe_op op_mul (pv 3) (pe_callTy call_int1 (by rfl) m_int (by decide +kernel) (pa_cons (pe_cmpR op_ge (pv 3) (pe_op op_pow pe_int pe_int) (nomark _)) pa_nil))) (pa_cons (pv 4) pa_nil)))))))), ?_⟩
    refine ⟨_, rfl, _, rfl, _, rfl, _, rfl, _, _, rfl, rfl, _, rfl, a, _, rfl, ha, fun p1 n1 => ?_⟩
    refine ⟨(by show 1 ≤ sizeLine; decide), fun p2 n2 => ?_⟩
    have ne12 : p1 ≠ p2 := fun e => by rw [e, upd_same] at n2; cases n2
    refine ⟨p1, p2, _, _, rfl, rfl, (by rw [upd_ne ne12, upd_same]), upd_same, ?_, fun p3 n3 => ?_⟩
    · have := cutV_length (ns.map V.int) (some i) (some (i + 1))
      rw [List.length_map] at this
      have : (cutV (ns.map V.int) (some i) (some (i + 1))).length + 1 ≤ 100 := by omega
      exact Nat.le_trans this (by decide)
    obtain ⟨c, hc⟩ : ∃ c : Int, (cutV (ns.map V.int) (some i) (some (i + 1)) ++ [V.int 0])[0]? = some (V.int c) := by
      cases hx : cutV (ns.map V.int) (some i) (some (i + 1)) with
      | nil => exact ⟨0, rfl⟩
      | cons y ys =>
        have hy : y ∈ ns.map V.int := by
          have : y ∈ cutV (ns.map V.int) (some i) (some (i + 1)) := by rw [hx]; exact List.mem_cons_self
          exact List.mem_of_mem_drop (List.mem_of_mem_take this)
        obtain ⟨c, _, rfl⟩ := List.mem_map.mp hy
        exact ⟨c, rfl⟩
    refine ⟨p3, _, 0, .int c, rfl, rfl, SqL.of upd_same, atI_nat (j := 0) hc, ?_⟩
    refine ⟨_, rfl, _, rfl, _, rfl, _, _, rfl, rfl, _, _, rfl, ?_⟩
    refine ⟨_, rfl, _, _, rfl, rfl, (show (2147483629 : Int) ≠ 0 by decide), _, rfl, _, _, rfl, rfl, .inl ⟨by decide, by decide⟩, _, rfl, _, _, rfl, rfl, .inr ⟨by omega, by omega⟩, _, _, rfl, rfl, _, rfl, _, _, rfl, rfl, .inl ⟨by decide, by decide⟩, _, _, rfl, rfl, _, _, rfl, rfl, _, _, rfl, rfl, .inr ⟨by decide, by decide⟩, _, _, rfl, rfl, (show (2147483647 : Int) ≠ 0 by decide), ?_⟩
    refine ⟨_, rfl, _, rfl, _, _, rfl, rfl, ⟨by decide, by decide, by decide⟩, _, _, rfl, rfl, .inr ⟨_, rfl, _, _, rfl, rfl, .inr ?_, _, rfl, (by show 2 ≤ sizeLine; decide), fun p4 n4 => ?_⟩⟩
    · exact b01 _
    have s3 : Same H (upd (upd (upd H p1 (HO.lst (cutV (ns.map V.int) (some i) (some (i + 1))))) p2 (.lst [.int 0])) p3 (.lst (cutV (ns.map V.int) (some i) (some (i + 1)) ++ [V.int 0]))) := fun b o e => by
      have e1 : upd H p1 (HO.lst (cutV (ns.map V.int) (some i) (some (i + 1)))) b = some o := by rw [upd_ne (ne_of_none e n1)]; exact e
      have e2 : upd (upd H p1 (HO.lst (cutV (ns.map V.int) (some i) (some (i + 1))))) p2 (.lst [.int 0]) b = some o := by rw [upd_ne (ne_of_none e1 n2)]; exact e1
      rw [upd_ne (ne_of_none e2 n3)]
      exact e2
    exact k p4 _ _ (s3.free n4) ⟨_, _, rfl⟩ (fun b o e => by rw [upd_ne (ne_of_none (s3 _ _ e) n4)]; exact s3 _ _ e) upd_same
end

/-! ### drawn texts and keys -/
def spDrawS : Sp := fun vs H Q _ => ∃ (q : Addr) (m : Int) (po : HO), vs = [.ref q, .int m] ∧ H q = some po ∧ PoolO po ∧ 0 ≤ m ∧ m ≤ 1000 ∧
  ∀ (s : List Nat) (po' : HO) (H' : Hp), (s.length : Int) ≤ m → (∀ c ∈ s, c < 126) → PoolO po' → Same (upd H q po') H' → Q (.str (st s)) H'
def spDrawK : Sp := fun vs H Q _ => ∃ (q : Addr) (po : HO), vs = [.ref q] ∧ H q = some po ∧ PoolO po ∧
  ∀ (z : Str) (i : Int) (po' : HO) (a : Addr) (H' : Hp), PyData.strOk z = true → 1 ≤ i → i ≤ 12 → PoolO po' → H a = none → H' a = some (.tup [.str z, .int i]) → Same (upd H q po') H' → Q (.ref a) H'
theorem same_pool {H H1 : Hp} {q : Addr} {o o2 : HO} (s : Same (upd H q o) H1) : Same (upd H q o2) (upd H1 q o2) := same_upd2 s
theorem upd_free {H : Hp} {q p : Addr} {o : HO} (h : upd H q o p = none) : H p = none ∧ p ≠ q := by
  have ne : p ≠ q := fun e => by
    rw [e, upd_same] at h
    cases h
  exact ⟨by rw [upd_ne ne] at h; exact h, ne⟩
section
variable {P : Program} {w : World} {K : PySem.W.Frag} {mg : Str → Option Value} {base : Heap}
def menuL : List Nat := ("abcXYZ 09.,{}|!&" : Str).cps.toList
theorem menu_len : menuL.length = 16 := by decide +kernel
theorem menu_lt : ∀ c ∈ menuL, c < 126 := by decide +kernel
theorem menu_st : ("abcXYZ 09.,{}|!&" : Str) = st menuL := (st_of _).symm
theorem sc_law_signs : FnScope n_law_signs p_law_signs (defScope s_law_signs) := ⟨rfl, rfl, rfl, by decide +kernel, rfl, by decide +kernel, by decide +kernel⟩
theorem ok_drawS (m_len : mg "len" = none) (m_range : mg "range" = none) (D__law_take : Df P w K mg base 1 "_law_take" p_law_take spTake) {f : Addr} {fd : FuncData} (F : FunD K "_law_signs" "_law_signs" (defArgs s_law_signs) (defBody s_law_signs) (defScope s_law_signs) [] [] f fd) : FnOk P w K mg base CX0 2 f fd p_law_signs spDrawS := by
  obtain ⟨f__law_take, fd__law_take, m__law_take, k__law_take, b__law_take, G__law_take⟩ := D__law_take
  refine F.ok sc_law_signs (fun vs H Q E h => ?_) (fun cdv A outer s H vs Q E hr h => ?_)
  · obtain ⟨q, m, po, rfl, _⟩ := h
    rfl
  · obtain ⟨q, m, po, rfl, hq, hpo, m0, m1, k⟩ := h
    refine ⟨_, PSs.nox (pss_cons (ps_set (i := 2) sc_law_signs.nd rfl (Or.inr rfl) pe_str) (pss_one (ps_ret (pe_join pe_str (pe_lc (own := [("_law_turn", 3)]) (g := gName 3) (by rfl) sc_law_signs.nd (pi_range1 (by rfl) m_range (pa_cons (pe_call G__law_take (by exact hr.mono (by decide)) rfl m__law_take k__law_take b__law_take .nil pass0 (pa_cons (pv 0) (pa_cons (pe_op op_add (pv 1) pe_int) pa_nil))) pa_nil)) (blkOk_by (own := [("_law_turn", 3)]) (N := n_law_signs) (sc := (defScope s_law_signs)) (by decide +kernel)) (fun _ _ _ _ _ => (pg_name (i := 3) sc_law_signs.nd rfl (Or.inl rfl))) (fun _ _ _ _ _ => by exact pts_nil) (fun _ _ _ _ _ => by exact (pe_ix ix_str (pv 2) (pe_call G__law_take (by exact hr.mono (by decide)) rfl m__law_take k__law_take b__law_take .nil pass0 (pa_cons (pv 0) (pa_cons (pe_callB call_len_str (by rfl) m_len PySem.boot_len (pa_cons (pv 2) pa_nil)) pa_nil))) (fun _ _ => rfl)))))))), ?_⟩
    refine ⟨⟨_, rfl⟩, _, rfl, _, rfl, _, _, rfl, rfl, q, m + 1, po, rfl, hq, hpo, by omega, by omega, fun n po1 n0 n1 hpo1 => ⟨_, rfl, by omega, by omega, fun D nD => ?_⟩⟩
    obtain ⟨nD0, nDq⟩ := upd_free nD
    refine lc_range (lo := 0) (n := n.toNat) (fun i H' => ∃ (po' : HO) (cs : List Nat), PoolO po' ∧ cs.length = i ∧ (∀ c ∈ cs, c < 126) ∧ H' D = some (.lst (cs.map fun c => V.str (st [c]))) ∧ Same (upd H q po') H') ⟨po1, [], hpo1, rfl, (fun c hc => by cases hc), upd_same, Same.new nD⟩ ?_ ?_
    · rintro i H' hi ⟨po2, cs, hpo2, hcs, hlt, hD, sH⟩
      refine ⟨rfl, ?_⟩
      have hq' : H' q = some po2 := same_here sH
      refine ⟨_, rfl, _, rfl, _, rfl, _, rfl, (by rw [menu_st, st_len, menu_len]; exact line200 (by decide)), q, _, po2, rfl, hq', hpo2, ?_, ?_, fun v po3 v0 v1 hpo3 => ?_⟩
      · rw [menu_st, st_len, menu_len]
        decide
      · rw [menu_st, st_len, menu_len]
        decide
      rw [menu_st, st_len, menu_len] at v1
      obtain ⟨j, rfl⟩ := Int.eq_ofNat_of_zero_le v0
      have hv : j < menuL.length := by rw [menu_len]; omega
      refine ⟨_, (j : Int), menuL[j], rfl, rfl, (by rw [menu_st, st_len, menu_len]; exact line200 (by decide)), atI_nat (j := j) ?_, cs.map (fun c => V.str (st [c])), ?_, ?_, po3, cs ++ [menuL[j]], hpo3, ?_, ?_, ?_, ?_⟩
      · rw [menu_st, st_codes]
        exact List.getElem?_eq_getElem hv
      · rw [upd_ne nDq]
        exact hD
      · rw [List.length_map, hcs]
        exact Nat.lt_of_le_of_lt (show _ ≤ 2000 by omega) (by decide)
      · rw [List.length_append, hcs]
        rfl
      · intro c hc
        rcases List.mem_append.mp hc with h | h
        · exact hlt c h
        · rw [List.mem_singleton.mp h]
          exact menu_lt _ (List.getElem_mem hv)
      · rw [upd_same, List.map_append]
        rfl
      · exact Same.mut (same_pool sH) (by rw [upd_ne nDq]; exact nD0)
    · rintro H' ⟨po2, cs, hpo2, hcs, hlt, hD, sH⟩
      refine ⟨st [], D, cs.map (fun c => st [c]), rfl, rfl, .inl (SqL.of (by rw [hD, List.map_map]; rfl)), ?_, ?_⟩
      · rw [List.map_map]
        have : (cs.map ((fun x : Str => x.length) ∘ fun c => st [c])).sum = cs.length := by
          clear hcs hlt hD
          induction cs with
          | nil => rfl
          | cons c cs ih =>
            rw [List.map_cons, List.sum_cons, ih]
            show (st [c]).length + cs.length = cs.length + 1
            rw [st_len]
            simp
            omega
        rw [this, List.length_map, st_len]
        simp only [List.length_nil, Nat.mul_zero, Nat.add_zero]
        omega
      · rw [join_st]
        exact k cs po2 H' (by omega) hlt hpo2 sH
theorem sc_law_key : FnScope n_law_key p_law_key (defScope s_law_key) := ⟨rfl, rfl, rfl, by decide +kernel, rfl, by decide +kernel, by decide +kernel⟩
theorem ok_drawK (D__law_take : Df P w K mg base 1 "_law_take" p_law_take spTake) (D__law_one : Df P w K mg base 2 "_law_one" p_law_one (spOne K)) {f : Addr} {fd : FuncData} (F : FunD K "_law_key" "_law_key" (defArgs s_law_key) (defBody s_law_key) (defScope s_law_key) [] [] f fd) : FnOk P w K mg base CX0 3 f fd p_law_key spDrawK := by
  obtain ⟨f__law_take, fd__law_take, m__law_take, k__law_take, b__law_take, G__law_take⟩ := D__law_take
  obtain ⟨f__law_one, fd__law_one, m__law_one, k__law_one, b__law_one, G__law_one⟩ := D__law_one
  refine F.ok sc_law_key (fun vs H Q E h => ?_) (fun cdv A outer s H vs Q E hr h => ?_)
  · obtain ⟨q, po, rfl, _⟩ := h
    rfl
  · obtain ⟨q, po, rfl, hq, hpo, k⟩ := h
    refine ⟨_, PSs.nox (pss_one (ps_ret (pe_tup (pa_cons (pe_call G__law_one (by exact hr.mono (by decide)) rfl m__law_one k__law_one b__law_one .nil pass0 (pa_cons (pv 0) (pa_cons (pe_lst (pa_cons pe_str (pa_cons pe_str (pa_cons pe_str pa_nil)))) pa_nil))) (pa_cons (pe_op op_add pe_int (pe_call G__law_take (by exact hr.mono (by decide)) rfl m__law_take k__law_take b__law_take .nil pass0 (pa_cons (pv 0) (pa_cons pe_int pa_nil)))) pa_nil))))), ?_⟩
    refine ⟨_, rfl, (by show 3 ≤ sizeLine; decide), fun l nl => ?_⟩
    have nlq : l ≠ q := (ne_of_none hq nl).symm
    have s1 := Same.new (o := .lst [.str "ann", .str "bob", .str "abcdefgh"]) nl
    refine ⟨q, l, _, po, rfl, s1 _ _ hq, hpo, SqL.of upd_same, nlq, (by show 0 < 3; decide), (by show 3 < 1000; decide), fun v po1 hv hpo1 => ?_⟩
    obtain ⟨z, rfl, hz⟩ : ∃ z : Str, v = .str z ∧ PyData.strOk z = true := by
      simp only [List.mem_cons, List.not_mem_nil, or_false] at hv
      rcases hv with h | h | h
      · exact ⟨_, h, by decide +kernel⟩
      · exact ⟨_, h, by decide +kernel⟩
      · exact ⟨_, h, by decide +kernel⟩
    refine ⟨_, rfl, q, 12, po1, rfl, upd_same, hpo1, by decide, by decide, fun i po2 i0 i1 hpo2 => ⟨_, _, rfl, rfl, (by show 2 ≤ sizeLine; decide), fun a na => ?_⟩⟩
    have sA : Same (upd H q po2) (upd (upd (upd H l (.lst [.str "ann", .str "bob", .str "abcdefgh"])) q po1) q po2) := by
      rw [upd_upd]
      intro b u e
      by_cases hb : b = q
      · subst hb
        rw [upd_same] at e ⊢
        exact e
      · rw [upd_ne hb] at e ⊢
        exact s1 _ _ e
    have naq := sA.free na
    exact k z (1 + i) po2 a _ hz (by omega) (by omega) hpo2 (upd_free naq).1 upd_same (sA.trans (Same.new na))
end

/-! ### _law_laid: the law's own laying -/
def spLaid : Sp := fun vs H Q _ => ∃ (d l : Addr) (n : Int) (r : Row) (k : Nat) (s : List Nat) (m : V), vs = [.ref d, .int k, .str (st s), m] ∧ OwnAt H d l n r ∧ r.length ≤ 300 ∧ k ≤ 300 ∧ s.length ≤ 300 ∧
  ∀ H' : Hp, OwnAt H' d l n (putRow r k s m) → But l H H' → Q .non H'
theorem But.refl (l : Addr) (H : Hp) : But l H H := fun _ _ _ e => e
theorem But.trans {l : Addr} {H H1 H2 : Hp} (a : But l H H1) (b : But l H1 H2) : But l H H2 := fun c u n e => b c u n (a c u n e)
theorem But.of {l : Addr} {H H1 : Hp} (a : Same H H1) : But l H H1 := fun c u _ e => a c u e
theorem But.upd {l : Addr} {H : Hp} {o : HO} : But l H (L2.upd H l o) := fun c u n e => by rw [upd_ne n]; exact e
theorem But.tups {l : Addr} {H H1 : Hp} {xs : List V} (a : But l H H1) (h : H l = some (.lst xs)) : Tups H H1 := fun b ys e => a b _ (ne_of e h (by intro z; cases z)) e
theorem take_snoc {α : Type} (l : List α) {i : Nat} {x : α} (h : l[i]? = some x) : l.take (i + 1) = l.take i ++ [x] := by
  rw [List.take_add_one, h]
  rfl
section
variable {P : Program} {w : World} {K : PySem.W.Frag} {mg : Str → Option Value} {base : Heap}
theorem sc_law_laid : FnScope n_law_laid p_law_laid (defScope s_law_laid) := ⟨rfl, rfl, rfl, by decide +kernel, rfl, by decide +kernel, by decide +kernel⟩
set_option maxHeartbeats 8000000 in
theorem ok_laid (m_len : mg "len" = none) (m_enumerate : mg "enumerate" = none) {f : Addr} {fd : FuncData} (F : FunD K "_law_laid" "_law_laid" (defArgs s_law_laid) (defBody s_law_laid) (defScope s_law_laid) [] [] f fd) : FnOk P w K mg base CX0 1 f fd p_law_laid spLaid := by
  refine F.ok sc_law_laid (fun vs H Q E h => ?_) (fun cdv A outer s H vs Q E hr h => ?_)
  · obtain ⟨d, l, n, r, k, s, m, rfl, _⟩ := h
    rfl
  · obtain ⟨d, l, n, r, k, s, m, rfl, ⟨hd, as, hl, hp⟩, lr, lk, ls, q⟩ := h
    have hu0 := hu_of hr
    have ndl : d ≠ l := ne_of hd hl (by intro z; cases z)
    refine ⟨_, PSs.nox (pss_cons (ps_set (i := 4) sc_law_laid.nd rfl (Or.inl rfl) (pe_dget hu0 (pv 0) pe_str (fun _ _ => rfl))) (pss_cons (ps_while PassesOwn.never (pt_cmpR op_lt (pe_callB (call_lenK K) (by rfl) m_len PySem.boot_len (pa_cons (pv 4) pa_nil)) (pv 1) (nomark _)) (pss_one (ps_expr (pe_bm PySem.F.plainAttrs_list PySem.F.slot_list_append PySem.F.type_list_append mt_append (pv 4) (pa_cons (pe_tup (pa_cons pe_str (pa_cons pe_non pa_nil))) pa_nil))))) (pss_one (ps_for PassesOwn.never rfl (pi_enumS (by rfl) m_enumerate (pa_cons (pv 2) pa_nil)) (pg_tupK K (n := 2) (by rfl) (pgs_cons (pg_name (i := 5) sc_law_laid.nd rfl (Or.inl rfl)) (pgs_cons (pg_name (i := 6) sc_law_laid.nd rfl (Or.inl rfl)) pgs_nil))) (pss_one (ps_asg (pe_lst (pa_cons (pe_tup (pa_cons (pv 6) (pa_cons (pv 3) pa_nil))) pa_nil)) (pg_slS (pv 4) (po_some (pe_op op_add (pv 1) (pv 5))) (po_some (pe_op op_add (pe_op op_add (pv 1) (pv 5)) pe_int))))))))), ?_⟩
    refine ⟨_, rfl, d, _, rfl, (DGet.k (k := Sum.inr ("row" : Str)) hd : DGet H d (kV (Sum.inr ("row" : Str))) (some (.ref l))), ?_⟩
    refine Evl.q_while (fun w σ H' => ∃ (as : List Addr) (j : Nat), σ = [some (.ref d), some (.int k), some (.str (st s)), some m, some (.ref l), none, none] ∧ w = k - (r.length + j) ∧ r.length + j ≤ max r.length k ∧ H' l = some (.lst (as.map V.ref)) ∧ Pairs H' as (r ++ List.replicate j (126, V.non)) ∧ But l H H') (k - r.length)
      ⟨as, 0, rfl, by simp, by omega, hl, by simpa using hp, But.refl l H⟩ ?_
    rintro w σ H1 ⟨as1, j, rfl, hw, hj, hl1, hp1, bt1⟩
    have la : (as1.map V.ref).length = r.length + j := by
      rw [List.length_map, hp1.len, List.length_append, List.length_replicate]
    refine ⟨_, Evl.et_test (Evl.ev_op (Evl.ev_len (Evl.ev_var rfl) (SqL.of hl1)) (Evl.ev_var rfl) Evl.rv_I0), fun hb H2 e2 => ?_, fun hb H2 e2 => ?_⟩
    · rw [decide_eq_true_eq, la] at hb
      refine ⟨fun σ H' => ∃ (as : List Addr) (j : Nat), σ = [some (.ref d), some (.int k), some (.str (st s)), some m, some (.ref l), none, none] ∧ (k - (r.length + j) < w) ∧ r.length + j ≤ max r.length k ∧ H' l = some (.lst (as.map V.ref)) ∧ Pairs H' as (r ++ List.replicate j (126, V.non)) ∧ But l H H', ?_, ?_⟩
      · rintro σ2 H3 ⟨as2, j2, e1, h1, h2, h3, h4, h5⟩
        exact ⟨_, h1, as2, j2, e1, rfl, h2, h3, h4, h5⟩
      have hl2 := e2 _ _ hl1
      refine ⟨_, rfl, .inl ⟨rfl, _, SqL.of hl2⟩, (by show 2 ≤ sizeLine; decide), fun t nt => ?_⟩
      have st1 := Same.new (o := .tup [.str "~", .non]) nt
      refine ⟨l, _, _, rfl, rfl, st1 _ _ hl2, ?_, ?_⟩
      · rw [la]
        exact Nat.lt_of_le_of_lt (show _ ≤ 1000 by omega) (by decide)
      have bt3 : But l H1 (upd (upd H2 t (.tup [.str "~", .non])) l (.lst (as1.map V.ref ++ [.ref t]))) := ((But.of e2).trans (But.of st1)).trans But.upd
      refine ⟨as1 ++ [t], j + 1, rfl, by omega, by omega, ?_, ?_, bt1.trans bt3⟩
      · rw [upd_same, List.map_append]
        rfl
      · have e3 : List.replicate (j + 1) ((126 : Nat), V.non) = List.replicate j (126, V.non) ++ [(126, V.non)] := List.replicate_succ'
        rw [e3, ← List.append_assoc]
        refine (hp1.keep (bt3.tups hl1)).app ⟨?_, trivial⟩
        have ntl : t ≠ l := (ne_of_none hl2 nt).symm
        rw [upd_ne ntl, upd_same, fillS]
    · rw [decide_eq_false_iff_not, la] at hb
      have hj2 : j = k - r.length := by omega
      subst hj2
      have bt2 : But l H H2 := bt1.trans (But.of e2)
      have hl2 := e2 _ _ hl1
      have hp2 : Pairs H2 as1 (r ++ List.replicate (k - r.length) (126, V.non)) := hp1.keep fun b xs z => e2 _ _ z
      generalize hr1 : r ++ List.replicate (k - r.length) (126, V.non) = r1 at hp2
      have hr1l : k ≤ r1.length ∧ r1.length ≤ 600 := by
        rw [← hr1, List.length_append, List.length_replicate]
        omega
      refine ⟨_, rfl, _, rfl, for_it walk_enumS (fun i σ H' => ∃ (as : List Addr) (v5 v6 : Option V), σ = [some (.ref d), some (.int k), some (.str (st s)), some m, some (.ref l), v5, v6] ∧ H' l = some (.lst (as.map V.ref)) ∧ Pairs H' as (r1.take k ++ (s.take i).map (fun c => (c, m)) ++ r1.drop (k + i)) ∧ But l H H')
        ⟨as1, none, none, rfl, hl2, by simpa using hp2, bt2⟩ (fun _ _ _ _ _ => trivial) ?_ ?_⟩
      · rintro i x σ H3 H4 hi ⟨as2, v5, v6, rfl, hl3, hp3, bt3⟩ ⟨T, y1, y2, rfl, nT, rfl, h1, h2⟩
        cases h1
        have hi' : i < s.length := by
          have : (st s).cps.size = s.length := by rw [st_cps]; simp
          omega
        obtain ⟨c, hc⟩ : ∃ c, s[i]? = some c := ⟨s[i], List.getElem?_eq_getElem hi'⟩
        have hy2 : y2 = V.str (st [c]) := by
          have h3 : ((st s).cps[i]?).map (fun c => V.str ⟨#[c]⟩) = some y2 := h2
          have h4 : (st s).cps[i]? = some c := by
            rw [st_cps]
            simpa using hc
          rw [h4] at h3
          exact (Option.some.inj h3).symm
        subst hy2
        have s4 := Same.new (o := .tup [.int (i : Nat), .str (st [c])]) nT
        refine ⟨T, _, rfl, .inl (.inl upd_same), rfl, _, _, rfl, _, _, rfl, rfl, ?_⟩
        refine ⟨_, rfl, _, rfl, (by show 2 ≤ sizeLine; decide), fun t nt => ⟨(by show 1 ≤ sizeLine; decide), fun l1 nl1 => ?_⟩⟩
        have s5 := s4.trans (Same.new (o := .tup [.str (st [c]), m]) nt)
        have s6 := s5.trans (Same.new (o := .lst [.ref t]) nl1)
        have hl6 := s6 _ _ hl3
        have nll1 : l ≠ l1 := ne_of_none (s5 _ _ hl3) nl1
        have lc : (r1.take k ++ (s.take i).map (fun c => (c, m)) ++ r1.drop (k + i)).length = max r1.length (k + i) := by
          simp only [List.length_append, List.length_take, List.length_drop, List.length_map]
          omega
        refine ⟨_, rfl, _, rfl, _, rfl, _, _, rfl, rfl, _, rfl, _, rfl, _, rfl, _, _, rfl, rfl, _, _, rfl, rfl, _, rfl, l, l1, _, _, k + i, k + i + 1, rfl, rfl, rfl, rfl, hl6, upd_same, nll1, by omega, ?_, ?_, ?_⟩
        · rw [List.length_map, hp3.len, lc]
          omega
        · rw [List.length_map, hp3.len, lc]
          exact line200 (by simp; omega)
        have bt7 : But l H3 _ := (But.of s6).trans (But.upd (o := .lst ((as2.map V.ref).take (k + i) ++ [V.ref t] ++ (as2.map V.ref).drop (k + i + 1))))
        refine ⟨as2.take (k + i) ++ [t] ++ as2.drop (k + i + 1), _, _, rfl, ?_, ?_, bt3.trans bt7⟩
        · rw [upd_same, List.map_append, List.map_append, List.map_take, List.map_drop]
          rfl
        · have hp7 := hp3.keep (bt7.tups hl3)
          have htp : Pairs (upd (upd (upd (upd H3 T (.tup [.int (i : Nat), .str (st [c])])) t (.tup [.str (st [c]), m])) l1 (.lst [.ref t])) l (.lst ((as2.map V.ref).take (k + i) ++ [V.ref t] ++ (as2.map V.ref).drop (k + i + 1)))) [t] [(c, m)] := by
            refine ⟨?_, trivial⟩
            have ntl : t ≠ l := (ne_of_none (s4 _ _ hl3) nt).symm
            rw [upd_ne ntl]
            exact (Same.new nl1) _ _ upd_same
          have e8 : (r1.take k ++ (s.take i).map (fun c => (c, m)) ++ r1.drop (k + i)).take (k + i) ++ [(c, m)] ++ (r1.take k ++ (s.take i).map (fun c => (c, m)) ++ r1.drop (k + i)).drop (k + i + 1) = r1.take k ++ (s.take (i + 1)).map (fun c => (c, m)) ++ r1.drop (k + (i + 1)) := by
            have l1' : (r1.take k ++ (s.take i).map (fun c => (c, m))).length = k + i := by
              rw [List.length_append, List.length_take, List.length_map, List.length_take]
              omega
            rw [List.take_append_of_le_length (by omega), List.take_of_length_le (by omega), List.drop_append, List.drop_of_length_le (by omega), l1', take_snoc s hc, List.map_append]
            simp only [List.nil_append, List.map_cons, List.map_nil, List.append_assoc, List.drop_drop]
            congr 4
            omega
          rw [← e8]
          exact ((hp7.take _).app htp).app (hp7.drop _)
      · rintro σ H3 ⟨as2, v5, v6, rfl, hl3, hp3, bt3⟩
        refine q H3 ⟨bt3 _ _ ndl hd, as2, hl3, ?_⟩ bt3
        have hz : (st s).cps.size = s.length := by rw [st_cps]; simp
        rw [hz, List.take_length] at hp3
        rw [← hr1] at hp3
        exact hp3
end

/-! ### _law_piece_so -/
/-- [e for a, b in rows] -/
theorem lc_prs {K : PySem.W.Frag} {a : Addr} {as : List Addr} {r : Row} {i j : Nat} {te : TE} {vs : List Nat} {σ : L2.St} {H1 : Hp} {D : Addr} {Qd : Hp → Prop} (g : Nat × V → V) (hx : SqL K H1 a (as.map V.ref)) (hp : Pairs H1 as r) (hD : H1 D = none) (hz : as.length ≤ 1000)
    (hw : ∀ x y, wipe (((wipe σ vs).set i (some x)).set j (some y)) vs = wipe σ vs)
    (he : ∀ (x : Nat × V) H', Same H1 H' → ∀ Q : VK, (∀ H'', Same H' H'' → Q (g x) H'') → te (((wipe σ vs).set i (some (.str (st [x.1])))).set j (some x.2)) H' Q)
    (hd : ∀ H', Same H1 H' → H' D = some (.lst (r.map g)) → Qd H') :
    ∃ W : Nat → Nat → Hp → Prop, (∃ m, W 0 m (upd H1 D (.lst []))) ∧ ∀ t m H, W t m H →
      ((Itl K a).stop t H ∧ Qd H) ∨ ((Itl K a).go t H ∧ ∃ Nx : Hp → Prop, (∀ H', Nx H' → ∃ m', m' < m ∧ W (t + 1) m' H') ∧ ∀ x H', (Itl K a).yld t H x H' → gTup K 2 (gCons (gName i) (gCons (gName j) gNil)) x (wipe σ vs) H' fun σ2 H2 => wipe σ2 vs = wipe σ vs ∧ tYes σ2 H2 fun b H3 =>
        if b = true then te σ2 H3 fun y H4 => ∃ acc, H4 D = some (.lst acc) ∧ acc.length < sizeLine ∧ Nx (upd H4 D (.lst (acc ++ [y]))) else Nx H3) := by
  refine lc_list (xs := as.map V.ref) (fun t H' => Same H1 H' ∧ H' D = some (.lst ((r.take t).map g))) ⟨Same.new hD, upd_same⟩ (fun t H' _ p => p.1.seq hx) (fun t x H' ht p => ?_) (fun H' p => ?_)
  · obtain ⟨p1, p2⟩ := p
    obtain ⟨b, hb, rfl⟩ : ∃ b, as[t]? = some b ∧ x = V.ref b := by
      rw [List.getElem?_map] at ht
      cases e : as[t]? with
      | none =>
        rw [e] at ht
        cases ht
      | some b =>
        rw [e] at ht
        exact ⟨b, rfl, (Option.some.inj ht).symm⟩
    obtain ⟨y, hy, hby⟩ := hp.get hb
    refine ⟨b, _, rfl, .inl (.inl (p1 _ _ hby)), rfl, _, _, rfl, _, _, rfl, rfl, hw _ _, ?_⟩
    refine he y H' p1 _ fun H2 s2 => ⟨_, s2 _ _ p2, ?_, Same.mut (p1.trans s2) hD, ?_⟩
    · have := (List.getElem?_eq_some_iff.mp hb).1
      rw [List.length_map, List.length_take]
      exact Nat.lt_of_le_of_lt (show _ ≤ 1000 by omega) (by decide)
    · rw [upd_same, take_snoc r hy, List.map_append]
      rfl
  · obtain ⟨p1, p2⟩ := p
    rw [List.length_map, hp.len, List.take_length] at p2
    exact hd H' p1 p2
theorem at_name {i : Nat} {v : V} {σ : L2.St} {H : Hp} {Q : L2.St → Hp → Prop} (h : Q (σ.set i (some v)) H) : gName i v σ H Q := h
def spSo (C : Addr) : Sp := fun vs H Q _ => ∃ (p d l : Addr) (n : Int) (R : RowT), vs = [.ref p, .ref d] ∧ PcIs C H p n R ∧ OwnIs H d l n R ∧ ∀ H', Same H H' → Q (.bl true) H'
theorem shaped_row {H : Hp} {r : Row} {R : RowT} (h : RowD H r R) : SeqAt.shaped (.list (R.map fun x => mdata x.2)) = true := by
  have h1 : PyData.canLay0 (.list (R.map fun x => mdata x.2)) = true := h.lay
  have h2 : ∀ l : List PyData, (∀ x ∈ l, x.depth ≤ 3) → PyData.depthAll l ≤ 3 := by
    intro l
    induction l with
    | nil => intro _; exact Nat.zero_le _
    | cons a l ih =>
      intro h
      show max a.depth (PyData.depthAll l) ≤ 3
      have := h a List.mem_cons_self
      have := ih fun x hx => h x (List.mem_cons_of_mem _ hx)
      omega
  have h3 : PyData.depth (.list (R.map fun x => mdata x.2)) ≤ 64 := by
    show PyData.depthAll _ + 1 ≤ 64
    have := h2 (R.map fun x => mdata x.2) (fun x hx => by
      obtain ⟨y, _, rfl⟩ := List.mem_map.mp hx
      exact mdepth _)
    omega
  unfold SeqAt.shaped
  rw [h1, decide_eq_true h3]
  rfl
section
variable {P : Program} {w : World} {K : PySem.W.Frag} {mg : Str → Option Value} {base : Heap} {C : Addr}
theorem sc_law_piece_so : FnScope n_law_piece_so p_law_piece_so (defScope s_law_piece_so) := ⟨rfl, rfl, rfl, by decide +kernel, rfl, by decide +kernel, by decide +kernel⟩
set_option maxHeartbeats 8000000 in
theorem ok_so (T : PieceTx K mg C) (m_range : mg "range" = none) (m_repr : mg "repr" = none) (m_str : mg "str" = none) (D_signs : Dm P w K mg base C 1 "signs" pPiece_signs (spSigns C)) (D_marks : Dm P w K mg base C 1 "marks" pPiece_marks (spMarks C)) (D_size : Dm P w K mg base C 1 "size" pPiece_size (spSize C))
    (D_len : Dm P w K mg base C 1 "__len__" pPiece___len__ (spLen C)) (D_repr : Dm P w K mg base C 1 "__repr__" pPiece___repr__ (spRepr C)) {f : Addr} {fd : FuncData} (F : FunD K "_law_piece_so" "_law_piece_so" (defArgs s_law_piece_so) (defBody s_law_piece_so) (defScope s_law_piece_so) [] [] f fd) : FnOk P w K mg base CX0 3 f fd p_law_piece_so (spSo C) := by
  obtain ⟨f_signs, fd_signs, me_signs, b_signs, G_signs⟩ := D_signs
  obtain ⟨f_marks, fd_marks, me_marks, b_marks, G_marks⟩ := D_marks
  obtain ⟨f_size, fd_size, me_size, b_size, G_size⟩ := D_size
  obtain ⟨f_len, fd_len, me_len, b_len, G_len⟩ := D_len
  obtain ⟨f_repr, fd_repr, me_repr, b_repr, G_repr⟩ := D_repr
  have c_Piece := T.c
  have m_len := T.len
  refine F.ok sc_law_piece_so (fun vs H Q E h => ?_) (fun cdv A outer s H vs Q E hr h => ?_)
  · obtain ⟨p, d, l, n, R, rfl, _⟩ := h
    rfl
  · obtain ⟨p, d, l, n, R, rfl, hP, hO, k⟩ := h
    have hu0 := hu_of hr
    refine ⟨_, PSs.nox (pss_cons (ps_for PassesOwn.never rfl (pi_range1 (by rfl) m_range (pa_cons pe_int pa_nil)) (pg_name (i := 2) sc_law_piece_so.nd rfl (Or.inl rfl)) (pss_cons (ps_set (i := 3) sc_law_piece_so.nd rfl (Or.inl rfl) (pe_meth0 (pv 0) c_Piece me_marks G_marks (by exact hr.mono (by decide)) b_marks .nil pass0)) (pss_cons (ps_if (PW.pt (pw_or (pt_cmpR op_ne (pe_meth0 (pv 0) c_Piece me_signs G_signs (by exact hr.mono (by decide)) b_signs .nil pass0) (pe_join pe_str (pe_lc (own := [("_law_sign", 4), ("_law_who", 5)]) (by rfl) sc_law_piece_so.nd (pi_listK K (pe_dget hu0 (pv 1) pe_str (fun _ _ => rfl))) (blkOk_by (own := [("_law_sign", 4), ("_law_who", 5)]) (N := n_law_piece_so) (sc := (defScope s_law_piece_so)) (by decide +kernel)) (fun _ _ _ _ _ => (pg_tupK K (n := 2) (by rfl) (pgs_cons (pg_name (i := 4) sc_law_piece_so.nd rfl (Or.inl rfl)) (pgs_cons (pg_name (i := 5) sc_law_piece_so.nd rfl (Or.inl rfl)) pgs_nil)))) (fun _ _ _ _ _ => by exact pts_nil) (fun _ _ _ _ _ => by exact (pv 4)))) (nomark _)) (pw_or1 (pt_cmpR (op_neDK K (by exact hr.units)) (pv 3) (pe_lc (own := [("_law_sign", 4), ("_law_who", 5)]) (by rfl) sc_law_piece_so.nd (pi_listK K (pe_dget hu0 (pv 1) pe_str (fun _ _ => rfl))) (blkOk_by (own := [("_law_sign", 4), ("_law_who", 5)]) (N := n_law_piece_so) (sc := (defScope s_law_piece_so)) (by decide +kernel)) (fun _ _ _ _ _ => (pg_tupK K (n := 2) (by rfl) (pgs_cons (pg_name (i := 4) sc_law_piece_so.nd rfl (Or.inl rfl)) (pgs_cons (pg_name (i := 5) sc_law_piece_so.nd rfl (Or.inl rfl)) pgs_nil)))) (fun _ _ _ _ _ => by exact pts_nil) (fun _ _ _ _ _ => by exact (pv 5))) (nomark _))))) (pss_one (ps_ret pe_bl)) pss_nil) (pss_cons (ps_if (PW.pt (pw_or (pt_cmpR op_ne (pe_meth0 (pv 0) c_Piece me_size G_size (by exact hr.mono (by decide)) b_size .nil pass0) (pe_dget hu0 (pv 1) pe_str (fun _ _ => rfl)) (nomark _)) (pw_or1 (pt_cmpR op_ne (pe_callB (call_lenOwn me_len G_len (by exact hr.mono (by decide)) b_len) (by rfl) m_len PySem.boot_len (pa_cons (pv 0) pa_nil)) (pe_callB (call_lenK K) (by rfl) m_len PySem.boot_len (pa_cons (pe_dget hu0 (pv 1) pe_str (fun _ _ => rfl)) pa_nil)) (nomark _))))) (pss_one (ps_ret pe_bl)) pss_nil) (pss_cons (ps_if (pt_cmpR op_ne (pe_callB (call_reprOwn me_repr G_repr (by exact hr.mono (by decide)) b_repr) (by rfl) m_repr (by decide +kernel) (pa_cons (pv 0) pa_nil)) (pe_op op_add_str (pe_op op_add_str (pe_op op_add_str (pe_op op_add_str pe_str (pe_callTy call_str_int (by rfl) m_str (by decide +kernel) (pa_cons (pe_callB (call_lenK K) (by rfl) m_len PySem.boot_len (pa_cons (pe_dget hu0 (pv 1) pe_str (fun _ _ => rfl)) pa_nil)) pa_nil))) pe_str) (pe_callTy call_str_int (by rfl) m_str (by decide +kernel) (pa_cons (pe_dget hu0 (pv 1) pe_str (fun _ _ => rfl)) pa_nil))) pe_str) (nomark _)) (pss_one (ps_ret pe_bl)) pss_nil) (pss_one (ps_expr (pe_bm PySem.F.plainAttrs_list PySem.F.slot_list_append PySem.F.type_list_append mt_append (pv 3) (pa_cons pe_non pa_nil))))))))) (pss_one (ps_ret pe_bl))), ?_⟩
    refine ⟨2, rfl, by decide, by decide, for_range (lo := 0) (n := 2) (fun i σ H' => ∃ v2 v3 v4 v5 : Option V, σ = [some (.ref p), some (.ref d), v2, v3, v4, v5] ∧ Same H H') ⟨none, none, none, none, rfl, Same.refl H⟩ ?_ (fun σ H' h => by obtain ⟨_, _, _, _, _, s⟩ := h; exact k H' s)⟩
    rintro i σ H0 hi ⟨v2, v3, v4, v5, rfl, s0⟩
    obtain ⟨r1, ⟨⟨dx, lm, hp, hlm⟩, lo, hi', hlen⟩, hR1⟩ := hP.same s0
    obtain ⟨r2, ⟨hd, as, hl, hpr⟩, hR2⟩ := hO.same s0
    have hPc : ∀ H', Same H0 H' → PcAt C H' p n r1 := fun H' e => PcAt.same ⟨⟨dx, lm, hp, hlm⟩, lo, hi', hlen⟩ e
    have e12 : sg r1 = sg r2 := by rw [hR1.sg, hR2.sg]
    have l12 : r1.length = r2.length := by rw [hR1.len, hR2.len]
    have dgR : ∀ H', Same H0 H' → DGet H' d (.str "row") (some (.ref l)) := fun H' e => (DGet.k (k := Sum.inr ("row" : Str)) (e _ _ hd) : DGet H' d (kV (Sum.inr ("row" : Str))) (some (.ref l)))
    have dgW : ∀ H', Same H0 H' → DGet H' d (.str "wide") (some (.int n)) := fun H' e => (DGet.k (k := Sum.inr ("wide" : Str)) (e _ _ hd) : DGet H' d (kV (Sum.inr ("wide" : Str))) (some (.int n)))
    have la : as.length ≤ 1000 := by rw [hpr.len, ← l12]; omega
    refine ⟨_, rfl, p, dx, _, rfl, hp, rfl, p, n, r1, rfl, hPc H0 (Same.refl _), fun lf nlf => ?_⟩
    have s1 := Same.new (o := .lst (mk r1)) nlf
    refine at_name ?_
    dsimp only
    rw [show ([some (V.ref p), some (V.ref d), v2, v3, v4, v5].set 2 (some (V.int (0 + (i:Int))))).set 3 (some (V.ref lf)) = [some (.ref p), some (.ref d), some (.int (0 + (i:Int))), some (.ref lf), v4, v5] from rfl]
    generalize hH1 : upd H0 lf (.lst (mk r1)) = H1 at s1
    have hlf : H1 lf = some (.lst (mk r1)) := by rw [← hH1]; exact upd_same
    have nlf0 : H lf = none := s0.free nlf
    have s01 : Same H H1 := s0.trans s1
    have sizeJ : ∀ l : List Nat, l.length ≤ 1000 → ((l.map fun c => st [c]).map (·.length)).sum + (l.map fun c => st [c]).length * (st []).length ≤ 16777216 := fun l h => by
      rw [List.map_map, st_len, List.length_nil, Nat.mul_zero, Nat.add_zero]
      have : ∀ l : List Nat, (l.map ((fun x : Str => x.length) ∘ fun c => st [c])).sum = l.length := fun l => by
        induction l with
        | nil => rfl
        | cons c l ih =>
          rw [List.map_cons, List.sum_cons, ih]
          show (st [c]).length + l.length = l.length + 1
          rw [st_len, List.length_singleton]
          omega
      rw [this]
      omega
    refine Evl.q_when (b := false) (Evl.et_or (a := false) (b := false) (fun H2 e2 Q q => ?_) (fun _ H2 e2 Q q => ?_)) (fun hb => by cases hb) (fun _ H2 e2 => ?_)
    · have sE : Same H0 H2 := s1.trans e2
      refine ⟨_, rfl, p, dx, _, rfl, sE _ _ hp, rfl, p, n, r1, rfl, hPc H2 sE, ⟨_, rfl⟩, _, rfl, d, _, rfl, dgR H2 sE, l, rfl, ⟨_, SqL.of (sE _ _ hl)⟩, fun D nD => lc_prs (K := K) (fun x => .str (st [x.1])) (SqL.of (sE _ _ hl)) (hpr.keep fun b xs z => sE _ _ z) nD la (fun _ _ => rfl) (fun x H' _ Q q => ⟨_, rfl, q H' (Same.refl _)⟩) ?_⟩
      intro H3 s3 hD3
      refine ⟨st [], D, (sg r2).map (fun c => st [c]), rfl, rfl, .inl (SqL.of ?_), sizeJ _ (by rw [sg_len, ← l12]; omega), rfl, false, ?_, q H3 s3⟩
      · rw [hD3]
        unfold sg
        rw [List.map_map, List.map_map]
        rfl
      · rw [join_st, e12]
        exact congrArg V.bl (by rw [decide_eq_true rfl]; rfl)
    · have sE : Same H0 H2 := s1.trans e2
      refine ⟨_, rfl, _, rfl, d, _, rfl, dgR H2 sE, l, rfl, ⟨_, SqL.of (sE _ _ hl)⟩, fun D nD => lc_prs (K := K) (fun x => x.2) (SqL.of (sE _ _ hl)) (hpr.keep fun b xs z => sE _ _ z) nD la (fun _ _ => rfl) (fun x H' _ Q q => ⟨_, rfl, q H' (Same.refl _)⟩) ?_⟩
      intro H3 s3 hD3
      have sE3 : Same H0 H3 := sE.trans s3
      refine ⟨_, _, .lst (SqL.of (s3 _ _ (e2 _ _ hlf))) ((hR1.keep fun b xs z => sE3 _ _ z).dps), .lst (SqL.of hD3) ((hR2.keep fun b xs z => sE3 _ _ z).dps), shaped_row hR1, shaped_row hR2, false, ?_, q H3 s3⟩
      exact congrArg V.bl (by rw [SeqAt.eqv_refl _ (SeqAt.canLay_of_shaped (shaped_row hR1))]; rfl)
    have sE2 : Same H0 H2 := s1.trans e2
    refine Evl.q_when (b := false) (Evl.et_or (a := false) (b := false) (fun H3 e3 Q q => ?_) (fun _ H3 e3 Q q => ?_)) (fun hb => by cases hb) (fun _ H3 e3 => ?_)
    · have sE : Same H0 H3 := sE2.trans e3
      refine ⟨_, rfl, p, dx, _, rfl, sE _ _ hp, rfl, p, n, r1, rfl, hPc H3 sE, _, rfl, d, _, rfl, dgW H3 sE, rfl, false, ?_, q H3 (Same.refl _)⟩
      exact congrArg V.bl (by rw [decide_eq_true rfl]; rfl)
    · have sE : Same H0 H3 := sE2.trans e3
      refine ⟨_, rfl, p, dx, _, rfl, sE _ _ hp, p, n, r1, rfl, hPc H3 sE, _, rfl, by omega, by omega, _, rfl, d, _, rfl, dgR H3 sE, l, _, rfl, .inl (SqL.of (sE _ _ hl)), rfl, false, ?_, q H3 (Same.refl _)⟩
      rw [List.length_map, hpr.len, l12]
      exact congrArg V.bl (by rw [decide_eq_true rfl]; rfl)
    have sE3 : Same H0 H3 := sE2.trans e3
    refine Evl.q_when (b := false) (fun H4 e4 Q q => ?_) (fun hb => by cases hb) (fun _ H4 e4 => ?_)
    · have sE : Same H0 H4 := sE3.trans e4
      have lg : ∀ i : Int, 0 ≤ i → i ≤ 200 → i.natAbs.log2 < 1920 ∧ (toString i : Str).length ≤ 100 := fun i i0 i1 => ⟨Nat.lt_of_le_of_lt (Nat.log2_le_self _) (by omega), small_text i0 i1⟩
      have h6 : ("Piece(" : Str).length = 6 := by decide +kernel
      have h4 : (" of " : Str).length = 4 := by decide +kernel
      have h1' : (")" : Str).length = 1 := by decide +kernel
      have la' : ∀ a b : Str, (a ++ b).length = a.length + b.length := fun a b => by
        rw [← st_of a, ← st_of b, st_app, st_len, st_len, st_len, List.length_append]
      obtain ⟨g1, g2⟩ := lg n (by omega) hi'
      obtain ⟨g3, g4⟩ := lg (r1.length : Int) (by omega) (by omega)
      refine ⟨_, rfl, p, dx, _, rfl, sE _ _ hp, p, n, r1, rfl, hPc H4 sE, _, rfl, ?_⟩
      refine ⟨_, rfl, d, _, rfl, dgR H4 sE, l, _, rfl, .inl (SqL.of (sE _ _ hl)), ?_⟩
      rw [List.length_map, hpr.len, ← l12]
      refine ⟨_, rfl, g3, _, _, rfl, rfl, line200 (by rw [h6]; omega), _, _, rfl, rfl, line200 (by rw [la', h6, h4]; omega), _, rfl, d, _, rfl, dgW H4 sE, _, rfl, g1, _, _, rfl, rfl, line200 (by rw [la', la', h6, h4]; omega), _, _, rfl, rfl, line200 (by rw [la', la', la', h6, h4, h1']; omega), rfl, false, ?_, q H4 (Same.refl _)⟩
      exact congrArg V.bl (by unfold pieceText; rw [decide_eq_true rfl]; rfl)
    have s14 : Same H1 H4 := (Same.trans e2 e3).trans e4
    refine ⟨_, rfl, .inl ⟨rfl, _, SqL.of (s14 _ _ hlf)⟩, lf, _, _, rfl, rfl, s14 _ _ hlf, ?_, ?_⟩
    · rw [mk_len]
      exact Nat.lt_of_le_of_lt (show _ ≤ 1000 by omega) (by decide)
    exact ⟨_, _, _, _, rfl, Same.mut (s01.trans s14) nlf0⟩
end

/-! ### _law_put_some -/
theorem But.same_upd {q : Addr} {H H1 : Hp} {o : HO} (s : Same (L2.upd H q o) H1) : But q H H1 := fun b u hb e => s _ _ (by rw [upd_ne hb]; exact e)
theorem row_nopool {H : Hp} {r : Row} {R : RowT} (h : RowD H r R) (x y : Int) : mk r ≠ [.int x, .int y] := by
  match r, R, h with
  | [], [], _ => intro z; cases z
  | (c, m) :: r, (c', d) :: R, h =>
    intro z
    have z1 : m = .int x := (List.cons.inj z).1
    have h2 := h.2.1
    cases d with
    | none =>
      have h3 : m = .non := h2
      rw [h3] at z1
      cases z1
    | some w =>
      obtain ⟨w1, w2⟩ := w
      obtain ⟨_, a, e, _⟩ := h2
      rw [e] at z1
      cases z1
structure Both (C : Addr) (H : Hp) (p d l : Addr) (n : Int) (R : RowT) : Prop where
  pc : PcIs C H p n R
  ow : OwnIs H d l n R
  nt : MkNot H p l
theorem Both.same {C : Addr} {H H' : Hp} {p d l : Addr} {n : Int} {R : RowT} (h : Both C H p d l n R) (e : Same H H') : Both C H' p d l n R := by
  obtain ⟨hp, ho, nt⟩ := h
  refine ⟨hp.same e, ho.same e, fun C' dx' n' z' w => ?_⟩
  obtain ⟨r, ⟨⟨dx, lm, h1, h2⟩, _⟩, _⟩ := hp
  exact nt C' dx' n' z' (by rw [e _ _ h1] at w; rw [h1]; exact w)
theorem Both.but {C : Addr} {H H' : Hp} {p d l q : Addr} {po : HO} {n : Int} {R : RowT} (h : Both C H p d l n R) (hq : H q = some po) (hpo : PoolO po) (e : But q H H') : Both C H' p d l n R := by
  obtain ⟨x, y, rfl⟩ := hpo
  obtain ⟨⟨r, ⟨⟨dx, lm, h1, h2⟩, h3, h4, h5⟩, hr⟩, ⟨r2, ⟨h6, as, h7, h8⟩, hr2⟩, nt⟩ := h
  have e1 : p ≠ q := ne_of h1 hq (by intro z; cases z)
  have e2 : lm ≠ q := ne_of h2 hq (by intro z; injection z with z; exact row_nopool hr x y z)
  have e3 : d ≠ q := ne_of h6 hq (by intro z; cases z)
  have e4 : l ≠ q := ne_of h7 hq (by
    intro z
    injection z with z
    cases as with
    | nil => cases z
    | cons a as => cases z)
  have tp : Tups H H' := fun b xs hb => e _ _ (ne_of hb hq (by intro z; cases z)) hb
  exact ⟨⟨r, ⟨⟨dx, lm, e _ _ e1 h1, e _ _ e2 h2⟩, h3, h4, h5⟩, hr.keep tp⟩, ⟨r2, ⟨e _ _ e3 h6, as, e _ _ e4 h7, h8.keep tp⟩, hr2.keep tp⟩, fun C' dx' n' z' w => nt C' dx' n' z' (by rw [e _ _ e1 h1] at w; rw [h1]; exact w)⟩
theorem Both.len {C : Addr} {H : Hp} {p d l : Addr} {n : Int} {R : RowT} (h : Both C H p d l n R) : 24 ≤ n ∧ n ≤ 200 ∧ (R.length : Int) ≤ n := by
  obtain ⟨⟨r, ⟨_, h3, h4, h5⟩, hr⟩, _, _⟩ := h
  rw [← hr.len]
  exact ⟨h3, h4, h5⟩
def spPutSome (C : Addr) : Sp := fun vs H Q _ => ∃ (q p d l : Addr) (po : HO) (n : Int) (R : RowT), vs = [.ref q, .ref p, .ref d] ∧ H q = some po ∧ PoolO po ∧ Both C H p d l n R ∧
  ∀ (R' : RowT) (po' : HO) (H' : Hp), PoolO po' → H' q = some po' → Both C H' p d l n R' → (∀ b u, b ≠ q → b ≠ p → b ≠ l → H b = some u → H' b = some u) → Q (.bl true) H'
/-- a method called by name -/
def Dmn (P : Program) (w : World) (K : PySem.W.Frag) (mg : Str → Option Value) (base : Heap) (C : Addr) (k : Nat) (m : Str) (ps : List Str) (n : Nat) (ks : List Str) (gV : List V → List V → List V) (sp : Sp) : Prop := ∃ (f : Addr) (fd : FuncData) (g : List Value → List Value → List Value), Meth K C m f ∧ KBn K fd ps n ks g gV ∧ FnOk P w K mg base CX0 k f fd ps sp
section
variable {P : Program} {w : World} {K : PySem.W.Frag} {mg : Str → Option Value} {base : Heap} {C : Addr}
theorem sc_law_put_some : FnScope n_law_put_some p_law_put_some (defScope s_law_put_some) := ⟨rfl, rfl, rfl, by decide +kernel, rfl, by decide +kernel, by decide +kernel⟩
set_option maxHeartbeats 8000000 in
theorem ok_put_some (T : PieceTx K mg C) (m_min : mg "min" = none) (D_take : Df P w K mg base 1 "_law_take" p_law_take spTake) (D_one : Df P w K mg base 2 "_law_one" p_law_one (spOne K)) (D_signs : Df P w K mg base 2 "_law_signs" p_law_signs spDrawS) (D_key : Df P w K mg base 3 "_law_key" p_law_key spDrawK)
    (D_laid : Df P w K mg base 1 "_law_laid" p_law_laid spLaid) (D_put : Dmn P w K mg base C 3 "put" pPiece_put 3 ["mark"] (fun vs zs => vs ++ zs) (spPut C)) {f : Addr} {fd : FuncData} (F : FunD K "_law_put_some" "_law_put_some" (defArgs s_law_put_some) (defBody s_law_put_some) (defScope s_law_put_some) [] [] f fd) : FnOk P w K mg base CX0 4 f fd p_law_put_some (spPutSome C) := by
  obtain ⟨f__law_take, fd__law_take, m__law_take, k__law_take, b__law_take, G__law_take⟩ := D_take
  obtain ⟨f__law_one, fd__law_one, m__law_one, k__law_one, b__law_one, G__law_one⟩ := D_one
  obtain ⟨f__law_signs, fd__law_signs, m__law_signs, k__law_signs, b__law_signs, G__law_signs⟩ := D_signs
  obtain ⟨f__law_key, fd__law_key, m__law_key, k__law_key, b__law_key, G__law_key⟩ := D_key
  obtain ⟨f__law_laid, fd__law_laid, m__law_laid, k__law_laid, b__law_laid, G__law_laid⟩ := D_laid
  obtain ⟨f_put_mark, fd_put_mark, g_put_mark, me_put_mark, kb_put_mark, G_put_mark⟩ := D_put
  have c_Piece := T.c
  have m_len := T.len
  have m_max := T.max
  refine F.ok sc_law_put_some (fun vs H Q E h => ?_) (fun cdv A outer s H vs Q E hr h => ?_)
  · obtain ⟨q, p, d, l, po, n, R, rfl, _⟩ := h
    rfl
  · obtain ⟨q, p, d, l, po, n, R, rfl, hq, hpo, hB, k⟩ := h
    have hu0 := hu_of hr
    refine ⟨_, PSs.nox (pss_cons (ps_set (i := 3) sc_law_put_some.nd rfl (Or.inl rfl) (pe_call G__law_one (by exact hr.mono (by decide)) rfl m__law_one k__law_one b__law_one .nil pass0 (pa_cons (pv 0) (pa_cons (pe_lst (pa_cons (pe_call G__law_signs (by exact hr.mono (by decide)) rfl m__law_signs k__law_signs b__law_signs .nil pass0 (pa_cons (pv 0) (pa_cons pe_int pa_nil))) (pa_cons (pe_op op_mul_str pe_str (pe_call G__law_take (by exact hr.mono (by decide)) rfl m__law_take k__law_take b__law_take .nil pass0 (pa_cons (pv 0) (pa_cons pe_int pa_nil)))) (pa_cons pe_str pa_nil)))) pa_nil)))) (pss_cons (ps_set (i := 4) sc_law_put_some.nd rfl (Or.inl rfl) (pe_call G__law_one (by exact hr.mono (by decide)) rfl m__law_one k__law_one b__law_one .nil pass0 (pa_cons (pv 0) (pa_cons (pe_lst (pa_cons pe_non (pa_cons (pe_call G__law_key (by exact hr.mono (by decide)) rfl m__law_key k__law_key b__law_key .nil pass0 (pa_cons (pv 0) pa_nil)) (pa_cons (pe_call G__law_key (by exact hr.mono (by decide)) rfl m__law_key k__law_key b__law_key .nil pass0 (pa_cons (pv 0) pa_nil)) pa_nil)))) pa_nil)))) (pss_cons (ps_set (i := 5) sc_law_put_some.nd rfl (Or.inl rfl) (pe_lst (pa_cons (pe_callB (call_lenK K) (by rfl) m_len PySem.boot_len (pa_cons (pe_dget hu0 (pv 2) pe_str (fun _ _ => rfl)) pa_nil)) (pa_cons (pe_call G__law_take (by exact hr.mono (by decide)) rfl m__law_take k__law_take b__law_take .nil pass0 (pa_cons (pv 0) (pa_cons (pe_op op_add (pe_dget hu0 (pv 2) pe_str (fun _ _ => rfl)) pe_int) pa_nil))) (pa_cons (pe_op op_sub (pe_dget hu0 (pv 2) pe_str (fun _ _ => rfl)) (pe_callB call_len_str (by rfl) m_len PySem.boot_len (pa_cons (pv 3) pa_nil))) (pa_cons pe_int pa_nil)))))) (pss_cons (ps_set (i := 6) sc_law_put_some.nd rfl (Or.inl rfl) (pe_callB (call_max2 rfl) (by rfl) m_max (by decide +kernel) (pa_cons pe_int (pa_cons (pe_callB (call_min2 rfl) (by rfl) m_min (by decide +kernel) (pa_cons (pe_call G__law_one (by exact hr.mono (by decide)) rfl m__law_one k__law_one b__law_one .nil pass0 (pa_cons (pv 0) (pa_cons (pv 5) pa_nil))) (pa_cons (pe_op op_sub (pe_dget hu0 (pv 2) pe_str (fun _ _ => rfl)) (pe_callB call_len_str (by rfl) m_len PySem.boot_len (pa_cons (pv 3) pa_nil))) pa_nil))) pa_nil)))) (pss_cons (ps_expr (pe_call G__law_laid (by exact hr.mono (by decide)) rfl m__law_laid k__law_laid b__law_laid .nil pass0 (pa_cons (pv 2) (pa_cons (pv 6) (pa_cons (pv 3) (pa_cons (pv 4) pa_nil)))))) (pss_one (ps_ret (pe_cmpR op_isN (pe_methN (pv 1) c_Piece me_put_mark G_put_mark (by exact hr.mono (by decide)) kb_put_mark pass0 (pa_cons (pv 6) (pa_cons (pv 3) pa_nil)) (pk_cons (pv 4) pk_nil)) pe_non (nomark _))))))))), ?_⟩
    refine ⟨_, rfl, _, rfl, q, 12, po, rfl, hq, hpo, by decide, by decide, fun s1 po1 H1 ls1 _ hpo1 e1 => ?_⟩
    have hq1 := same_here e1
    refine ⟨_, rfl, q, 9, po1, rfl, hq1, hpo1, by decide, by decide, fun v po2 v0 v1 hpo2 => ?_⟩
    obtain ⟨j, rfl⟩ := Int.eq_ofNat_of_zero_le v0
    refine ⟨st [126], j, by rw [fillS], rfl, mulOk_of (by rw [List.length_singleton]; omega) (by omega), ?_⟩
    rw [st_mul]
    refine ⟨(by show 3 ≤ sizeLine; decide), fun L nL => ?_⟩
    have nLq : L ≠ q := (upd_free nL).2
    refine ⟨q, L, _, po2, rfl, Eq.trans (upd_ne nLq.symm) upd_same, hpo2, SqL.of upd_same, nLq, (by show 0 < 3; decide), (by show 3 < 1000; decide), fun v po3 hv hpo3 => ?_⟩
    have b3 : But q H (upd (upd (upd H1 q po2) L (.lst [.str (st s1), .str (st (List.replicate j [126]).flatten), .str ""])) q po3) := (((But.same_upd e1).trans But.upd).trans (But.of (Same.new nL))).trans But.upd
    obtain ⟨s, rfl, ls⟩ : ∃ s : List Nat, v = .str (st s) ∧ s.length ≤ 12 := by
      rcases List.mem_cons.mp hv with h | h
      · exact ⟨s1, h, by omega⟩
      rcases List.mem_cons.mp h with h | h
      · exact ⟨_, h, by simp; omega⟩
      rcases List.mem_cons.mp h with h | h
      · exact ⟨[], h, by decide⟩
      cases h
    have hq3 : upd (upd (upd H1 q po2) L (.lst [.str (st s1), .str (st (List.replicate j [126]).flatten), .str ""])) q po3 q = some po3 := upd_same
    show tSeq _ _ _ [some (.ref q), some (.ref p), some (.ref d), some (.str (st s)), none, none, none] _
    generalize upd (upd (upd H1 q po2) L (.lst [.str (st s1), .str (st (List.replicate j [126]).flatten), .str ""])) q po3 = H3 at b3 hq3 ⊢
    have hB3 := hB.but hq hpo b3
    refine ⟨_, rfl, _, rfl, q, po3, rfl, hq3, hpo3, fun z4 i4 po4 a4 H4 hz4 _ _ hpo4 na4 ha4 e4 => ?_⟩
    refine ⟨_, rfl, q, po4, rfl, same_here e4, hpo4, fun z5 i5 po5 a5 H5 hz5 _ _ hpo5 na5 ha5 e5 => ?_⟩
    refine ⟨(by show 3 ≤ sizeLine; decide), fun L2 nL2 => ?_⟩
    have nLq2 : L2 ≠ q := (ne_of_none (same_here e5) nL2).symm
    have e6 := Same.new (o := .lst [.non, .ref a4, .ref a5]) nL2
    refine ⟨q, L2, _, po5, rfl, e6 _ _ (same_here e5), hpo5, SqL.of upd_same, nLq2, (by show 0 < 3; decide), (by show 3 < 1000; decide), fun m po6 hm hpo6 => ?_⟩
    have a4q : a4 ≠ q := (ne_of_none hq3 na4).symm
    have a5q : a5 ≠ q := (ne_of_none (same_here e4) na5).symm
    have b5 : But q H4 H5 := But.same_upd e5
    have b6 : But q H5 (upd (upd H5 L2 (.lst [.non, .ref a4, .ref a5])) q po6) := (But.of e6).trans But.upd
    have b36 : But q H3 (upd (upd H5 L2 (.lst [.non, .ref a4, .ref a5])) q po6) := ((But.same_upd e4).trans b5).trans b6
    obtain ⟨dd, hmk⟩ : ∃ dd : MD, MkAt (upd (upd H5 L2 (.lst [.non, .ref a4, .ref a5])) q po6) m dd := by
      rcases List.mem_cons.mp hm with h | h
      · exact ⟨none, h⟩
      rcases List.mem_cons.mp h with h | h
      · exact ⟨some (z4, i4), hz4, a4, h, (b5.trans b6) _ _ a4q ha4⟩
      rcases List.mem_cons.mp h with h | h
      · exact ⟨some (z5, i5), hz5, a5, h, b6 _ _ a5q ha5⟩
      cases h
    have hq6 : upd (upd H5 L2 (.lst [.non, .ref a4, .ref a5])) q po6 q = some po6 := upd_same
    show tSeq _ _ _ [some (.ref q), some (.ref p), some (.ref d), some (.str (st s)), some m, none, none] _
    generalize upd (upd H5 L2 (.lst [.non, .ref a4, .ref a5])) q po6 = H6 at b36 hq6 hmk ⊢
    have hB6 := hB3.but hq3 hpo3 b36
    obtain ⟨l0, l1, l2⟩ := hB6.len
    obtain ⟨r6, ⟨hd6, as6, hl6, hpr6⟩, hR6⟩ := hB6.ow
    have dgR : ∀ H', But q H6 H' → DGet H' d (.str "row") (some (.ref l)) := fun H' e => (DGet.k (k := Sum.inr ("row" : Str)) (hB6.but hq6 hpo6 e).ow.choose_spec.1.dic : DGet H' d (kV (Sum.inr ("row" : Str))) (some (.ref l)))
    have dgW : ∀ H', But q H6 H' → DGet H' d (.str "wide") (some (.int n)) := fun H' e => (DGet.k (k := Sum.inr ("wide" : Str)) (hB6.but hq6 hpo6 e).ow.choose_spec.1.dic : DGet H' d (kV (Sum.inr ("wide" : Str))) (some (.int n)))
    refine ⟨_, rfl, d, _, rfl, dgR H6 (But.refl _ _), l, _, rfl, .inl (SqL.of hl6), ?_⟩
    refine ⟨_, rfl, _, rfl, d, _, rfl, dgW H6 (But.refl _ _), _, _, rfl, rfl, q, n + 1, po6, rfl, hq6, hpo6, by omega, by omega, fun v7 po7 v70 v71 hpo7 => ?_⟩
    refine ⟨_, rfl, d, _, rfl, dgW _ But.upd, _, rfl, _, rfl, line200 (by rw [st_len]; omega), _, _, rfl, rfl, ?_⟩
    rw [st_len]
    refine ⟨(by show 4 ≤ sizeLine; decide), fun L8 n8 => ?_⟩
    have n8q : L8 ≠ q := (upd_free n8).2
    have e8 := Same.new (o := .lst [.int (as6.map V.ref).length, .int v7, .int (n - s.length), .int 0]) n8
    refine ⟨_, rfl, _, rfl, q, L8, _, po7, rfl, e8 _ _ upd_same, hpo7, SqL.of upd_same, n8q, (by show 0 < 4; decide), (by show 4 < 1000; decide), fun v9 po9 hv9 hpo9 => ?_⟩
    have b9 : But q H6 (upd (upd (upd H6 q po7) L8 (.lst [.int (as6.map V.ref).length, .int v7, .int (n - s.length), .int 0])) q po9) := (But.upd.trans (But.of e8)).trans But.upd
    have hq9 : upd (upd (upd H6 q po7) L8 (.lst [.int (as6.map V.ref).length, .int v7, .int (n - s.length), .int 0])) q po9 q = some po9 := upd_same
    obtain ⟨x9, rfl⟩ : ∃ x : Int, v9 = .int x := by
      rcases List.mem_cons.mp hv9 with h | h
      · exact ⟨_, h⟩
      rcases List.mem_cons.mp h with h | h
      · exact ⟨_, h⟩
      rcases List.mem_cons.mp h with h | h
      · exact ⟨_, h⟩
      rcases List.mem_cons.mp h with h | h
      · exact ⟨_, h⟩
      cases h
    generalize upd (upd (upd H6 q po7) L8 (.lst [.int (as6.map V.ref).length, .int v7, .int (n - s.length), .int 0])) q po9 = H9 at b9 hq9 ⊢
    have hB9 := hB6.but hq6 hpo6 b9
    have hmk9 : MkAt H9 m dd := hmk.keep fun b xs hb => b9 _ _ (by
      obtain ⟨x, y, rfl⟩ := hpo6
      exact ne_of hb hq6 (by intro z; cases z)) hb
    refine ⟨_, rfl, d, _, rfl, dgW H9 b9, _, rfl, _, rfl, line200 (by rw [st_len]; omega), _, _, rfl, rfl, ?_⟩
    rw [st_len]
    refine ⟨_, _, rfl, _, _, rfl, ?_⟩
    generalize hk : (if (if n - (s.length : Int) < x9 then n - (s.length : Int) else x9) > 0 then (if n - (s.length : Int) < x9 then n - (s.length : Int) else x9) else 0) = kk
    have hk2 : 0 ≤ kk ∧ kk ≤ n - s.length := by
      rw [← hk]
      split <;> split <;> omega
    obtain ⟨kk, rfl⟩ := Int.eq_ofNat_of_zero_le hk2.1
    obtain ⟨⟨r1, ⟨⟨dx, lm, hp1, hlm⟩, lo, hi, hlen⟩, hR1⟩, ⟨r2, ⟨hd9, as9, hl9, hpr9⟩, hR2⟩, nt9⟩ := id hB9
    have l12 : r1.length = r2.length := by rw [hR1.len, hR2.len]
    have n1 : lm ≠ l := fun z => nt9 _ _ _ _ (z ▸ hp1)
    refine ⟨_, rfl, _, rfl, _, rfl, _, rfl, d, l, n, r2, kk, s, m, rfl, ⟨hd9, as9, hl9, hpr9⟩, by omega, by omega, by omega, fun H10 hO10 b10 => ?_⟩
    have npl : p ≠ l := ne_of hp1 hl9 (by intro z; cases z)
    have tp10 : Tups H9 H10 := b10.tups hl9
    have nql : q ≠ l := by
      obtain ⟨x, y, rfl⟩ := hpo9
      refine ne_of hq9 hl9 ?_
      intro z
      injection z with z
      cases as9 with
      | nil => cases z
      | cons a as => cases z
    have hp10 := b10 _ _ npl hp1
    refine ⟨_, rfl, p, dx, _, rfl, hp10, rfl, _, rfl, _, rfl, _, rfl, rfl, rfl, p, n, r1, kk, s, m, rfl, ⟨⟨dx, lm, hp10, b10 _ _ n1 hlm⟩, lo, hi, hlen⟩, by omega, fun H11 hP11 f11 nt11 => ?_⟩
    have hm11 : MkAt H11 m dd := (hmk9.keep tp10).keep fun b xs hb => f11 _ _ (ne_of hb hp10 (by intro z; cases z)) hb
    have tp11 : Tups H10 H11 := fun b xs hb => f11 _ _ (ne_of hb hp10 (by intro z; cases z)) hb
    obtain ⟨hd10, as10, hl10, hpr10⟩ := hO10
    refine ⟨rfl, ?_⟩
    refine k (putG none R kk s dd) po9 H11 hpo9 ?_ ⟨⟨_, hP11, ((hR1.keep tp10).keep tp11).put hm11⟩, ⟨_, ⟨f11 _ _ (ne_of hd10 hp10 (by intro z; cases z)) hd10, as10, f11 _ _ npl.symm hl10, hpr10.keep tp11⟩, ((hR2.keep tp10).keep tp11).put hm11⟩, nt11 _ (by rw [hl10]; simp)⟩ ?_
    · exact f11 _ _ (fun z => by
        obtain ⟨x, y, rfl⟩ := hpo9
        exact ne_of hq9 hp1 (by intro z; cases z) z) (b10 _ _ nql hq9)
    · intro b u n1 n2 n3 e
      exact f11 _ _ n2 (b10 _ _ n3 (b9 _ _ n1 (b36 _ _ n1 (b3 _ _ n1 e))))
end

/-! ### law -/
def spLaw (K : PySem.W.Frag) : Sp := fun vs H Q _ => ∃ (a : Addr) (ns : List Int), vs = [.ref a] ∧ SqL K H a (ns.map V.int) ∧ ns.length ≤ 63 ∧ ∀ H', Q (.bl true) H'
theorem own_made {H2 : Hp} {D l : Addr} {n : Int} {as : List Addr} {r : Row} {R : RowT} (hl : H2 l = some (.lst (as.map V.ref))) (hD : H2 D = some (.dK [])) (hp : Pairs H2 as r) (hR : RowD H2 r R) : OwnIs (upd H2 D (.dK (mergeK [] [(Sum.inr ("wide" : Str), .int n), (Sum.inr ("row" : Str), .ref l)]))) D l n R := by
  have tp : Tups H2 (upd H2 D (.dK (mergeK [] [(Sum.inr ("wide" : Str), .int n), (Sum.inr ("row" : Str), .ref l)]))) := fun b xs hb => by
    rw [upd_ne (ne_of hb hD (by intro z; cases z))]
    exact hb
  exact ⟨r, ⟨upd_same, as, by rw [upd_ne (ne_of hl hD (by intro z; cases z))]; exact hl, hp.keep tp⟩, hR.keep tp⟩
theorem MkNot.fresh {C : Addr} {H H' : Hp} {p l : Addr} {n : Int} {r : Row} (hP : PcAt C H p n r) (hl : H l = none) (e : Same H H') : MkNot H' p l := by
  obtain ⟨⟨dx, lm, h1, h2⟩, _⟩ := hP
  have nl : lm ≠ l := ne_of_none h2 hl
  intro C' dx' n' z' w
  rw [e _ _ h1] at w
  injection w with w
  injection w with _ _ w
  injection w with _ w
  injection w with _ w
  injection w with w _
  injection w with _ w
  injection w with w
  exact nl w
theorem made_same {H H' : Hp} {p d C : Addr} (np : H p = none) (nd : H d = none) (e : ∀ b u, b ≠ p → upd (upd H d (.own p)) p (.ins C d []) b = some u → H' b = some u) : Same H H' := fun b u hb => e b u (ne_of_none hb np) (by rw [upd_ne (ne_of_none hb np), upd_ne (ne_of_none hb nd)]; exact hb)
section
variable {P : Program} {w : World} {K : PySem.W.Frag} {mg : Str → Option Value} {base : Heap} {C : Addr}
theorem sclaw : FnScope nlaw plaw (defScope slaw) := ⟨rfl, rfl, rfl, by decide +kernel, rfl, by decide +kernel, by decide +kernel⟩
set_option maxHeartbeats 8000000 in
theorem ok_law (T : PieceTx K mg C) (m_range : mg "range" = none) (m_min : mg "min" = none) (i_SIZE : ∃ t, mg "SIZE" = some (.int 60 t))
    (D_pool : Df P w K mg base 1 "_law_pool" p_law_pool (spPool K)) (D_take : Df P w K mg base 1 "_law_take" p_law_take spTake) (D_one : Df P w K mg base 2 "_law_one" p_law_one (spOne K)) (D_laid : Df P w K mg base 1 "_law_laid" p_law_laid spLaid)
    (D_so : Df P w K mg base 3 "_law_piece_so" p_law_piece_so (spSo C)) (D_some : Df P w K mg base 4 "_law_put_some" p_law_put_some (spPutSome C))
    (D_put : Dmn P w K mg base C 3 "put" pPiece_put 3 ["mark"] (fun vs zs => vs ++ zs) (spPut C)) (D_put2 : Dmd P w K mg base C 3 "put" pPiece_put [.non] (spPut C))
    (D_P0 : Dkd P w K mg base C 3 "Piece" pPiece___init__ [.int 60] (spPInit C)) (D_P1 : Dkd P w K mg base C 3 "Piece" pPiece___init__ [] (spPInit C))
    {f : Addr} {fd : FuncData} (F : FunD K "law" "law" (defArgs slaw) (defBody slaw) (defScope slaw) [] [] f fd) : FnOk P w K mg base CX0 5 f fd plaw (spLaw K) := by
  obtain ⟨f__law_pool, fd__law_pool, m__law_pool, k__law_pool, b__law_pool, G__law_pool⟩ := D_pool
  obtain ⟨f__law_take, fd__law_take, m__law_take, k__law_take, b__law_take, G__law_take⟩ := D_take
  obtain ⟨f__law_one, fd__law_one, m__law_one, k__law_one, b__law_one, G__law_one⟩ := D_one
  obtain ⟨f__law_laid, fd__law_laid, m__law_laid, k__law_laid, b__law_laid, G__law_laid⟩ := D_laid
  obtain ⟨f__law_piece_so, fd__law_piece_so, m__law_piece_so, k__law_piece_so, b__law_piece_so, G__law_piece_so⟩ := D_so
  obtain ⟨f__law_put_some, fd__law_put_some, m__law_put_some, k__law_put_some, b__law_put_some, G__law_put_some⟩ := D_some
  obtain ⟨f_put_mark, fd_put_mark, g_put_mark, me_put_mark, kb_put_mark, G_put_mark⟩ := D_put
  obtain ⟨f_put2, fd_put2, ds_put2, me_put2, v_put2, b_put2, G_put2⟩ := D_put2
  obtain ⟨f_P0, fd_P0, ds_P0, M_Piece0, m_Piece0, v_Piece0, b_Piece0, G_Piece0⟩ := D_P0
  obtain ⟨f_P1, fd_P1, ds_P1, M_Piece1, m_Piece1, v_Piece1, b_Piece1, G_Piece1⟩ := D_P1
  obtain ⟨tS, m_SIZE⟩ := i_SIZE
  have c_Piece := T.c
  have m_len := T.len
  have m_max := T.max
  refine F.ok sclaw (fun vs H Q E h => ?_) (fun cdv A outer s H vs Q E hr h => ?_)
  · obtain ⟨a, ns, rfl, _⟩ := h
    rfl
  · obtain ⟨a, ns, rfl, hS, hlen, k⟩ := h
    have hu0 := hu_of hr
    refine ⟨_, PSs.nox (pss_cons (ps_set (i := 1) sclaw.nd rfl (Or.inl rfl) (pe_make0 M_Piece0 G_Piece0 (by exact hr.mono (by decide)) rfl m_Piece0 b_Piece0 v_Piece0 pass0)) (pss_cons (ps_if (PW.pt (pw_or (pt_cmpR op_ne (pe_glob (v := (.int 60)) rfl m_SIZE ⟨_, rfl⟩) pe_int (nomark _)) (pw_or (pt_not (pt_val (pe_call G__law_piece_so (by exact hr.mono (by decide)) rfl m__law_piece_so k__law_piece_so b__law_piece_so .nil pass0 (pa_cons (pv 1) (pa_cons (pe_disp (pps_cons pe_str pe_int (pps_cons pe_str (pe_lst pa_nil) pps_nil)) (by rfl) (by rfl) (by simp) (by decide)) pa_nil))))) (pw_or1 (pt_cmpR op_notN (pe_meth (pv 1) c_Piece me_put2 G_put2 (by exact hr.mono (by decide)) b_put2 v_put2 pass0 (pa_cons pe_int (pa_cons pe_str pa_nil))) pe_non (nomark _)))))) (pss_one (ps_ret pe_bl)) pss_nil) (pss_cons (ps_if (pt_not (pt_val (pe_call G__law_piece_so (by exact hr.mono (by decide)) rfl m__law_piece_so k__law_piece_so b__law_piece_so .nil pass0 (pa_cons (pv 1) (pa_cons (pe_disp (pps_cons pe_str pe_int (pps_cons pe_str (pe_op op_cat (pe_op op_rep (pe_lst (pa_cons (pe_tup (pa_cons pe_str (pa_cons pe_non pa_nil))) pa_nil)) pe_int) (pe_lst (pa_cons (pe_tup (pa_cons pe_str (pa_cons pe_non pa_nil))) (pa_cons (pe_tup (pa_cons pe_str (pa_cons pe_non pa_nil))) pa_nil)))) pps_nil)) (by rfl) (by rfl) (by simp) (by decide)) pa_nil))))) (pss_one (ps_ret pe_bl)) pss_nil) (pss_cons (ps_par (i := 1) (j := 2) (by rfl) sclaw.nd rfl rfl (by decide) rfl rfl (pa_cons (pe_make M_Piece1 G_Piece1 (by exact hr.mono (by decide)) rfl m_Piece1 b_Piece1 v_Piece1 pass0 (pa_cons pe_int pa_nil)) (pa_cons (pe_disp (pps_cons pe_str pe_int (pps_cons pe_str (pe_lst pa_nil) pps_nil)) (by rfl) (by rfl) (by simp) (by decide)) pa_nil)) (by rfl)) (pss_cons (ps_expr (pe_call G__law_laid (by exact hr.mono (by decide)) rfl m__law_laid k__law_laid b__law_laid .nil pass0 (pa_cons (pv 2) (pa_cons pe_int (pa_cons (pe_op op_mul_str pe_str pe_int) (pa_cons (pe_tup (pa_cons pe_str (pa_cons pe_int pa_nil))) pa_nil)))))) (pss_cons (ps_if (PW.pt (pw_or (pt_cmpR op_notN (pe_methN (pv 1) c_Piece me_put_mark G_put_mark (by exact hr.mono (by decide)) kb_put_mark pass0 (pa_cons pe_int (pa_cons (pe_op op_mul_str pe_str pe_int) pa_nil)) (pk_cons (pe_tup (pa_cons pe_str (pa_cons pe_int pa_nil))) pk_nil)) pe_non (nomark _)) (pw_or1 (pt_not (pt_val (pe_call G__law_piece_so (by exact hr.mono (by decide)) rfl m__law_piece_so k__law_piece_so b__law_piece_so .nil pass0 (pa_cons (pv 1) (pa_cons (pv 2) pa_nil)))))))) (pss_one (ps_ret pe_bl)) pss_nil) (pss_cons (ps_for PassesOwn.never rfl (pi_range1 (by rfl) m_range (pa_cons (pe_callB (call_max2 rfl) (by rfl) m_max (by decide +kernel) (pa_cons pe_int (pa_cons (pe_callB (call_min2 rfl) (by rfl) m_min (by decide +kernel) (pa_cons (pe_callB (call_lenK K) (by rfl) m_len PySem.boot_len (pa_cons (pv 0) pa_nil)) (pa_cons pe_int pa_nil))) pa_nil))) pa_nil)) (pg_name (i := 3) sclaw.nd rfl (Or.inl rfl)) (pss_cons (ps_set (i := 4) sclaw.nd rfl (Or.inl rfl) (pe_call G__law_pool (by exact hr.mono (by decide)) rfl m__law_pool k__law_pool b__law_pool .nil pass0 (pa_cons (pv 0) (pa_cons (pv 3) pa_nil)))) (pss_cons (ps_set (i := 2) sclaw.nd rfl (Or.inl rfl) (pe_disp (pps_cons pe_str (pe_call G__law_one (by exact hr.mono (by decide)) rfl m__law_one k__law_one b__law_one .nil pass0 (pa_cons (pv 4) (pa_cons (pe_lst (pa_cons pe_int (pa_cons pe_int (pa_cons (pe_op op_add pe_int (pe_call G__law_take (by exact hr.mono (by decide)) rfl m__law_take k__law_take b__law_take .nil pass0 (pa_cons (pv 4) (pa_cons pe_int pa_nil)))) pa_nil)))) pa_nil))) (pps_cons pe_str (pe_lst pa_nil) pps_nil)) (by rfl) (by rfl) (by simp) (by decide))) (pss_cons (ps_set (i := 1) sclaw.nd rfl (Or.inl rfl) (pe_make M_Piece1 G_Piece1 (by exact hr.mono (by decide)) rfl m_Piece1 b_Piece1 v_Piece1 pass0 (pa_cons (pe_dget hu0 (pv 2) pe_str (fun _ _ => rfl)) pa_nil))) (pss_one (ps_for PassesOwn.never rfl (pi_range1 (by rfl) m_range (pa_cons (pe_op op_add pe_int (pe_call G__law_take (by exact hr.mono (by decide)) rfl m__law_take k__law_take b__law_take .nil pass0 (pa_cons (pv 4) (pa_cons pe_int pa_nil)))) pa_nil)) (pg_name (i := 5) sclaw.nd rfl (Or.inl rfl)) (pss_one (ps_if (PW.pt (pw_or (pt_not (pt_val (pe_call G__law_put_some (by exact hr.mono (by decide)) rfl m__law_put_some k__law_put_some b__law_put_some .nil pass0 (pa_cons (pv 4) (pa_cons (pv 1) (pa_cons (pv 2) pa_nil)))))) (pw_or1 (pt_not (pt_val (pe_call G__law_piece_so (by exact hr.mono (by decide)) rfl m__law_piece_so k__law_piece_so b__law_piece_so .nil pass0 (pa_cons (pv 1) (pa_cons (pv 2) pa_nil)))))))) (pss_one (ps_ret pe_bl)) pss_nil)))))))) (pss_one (ps_ret pe_bl))))))))), ?_⟩
    intro p0 d0 np0 nd0 npd0
    refine ⟨p0, d0, 60, rfl, upd_same, by decide, by decide, fun H1 hP1 f1 _ => ⟨rfl, ?_⟩⟩
    have s1 : Same H H1 := made_same np0 nd0 f1
    refine ⟨rfl, _, rfl, iteF ?_⟩
    refine ⟨_, rfl, fun D nD => ⟨Nat.zero_le _, fun l nl => ⟨Eq.trans (upd_ne (upd_free nl).2.symm) upd_same, [(Sum.inr "wide", .int 60), (Sum.inr "row", .ref l)], rfl, (by show 2 ≤ 15; decide), ?_⟩⟩⟩
    have nl1 := upd_free nl
    have hO2 := own_made (H2 := upd (upd H1 D (.dK [])) l (.lst [])) (D := D) (l := l) (n := 60) (as := []) (r := []) (R := []) upd_same (Eq.trans (upd_ne nl1.2.symm) upd_same) trivial trivial
    have s2 : Same H1 (upd (upd (upd H1 D (.dK [])) l (.lst [])) D (.dK (mergeK [] [(Sum.inr ("wide" : Str), .int 60), (Sum.inr ("row" : Str), .ref l)]))) := Same.mut ((Same.new nD).trans (Same.new nl)) nD
    refine ⟨p0, D, l, 60, [], rfl, ⟨[], hP1.same s2, trivial⟩, hO2, fun H3 s3 => ⟨true, rfl, iteF ?_⟩⟩
    have hP3 : PcAt C H3 p0 60 [] := hP1.same (s2.trans s3)
    obtain ⟨⟨dx3, lm3, hp3, hlm3⟩, _, _, _⟩ := id hP3
    have hab : ("ab" : Str) = st [97, 98] := by decide +kernel
    refine ⟨_, rfl, p0, dx3, _, rfl, hp3, rfl, p0, 60, [], 3, [97, 98], .non, (by show [V.ref p0, V.int 3, V.str "ab", V.non] = _; rw [hab]; rfl), hP3, by decide, fun H4 hP4 f4 _ => ⟨rfl, _, rfl, iteF ?_⟩⟩
    have s4 : Same H H4 := fun b u e => f4 b u (ne_of_none e np0) ((s2.trans s3) _ _ (s1 _ _ e))
    refine ⟨_, rfl, fun D2 nD2 => ⟨(by show 2 ≤ sizeLine; decide), fun t1 nt1 => ⟨(by show 1 ≤ sizeLine; decide), fun l1 nl1 => ⟨l1, 3, [.ref t1], rfl, rfl, upd_same, by decide, by decide, line200 (by show 3 ≤ 100000; decide), fun l2 nl2 => ⟨(by show 2 ≤ sizeLine; decide), fun t2 nt2 => ⟨(by show 2 ≤ sizeLine; decide), fun t3 nt3 => ⟨(by show 2 ≤ sizeLine; decide), fun l3 nl3 => ?_⟩⟩⟩⟩⟩⟩⟩
    have z1 := Same.new (o := .dK []) nD2
    have z2 := Same.new (o := .tup [.str "~", .non]) nt1
    have z3 := Same.new (o := .lst [.ref t1]) nl1
    have z4 := Same.new (o := .lst [.ref t1, .ref t1, .ref t1]) nl2
    have z5 := Same.new (o := .tup [.str "a", .non]) nt2
    have z6 := Same.new (o := .tup [.str "b", .non]) nt3
    have z7 := Same.new (o := .lst [.ref t2, .ref t3]) nl3
    refine ⟨l2, l3, [.ref t1, .ref t1, .ref t1], [.ref t2, .ref t3], rfl, rfl, (z5.trans (z6.trans z7)) _ _ upd_same, upd_same, line200 (by show 5 ≤ 100000; decide), fun l4 nl4 => ?_⟩
    have z8 := Same.new (o := .lst [.ref t1, .ref t1, .ref t1, .ref t2, .ref t3]) nl4
    refine ⟨((z2.trans (z3.trans z4)).trans ((z5.trans (z6.trans z7)).trans z8)) _ _ upd_same, [(Sum.inr "wide", .int 60), (Sum.inr "row", .ref l4)], rfl, (by show 2 ≤ 15; decide), ?_⟩
    have z28 := (z2.trans (z3.trans z4)).trans ((z5.trans (z6.trans z7)).trans z8)
    have hza : ("a" : Str) = st [97] := by decide +kernel
    have hzb : ("b" : Str) = st [98] := by decide +kernel
    have ht1 := ((z3.trans z4).trans ((z5.trans (z6.trans z7)).trans z8)) t1 (.tup [.str (st [126]), .non]) (by rw [← fillS]; exact upd_same)
    have ht2 := ((z6.trans z7).trans z8) t2 (.tup [.str (st [97]), .non]) (by rw [← hza]; exact upd_same)
    have ht3 := (z7.trans z8) t3 (.tup [.str (st [98]), .non]) (by rw [← hzb]; exact upd_same)
    have s5 := Same.mut (o := .dK (mergeK [] [(Sum.inr ("wide" : Str), .int 60), (Sum.inr ("row" : Str), .ref l4)])) (z1.trans z28) nD2
    refine ⟨p0, D2, l4, 60, putG none [] 3 [97, 98] none, rfl, ⟨_, hP4.same s5, (RowD.put (H := H4) (r := []) (R := []) (d := none) trivial rfl).keep fun b xs e => s5 _ _ e⟩, own_made (as := [t1, t1, t1, t2, t3]) (r := [(126, .non), (126, .non), (126, .non), (97, .non), (98, .non)]) upd_same (z28 _ _ upd_same) ⟨ht1, ht1, ht1, ht2, ht3, trivial⟩ ⟨rfl, rfl, rfl, rfl, rfl, rfl, rfl, rfl, rfl, rfl, trivial⟩, fun H6 s6 => ⟨true, rfl, iteF ?_⟩⟩
    have s6' : Same H H6 := s4.trans (s5.trans s6)
    intro p1 d1 np1 nd1 npd1
    refine ⟨p1, d1, 200, rfl, upd_same, by decide, by decide, fun H7 hP7 f7 _ => ⟨rfl, ?_⟩⟩
    have s7 : Same H6 H7 := made_same np1 nd1 f7
    refine fun D3 nD3 => ⟨Nat.zero_le _, fun l5 nl5 => ⟨Eq.trans (upd_ne (upd_free nl5).2.symm) upd_same, [(Sum.inr "wide", .int 200), (Sum.inr "row", .ref l5)], rfl, (by show 2 ≤ 15; decide), _, _, rfl, ?_⟩⟩
    have nl5' := upd_free nl5
    have hO8 := own_made (H2 := upd (upd H7 D3 (.dK [])) l5 (.lst [])) (D := D3) (l := l5) (n := 200) (as := []) (r := []) (R := []) upd_same (Eq.trans (upd_ne nl5'.2.symm) upd_same) trivial trivial
    have s8 : Same H7 (upd (upd (upd H7 D3 (.dK [])) l5 (.lst [])) D3 (.dK (mergeK [] [(Sum.inr ("wide" : Str), .int 200), (Sum.inr ("row" : Str), .ref l5)]))) := Same.mut ((Same.new nD3).trans (Same.new nl5)) nD3
    have hB8 : Both C _ p1 D3 l5 200 [] := ⟨⟨[], hP7.same s8, trivial⟩, hO8, MkNot.fresh hP7 nl5'.1 s8⟩
    dsimp only
    generalize upd (upd (upd H7 D3 (.dK [])) l5 (.lst [])) D3 (.dK (mergeK [] [(Sum.inr ("wide" : Str), .int 200), (Sum.inr ("row" : Str), .ref l5)])) = H8 at s8 hB8 ⊢
    have hlong : ("long" : Str) = st [108, 111, 110, 103] := by decide +kernel
    have mulL : MulOk (st [108, 111, 110, 103]) ((50 : Nat) : Int) := mulOk_of (by decide) (by decide)
    obtain ⟨sL, hsL, lenL⟩ : ∃ sL : List Nat, Txt.mul (st [108, 111, 110, 103]) ((50 : Nat) : Int) = st sL ∧ sL.length = 200 := ⟨_, st_mul _ _, by decide⟩
    refine ⟨_, rfl, st [108, 111, 110, 103], (50 : Nat), by rw [hlong], rfl, mulL, ?_⟩
    rw [hsL]
    refine ⟨(by show 2 ≤ sizeLine; decide), fun t9 nt9 => ?_⟩
    have z9 := Same.new (o := .tup [.str "ann", .int 10]) nt9
    have ht9 : upd H8 t9 (.tup [.str "ann", .int 10]) t9 = some (.tup [.str "ann", .int 10]) := upd_same
    have hB9 := hB8.same z9
    generalize upd H8 t9 (.tup [.str "ann", .int 10]) = H9 at z9 hB9 ht9 ⊢
    have r0 : ∀ {H : Hp} {r : Row}, RowD H r [] → r = [] := fun h => List.eq_nil_of_length_eq_zero h.len
    obtain ⟨⟨r1, hP9, hR1⟩, ⟨r2, hO9, hR2⟩, nt9⟩ := hB9
    obtain rfl := r0 hR1
    obtain rfl := r0 hR2
    obtain ⟨as9, hl9, hpr9⟩ := id hO9.row
    obtain ⟨⟨dx9, lm9, hp9, hlm9⟩, lo, hi, hlen9⟩ := id hP9
    refine ⟨D3, l5, 200, [], 0, sL, .ref t9, rfl, hO9, by decide, by decide, by omega, fun H10 hO10 b10 => ?_⟩
    have npl : p1 ≠ l5 := ne_of hp9 hl9 (by intro z; cases z)
    have n1 : lm9 ≠ l5 := fun z => nt9 _ _ _ _ (z ▸ hp9)
    have hp10 := b10 _ _ npl hp9
    have hm10 : MkAt H10 (.ref t9) (some ("ann", 10)) := ⟨by decide +kernel, t9, rfl, b10 _ _ (ne_of ht9 hl9 (by intro z; cases z)) ht9⟩
    have hP10 : PcAt C H10 p1 200 [] := ⟨⟨dx9, lm9, hp10, b10 _ _ n1 hlm9⟩, lo, hi, hlen9⟩
    refine ⟨_, rfl, p1, dx9, _, rfl, hp10, rfl, st [108, 111, 110, 103], (50 : Nat), by rw [hlong], rfl, mulL, ?_⟩
    rw [hsL]
    refine ⟨(by show 2 ≤ sizeLine; decide), fun t11 nt11 => ⟨rfl, rfl, p1, 200, [], 0, sL, .ref t11, rfl, hP10.same (Same.new nt11), by omega, fun H12 hP12 f12 nt12 => ⟨rfl, _, rfl, iteF ?_⟩⟩⟩
    have z11 := Same.new (o := .tup [.str "ann", .int 10]) nt11
    have hm11 : MkAt (upd H10 t11 (.tup [.str "ann", .int 10])) (.ref t11) (some ("ann", 10)) := ⟨by decide +kernel, t11, rfl, upd_same⟩
    have hp11 := z11 _ _ hp10
    have tp12 : Tups (upd H10 t11 (.tup [.str "ann", .int 10])) H12 := fun b xs hb => f12 _ _ (ne_of hb hp11 (by intro z; cases z)) hb
    obtain ⟨hd10, as10, hl10, hpr10⟩ := hO10
    have f12' : ∀ b u, b ≠ p1 → H10 b = some u → H12 b = some u := fun b u nb e => f12 b u nb (z11 _ _ e)
    refine ⟨_, rfl, _, rfl, p1, D3, l5, 200, putG none [] 0 sL (some ("ann", 10)), rfl, ⟨_, hP12, (RowD.put (r := []) (R := []) trivial hm11).keep tp12⟩, ⟨_, ⟨f12' _ _ (ne_of hd10 hp10 (by intro z; cases z)) hd10, as10, f12' _ _ npl.symm hl10, hpr10.keep fun b xs e => f12' _ _ (ne_of e hp10 (by intro z; cases z)) e⟩, (RowD.put (r := []) (R := []) trivial hm10).keep fun b xs e => f12' _ _ (ne_of e hp10 (by intro z; cases z)) e⟩, fun H13 s13 => ⟨true, rfl, iteF ?_⟩⟩
    have np1' : H p1 = none := s6'.free np1
    have nl5'' : H l5 = none := (s6'.trans s7).free nl5'.1
    have s13' : Same H H13 := fun b u e => s13 _ _ (f12' _ _ (ne_of_none e np1') (b10 _ _ (ne_of_none e nl5'') (z9 _ _ (s8 _ _ (s7 _ _ (s6' _ _ e))))))
    refine ⟨_, rfl, a, _, rfl, .inl (s13'.seq hS), _, _, rfl, _, _, rfl, ?_⟩
    rw [List.length_map]
    generalize hn : (if (if (10 : Int) < (ns.length : Int) then (10 : Int) else (ns.length : Int)) > 1 then (if (10 : Int) < (ns.length : Int) then (10 : Int) else (ns.length : Int)) else 1) = n
    have hn1 : 1 ≤ n ∧ n ≤ 10 := by
      rw [← hn]
      split <;> split <;> omega
    refine ⟨n, rfl, by omega, by omega, for_range (lo := 0) (n := n.toNat) (fun i σ H' => ∃ v1 v2 v3 v4 v5 : Option V, σ = [some (.ref a), v1, v2, v3, v4, v5] ∧ Same H H') ⟨_, _, _, _, _, rfl, s13'⟩ ?_ (fun σ H' _ => k H')⟩
    rintro i σ H0 hi ⟨v1, v2, v3, v4, v5, rfl, s0⟩
    refine ⟨_, rfl, _, rfl, a, ns, _, rfl, s0.seq hS, hlen, by omega, by omega, fun q H1 po nq hpo t1 hq => ?_⟩
    have nq0 : H q = none := s0.free nq
    refine fun D nD => ⟨_, rfl, _, rfl, q, 177, po, rfl, (Same.new nD) _ _ hq, hpo, by decide, by decide, fun v po2 w0 w1 hpo2 => ⟨_, _, rfl, rfl, (by show 3 ≤ sizeLine; decide), fun L nL => ?_⟩⟩
    have nLq : L ≠ q := (upd_free nL).2
    have nDq : D ≠ q := (ne_of_none hq nD).symm
    refine ⟨q, L, _, po2, rfl, Eq.trans (upd_ne nLq.symm) upd_same, hpo2, SqL.of upd_same, nLq, (by show 0 < 3; decide), (by show 3 < 1000; decide), fun x po3 hx hpo3 => ?_⟩
    obtain ⟨n, rfl, hn24, hn200⟩ : ∃ n : Int, x = .int n ∧ 24 ≤ n ∧ n ≤ 200 := by
      rcases List.mem_cons.mp hx with h | h
      · exact ⟨_, h, by decide, by decide⟩
      rcases List.mem_cons.mp h with h | h
      · exact ⟨_, h, by decide, by decide⟩
      rcases List.mem_cons.mp h with h | h
      · exact ⟨_, h, by omega, by omega⟩
      cases h
    refine ⟨Nat.zero_le _, fun l nl => ?_⟩
    have y1 := Same.new (o := .dK []) nD
    have y3 := Same.new (o := .lst [.int 24, .int 200, .int (24 + v)]) nL
    have y5 := Same.new (o := .lst []) nl
    have hD4 : upd (upd (upd (upd H1 D (.dK [])) q po2) L (.lst [.int 24, .int 200, .int (24 + v)])) q po3 D = some (.dK []) := by
      rw [upd_ne nDq]
      exact y3 _ _ (by rw [upd_ne nDq]; exact upd_same)
    have b4 : But q (upd H1 D (.dK [])) (upd (upd (upd (upd H1 D (.dK [])) q po2) L (.lst [.int 24, .int 200, .int (24 + v)])) q po3) := (But.upd.trans (But.of y3)).trans But.upd
    have hq4 : upd (upd (upd (upd H1 D (.dK [])) q po2) L (.lst [.int 24, .int 200, .int (24 + v)])) q po3 q = some po3 := upd_same
    generalize upd (upd (upd (upd H1 D (.dK [])) q po2) L (.lst [.int 24, .int 200, .int (24 + v)])) q po3 = H4 at b4 hD4 hq4 nl y5 ⊢
    have nD0 : H D = none := (s0.trans t1).free nD
    have s4 : Same H H4 := fun b u e => b4 _ _ (ne_of_none e nq0) (y1 _ _ (t1 _ _ (s0 _ _ e)))
    have nl0 : H l = none := s4.free nl
    refine ⟨y5 _ _ hD4, [(Sum.inr "wide", .int n), (Sum.inr "row", .ref l)], rfl, (by show 2 ≤ 15; decide), ?_⟩
    have hO5 := own_made (H2 := upd H4 l (.lst [])) (D := D) (l := l) (n := n) (as := []) (r := []) (R := []) upd_same (y5 _ _ hD4) trivial trivial
    have hq5 : upd (upd H4 l (.lst [])) D (.dK (mergeK [] [(Sum.inr ("wide" : Str), .int n), (Sum.inr ("row" : Str), .ref l)])) q = some po3 := by
      rw [upd_ne nDq.symm]
      exact y5 _ _ hq4
    have s5 : Same H (upd (upd H4 l (.lst [])) D (.dK (mergeK [] [(Sum.inr ("wide" : Str), .int n), (Sum.inr ("row" : Str), .ref l)]))) := Same.mut (s4.trans y5) nD0
    show tSeq _ _ _ [some (.ref a), v1, some (.ref D), some (.int (0 + (i : Int))), some (.ref q), v5] _
    generalize upd (upd H4 l (.lst [])) D (.dK (mergeK [] [(Sum.inr ("wide" : Str), .int n), (Sum.inr ("row" : Str), .ref l)])) = H5 at hO5 hq5 s5 ⊢
    obtain ⟨r5, hO5', hR5⟩ := id hO5
    refine ⟨_, rfl, D, _, rfl, (DGet.k (k := Sum.inr ("wide" : Str)) hO5'.dic : DGet H5 D (kV (Sum.inr ("wide" : Str))) (some (.int n))), fun p dp np ndp npd => ?_⟩
    refine ⟨p, dp, n, rfl, upd_same, hn24, hn200, fun H6 hP6 f6 nt6 => ⟨rfl, ?_⟩⟩
    have s6 : Same H5 H6 := made_same np ndp f6
    have np0' : H p = none := s5.free np
    have hB6 : Both C H6 p D l n [] := ⟨⟨[], hP6, trivial⟩, hO5.same s6, nt6 l (by
      obtain ⟨as, h, _⟩ := hO5'.row
      have npl : l ≠ p := ne_of_none h np
      have ndl : l ≠ dp := ne_of_none h ndp
      rw [upd_ne npl, upd_ne ndl, h]
      simp)⟩
    refine ⟨_, rfl, q, 25, po3, rfl, s6 _ _ hq5, hpo3, by decide, by decide, fun m po7 m0 m1 hpo7 => ⟨_, _, rfl, rfl, _, rfl, by omega, by omega, ?_⟩⟩
    refine for_range (lo := 0) (n := (1 + m).toNat) (fun j σ H' => ∃ (R : RowT) (po : HO) (v5 : Option V), σ = [some (.ref a), some (.ref p), some (.ref D), some (.int (0 + (i : Int))), some (.ref q), v5] ∧ Same H H' ∧ H' q = some po ∧ PoolO po ∧ Both C H' p D l n R)
      ⟨[], po7, _, rfl, Same.mut (s5.trans s6) nq0, upd_same, hpo7, hB6.but (s6 _ _ hq5) hpo3 But.upd⟩ ?_ ?_
    · rintro j σ H8 hj ⟨R, po8, v5', rfl, s8, hq8, hpo8, hB8⟩
      refine ⟨_, rfl, _, rfl, _, rfl, q, p, D, l, po8, n, R, rfl, hq8, hpo8, hB8, fun R' po9 H9 hpo9 hq9 hB9 f9 => ⟨true, rfl, iteF ?_⟩⟩
      have s9 : Same H H9 := fun b u e => f9 b u (ne_of_none e nq0) (ne_of_none e np0') (ne_of_none e nl0) (s8 _ _ e)
      refine ⟨_, rfl, _, rfl, p, D, l, n, R', rfl, hB9.pc, hB9.ow, fun H10 s10 => ⟨true, rfl, iteF ?_⟩⟩
      exact ⟨R', po9, _, rfl, s9.trans s10, s10 _ _ hq9, hpo9, hB9.same s10⟩
    · rintro σ H8 ⟨R, po8, v5', rfl, s8, _⟩
      exact ⟨_, _, _, _, _, rfl, s8⟩
end

/-! ### what the top has left -/
theorem facts {P : Program} {w : World} {K : PySem.W.Frag} {h : Heap} {mg : Str → Option Value} {f : Addr} (X : K.In h) (G : h.Ns mainGlobals mg) (hfa : mg ("law" : Str) = some (.ref f)) (c : He.SaysD fa fn K) :
    ∃ fd : FuncData, (∀ (s : Shared) (v : Value), BindsTo s fd ⟨[v], []⟩ [("_law_script", v)]) ∧ ∀ base : Heap, K.In base → base.Ns mainGlobals mg → FnOk P w K mg base CX0 5 f fd ["_law_script"] (spLaw K) := by
  have gl__wall := He.glo_ok X G (c.fact 0 (f := .glo "_wall") rfl)
  have gl_is_whole := He.glo_ok X G (c.fact 1 (f := .glo "is_whole") rfl)
  have gl_is_from := He.glo_ok X G (c.fact 2 (f := .glo "is_from") rfl)
  have gl__law_pool := He.glo_ok X G (c.fact 3 (f := .glo "_law_pool") rfl)
  have gl__law_take := He.glo_ok X G (c.fact 4 (f := .glo "_law_take") rfl)
  have gl__law_one := He.glo_ok X G (c.fact 5 (f := .glo "_law_one") rfl)
  have gl__law_signs := He.glo_ok X G (c.fact 6 (f := .glo "_law_signs") rfl)
  have gl__law_key := He.glo_ok X G (c.fact 7 (f := .glo "_law_key") rfl)
  have gl__law_laid := He.glo_ok X G (c.fact 8 (f := .glo "_law_laid") rfl)
  have gl__law_piece_so := He.glo_ok X G (c.fact 9 (f := .glo "_law_piece_so") rfl)
  have gl__law_put_some := He.glo_ok X G (c.fact 10 (f := .glo "_law_put_some") rfl)
  have gl_law := He.glo_ok X G (c.fact 11 (f := .glo "law") rfl)
  have gl_LeaseError := He.glo_ok X G (c.fact 12 (f := .glo "LeaseError") rfl)
  have gl_NoNumber := He.glo_ok X G (c.fact 13 (f := .glo "NoNumber") rfl)
  have gl_NoPlace := He.glo_ok X G (c.fact 14 (f := .glo "NoPlace") rfl)
  have gl_Piece := He.glo_ok X G (c.fact 15 (f := .glo "Piece") rfl)
  have cl_Piece := He.cls_ok (c.fact 16 (f := .cls "Piece") rfl)
  have mk_Piece := He.mkr_ok (c.fact 17 (f := .mkr "Piece") rfl)
  have mt_Piece_put := He.meth_ok (c.fact 18 (f := .meth "Piece" "put") rfl)
  have mt_Piece_signs := He.meth_ok (c.fact 19 (f := .meth "Piece" "signs") rfl)
  have mt_Piece_marks := He.meth_ok (c.fact 20 (f := .meth "Piece" "marks") rfl)
  have mt_Piece_size := He.meth_ok (c.fact 21 (f := .meth "Piece" "size") rfl)
  have mt_Piece_twin := He.meth_ok (c.fact 22 (f := .meth "Piece" "twin") rfl)
  have mt_Piece___len__ := He.meth_ok (c.fact 23 (f := .meth "Piece" "__len__") rfl)
  have mt_Piece___eq__ := He.meth_ok (c.fact 24 (f := .meth "Piece" "__eq__") rfl)
  have mt_Piece___repr__ := He.meth_ok (c.fact 25 (f := .meth "Piece" "__repr__") rfl)
  have na_Piece_own_marks := He.noat_ok (c.fact 26 (f := .noat "Piece" "own_marks") rfl)
  have na_Piece_own_signs := He.noat_ok (c.fact 27 (f := .noat "Piece" "own_signs") rfl)
  have na_Piece_own_size := He.noat_ok (c.fact 28 (f := .noat "Piece" "own_size") rfl)
  have i_FILLER := He.str_ok X G (c.fact 29 (f := .str "FILLER" "~") rfl)
  have i_SIZE := He.int_ok X G (c.fact 30 (f := .int "SIZE" 60) rfl)
  have i_LEAST_SIZE := He.int_ok X G (c.fact 31 (f := .int "LEAST_SIZE" 24) rfl)
  have i_MOST_SIZE := He.int_ok X G (c.fact 32 (f := .int "MOST_SIZE" 200) rfl)
  have m_ValueError := He.free_ok X G (c.fact 33 (f := .free "ValueError") rfl)
  have m_bool := He.free_ok X G (c.fact 34 (f := .free "bool") rfl)
  have m_enumerate := He.free_ok X G (c.fact 35 (f := .free "enumerate") rfl)
  have m_int := He.free_ok X G (c.fact 36 (f := .free "int") rfl)
  have m_isinstance := He.free_ok X G (c.fact 37 (f := .free "isinstance") rfl)
  have m_len := He.free_ok X G (c.fact 38 (f := .free "len") rfl)
  have m_list := He.free_ok X G (c.fact 39 (f := .free "list") rfl)
  have m_max := He.free_ok X G (c.fact 40 (f := .free "max") rfl)
  have m_min := He.free_ok X G (c.fact 41 (f := .free "min") rfl)
  have m_range := He.free_ok X G (c.fact 42 (f := .free "range") rfl)
  have m_repr := He.free_ok X G (c.fact 43 (f := .free "repr") rfl)
  have m_str := He.free_ok X G (c.fact 44 (f := .free "str") rfl)
  obtain ⟨fd__wall, F__wall⟩ := c.def_ 0 (d := d_wall) rfl
  obtain ⟨fd_NoNumber___init__, F_NoNumber___init__⟩ := c.def_ 1 (d := dNoNumber___init__) rfl
  obtain ⟨fd_NoPlace___init__, F_NoPlace___init__⟩ := c.def_ 2 (d := dNoPlace___init__) rfl
  obtain ⟨fd_is_whole, F_is_whole⟩ := c.def_ 3 (d := dis_whole) rfl
  obtain ⟨fd_is_from, F_is_from⟩ := c.def_ 4 (d := dis_from) rfl
  obtain ⟨fd_Piece___init__, F_Piece___init__⟩ := c.def_ 5 (d := dPiece___init__) rfl
  obtain ⟨fd_Piece_put, F_Piece_put⟩ := c.def_ 6 (d := dPiece_put) rfl
  obtain ⟨fd_Piece_signs, F_Piece_signs⟩ := c.def_ 7 (d := dPiece_signs) rfl
  obtain ⟨fd_Piece_marks, F_Piece_marks⟩ := c.def_ 8 (d := dPiece_marks) rfl
  obtain ⟨fd_Piece_size, F_Piece_size⟩ := c.def_ 9 (d := dPiece_size) rfl
  obtain ⟨fd_Piece_twin, F_Piece_twin⟩ := c.def_ 10 (d := dPiece_twin) rfl
  obtain ⟨fd_Piece___len__, F_Piece___len__⟩ := c.def_ 11 (d := dPiece___len__) rfl
  obtain ⟨fd_Piece___eq__, F_Piece___eq__⟩ := c.def_ 12 (d := dPiece___eq__) rfl
  obtain ⟨fd_Piece___repr__, F_Piece___repr__⟩ := c.def_ 13 (d := dPiece___repr__) rfl
  obtain ⟨fd__law_pool, F__law_pool⟩ := c.def_ 14 (d := d_law_pool) rfl
  obtain ⟨fd__law_take, F__law_take⟩ := c.def_ 15 (d := d_law_take) rfl
  obtain ⟨fd__law_one, F__law_one⟩ := c.def_ 16 (d := d_law_one) rfl
  obtain ⟨fd__law_signs, F__law_signs⟩ := c.def_ 17 (d := d_law_signs) rfl
  obtain ⟨fd__law_key, F__law_key⟩ := c.def_ 18 (d := d_law_key) rfl
  obtain ⟨fd__law_laid, F__law_laid⟩ := c.def_ 19 (d := d_law_laid) rfl
  obtain ⟨fd__law_piece_so, F__law_piece_so⟩ := c.def_ 20 (d := d_law_piece_so) rfl
  obtain ⟨fd__law_put_some, F__law_put_some⟩ := c.def_ 21 (d := d_law_put_some) rfl
  obtain ⟨fd_law, F_law⟩ := c.def_ 22 (d := dlaw) rfl
  have e := hfa.symm.trans gl_law
  cases e
  have b := FunD.bindsA (ps := ["_law_script"]) F_law fun _ _ _ _ _ _ us hl => match us, hl with | [_], _ => rfl
  refine ⟨fd_law, fun s v => b s [v] rfl, fun base _ _ => ?_⟩

  have T : PieceTx K mg (He.ga K "Piece") := ⟨cl_Piece, na_Piece_own_size, na_Piece_own_signs, na_Piece_own_marks, i_LEAST_SIZE, i_MOST_SIZE, i_FILLER, m_len, m_max, m_list⟩
  have D_is_whole : Df P w K mg base 1 "is_whole" pis_whole (spWholeI) := ⟨_, fd_is_whole, gl_is_whole, F_is_whole.kp, F_is_whole.bindsN fun _ _ _ _ _ _ us hl => match us, hl with | [_], _ => rfl, ok_is_whole m_isinstance m_int m_bool F_is_whole⟩
  have D_is_from : Df P w K mg base 2 "is_from" pis_from (spFromI) := ⟨_, fd_is_from, gl_is_from, F_is_from.kp, binds_nil (F_is_from.binds1 3 1 (List.cons_ne_nil _ _) rfl fun _ _ _ _ _ _ _ us its h1 h2 => match us, its, h1, h2 with | [_, _, _], [_], _, _ => ⟨_, rfl, rfl⟩), ok_is_from D_is_whole F_is_from⟩
  have G_init : FnOk P w K mg base CX0 3 _ fd_Piece___init__ pPiece___init__ (spPInit (He.ga K "Piece")) := ok_pinit T D_is_from F_Piece___init__
  have G_put : FnOk P w K mg base CX0 3 _ fd_Piece_put pPiece_put (spPut (He.ga K "Piece")) := ok_put T D_is_from F_Piece_put
  have D_Piece_signs : Dm P w K mg base (He.ga K "Piece") 1 "signs" pPiece_signs (spSigns (He.ga K "Piece")) := ⟨_, fd_Piece_signs, mt_Piece_signs, F_Piece_signs.bindsN fun _ _ _ _ _ _ us hl => match us, hl with | [_], _ => rfl, ok_signs T F_Piece_signs⟩
  have D_Piece_marks : Dm P w K mg base (He.ga K "Piece") 1 "marks" pPiece_marks (spMarks (He.ga K "Piece")) := ⟨_, fd_Piece_marks, mt_Piece_marks, F_Piece_marks.bindsN fun _ _ _ _ _ _ us hl => match us, hl with | [_], _ => rfl, ok_marks T F_Piece_marks⟩
  have D_Piece_size : Dm P w K mg base (He.ga K "Piece") 1 "size" pPiece_size (spSize (He.ga K "Piece")) := ⟨_, fd_Piece_size, mt_Piece_size, F_Piece_size.bindsN fun _ _ _ _ _ _ us hl => match us, hl with | [_], _ => rfl, ok_size T F_Piece_size⟩
  have D_Piece___len__ : Dm P w K mg base (He.ga K "Piece") 1 "__len__" pPiece___len__ (spLen (He.ga K "Piece")) := ⟨_, fd_Piece___len__, mt_Piece___len__, F_Piece___len__.bindsN fun _ _ _ _ _ _ us hl => match us, hl with | [_], _ => rfl, ok_len T F_Piece___len__⟩
  have D_Piece___repr__ : Dm P w K mg base (He.ga K "Piece") 1 "__repr__" pPiece___repr__ (spRepr (He.ga K "Piece")) := ⟨_, fd_Piece___repr__, mt_Piece___repr__, F_Piece___repr__.bindsN fun _ _ _ _ _ _ us hl => match us, hl with | [_], _ => rfl, ok_repr T F_Piece___repr__⟩
  have D_P0 : Dkd P w K mg base (He.ga K "Piece") 3 "Piece" pPiece___init__ [.int 60] (spPInit (He.ga K "Piece")) := by
    obtain ⟨ds, h1, h2⟩ := F_Piece___init__.binds1 (ps := pPiece___init__) 1 0 (List.cons_ne_nil _ _) rfl (fun _ _ _ _ _ _ _ us its h1 h2 => match us, its, h1, h2 with | [_], [_], _, _ => ⟨_, rfl, rfl⟩)
    exact ⟨_, _, ds, mk_Piece, gl_Piece, h1, h2, G_init⟩
  have D_P1 : Dkd P w K mg base (He.ga K "Piece") 3 "Piece" pPiece___init__ [] (spPInit (He.ga K "Piece")) := by
    obtain ⟨ds, h1, h2⟩ := F_Piece___init__.binds1 (ps := pPiece___init__) 2 1 (List.cons_ne_nil _ _) rfl (fun _ _ _ _ _ _ _ us its h1 h2 => match us, its, h1, h2 with | [_, _], [_], _, _ => ⟨_, rfl, rfl⟩)
    exact ⟨_, _, ds, mk_Piece, gl_Piece, h1, h2, G_init⟩
  have D_put2 : Dmd P w K mg base (He.ga K "Piece") 3 "put" pPiece_put [.non] (spPut (He.ga K "Piece")) := by
    obtain ⟨ds, h1, h2⟩ := F_Piece_put.binds0 (ps := pPiece_put) 3 (List.cons_ne_nil _ _) rfl (fun _ _ _ _ _ _ us ks h1 h2 => match us, ks, h1, h2 with | [_, _, _], [_], _, _ => ⟨_, _, _, _, _, _, rfl, rfl, rfl⟩)
    exact ⟨_, _, ds, mt_Piece_put, h1, h2, G_put⟩
  have D_put : Dmn P w K mg base (He.ga K "Piece") 3 "put" pPiece_put 3 ["mark"] (fun vs zs => vs ++ zs) (spPut (He.ga K "Piece")) := by
    obtain ⟨mv, kb⟩ := F_Piece_put.kbinds0 (ps := pPiece_put) 3 ["mark"] [] (fun us mv ws => us ++ ws) (List.cons_ne_nil _ _) (by intro q hq; cases hq) (fun r1 r2 r3 => r1.append r3)
      (fun _ _ _ _ _ _ us mv ws h1 h2 h3 => match us, mv, ws, h1, h2, h3 with | [_, _, _], [], [_], _, _, _ => rfl)
    exact ⟨_, _, _, mt_Piece_put, kb, G_put⟩
  have D__law_pool : Df P w K mg base 1 "_law_pool" p_law_pool (spPool K) := ⟨_, fd__law_pool, gl__law_pool, F__law_pool.kp, F__law_pool.bindsN fun _ _ _ _ _ _ us hl => match us, hl with | [_, _], _ => rfl, ok_pool m_max m_int F__law_pool⟩
  have D__law_take : Df P w K mg base 1 "_law_take" p_law_take (spTake) := ⟨_, fd__law_take, gl__law_take, F__law_take.kp, F__law_take.bindsN fun _ _ _ _ _ _ us hl => match us, hl with | [_, _], _ => rfl, ok_take F__law_take⟩
  have D__law_one : Df P w K mg base 2 "_law_one" p_law_one (spOne K) := ⟨_, fd__law_one, gl__law_one, F__law_one.kp, F__law_one.bindsN fun _ _ _ _ _ _ us hl => match us, hl with | [_, _], _ => rfl, ok_one m_len D__law_take F__law_one⟩
  have D__law_signs : Df P w K mg base 2 "_law_signs" p_law_signs (spDrawS) := ⟨_, fd__law_signs, gl__law_signs, F__law_signs.kp, F__law_signs.bindsN fun _ _ _ _ _ _ us hl => match us, hl with | [_, _], _ => rfl, ok_drawS m_len m_range D__law_take F__law_signs⟩
  have D__law_key : Df P w K mg base 3 "_law_key" p_law_key (spDrawK) := ⟨_, fd__law_key, gl__law_key, F__law_key.kp, F__law_key.bindsN fun _ _ _ _ _ _ us hl => match us, hl with | [_], _ => rfl, ok_drawK D__law_take D__law_one F__law_key⟩
  have D__law_laid : Df P w K mg base 1 "_law_laid" p_law_laid (spLaid) := ⟨_, fd__law_laid, gl__law_laid, F__law_laid.kp, F__law_laid.bindsN fun _ _ _ _ _ _ us hl => match us, hl with | [_, _, _, _], _ => rfl, ok_laid m_len m_enumerate F__law_laid⟩
  have D__law_piece_so : Df P w K mg base 3 "_law_piece_so" p_law_piece_so (spSo (He.ga K "Piece")) := ⟨_, fd__law_piece_so, gl__law_piece_so, F__law_piece_so.kp, F__law_piece_so.bindsN fun _ _ _ _ _ _ us hl => match us, hl with | [_, _], _ => rfl, ok_so T m_range m_repr m_str D_Piece_signs D_Piece_marks D_Piece_size D_Piece___len__ D_Piece___repr__ F__law_piece_so⟩
  have D__law_put_some : Df P w K mg base 4 "_law_put_some" p_law_put_some (spPutSome (He.ga K "Piece")) := ⟨_, fd__law_put_some, gl__law_put_some, F__law_put_some.kp, F__law_put_some.bindsN fun _ _ _ _ _ _ us hl => match us, hl with | [_, _, _], _ => rfl, ok_put_some T m_min D__law_take D__law_one D__law_signs D__law_key D__law_laid D_put F__law_put_some⟩
  exact ok_law T m_range m_min i_SIZE D__law_pool D__law_take D__law_one D__law_laid D__law_piece_so D__law_put_some D_put D_put2 D_P0 D_P1 F_law
end My

open PySem PySem.W PySem.Calls PyProof.Rows
set_option maxRecDepth 100000 in
set_option maxHeartbeats 0 in
theorem PySem.Challenge.cw_appendlease_k09_pieces_put_holds : PySem.Challenge.rw_appendlease_k09_pieces_put.Holds := by
  w_on; o_law
  refine HandSHeadRun.head_any (r := OpenLaw.row PySem.Challenge.rw_appendlease_k09_pieces_put) (q := My.qv) (H := My.hk) (ob := My.ob) (M := 6000) (loose := My.loose) (d := HandSHeadRun.topDef (OpenLaw.row PySem.Challenge.rw_appendlease_k09_pieces_put).prog 23) (kwd := []) My.ob_eq
    (by kernel_rfl) (fun s => by kernel_rfl) My.run (by kernel_rfl) (by kernel_rfl) (by kernel_rfl) (by rfl) (by first | assumption | decide +kernel) (by decide +kernel) ⟨rfl, rfl, rfl, rfl, rfl, by decide +kernel⟩ ?hw ?hc
  case hw => w_witness2
  case hc =>
    refine L2.walk_ofE (l := PySem.Challenge.rw_appendlease_k09_pieces_put) (n := 63) (k := 5) (x := "_law_script") (CX := L2.CX0) rfl (by decide) (by kernel_rfl) ⟨rfl, by decide, by decide⟩ ?F (fun _ _ _ _ z => z)
    intro w mg fa h Y G hmg0
    obtain ⟨K, KX, c⟩ := Y
    have hmg : mg ("law" : PySem.Str) = some (.ref fa) := by
      have e : (HandSHeadRun.topDef (OpenLaw.row PySem.Challenge.rw_appendlease_k09_pieces_put).prog 23).name = ("law" : PySem.Str) := by kernel_rfl
      rw [← e]
      exact hmg0
    obtain ⟨fd, hb, hF⟩ := My.facts (P := (PySem.Challenge.rw_appendlease_k09_pieces_put).prog) (w := w) KX G hmg c
    exact ⟨K, fd, My.spLaw K, KX, hb, fun H a ns hl _ hS => ⟨a, ns, rfl, hS, hl, fun _ => rfl⟩, hF⟩

#print axioms PySem.Challenge.cw_appendlease_k09_pieces_put_holds
