import PyProof.Rows.All
import Wide.All
import OpenK.AllK
import Wide.FinOn
import HandS.ForMost
import HandS.EndBits
import HandS.Style
import HandS.CallLocal
import KE.SortData
import PyProof.NeData
import HandS.NestedK
import KE.DataEq
import PySem.Challenge.RW_runsasshown_k02_whole_put_in_opened_and
set_option Elab.async false
set_option linter.all false
set_option maxRecDepth 100000
set_option maxHeartbeats 8000000
/-! RS: rules on top of the hand layer that our proofs share: walks of lists or tuples, joined operators, data in the abstract heap, repr, defs told by their names. -/
namespace RS
open PySem PySem.Spec PyProof.Rows L2

/-! ### tests whose answer is known, heaps -/
theorem upd_at {H : Hp} {a b : Addr} {o : HO} (h : b = a) : upd H a o b = some o := by subst h; exact upd_same

/-! ### a for over a list or a tuple -/
def iSeq (K : PySem.W.Frag) (tl : TE) : TI := fun σ H R => tl σ H fun x H1 => ∃ a, x = .ref a ∧ (((∃ xs, SqL K H1 a xs) ∧ R (Itl K a) H1) ∨ ((∃ xs, SqT K H1 a xs) ∧ R (Itt K a) H1))
theorem pi_seq {X : Cx} {tg l : Expr} {tl : TE} (hl : PE X l tl) : PI X tg l (iSeq X.K tl) := by
  refine ⟨fun pins s σ H R I h => thn (hl.run pins s σ H _ I h) fun v s1 ⟨x, H1, I1, r1, a, e, q⟩ => ?_⟩
  subst e; cases r1
  have fp : ∀ b ∈ [s1.heap.objs.size], FpOk X pins H1 b := fun b hb => by
    rw [List.mem_singleton.mp hb]; exact I1.fpOk (Nat.le_refl _) (I1.hok.fresh (Nat.le_refl _))
  rcases q with ⟨⟨xs, hq⟩, q⟩ | ⟨⟨xs, hq⟩, q⟩
  · obtain ⟨its, _, p, _⟩ := I1.list hq
    exact wpAny_pyIter_list p.isList ⟨s1.heap.objs.size, [s1.heap.objs.size], _, _, H1, rfl, I1.kept (t' := s1.toks) (fun b o e => Heap.get?_push_of_some _ e), turn_list a _, ⟨_, Heap.get?_push_size _ rfl, rfl, rfl⟩, fp, q⟩
  · obtain ⟨its, _, p, _⟩ := I1.tuple hq
    exact wpAny_pyIter_tuple (show s1.heap.IsTuple a its.toArray from p) ⟨s1.heap.objs.size, [s1.heap.objs.size], _, _, H1, rfl, I1.kept (t' := s1.toks) (fun b o e => Heap.get?_push_of_some _ e), turn_tuple a _, ⟨_, Heap.get?_push_size _ rfl, rfl, rfl⟩, fp, q⟩

/-! ### operators joined over the kinds of values -/
section
variable {X : Cx}
/-- + (a structure, so that the unifier opens the other side) -/
structure rAddU (K : PySem.W.Frag) (x y : V) (H : Hp) (Q : VK) : Prop where
  or : (∃ i j, x = .int i ∧ y = .int j ∧ Q (.int (i + j)) H) ∨ ((∃ i j, x = .str i ∧ y = .str j ∧ i.length + j.length ≤ sizeLine ∧ Q (.str (i ++ j)) H) ∨ (rCat x y H Q ∨ rCatT K x y H Q))
theorem OpR.mono {f : Value → Value → Sem Value} {r r' : R2} (h : OpR X f r) (m : ∀ x y H Q, r' x y H Q → r x y H Q) : OpR X f r' :=
  fun pins s σ H x y v u Q I rx ry q => h pins s σ H x y v u Q I rx ry (m x y H Q q)
theorem uAdd : OpR X (binaryOp .Add) (rAddU X.K) := OpR.mono (OpR.or op_add (OpR.or op_add_str (OpR.or op_cat op_catT))) fun _ _ _ _ h => h.or
theorem add_i {K : PySem.W.Frag} {i j : Int} {H : Hp} {Q : VK} (h : Q (.int (i + j)) H) : rAddU K (.int i) (.int j) H Q := ⟨.inl ⟨i, j, rfl, rfl, h⟩⟩
theorem add_s {K : PySem.W.Frag} {i j : Str} {H : Hp} {Q : VK} (hl : i.length + j.length ≤ sizeLine) (h : Q (.str (i ++ j)) H) : rAddU K (.str i) (.str j) H Q := ⟨.inr (.inl ⟨i, j, rfl, rfl, hl, h⟩)⟩
theorem add_l {K : PySem.W.Frag} {l b : Addr} {xs zs : List V} {H : Hp} {Q : VK} (h1 : H l = some (.lst xs)) (h2 : H b = some (.lst zs)) (hl : xs.length + zs.length ≤ sizeLine) (h : ∀ p, H p = none → Q (.ref p) (upd H p (.lst (xs ++ zs)))) :
    rAddU K (.ref l) (.ref b) H Q := ⟨.inr (.inr (.inl ⟨l, b, xs, zs, rfl, rfl, h1, h2, hl, h⟩))⟩
/-- * -/
structure rMulU (x y : V) (H : Hp) (Q : VK) : Prop where
  or : rI CMul (fun i j => .int (i * j)) x y H Q ∨ rRep x y H Q
theorem uMul : OpR X (binaryOp .Mult) rMulU := OpR.mono (OpR.or op_mul op_rep) fun _ _ _ _ h => h.or
theorem mul_i {i j : Int} {H : Hp} {Q : VK} (hc : CMul i j) (h : Q (.int (i * j)) H) : rMulU (.int i) (.int j) H Q := ⟨.inl ⟨i, j, rfl, rfl, hc, h⟩⟩
theorem mul_l {l : Addr} {k : Int} {xs : List V} {H : Hp} {Q : VK} (h : rRep (.ref l) (.int k) H Q) : rMulU (.ref l) (.int k) H Q := ⟨.inr h⟩
/-- lists of unlike lengths, or both empty -/
def rEqNil (K : PySem.W.Frag) (neg : Bool) : R2 := fun x y H Q => ∃ a b xs, x = .ref a ∧ y = .ref b ∧ SqL K H a xs ∧ SqL K H b [] ∧ Q (.bl (xor neg xs.isEmpty)) H
theorem isL {s : Shared} {pins : List (Addr × Obj)} {σ : L2.St} {H : Hp} {a : Addr} {xs : List V} (I : Inv X pins σ H s) (h : SqL X.K H a xs) : ∃ its : List Value, s.heap.IsList a its.toArray ∧ its.length = xs.length := by
  obtain ⟨its, rv, p, _⟩ := I.list h
  exact ⟨its, p.isList, rv.length.symm⟩
theorem op_eqNil (hu : X.A.units + 64 < cLine) : OpR X (compareOp .Eq) (rEqNil X.K false) := by
  intro pins s σ H x y v u Q I rx ry h
  obtain ⟨a, b, xs, rfl, rfl, ha, hb, q⟩ := h
  cases rx; cases ry
  obtain ⟨i1, l1, e1⟩ := isL I ha
  obtain ⟨i2, l2, e2⟩ := isL I hb
  have e2' : i2 = [] := List.length_eq_zero_iff.mp e2
  subst e2'
  cases xs with
  | nil =>
    have e1' : i1 = [] := List.length_eq_zero_iff.mp e1
    subst e1'
    exact SeqAt.eq_listAt (e := fun _ => true) l1 l2 rfl (by omega) (fun j h1 => absurd h1 (Nat.not_lt_zero j)) ⟨.bl true, H, I, rfl, q⟩
  | cons x xs => exact SeqAt.eq_list_lengthsAt l1 l2 (by simp [e1]) (by omega) ⟨.bl false, H, I, rfl, q⟩
theorem op_neNil (hu : X.A.units + 64 < cLine) : OpR X (compareOp .NotEq) (rEqNil X.K true) := by
  intro pins s σ H x y v u Q I rx ry h
  obtain ⟨a, b, xs, rfl, rfl, ha, hb, q⟩ := h
  cases rx; cases ry
  obtain ⟨i1, l1, e1⟩ := isL I ha
  obtain ⟨i2, l2, e2⟩ := isL I hb
  have e2' : i2 = [] := List.length_eq_zero_iff.mp e2
  subst e2'
  cases xs with
  | nil =>
    have e1' : i1 = [] := List.length_eq_zero_iff.mp e1
    subst e1'
    exact SeqAt.RcNeAt.lists (e := fun _ => true) l1 l2 rfl (by omega) (fun j h1 => absurd h1 (Nat.not_lt_zero j)) _ _ _ _ ⟨.bl false, H, I, rfl, q⟩
  | cons x xs => exact SeqAt.RcNeAt.lists_lengths l1 l2 (by simp [e1]) (by omega) _ _ _ _ ⟨.bl true, H, I, rfl, q⟩
/-- == and != : flat values; a list and []; data of any depth -/
structure rEqU (K : PySem.W.Frag) (neg : Bool) (x y : V) (H : Hp) (Q : VK) : Prop where
  or : (scal x y = true ∧ Q (.bl (xor neg (decide (x = y)))) H) ∨ (rEqNil K neg x y H Q ∨ ∃ d e, Dp K H x d ∧ Dp K H y e ∧ SeqAt.shaped d = true ∧ SeqAt.shaped e = true ∧ Q (.bl (xor neg (PyData.eqv d e))) H)
theorem uEq (hu : X.A.units + 64 < cLine) : OpR X (compareOp .Eq) (rEqU X.K false) :=
  OpR.mono (OpR.or op_eq (OpR.or (op_eqNil hu) (op_eqD hu))) fun x y H Q h => by
    rcases h.or with ⟨h1, h2⟩ | h | ⟨d, e, h1, h2, h3, h4, h5⟩
    · exact .inl ⟨h1, by simpa using h2⟩
    · exact .inr (.inl h)
    · exact .inr (.inr ⟨d, e, h1, h2, h3, h4, by simpa using h5⟩)
theorem uNe (hu : X.A.units + 64 < cLine) : OpR X (compareOp .NotEq) (rEqU X.K true) :=
  OpR.mono (OpR.or op_ne (OpR.or (op_neNil hu) (op_neD hu))) fun x y H Q h => by
    rcases h.or with ⟨h1, h2⟩ | h | ⟨d, e, h1, h2, h3, h4, h5⟩
    · exact .inl ⟨h1, by simpa using h2⟩
    · exact .inr (.inl h)
    · exact .inr (.inr ⟨d, e, h1, h2, h3, h4, by simpa using h5⟩)
theorem eq_f {K : PySem.W.Frag} {neg : Bool} {x y : V} {H : Hp} {Q : VK} {b : Bool} (hs : scal x y = true) (hb : xor neg (decide (x = y)) = b) (h : Q (.bl b) H) : rEqU K neg x y H Q := ⟨.inl ⟨hs, by rw [hb]; exact h⟩⟩
theorem eq_n {K : PySem.W.Frag} {neg : Bool} {a p : Addr} {xs : List V} {H : Hp} {Q : VK} {b : Bool} (h1 : SqL K H a xs) (h2 : SqL K H p []) (hb : xor neg xs.isEmpty = b) (h : Q (.bl b) H) : rEqU K neg (.ref a) (.ref p) H Q :=
  ⟨.inr (.inl ⟨a, p, xs, rfl, rfl, h1, h2, by rw [hb]; exact h⟩)⟩
theorem eq_d {K : PySem.W.Frag} {neg : Bool} {x y : V} {d e : PyData} {H : Hp} {Q : VK} {b : Bool} (h1 : Dp K H x d) (h2 : Dp K H y e) (h3 : SeqAt.shaped d = true) (h4 : SeqAt.shaped e = true) (hb : xor neg (PyData.eqv d e) = b) (h : Q (.bl b) H) : rEqU K neg x y H Q :=
  ⟨.inr (.inr ⟨d, e, h1, h2, h3, h4, by rw [hb]; exact h⟩)⟩
/-- in, not in: a sign in a text is left out; flat values in a list or a tuple, a text in a text -/
structure rInU (K : PySem.W.Frag) (neg : Bool) (x y : V) (H : Hp) (Q : VK) : Prop where
  or : rIn K neg x y H Q ∨ ∃ i j, x = .str i ∧ y = .str j ∧ Q (.bl (xor neg (!(Builtin.Str.occurrences j i 0 j.length 1).isEmpty))) H
theorem uIn : OpR X (compareOp .In) (rInU X.K false) := OpR.mono (OpR.or op_in_seq op_in_str) fun x y H Q h => by
  rcases h.or with h | ⟨i, j, h1, h2, h3⟩
  · exact .inl h
  · exact .inr ⟨i, j, h1, h2, by simpa using h3⟩
theorem uNotIn : OpR X (compareOp .NotIn) (rInU X.K true) := OpR.mono (OpR.or op_notIn_seq op_notin_str) fun x y H Q h => by
  rcases h.or with h | ⟨i, j, h1, h2, h3⟩
  · exact .inl h
  · exact .inr ⟨i, j, h1, h2, by simpa using h3⟩
theorem in_t {K : PySem.W.Frag} {neg : Bool} {x : V} {p : Addr} {xs : List V} {H : Hp} {Q : VK} {b : Bool} (h1 : SqT K H p xs) (hf : flatV x = true) (hx : xs.all flatV = true) (hb : xor neg (inV x xs) = b) (h : Q (.bl b) H) : rInU K neg x (.ref p) H Q :=
  ⟨.inl ⟨p, xs, rfl, .inr h1, hf, hx, by cases neg <;> simpa [← hb] using h⟩⟩
theorem in_l {K : PySem.W.Frag} {neg : Bool} {x : V} {p : Addr} {xs : List V} {H : Hp} {Q : VK} {b : Bool} (h1 : SqL K H p xs) (hf : flatV x = true) (hx : xs.all flatV = true) (hb : xor neg (inV x xs) = b) (h : Q (.bl b) H) : rInU K neg x (.ref p) H Q :=
  ⟨.inl ⟨p, xs, rfl, .inl h1, hf, hx, by cases neg <;> simpa [← hb] using h⟩⟩
theorem uLen : CallR X (.builtin "len") (fun xs H Q => ∃ x n, xs = [x] ∧ LenV X.K x H n ∧ Q (.int n) H) := call_len
end

/-! ### the same, the written part told by a letter (within a comprehension's block) -/
theorem uAddK {X : Cx} {K : PySem.W.Frag} (h : X.K = K) : OpR X (binaryOp .Add) (rAddU K) := h ▸ uAdd
theorem uEqK {X : Cx} {K : PySem.W.Frag} (h : X.K = K) (hu : X.A.units + 64 < cLine) : OpR X (compareOp .Eq) (rEqU K false) := h ▸ uEq hu
theorem uNeK {X : Cx} {K : PySem.W.Frag} (h : X.K = K) (hu : X.A.units + 64 < cLine) : OpR X (compareOp .NotEq) (rEqU K true) := h ▸ uNe hu
theorem uInK {X : Cx} {K : PySem.W.Frag} (h : X.K = K) : OpR X (compareOp .In) (rInU K false) := h ▸ uIn
theorem uNotInK {X : Cx} {K : PySem.W.Frag} (h : X.K = K) : OpR X (compareOp .NotIn) (rInU K true) := h ▸ uNotIn
theorem ixK {X : Cx} {K : PySem.W.Frag} (h : X.K = K) : IxR X (rIx K) := h ▸ ix_seq

/-! ### and, or of tests: a structure, so that the unifier opens the other side -/
structure tW (t : TT) (σ : L2.St) (H : Hp) (Q : Bool → Hp → Prop) : Prop where
  h : t σ H Q
theorem pt_w {X : Cx} {e : Expr} {t : TT} (h : PT X e t) : PT X e (tW t) := ⟨fun pins s σ H Q I q => h.run pins s σ H Q I q.h⟩
/-- a test whose answer is known -/
def Val (t : TT) (σ : L2.St) (H : Hp) (b : Bool) : Prop := ∀ Q : Bool → Hp → Prop, Q b H → t σ H Q
theorem Val.and {tA tB : TT} {σ : L2.St} {H : Hp} {a b : Bool} (hA : Val tA σ H a) (hB : a = true → Val tB σ H b) : Val (tAnd tA tB) σ H (a && b) := fun Q h => by
  refine hA _ ?_
  cases a with
  | true => exact iteT (hB rfl _ h)
  | false => exact iteF h
theorem Val.or {tA tB : TT} {σ : L2.St} {H : Hp} {a b : Bool} (hA : Val tA σ H a) (hB : a = false → Val tB σ H b) : Val (tOr tA tB) σ H (a || b) := fun Q h => by
  refine hA _ ?_
  cases a with
  | true => exact iteT h
  | false => exact iteF (hB rfl _ h)
theorem w_val {t : TT} {σ : L2.St} {H : Hp} {Q : Bool → Hp → Prop} (b : Bool) (hv : Val t σ H b) (h : Q b H) : tW t σ H Q := ⟨hv _ h⟩

/-! ### data: atoms and tuples -/
mutual
inductive Dt (K : PySem.W.Frag) (H : Hp) : V → PyData → Prop
  | non : Dt K H .non .none
  | bl (b : Bool) : Dt K H (.bl b) (.bool b)
  | int (i : Int) : Dt K H (.int i) (.int i)
  | str (x : Str) : Dt K H (.str x) (.str x)
  | tup {a : Addr} {xs : List V} {ds : List PyData} : SqT K H a xs → DtAll K H xs ds → Dt K H (.ref a) (.tuple ds)
inductive DtAll (K : PySem.W.Frag) (H : Hp) : List V → List PyData → Prop
  | nil : DtAll K H [] []
  | cons {v : V} {vs : List V} {d : PyData} {ds : List PyData} : Dt K H v d → DtAll K H vs ds → DtAll K H (v :: vs) (d :: ds)
end
/-- the tuples stay -/
def TK (K : PySem.W.Frag) (H H' : Hp) : Prop := ∀ a xs, SqT K H a xs → SqT K H' a xs
theorem TK.refl {K : PySem.W.Frag} (H : Hp) : TK K H H := fun _ _ h => h
theorem TK.trans {K : PySem.W.Frag} {H H1 H2 : Hp} (a : TK K H H1) (b : TK K H1 H2) : TK K H H2 := fun c xs h => b c xs (a c xs h)
theorem TK.of {K : PySem.W.Frag} {H H' : Hp} (h : ∀ a xs, H a = some (.tup xs) → H' a = some (.tup xs)) (h2 : ∀ a o u, H a = some (.frz o u) → H' a = some (.frz o u)) : TK K H H' := fun a xs q => by
  rcases q with (q | ⟨o, q⟩) | q
  · exact .inl (.inl (h _ _ q))
  · exact .inl (.inr ⟨o, h2 _ _ _ q⟩)
  · exact .inr q
theorem TK.same {K : PySem.W.Frag} {H H' : Hp} (e : Same H H') : TK K H H' := TK.of (fun _ _ h => e _ _ h) fun _ _ _ h => e _ _ h
theorem TK.new {K : PySem.W.Frag} {H : Hp} {p : Addr} {o : HO} (h : H p = none) : TK K H (upd H p o) := TK.same fun b u e => by rw [upd_ne (ne_of_none e h)]; exact e
theorem TK.lst {K : PySem.W.Frag} {H : Hp} {p : Addr} {xs : List V} {o : HO} (h : H p = some (.lst xs)) : TK K H (upd H p o) :=
  TK.of (fun a ys e => by rw [upd_ne (ne_of e h (by intro z; cases z))]; exact e) fun a u w e => by rw [upd_ne (ne_of e h (by intro z; cases z))]; exact e
theorem TK.dK {K : PySem.W.Frag} {H : Hp} {p : Addr} {xs : List (Key × V)} {o : HO} (h : H p = some (.dK xs)) : TK K H (upd H p o) :=
  TK.of (fun a ys e => by rw [upd_ne (ne_of e h (by intro z; cases z))]; exact e) fun a u w e => by rw [upd_ne (ne_of e h (by intro z; cases z))]; exact e
mutual
theorem Dt.keep {K : PySem.W.Frag} {H H' : Hp} (t : TK K H H') : ∀ {v : V} (d : PyData), Dt K H v d → Dt K H' v d
  | _, _, .non => .non
  | _, _, .bl b => .bl b
  | _, _, .int i => .int i
  | _, _, .str x => .str x
  | _, _, .tup h r => .tup (t _ _ h) (DtAll.keep t _ r)
theorem DtAll.keep {K : PySem.W.Frag} {H H' : Hp} (t : TK K H H') : ∀ {vs : List V} (ds : List PyData), DtAll K H vs ds → DtAll K H' vs ds
  | _, _, .nil => .nil
  | _, _, .cons h r => .cons (Dt.keep t _ h) (DtAll.keep t _ r)
end
mutual
theorem Dt.dp {K : PySem.W.Frag} {H : Hp} : ∀ {v : V} (d : PyData), Dt K H v d → Dp K H v d
  | _, _, .non => .non
  | _, _, .bl b => .bl b
  | _, _, .int i => .int i
  | _, _, .str x => .str x
  | _, _, .tup h r => .tup h (DtAll.dp _ r)
theorem DtAll.dp {K : PySem.W.Frag} {H : Hp} : ∀ {vs : List V} (ds : List PyData), DtAll K H vs ds → DpAll K H vs ds
  | _, _, .nil => .nil
  | _, _, .cons h r => .cons (Dt.dp _ h) (DtAll.dp _ r)
end
theorem DtAll.length {K : PySem.W.Frag} {H : Hp} : ∀ {vs : List V} {ds : List PyData}, DtAll K H vs ds → vs.length = ds.length
  | _, _, .nil => rfl
  | _, _, .cons _ r => by rw [List.length_cons, List.length_cons, r.length]
theorem DtAll.append {K : PySem.W.Frag} {H : Hp} : ∀ {vs ws : List V} {ds es : List PyData}, DtAll K H vs ds → DtAll K H ws es → DtAll K H (vs ++ ws) (ds ++ es)
  | _, _, _, _, .nil, s => s
  | _, _, _, _, .cons h r, s => .cons h (r.append s)
theorem DtAll.get {K : PySem.W.Frag} {H : Hp} : ∀ {vs : List V} {ds : List PyData} {i : Nat} {v : V}, DtAll K H vs ds → vs[i]? = some v → ∃ d, ds[i]? = some d ∧ Dt K H v d
  | _, _, _, _, .nil, e => by simp at e
  | _, _, 0, _, .cons h _, e => by simp at e; subst e; exact ⟨_, rfl, h⟩
  | _, _, i + 1, v, .cons _ r, e => by
    obtain ⟨d, h1, h2⟩ := DtAll.get (i := i) (v := v) r (by simpa using e)
    exact ⟨d, by simpa using h1, h2⟩
theorem DtAll.get' {K : PySem.W.Frag} {H : Hp} : ∀ {vs : List V} {ds : List PyData} {i : Nat} {d : PyData}, DtAll K H vs ds → ds[i]? = some d → ∃ v, vs[i]? = some v ∧ Dt K H v d
  | _, _, _, _, .nil, e => by simp at e
  | _, _, 0, _, .cons h _, e => by simp at e; subst e; exact ⟨_, rfl, h⟩
  | _, _, i + 1, d, .cons _ r, e => by
    obtain ⟨v, h1, h2⟩ := DtAll.get' (i := i) (d := d) r (by simpa using e)
    exact ⟨v, by simpa using h1, h2⟩
theorem DtAll.reverse {K : PySem.W.Frag} {H : Hp} : ∀ {vs : List V} {ds : List PyData}, DtAll K H vs ds → DtAll K H vs.reverse ds.reverse
  | _, _, .nil => .nil
  | _, _, .cons h r => by rw [List.reverse_cons, List.reverse_cons]; exact r.reverse.append (.cons h .nil)
theorem DtAll.dropLast {K : PySem.W.Frag} {H : Hp} : ∀ {vs : List V} {ds : List PyData}, DtAll K H vs ds → DtAll K H vs.dropLast ds.dropLast
  | _, _, .nil => .nil
  | _, _, .cons h .nil => .nil
  | _, _, .cons h (.cons h2 r) => .cons h (DtAll.dropLast (.cons h2 r))

/-! ### displays: structures, so that the unifier opens the other side -/
theorem line_of {n : Nat} (h : n ≤ 1000) : n ≤ sizeLine := by rw [sizeLine_eq]; omega
theorem lt_line {n : Nat} (h : n ≤ 1000) : n < sizeLine := by rw [sizeLine_eq]; omega
theorem same_new {H : Hp} {p : Addr} {o : HO} (h : H p = none) : Same H (upd H p o) := fun b u e => by rw [upd_ne (ne_of_none e h)]; exact e
structure rNewT (xs : List V) (H : Hp) (Q : VK) : Prop where
  h : xs.length ≤ sizeLine ∧ ∀ p, H p = none → Q (.ref p) (upd H p (.tup xs))
structure rNewL (xs : List V) (H : Hp) (Q : VK) : Prop where
  h : xs.length ≤ sizeLine ∧ ∀ p, H p = none → Q (.ref p) (upd H p (.lst xs))
theorem PE.mono {X : Cx} {e : Expr} {t t' : TE} (h : PE X e t) (m : ∀ σ H Q, t' σ H Q → t σ H Q) : PE X e t' := ⟨fun pins s σ H Q I q => h.run pins s σ H Q I (m σ H Q q)⟩
theorem PA.mono {X : Cx} {es : List Expr} {t : TA} (h : PA X es t) {σ : L2.St} {H : Hp} {Q Q' : List V → Hp → Prop} (q : t σ H Q) (m : ∀ xs H1, Q xs H1 → Q' xs H1) (pos : Pos) (pins : List (Addr × Obj)) (s : Shared) (I : Inv X pins σ H s) :
    wpAny (model X.prog X.w) X.A (spliced (backTo pos (starEach es X.env))) (AP X pins σ Q') X.xe s :=
  thn (h.run pos pins s σ H Q I q) fun us s1 ⟨xs, H1, I1, r, q1⟩ => ⟨xs, H1, I1, r, m xs H1 q1⟩
def tTupN (t : TA) : TE := fun σ H Q => t σ H fun xs H1 => rNewT xs H1 Q
def tLstN (t : TA) : TE := fun σ H Q => t σ H fun xs H1 => rNewL xs H1 Q
theorem pe_tupN {X : Cx} {es : List Expr} {t : TA} {x1 : Nat} {pos : Pos} (h : PA X es t) : PE X (.Tuple es x1 pos) (tTupN t) := by
  refine ⟨fun pins s σ H Q I q => wpAny_Tuple_spliced (thn (h.run pos pins s σ H _ I q) fun us s1 ⟨xs, H1, I1, r, ⟨z, q⟩⟩ => ⟨by rw [← r.length]; exact z, ?_⟩)⟩
  have nf : H1 s1.heap.objs.size = none := I1.hok.fresh (Nat.le_refl _)
  exact ⟨.ref s1.heap.objs.size, upd H1 s1.heap.objs.size (.tup xs), I1.laid (t' := s1.toks) (fun b u e => Heap.get?_push_of_some _ e) (Nat.le_refl _) ⟨z, us, r, ⟨_, Heap.get?_push_size _ rfl, rfl, _, rfl⟩⟩, rfl, q _ nf⟩
theorem pe_lstN {X : Cx} {es : List Expr} {t : TA} {pos : Pos} (h : PA X es t) : PE X (.List es pos) (tLstN t) := by
  refine ⟨fun pins s σ H Q I q => wpAny_List_spliced (thn (h.run pos pins s σ H _ I q) fun us s1 ⟨xs, H1, I1, r, ⟨z, q⟩⟩ => ⟨by rw [← r.length]; exact z, ?_⟩)⟩
  have nf : H1 s1.heap.objs.size = none := I1.hok.fresh (Nat.le_refl _)
  exact ⟨.ref s1.heap.objs.size, upd H1 s1.heap.objs.size (.lst xs), I1.laid (t' := s1.toks) (fun b u e => Heap.get?_push_of_some _ e) (Nat.le_refl _) ⟨z, us, 0, r, Heap.get?_push_size _ rfl⟩, rfl, q _ nf⟩
theorem tup_new {K : PySem.W.Frag} {H : Hp} {xs : List V} {ds : List PyData} {Q : VK} (h : DtAll K H xs ds) (hz : xs.length ≤ 1000) (k : ∀ v H', Same H H' → Dt K H' v (.tuple ds) → Q v H') : rNewT xs H Q :=
  ⟨line_of hz, fun p np => k _ _ (same_new np) (.tup (SqT.of upd_same) (DtAll.keep (TK.new np) _ h))⟩
theorem tup_at {H : Hp} {xs : List V} {Q : VK} (hz : xs.length ≤ 1000) (k : ∀ p, H p = none → Q (.ref p) (upd H p (.tup xs))) : rNewT xs H Q := ⟨line_of hz, k⟩
theorem lst_new {H : Hp} {xs : List V} {Q : VK} (hz : xs.length ≤ 1000) (k : ∀ p, H p = none → Q (.ref p) (upd H p (.lst xs))) : rNewL xs H Q := ⟨line_of hz, k⟩
theorem Dt.same {K : PySem.W.Frag} {H H' : Hp} {v : V} {d : PyData} (h : Dt K H v d) (e : Same H H') : Dt K H' v d := Dt.keep (TK.same e) _ h

/-! ### what holds behind a statement, said once for all its ways -/
def tJoin (t : TS) : TS := fun D σ H => ∃ R : L2.St → Hp → Prop, t { D with nx := R } σ H ∧ ∀ σ' H', R σ' H' → D.nx σ' H'
theorem ps_join {X : Cx} {st : Stmt} {t : TS} (h : PS X st t) : PS X st (tJoin t) := by
  refine ⟨fun pins s σ H D I ⟨R, q, m⟩ => thn (h.run pins s σ H _ I q) fun f s' z => ?_⟩
  cases f with
  | next => obtain ⟨σ', H', J, r⟩ := z; exact ⟨σ', H', J, m _ _ r⟩
  | brk => exact z
  | cont => exact z
  | ret u => exact z

/-! ### repr of data -/
def AG (A : Around) : Prop := A.guards = some []
theorem cr_repr {X : Cx} (hg : AG X.A) (hu : X.A.units + 64 < cLine) : CallR X (.builtin "repr") (fun xs H Q => ∃ a d, xs = [.ref a] ∧ Dp X.K H (.ref a) d ∧ d.showable = true ∧ d.hasDict = false ∧ d.depth + 1 ≤ 64 ∧ d.shown.length ≤ sizeLine ∧ Q (.str d.shown) H) := by
  intro pins s σ H xs us Q I r h
  obtain ⟨a, d, rfl, hd, hs, hn, hdep, hz, q⟩ := h
  obtain ⟨as, rd⟩ := Dp.reads I d (.ref a) (.ref a) hd rfl
  rw [Vals.ref1 r]
  exact repr_of_reads' rd hs (PyData.noDict_hsm hn) hg (by omega) (fun _ _ e => e) (fun h' u tk hk => ⟨.str d.shown, H, I.kept hk, ⟨u, rfl⟩, q⟩) hz

/-! ### a def of the module, told by its name -/
structure Df (P : Program) (w : World) (K : PySem.W.Frag) (mg : Str → Option Value) (base : Heap) (x : Str) (k : Nat) (ps : List Str) (sp : Sp) : Prop where
  ex : ∃ f fd, FnOk P w K mg base CX0 k f fd ps sp ∧ mg x = some (.ref f) ∧ PySem.W.keepIn K (.ref f) = true ∧ Binds K fd ps []
theorem Df.mono {P : Program} {w : World} {K : PySem.W.Frag} {mg : Str → Option Value} {base : Heap} {x : Str} {j k : Nat} {ps : List Str} {sp : Sp} (D : Df P w K mg base x j ps sp) (h : j ≤ k) : Df P w K mg base x k ps sp := by
  obtain ⟨f, fd, F, r⟩ := D.ex
  exact ⟨f, fd, F.mono h, r⟩
theorem Df.imp {P : Program} {w : World} {K : PySem.W.Frag} {mg : Str → Option Value} {base : Heap} {x : Str} {k : Nat} {ps : List Str} {sp sp' : Sp} (D : Df P w K mg base x k ps sp) (h : ∀ vs H Q E, sp' vs H Q E → sp vs H Q E) : Df P w K mg base x k ps sp' := by
  obtain ⟨f, fd, F, r⟩ := D.ex
  exact ⟨f, fd, F.imp h, r⟩
theorem app_nil_call {sp : Sp} {t : TA} {E : XK} : tCall sp [] E t = fun σ H Q => t σ H fun vs H1 => sp vs H1 Q E := by
  funext σ H Q
  show t σ H (fun vs H1 => sp (vs ++ []) H1 Q E) = _
  have e : (fun (vs : List V) (H1 : Hp) => sp (vs ++ []) H1 Q E) = fun vs H1 => sp vs H1 Q E := by funext vs H1; rw [List.append_nil]
  rw [e]
def tDf (sp : Sp) (t : TA) : TE := fun σ H Q => t σ H fun vs H1 => sp vs H1 Q E0
theorem pe_df {X : Cx} {x : Str} {j k : Nat} {ps : List Str} {sp : Sp} {e : Expr} {es : List Expr} {t : TA} {p pos : Pos} (D : Df X.prog X.w X.K X.mg X.base x j ps sp) (hr : Room k X.A) (hk : j ≤ k) (ha : PA X (e :: es) t) (hg : Gl X x := by rfl)
    (hdb : (x == ("__debug__" : Str)) = false := by decide) (he : starEach (e :: es) X.env = (false, eval e X.env) :: starEach es X.env := by rfl) (hpl : (backTo pos (starEach es X.env)).any (·.1) = false := by rfl) :
    PE X (.Call (.Name x p) (e :: es) [] pos) (tDf sp t) := by
  obtain ⟨f, fd, F, hm, kp, b⟩ := D.ex
  have q := pe_call (p := p) (pos := pos) F (hr.mono hk) hg hm kp b .nil (pass0 (X := X)) ha hdb he hpl
  rw [app_nil_call] at q
  exact q

/-! ### calls by keywords alone -/
def permL {α : Type} (π : List Nat) (ws : List α) : List α := π.filterMap fun i => ws[i]?
theorem vals_perm {zs : List V} {ws : List Value} (r : Vals zs ws) : ∀ π : List Nat, Vals (permL π zs) (permL π ws)
  | [] => .nil
  | i :: π => by
    have ih := vals_perm r π
    unfold permL at ih ⊢
    rw [List.filterMap_cons, List.filterMap_cons]
    cases e : zs[i]? with
    | none => rw [r.none_of e]; exact ih
    | some x =>
      obtain ⟨u, hu, ru⟩ := r.get e
      rw [hu]
      exact .cons ru ih
/-- how a call by keywords alone binds: ks the keywords as written, π their places in the parameters' order -/
def BindsK0 (K : PySem.W.Frag) (fd : FuncData) (ps ks : List Str) (π : List Nat) : Prop :=
  ∀ (s : Shared) (ws : List Value), K.In s.heap → ws.length = ks.length → BindsTo s fd ⟨[], ks.zip ws⟩ (ps.zip (permL π ws))
structure DfK (P : Program) (w : World) (K : PySem.W.Frag) (mg : Str → Option Value) (base : Heap) (x : Str) (k : Nat) (ps : List Str) (sp : Sp) (ks : List Str) (π : List Nat) : Prop where
  ex : ∃ f fd, FnOk P w K mg base CX0 k f fd ps sp ∧ mg x = some (.ref f) ∧ PySem.W.keepIn K (.ref f) = true ∧ BindsK0 K fd ps ks π
  ln : ∀ {α : Type} (zs : List α), zs.length = ks.length → (permL π zs).length = ps.length
def tDfK (sp : Sp) (ks : List Str) (π : List Nat) (tk : TA) : TE := fun σ H Q => tk σ H fun zs H1 => zs.length = ks.length ∧ sp (permL π zs) H1 Q E0
theorem run_k0 {X : Cx} {pins : List (Addr × Obj)} {σ : L2.St} {H : Hp} {s : Shared} {Q : VK} {ws : List Value} {zs : List V} {f : Addr} {fd : FuncData} {ps ks : List Str} {π : List Nat} {sp : Sp} {k : Nat} (F : FnOk X.prog X.w X.K X.mg X.base CX0 k f fd ps sp) (hr : Room k X.A)
    (hb : BindsK0 X.K fd ps ks π) (I : Inv X pins σ H s) (rz : Vals zs ws) (hl : zs.length = ks.length) (h : sp (permL π zs) H Q E0) : wpAny (model X.prog X.w) X.A (call (.ref f) [] (ks.zip ws)) (EP X pins σ Q) X.xe s := by
  refine wpAny_call (codeAny_mono (F.run X.A X.stack s H ⟨[], ks.zip ws⟩ (permL π ws) (permL π zs) Q E0 hr I.env0 (hb s ws I.kIn (by rw [← rz.length]; exact hl)) (vals_perm rz π) h) fun r s' hq => ?_)
  cases r with
  | error e => exact False.elim hq
  | ok fl =>
    cases fl with
    | ret u => exact I.after hq
    | next => exact False.elim hq
    | brk => exact False.elim hq
    | cont => exact False.elim hq
theorem pe_dfK {X : Cx} {x : Str} {j k : Nat} {ps ks : List Str} {π : List Nat} {sp : Sp} {kws : List Keyword} {tk : TA} {p pos : Pos} (D : DfK X.prog X.w X.K X.mg X.base x j ps sp ks π) (hr : Room k X.A) (hk : j ≤ k) (hkw : PK X kws tk) (hg : Gl X x := by rfl)
    (hall : (backToKw pos (keywordEach kws X.env)).all (·.1.isSome) = true := by rfl) (hks : (backToKw pos (keywordEach kws X.env)).filterMap (·.1) = ks := by rfl) (hdb : (x == ("__debug__" : Str)) = false := by decide)
    (hpl : ((backTo pos (starEach [] X.env)).any (·.1) || (backToKw pos (keywordEach kws X.env)).any (·.1.isNone)) = false := by rfl) :
    PE X (.Call (.Name x p) [] kws pos) (tDfK sp ks π tk) := by
  obtain ⟨f, fd, F, hm, kp, b⟩ := D.ex
  refine ⟨fun pins s σ H Q I h => wpAny_Call_Name_kw (ld_glob I hg hm ?_ hdb)⟩
  refine PySem.W.callWith_KW0 (h₀ := X.base) I.ok.mod.kin kp hall (thn (hkw.run pos pins s σ H _ I h) fun ws s2 ⟨zs, H2, I2, rz, hl, q2⟩ => ⟨I2.kIn, ?_⟩) hpl
  rw [hks]
  exact run_k0 F (hr.mono hk) b I2 rz hl q2
/-- a local name that holds one of some defs: called by position, by keywords -/
structure Hd (P : Program) (w : World) (K : PySem.W.Frag) (mg : Str → Option Value) (base : Heap) (k : Nat) (f : Addr) (ps : List Str) (sp : Sp) (ks : List Str) (π : List Nat) : Prop where
  ex : ∃ fd, FnOk P w K mg base CX0 k f fd ps sp ∧ PySem.W.keepIn K (.ref f) = true ∧ Binds K fd ps [] ∧ BindsK0 K fd ps ks π
def tHd (i : Nat) (S : Addr → Sp → Prop) (t : TA) : TE := fun σ H Q => ∃ f sp, σ[i]? = some (some (.ref f)) ∧ S f sp ∧ t σ H fun vs H1 => sp vs H1 Q E0
def tHdK (i : Nat) (S : Addr → Sp → Prop) (ks : List Str) (π : List Nat) (t : TA) : TE := fun σ H Q => ∃ f sp, σ[i]? = some (some (.ref f)) ∧ S f sp ∧ t σ H fun zs H1 => zs.length = ks.length ∧ sp (permL π zs) H1 Q E0
theorem pe_hd {X : Cx} {i j k : Nat} {x : Str} {S : Addr → Sp → Prop} {ps ks : List Str} {π : List Nat} {e : Expr} {es : List Expr} {t : TA} {p pos : Pos} (A : ∀ f sp, S f sp → Hd X.prog X.w X.K X.mg X.base j f ps sp ks π) (hr : Room k X.A) (hk : j ≤ k) (ha : PA X (e :: es) t)
    (hN : X.N[i]? = some x := by rfl) (hv : Vis X.env.scope x := by first | exact Or.inl rfl | exact Or.inr (Or.inl rfl) | exact Or.inr (Or.inr rfl)) (hdb : (x == ("__debug__" : Str)) = false := by decide) (hcd : (x == ("__classdict__" : Str)) = false := by decide)
    (he : starEach (e :: es) X.env = (false, eval e X.env) :: starEach es X.env := by rfl) (hpl : (backTo pos (starEach es X.env)).any (·.1) = false := by rfl) : PE X (.Call (.Name x p) (e :: es) [] pos) (tHd i S t) := by
  refine ⟨fun pins s σ H Q I ⟨f, sp, hs, hS, ht⟩ => ?_⟩
  obtain ⟨fd, F, kp, b, _⟩ := (A f sp hS).ex
  have q := (pe_callL (p := p) (pos := pos) F (hr.mono hk) hN hv kp b .nil (pass0 (X := X)) ha hdb hcd he hpl).run pins s σ H Q I
  refine q ⟨hs, ?_⟩
  have e0 : (fun (vs : List V) (H1 : Hp) => sp (vs ++ []) H1 Q E0) = fun vs H1 => sp vs H1 Q E0 := by funext vs H1; rw [List.append_nil]
  rw [e0]; exact ht
theorem pe_hdK {X : Cx} {i j k : Nat} {x : Str} {S : Addr → Sp → Prop} {ps ks : List Str} {π : List Nat} {kws : List Keyword} {tk : TA} {p pos : Pos} (A : ∀ f sp, S f sp → Hd X.prog X.w X.K X.mg X.base j f ps sp ks π) (hr : Room k X.A) (hk : j ≤ k) (hkw : PK X kws tk)
    (hN : X.N[i]? = some x := by rfl) (hv : Vis X.env.scope x := by first | exact Or.inl rfl | exact Or.inr (Or.inl rfl) | exact Or.inr (Or.inr rfl))
    (hall : (backToKw pos (keywordEach kws X.env)).all (·.1.isSome) = true := by rfl) (hks : (backToKw pos (keywordEach kws X.env)).filterMap (·.1) = ks := by rfl) (hdb : (x == ("__debug__" : Str)) = false := by decide) (hcd : (x == ("__classdict__" : Str)) = false := by decide)
    (hpl : ((backTo pos (starEach [] X.env)).any (·.1) || (backToKw pos (keywordEach kws X.env)).any (·.1.isNone)) = false := by rfl) :
    PE X (.Call (.Name x p) [] kws pos) (tHdK i S ks π tk) := by
  refine ⟨fun pins s σ H Q I ⟨f, sp, hs, hS, ht⟩ => ?_⟩
  obtain ⟨fd, F, kp, _, b⟩ := (A f sp hS).ex
  refine wpAny_Call_Name_kw (thn ((pe_var (pos := p) hN hv hdb hcd).run pins s σ H (fun v H1 => v = .ref f ∧ H1 = H) I ⟨.ref f, hs, rfl, rfl⟩) fun u s1 ⟨v, H1, I1, r1, q1⟩ => ?_)
  obtain ⟨rfl, rfl⟩ := q1
  cases r1
  refine PySem.W.callWith_KW0 (h₀ := X.base) I.ok.mod.kin kp hall (thn (hkw.run pos pins s1 σ _ _ I1 ht) fun ws s2 ⟨zs, H2, I2, rz, hl, q2⟩ => ⟨I2.kIn, ?_⟩) hpl
  rw [hks]
  exact run_k0 F (hr.mono hk) b I2 rz hl q2
end RS

/-! RSLaw: a def that is called where no repr is under way; the law's own call. -/
namespace RS
open PySem PySem.Spec PyProof.Rows L2

/-- a def's promise where no guarded call is under way -/
structure FnG (P : Program) (w : World) (K : PySem.W.Frag) (mg : Str → Option Value) (base : Heap) (k : Nat) (f : Addr) (fd : FuncData) (ps : List Str) (sp : Sp) : Prop where
  len : ∀ vs H Q E, sp vs H Q E → vs.length = ps.length
  run : ∀ (A : Around) (outer : List Env) (s : Shared) (H : Hp) (args : Args) (us : List Value) (vs : List V) (Q : VK) (E : XK), AG A → Room k A → Env0 P w K mg base A outer s H → BindsTo s fd args (ps.zip us) → Vals vs us → sp vs H Q E →
    codeAny (model P w) A (.call (.ref f) args) (CR CX0 outer P w H s Q E) s
theorem okG {P : Program} {w : World} {K : PySem.W.Frag} {mg : Str → Option Value} {base : Heap} {x qual : Str} {st : Stmt} {f : Addr} {fd : FuncData} {N ps : List Str} {k : Nat} {sp : Sp} (F : Fun K x qual st f fd) (S : FnScope N ps (defScope st)) (len : ∀ vs H Q E, sp vs H Q E → vs.length = ps.length)
    (body : ∀ (cdv : Value) (A : Around) (outer : List Env) (s : Shared) (H : Hp) (vs : List V) (Q : VK) (E : XK), AG (A.deeper (envOfC qual (defScope st) s.heap.objs.size f cdv)) → Room k (A.deeper (envOfC qual (defScope st) s.heap.objs.size f cdv)) → sp vs H Q E →
      ∃ t, PSs (cxOf CX0 P w K mg base N qual (defScope st) f cdv A outer s H E).nox (defBody st) t ∧ t { nx := fun _ H' => Q .non H', rt := Q } (start N vs) H) : FnG P w K mg base (k + 1) f fd ps sp := by
  obtain ⟨oc, od, kV, doc, pm, an, cdv, ct, osl, rfl, lk, hcd⟩ := F.ex
  refine ⟨len, fun A outer s H args us vs Q E hg hr e0 hb r q => ?_⟩
  have hlen := len _ _ _ _ q
  have keep : ∀ b o, base.get? b = some o → s.heap.get? b = some o := fun b o e => (e0.bs b o e).1
  have kin : K.In s.heap := e0.mod.kin.keeps keep
  have kinds : ∀ y ∈ ps.zip us, (defScope st).names.lookup y.1 = some .local ∨ ((defScope st).names.lookup y.1 = some .cell ∧ ((cellsFrom (s.heap.objs.size + 1) (defScope st).names []).lookup y.1).isSome = true) := by
    rintro ⟨n, v⟩ hy
    exact (S.par n (List.of_mem_zip hy).1).imp id fun z => ⟨z, PySem.W.cellsFrom_some _ _ _ (.inl z)⟩
  refine codeAny_call_function hr.depth (kin _ _ lk) rfl S.co S.gen rfl (PySem.W.codeRec_of kin hcd) (hb _ _ _ _ (wpAny_newFunctionEnv_cells S.kind kinds fun env he s1 ic => ?_))
  subst he
  obtain ⟨t, ht, hq⟩ := body cdv A outer s H vs Q E hg (hr.deeper _) q
  refine ⟨(e0.mod.nolimit.keeps keep).keeps ic.toInCall.keep, codeAny_func (wpAny_mono (ht.nox.run [] s1 _ H _ (inv_start S hr.hd e0 hlen r ic) hq) (fun fl s' z => ?_) fun e s' z => z)⟩
  cases fl with
  | ret u => obtain ⟨v, σ', H', J, rv, q'⟩ := z; exact ⟨v, H', J.os, J.bare, J.base, J.hok, rv, q'⟩
  | next => obtain ⟨σ', H', J, q'⟩ := z; exact ⟨.non, H', J.os, J.bare, J.base, J.hok, rfl, q'⟩
  | brk => exact (z.elim fun _ z => z.elim fun _ z => z.2.elim)
  | cont => exact (z.elim fun _ z => z.elim fun _ z => z.2.elim)
/-- the script as the law's call finds it: locked, or an object of the module -/
def scriptH (K : PySem.W.Frag) (a : Addr) (vs : List Value) (ns : List Int) : Hp := fun b => if b = a ∧ K.lookup a = none then some (.frz { cls := .type "list", data := .seq vs.toArray } (.lst (ns.map V.int))) else none
theorem law_goes {P : Program} {w : World} {K : PySem.W.Frag} {mg mb : Str → Option Value} {k : Nat} {fa a : Addr} {fd : FuncData} {x : Str} {sp : Sp} {s1 : Shared} {vs : List Value} {ns : List Int} (kin : K.In s1.heap) (gl : s1.heap.Ns mainGlobals mg) (bl : s1.heap.Ns builtinsNs mb)
    (blt : ∀ x : Str, x ≠ "__name__" → mb x = bootBuiltins x) (lim : s1.heap.NoLimit) (gens : s1.gens = #[]) (ha : s1.heap.get? a = some { cls := .type "list", data := .seq vs.toArray }) (hi : IntsAre vs ns) (hl : ns.length ≤ sizeLine) (hr : Room k callerA)
    (F : ∀ base : Heap, K.In base → base.Ns mainGlobals mg → FnG P w K mg base k fa fd [x] sp) (bind : ∀ (s : Shared) (u : Value), BindsTo s fd ⟨[u], []⟩ [(x, u)])
    (hsp : ∀ H : Hp, SqL K H a (ns.map V.int) → sp [.ref a] H (fun v _ => v = .bl true) fun _ _ _ => False) :
    codeAny (model P w) callerA (.call (.ref fa) ⟨[.ref a], []⟩) (fun r s' => r = .ok (.ret (.bool true)) ∧ OldK s1.heap s'.heap ∧ s'.os = s1.os ∧ AllBare s'.gens) s1 := by
  have rv := vals_ints hi
  have only : ∀ b u, scriptH K a vs ns b = some u → b = a ∧ K.lookup a = none ∧ u = .frz { cls := .type "list", data := .seq vs.toArray } (.lst (ns.map V.int)) := fun b u e => by
    unfold scriptH at e
    split at e
    · rename_i h; exact ⟨h.1, h.2, (Option.some.inj e).symm⟩
    · cases e
  have frees : ∀ b, (scriptH K a vs ns b ≠ none → b = a) := fun b z => by
    cases e : scriptH K a vs ns b with
    | none => exact absurd e z
    | some u => exact (only b u e).1
  have hok : HOk P w (scriptH K a vs ns) s1.heap := fun b u e => by
    obtain ⟨rfl, _, rfl⟩ := only b u e
    exact ⟨ha, by rw [List.length_map]; exact hl, vs, _, rv, ha⟩
  have sq : SqL K (scriptH K a vs ns) a (ns.map V.int) := by
    cases e : K.lookup a with
    | none => exact .inl (.inr ⟨_, if_pos ⟨rfl, e⟩⟩)
    | some o =>
      have e' := kin a o e
      rw [ha] at e'
      cases e'
      exact .inr ⟨_, vs.toArray, _, e, rfl, rfl, rfl, by rw [List.size_toArray, hi.length]; exact hl, by simpa using rv⟩
  -- what is a dict, what the written part knows, is not tracked
  have untr : ∀ {b : Addr} {o : Obj}, s1.heap.get? b = some o → (∀ xs n, o.data ≠ .seq xs n) → scriptH K a vs ns b = none := fun {b o} e d => by
    cases q : scriptH K a vs ns b with
    | none => rfl
    | some u =>
      obtain ⟨rfl, _, _⟩ := only b u q
      rw [ha] at e; cases e
      exact absurd rfl (d _ _)
  have nsB : ∀ {b : Addr} {m : Str → Option Value}, s1.heap.Ns b m → (hidT s1.heap (scriptH K a vs ns)).Ns b m := fun {b m} ⟨o, es, ep, e, d, r⟩ => ⟨o, es, ep, hidT_get e (untr e fun xs n z => by rw [d] at z; cases z), d, r⟩
  have kinB : K.In (hidT s1.heap (scriptH K a vs ns)) := fun b o e => hidT_get (kin b o e) (by
    cases q : scriptH K a vs ns b with
    | none => rfl
    | some u =>
      obtain ⟨rfl, z, _⟩ := only b u q
      rw [z] at e; cases e)
  have e0 : Env0 P w K mg (hidT s1.heap (scriptH K a vs ns)) callerA [] s1 (scriptH K a vs ns) := by
    refine ⟨rfl, ⟨kinB, nsB gl, ⟨mb, nsB bl, blt⟩, ?_⟩, fun b o e => of_hidT e, Nat.le_of_eq (hidT_size _ _), trivial, (fun b z => nomatch z), hok, .of_eq gens⟩
    obtain ⟨mc, q1, q2⟩ := lim
    exact ⟨mc, nsB q1, q2⟩
  refine codeAny_mono ((F _ kinB (nsB gl)).run callerA [] s1 _ ⟨[.ref a], []⟩ [.ref a] [.ref a] _ _ rfl hr e0 (bind s1 (.ref a)) (.cons rfl .nil) (hsp _ sq)) fun r s' z => ?_
  match r, z with
  | .ok (.ret u), ⟨v, H', os, bare, un, hok', r', q⟩ =>
    obtain rfl : v = .bl true := q
    obtain rfl : u = Value.bool true := r'
    refine ⟨rfl, OldK.of_keep fun b o e => ?_, os, bare⟩
    cases q : scriptH K a vs ns b with
    | none => exact un.keep b o e q (fun z => nomatch z) (fun z => nomatch z)
    | some u =>
      obtain ⟨rfl, _, rfl⟩ := only b u q
      obtain ⟨t1, _⟩ := hok b _ q
      obtain ⟨t2, _⟩ := hok' b _ (un.frzs b _ _ q)
      rw [e] at t1; cases t1
      exact t2
/-- the goal behind the head, from the law's promise -/
theorem walkG {l : PySem.W.OpenLaw} {n k : Nat} {q : Program} {loose : List Str} {XP : (Str → Option Value) → Heap → Prop} {YP : World → Heap → Prop} {d : DefRec} {K : Params → PySem.W.Frag} {sp : World → Sp} {x : Str} (hn : l.most = some n) (hn2 : n ≤ sizeLine) (hdf : d.params.defaults = []) (hr : Room k callerA)
    (hY : ∀ (w : World) (h : Heap), YP w h → (K w.params).In h)
    (F : ∀ (w : World) (mg : Str → Option Value) (fa : Addr) (h : Heap), (K w.params).In h → h.Ns mainGlobals mg → mg d.name = some (.ref fa) →
      ∃ fd : FuncData, (∀ (s : Shared) (u : Value), BindsTo s fd ⟨[u], []⟩ [(x, u)]) ∧ ∀ base : Heap, (K w.params).In base → base.Ns mainGlobals mg → FnG l.prog w (K w.params) mg base k fa fd [x] (sp w))
    (hsp : ∀ (w : World) (H : Hp) (a : Addr) (ns : List Int), ns.length ≤ n → (∀ z ∈ ns, Builtin.Int.intBits z ≤ 1048576) → SqL (K w.params) H a (ns.map V.int) → sp w [.ref a] H (fun v _ => v = .bl true) fun _ _ _ => False) :
    PySem.W.WalkO q loose XP YP l.row.toRowW d [] (fun f vs => PySem.call f vs) := by
  refine Att.attach_callB hn hdf fun w s0 s1 mg mb fa o pm cd doc a vs ns G Y ho hd hcd hmg ha hi hlen hbits hg => ?_
  obtain ⟨fd, hb, hF⟩ := F w mg fa _ (hY w _ Y) G.T.g hmg
  exact law_goes (hY w _ Y) G.T.g G.T.b G.T.builtins G.T.nolimit hg ha hi (Nat.le_trans hlen hn2) hr hF hb fun H hS => hsp w H a ns hlen hbits hS
end RS

/-! Clo: a nested def handed to another def, which calls it, itself within it. -/
namespace RS
open PySem PySem.Spec PyProof.Rows L2 LamX NdefX

/-- all but the tables stays, nothing tracked is gone, the tables tell what they told -/
structure Sx (T : List NTab) (H H' : Hp) : Prop where
  ext : ExtN H H'
  free : ∀ b, H' b = none → H b = none
  tab : TabsN T H'
theorem Sx.trans {T : List NTab} {H H1 H2 : Hp} (a : Sx T H H1) (b : Sx T H1 H2) : Sx T H H2 := ⟨a.ext.trans b.ext, fun c h => a.free c (b.free c h), b.tab⟩
theorem Sx.refl {T : List NTab} {H : Hp} (t : TabsN T H) : Sx T H H := ⟨ExtN.refl H, fun _ h => h, t⟩
theorem Sx.same {T : List NTab} {H H' : Hp} (t : TabsN T H) (e : Same H H') : Sx T H H' := ⟨ExtN.of e, fun b h => e.free h, t.ext e⟩
theorem Sx.new {T : List NTab} {H H1 : Hp} {p : Addr} {o : HO} (a : Sx T H H1) (n : H1 p = none) : Sx T H (upd H1 p o) := a.trans (Sx.same a.tab (same_new n))
theorem ExtN.tk {K : PySem.W.Frag} {H H' : Hp} (e : ExtN H H') : TK K H H' := TK.of (fun a xs h => e _ _ h fun _ z => by cases z) fun a o u h => e _ _ h fun _ z => by cases z
theorem Sx.tk {T : List NTab} {K : PySem.W.Frag} {H H' : Hp} (e : Sx T H H') : TK K H H' := ExtN.tk e.ext
theorem Sx.lst {T : List NTab} {H H' : Hp} {l : Addr} {xs : List V} (e : Sx T H H') (h : H l = some (.lst xs)) : H' l = some (.lst xs) := e.ext _ _ h fun _ z => by cases z
theorem Sx.fn {T : List NTab} {H H' : Hp} {f : Addr} {F : NF} (e : Sx T H H') (h : H f = some (FnO f F)) : H' f = some (FnO f F) := e.ext _ _ h fnO_ne
theorem Sx.code {T : List NTab} {H H' : Hp} {c : Addr} {q : Str} (e : Sx T H H') (h : H c = some (CodeO c q)) : H' c = some (CodeO c q) := e.ext _ _ h codeO_ne

/-! ### a def whose promise asks something of the very state -/
structure FnZ (Z : Shared → Hp → Prop) (P : Program) (w : World) (K : PySem.W.Frag) (mg : Str → Option Value) (base : Heap) (k : Nat) (f : Addr) (fd : FuncData) (ps : List Str) (sp : Sp) : Prop where
  len : ∀ vs H Q E, sp vs H Q E → vs.length = ps.length
  run : ∀ (A : Around) (outer : List Env) (s : Shared) (H : Hp) (args : Args) (us : List Value) (vs : List V) (Q : VK) (E : XK), Room k A → Env0 P w K mg base A outer s H → Z s H → BindsTo s fd args (ps.zip us) → Vals vs us → sp vs H Q E →
    codeAny (model P w) A (.call (.ref f) args) (CR CX0 outer P w H s Q E) s
/-- a def as it stands behind the top, its code object told -/
structure FunC (K : PySem.W.Frag) (x qual : Str) (st : Stmt) (f : Addr) (fd : FuncData) (cdv : Value) : Prop where
  ex : ∃ (oc : Value) (od : Option Addr) (kV doc pm : Value) (an : Option Addr) (ct : Value) (osl : Array (Option Value)),
    fd = PySem.W.fnOf x qual (defArgs st) (defBody st) (defScope st) .none kV doc pm an cdv ct ∧ K.lookup f = some ⟨oc, od, .func fd, osl⟩ ∧ PySem.W.codeIn K cdv qual = true
  kp : PySem.W.keepIn K (.ref f) = true
theorem okZ {P : Program} {w : World} {K : PySem.W.Frag} {mg : Str → Option Value} {base : Heap} {Z : Shared → Hp → Prop} {x qual : Str} {st : Stmt} {f : Addr} {fd : FuncData} {cdv : Value} {N ps : List Str} {k : Nat} {sp : Sp} (F : FunC K x qual st f fd cdv) (S : FnScope N ps (defScope st)) (len : ∀ vs H Q E, sp vs H Q E → vs.length = ps.length)
    (body : ∀ (A : Around) (outer : List Env) (s : Shared) (H : Hp) (vs : List V) (Q : VK) (E : XK), Room k (A.deeper (envOfC qual (defScope st) s.heap.objs.size f cdv)) → Env0 P w K mg base A outer s H → Z s H → sp vs H Q E →
      ∃ t, PSs (cxOf CX0 P w K mg base N qual (defScope st) f cdv A outer s H E).nox (defBody st) t ∧ t { nx := fun _ H' => Q .non H', rt := Q } (start N vs) H) : FnZ Z P w K mg base (k + 1) f fd ps sp := by
  obtain ⟨oc, od, kV, doc, pm, an, ct, osl, rfl, lk, hcd⟩ := F.ex
  refine ⟨len, fun A outer s H args us vs Q E hr e0 hz hb r q => ?_⟩
  have hlen := len _ _ _ _ q
  have stays : ∀ b o, base.get? b = some o → s.heap.get? b = some o := fun b o e => (e0.bs b o e).1
  have kin : K.In s.heap := e0.mod.kin.keeps stays
  have kinds : ∀ y ∈ ps.zip us, (defScope st).names.lookup y.1 = some .local ∨ ((defScope st).names.lookup y.1 = some .cell ∧ ((cellsFrom (s.heap.objs.size + 1) (defScope st).names []).lookup y.1).isSome = true) := by
    rintro ⟨n, v⟩ hy
    exact (S.par n (List.of_mem_zip hy).1).imp id fun z => ⟨z, PySem.W.cellsFrom_some _ _ _ (.inl z)⟩
  refine codeAny_call_function hr.depth (kin _ _ lk) rfl S.co S.gen rfl (PySem.W.codeRec_of kin hcd) (hb _ _ _ _ (wpAny_newFunctionEnv_cells S.kind kinds fun env he s1 ic => ?_))
  subst he
  obtain ⟨t, ht, hq⟩ := body A outer s H vs Q E (hr.deeper _) e0 hz q
  refine ⟨(e0.mod.nolimit.keeps stays).keeps ic.toInCall.keep, codeAny_func (wpAny_mono (ht.nox.run [] s1 _ H _ (inv_start S hr.hd e0 hlen r ic) hq) (fun fl s' z => ?_) fun e s' z => z)⟩
  cases fl with
  | ret u => obtain ⟨v, σ', H', J, rv, q'⟩ := z; exact ⟨v, H', J.os, J.bare, J.base, J.hok, rv, q'⟩
  | next => obtain ⟨σ', H', J, q'⟩ := z; exact ⟨.non, H', J.os, J.bare, J.base, J.hok, rfl, q'⟩
  | brk => exact (z.elim fun _ z => z.elim fun _ z => z.2.elim)
  | cont => exact (z.elim fun _ z => z.elim fun _ z => z.2.elim)
theorem FnZ.ok {P : Program} {w : World} {K : PySem.W.Frag} {mg : Str → Option Value} {base : Heap} {f : Addr} {fd : FuncData} {ps : List Str} {k : Nat} {sp : Sp} (F : FnZ (fun _ _ => True) P w K mg base k f fd ps sp) : FnOk P w K mg base CX0 k f fd ps sp :=
  ⟨F.len, fun A outer s H args us vs Q E hr e0 hb r q => F.run A outer s H args us vs Q E hr e0 trivial hb r q⟩
/-- x(e, ..), x such a def: i tells what is asked of the state -/
def tZ {ι : Type} (zr : ι → L2.St → Hp → Prop) (sp : ι → Sp) (t : TA) : TE := fun σ H Q => t σ H fun vs H1 => ∃ i, zr i σ H1 ∧ sp i vs H1 Q E0
theorem pe_z {ι : Type} {X : Cx} {Z : ι → Shared → Hp → Prop} {zr : ι → L2.St → Hp → Prop} {x : Str} {j k : Nat} {f : Addr} {fd : FuncData} {ps : List Str} {sp : ι → Sp} {e : Expr} {es : List Expr} {t : TA} {p pos : Pos}
    (D : ∀ i, FnZ (Z i) X.prog X.w X.K X.mg X.base j f fd ps (sp i)) (hm : X.mg x = some (.ref f)) (kp : PySem.W.keepIn X.K (.ref f) = true) (b : Binds X.K fd ps []) (hz : ∀ i pins σ H s, Inv X pins σ H s → zr i σ H → Z i s H) (hr : Room k X.A) (hk : j ≤ k) (ha : PA X (e :: es) t) (hg : Gl X x := by rfl)
    (hdb : (x == ("__debug__" : Str)) = false := by decide) (he : starEach (e :: es) X.env = (false, eval e X.env) :: starEach es X.env := by rfl) (hpl : (backTo pos (starEach es X.env)).any (·.1) = false := by rfl) :
    PE X (.Call (.Name x p) (e :: es) [] pos) (tZ zr sp t) := by
  refine ⟨fun pins s σ H Q I h => wpAny_Call_Name_kw (ld_glob I hg hm ?_ hdb)⟩
  refine PySem.W.callWith_K (h₀ := X.base) I.ok.mod.kin kp (thn (ha.run pos pins s σ H _ I h) fun us s1 ⟨vs, H1, I1, r, i, z, q⟩ => ⟨I1.kIn, ?_⟩) he hpl
  have hl := (D i).len _ _ _ _ q
  have hb := b s1 us I1.kIn (by rw [List.append_nil, ← r.length]; exact hl)
  rw [List.append_nil] at hb
  refine wpAny_call (codeAny_mono ((D i).run X.A X.stack s1 H1 ⟨us, []⟩ us vs Q E0 (hr.mono hk) I1.env0 (hz i _ _ _ _ I1 z) hb r q) fun r s' hq => ?_)
  cases r with
  | error e => exact False.elim hq
  | ok fl =>
    cases fl with
    | ret u => exact I1.after hq
    | next => exact False.elim hq
    | brk => exact False.elim hq
    | cont => exact False.elim hq

/-! ### the handed function -/
structure Clo where
  F : NF
  f : Addr
  fr : List Str
  ws : List (Option V)
def Clo.seen (C : Clo) (H : Hp) : Prop := H C.f = some (FnO C.f C.F) ∧ H C.F.c = some (CodeO C.F.c C.F.qual)
def Clo.at (C : Clo) (s : Shared) (H : Hp) : Prop := C.seen H ∧ CellsAt C.F.cl C.fr C.ws s.heap H
theorem Clo.seen.sx {C : Clo} {T : List NTab} {H H' : Hp} (h : C.seen H) (e : Sx T H H') : C.seen H' := ⟨e.fn h.1, e.code h.2⟩
theorem cells_later {X : Cx} {pins : List (Addr × Obj)} {σ : L2.St} {H : Hp} {s : Shared} {cl : List (Str × Addr)} {fr : List Str} {ws : List (Option V)} (C : CellsAt cl fr ws X.s_0.heap X.H_0) (hx : X.ex = []) (I : Inv X pins σ H s) : CellsAt cl fr ws s.heap H := by
  have nx : ∀ c : Addr, c ∉ X.ex := fun c z => by rw [hx] at z; cases z
  have go : ∀ c, X.H_0 c = none → ∀ v, X.s_0.heap.IsCell c v → s.heap.IsCell c v := fun c n v ⟨o, ho, hd⟩ => by
    by_cases hc : c ∈ X.fs
    · obtain ⟨sl, q⟩ := I.base.slot c o ho n hc (nx c)
      exact ⟨_, q, hd⟩
    · exact ⟨o, I.base.keep c o ho n hc (nx c), hd⟩
  refine ⟨C.len, fun y c e => ?_, C.inj, fun i y e => ?_⟩
  · obtain ⟨n, v, z⟩ := C.all y c e
    have z' := z
    obtain ⟨o, ho, _⟩ := z'
    exact ⟨I.base.free c o ho n (nx c), v, go c n v z⟩
  · obtain ⟨c, hc, hv⟩ := C.has i y e
    exact ⟨c, hc, fun v ev => (hv v ev).imp fun u q => ⟨q.1, go c (C.all y c hc).1 _ q.2⟩⟩
/-- work(e, ..), in the def that got it -/
def tWork (i : Nat) (C : Clo) (sp : List (Option V) → Sp) (t : TA) : TE := fun σ H Q => σ[i]? = some (some (.ref C.f)) ∧ C.seen H ∧ t σ H fun vs H1 => C.seen H1 ∧ sp C.ws vs H1 Q E0
theorem pe_work {X : Cx} {C : Clo} {ps : List Str} {sp : List (Option V) → Sp} {i j k : Nat} {x : Str} {e : Expr} {es : List Expr} {t : TA} {p pos : Pos} (W : NOk X.prog X.w X.K X.mg X.base CX0 j C.f C.F ps C.fr sp) (c0 : CellsAt C.F.cl C.fr C.ws X.s_0.heap X.H_0) (hx : X.ex = []) (hr : Room k X.A) (hk : j ≤ k) (ha : PA X (e :: es) t)
    (hN : X.N[i]? = some x := by rfl) (hv : Vis X.env.scope x := by first | exact Or.inl rfl | exact Or.inr (Or.inl rfl) | exact Or.inr (Or.inr rfl)) (hdb : (x == ("__debug__" : Str)) = false := by decide) (hcd : (x == ("__classdict__" : Str)) = false := by decide)
    (he : starEach (e :: es) X.env = (false, eval e X.env) :: starEach es X.env := by rfl) (hpl : (backTo pos (starEach es X.env)).any (·.1) = false := by rfl) :
    PE X (.Call (.Name x p) (e :: es) [] pos) (tWork i C sp t) := by
  refine ⟨fun pins s σ H Q I ⟨hs, hf, ht⟩ => ?_⟩
  refine wpAny_Call_Name_kw (thn ((pe_var (pos := p) hN hv hdb hcd).run pins s σ H (fun v H1 => v = .ref C.f ∧ H1 = H) I ⟨.ref C.f, hs, rfl, rfl⟩) fun u s1 ⟨v, H1, I1, r1, q1⟩ => ?_)
  obtain ⟨rfl, rfl⟩ := q1
  cases r1
  refine PySem.W.callWith_F (first := []) (fnAt_of I1 hf.1) (thn (ha.run pos pins s1 σ _ _ I1 ht) fun us s2 ⟨vs, H2, I2, r, h1, q⟩ => ⟨fnAt_of I2 h1.1, ?_⟩) he hpl
  show wpAny _ _ (call (.ref C.f) us) _ _ _
  refine wpAny_call (codeAny_mono (W.run X.A X.stack s2 H2 us vs C.ws Q E0 (hr.mono hk) I2.env0 h1.1 h1.2 (cells_later c0 hx I2) r q) fun r s' hq => ?_)
  cases r with
  | error e => exact False.elim hq
  | ok fl =>
    cases fl with
    | ret u => exact I2.after hq
    | next => exact False.elim hq
    | brk => exact False.elim hq
    | cont => exact False.elim hq
end RS

namespace RS
open PySem PySem.Spec PyProof.Rows L2
def topS (i : Nat) : Stmt := PySem.Challenge.pw_runsasshown_k02_whole_put_in_opened_and.main.body.getD i (.Pass ⟨0, 0, 0, 0⟩)
abbrev s_led : Stmt := topS 1
abbrev s_raised : Stmt := topS 2
abbrev s_put_in : Stmt := topS 3
abbrev s_opened : Stmt := topS 4
abbrev s_bound_to : Stmt := topS 5
abbrev s_exchanged : Stmt := topS 6
abbrev s_law_begun : Stmt := topS 8
abbrev s_law_blended : Stmt := topS 9
abbrev s_law_draw : Stmt := topS 10
abbrev s_law_pick : Stmt := topS 11
abbrev s_law_rt_term : Stmt := topS 12
abbrev s_law_rt_parts : Stmt := topS 13
abbrev s_law_rt_leaves : Stmt := topS 14
abbrev s_law_rt_with : Stmt := topS 15
abbrev s_law_rt_raised : Stmt := topS 16
abbrev s_law_rt_put : Stmt := topS 17
abbrev s_law_k02_bound : Stmt := topS 18
abbrev s_law_k02_exchanged : Stmt := topS 19
abbrev s_law_k02_told : Stmt := topS 20
abbrev s_law_k02_under : Stmt := topS 21
abbrev s_law : Stmt := topS 22
end RS

/-! Draws: the source of draws that every law has: a dict with two lists and two ints; what a draw changes and gives. -/
namespace RS
open PySem PySem.Spec PyProof.Rows L2

/-! ### the state -/
def kS (x : Str) : Key := Sum.inr x
def stk (g c : Addr) (l t : Int) : List (Key × V) := [(kS "great", .ref g), (kS "cells", .ref c), (kS "left", .int l), (kS "turn", .int t)]
theorem dget_great {H : Hp} {d g c : Addr} {l t : Int} (h : H d = some (.dK (stk g c l t))) : DGet H d (.str "great") (some (.ref g)) := .inl ⟨_, kS "great", .inl h, rfl, by simp [stk, valV, kS]⟩
theorem dget_cells {H : Hp} {d g c : Addr} {l t : Int} (h : H d = some (.dK (stk g c l t))) : DGet H d (.str "cells") (some (.ref c)) := .inl ⟨_, kS "cells", .inl h, rfl, by simp +decide [stk, valV, kS, List.find?_cons]⟩
theorem dget_left {H : Hp} {d g c : Addr} {l t : Int} (h : H d = some (.dK (stk g c l t))) : DGet H d (.str "left") (some (.int l)) := .inl ⟨_, kS "left", .inl h, rfl, by simp +decide [stk, valV, kS, List.find?_cons]⟩
theorem dget_turn {H : Hp} {d g c : Addr} {l t : Int} (h : H d = some (.dK (stk g c l t))) : DGet H d (.str "turn") (some (.int t)) := .inl ⟨_, kS "turn", .inl h, rfl, by simp +decide [stk, valV, kS, List.find?_cons]⟩
theorem four_line : 4 < sizeLine := by rw [sizeLine_eq]; decide
theorem dput_left {H : Hp} {d g c : Addr} {l t : Int} (h : H d = some (.dK (stk g c l t))) (v : Int) : DPut H d (.str "left") (.int v) (upd H d (.dK (stk g c v t))) :=
  .inl ⟨_, kS "left", h, rfl, four_line, by simp +decide [stk, putK, kS]⟩
theorem dput_turn {H : Hp} {d g c : Addr} {l t : Int} (h : H d = some (.dK (stk g c l t))) (v : Int) : DPut H d (.str "turn") (.int v) (upd H d (.dK (stk g c l v))) :=
  .inl ⟨_, kS "turn", h, rfl, four_line, by simp +decide [stk, putK, kS]⟩
structure Stt (H : Hp) (d g c : Addr) (T : Nat) : Prop where
  ne : c ≠ g
  ex : ∃ (gs cs : List Int) (l t : Int), H d = some (.dK (stk g c l t)) ∧ H g = some (.lst (gs.map V.int)) ∧ H c = some (.lst (cs.map V.int)) ∧ 0 ≤ t ∧ t ≤ T
/-- all but the state's own two objects stays -/
def Ch (d g : Addr) (H H' : Hp) : Prop := ∀ b o, b ≠ d → b ≠ g → H b = some o → H' b = some o
theorem Ch.refl {d g : Addr} (H : Hp) : Ch d g H H := fun _ _ _ _ h => h
theorem Ch.trans {d g : Addr} {H H1 H2 : Hp} (a : Ch d g H H1) (b : Ch d g H1 H2) : Ch d g H H2 := fun c o h1 h2 h => b c o h1 h2 (a c o h1 h2 h)
theorem Ch.same {d g : Addr} {H H' : Hp} (e : Same H H') : Ch d g H H' := fun b o _ _ h => e b o h
theorem Ch.new {d g p : Addr} {H : Hp} {o : HO} (h : H p = none) : Ch d g H (upd H p o) := fun b u _ _ e => by rw [upd_ne (ne_of_none e h)]; exact e
theorem Stt.mono {H : Hp} {d g c : Addr} {T T' : Nat} (S : Stt H d g c T) (h : T ≤ T') : Stt H d g c T' := by
  obtain ⟨gs, cs, l, t, h1, h2, h3, h4, h5⟩ := S.ex
  exact ⟨S.ne, gs, cs, l, t, h1, h2, h3, h4, by omega⟩
theorem Stt.d {H : Hp} {d g c : Addr} {T : Nat} (S : Stt H d g c T) : ∃ kv, H d = some (.dK kv) := by obtain ⟨_, _, _, _, h, _⟩ := S.ex; exact ⟨_, h⟩
theorem Stt.g {H : Hp} {d g c : Addr} {T : Nat} (S : Stt H d g c T) : ∃ xs, H g = some (.lst xs) := by obtain ⟨_, _, _, _, _, h, _⟩ := S.ex; exact ⟨_, h⟩
theorem Stt.c {H : Hp} {d g c : Addr} {T : Nat} (S : Stt H d g c T) : ∃ xs, H c = some (.lst xs) := by obtain ⟨_, _, _, _, _, _, h, _⟩ := S.ex; exact ⟨_, h⟩
theorem Ch.tk {K : PySem.W.Frag} {d g c : Addr} {H H' : Hp} {T : Nat} (C : Ch d g H H') (S : Stt H d g c T) : TK K H H' := by
  obtain ⟨kv, hd⟩ := S.d
  obtain ⟨xs, hg⟩ := S.g
  exact TK.of (fun a ys e => C a _ (ne_of e hd (by intro z; cases z)) (ne_of e hg (by intro z; cases z)) e) fun a o u e => C a _ (ne_of e hd (by intro z; cases z)) (ne_of e hg (by intro z; cases z)) e
theorem Ch.free {d g c : Addr} {H H' : Hp} {T : Nat} (C : Ch d g H H') (S' : Stt H' d g c T) {p : Addr} (h : H' p = none) : H p = none := by
  obtain ⟨kv, hd⟩ := S'.d
  obtain ⟨xs, hg⟩ := S'.g
  cases e : H p with
  | none => rfl
  | some o =>
    have := C p o (fun z => by rw [z, hd] at h; cases h) (fun z => by rw [z, hg] at h; cases h) e
    rw [h] at this; cases this
/-- the state stays where all else is new -/
theorem Stt.keep {H H' : Hp} {d g c : Addr} {T : Nat} (S : Stt H d g c T) (e : Same H H') : Stt H' d g c T := by
  obtain ⟨gs, cs, l, t, h1, h2, h3, h4, h5⟩ := S.ex
  exact ⟨S.ne, gs, cs, l, t, e _ _ h1, e _ _ h2, e _ _ h3, h4, h5⟩
theorem Stt.new {H : Hp} {d g c p : Addr} {T : Nat} {o : HO} (S : Stt H d g c T) (h : H p = none) : Stt (upd H p o) d g c T := S.keep (same_new h)

abbrev topT : Nat := 2 ^ 40

/-! ### _law_begun -/
theorem sc_law_begun : FnScope ["script", "great", "cell"] ["script"] (defScope s_law_begun) := ⟨rfl, rfl, rfl, by decide +kernel, rfl, by decide +kernel, by decide +kernel⟩
def spBegun (K : PySem.W.Frag) : Sp := fun vs H Q _ => ∃ (a : Addr) (ns : List Int), vs = [.ref a] ∧ SqL K H a (ns.map V.int) ∧ ns.length ≤ 1000 ∧
  ∀ d g c H', Same H H' → H d = none → H g = none → H c = none → d ≠ g → Stt H' d g c 0 → Q (.ref d) H'
section
variable {P : Program} {w : World} {K : PySem.W.Frag} {mg : Str → Option Value} {base : Heap}
abbrev absI (n : Int) : Int := if n < 0 then -n else n
theorem len_filterMap_le {α β : Type} (f : α → Option β) : ∀ l : List α, (l.filterMap f).length ≤ l.length
  | [] => Nat.le_refl _
  | x :: l => by
    have := len_filterMap_le f l
    rw [List.filterMap_cons]
    split <;> simp only [List.length_cons] <;> omega
theorem take_snoc {α : Type} {l : List α} {i : Nat} {x : α} (h : l[i]? = some x) : l.take (i + 1) = l.take i ++ [x] := by
  rw [List.take_add_one, h]; rfl
theorem ok_begun {f : Addr} {fd : FuncData} (F : Fun K "_law_begun" "_law_begun" s_law_begun f fd) (n_abs : mg "abs" = none) : FnOk P w K mg base CX0 1 f fd ["script"] (spBegun K) := by
  refine F.ok sc_law_begun (fun vs H Q E h => ?_) (fun cdv A outer s H vs Q E hr h => ?_)
  · obtain ⟨a, ns, rfl, _⟩ := h; rfl
  · obtain ⟨a, ns, rfl, hS, hl, k⟩ := h
    have nd := sc_law_begun.nd
    have hz : ∀ n, n ≤ 1000 → n < sizeLine := fun n h => by rw [sizeLine_eq]; omega
    refine ⟨_, (pss_cons (ps_setLc (i := 1) (own := [("cell", 2)]) (g := gName 2) rfl nd rfl rfl (sw_true rfl rfl rfl (by decide +kernel)) (pi_seq (pv 0)) (blkOk_by (own := [("cell", 2)]) (N := ["script", "great", "cell"]) (sc := defScope s_law_begun) (by decide +kernel)) (fun _ _ _ _ _ => (pg_name (i := 2) nd rfl (Or.inl rfl))) (fun _ _ _ _ _ => (pts_one (pt_cmpR op_ge (pe_callB call_abs (by rfl) n_abs (by decide +kernel) (pa_cons (pv 2) pa_nil)) (pe_op op_pow pe_int pe_int) (nomark _)))) (fun _ _ _ _ _ => (pe_op op_sub (pe_callB call_abs (by rfl) n_abs (by decide +kernel) (pa_cons (pv 2) pa_nil)) (pe_op op_pow pe_int pe_int))))
      (pss_one (ps_ret (pe_disp (pps_cons pe_str (pv 1) (pps_cons pe_str (pe_lc (own := [("cell", 2)]) (g := gName 2) rfl nd (pi_seq (pv 0)) (blkOk_by (own := [("cell", 2)]) (N := ["script", "great", "cell"]) (sc := defScope s_law_begun) (by decide +kernel)) (fun _ _ _ _ _ => (pg_name (i := 2) nd rfl (Or.inl rfl))) (fun _ _ _ _ _ => pts_nil) (fun _ _ _ _ _ => (pe_callB call_abs (by rfl) n_abs (by decide +kernel) (pa_cons (pv 2) pa_nil)))) (pps_cons pe_str pe_int (pps_cons pe_str pe_int pps_nil)))) (by rfl) (by rfl) (fun z => by cases z) (by decide))))), ?_⟩
    have intAt : ∀ {i : Nat} {x : V}, (ns.map V.int)[i]? = some x → ∃ n, ns[i]? = some n ∧ x = .int n := fun {i x} hx => by
      rw [List.getElem?_map] at hx
      cases e : ns[i]? with
      | none => rw [e] at hx; cases hx
      | some n => rw [e] at hx; exact ⟨n, rfl, (Option.some.inj hx).symm⟩
    let fg : Int → Option Int := fun n => if 10 ^ 18 ≤ absI n then some (absI n - 10 ^ 18) else none
    refine ⟨_, rfl, a, rfl, .inl ⟨⟨_, hS⟩, fun D nD => lc_list (K := K) (a := a) (xs := ns.map V.int) (fun i H' => Same H H' ∧ H' D = some (.lst (((ns.take i).filterMap fg).map V.int)))
      ⟨same_new nD, upd_same⟩ (fun i H' _ h => h.1.seq hS) (fun i x H' hx ⟨h1, h2⟩ => ?_) (fun H' ⟨h1, h2⟩ => ?_)⟩⟩
    · obtain ⟨n, hn, rfl⟩ := intAt hx
      have hlt : i < ns.length := (List.getElem?_eq_some_iff.mp hn).1
      refine ⟨rfl, _, rfl, n, rfl, _, _, rfl, rfl, ⟨by decide, by decide, by decide⟩, _, _, rfl, rfl, _, rfl, ?_⟩
      have e18 : (10 : Int) ^ (18 : Int).toNat = 10 ^ 18 := rfl
      have hln : ((ns.take i).filterMap fg).length ≤ 1000 := Nat.le_trans (len_filterMap_le _ _) (by rw [List.length_take]; omega)
      refine ite2 (fun hc => ?_) (fun hc => ?_)
      · have hc' : (10 : Int) ^ 18 ≤ absI n := of_decide_eq_true hc
        have ef : fg n = some (absI n - 10 ^ 18) := if_pos hc'
        refine ⟨_, rfl, n, rfl, _, _, rfl, rfl, ⟨by decide, by decide, by decide⟩, _, _, rfl, rfl, _, h2, by rw [List.length_map]; exact hz _ hln, fun b o e => ?_, ?_⟩
        · rw [upd_ne (ne_of_none e nD)]; exact h1 b o e
        · rw [upd_same, take_snoc hn, List.filterMap_append, List.map_append, List.filterMap_cons, ef]; rfl
      · have hc' : ¬ (10 : Int) ^ 18 ≤ absI n := fun z => hc (decide_eq_true z)
        have ef : fg n = none := if_neg hc'
        refine ⟨h1, ?_⟩
        rw [take_snoc hn, List.filterMap_append, List.filterMap_cons, ef, List.filterMap_nil, List.append_nil]; exact h2
    · intro p np
      rw [List.length_map, List.take_length] at h2
      have hpD : D ≠ p := fun z => by rw [← z, h2] at np; cases np
      have s1 : Same H (upd H' p (.dK [])) := h1.trans (same_new np)
      refine ⟨_, rfl, _, rfl, a, rfl, .inl ⟨⟨_, s1.seq hS⟩, fun D2 nD2 => lc_list (K := K) (a := a) (xs := ns.map V.int) (fun i H2 => Same (upd H' p (.dK [])) H2 ∧ H2 D2 = some (.lst (((ns.take i).map absI).map V.int)))
        ⟨same_new nD2, upd_same⟩ (fun i H2 _ h => (s1.trans h.1).seq hS) (fun i x H2 hx ⟨g1, g2⟩ => ?_) (fun H2 ⟨g1, g2⟩ => ?_)⟩⟩
      · obtain ⟨n, hn, rfl⟩ := intAt hx
        have hlt : i < ns.length := (List.getElem?_eq_some_iff.mp hn).1
        refine ⟨rfl, _, rfl, n, rfl, _, g2, by rw [List.length_map, List.length_map, List.length_take]; exact hz _ (by omega), fun b o e => ?_, ?_⟩
        · rw [upd_ne (ne_of_none e nD2)]; exact g1 b o e
        · rw [upd_same, take_snoc hn, List.map_append, List.map_append]; rfl
      · rw [List.length_map, List.take_length] at g2
        have hp2 : H2 p = some (.dK []) := g1 _ _ upd_same
        have hD2p : D2 ≠ p := fun z => by rw [z, upd_same] at nD2; cases nD2
        have hDD2 : D ≠ D2 := fun z => by
          have : upd H' p (.dK []) D = some _ := (upd_ne hpD).trans h2
          rw [z, nD2] at this; cases this
        have h2D : H2 D = some (.lst ((ns.filterMap fg).map V.int)) := g1 _ _ ((upd_ne hpD).trans h2)
        refine ⟨hp2, stk D D2 0 0, rfl, (by show 4 ≤ 15; decide), k p D D2 _ (fun b o e => ?_) ?_ nD ?_ hpD.symm ⟨hDD2.symm, _, _, 0, 0, ?_, (upd_ne hpD).trans h2D, (upd_ne hD2p).trans g2, Int.le_refl _, by decide⟩⟩
        · have hbp : b ≠ p := ne_of_none (h1 _ _ e) np
          rw [upd_ne hbp]; exact g1 _ _ ((upd_ne hbp).trans (h1 _ _ e))
        · exact h1.free np
        · exact s1.free nD2
        · rw [upd_same]; rfl
/-! ### _law_blended -/
theorem sc_law_blended : FnScope ["state", "prime", "turn", "found", "blend", "cell"] ["state"] (defScope s_law_blended) := ⟨rfl, rfl, rfl, by decide +kernel, rfl, by decide +kernel, by decide +kernel⟩
def spBlended : Sp := fun vs H Q _ => ∃ (d g c : Addr) (T : Nat), vs = [.ref d] ∧ Stt H d g c T ∧ T < topT ∧ ∀ r H', Ch d g H H' → Stt H' d g c (T + 1) → (∀ xs, H g = some (.lst xs) → H' g = some (.lst xs)) → Q (.int r) H'
theorem three_line : 3 ≤ sizeLine := by rw [sizeLine_eq]; decide
theorem fdiv67 {p : Int} (h1 : 0 ≤ p) (h2 : p < 2 ^ 31) : 0 ≤ p / 67 ∧ p / 67 < 2 ^ 31 := by omega
theorem ok_blended {f : Addr} {fd : FuncData} (F : Fun K "_law_blended" "_law_blended" s_law_blended f fd) (n_int : mg "int" = none) : FnOk P w K mg base CX0 1 f fd ["state"] spBlended := by
  refine F.ok sc_law_blended (fun vs H Q E h => ?_) (fun cdv A outer s H vs Q E hr h => ?_)
  · obtain ⟨d, g, c, T, rfl, _⟩ := h; rfl
  · obtain ⟨d, g, c, T, rfl, S, hT, k⟩ := h
    have nd := sc_law_blended.nd
    obtain ⟨gs, cs, l, t, hd, hg, hc, ht0, htT⟩ := S.ex
    have eT : (topT : Int) = 1099511627776 := by decide
    have hT' : t < 1099511627776 := by have : ((T : Nat) : Int) < (topT : Nat) := by exact_mod_cast hT
                                       omega
    refine ⟨_, (pss_cons (ps_par (i := 2) (j := 3) rfl nd rfl rfl (by decide) rfl rfl (pa_cons (pe_op uAdd (pe_dget (hu_of hr) (pv 0) pe_str (fun _ _ => rfl)) pe_int) (pa_cons pe_int pa_nil)) rfl)
      (pss_cons (ps_dput (hu_of hr) (pv 0) pe_str (pv 2) rfl)
      (pss_cons (ps_for PassesOwn.never rfl (pi_seq (pe_lstN (pa_cons pe_int (pa_cons pe_int (pa_cons pe_int pa_nil))))) (pg_name (i := 1) nd rfl (Or.inl rfl))
        (pss_cons (ps_set (i := 4) nd rfl (Or.inl rfl) (pe_op uAdd (pe_op uMul pe_int (pv 2)) (pe_op op_fdiv (pv 1) pe_int)))
        (pss_cons (ps_for PassesOwn.never rfl (pi_seq (pe_dget (hu_of hr) (pv 0) pe_str (fun _ _ => rfl))) (pg_name (i := 5) nd rfl (Or.inl rfl))
          (pss_one (ps_set (i := 4) nd rfl (Or.inl rfl) (pe_op op_mod (pe_callTy call_int1 (by rfl) n_int (by decide +kernel) (pa_cons (pe_op uAdd (pe_op uAdd (pe_op uMul (pv 4) pe_int) (pv 5)) (pv 2)) pa_nil)) (pv 1)))))
        (pss_one (ps_set (i := 3) nd rfl (Or.inl rfl) (pe_op uAdd (pe_op uMul (pv 3) pe_int) (pe_op op_mod (pe_callTy call_int1 (by rfl) n_int (by decide +kernel) (pa_cons (pe_op op_pow (pv 4) pe_int) pa_nil)) (pv 1))))))))
      (pss_one (ps_ret (pv 3)))))), ?_⟩
    refine ⟨_, rfl, d, _, rfl, dget_turn hd, add_i ⟨_, _, rfl, ?_⟩⟩
    refine ⟨_, rfl, _, rfl, d, _, rfl, dput_turn hd _, ?_⟩
    have gd : g ≠ d := ne_of hg hd (by intro z; cases z)
    have cd : c ≠ d := ne_of hc hd (by intro z; cases z)
    refine lst_new (by show 3 ≤ 1000; decide) fun p np => ?_
    have dp : d ≠ p := fun z => by rw [z, upd_same] at np; cases np
    have np0 : H p = none := by rw [upd_ne dp.symm] at np; exact np
    generalize hG : upd (upd H d (.dK (stk g c l (t + 1)))) p (.lst [.int 2147482081, .int 2147482063, .int 2147482021]) = G
    have Gp : G p = some (.lst [.int 2147482081, .int 2147482063, .int 2147482021]) := by rw [← hG]; exact upd_same
    have Gd : G d = some (.dK (stk g c l (t + 1))) := by rw [← hG, upd_ne dp]; exact upd_same
    have Go : ∀ b o, b ≠ d → H b = some o → G b = some o := fun b o hb e => by rw [← hG, upd_ne (ne_of_none e np0), upd_ne hb]; exact e
    have Gg := Go g _ gd hg
    have Gc := Go c _ cd hc
    refine ⟨p, rfl, .inl ⟨⟨_, SqL.of Gp⟩, for_list (K := K) (a := p) (xs := [.int 2147482081, .int 2147482063, .int 2147482021])
      (fun i σ H3 => G = H3 ∧ ∃ (v1 v4 v5 : Option V) (fnd : Int), σ = [some (.ref d), v1, some (.int (t + 1)), some (.int fnd), v4, v5])
      ⟨rfl, none, none, none, 0, rfl⟩ (fun i σ H3 _ ⟨h, _⟩ => by rw [← h]; exact SqL.of Gp) ?_ ?_⟩⟩
    · rintro i y σ H3 hy ⟨rfl, v1, v4, v5, fnd, rfl⟩
      obtain ⟨pr, rfl, p0, p1⟩ : ∃ pr : Int, y = .int pr ∧ 0 < pr ∧ pr < 2147483647 := by
        match i, hy with
        | 0, e => exact ⟨_, (Option.some.inj e).symm, by decide, by decide⟩
        | 1, e => exact ⟨_, (Option.some.inj e).symm, by decide, by decide⟩
        | 2, e => exact ⟨_, (Option.some.inj e).symm, by decide, by decide⟩
        | i + 3, e => simp at e
      have hq := fdiv67 (p := pr) (by omega) (by omega)
      refine ⟨_, rfl, mul_i (.inl ⟨by decide, by decide⟩) ⟨_, rfl, _, _, rfl, rfl, ⟨by decide, by decide⟩, add_i ?_⟩⟩
      refine ⟨_, rfl, d, _, rfl, dget_cells Gd, c, rfl, .inl ⟨⟨_, SqL.of Gc⟩, for_list (K := K) (a := c) (xs := cs.map V.int)
        (fun i σ H3 => G = H3 ∧ ∃ (v5 : Option V) (b : Int), σ = [some (.ref d), some (.int pr), some (.int (t + 1)), some (.int fnd), some (.int b), v5] ∧ 0 ≤ b ∧ b < 2 ^ 60)
        ⟨rfl, v5, _, rfl, by omega, by omega⟩ (fun i σ H3 _ ⟨h, _⟩ => by rw [← h]; exact SqL.of Gc) ?_ ?_⟩⟩
      · rintro j y σ H3 hy2 ⟨rfl, v5, b, rfl, b0, b1⟩
        obtain ⟨z, rfl⟩ : ∃ z, y = V.int z := by
          rw [List.getElem?_map] at hy2
          cases e : cs[j]? with
          | none => rw [e] at hy2; cases hy2
          | some z => rw [e] at hy2; exact ⟨z, (Option.some.inj hy2).symm⟩
        refine ⟨_, rfl, mul_i (.inr ⟨by decide, by decide⟩) ⟨_, rfl, add_i ⟨_, rfl, add_i (.inl ⟨_, rfl, _, rfl, _, _, rfl, rfl, p0, ?_⟩)⟩⟩⟩
        have m0 := Int.emod_nonneg (b * 69621 + z + (t + 1)) (by omega : pr ≠ 0)
        have m1 := Int.emod_lt_of_pos (b * 69621 + z + (t + 1)) p0
        exact ⟨rfl, _, _, rfl, m0, by omega⟩
      · rintro σ H3 ⟨rfl, v5, b, rfl, b0, b1⟩
        refine ⟨_, rfl, mul_i (.inr ⟨by decide, by decide⟩) ⟨_, rfl, _, _, rfl, rfl, ⟨by decide, by decide, by omega⟩, .inl ⟨_, rfl, _, rfl, _, _, rfl, rfl, p0, add_i ?_⟩⟩⟩
        exact ⟨rfl, _, _, _, _, rfl⟩
    · rintro σ H3 ⟨rfl, v1, v4, v5, fnd, rfl⟩
      refine ⟨_, rfl, k fnd _ (fun b o hb _ e => Go b o hb e) ⟨S.ne, gs, cs, l, t + 1, Gd, Gg, Gc, by omega, by omega⟩ fun xs e => Go g _ gd e⟩
/-! ### _law_draw -/
theorem sc_law_draw : FnScope ["state", "size_here", "found"] ["state", "size_here"] (defScope s_law_draw) := ⟨rfl, rfl, rfl, by decide +kernel, rfl, by decide +kernel, by decide +kernel⟩
def spDraw : Sp := fun vs H Q _ => ∃ (d g c : Addr) (T : Nat) (n : Int), vs = [.ref d, .int n] ∧ Stt H d g c T ∧ T < topT ∧ 0 < n ∧ n < 1073741824 ∧ ∀ r H', Ch d g H H' → Stt H' d g c (T + 1) → 0 ≤ r → r < n → Q (.int r) H'
theorem ok_draw {f : Addr} {fd : FuncData} (F : Fun K "_law_draw" "_law_draw" s_law_draw f fd) (n_int : mg "int" = none) (D_law_blended : Df P w K mg base "_law_blended" 1 ["state"] spBlended) : FnOk P w K mg base CX0 2 f fd ["state", "size_here"] spDraw := by
  refine F.ok sc_law_draw (fun vs H Q E h => ?_) (fun cdv A outer s H vs Q E hr h => ?_)
  · obtain ⟨d, g, c, T, n, rfl, _⟩ := h; rfl
  · obtain ⟨d, g, c, T, n, rfl, S, hT, n0, n1, k⟩ := h
    have nd := sc_law_draw.nd
    obtain ⟨gs, cs, l, t, hd, hg, hc, ht0, htT⟩ := S.ex
    have gd : g ≠ d := ne_of hg hd (by intro z; cases z)
    have cd : c ≠ d := ne_of hc hd (by intro z; cases z)
    refine ⟨_, (pss_cons (ps_if (pt_cmpR (uEq hr.units) (pe_dget (hu_of hr) (pv 0) pe_str (fun _ _ => rfl)) pe_int (nomark _))
        (pss_one (ps_dput (hu_of hr) (pv 0) pe_str (pe_ifExp (pt_cmpR (uNe hr.units) (pe_dget (hu_of hr) (pv 0) pe_str (fun _ _ => rfl)) (pe_lstN pa_nil) (nomark _)) (pe_bm PySem.F.plainAttrs_list PySem.F.slot_list_pop PySem.F.type_list_pop mt_popAt (pe_dget (hu_of hr) (pv 0) pe_str (fun _ _ => rfl)) (pa_cons pe_int pa_nil)) (pe_df D_law_blended hr (by omega) (pa_cons (pv 0) pa_nil))) rfl))
        pss_nil)
      (pss_cons (ps_set (i := 2) nd rfl (Or.inl rfl) (pe_op op_mod (pe_callTy call_int1 (by rfl) n_int (by decide +kernel) (pa_cons (pe_dget (hu_of hr) (pv 0) pe_str (fun _ _ => rfl)) pa_nil)) (pv 1)))
      (pss_cons (ps_dput (hu_of hr) (pv 0) pe_str (pe_op op_fdiv (pe_dget (hu_of hr) (pv 0) pe_str (fun _ _ => rfl)) (pv 1)) rfl)
      (pss_one (ps_ret (pv 2)))))), ?_⟩
    -- the last three rows, from any state
    have fin : ∀ H1, Ch d g H H1 → Stt H1 d g c (T + 1) → tSeq (tAsg (tOp (rI (fun _ j => 0 < j) fun i j => .int (i % j)) (tCB (fun xs H Q => (∃ i, xs = [.int i] ∧ Q (.int i) H) ∨ ∃ k, xs = [.bl k] ∧ Q (.int (if k then 1 else 0)) H) (tCons (tDGet (tVar 0) (tC (.str "left"))) tNil)) (tVar 1)) (gName 2))
        (tSeq (sDPut (tVar 0) (tC (.str "left")) (tOp (rI CDiv fun i j => .int (i / j)) (tDGet (tVar 0) (tC (.str "left"))) (tVar 1))) (tRet (tVar 2))) { nx := fun _ H' => Q .non H', rt := Q } (L2.start ["state", "size_here", "found"] [V.ref d, V.int n]) H1 := fun H1 C1 S1 => by
      obtain ⟨gs, cs, l, t, hd, hg, hc, ht0, htT⟩ := S1.ex
      have gd : g ≠ d := ne_of hg hd (by intro z; cases z)
      have cd : c ≠ d := ne_of hc hd (by intro z; cases z)
      refine ⟨_, rfl, d, _, rfl, dget_left hd, .inl ⟨_, rfl, _, rfl, _, _, rfl, rfl, n0, ?_⟩⟩
      refine ⟨_, rfl, d, _, rfl, dget_left hd, _, rfl, _, _, rfl, rfl, ⟨n0, n1⟩, _, rfl, d, _, rfl, dput_left hd _, _, rfl, ?_⟩
      refine k _ _ (C1.trans fun b o hb _ e => ?_) ⟨S1.ne, gs, cs, _, t, upd_same, ?_, ?_, ht0, htT⟩ (Int.emod_nonneg _ (by omega)) (Int.emod_lt_of_pos _ n0)
      · rw [upd_ne hb]; exact e
      · rw [upd_ne gd]; exact hg
      · rw [upd_ne cd]; exact hc
    refine ⟨_, rfl, d, _, rfl, dget_left hd, eq_f rfl rfl ⟨_, rfl, ?_⟩⟩
    refine ite2 (fun _ => ?_) (fun _ => fin H (Ch.refl H) (S.mono (Nat.le_succ _)))
    refine ⟨_, rfl, d, _, rfl, dget_great hd, lst_new (Nat.zero_le _) fun p np => ?_⟩
    have S1 := S.new (o := .lst []) np
    have C1 : Ch d g H (upd H p (.lst [])) := Ch.new np
    have hg1 : upd H p (.lst []) g = some (.lst (gs.map V.int)) := by rw [upd_ne (ne_of_none hg np)]; exact hg
    have hd1 : upd H p (.lst []) d = some (.dK (stk g c l t)) := by rw [upd_ne (ne_of_none hd np)]; exact hd
    have hc1 : upd H p (.lst []) c = some (.lst (cs.map V.int)) := by rw [upd_ne (ne_of_none hc np)]; exact hc
    refine eq_n (SqL.of hg1) (SqL.of upd_same) rfl ⟨_, rfl, ?_⟩
    have put : ∀ (v : Int) (H1 : Hp), Ch d g H H1 → Stt H1 d g c (T + 1) → ∃ (x : V), (L2.start ["state", "size_here", "found"] [V.ref d, V.int n])[0]? = some (some x) ∧ ∃ a H4, x = .ref a ∧ DPut H1 a (.str "left") (.int v) H4 ∧ Ch d g H H4 ∧ Stt H4 d g c (T + 1) := fun v H1 C2 S2 => by
      obtain ⟨gs, cs, l, t, hd, hg, hc, ht0, htT⟩ := S2.ex
      refine ⟨_, rfl, d, _, rfl, dput_left hd v, C2.trans fun b o hb _ e => ?_, ⟨S2.ne, gs, cs, _, t, upd_same, ?_, ?_, ht0, htT⟩⟩
      · rw [upd_ne hb]; exact e
      · rw [upd_ne (ne_of hg hd (by intro z; cases z))]; exact hg
      · rw [upd_ne (ne_of hc hd (by intro z; cases z))]; exact hc
    cases gs with
    | nil =>
      refine iteF ?_
      refine ⟨_, rfl, d, g, c, T, rfl, S1, hT, fun r H2 C2 S2 _ => ?_⟩
      obtain ⟨x, e, a, H4, e2, hp, C4, S4⟩ := put r H2 (C1.trans C2) S2
      exact ⟨x, e, a, H4, e2, hp, fin H4 C4 S4⟩
    | cons z gs =>
      refine iteT ?_
      refine ⟨_, rfl, d, _, rfl, dget_great hd1, .inl ⟨rfl, _, .inl (.inl hg1)⟩, g, _, 0, 0, .int z, rfl, rfl, hg1, by decide, by decide, ?_, rfl, ?_⟩
      · simp [seqIndex?]
      have C2 : Ch d g H (upd (upd H p (.lst [])) g (.lst ((V.int z :: gs.map V.int).eraseIdx 0))) := C1.trans fun b o _ hb e => by rw [upd_ne hb]; exact e
      have S2 : Stt (upd (upd H p (.lst [])) g (.lst ((V.int z :: gs.map V.int).eraseIdx 0))) d g c (T + 1) := ⟨S.ne, gs, cs, l, t, by rw [upd_ne gd.symm]; exact hd1, upd_same, by rw [upd_ne S.ne]; exact hc1, ht0, by omega⟩
      obtain ⟨x, e, a, H4, e2, hp, C4, S4⟩ := put z _ C2 S2
      exact ⟨x, e, a, H4, e2, hp, fin H4 C4 S4⟩
end
end RS

/-! Terms: drawn core terms as trees; _law_pick, _law_rt_term. -/
namespace RS
open PySem PySem.Spec PyProof.Rows L2

inductive Tm where
  | num (w : Str) (n : Int)
  | name (x : Str)
  | count (x : Str) (n : Int)
  | bin (w m : Str) (a b : Tm)
  | letT (a b c : Tm)
  | app (f : Tm) (m : Str) (x : Tm)
def Tm.pd : Tm → PyData
  | .num w n => .tuple [.str w, .int n]
  | .name x => .tuple [.str "name", .str x]
  | .count x n => .tuple [.str "count", .str x, .int n]
  | .bin w m a b => .tuple [.str w, .str m, a.pd, b.pd]
  | .letT a b c => .tuple [.str "let", a.pd, b.pd, c.pd]
  | .app f m x => .tuple [.str "app", f.pd, .str m, x.pd]
def marksL : List Str := ["plain", "hidden", "ghost", "shadow"]
def namesL : List Str := ["f", "Num", "x_1", "aBcDeFgHiJkLmNoP"]
def Tm.wf : Tm → Prop
  | .num w n => (w = "sort" ∧ 0 ≤ n ∧ n < 4) ∨ ((w = "local" ∨ w = "bound" ∨ w = "hole") ∧ 0 ≤ n)
  | .name x => x ∈ namesL
  | .count x n => x = "Num" ∧ 0 ≤ n ∧ n < 10 ^ 18
  | .bin w m a b => (w = "pi" ∨ w = "fun") ∧ m ∈ marksL ∧ a.wf ∧ b.wf
  | .letT a b c => a.wf ∧ b.wf ∧ c.wf
  | .app f m x => f.wf ∧ m ∈ marksL ∧ x.wf
/-- its numbers lie below B -/
def Tm.lt (B : Int) : Tm → Prop
  | .num _ n => n < B
  | .name _ => True
  | .count _ _ => True
  | .bin _ _ a b => a.lt B ∧ b.lt B
  | .letT a b c => a.lt B ∧ b.lt B ∧ c.lt B
  | .app f _ x => f.lt B ∧ x.lt B
/-- its locals lie below B -/
def Tm.loc (B : Int) : Tm → Prop
  | .num w n => w = "local" → n < B
  | .name _ => True
  | .count _ _ => True
  | .bin _ _ a b => a.loc B ∧ b.loc B
  | .letT a b c => a.loc B ∧ b.loc B ∧ c.loc B
  | .app f _ x => f.loc B ∧ x.loc B
theorem bl_ne : ¬ ("bound" : Str) = "local" := by decide +kernel
theorem hl_ne : ¬ ("hole" : Str) = "local" := by decide +kernel
theorem sl_ne : ¬ ("sort" : Str) = "local" := by decide +kernel
def Tm.depth : Tm → Nat
  | .num _ _ => 1
  | .name _ => 1
  | .count _ _ => 1
  | .bin _ _ a b => 1 + max a.depth b.depth
  | .letT a b c => 1 + max a.depth (max b.depth c.depth)
  | .app f _ x => 1 + max f.depth x.depth
def Tm.nodes : Tm → Nat
  | .num _ _ => 1
  | .name _ => 1
  | .count _ _ => 1
  | .bin _ _ a b => 1 + (a.nodes + b.nodes)
  | .letT a b c => 1 + (a.nodes + (b.nodes + c.nodes))
  | .app f _ x => 1 + (f.nodes + x.nodes)

/-! ### displays -/
theorem Ch.ofSame {d g : Addr} {H H1 H2 : Hp} (c : Ch d g H H1) (e : Same H1 H2) : Ch d g H H2 := c.trans (Ch.same e)

/-! ### _law_pick -/
theorem sc_law_pick : FnScope ["state", "several"] ["state", "several"] (defScope s_law_pick) := ⟨rfl, rfl, rfl, by decide +kernel, rfl, by decide +kernel, by decide +kernel⟩
def spPick : Sp := fun vs H Q _ => ∃ (d g c : Addr) (T : Nat) (l : Addr) (xs : List V), vs = [.ref d, .ref l] ∧ Stt H d g c T ∧ H l = some (.lst xs) ∧ l ≠ g ∧ 0 < xs.length ∧ xs.length ≤ 1000 ∧ T < topT ∧ ∀ (i : Nat) (x : V) (H' : Hp), xs[i]? = some x → Ch d g H H' → Stt H' d g c (T + 1) → Q x H'
section
variable {P : Program} {w : World} {K : PySem.W.Frag} {mg : Str → Option Value} {base : Heap}
theorem ok_pick {f : Addr} {fd : FuncData} (F : Fun K "_law_pick" "_law_pick" s_law_pick f fd) (n_len : mg "len" = none) (D_law_draw : Df P w K mg base "_law_draw" 2 ["state", "size_here"] spDraw) : FnOk P w K mg base CX0 3 f fd ["state", "several"] spPick := by
  refine F.ok sc_law_pick (fun vs H Q E h => ?_) (fun cdv A outer s H vs Q E hr h => ?_)
  · obtain ⟨d, g, c, T, l, xs, rfl, _⟩ := h; rfl
  · obtain ⟨d, g, c, T, l, xs, rfl, S, hl, lg, l0, l1, hT, k⟩ := h
    obtain ⟨kv, hd⟩ := S.d
    have ld : l ≠ d := ne_of hl hd (by intro z; cases z)
    refine ⟨_, (pss_one (ps_ret (pe_ix ix_seq (pv 1) (pe_df D_law_draw hr (by omega) (pa_cons (pv 0) (pa_cons (pe_callB uLen (by rfl) n_len (by decide +kernel) (pa_cons (pv 1) pa_nil)) pa_nil))) (fun _ _ => rfl)))), ?_⟩
    refine ⟨_, rfl, _, rfl, _, rfl, _, xs.length, rfl, .inl ⟨xs, SqL.of hl, rfl⟩, d, g, c, T, (xs.length : Int), rfl, S, hT, by omega, by omega, fun r H' C S' r0 r1 => ?_⟩
    obtain ⟨j, rfl⟩ : ∃ j : Nat, r = j := ⟨r.toNat, by omega⟩
    have hj : j < xs.length := by omega
    exact .inl ⟨l, xs, j, xs[j], rfl, rfl, SqL.of (C l _ ld lg hl), atI_nat (by simp [hj]), k j _ H' (by simp [hj]) C S'⟩
/-- one of some written texts -/
theorem pick_str {xs : List Str} {i : Nat} {x : V} (h : (xs.map V.str)[i]? = some x) : ∃ m ∈ xs, x = .str m := by
  rw [List.getElem?_map] at h
  cases e : xs[i]? with
  | none => rw [e] at h; cases h
  | some m => rw [e] at h; exact ⟨m, List.mem_of_getElem? e, (Option.some.inj h).symm⟩

/-! ### _law_rt_term -/
theorem sc_law_rt_term : FnScope ["state", "deep", "ahead", "some", "way", "mark", "word"] ["state", "deep", "ahead"] (defScope s_law_rt_term) := ⟨rfl, rfl, rfl, by decide +kernel, rfl, by decide +kernel, by decide +kernel⟩
def cost : Nat → Nat
  | 0 => 0
  | n + 1 => 10 + 3 * cost n
def spTerm (K : PySem.W.Frag) (N : Nat) : Sp := fun vs H Q _ => ∃ (d g c : Addr) (T : Nat) (deep ahead : Int), vs = [.ref d, .int deep, .int ahead] ∧ Stt H d g c T ∧ T + cost N ≤ topT ∧ 1 ≤ deep ∧ deep ≤ N ∧ 0 ≤ ahead ∧ ahead + N ≤ 1000 ∧
  ∀ (t : Tm) v H', Ch d g H H' → Stt H' d g c (T + cost N) → Dt K H' v t.pd → t.wf ∧ t.lt 1010 ∧ t.loc 4 → (t.depth : Int) ≤ deep → Q v H'
theorem term_none {f : Addr} {fd : FuncData} : FnOk P w K mg base CX0 3 f fd ["state", "deep", "ahead"] (spTerm K 0) := by
  refine ⟨fun vs H Q E h => ?_, fun A outer s H args us vs Q E _ _ _ _ h => ?_⟩
  · obtain ⟨d, g, c, T, deep, ahead, _, _, _, h1, h2, _⟩ := h
    exact absurd (show deep ≤ 0 from h2) (by omega)
  · obtain ⟨d, g, c, T, deep, ahead, _, _, _, h1, h2, _⟩ := h
    exact absurd (show deep ≤ 0 from h2) (by omega)
theorem ok_term {f : Addr} {fd : FuncData} (F : Fun K "_law_rt_term" "_law_rt_term" s_law_rt_term f fd) (hm : mg "_law_rt_term" = some (.ref f)) (b : Binds K fd ["state", "deep", "ahead"] [])
    (D_law_draw : Df P w K mg base "_law_draw" 2 ["state", "size_here"] spDraw) (D_law_pick : Df P w K mg base "_law_pick" 3 ["state", "several"] spPick) :
    ∀ N, FnOk P w K mg base CX0 (N + 3) f fd ["state", "deep", "ahead"] (spTerm K N)
  | 0 => term_none
  | N + 1 => by
    have D_law_rt_term : Df P w K mg base "_law_rt_term" (N + 3) ["state", "deep", "ahead"] (spTerm K N) := ⟨f, fd, ok_term F hm b D_law_draw D_law_pick N, hm, F.kp, b⟩
    refine F.ok sc_law_rt_term (fun vs H Q E h => ?_) (fun cdv A outer s H vs Q E hr h => ?_)
    · obtain ⟨d, g, c, T, deep, ahead, rfl, _⟩ := h; rfl
    · obtain ⟨d, g, c, T, deep, ahead, rfl, S, hT, d1, dN, a0, aN, k⟩ := h
      have nd := sc_law_rt_term.nd
      have ec : cost (N + 1) = 10 + 3 * cost N := rfl
      rw [ec] at hT k
      refine ⟨_, (pss_cons (ps_par (i := 4) (j := 5) rfl nd rfl rfl (by decide) rfl rfl (pa_cons (pe_df D_law_draw hr (by omega) (pa_cons (pv 0) (pa_cons pe_int pa_nil))) (pa_cons (pe_df D_law_pick hr (by omega) (pa_cons (pv 0) (pa_cons (pe_lstN (pa_cons pe_str (pa_cons pe_str (pa_cons pe_str (pa_cons pe_str pa_nil))))) pa_nil))) pa_nil)) rfl)
      (pss_cons (ps_if (pt_w (PW.pt (pw_and (pt_cmpR op_gt (pv 1) pe_int (nomark _)) (pw_and1 (pt_cmpR op_gt (pv 4) pe_int (nomark _))))))
        (pss_cons (ps_if (pt_cmpR op_lt (pv 4) pe_int (nomark _))
          (pss_cons (ps_set (i := 6) nd rfl (Or.inl rfl) (pe_ifExp (pt_cmpR (uEq hr.units) (pv 4) pe_int (nomark _)) pe_str pe_str))
          (pss_one (ps_ret (pe_tupN (pa_cons (pv 6) (pa_cons (pv 5) (pa_cons (pe_df D_law_rt_term hr (by omega) (pa_cons (pv 0) (pa_cons (pe_op op_sub (pv 1) pe_int) (pa_cons (pv 2) pa_nil)))) (pa_cons (pe_df D_law_rt_term hr (by omega) (pa_cons (pv 0) (pa_cons (pe_op op_sub (pv 1) pe_int) (pa_cons (pe_op uAdd (pv 2) pe_int) pa_nil)))) pa_nil))))))))
          pss_nil)
        (pss_cons (ps_if (pt_cmpR (uEq hr.units) (pv 4) pe_int (nomark _))
          (pss_one (ps_ret (pe_tupN (pa_cons pe_str (pa_cons (pe_df D_law_rt_term hr (by omega) (pa_cons (pv 0) (pa_cons (pe_op op_sub (pv 1) pe_int) (pa_cons (pv 2) pa_nil)))) (pa_cons (pe_df D_law_rt_term hr (by omega) (pa_cons (pv 0) (pa_cons (pe_op op_sub (pv 1) pe_int) (pa_cons (pv 2) pa_nil)))) (pa_cons (pe_df D_law_rt_term hr (by omega) (pa_cons (pv 0) (pa_cons (pe_op op_sub (pv 1) pe_int) (pa_cons (pe_op uAdd (pv 2) pe_int) pa_nil)))) pa_nil)))))))
          pss_nil)
        (pss_one (ps_ret (pe_tupN (pa_cons pe_str (pa_cons (pe_df D_law_rt_term hr (by omega) (pa_cons (pv 0) (pa_cons (pe_op op_sub (pv 1) pe_int) (pa_cons (pv 2) pa_nil)))) (pa_cons (pv 5) (pa_cons (pe_df D_law_rt_term hr (by omega) (pa_cons (pv 0) (pa_cons (pe_op op_sub (pv 1) pe_int) (pa_cons (pv 2) pa_nil)))) pa_nil)))))))))
        pss_nil)
      (pss_cons (ps_set (i := 3) nd rfl (Or.inl rfl) (pe_lstN (pa_cons (pe_tupN (pa_cons pe_str (pa_cons (pe_df D_law_draw hr (by omega) (pa_cons (pv 0) (pa_cons pe_int pa_nil))) pa_nil))) (pa_cons (pe_tupN (pa_cons pe_str (pa_cons (pe_df D_law_draw hr (by omega) (pa_cons (pv 0) (pa_cons pe_int pa_nil))) pa_nil))) (pa_cons (pe_tupN (pa_cons pe_str (pa_cons (pe_df D_law_pick hr (by omega) (pa_cons (pv 0) (pa_cons (pe_lstN (pa_cons pe_str (pa_cons pe_str (pa_cons pe_str (pa_cons pe_str pa_nil))))) pa_nil))) pa_nil))) pa_nil)))))
      (pss_cons (ps_set (i := 3) nd rfl (Or.inl rfl) (pe_op uAdd (pv 3) (pe_lstN (pa_cons (pe_tupN (pa_cons pe_str (pa_cons pe_str (pa_cons (pe_df D_law_pick hr (by omega) (pa_cons (pv 0) (pa_cons (pe_lstN (pa_cons pe_int (pa_cons pe_int (pa_cons (pe_op uAdd (pe_op op_pow pe_int pe_int) pe_int) (pa_cons (pe_op op_sub (pe_op op_pow pe_int pe_int) pe_int) pa_nil))))) pa_nil))) pa_nil)))) (pa_cons (pe_tupN (pa_cons pe_str (pa_cons (pe_df D_law_draw hr (by omega) (pa_cons (pv 0) (pa_cons (pe_op uAdd (pv 2) pe_int) pa_nil))) pa_nil))) pa_nil)))))
      (pss_one (ps_ret (pe_ifExp (pt_cmpR op_lt (pv 4) pe_int (nomark _)) (pe_ix ix_seq (pv 3) (pv 4) (fun _ _ => rfl)) (pe_ifExp (pt_cmpR op_gt (pv 2) pe_int (nomark _)) (pe_tupN (pa_cons pe_str (pa_cons (pe_df D_law_draw hr (by omega) (pa_cons (pv 0) (pa_cons (pv 2) pa_nil))) pa_nil))) (pe_tupN (pa_cons pe_str (pa_cons (pe_df D_law_draw hr (by omega) (pa_cons (pv 0) (pa_cons pe_int pa_nil))) pa_nil))))))))))), ?_⟩
      have topE : topT = 1099511627776 := by decide
      refine ⟨_, rfl, d, g, c, T, 11, rfl, S, by omega, by decide, by decide, fun way H1 C1 S1 w0 w1 => ?_⟩
      obtain ⟨gx, hg1⟩ := S1.g
      refine ⟨_, rfl, lst_new (by show 4 ≤ 1000; decide) fun p np => ⟨d, g, c, T + 1, p, marksL.map V.str, rfl, S1.new np, upd_same, (ne_of_none hg1 np).symm, by decide, by decide, by omega, fun i m H2 hm C2 S2 => ⟨_, _, rfl, ?_⟩⟩⟩
      obtain ⟨m, hmk, rfl⟩ := pick_str hm
      have C2' : Ch d g H H2 := C1.trans ((Ch.new np).trans C2)
      clear C1 C2 np hg1 S1
      refine w_val (decide (1 < deep) && decide (5 < way)) (.and (fun Q' h => ⟨_, rfl, _, _, rfl, rfl, _, rfl, h⟩) fun _ Q' h => ⟨_, rfl, _, _, rfl, rfl, _, rfl, h⟩) ?_
      refine ite2 (fun hc => ?_) (fun hc => ?_)
      · rw [Bool.and_eq_true, decide_eq_true_eq, decide_eq_true_eq] at hc
        obtain ⟨c1, c2⟩ := hc
        refine ⟨_, rfl, _, _, rfl, rfl, _, rfl, ite2 (fun hw => ?_) (fun hw => ?_)⟩
        · -- pi, fun
          refine ⟨_, rfl, eq_f rfl rfl ⟨_, rfl, ?_⟩⟩
          refine ite2 (fun _ => ?_) (fun _ => ?_)
          all_goals
            refine ⟨_, rfl, _, rfl, _, rfl, _, rfl, _, _, rfl, rfl, _, rfl, d, g, c, T + 2, deep - 1, ahead, rfl, S2, by omega, by omega, by omega, a0, by omega, fun t1 v1 H3 C3 S3 D3 wf1 dp1 => ?_⟩
            refine ⟨_, rfl, _, rfl, _, _, rfl, rfl, _, rfl, add_i ⟨d, g, c, T + 2 + cost N, deep - 1, ahead + 1, rfl, S3, by omega, by omega, by omega, by omega, by omega, fun t2 v2 H4 C4 S4 D4 wf2 dp2 => ?_⟩⟩
            refine tup_new (K := K) (ds := [.str _, .str m, t1.pd, t2.pd]) (.cons (.str _) (.cons (.str m) (.cons (Dt.keep (C4.tk S3) _ D3) (.cons D4 .nil)))) (by show 4 ≤ 1000; decide) fun v H5 e hv => ?_
            exact k (.bin _ m t1 t2) v H5 ((C2'.trans (C3.trans C4)).ofSame e) ((S4.keep e).mono (by omega)) hv ⟨⟨by first | exact .inl rfl | exact .inr rfl, hmk, wf1.1, wf2.1⟩, ⟨wf1.2.1, wf2.2.1⟩, wf1.2.2, wf2.2.2⟩ (by show ((1 + max t1.depth t2.depth : Nat) : Int) ≤ deep; omega)
        · refine ⟨_, rfl, eq_f rfl rfl ⟨_, rfl, ite2 (fun hw8 => ?_) (fun hw8 => ?_)⟩⟩
          · -- let
            refine ⟨_, rfl, _, rfl, _, _, rfl, rfl, _, rfl, d, g, c, T + 2, deep - 1, ahead, rfl, S2, by omega, by omega, by omega, a0, by omega, fun t1 v1 H3 C3 S3 D3 wf1 dp1 => ?_⟩
            refine ⟨_, rfl, _, rfl, _, _, rfl, rfl, _, rfl, d, g, c, T + 2 + cost N, deep - 1, ahead, rfl, S3, by omega, by omega, by omega, by omega, by omega, fun t2 v2 H4 C4 S4 D4 wf2 dp2 => ?_⟩
            refine ⟨_, rfl, _, rfl, _, _, rfl, rfl, _, rfl, add_i ⟨d, g, c, T + 2 + cost N + cost N, deep - 1, ahead + 1, rfl, S4, by omega, by omega, by omega, by omega, by omega, fun t3 v3 H5 C5 S5 D5 wf3 dp3 => ?_⟩⟩
            refine tup_new (K := K) (ds := [.str "let", t1.pd, t2.pd, t3.pd]) (.cons (.str _) (.cons (Dt.keep ((C4.trans C5).tk S3) _ D3) (.cons (Dt.keep (C5.tk S4) _ D4) (.cons D5 .nil)))) (by show 4 ≤ 1000; decide) fun v H6 e hv => ?_
            exact k (.letT t1 t2 t3) v H6 ((C2'.trans (C3.trans (C4.trans C5))).ofSame e) ((S5.keep e).mono (by omega)) hv ⟨⟨wf1.1, wf2.1, wf3.1⟩, ⟨wf1.2.1, wf2.2.1, wf3.2.1⟩, wf1.2.2, wf2.2.2, wf3.2.2⟩ (by show ((1 + max t1.depth (max t2.depth t3.depth) : Nat) : Int) ≤ deep; omega)
          · -- app
            refine ⟨_, rfl, _, rfl, _, _, rfl, rfl, _, rfl, d, g, c, T + 2, deep - 1, ahead, rfl, S2, by omega, by omega, by omega, a0, by omega, fun t1 v1 H3 C3 S3 D3 wf1 dp1 => ?_⟩
            refine ⟨_, rfl, _, rfl, _, rfl, _, _, rfl, rfl, _, rfl, d, g, c, T + 2 + cost N, deep - 1, ahead, rfl, S3, by omega, by omega, by omega, by omega, by omega, fun t2 v2 H4 C4 S4 D4 wf2 dp2 => ?_⟩
            refine tup_new (K := K) (ds := [.str "app", t1.pd, .str m, t2.pd]) (.cons (.str _) (.cons (Dt.keep (C4.tk S3) _ D3) (.cons (.str m) (.cons D4 .nil)))) (by show 4 ≤ 1000; decide) fun v H5 e hv => ?_
            exact k (.app t1 m t2) v H5 ((C2'.trans (C3.trans C4)).ofSame e) ((S4.keep e).mono (by omega)) hv ⟨⟨wf1.1, hmk, wf2.1⟩, ⟨wf1.2.1, wf2.2.1⟩, wf1.2.2, wf2.2.2⟩ (by show ((1 + max t1.depth t2.depth : Nat) : Int) ≤ deep; omega)
      · -- a leaf
        have leaf : ∀ (t : Tm), t.depth = 1 → (t.depth : Int) ≤ deep := fun t h => by rw [h]; omega
        refine ⟨_, rfl, d, g, c, T + 2, 4, rfl, S2, by omega, by decide, by decide, fun r1 H3 C3 S3 r10 r11 => ?_⟩
        refine tup_new (K := K) (ds := [.str "sort", .int r1]) (.cons (.str _) (.cons (.int _) .nil)) (by show 2 ≤ 1000; decide) fun v1 H4 e4 D1 => ?_
        refine ⟨_, rfl, d, g, c, T + 3, 4, rfl, S3.keep e4, by omega, by decide, by decide, fun r2 H5 C5 S5 r20 r21 => ?_⟩
        refine tup_new (K := K) (ds := [.str "local", .int r2]) (.cons (.str _) (.cons (.int _) .nil)) (by show 2 ≤ 1000; decide) fun v2 H6 e6 D2 => ?_
        have S6 := S5.keep e6
        obtain ⟨gx, hg6⟩ := S6.g
        refine ⟨_, rfl, lst_new (by show 4 ≤ 1000; decide) fun p np => ⟨d, g, c, T + 4, p, namesL.map V.str, rfl, S6.new np, upd_same, (ne_of_none hg6 np).symm, by decide, by decide, by omega, fun i3 x3 H7 hx3 C7 S7 => ?_⟩⟩
        obtain ⟨nm, hnm, rfl⟩ := pick_str hx3
        have C7' : Ch d g H6 H7 := (Ch.new np).trans C7
        refine tup_new (K := K) (ds := [.str "name", .str nm]) (.cons (.str _) (.cons (.str _) .nil)) (by show 2 ≤ 1000; decide) fun v3 H8 e8 D3 => ?_
        refine lst_new (by show 3 ≤ 1000; decide) fun l nl => ?_
        have S8 := S7.keep e8
        have S9 := S8.new (o := .lst [v1, v2, v3]) nl
        have h9 : upd H8 l (.lst [v1, v2, v3]) l = some (.lst [v1, v2, v3]) := upd_same
        obtain ⟨gx8, hg8⟩ := S8.g
        obtain ⟨dx8, hd8⟩ := S8.d
        have lg : l ≠ g := (ne_of_none hg8 nl).symm
        have ld : l ≠ d := (ne_of_none hd8 nl).symm
        have E1 : Dt K (upd H8 l (.lst [v1, v2, v3])) v1 (Tm.num "sort" r1).pd := Dt.keep ((C5.tk (S3.keep e4)).trans ((TK.same e6).trans ((C7'.tk S6).trans ((TK.same e8).trans (TK.new nl))))) _ D1
        have E2 : Dt K (upd H8 l (.lst [v1, v2, v3])) v2 (Tm.num "local" r2).pd := Dt.keep ((C7'.tk S6).trans ((TK.same e8).trans (TK.new nl))) _ D2
        have E3 : Dt K (upd H8 l (.lst [v1, v2, v3])) v3 (Tm.name nm).pd := Dt.keep (TK.new nl) _ D3
        have C9 : Ch d g H (upd H8 l (.lst [v1, v2, v3])) := (((C2'.trans C3).ofSame e4).trans ((C5.ofSame e6).trans (C7'.ofSame e8))).trans (Ch.new nl)
        generalize upd H8 l (.lst [v1, v2, v3]) = H9 at S9 h9 E1 E2 E3 C9
        clear D1 D2 D3 C7 C7' S7 S8 S6 S5 S3 C3 C5 e4 e6 e8 np nl hg6 hg8 hd8
        -- some + [count, bound]
        obtain ⟨gx9, hg9⟩ := S9.g
        refine ⟨_, rfl, _, rfl, _, _, rfl, rfl, ⟨by decide, by decide, by decide⟩, add_i ⟨_, _, rfl, rfl, ⟨by decide, by decide, by decide⟩, _, _, rfl, rfl, lst_new (by show 4 ≤ 1000; decide) fun p np => ?_⟩⟩
        refine ⟨d, g, c, T + 5, p, _, rfl, S9.new np, upd_same, (ne_of_none hg9 np).symm, by decide, by decide, by omega, fun i4 x4 H10 hx4 C10 S10 => ?_⟩
        obtain ⟨n4, rfl, n40, n41⟩ : ∃ n : Int, x4 = .int n ∧ 0 ≤ n ∧ n < 10 ^ 18 := by
          match i4, hx4 with
          | 0, e => exact ⟨_, (Option.some.inj e).symm, by decide, by decide⟩
          | 1, e => exact ⟨_, (Option.some.inj e).symm, by decide, by decide⟩
          | 2, e => exact ⟨_, (Option.some.inj e).symm, by decide, by decide⟩
          | 3, e => exact ⟨_, (Option.some.inj e).symm, by decide, by decide⟩
          | i + 4, e => simp at e
        have C10' : Ch d g H9 H10 := (Ch.new np).trans C10
        refine tup_new (K := K) (ds := [.str "count", .str "Num", .int n4]) (.cons (.str _) (.cons (.str _) (.cons (.int _) .nil))) (by show 3 ≤ 1000; decide) fun v4 H11 e11 D4 => ?_
        refine ⟨_, rfl, _, rfl, add_i ⟨d, g, c, T + 6, ahead + 2, rfl, S10.keep e11, by omega, by omega, by omega, fun r5 H12 C12 S12 r50 r51 => ?_⟩⟩
        refine tup_new (K := K) (ds := [.str "bound", .int r5]) (.cons (.str _) (.cons (.int _) .nil)) (by show 2 ≤ 1000; decide) fun v5 H13 e13 D5 => ?_
        refine lst_new (by show 2 ≤ 1000; decide) fun q nq => ?_
        have C13 : Ch d g H9 H13 := C10'.trans ((Ch.same e11).trans (C12.ofSame e13))
        have h13 : H13 l = some (.lst [v1, v2, v3]) := C13 l _ ld lg h9
        have S13 := S12.keep e13
        refine add_l ((upd_ne (ne_of_none h13 nq)).trans h13) upd_same (line_of (by show 5 ≤ 1000; decide)) fun r nr => ?_
        have K2 : TK K H13 (upd (upd H13 q (.lst [v4, v5])) r (.lst ([v1, v2, v3] ++ [v4, v5]))) := (TK.new nq).trans (TK.new nr)
        have E1' := Dt.keep ((C13.tk S9).trans K2) _ E1
        have E2' := Dt.keep ((C13.tk S9).trans K2) _ E2
        have E3' := Dt.keep ((C13.tk S9).trans K2) _ E3
        have E4' : Dt K (upd (upd H13 q (.lst [v4, v5])) r (.lst ([v1, v2, v3] ++ [v4, v5]))) v4 (Tm.count "Num" n4).pd := Dt.keep ((C12.tk (S10.keep e11)).trans ((TK.same e13).trans K2)) _ D4
        have E5' : Dt K (upd (upd H13 q (.lst [v4, v5])) r (.lst ([v1, v2, v3] ++ [v4, v5]))) v5 (Tm.num "bound" r5).pd := Dt.keep K2 _ D5
        have S14 : Stt (upd (upd H13 q (.lst [v4, v5])) r (.lst ([v1, v2, v3] ++ [v4, v5]))) d g c (T + 7) := (S13.new nq).new nr
        have h14 : (upd (upd H13 q (.lst [v4, v5])) r (.lst ([v1, v2, v3] ++ [v4, v5]))) r = some (.lst ([v1, v2, v3] ++ [v4, v5])) := upd_same
        have C14 : Ch d g H (upd (upd H13 q (.lst [v4, v5])) r (.lst ([v1, v2, v3] ++ [v4, v5]))) := C9.trans (C13.trans ((Ch.new nq).trans (Ch.new nr)))
        generalize upd (upd H13 q (.lst [v4, v5])) r (.lst ([v1, v2, v3] ++ [v4, v5])) = H14 at S14 h14 E1' E2' E3' E4' E5' C14 ⊢
        refine ⟨_, rfl, _, _, rfl, rfl, _, rfl, ite2 (fun hw => ?_) (fun hw => ?_)⟩
        · -- some[way]
          have hw' : way < 5 := of_decide_eq_true hw
          obtain ⟨j, rfl⟩ : ∃ j : Nat, way = j := ⟨way.toNat, by omega⟩
          obtain ⟨t, v, hv, ht, wf, dp⟩ : ∃ (t : Tm) (v : V), [v1, v2, v3, v4, v5][j]? = some v ∧ Dt K H14 v t.pd ∧ (t.wf ∧ t.lt 1010 ∧ t.loc 4) ∧ t.depth = 1 := by
            match j, hw' with
            | 0, _ => exact ⟨.num "sort" r1, v1, rfl, E1', ⟨.inl ⟨rfl, r10, r11⟩, by show r1 < 1010; omega, fun z => absurd z sl_ne⟩, rfl⟩
            | 1, _ => exact ⟨.num "local" r2, v2, rfl, E2', ⟨.inr ⟨.inl rfl, r20⟩, by show r2 < 1010; omega, fun _ => r21⟩, rfl⟩
            | 2, _ => exact ⟨.name nm, v3, rfl, E3', ⟨hnm, trivial, trivial⟩, rfl⟩
            | 3, _ => exact ⟨.count "Num" n4, v4, rfl, E4', ⟨⟨rfl, n40, n41⟩, trivial, trivial⟩, rfl⟩
            | 4, _ => exact ⟨.num "bound" r5, v5, rfl, E5', ⟨.inr ⟨.inr (.inl rfl), r50⟩, by show r5 < 1010; omega, fun z => absurd z bl_ne⟩, rfl⟩
            | j + 5, h => omega
          exact ⟨_, rfl, _, rfl, .inl ⟨r, _, _, v, rfl, rfl, SqL.of h14, atI_nat hv, k t v H14 C14 (S14.mono (by omega)) ht wf (leaf t dp)⟩⟩
        · refine ⟨_, rfl, _, _, rfl, rfl, _, rfl, ite2 (fun ha => ?_) (fun ha => ?_)⟩
          · have ha' : 0 < ahead := of_decide_eq_true ha
            refine ⟨_, rfl, _, rfl, d, g, c, T + 7, ahead, rfl, S14, by omega, ha', by omega, fun r6 H15 C15 S15 r60 r61 => ?_⟩
            refine tup_new (K := K) (ds := [.str "bound", .int r6]) (.cons (.str _) (.cons (.int _) .nil)) (by show 2 ≤ 1000; decide) fun v6 H16 e16 D6 => ?_
            exact k (.num "bound" r6) v6 H16 ((C14.trans C15).ofSame e16) ((S15.keep e16).mono (by omega)) D6 ⟨.inr ⟨.inr (.inl rfl), r60⟩, by show r6 < 1010; omega, fun z => absurd z bl_ne⟩ (leaf _ rfl)
          · refine ⟨_, rfl, d, g, c, T + 7, 3, rfl, S14, by omega, by decide, by decide, fun r6 H15 C15 S15 r60 r61 => ?_⟩
            refine tup_new (K := K) (ds := [.str "hole", .int r6]) (.cons (.str _) (.cons (.int _) .nil)) (by show 2 ≤ 1000; decide) fun v6 H16 e16 D6 => ?_
            exact k (.num "hole" r6) v6 H16 ((C14.trans C15).ofSame e16) ((S15.keep e16).mono (by omega)) D6 ⟨.inr ⟨.inr (.inr rfl), r60⟩, by show r6 < 1010; omega, fun z => absurd z hl_ne⟩ (leaf _ rfl)
end
end RS

/-! Parts: the shapes of terms in the heap; the defs that tell a term's parts and leaves. -/
namespace RS
open PySem PySem.Spec PyProof.Rows L2

section
variable {K : PySem.W.Frag} {H : Hp} {v : V}
theorem Dt.tupI {ds : List PyData} (h : Dt K H v (.tuple ds)) : ∃ a xs, v = .ref a ∧ SqT K H a xs ∧ DtAll K H xs ds := by
  cases h with
  | tup h r => exact ⟨_, _, rfl, h, r⟩
theorem Dt.strI {x : Str} (h : Dt K H v (.str x)) : v = .str x := by cases h; rfl
theorem Dt.intI {x : Int} (h : Dt K H v (.int x)) : v = .int x := by cases h; rfl
theorem DtAll.consI {vs : List V} {d : PyData} {ds : List PyData} (h : DtAll K H vs (d :: ds)) : ∃ v ws, vs = v :: ws ∧ Dt K H v d ∧ DtAll K H ws ds := by
  cases h with
  | cons h r => exact ⟨_, _, rfl, h, r⟩
theorem DtAll.nilI {vs : List V} (h : DtAll K H vs []) : vs = [] := by cases h; rfl
theorem dt_num {w : Str} {n : Int} (h : Dt K H v (Tm.num w n).pd) : ∃ p, v = .ref p ∧ SqT K H p [.str w, .int n] := by
  obtain ⟨a, xs, rfl, hT, r⟩ := Dt.tupI h
  obtain ⟨v1, ws, rfl, d1, r⟩ := r.consI
  obtain ⟨v2, ws, rfl, d2, r⟩ := r.consI
  obtain rfl := r.nilI; obtain rfl := d1.strI; obtain rfl := d2.intI
  exact ⟨a, rfl, hT⟩
theorem dt_name {x : Str} (h : Dt K H v (Tm.name x).pd) : ∃ p, v = .ref p ∧ SqT K H p [.str "name", .str x] := by
  obtain ⟨a, xs, rfl, hT, r⟩ := Dt.tupI h
  obtain ⟨v1, ws, rfl, d1, r⟩ := r.consI
  obtain ⟨v2, ws, rfl, d2, r⟩ := r.consI
  obtain rfl := r.nilI; obtain rfl := d1.strI; obtain rfl := d2.strI
  exact ⟨a, rfl, hT⟩
theorem dt_count {x : Str} {n : Int} (h : Dt K H v (Tm.count x n).pd) : ∃ p, v = .ref p ∧ SqT K H p [.str "count", .str x, .int n] := by
  obtain ⟨a, xs, rfl, hT, r⟩ := Dt.tupI h
  obtain ⟨v1, ws, rfl, d1, r⟩ := r.consI
  obtain ⟨v2, ws, rfl, d2, r⟩ := r.consI
  obtain ⟨v3, ws, rfl, d3, r⟩ := r.consI
  obtain rfl := r.nilI; obtain rfl := d1.strI; obtain rfl := d2.strI; obtain rfl := d3.intI
  exact ⟨a, rfl, hT⟩
theorem dt_bin {w m : Str} {a b : Tm} (h : Dt K H v (Tm.bin w m a b).pd) : ∃ p va vb, v = .ref p ∧ SqT K H p [.str w, .str m, va, vb] ∧ Dt K H va a.pd ∧ Dt K H vb b.pd := by
  obtain ⟨p, xs, rfl, hT, r⟩ := Dt.tupI h
  obtain ⟨v1, ws, rfl, d1, r⟩ := r.consI
  obtain ⟨v2, ws, rfl, d2, r⟩ := r.consI
  obtain ⟨v3, ws, rfl, d3, r⟩ := r.consI
  obtain ⟨v4, ws, rfl, d4, r⟩ := r.consI
  obtain rfl := r.nilI; obtain rfl := d1.strI; obtain rfl := d2.strI
  exact ⟨p, v3, v4, rfl, hT, d3, d4⟩
theorem dt_let {a b c : Tm} (h : Dt K H v (Tm.letT a b c).pd) : ∃ p va vb vc, v = .ref p ∧ SqT K H p [.str "let", va, vb, vc] ∧ Dt K H va a.pd ∧ Dt K H vb b.pd ∧ Dt K H vc c.pd := by
  obtain ⟨p, xs, rfl, hT, r⟩ := Dt.tupI h
  obtain ⟨v1, ws, rfl, d1, r⟩ := r.consI
  obtain ⟨v2, ws, rfl, d2, r⟩ := r.consI
  obtain ⟨v3, ws, rfl, d3, r⟩ := r.consI
  obtain ⟨v4, ws, rfl, d4, r⟩ := r.consI
  obtain rfl := r.nilI; obtain rfl := d1.strI
  exact ⟨p, v2, v3, v4, rfl, hT, d2, d3, d4⟩
theorem dt_app {f x : Tm} {m : Str} (h : Dt K H v (Tm.app f m x).pd) : ∃ p vf vx, v = .ref p ∧ SqT K H p [.str "app", vf, .str m, vx] ∧ Dt K H vf f.pd ∧ Dt K H vx x.pd := by
  obtain ⟨p, xs, rfl, hT, r⟩ := Dt.tupI h
  obtain ⟨v1, ws, rfl, d1, r⟩ := r.consI
  obtain ⟨v2, ws, rfl, d2, r⟩ := r.consI
  obtain ⟨v3, ws, rfl, d3, r⟩ := r.consI
  obtain ⟨v4, ws, rfl, d4, r⟩ := r.consI
  obtain rfl := r.nilI; obtain rfl := d1.strI; obtain rfl := d3.strI
  exact ⟨p, v2, v4, rfl, hT, d2, d4⟩
end

/-! ### the word ahead, as a text -/
def Tm.word : Tm → Str
  | .num w _ => w
  | .name _ => "name"
  | .count _ _ => "count"
  | .bin w _ _ _ => w
  | .letT _ _ _ => "let"
  | .app _ _ _ => "app"
def Tm.isLeaf : Tm → Bool
  | .num _ _ => true
  | .name _ => true
  | .count _ _ => true
  | _ => false
def Tm.parts : Tm → List (Tm × Int)
  | .bin _ _ a b => [(a, 0), (b, 1)]
  | .letT a b c => [(a, 0), (b, 0), (c, 1)]
  | .app f _ x => [(f, 0), (x, 0)]
  | _ => []
def pdP (p : Tm × Int) : PyData := .tuple [p.1.pd, .int p.2]
theorem in2 (w a b : Str) : inV (.str w) [.str a, .str b] = (a == w || b == w) := by simp [inV, eqV]
def Tm.isBin : Tm → Bool
  | .bin _ _ _ _ => true
  | _ => false
def Tm.isLet : Tm → Bool
  | .letT _ _ _ => true
  | _ => false
def Tm.isApp : Tm → Bool
  | .app _ _ _ => true
  | _ => false
theorem wpf_sort : ((("pi" : Str) == ("sort" : Str)) || (("fun" : Str) == ("sort" : Str))) = false := by decide +kernel
theorem wpf_local : ((("pi" : Str) == ("local" : Str)) || (("fun" : Str) == ("local" : Str))) = false := by decide +kernel
theorem wpf_bound : ((("pi" : Str) == ("bound" : Str)) || (("fun" : Str) == ("bound" : Str))) = false := by decide +kernel
theorem wpf_hole : ((("pi" : Str) == ("hole" : Str)) || (("fun" : Str) == ("hole" : Str))) = false := by decide +kernel
theorem wpf_name : ((("pi" : Str) == ("name" : Str)) || (("fun" : Str) == ("name" : Str))) = false := by decide +kernel
theorem wpf_count : ((("pi" : Str) == ("count" : Str)) || (("fun" : Str) == ("count" : Str))) = false := by decide +kernel
theorem wpf_let : ((("pi" : Str) == ("let" : Str)) || (("fun" : Str) == ("let" : Str))) = false := by decide +kernel
theorem wpf_app : ((("pi" : Str) == ("app" : Str)) || (("fun" : Str) == ("app" : Str))) = false := by decide +kernel
theorem wpf_pi : ((("pi" : Str) == ("pi" : Str)) || (("fun" : Str) == ("pi" : Str))) = true := by decide +kernel
theorem wpf_fun : ((("pi" : Str) == ("fun" : Str)) || (("fun" : Str) == ("fun" : Str))) = true := by decide +kernel
theorem wf_pf {t : Tm} (h : t.wf) : ((("pi" : Str) == t.word) || (("fun" : Str) == t.word)) = t.isBin := by
  cases t with
  | num w n =>
    rcases h with ⟨rfl, _⟩ | ⟨rfl | rfl | rfl, _⟩
    · exact wpf_sort
    · exact wpf_local
    · exact wpf_bound
    · exact wpf_hole
  | name x => exact wpf_name
  | count x n => exact wpf_count
  | bin w m a b =>
    rcases h.1 with rfl | rfl
    · exact wpf_pi
    · exact wpf_fun
  | letT a b c => exact wpf_let
  | app f m x => exact wpf_app
theorem wlet_sort : decide (V.str ("sort" : Str) = V.str "let") = false := by decide +kernel
theorem wlet_local : decide (V.str ("local" : Str) = V.str "let") = false := by decide +kernel
theorem wlet_bound : decide (V.str ("bound" : Str) = V.str "let") = false := by decide +kernel
theorem wlet_hole : decide (V.str ("hole" : Str) = V.str "let") = false := by decide +kernel
theorem wlet_name : decide (V.str ("name" : Str) = V.str "let") = false := by decide +kernel
theorem wlet_count : decide (V.str ("count" : Str) = V.str "let") = false := by decide +kernel
theorem wlet_let : decide (V.str ("let" : Str) = V.str "let") = true := by decide +kernel
theorem wlet_app : decide (V.str ("app" : Str) = V.str "let") = false := by decide +kernel
theorem wlet_pi : decide (V.str ("pi" : Str) = V.str "let") = false := by decide +kernel
theorem wlet_fun : decide (V.str ("fun" : Str) = V.str "let") = false := by decide +kernel
theorem wf_let {t : Tm} (h : t.wf) : decide (V.str t.word = V.str "let") = t.isLet := by
  cases t with
  | num w n =>
    rcases h with ⟨rfl, _⟩ | ⟨rfl | rfl | rfl, _⟩
    · exact wlet_sort
    · exact wlet_local
    · exact wlet_bound
    · exact wlet_hole
  | name x => exact wlet_name
  | count x n => exact wlet_count
  | bin w m a b =>
    rcases h.1 with rfl | rfl
    · exact wlet_pi
    · exact wlet_fun
  | letT a b c => exact wlet_let
  | app f m x => exact wlet_app
theorem wapp_sort : decide (V.str ("sort" : Str) = V.str "app") = false := by decide +kernel
theorem wapp_local : decide (V.str ("local" : Str) = V.str "app") = false := by decide +kernel
theorem wapp_bound : decide (V.str ("bound" : Str) = V.str "app") = false := by decide +kernel
theorem wapp_hole : decide (V.str ("hole" : Str) = V.str "app") = false := by decide +kernel
theorem wapp_name : decide (V.str ("name" : Str) = V.str "app") = false := by decide +kernel
theorem wapp_count : decide (V.str ("count" : Str) = V.str "app") = false := by decide +kernel
theorem wapp_let : decide (V.str ("let" : Str) = V.str "app") = false := by decide +kernel
theorem wapp_app : decide (V.str ("app" : Str) = V.str "app") = true := by decide +kernel
theorem wapp_pi : decide (V.str ("pi" : Str) = V.str "app") = false := by decide +kernel
theorem wapp_fun : decide (V.str ("fun" : Str) = V.str "app") = false := by decide +kernel
theorem wf_app {t : Tm} (h : t.wf) : decide (V.str t.word = V.str "app") = t.isApp := by
  cases t with
  | num w n =>
    rcases h with ⟨rfl, _⟩ | ⟨rfl | rfl | rfl, _⟩
    · exact wapp_sort
    · exact wapp_local
    · exact wapp_bound
    · exact wapp_hole
  | name x => exact wapp_name
  | count x n => exact wapp_count
  | bin w m a b =>
    rcases h.1 with rfl | rfl
    · exact wapp_pi
    · exact wapp_fun
  | letT a b c => exact wapp_let
  | app f m x => exact wapp_app
/-- a term's tuple and its word ahead -/
theorem dt_word {K : PySem.W.Frag} {H : Hp} {v : V} {t : Tm} (h : Dt K H v t.pd) : ∃ p xs, v = .ref p ∧ SqT K H p (.str t.word :: xs) := by
  cases t with
  | num w n => obtain ⟨p, rfl, q⟩ := dt_num h; exact ⟨p, _, rfl, q⟩
  | name x => obtain ⟨p, rfl, q⟩ := dt_name h; exact ⟨p, _, rfl, q⟩
  | count x n => obtain ⟨p, rfl, q⟩ := dt_count h; exact ⟨p, _, rfl, q⟩
  | bin w m a b => obtain ⟨p, va, vb, rfl, q, _⟩ := dt_bin h; exact ⟨p, _, rfl, q⟩
  | letT a b c => obtain ⟨p, va, vb, vc, rfl, q, _⟩ := dt_let h; exact ⟨p, _, rfl, q⟩
  | app f m x => obtain ⟨p, vf, vx, rfl, q, _⟩ := dt_app h; exact ⟨p, _, rfl, q⟩
/-- an item of a tuple -/
theorem ixt {K : PySem.W.Frag} {p : Addr} {xs : List V} {i : Nat} {v : V} {H : Hp} {Q : VK} (h : SqT K H p xs) (hi : xs[i]? = some v) (q : Q v H) : rIx K (.ref p) (.int i) H Q := .inr (.inl ⟨p, xs, i, v, rfl, rfl, h, atI_nat hi, q⟩)
theorem ixl {K : PySem.W.Frag} {p : Addr} {xs : List V} {i : Nat} {v : V} {H : Hp} {Q : VK} (h : SqL K H p xs) (hi : xs[i]? = some v) (q : Q v H) : rIx K (.ref p) (.int i) H Q := .inl ⟨p, xs, i, v, rfl, rfl, h, atI_nat hi, q⟩

/-! ### own_parts -/
def spParts (K : PySem.W.Frag) : Sp := fun vs H Q _ => ∃ (v : V) (t : Tm), vs = [v] ∧ Dt K H v t.pd ∧ t.wf ∧ ∀ l xs H', Same H H' → H l = none → H' l = some (.lst xs) → DtAll K H' xs (t.parts.map pdP) → Q (.ref l) H'
theorem sqs {K : PySem.W.Frag} {H H' : Hp} {a : Addr} {xs : List V} (h : SqT K H a xs) (e : Same H H') : SqT K H' a xs := TK.same e _ _ h
theorem same2 {H H1 : Hp} {p : Addr} {o : HO} (e : Same H H1) (h : H1 p = none) : Same H (upd H1 p o) := e.trans (same_new h)
end RS

/-! Leaves: the law's own parts and leaves of a term. -/
namespace RS
open PySem PySem.Spec PyProof.Rows L2

def Tm.leaves : Tm → Int → List (Tm × Int)
  | .bin _ _ a b, n => a.leaves n ++ b.leaves (n + 1)
  | .letT a b c, n => a.leaves n ++ (b.leaves n ++ c.leaves (n + 1))
  | .app f _ x, n => f.leaves n ++ x.leaves n
  | .num w k, n => [(.num w k, n)]
  | .name x, n => [(.name x, n)]
  | .count x k, n => [(.count x k, n)]
theorem Tm.depth_pos (t : Tm) : 1 ≤ t.depth := by cases t <;> simp only [Tm.depth] <;> omega
theorem Tm.nodes_pos (t : Tm) : 1 ≤ t.nodes := by cases t <;> simp only [Tm.nodes] <;> omega
theorem Tm.leaves_len : ∀ (t : Tm) (n : Int), (t.leaves n).length ≤ t.nodes
  | .bin _ _ a b, n => by simp only [Tm.leaves, Tm.nodes, List.length_append]; have := a.leaves_len n; have := b.leaves_len (n + 1); omega
  | .letT a b c, n => by simp only [Tm.leaves, Tm.nodes, List.length_append]; have := a.leaves_len n; have := b.leaves_len n; have := c.leaves_len (n + 1); omega
  | .app f _ x, n => by simp only [Tm.leaves, Tm.nodes, List.length_append]; have := f.leaves_len n; have := x.leaves_len n; omega
  | .num _ _, _ => Nat.le_refl _
  | .name _, _ => Nat.le_refl _
  | .count _ _, _ => Nat.le_refl _
theorem Tm.part_lt {t p : Tm} {n : Int} (h : (p, n) ∈ t.parts) : p.depth < t.depth ∧ p.nodes < t.nodes := by
  cases t with
  | bin w m a b => simp only [Tm.parts, List.mem_cons, List.not_mem_nil, or_false, Prod.mk.injEq] at h; rcases h with ⟨rfl, _⟩ | ⟨rfl, _⟩ <;> simp only [Tm.depth, Tm.nodes] <;> omega
  | letT a b c => simp only [Tm.parts, List.mem_cons, List.not_mem_nil, or_false, Prod.mk.injEq] at h; rcases h with ⟨rfl, _⟩ | ⟨rfl, _⟩ | ⟨rfl, _⟩ <;> simp only [Tm.depth, Tm.nodes] <;> omega
  | app f m x => simp only [Tm.parts, List.mem_cons, List.not_mem_nil, or_false, Prod.mk.injEq] at h; rcases h with ⟨rfl, _⟩ | ⟨rfl, _⟩ <;> simp only [Tm.depth, Tm.nodes] <;> omega
  | num _ _ => cases h
  | name _ => cases h
  | count _ _ => cases h
theorem Tm.part_wf {t p : Tm} {n : Int} (wf : t.wf) (h : (p, n) ∈ t.parts) : p.wf := by
  cases t with
  | bin w m a b => simp only [Tm.parts, List.mem_cons, List.not_mem_nil, or_false, Prod.mk.injEq] at h; rcases h with ⟨rfl, _⟩ | ⟨rfl, _⟩ <;> first | exact wf.2.2.1 | exact wf.2.2.2
  | letT a b c => simp only [Tm.parts, List.mem_cons, List.not_mem_nil, or_false, Prod.mk.injEq] at h; rcases h with ⟨rfl, _⟩ | ⟨rfl, _⟩ | ⟨rfl, _⟩ <;> first | exact wf.1 | exact wf.2.1 | exact wf.2.2
  | app f m x => simp only [Tm.parts, List.mem_cons, List.not_mem_nil, or_false, Prod.mk.injEq] at h; rcases h with ⟨rfl, _⟩ | ⟨rfl, _⟩ <;> first | exact wf.1 | exact wf.2.2
  | num _ _ => cases h
  | name _ => cases h
  | count _ _ => cases h
def partLeaves (n : Int) (ps : List (Tm × Int)) : List (Tm × Int) := ps.flatMap fun p => p.1.leaves (n + p.2)
theorem partLeaves_snoc (n : Int) (ps : List (Tm × Int)) (p : Tm × Int) : partLeaves n (ps ++ [p]) = partLeaves n ps ++ p.1.leaves (n + p.2) := by simp [partLeaves]
theorem partLeaves_all {t : Tm} (n : Int) (h : t.parts ≠ []) : partLeaves n t.parts = t.leaves n := by
  cases t <;> simp_all [Tm.parts, partLeaves, Tm.leaves]
theorem partLeaves_take_len {t : Tm} (n : Int) (i : Nat) : (partLeaves n (t.parts.take i)).length ≤ t.nodes := by
  have h : ∀ (ps : List (Tm × Int)) (i : Nat), (partLeaves n (ps.take i)).length ≤ (ps.map fun p => p.1.nodes).sum := by
    intro ps
    induction ps with
    | nil => intro i; simp [partLeaves]
    | cons p ps ih =>
      intro i
      cases i with
      | zero => simp [partLeaves]
      | succ i =>
        have h1 := p.1.leaves_len (n + p.2)
        have h2 := ih i
        simp only [List.take_succ_cons, partLeaves, List.flatMap_cons, List.length_append, List.map_cons, List.sum_cons] at *
        omega
  refine Nat.le_trans (h t.parts i) ?_
  cases t <;> simp only [Tm.parts, List.map_cons, List.map_nil, List.sum_cons, List.sum_nil, Tm.nodes] <;> omega
theorem leaf_leaves {t : Tm} (n : Int) (h : t.parts = []) : t.leaves n = [(t, n)] := by
  cases t <;> simp_all [Tm.parts, Tm.leaves]
/-- one of the parts, in the heap -/
theorem parts_at {K : PySem.W.Frag} {H : Hp} {xs : List V} {ps : List (Tm × Int)} {i : Nat} {x : V} (h : DtAll K H xs (ps.map pdP)) (hx : xs[i]? = some x) :
    ∃ pt n p vp, ps[i]? = some (pt, n) ∧ x = .ref p ∧ SqT K H p [vp, .int n] ∧ Dt K H vp pt.pd := by
  obtain ⟨d, hd, dx⟩ := h.get hx
  rw [List.getElem?_map] at hd
  cases e : ps[i]? with
  | none => rw [e] at hd; cases hd
  | some q =>
    rw [e] at hd
    obtain rfl : pdP q = d := Option.some.inj hd
    obtain ⟨p, ys, rfl, hT, r⟩ := Dt.tupI (show Dt K H x (.tuple [q.1.pd, .int q.2]) from dx)
    obtain ⟨v1, ws, rfl, d1, r⟩ := r.consI
    obtain ⟨v2, ws, rfl, d2, r⟩ := r.consI
    obtain rfl := r.nilI; obtain rfl := d2.intI
    exact ⟨q.1, q.2, p, v1, by rw [Prod.eta], rfl, hT, d1⟩
section
variable {P : Program} {w : World} {K : PySem.W.Frag} {mg : Str → Option Value} {base : Heap}
theorem sc_law_rt_parts : FnScope ["term"] ["term"] (defScope s_law_rt_parts) := ⟨rfl, rfl, rfl, by decide +kernel, rfl, by decide +kernel, by decide +kernel⟩
theorem ok_rt_parts {f : Addr} {fd : FuncData} (F : Fun K "_law_rt_parts" "_law_rt_parts" s_law_rt_parts f fd) : FnOk P w K mg base CX0 1 f fd ["term"] (spParts K) := by
  refine F.ok sc_law_rt_parts (fun vs H Q E h => ?_) (fun cdv A outer s H vs Q E hr h => ?_)
  · obtain ⟨v, t, rfl, _⟩ := h; rfl
  · obtain ⟨v, t, rfl, hv, wf, k⟩ := h
    have nd := sc_law_rt_parts.nd
    have h1 := wf_pf wf
    have h2 := wf_let wf
    have h3 := wf_app wf
    obtain ⟨p, xs, rfl, hT⟩ := dt_word hv
    refine ⟨_, (pss_cons (ps_if (pt_cmpR uIn (pe_ix ix_seq (pv 0) pe_int (fun _ _ => rfl)) (pe_tupN (pa_cons pe_str (pa_cons pe_str pa_nil))) (by rfl))
        (pss_one (ps_ret (pe_lstN (pa_cons (pe_tupN (pa_cons (pe_ix ix_seq (pv 0) pe_int (fun _ _ => rfl)) (pa_cons pe_int pa_nil))) (pa_cons (pe_tupN (pa_cons (pe_ix ix_seq (pv 0) pe_int (fun _ _ => rfl)) (pa_cons pe_int pa_nil))) pa_nil)))))
        pss_nil)
      (pss_cons (ps_if (pt_cmpR (uEq hr.units) (pe_ix ix_seq (pv 0) pe_int (fun _ _ => rfl)) pe_str (nomark _))
        (pss_one (ps_ret (pe_lstN (pa_cons (pe_tupN (pa_cons (pe_ix ix_seq (pv 0) pe_int (fun _ _ => rfl)) (pa_cons pe_int pa_nil))) (pa_cons (pe_tupN (pa_cons (pe_ix ix_seq (pv 0) pe_int (fun _ _ => rfl)) (pa_cons pe_int pa_nil))) (pa_cons (pe_tupN (pa_cons (pe_ix ix_seq (pv 0) pe_int (fun _ _ => rfl)) (pa_cons pe_int pa_nil))) pa_nil))))))
        pss_nil)
      (pss_one (ps_ret (pe_ifExp (pt_cmpR (uEq hr.units) (pe_ix ix_seq (pv 0) pe_int (fun _ _ => rfl)) pe_str (nomark _)) (pe_lstN (pa_cons (pe_tupN (pa_cons (pe_ix ix_seq (pv 0) pe_int (fun _ _ => rfl)) (pa_cons pe_int pa_nil))) (pa_cons (pe_tupN (pa_cons (pe_ix ix_seq (pv 0) pe_int (fun _ _ => rfl)) (pa_cons pe_int pa_nil))) pa_nil))) (pe_lstN pa_nil)))))), ?_⟩
    refine ⟨_, rfl, ixt (i := 0) hT rfl (tup_at (by show 2 ≤ 1000; decide) fun q nq => in_t (SqT.of upd_same) rfl rfl (by rw [in2, h1]) ⟨_, rfl, ?_⟩)⟩
    have e0 := same_new (o := .tup [V.str "pi", V.str "fun"]) nq
    have hT0 := sqs hT e0
    cases t with
    | bin w m a b =>
      obtain ⟨p', va, vb, e, hB, ha, hb⟩ := dt_bin hv
      cases e
      refine iteT ⟨_, rfl, ixt (i := 2) (sqs hB e0) rfl (tup_new (K := K) (ds := [a.pd, .int 0]) (.cons (ha.same e0) (.cons (.int 0) .nil)) (by show 2 ≤ 1000; decide) fun v1 H1 e1 d1 => ?_)⟩
      refine ⟨_, rfl, ixt (i := 3) (sqs (sqs hB e0) e1) rfl (tup_new (K := K) (ds := [b.pd, .int 1]) (.cons ((hb.same e0).same e1) (.cons (.int 1) .nil)) (by show 2 ≤ 1000; decide) fun v2 H2 e2 d2 => lst_new (by show 2 ≤ 1000; decide) fun l nl => ?_)⟩
      exact k l _ _ (same2 (e0.trans (e1.trans e2)) nl) ((e0.trans (e1.trans e2)).free nl) upd_same (DtAll.keep (TK.new nl) _ (.cons (d1.same e2) (.cons d2 .nil)))
    | letT a b c =>
      obtain ⟨p', va, vb, vc, e, hB, ha, hb, hc⟩ := dt_let hv
      cases e
      refine iteF ⟨_, rfl, ixt (i := 0) hT0 rfl (eq_f rfl (by rw [h2]; rfl) ⟨_, rfl, iteT ?_⟩)⟩
      refine ⟨_, rfl, ixt (i := 1) (sqs hB e0) rfl (tup_new (K := K) (ds := [a.pd, .int 0]) (.cons (ha.same e0) (.cons (.int 0) .nil)) (by show 2 ≤ 1000; decide) fun v1 H1 e1 d1 => ?_)⟩
      refine ⟨_, rfl, ixt (i := 2) (sqs (sqs hB e0) e1) rfl (tup_new (K := K) (ds := [b.pd, .int 0]) (.cons ((hb.same e0).same e1) (.cons (.int 0) .nil)) (by show 2 ≤ 1000; decide) fun v2 H2 e2 d2 => ?_)⟩
      refine ⟨_, rfl, ixt (i := 3) (sqs (sqs (sqs hB e0) e1) e2) rfl (tup_new (K := K) (ds := [c.pd, .int 1]) (.cons (((hc.same e0).same e1).same e2) (.cons (.int 1) .nil)) (by show 2 ≤ 1000; decide) fun v3 H3 e3 d3 => lst_new (by show 3 ≤ 1000; decide) fun l nl => ?_)⟩
      have ee := e0.trans (e1.trans (e2.trans e3))
      exact k l _ _ (same2 ee nl) (ee.free nl) upd_same (DtAll.keep (TK.new nl) _ (.cons ((d1.same e2).same e3) (.cons (d2.same e3) (.cons d3 .nil))))
    | app f m x =>
      obtain ⟨p', vf, vx, e, hB, ha, hb⟩ := dt_app hv
      cases e
      refine iteF ⟨_, rfl, ixt (i := 0) hT0 rfl (eq_f rfl (by rw [h2]; rfl) ⟨_, rfl, iteF ⟨_, rfl, ixt (i := 0) hT0 rfl (eq_f rfl (by rw [h3]; rfl) ⟨_, rfl, iteT ?_⟩)⟩⟩)⟩
      refine ⟨_, rfl, ixt (i := 1) (sqs hB e0) rfl (tup_new (K := K) (ds := [f.pd, .int 0]) (.cons (ha.same e0) (.cons (.int 0) .nil)) (by show 2 ≤ 1000; decide) fun v1 H1 e1 d1 => ?_)⟩
      refine ⟨_, rfl, ixt (i := 3) (sqs (sqs hB e0) e1) rfl (tup_new (K := K) (ds := [x.pd, .int 0]) (.cons ((hb.same e0).same e1) (.cons (.int 0) .nil)) (by show 2 ≤ 1000; decide) fun v2 H2 e2 d2 => lst_new (by show 2 ≤ 1000; decide) fun l nl => ?_)⟩
      exact k l _ _ (same2 (e0.trans (e1.trans e2)) nl) ((e0.trans (e1.trans e2)).free nl) upd_same (DtAll.keep (TK.new nl) _ (.cons (d1.same e2) (.cons d2 .nil)))
    | num w n => exact iteF ⟨_, rfl, ixt (i := 0) hT0 rfl (eq_f rfl (by rw [h2]; rfl) ⟨_, rfl, iteF ⟨_, rfl, ixt (i := 0) hT0 rfl (eq_f rfl (by rw [h3]; rfl) ⟨_, rfl, iteF (lst_new (Nat.zero_le _) fun l nl => k l _ _ (same2 e0 nl) (e0.free nl) upd_same .nil)⟩)⟩⟩)⟩
    | name x => exact iteF ⟨_, rfl, ixt (i := 0) hT0 rfl (eq_f rfl (by rw [h2]; rfl) ⟨_, rfl, iteF ⟨_, rfl, ixt (i := 0) hT0 rfl (eq_f rfl (by rw [h3]; rfl) ⟨_, rfl, iteF (lst_new (Nat.zero_le _) fun l nl => k l _ _ (same2 e0 nl) (e0.free nl) upd_same .nil)⟩)⟩⟩)⟩
    | count x n => exact iteF ⟨_, rfl, ixt (i := 0) hT0 rfl (eq_f rfl (by rw [h2]; rfl) ⟨_, rfl, iteF ⟨_, rfl, ixt (i := 0) hT0 rfl (eq_f rfl (by rw [h3]; rfl) ⟨_, rfl, iteF (lst_new (Nat.zero_le _) fun l nl => k l _ _ (same2 e0 nl) (e0.free nl) upd_same .nil)⟩)⟩⟩)⟩

/-! ### _law_rt_leaves -/
theorem sc_law_rt_leaves : FnScope ["term", "ahead", "parts", "found", "part", "more"] ["term", "ahead"] (defScope s_law_rt_leaves) := ⟨rfl, rfl, rfl, by decide +kernel, rfl, by decide +kernel, by decide +kernel⟩
def spLeaves (K : PySem.W.Frag) (N : Nat) : Sp := fun vs H Q _ => ∃ (v : V) (t : Tm) (n : Int), vs = [v, .int n] ∧ Dt K H v t.pd ∧ t.wf ∧ t.depth ≤ N ∧ t.nodes ≤ 100000 ∧
  ∀ l xs H', Same H H' → H l = none → H' l = some (.lst xs) → DtAll K H' xs ((t.leaves n).map pdP) → Q (.ref l) H'
theorem ok_leaves {f : Addr} {fd : FuncData} (F : Fun K "_law_rt_leaves" "_law_rt_leaves" s_law_rt_leaves f fd) (hm : mg "_law_rt_leaves" = some (.ref f)) (b : Binds K fd ["term", "ahead"] [])
    (D_law_rt_parts : Df P w K mg base "_law_rt_parts" 1 ["term"] (spParts K)) : ∀ N, FnOk P w K mg base CX0 (N + 1) f fd ["term", "ahead"] (spLeaves K N)
  | 0 => by
    refine ⟨fun vs H Q E h => ?_, fun A outer s H args us vs Q E _ _ _ _ h => ?_⟩
    · obtain ⟨v, t, n, rfl, _⟩ := h; rfl
    · obtain ⟨v, t, n, _, _, _, h1, _⟩ := h
      have := t.depth_pos
      omega
  | N + 1 => by
    have D_law_rt_leaves : Df P w K mg base "_law_rt_leaves" (N + 1) ["term", "ahead"] (spLeaves K N) := ⟨f, fd, ok_leaves F hm b D_law_rt_parts N, hm, F.kp, b⟩
    refine F.ok sc_law_rt_leaves (fun vs H Q E h => ?_) (fun cdv A outer s H vs Q E hr h => ?_)
    · obtain ⟨v, t, n, rfl, _⟩ := h; rfl
    · obtain ⟨v, t, n, rfl, hv, wf, hd, hn, k⟩ := h
      have nd := sc_law_rt_leaves.nd
      refine ⟨_, (pss_cons (ps_par (i := 2) (j := 3) rfl nd rfl rfl (by decide) rfl rfl (pa_cons (pe_df D_law_rt_parts hr (by omega) (pa_cons (pv 0) pa_nil)) (pa_cons (pe_lstN pa_nil) pa_nil)) rfl)
      (pss_cons (ps_for PassesOwn.never rfl (pi_seq (pv 2)) (pg_tup rfl (pgs_cons (pg_name (i := 4) nd rfl (Or.inl rfl)) (pgs_cons (pg_name (i := 5) nd rfl (Or.inl rfl)) pgs_nil)))
        (pss_one (ps_set (i := 3) nd rfl (Or.inl rfl) (pe_op uAdd (pv 3) (pe_df D_law_rt_leaves hr (by omega) (pa_cons (pv 4) (pa_cons (pe_op uAdd (pv 1) (pv 5)) pa_nil)))))))
      (pss_one (ps_ret (pe_ifExp (pt_cmpR (uNe hr.units) (pv 2) (pe_lstN pa_nil) (nomark _)) (pv 3) (pe_lstN (pa_cons (pe_tupN (pa_cons (pv 0) (pa_cons (pv 1) pa_nil))) pa_nil))))))), ?_⟩
      refine ⟨_, rfl, v, t, rfl, hv, wf, fun l xs H1 e1 nl hl dl => lst_new (Nat.zero_le _) fun l0 nl0 => ⟨_, _, rfl, ?_⟩⟩
      have e1' : Same H (upd H1 l0 (.lst [])) := same2 e1 nl0
      have hl' : upd H1 l0 (.lst []) l = some (.lst xs) := (upd_ne (ne_of_none hl nl0)).trans hl
      have dl' := DtAll.keep (K := K) (TK.new (o := .lst []) nl0) _ dl
      have hl0 : upd H1 l0 (.lst []) l0 = some (.lst []) := upd_same
      have n0 : H l0 = none := e1.free nl0
      generalize upd H1 l0 (.lst []) = H2 at e1' hl' dl' hl0
      clear e1 hl dl nl0
      refine ⟨_, rfl, l, rfl, .inl ⟨⟨_, SqL.of hl'⟩, for_list (K := K) (a := l) (xs := xs)
        (fun i σ H3 => ∃ (l2 : Addr) (ys : List V) (v4 v5 : Option V), σ = [some v, some (.int n), some (.ref l), some (.ref l2), v4, v5] ∧ Same H2 H3 ∧ H l2 = none ∧ H3 l2 = some (.lst ys) ∧ DtAll K H3 ys ((partLeaves n (t.parts.take i)).map pdP))
        ⟨l0, [], none, none, rfl, Same.refl _, n0, hl0, .nil⟩ (fun i σ H3 _ ⟨_, _, _, _, _, e, _⟩ => SqL.of (e _ _ hl')) ?_ ?_⟩⟩
      · rintro i x σ H3 hx ⟨l2, ys, v4, v5, rfl, e3, nl2, hl2, dy⟩
        obtain ⟨pt, m, p, vp, hp, rfl, hT, dp⟩ := parts_at (DtAll.keep (TK.same e3) _ dl') hx
        have hmem := List.mem_of_getElem? hp
        obtain ⟨lt1, lt2⟩ := Tm.part_lt hmem
        refine ⟨p, _, rfl, hT, rfl, vp, _, rfl, .int m, _, rfl, rfl, ?_⟩
        refine ⟨_, rfl, _, rfl, _, rfl, _, rfl, add_i ⟨vp, pt, n + m, rfl, dp, Tm.part_wf wf hmem, by omega, by omega, fun l3 zs H4 e4 nl3 hl3 dz => ?_⟩⟩
        have dy4 := DtAll.keep (TK.same e4) _ dy
        have len1 : ys.length ≤ t.nodes := by rw [dy.length, List.length_map]; exact partLeaves_take_len n i
        have len2 : zs.length ≤ pt.nodes := by rw [dz.length, List.length_map]; exact pt.leaves_len _
        refine add_l (e4 _ _ hl2) hl3 (by rw [sizeLine_eq]; omega) fun q nq => ?_
        refine ⟨q, ys ++ zs, _, _, rfl, same2 (e3.trans e4) nq, ?_, upd_same, ?_⟩
        · exact (e1'.trans (e3.trans e4)).free nq
        · have : t.parts.take (i + 1) = t.parts.take i ++ [(pt, m)] := take_snoc hp
          rw [this, partLeaves_snoc, List.map_append]
          exact DtAll.keep (TK.new nq) _ (dy4.append dz)
      · rintro σ H3 ⟨l2, ys, v4, v5, rfl, e3, nl2, hl2, dy⟩
        rw [show xs.length = t.parts.length by rw [dl'.length, List.length_map], List.take_length] at dy
        refine ⟨_, rfl, lst_new (Nat.zero_le _) fun q nq => eq_n (SqL.of ((upd_ne (ne_of_none (e3 _ _ hl') nq)).trans (e3 _ _ hl'))) (SqL.of upd_same) rfl ⟨_, rfl, ?_⟩⟩
        have eq := same2 (o := .lst []) (e1'.trans e3) nq
        cases hxs : xs with
        | nil =>
          have hp : t.parts = [] := by
            have := dl'.length
            rw [hxs, List.length_map] at this
            exact List.length_eq_zero_iff.mp this.symm
          refine iteF ⟨_, rfl, _, rfl, tup_new (K := K) (ds := [t.pd, .int n]) (.cons (hv.same eq) (.cons (.int n) .nil)) (by show 2 ≤ 1000; decide) fun v1 H5 e5 d1 => lst_new (by show 1 ≤ 1000; decide) fun r nr => ?_⟩
          refine k r [v1] _ (same2 (eq.trans e5) nr) ((eq.trans e5).free nr) upd_same ?_
          rw [leaf_leaves n hp]
          exact .cons (Dt.keep (TK.new nr) _ d1) .nil
        | cons x xs' =>
          have hp : t.parts ≠ [] := fun z => by
            have := dl'.length
            rw [hxs, List.length_map, z] at this
            cases this
          rw [partLeaves_all n hp] at dy
          refine iteT ⟨_, rfl, k l2 ys _ eq nl2 ((upd_ne (ne_of_none hl2 nq)).trans hl2) (DtAll.keep (TK.new nq) _ dy)⟩
end
end RS

/-! Data: what repr and == ask of a datum, put together part by part. -/
namespace RS
open PySem PySem.Spec PyProof.Rows L2

/-- d may be laid, shown; its height, its weight -/
structure Okd (d : PyData) (D W : Nat) : Prop where
  lay : d.canLay0 = true
  shw : d.showable = true
  dep : d.depth ≤ D
  shl : d.shown.length ≤ W
structure OkdA (ds : List PyData) (D W : Nat) : Prop where
  lay : PyData.canLayAll0 ds = true
  shw : PyData.showableAll ds = true
  dep : PyData.depthAll ds ≤ D
  shl : ((PyData.shownAll ds).map (·.length)).sum + 2 * ds.length ≤ W
theorem Okd.mono {d : PyData} {D W D' W' : Nat} (h : Okd d D W) (a : D ≤ D') (b : W ≤ W') : Okd d D' W' := ⟨h.lay, h.shw, Nat.le_trans h.dep a, Nat.le_trans h.shl b⟩
theorem OkdA.mono {d : List PyData} {D W D' W' : Nat} (h : OkdA d D W) (a : D ≤ D') (b : W ≤ W') : OkdA d D' W' := ⟨h.lay, h.shw, Nat.le_trans h.dep a, Nat.le_trans h.shl b⟩
theorem OkdA.nil {D : Nat} : OkdA [] D 0 := ⟨by simp only [PyData.canLayAll0], by simp only [PyData.showableAll], by simp only [PyData.depthAll]; exact Nat.zero_le _, by simp [PyData.shownAll]⟩
theorem OkdA.cons {d : PyData} {ds : List PyData} {D W W' : Nat} (h : Okd d D W) (r : OkdA ds D W') : OkdA (d :: ds) D (W + 2 + W') :=
  ⟨by simp only [PyData.canLayAll0, h.lay, r.lay, Bool.and_self], by simp only [PyData.showableAll, h.shw, r.shw, Bool.and_self], by simp only [PyData.depthAll]; exact Nat.max_le.mpr ⟨h.dep, r.dep⟩, by
    have h1 := h.shl
    have h2 := r.shl
    simp only [PyData.shownAll, List.map_cons, List.sum_cons, List.length_cons]; omega⟩
theorem shownAll_length : ∀ ds : List PyData, (PyData.shownAll ds).length = ds.length
  | [] => rfl
  | d :: ds => by simp only [PyData.shownAll, List.length_cons, shownAll_length ds]
theorem OkdA.tup {ds : List PyData} {D W : Nat} (h : OkdA ds D W) : Okd (.tuple ds) (D + 1) (W + 3) :=
  ⟨by simp only [PyData.canLay0]; exact h.lay, by simp only [PyData.showable]; exact h.shw, by simp only [PyData.depth]; have := h.dep; omega, by
    have h1 := tupleText_len_le (PyData.shownAll ds)
    rw [shownAll_length] at h1
    have h2 := h.shl
    simp only [PyData.shown]; omega⟩
theorem OkdA.lst {ds : List PyData} {D W : Nat} (h : OkdA ds D W) : Okd (.list ds) (D + 1) (W + 3) :=
  ⟨by simp only [PyData.canLay0]; exact h.lay, by simp only [PyData.showable]; exact h.shw, by simp only [PyData.depth]; have := h.dep; omega, by
    have h1 := listText_len_le (PyData.shownAll ds)
    rw [shownAll_length] at h1
    have h2 := h.shl
    simp only [PyData.shown]; omega⟩
theorem Okd.int {i : Int} {D : Nat} (h : i.natAbs < 10 ^ 18) : Okd (.int i) D 20 := by
  have hl : i.natAbs.log2 < 64 := by
    rcases Nat.eq_zero_or_pos i.natAbs with z | z
    · rw [z]; decide
    · exact (Nat.log2_lt (by omega)).mpr (Nat.lt_trans h (by decide))
  refine ⟨rfl, by simp only [PyData.showable, decide_eq_true_eq]; omega, Nat.zero_le _, ?_⟩
  have e := int_text_length_le10 (k := 18) (by decide) h
  show (Str.ofString (toString i)).length ≤ 20
  rw [PySem.ofString_length]; omega
theorem Okd.str {x : Str} {D W : Nat} (h : PyData.strOk x = true) (hw : (PyData.str x).shown.length ≤ W) : Okd (.str x) D W := ⟨h, rfl, Nat.zero_le _, hw⟩
theorem Okd.shaped {d : PyData} {D W : Nat} (h : Okd d D W) (hD : D ≤ 64) : SeqAt.shaped d = true := Bool.and_eq_true_iff.mpr ⟨h.lay, decide_eq_true (Nat.le_trans h.dep hD)⟩
theorem Okd.noDict {d : PyData} {D W : Nat} (h : Okd d D W) : d.hasDict = false := PyData.hasDict_of_canLay d h.lay
theorem Okd.len {d : PyData} {D W : Nat} (h : Okd d D W) (hW : W ≤ 16000000) : d.shown.length ≤ sizeLine := by
  have := h.shl
  rw [sizeLine_eq]; omega
theorem Okd.eqv {d : PyData} {D W : Nat} (h : Okd d D W) : PyData.eqv d d = true := SeqAt.eqv_refl_plain d (PyData.plain_of_canLay0 d h.lay)

/-! ### repr, told so that the unifier opens the other side -/
structure rRepU (K : PySem.W.Frag) (xs : List V) (H : Hp) (Q : VK) : Prop where
  ex : ∃ a d D W, xs = [.ref a] ∧ Dp K H (.ref a) d ∧ Okd d D W ∧ D + 1 ≤ 64 ∧ W ≤ 16000000 ∧ Q (.str d.shown) H
theorem uRepr {X : Cx} (hg : AG X.A) (hu : X.A.units + 64 < cLine) : CallR X (.builtin "repr") (rRepU X.K) := fun pins s σ H xs us Q I r h => by
  obtain ⟨a, d, D, W, e, hd, o, h1, h2, q⟩ := h.ex
  exact cr_repr hg hu pins s σ H xs us Q I r ⟨a, d, e, hd, o.shw, o.noDict, by have := o.dep; omega, o.len h2, q⟩
theorem rp {K : PySem.W.Frag} {H : Hp} {l : Addr} {d : PyData} {D W : Nat} {Q : VK} (h : Dp K H (.ref l) d) (o : Okd d D W) (hD : D + 1 ≤ 64) (hW : W ≤ 16000000) (q : Q (.str d.shown) H) : rRepU K [.ref l] H Q := ⟨l, d, D, W, rfl, h, o, hD, hW, q⟩
theorem rpL {K : PySem.W.Frag} {H : Hp} {l : Addr} {xs : List V} {ds : List PyData} {D W : Nat} {Q : VK} (h : SqL K H l xs) (hd : DtAll K H xs ds) (o : OkdA ds D W) (hD : D + 2 ≤ 64) (hW : W ≤ 15000000) (q : Q (.str (PyData.list ds).shown) H) : rRepU K [.ref l] H Q :=
  rp (.lst h (DtAll.dp _ hd)) o.lst (by omega) (by omega) q

/-! ### terms -/
theorem mark_ok {m : Str} (h : m ∈ marksL) : PyData.strOk m = true ∧ (PyData.str m).shown.length ≤ 8 := by
  have : ∀ x ∈ marksL, PyData.strOk x = true ∧ (PyData.str x).shown.length ≤ 8 := by decide +kernel
  exact this m h
theorem name_ok {m : Str} (h : m ∈ namesL) : PyData.strOk m = true ∧ (PyData.str m).shown.length ≤ 18 := by
  have : ∀ x ∈ namesL, PyData.strOk x = true ∧ (PyData.str x).shown.length ≤ 18 := by decide +kernel
  exact this m h
theorem lit_ok {x : Str} {n : Nat} {D : Nat} (h : (PyData.strOk x && decide ((PyData.str x).shown.length ≤ n)) = true) : Okd (.str x) D n := by
  rw [Bool.and_eq_true, decide_eq_true_eq] at h
  exact .str h.1 h.2
theorem Tm.nodes_one : ∀ t : Tm, 1 ≤ t.nodes
  | .num _ _ => Nat.le_refl _
  | .name _ => Nat.le_refl _
  | .count _ _ => Nat.le_refl _
  | .bin _ _ _ _ => Nat.le_add_right _ _
  | .letT _ _ _ => Nat.le_add_right _ _
  | .app _ _ _ => Nat.le_add_right _ _
theorem Tm.okd : ∀ (t : Tm), t.wf → t.lt 1000000 → Okd t.pd t.depth (45 * t.nodes)
  | .num w n, h, hl => by
    have hw : Okd (.str w) 0 8 := by
      rcases h with ⟨rfl, _⟩ | ⟨rfl | rfl | rfl, _⟩ <;> exact lit_ok (by decide +kernel)
    have hn : n.natAbs < 10 ^ 18 := by
      have e : (10 : Nat) ^ 18 = 1000000000000000000 := by decide
      have hl' : n < 1000000 := hl
      rcases h with ⟨_, h1, h2⟩ | ⟨_, h1⟩ <;> omega
    exact (OkdA.tup (.cons hw (.cons (.int hn) .nil))).mono (Nat.le_refl _) (by show 8 + 2 + (20 + 2 + 0) + 3 ≤ 45 * 1; decide)
  | .name x, h, hl => by
    have hx := name_ok h
    have hw : Okd (.str "name") 0 8 := lit_ok (by decide +kernel)
    exact (OkdA.tup (.cons hw (.cons (Okd.str (W := 18) hx.1 hx.2) .nil))).mono (Nat.le_refl _) (by show 8 + 2 + (18 + 2 + 0) + 3 ≤ 45 * 1; decide)
  | .count x n, h, hl => by
    obtain ⟨rfl, h1, h2⟩ := h
    have hn : n.natAbs < 10 ^ 18 := by
      have e : (10 : Nat) ^ 18 = 1000000000000000000 := by decide
      have e' : (10 : Int) ^ 18 = 1000000000000000000 := by decide
      omega
    have hw : Okd (.str "count") 0 7 := lit_ok (by decide +kernel)
    have hx : Okd (.str "Num") 0 5 := lit_ok (by decide +kernel)
    exact (OkdA.tup (.cons hw (.cons hx (.cons (.int hn) .nil)))).mono (Nat.le_refl _) (by show 7 + 2 + (5 + 2 + (20 + 2 + 0)) + 3 ≤ 45 * 1; decide)
  | .bin w m a b, h, hl => by
    obtain ⟨h1, h2, h3, h4⟩ := h
    have hw : Okd (.str w) (max a.depth b.depth) 6 := by rcases h1 with rfl | rfl <;> exact lit_ok (by decide +kernel)
    have hm := mark_ok h2
    have ia := (a.okd h3 hl.1).mono (Nat.le_max_left _ b.depth) (Nat.le_refl _)
    have ib := (b.okd h4 hl.2).mono (Nat.le_max_right a.depth _) (Nat.le_refl _)
    have na := a.nodes_one; have nb := b.nodes_one
    exact (OkdA.tup (.cons hw (.cons (Okd.str (W := 8) hm.1 hm.2) (.cons ia (.cons ib .nil))))).mono (by simp only [Tm.depth]; omega) (by simp only [Tm.nodes]; omega)
  | .letT a b c, h, hl => by
    obtain ⟨h1, h2, h3⟩ := h
    have hw : Okd (.str "let") (max a.depth (max b.depth c.depth)) 6 := lit_ok (by decide +kernel)
    have ia := (a.okd h1 hl.1).mono (Nat.le_max_left _ (max b.depth c.depth)) (Nat.le_refl _)
    have ib := (b.okd h2 hl.2.1).mono (Nat.le_trans (Nat.le_max_left _ c.depth) (Nat.le_max_right a.depth _)) (Nat.le_refl _)
    have ic := (c.okd h3 hl.2.2).mono (Nat.le_trans (Nat.le_max_right b.depth _) (Nat.le_max_right a.depth _)) (Nat.le_refl _)
    exact (OkdA.tup (.cons hw (.cons ia (.cons ib (.cons ic .nil))))).mono (by simp only [Tm.depth]; omega) (by simp only [Tm.nodes]; omega)
  | .app f m x, h, hl => by
    obtain ⟨h1, h2, h3⟩ := h
    have hw : Okd (.str "app") (max f.depth x.depth) 6 := lit_ok (by decide +kernel)
    have hm := mark_ok h2
    have ia := (f.okd h1 hl.1).mono (Nat.le_max_left _ x.depth) (Nat.le_refl _)
    have ib := (x.okd h3 hl.2).mono (Nat.le_max_right f.depth _) (Nat.le_refl _)
    exact (OkdA.tup (.cons hw (.cons ia (.cons (Okd.str (W := 8) hm.1 hm.2) (.cons ib .nil))))).mono (by simp only [Tm.depth]; omega) (by simp only [Tm.nodes]; omega)

/-! ### sizes by the depth -/
def pw3 : Nat → Nat
  | 0 => 0
  | n + 1 => 1 + 3 * pw3 n
theorem pw3_mono : ∀ {m n : Nat}, m ≤ n → pw3 m ≤ pw3 n
  | 0, _, _ => Nat.zero_le _
  | m + 1, 0, h => absurd h (by omega)
  | m + 1, n + 1, h => by have := pw3_mono (m := m) (n := n) (by omega); simp only [pw3]; omega
theorem Tm.nodes_le : ∀ t : Tm, t.nodes ≤ pw3 t.depth
  | .num _ _ => by simp [Tm.nodes, Tm.depth, pw3]
  | .name _ => by simp [Tm.nodes, Tm.depth, pw3]
  | .count _ _ => by simp [Tm.nodes, Tm.depth, pw3]
  | .bin _ _ a b => by
    have h1 := Nat.le_trans a.nodes_le (pw3_mono (Nat.le_max_left a.depth b.depth))
    have h2 := Nat.le_trans b.nodes_le (pw3_mono (Nat.le_max_right a.depth b.depth))
    simp only [Tm.nodes, Tm.depth, Nat.add_comm 1, pw3]; omega
  | .letT a b c => by
    have h1 := Nat.le_trans a.nodes_le (pw3_mono (Nat.le_max_left a.depth (max b.depth c.depth)))
    have h2 := Nat.le_trans b.nodes_le (pw3_mono (Nat.le_trans (Nat.le_max_left b.depth c.depth) (Nat.le_max_right a.depth _)))
    have h3 := Nat.le_trans c.nodes_le (pw3_mono (Nat.le_trans (Nat.le_max_right b.depth c.depth) (Nat.le_max_right a.depth _)))
    simp only [Tm.nodes, Tm.depth, Nat.add_comm 1, pw3]; omega
  | .app f _ x => by
    have h1 := Nat.le_trans f.nodes_le (pw3_mono (Nat.le_max_left f.depth x.depth))
    have h2 := Nat.le_trans x.nodes_le (pw3_mono (Nat.le_max_right f.depth x.depth))
    simp only [Tm.nodes, Tm.depth, Nat.add_comm 1, pw3]; omega
theorem Tm.nodes_at {t : Tm} {n : Nat} (h : (t.depth : Int) ≤ n) : t.nodes ≤ pw3 n := Nat.le_trans t.nodes_le (pw3_mono (by omega))

end RS

/-! Led: led with a handed function. -/
namespace RS
open PySem PySem.Spec PyProof.Rows L2 LamX NdefX

def Tm.led (g : Tm → Int → Tm) : Tm → Int → Tm
  | .bin w m a b, n => .bin w m (a.led g n) (b.led g (n + 1))
  | .letT a b c, n => .letT (a.led g n) (b.led g n) (c.led g (n + 1))
  | .app f m x, n => .app (f.led g n) m (x.led g n)
  | .num w i, n => g (.num w i) n
  | .name x, n => g (.name x) n
  | .count x i, n => g (.count x i) n
def spLed (T : List NTab) (K : PySem.W.Frag) (N : Nat) (C : Clo) (spw : List (Option V) → Sp) (g : Tm → Int → Tm) : Sp := fun vs H Q _ => ∃ (v : V) (t : Tm) (n : Int), vs = [v, .int n, .ref C.f] ∧ Dt K H v t.pd ∧ t.wf ∧ t.depth ≤ N ∧ TabsN T H ∧
  (∀ (u : Tm) (m : Int) (v2 : V) (H2 : Hp) (Q2 : VK), u.isLeaf = true → u.wf → Sx T H H2 → Dt K H2 v2 u.pd → (∀ v' H', Sx T H2 H' → Dt K H' v' (g u m).pd → Q2 v' H') → spw C.ws [v2, .int m] H2 Q2 E0) ∧ ∀ v' H', Sx T H H' → Dt K H' v' (t.led g n).pd → Q v' H'
theorem Dt.sx {T : List NTab} {K : PySem.W.Frag} {H H' : Hp} {v : V} {d : PyData} (h : Dt K H v d) (e : Sx T H H') : Dt K H' v d := Dt.keep e.tk _ h
theorem sqx {T : List NTab} {K : PySem.W.Frag} {H H' : Hp} {a : Addr} {xs : List V} (h : SqT K H a xs) (e : Sx T H H') : SqT K H' a xs := e.tk _ _ h
section
variable {P : Program} {w : World} {K : PySem.W.Frag} {mg : Str → Option Value} {base : Heap}
theorem sc_led : FnScope ["term", "ahead", "work", "word"] ["term", "ahead", "work"] (defScope s_led) := ⟨rfl, rfl, rfl, by decide +kernel, rfl, by decide +kernel, by decide +kernel⟩
theorem ok_led {T : List NTab} {f : Addr} {fd : FuncData} {cdv : Value} {C : Clo} {spw : List (Option V) → Sp} {g : Tm → Int → Tm} {kw : Nat} (F : FunC K "led" "led" s_led f fd cdv) (m_led : mg "led" = some (.ref f)) (b_led : Binds K fd ["term", "ahead", "work"] [])
    (W : NOk P w K mg base CX0 kw C.f C.F ["leaf", "ahead"] C.fr spw) : ∀ N, FnZ C.at P w K mg base (N + kw) f fd ["term", "ahead", "work"] (spLed T K N C spw g)
  | 0 => by
    refine ⟨fun vs H Q E h => ?_, fun A outer s H args us vs Q E _ _ _ _ _ h => ?_⟩
    · obtain ⟨v, t, n, rfl, _⟩ := h; rfl
    · obtain ⟨v, t, n, _, _, _, h1, _⟩ := h
      have := t.depth_pos
      omega
  | N + 1 => by
    have k_led := F.kp
    have ih := ok_led (T := T) (g := g) F m_led b_led W N
    rw [show N + 1 + kw = (N + kw) + 1 by omega]
    refine okZ F sc_led (fun vs H Q E h => ?_) (fun A outer s H vs Q E hr e0 hz h => ?_)
    · obtain ⟨v, t, n, rfl, _⟩ := h; rfl
    · obtain ⟨v, t, n, rfl, hv, wf, hd, hT, hleaf, k⟩ := h
      obtain ⟨hs, c0⟩ := hz
      have nd := sc_led.nd
      have D_led : ∀ i : Unit, FnZ C.at P w K mg base (N + kw) f fd ["term", "ahead", "work"] (spLed T K N C spw g) := fun _ => ih
      have Z_led : ∀ (i : Unit) pins σ H' s', Inv (cxOf CX0 P w K mg base ["term", "ahead", "work", "word"] "led" (defScope s_led) f cdv A outer s H E).nox pins σ H' s' → C.seen H' → C.at s' H' := fun _ pins σ H' s' I h => ⟨h, cells_later c0 rfl I⟩
      refine ⟨_, (pss_cons (ps_set (i := 3) nd rfl (Or.inl rfl) (pe_ix ix_seq (pv 0) pe_int (fun _ _ => rfl)))
      (pss_cons (ps_if (pt_cmpR uIn (pv 3) (pe_tupN (pa_cons pe_str (pa_cons pe_str pa_nil))) (by rfl))
        (pss_one (ps_ret (pe_tupN (pa_cons (pv 3) (pa_cons (pe_ix ix_seq (pv 0) pe_int (fun _ _ => rfl)) (pa_cons (pe_z D_led m_led k_led b_led Z_led hr (by omega) (pa_cons (pe_ix ix_seq (pv 0) pe_int (fun _ _ => rfl)) (pa_cons (pv 1) (pa_cons (pv 2) pa_nil)))) (pa_cons (pe_z D_led m_led k_led b_led Z_led hr (by omega) (pa_cons (pe_ix ix_seq (pv 0) pe_int (fun _ _ => rfl)) (pa_cons (pe_op uAdd (pv 1) pe_int) (pa_cons (pv 2) pa_nil)))) pa_nil)))))))
        pss_nil)
      (pss_cons (ps_if (pt_cmpR (uEq hr.units) (pv 3) pe_str (nomark _))
        (pss_one (ps_ret (pe_tupN (pa_cons (pv 3) (pa_cons (pe_z D_led m_led k_led b_led Z_led hr (by omega) (pa_cons (pe_ix ix_seq (pv 0) pe_int (fun _ _ => rfl)) (pa_cons (pv 1) (pa_cons (pv 2) pa_nil)))) (pa_cons (pe_z D_led m_led k_led b_led Z_led hr (by omega) (pa_cons (pe_ix ix_seq (pv 0) pe_int (fun _ _ => rfl)) (pa_cons (pv 1) (pa_cons (pv 2) pa_nil)))) (pa_cons (pe_z D_led m_led k_led b_led Z_led hr (by omega) (pa_cons (pe_ix ix_seq (pv 0) pe_int (fun _ _ => rfl)) (pa_cons (pe_op uAdd (pv 1) pe_int) (pa_cons (pv 2) pa_nil)))) pa_nil)))))))
        pss_nil)
      (pss_cons (ps_if (pt_cmpR (uEq hr.units) (pv 3) pe_str (nomark _))
        (pss_one (ps_ret (pe_tupN (pa_cons (pv 3) (pa_cons (pe_z D_led m_led k_led b_led Z_led hr (by omega) (pa_cons (pe_ix ix_seq (pv 0) pe_int (fun _ _ => rfl)) (pa_cons (pv 1) (pa_cons (pv 2) pa_nil)))) (pa_cons (pe_ix ix_seq (pv 0) pe_int (fun _ _ => rfl)) (pa_cons (pe_z D_led m_led k_led b_led Z_led hr (by omega) (pa_cons (pe_ix ix_seq (pv 0) pe_int (fun _ _ => rfl)) (pa_cons (pv 1) (pa_cons (pv 2) pa_nil)))) pa_nil)))))))
        pss_nil)
      (pss_one (ps_ret (pe_work (i := 2) W c0 rfl hr (by omega) (pa_cons (pv 0) (pa_cons (pv 1) pa_nil))))))))), ?_⟩
      obtain ⟨p, ws, rfl, hT0⟩ := dt_word hv
      have h1 := wf_pf wf
      have h2 := wf_let wf
      have h3 := wf_app wf
      refine ⟨_, rfl, ixt (i := 0) hT0 rfl ⟨_, rfl, tup_at (by show 2 ≤ 1000; decide) fun q nq => in_t (SqT.of upd_same) rfl rfl (by rw [in2, h1]) ⟨_, rfl, ?_⟩⟩⟩
      have x0 : Sx T H (upd H q (.tup [.str "pi", .str "fun"])) := (Sx.refl hT).new nq
      generalize upd H q (.tup [.str "pi", .str "fun"]) = H0 at x0
      have LF : ∀ {H3 : Hp}, Sx T H H3 → ∀ (u : Tm) (m : Int) (v2 : V) (H2 : Hp) (Q2 : VK), u.isLeaf = true → u.wf → Sx T H3 H2 → Dt K H2 v2 u.pd → (∀ v' H', Sx T H2 H' → Dt K H' v' (g u m).pd → Q2 v' H') → spw C.ws [v2, .int m] H2 Q2 E0 :=
        fun e u m v2 H2 Q2 l wfu e2 d2 kk => hleaf u m v2 H2 Q2 l wfu (e.trans e2) d2 kk
      have last : ∀ (t : Tm) (v : V), t.isLeaf = true → t.wf → Dt K H0 v t.pd → t.led g n = g t n → (∀ v' H', Sx T H H' → Dt K H' v' (t.led g n).pd → Q v' H') →
          tSeq (tRet (tWork 2 C spw (tCons (tVar 0) (tCons (tVar 1) tNil)))) tNext { nx := fun _ H' => Q .non H', rt := Q } [some v, some (.int n), some (.ref C.f), some (.str t.word)] H0 := fun t v l wft dv el kk =>
        ⟨rfl, hs.sx x0, _, rfl, _, rfl, hs.sx x0, hleaf t n v H0 _ l wft x0 dv fun v' H' e d => kk v' H' (x0.trans e) (by rw [el]; exact d)⟩
      cases t with
      | bin w m a b =>
        obtain ⟨p', va, vb, e, hB, ha, hb⟩ := dt_bin hv
        cases e
        have dm : max a.depth b.depth ≤ N := by simp only [Tm.depth] at hd; omega
        refine iteT ⟨_, rfl, _, rfl, ixt (i := 1) (sqx hB x0) rfl ⟨_, rfl, ixt (i := 2) (sqx hB x0) rfl ⟨_, rfl, _, rfl, (), hs.sx x0, va, a, n, rfl, ha.sx x0, wf.2.2.1, by omega, x0.tab, LF x0, fun v1 H1 x1 d1 => ?_⟩⟩⟩
        have y1 := x0.trans x1
        refine ⟨_, rfl, ixt (i := 3) (sqx hB y1) rfl ⟨_, rfl, add_i ⟨_, rfl, (), hs.sx y1, vb, b, n + 1, rfl, hb.sx y1, wf.2.2.2, by omega, y1.tab, LF y1, fun v2 H2 x2 d2 => ?_⟩⟩⟩
        have y2 := y1.trans x2
        exact tup_new (K := K) (ds := [.str w, .str m, (a.led g n).pd, (b.led g (n + 1)).pd]) (.cons (.str _) (.cons (.str _) (.cons (d1.sx x2) (.cons d2 .nil)))) (by show 4 ≤ 1000; decide) fun v3 H3 e3 d3 => k v3 H3 (y2.trans (Sx.same y2.tab e3)) d3
      | letT a b c =>
        obtain ⟨p', va, vb, vc, e, hB, ha, hb, hc⟩ := dt_let hv
        cases e
        have dm : max a.depth (max b.depth c.depth) ≤ N := by simp only [Tm.depth] at hd; omega
        refine iteF ⟨_, rfl, eq_f rfl (by rw [h2]; rfl) ⟨_, rfl, iteT ?_⟩⟩
        refine ⟨_, rfl, _, rfl, ixt (i := 1) (sqx hB x0) rfl ⟨_, rfl, _, rfl, (), hs.sx x0, va, a, n, rfl, ha.sx x0, wf.1, by omega, x0.tab, LF x0, fun v1 H1 x1 d1 => ?_⟩⟩
        have y1 := x0.trans x1
        refine ⟨_, rfl, ixt (i := 2) (sqx hB y1) rfl ⟨_, rfl, _, rfl, (), hs.sx y1, vb, b, n, rfl, hb.sx y1, wf.2.1, by omega, y1.tab, LF y1, fun v2 H2 x2 d2 => ?_⟩⟩
        have y2 := y1.trans x2
        refine ⟨_, rfl, ixt (i := 3) (sqx hB y2) rfl ⟨_, rfl, add_i ⟨_, rfl, (), hs.sx y2, vc, c, n + 1, rfl, hc.sx y2, wf.2.2, by omega, y2.tab, LF y2, fun v3 H3 x3 d3 => ?_⟩⟩⟩
        have y3 := y2.trans x3
        exact tup_new (K := K) (ds := [.str "let", (a.led g n).pd, (b.led g n).pd, (c.led g (n + 1)).pd]) (.cons (.str _) (.cons ((d1.sx x2).sx x3) (.cons (d2.sx x3) (.cons d3 .nil)))) (by show 4 ≤ 1000; decide) fun v4 H4 e4 d4 => k v4 H4 (y3.trans (Sx.same y3.tab e4)) d4
      | app a m b =>
        obtain ⟨p', va, vb, e, hB, ha, hb⟩ := dt_app hv
        cases e
        have dm : max a.depth b.depth ≤ N := by simp only [Tm.depth] at hd; omega
        refine iteF ⟨_, rfl, eq_f rfl (by rw [h2]; rfl) ⟨_, rfl, iteF ⟨_, rfl, eq_f rfl (by rw [h3]; rfl) ⟨_, rfl, iteT ?_⟩⟩⟩⟩
        refine ⟨_, rfl, _, rfl, ixt (i := 1) (sqx hB x0) rfl ⟨_, rfl, _, rfl, (), hs.sx x0, va, a, n, rfl, ha.sx x0, wf.1, by omega, x0.tab, LF x0, fun v1 H1 x1 d1 => ?_⟩⟩
        have y1 := x0.trans x1
        refine ⟨_, rfl, ixt (i := 2) (sqx hB y1) rfl ⟨_, rfl, ixt (i := 3) (sqx hB y1) rfl ⟨_, rfl, _, rfl, (), hs.sx y1, vb, b, n, rfl, hb.sx y1, wf.2.2, by omega, y1.tab, LF y1, fun v2 H2 x2 d2 => ?_⟩⟩⟩
        have y2 := y1.trans x2
        exact tup_new (K := K) (ds := [.str "app", (a.led g n).pd, .str m, (b.led g n).pd]) (.cons (.str _) (.cons (d1.sx x2) (.cons (.str _) (.cons d2 .nil)))) (by show 4 ≤ 1000; decide) fun v3 H3 e3 d3 => k v3 H3 (y2.trans (Sx.same y2.tab e3)) d3
      | num w i => exact iteF ⟨_, rfl, eq_f rfl (by rw [h2]; rfl) ⟨_, rfl, iteF ⟨_, rfl, eq_f rfl (by rw [h3]; rfl) ⟨_, rfl, iteF (last (.num w i) _ rfl wf (hv.sx x0) rfl k)⟩⟩⟩⟩
      | name x => exact iteF ⟨_, rfl, eq_f rfl (by rw [h2]; rfl) ⟨_, rfl, iteF ⟨_, rfl, eq_f rfl (by rw [h3]; rfl) ⟨_, rfl, iteF (last (.name x) _ rfl wf (hv.sx x0) rfl k)⟩⟩⟩⟩
      | count x i => exact iteF ⟨_, rfl, eq_f rfl (by rw [h2]; rfl) ⟨_, rfl, iteF ⟨_, rfl, eq_f rfl (by rw [h3]; rfl) ⟨_, rfl, iteF (last (.count x i) _ rfl wf (hv.sx x0) rfl k)⟩⟩⟩⟩
end
end RS

/-! Makers: raised, put_in, opened, bound_to, exchanged. -/
namespace RS
open PySem PySem.Spec PyProof.Rows L2 LamX NdefX

def gR (b : Int) (u : Tm) (m : Int) : Tm := match u with
  | .num w i => if w = "bound" ∧ m ≤ i then .num "bound" (i + b) else .num w i
  | u => u
def gP (val : Tm) (u : Tm) (m : Int) : Tm := match u with
  | .num w i => if w = "bound" ∧ m ≤ i then (if i = m then val.led (gR m) 0 else .num "bound" (i - 1)) else .num w i
  | u => u
def gB (k : Int) (u : Tm) (m : Int) : Tm := match u with
  | .num w i => if w = "local" ∧ i = k then .num "bound" m else if w = "bound" ∧ m ≤ i then .num "bound" (i + 1) else .num w i
  | u => u
def gX (vals : List Tm) (u : Tm) (m : Int) : Tm := match u with
  | .num w i => if w = "local" ∧ i < vals.length then (vals.getD i.toNat (.name "f")).led (gR m) 0 else .num w i
  | u => u
def Tm.isW (w0 : Str) : Tm → Bool
  | .num w _ => decide (w = w0)
  | _ => false
theorem word_w {w0 : Str} (h1 : ("name" : Str) ≠ w0) (h2 : ("count" : Str) ≠ w0) {u : Tm} (lf : u.isLeaf = true) : decide (V.str u.word = V.str w0) = u.isW w0 := by
  cases u with
  | num w i =>
    show decide (V.str w = V.str w0) = decide (w = w0)
    by_cases e : w = w0
    · subst e; simp
    · rw [decide_eq_false e, decide_eq_false fun z => e (by injection z)]
  | name x => exact decide_eq_false fun z => h1 (by injection z)
  | count x n => exact decide_eq_false fun z => h2 (by injection z)
  | _ => cases lf
theorem isW_num {w0 : Str} {u : Tm} (h : u.isW w0 = true) : ∃ i, u = .num w0 i := by
  cases u with
  | num w i => exact ⟨i, by rw [of_decide_eq_true h]⟩
  | _ => cases h
theorem nb1 : ("name" : Str) ≠ "bound" := by decide +kernel
theorem nb2 : ("count" : Str) ≠ "bound" := by decide +kernel
theorem nl1 : ("name" : Str) ≠ "local" := by decide +kernel
theorem nl2 : ("count" : Str) ≠ "local" := by decide +kernel
theorem gR_off {b m : Int} {u : Tm} (h : u.isW "bound" = false) : gR b u m = u := by
  cases u with
  | num w i => exact if_neg fun z => by rw [Tm.isW, decide_eq_true z.1] at h; cases h
  | _ => rfl
theorem gP_off {val : Tm} {m : Int} {u : Tm} (h : u.isW "bound" = false) : gP val u m = u := by
  cases u with
  | num w i => exact if_neg fun z => by rw [Tm.isW, decide_eq_true z.1] at h; cases h
  | _ => rfl
theorem gX_off {vals : List Tm} {m : Int} {u : Tm} (h : u.isW "local" = false) : gX vals u m = u := by
  cases u with
  | num w i => exact if_neg fun z => by rw [Tm.isW, decide_eq_true z.1] at h; cases h
  | _ => rfl
theorem led_id {g : Tm → Int → Tm} (h : ∀ u m, u.isLeaf = true → g u m = u) : ∀ (t : Tm) (n : Int), t.led g n = t
  | .bin w m a b, n => by rw [Tm.led, led_id h a, led_id h b]
  | .letT a b c, n => by rw [Tm.led, led_id h a, led_id h b, led_id h c]
  | .app a m b, n => by rw [Tm.led, led_id h a, led_id h b]
  | .num w i, n => h _ _ rfl
  | .name x, n => h _ _ rfl
  | .count x i, n => h _ _ rfl
theorem gR_zero (u : Tm) (m : Int) : gR 0 u m = u := by
  cases u with
  | num w i =>
    show (if w = "bound" ∧ m ≤ i then Tm.num "bound" (i + 0) else Tm.num w i) = _
    split
    · rename_i h; rw [h.1, Int.add_zero]
    · rfl
  | _ => rfl
abbrev s_raised_more : Stmt := (defBody s_raised).getD 1 (.Pass ⟨0, 0, 0, 0⟩)
abbrev s_put_in_put : Stmt := (defBody s_put_in).getD 0 (.Pass ⟨0, 0, 0, 0⟩)
abbrev s_bound_to_bind : Stmt := (defBody s_bound_to).getD 0 (.Pass ⟨0, 0, 0, 0⟩)
abbrev s_exchanged_put : Stmt := (defBody s_exchanged).getD 0 (.Pass ⟨0, 0, 0, 0⟩)
abbrev fr_raised_more : List Str := ["by"]
abbrev fr_put_in_put : List Str := ["value"]
abbrev fr_bound_to_bind : List Str := ["number"]
abbrev fr_exchanged_put : List Str := ["values"]
/-- a nested def's table: one name -/
def nmO (q : Str) : Nat → Nat → Str := fun _ _ => q
section
variable {P : Program} {w : World} {K : PySem.W.Frag} {mg : Str → Option Value} {base : Heap} {T : List NTab}
/-! ### raised -/
def spMore (T : List NTab) (K : PySem.W.Frag) (ws : List (Option V)) : Sp := fun vs H Q _ => ∃ (v : V) (u : Tm) (m b : Int), ws = [some (.int b)] ∧ vs = [v, .int m] ∧ u.isLeaf = true ∧ Dt K H v u.pd ∧ TabsN T H ∧ ∀ v' H', Sx T H H' → Dt K H' v' (gR b u m).pd → Q v' H'
theorem ok_more {q : Str} {cl : List (Str × Addr)} {c' fa : Addr} : NOk P w K mg base CX0 1 fa (NF.of s_raised_more "more" q cl c') ["leaf", "ahead"] fr_raised_more (spMore T K) := by
  have S : NScope ["leaf", "ahead", "by"] ["leaf", "ahead"] fr_raised_more (C8.fnScope s_raised_more) := nscope_by (by decide +kernel)
  refine nok_of S (fun doc pm ctv us hl => match us, hl with | [_, _], _ => rfl) (fun ws vs H Q E h => ?_) (fun A outer s H vs ws Q E hr hf hc hw h => ?_)
  · obtain ⟨v, u, m, b, _, rfl, _⟩ := h; rfl
  · obtain ⟨v, u, m, b, rfl, rfl, lf, hv, hT, k⟩ := h
    refine ⟨_, (pss_one (ps_ret (pe_ifExp (pt_w (PW.pt (pw_and (pt_cmpR (uEq hr.units) (pe_ix ix_seq (pv 0) pe_int (fun _ _ => rfl)) pe_str (nomark _)) (pw_and1 (pt_cmpR op_ge (pe_ix ix_seq (pv 0) pe_int (fun _ _ => rfl)) (pv 1) (nomark _)))))) (pe_tupN (pa_cons pe_str (pa_cons (pe_op uAdd (pe_ix ix_seq (pv 0) pe_int (fun _ _ => rfl)) (pv 2)) pa_nil))) (pv 0)))), ?_⟩
    obtain ⟨p, xs, rfl, hp⟩ := dt_word hv
    refine ⟨?_⟩
    refine ⟨_, rfl, ixt (i := 0) hp rfl (eq_f rfl (by rw [word_w nb1 nb2 lf]) ⟨_, rfl, ?_⟩)⟩
    cases hb : u.isW "bound" with
    | false => exact iteF (iteF ⟨_, rfl, k _ H (Sx.refl hT) (by rw [gR_off hb]; exact hv)⟩)
    | true =>
      obtain ⟨i, rfl⟩ := isW_num hb
      obtain ⟨p', e, hp2⟩ := dt_num hv
      cases e
      refine iteT ⟨_, rfl, ixt (i := 1) hp2 rfl ⟨_, rfl, _, _, rfl, rfl, _, rfl, ite2 (fun hc => ?_) (fun hc => ?_)⟩⟩
      · refine ⟨_, rfl, ixt (i := 1) hp2 rfl ⟨_, rfl, add_i (tup_new (K := K) (ds := [.str "bound", .int (i + b)]) (.cons (.str _) (.cons (.int _) .nil)) (by show 2 ≤ 1000; decide) fun v' H' e d => k v' H' (Sx.same hT e) ?_)⟩⟩
        have : gR b (.num "bound" i) m = .num "bound" (i + b) := if_pos ⟨rfl, of_decide_eq_true hc⟩
        rw [this]; exact d
      · refine ⟨_, rfl, k _ H (Sx.refl hT) ?_⟩
        have : gR b (.num "bound" i) m = .num "bound" i := if_neg fun z => hc (decide_eq_true z.2)
        rw [this]; exact hv
theorem z_made {X : Cx} {nsc : Scope} {y : Str} {j : Nat} {v : V} {pins : List (Addr × Obj)} {σ : L2.St} {H : Hp} {s : Shared} (hB : ndefB X.env.scope nsc [y] = true) (hj : X.N[j]? = some y) (I : Inv X pins σ H s) (h : (σ[j]?).join = some v) : CellsAt (cloFrom X.env.cells nsc.names []) [y] [some v] s.heap H := by
  have q := cells_of (fr := [y]) (js := [j]) I (Caps.made (scope := nsc) I.ok (ndef_free hB) (ndef_fr hB) (by show [X.N[j]?] = _; rw [hj]; rfl))
  have e : [j].map (slotAt σ) = [some v] := by
    show [NdefX.slotAt σ j] = _
    unfold NdefX.slotAt
    cases e : σ[j]? with
    | none => rw [e] at h; cases h
    | some o => rw [e] at h; exact congrArg (fun x => [x]) h
  rw [e] at q; exact q
structure LedF (K : PySem.W.Frag) (mg : Str → Option Value) (fl : Addr) (fdl : FuncData) (cdl : Value) : Prop where
  F : FunC K "led" "led" s_led fl fdl cdl
  m : mg "led" = some (.ref fl)
  b : Binds K fdl ["term", "ahead", "work"] []
/-- a maker's table of code objects -/
structure TabM (T : List NTab) (base : Heap) (mg : Str → Option Value) (c Pt : Addr) (q : Str) : Prop where
  tb : TabB base mg c Pt
  mem : (Pt, nmO q) ∈ T
  only : ∀ p ∈ T, p.1 = Pt → p.2 = nmO q
theorem sc_raised : FnScope ["term", "by", "more"] ["term", "by"] (defScope s_raised) := ⟨rfl, rfl, rfl, by decide +kernel, rfl, by decide +kernel, by decide +kernel⟩
def spRaised (T : List NTab) (K : PySem.W.Frag) (N : Nat) : Sp := fun vs H Q _ => ∃ (v : V) (t : Tm) (b : Int), vs = [v, .int b] ∧ Dt K H v t.pd ∧ t.wf ∧ t.depth ≤ N ∧ TabsN T H ∧ ∀ v' H', Sx T H H' → Dt K H' v' (t.led (gR b) 0).pd → Q v' H'
theorem ok_raised {f fl c Pt : Addr} {fd fdl : FuncData} {cdl : Value} (F : FunC K "raised" "raised" s_raised f fd (.ref c)) (L : LedF K mg fl fdl cdl) (M : TabM T base mg c Pt "raised.<locals>.more") (N : Nat) : FnOk P w K mg base CX0 (N + 2) f fd ["term", "by"] (spRaised T K N) := by
  refine (okZ F sc_raised (fun vs H Q E h => ?_) (fun A outer s H vs Q E hr e0 _ h => ?_)).ok
  · obtain ⟨v, t, b, rfl, _⟩ := h; rfl
  · obtain ⟨v, t, b, rfl, hv, wf, hd, hT, k⟩ := h
    have nd := sc_raised.nd
    have TB := M.tb
    have hT_m := M.mem
    have hT_u := M.only
    have hT_n : ∀ a b : Nat, nmO "raised.<locals>.more" a b = (envOfC "raised" (defScope s_raised) s.heap.objs.size f (.ref c)).qual ++ "more" := fun _ _ => by
      show ("raised.<locals>.more" : Str) = "raised.<locals>." ++ "more"
      decide +kernel
    have m_led := L.m
    have b_led := L.b
    have k_led := L.F.kp
    let X := (cxOf CX0 P w K mg base ["term", "by", "more"] "raised" (defScope s_raised) f (.ref c) A outer s H E).nox
    let cl := cloFrom X.env.cells (C8.fnScope s_raised_more).names []
    let mk : Addr × Addr → Clo := fun i => ⟨NF.of s_raised_more "more" (X.env.qual ++ "more") cl i.2, i.1, fr_raised_more, [some (.int b)]⟩
    have D_led : ∀ i : Addr × Addr, FnZ (mk i).at P w K mg base (N + 1) fl fdl ["term", "ahead", "work"] (spLed T K N (mk i) (spMore T K) (gR b)) := fun i => ok_led L.F L.m L.b ok_more N
    have hB : ndefB (defScope s_raised) (C8.fnScope s_raised_more) fr_raised_more = true := by decide +kernel
    have Z_led : ∀ (i : Addr × Addr) pins σ H' s', Inv X pins σ H' s' → ((mk i).seen H' ∧ (σ[1]?).join = some (.int b)) → (mk i).at s' H' := fun i pins σ H' s' I h => ⟨h.1, z_made hB rfl I h.2⟩
    refine ⟨_, (pss_cons (ps_if (pt_cmpR (uEq hr.units) (pv 1) pe_int (nomark _))
        (pss_one (ps_ret (pv 0)))
        pss_nil)
      (pss_cons (ps_ndefMS (st := s_raised_more) (i := 2) rfl TB rfl hT_m (hT_n _ _) hT_u (ndef_free hB) rfl rfl rfl nd rfl (Or.inl rfl) (Or.inl rfl))
      (pss_one (ps_ret (pe_z D_led m_led k_led b_led Z_led hr (by omega) (pa_cons (pv 0) (pa_cons pe_int (pa_cons (pv 2) pa_nil)))))))), ?_⟩
    refine ⟨_, rfl, eq_f rfl rfl ⟨_, rfl, ite2 (fun hc => ?_) (fun hc => ?_)⟩⟩
    · have e : b = 0 := by
        have : decide (V.int b = V.int 0) = true := by simpa using hc
        have := of_decide_eq_true this
        injection this
      subst e
      rw [led_id (fun u m _ => gR_zero u m)] at k
      exact ⟨_, rfl, k v H (Sx.refl hT) hv⟩
    · refine ⟨hT, fun fa c' H1 eN nn T1 f0 f1 c1 => ?_⟩
      have x1 : Sx T H H1 := ⟨eN, nn, T1⟩
      refine ⟨_, rfl, _, rfl, (fa, c'), ⟨⟨f1, c1⟩, rfl⟩, v, t, 0, rfl, hv.sx x1, wf, hd, T1, fun u m v2 H2 Q2 l wfu e d2 kk => ?_, fun v' H' e d => k v' H' (x1.trans e) d⟩
      exact ⟨v2, u, m, b, rfl, rfl, l, d2, e.tab, kk⟩
/-! ### put_in, opened -/
def spPutC (T : List NTab) (K : PySem.W.Frag) (M : Nat) (ws : List (Option V)) : Sp := fun vs H Q _ => ∃ (v vv : V) (u val : Tm) (m : Int), ws = [some vv] ∧ vs = [v, .int m] ∧ u.isLeaf = true ∧ Dt K H v u.pd ∧ Dt K H vv val.pd ∧ val.wf ∧ val.depth ≤ M ∧ TabsN T H ∧ ∀ v' H', Sx T H H' → Dt K H' v' (gP val u m).pd → Q v' H'
theorem ok_putC {q : Str} {cl : List (Str × Addr)} {c' fa : Addr} {M : Nat} (Draised : Df P w K mg base "raised" (M + 2) ["term", "by"] (spRaised T K M)) : NOk P w K mg base CX0 (M + 3) fa (NF.of s_put_in_put "put" q cl c') ["leaf", "ahead"] fr_put_in_put (spPutC T K M) := by
  have S : NScope ["leaf", "ahead", "value"] ["leaf", "ahead"] fr_put_in_put (C8.fnScope s_put_in_put) := nscope_by (by decide +kernel)
  refine nok_of S (fun doc pm ctv us hl => match us, hl with | [_, _], _ => rfl) (fun ws vs H Q E h => ?_) (fun A outer s H vs ws Q E hr hf hc hw h => ?_)
  · obtain ⟨v, vv, u, val, m, _, rfl, _⟩ := h; rfl
  · obtain ⟨v, vv, u, val, m, rfl, rfl, lf, hv, hvv, wfv, hdv, hT, k⟩ := h
    refine ⟨_, (pss_cons (ps_if (pt_w (PW.pt (pw_or (pt_cmpR (uNe hr.units) (pe_ix ix_seq (pv 0) pe_int (fun _ _ => rfl)) pe_str (nomark _)) (pw_or1 (pt_cmpR op_lt (pe_ix ix_seq (pv 0) pe_int (fun _ _ => rfl)) (pv 1) (nomark _))))))
        (pss_one (ps_ret (pv 0)))
        pss_nil)
      (pss_one (ps_ret (pe_ifExp (pt_cmpR (uEq hr.units) (pe_ix ix_seq (pv 0) pe_int (fun _ _ => rfl)) (pv 1) (nomark _)) (pe_df Draised hr (by omega) (pa_cons (pv 2) (pa_cons (pv 1) pa_nil))) (pe_tupN (pa_cons pe_str (pa_cons (pe_op op_sub (pe_ix ix_seq (pv 0) pe_int (fun _ _ => rfl)) pe_int) pa_nil))))))), ?_⟩
    obtain ⟨p, xs, rfl, hp⟩ := dt_word hv
    refine ⟨?_⟩
    refine ⟨_, rfl, ixt (i := 0) hp rfl (eq_f rfl (by rw [word_w nb1 nb2 lf]) ⟨_, rfl, ?_⟩)⟩
    cases hb : u.isW "bound" with
    | false => exact iteT (iteT ⟨_, rfl, k _ H (Sx.refl hT) (by rw [gP_off hb]; exact hv)⟩)
    | true =>
      obtain ⟨i, rfl⟩ := isW_num hb
      obtain ⟨p', e, hp2⟩ := dt_num hv
      cases e
      refine iteF ⟨_, rfl, ixt (i := 1) hp2 rfl ⟨_, rfl, _, _, rfl, rfl, _, rfl, ite2 (fun hc => ?_) (fun hc => ?_)⟩⟩
      · refine ⟨_, rfl, k _ H (Sx.refl hT) ?_⟩
        have : gP val (.num "bound" i) m = .num "bound" i := if_neg fun z => by have := of_decide_eq_true hc; have := z.2; omega
        rw [this]; exact hv
      · have hc' : m ≤ i := by
          have : ¬ i < m := fun z => hc (decide_eq_true z)
          omega
        refine ⟨_, rfl, ixt (i := 1) hp2 rfl ⟨_, rfl, eq_f rfl rfl ⟨_, rfl, ite2 (fun he => ?_) (fun he => ?_)⟩⟩⟩
        · have e : i = m := by
            have : decide (V.int i = V.int m) = true := by simpa using he
            have := of_decide_eq_true this
            injection this
          have e2 : gP val (.num "bound" i) m = val.led (gR m) 0 := by
            show (if ("bound" : Str) = "bound" ∧ m ≤ i then (if i = m then val.led (gR m) 0 else .num "bound" (i - 1)) else .num "bound" i) = _
            rw [if_pos ⟨rfl, hc'⟩, if_pos e]
          refine ⟨_, rfl, _, rfl, vv, val, m, rfl, hvv, wfv, hdv, hT, fun v' H' e d => k v' H' e ?_⟩
          rw [e2]; exact d
        · have e : ¬ i = m := fun z => he (by rw [z]; simp)
          have e2 : gP val (.num "bound" i) m = .num "bound" (i - 1) := by
            show (if ("bound" : Str) = "bound" ∧ m ≤ i then (if i = m then val.led (gR m) 0 else .num "bound" (i - 1)) else .num "bound" i) = _
            rw [if_pos ⟨rfl, hc'⟩, if_neg e]
          refine ⟨_, rfl, ixt (i := 1) hp2 rfl ⟨_, _, rfl, rfl, tup_new (K := K) (ds := [.str "bound", .int (i - 1)]) (.cons (.str _) (.cons (.int _) .nil)) (by show 2 ≤ 1000; decide) fun v' H' e d => k v' H' (Sx.same hT e) ?_⟩⟩
          rw [e2]; exact d
theorem sc_put_in : FnScope ["body", "value", "put"] ["body", "value"] (defScope s_put_in) := ⟨rfl, rfl, rfl, by decide +kernel, rfl, by decide +kernel, by decide +kernel⟩
def spPut (T : List NTab) (K : PySem.W.Frag) (N M : Nat) : Sp := fun vs H Q _ => ∃ (v vv : V) (t val : Tm), vs = [v, vv] ∧ Dt K H v t.pd ∧ t.wf ∧ t.depth ≤ N ∧ Dt K H vv val.pd ∧ val.wf ∧ val.depth ≤ M ∧ TabsN T H ∧ ∀ v' H', Sx T H H' → Dt K H' v' (t.led (gP val) 0).pd → Q v' H'
theorem ok_put_in {f fl c Pt : Addr} {fd fdl : FuncData} {cdl : Value} (F : FunC K "put_in" "put_in" s_put_in f fd (.ref c)) (L : LedF K mg fl fdl cdl) (M : TabM T base mg c Pt "put_in.<locals>.put") (N M' : Nat) (Draised : Df P w K mg base "raised" (M' + 2) ["term", "by"] (spRaised T K M')) :
    FnOk P w K mg base CX0 (N + (M' + 3) + 1) f fd ["body", "value"] (spPut T K N M') := by
  refine (okZ F sc_put_in (fun vs H Q E h => ?_) (fun A outer s H vs Q E hr e0 _ h => ?_)).ok
  · obtain ⟨v, vv, t, val, rfl, _⟩ := h; rfl
  · obtain ⟨v, vv, t, val, rfl, hv, wf, hd, hvv, wfv, hdv, hT, k⟩ := h
    have nd := sc_put_in.nd
    have TB := M.tb
    have hT_m := M.mem
    have hT_u := M.only
    have hT_n : ∀ a b : Nat, nmO "put_in.<locals>.put" a b = (envOfC "put_in" (defScope s_put_in) s.heap.objs.size f (.ref c)).qual ++ "put" := fun _ _ => by
      show ("put_in.<locals>.put" : Str) = "put_in.<locals>." ++ "put"
      decide +kernel
    have m_led := L.m
    have b_led := L.b
    have k_led := L.F.kp
    let X := (cxOf CX0 P w K mg base ["body", "value", "put"] "put_in" (defScope s_put_in) f (.ref c) A outer s H E).nox
    let mk : Addr × Addr → Clo := fun i => ⟨NF.of s_put_in_put "put" (X.env.qual ++ "put") (cloFrom X.env.cells (C8.fnScope s_put_in_put).names []) i.2, i.1, fr_put_in_put, [some vv]⟩
    have D_led : ∀ i : Addr × Addr, FnZ (mk i).at P w K mg base (N + (M' + 3)) fl fdl ["term", "ahead", "work"] (spLed T K N (mk i) (spPutC T K M') (gP val)) := fun i => ok_led L.F L.m L.b (ok_putC Draised) N
    have hB : ndefB (defScope s_put_in) (C8.fnScope s_put_in_put) fr_put_in_put = true := by decide +kernel
    have Z_led : ∀ (i : Addr × Addr) pins σ H' s', Inv X pins σ H' s' → ((mk i).seen H' ∧ (σ[1]?).join = some vv) → (mk i).at s' H' := fun i pins σ H' s' I h => ⟨h.1, z_made hB rfl I h.2⟩
    refine ⟨_, (pss_cons (ps_ndefMS (st := s_put_in_put) (i := 2) rfl TB rfl hT_m (hT_n _ _) hT_u (ndef_free hB) rfl rfl rfl nd rfl (Or.inl rfl) (Or.inl rfl))
      (pss_one (ps_ret (pe_z D_led m_led k_led b_led Z_led hr (by omega) (pa_cons (pv 0) (pa_cons pe_int (pa_cons (pv 2) pa_nil))))))), ?_⟩
    refine ⟨hT, fun fa c' H1 eN nn T1 f0 f1 c1 => ?_⟩
    have x1 : Sx T H H1 := ⟨eN, nn, T1⟩
    refine ⟨_, rfl, _, rfl, (fa, c'), ⟨⟨f1, c1⟩, rfl⟩, v, t, 0, rfl, hv.sx x1, wf, hd, T1, fun u m v2 H2 Q2 l wfu e d2 kk => ?_, fun v' H' e d => k v' H' (x1.trans e) d⟩
    exact ⟨v2, vv, u, val, m, rfl, rfl, l, d2, (hvv.sx x1).sx e, wfv, hdv, e.tab, kk⟩
theorem sc_opened : FnScope ["body", "number"] ["body", "number"] (defScope s_opened) := ⟨rfl, rfl, rfl, by decide +kernel, rfl, by decide +kernel, by decide +kernel⟩
def spOpened (T : List NTab) (K : PySem.W.Frag) (N : Nat) : Sp := fun vs H Q _ => ∃ (v : V) (t : Tm) (n : Int), vs = [v, .int n] ∧ Dt K H v t.pd ∧ t.wf ∧ t.depth ≤ N ∧ 0 ≤ n ∧ TabsN T H ∧ ∀ v' H', Sx T H H' → Dt K H' v' (t.led (gP (.num "local" n)) 0).pd → Q v' H'
theorem ok_opened {f : Addr} {fd : FuncData} {N M k : Nat} (F : Fun K "opened" "opened" s_opened f fd) (hM : 1 ≤ M) (Dput_in : Df P w K mg base "put_in" k ["body", "value"] (spPut T K N M)) : FnOk P w K mg base CX0 (k + 1) f fd ["body", "number"] (spOpened T K N) := by
  refine F.ok sc_opened (fun vs H Q E h => ?_) (fun cdv A outer s H vs Q E hr h => ?_)
  · obtain ⟨v, t, n, rfl, _⟩ := h; rfl
  · obtain ⟨v, t, n, rfl, hv, wf, hd, hn, hT, kk⟩ := h
    refine ⟨_, (pss_one (ps_ret (pe_df Dput_in hr (by omega) (pa_cons (pv 0) (pa_cons (pe_tupN (pa_cons pe_str (pa_cons (pv 1) pa_nil))) pa_nil))))), ?_⟩
    refine ⟨_, rfl, _, rfl, tup_new (K := K) (ds := [.str "local", .int n]) (.cons (.str _) (.cons (.int _) .nil)) (by show 2 ≤ 1000; decide) fun v1 H1 e1 d1 => ?_⟩
    have x1 := Sx.same hT e1
    exact ⟨v, v1, t, .num "local" n, rfl, hv.same e1, wf, hd, d1, .inr ⟨.inl rfl, hn⟩, hM, x1.tab, fun v' H' e d => kk v' H' (x1.trans e) d⟩
/-! ### bound_to -/
def Tm.isLN (k : Int) : Tm → Bool
  | .num w i => decide (w = "local") && decide (i = k)
  | _ => false
theorem num_pd_eq (u : Tm) (lf : u.isLeaf = true) (k : Int) : PyData.eqv u.pd (.tuple [.str "local", .int k]) = u.isLN k := by
  cases u with
  | num w i =>
    show PyData.eqv (.tuple [.str w, .int i]) (.tuple [.str "local", .int k]) = _
    simp only [PyData.eqv, PyData.eqvAll, Bool.and_true, Tm.isLN]
    congr 1
  | name x =>
    show PyData.eqv (.tuple [.str "name", .str x]) (.tuple [.str "local", .int k]) = _
    simp only [PyData.eqv, PyData.eqvAll, Bool.and_false, Bool.false_and, Tm.isLN]
  | count x i =>
    show PyData.eqv (.tuple [.str "count", .str x, .int i]) (.tuple [.str "local", .int k]) = _
    simp only [PyData.eqv, PyData.eqvAll, Bool.and_false, Bool.false_and, Tm.isLN]
  | _ => cases lf
theorem gB_T {k m : Int} {u : Tm} (h : u.isLN k = true) : gB k u m = .num "bound" m := by
  cases u with
  | num w i =>
    rw [Tm.isLN, Bool.and_eq_true, decide_eq_true_eq, decide_eq_true_eq] at h
    exact if_pos h
  | _ => cases h
theorem gB_F {k m : Int} {u : Tm} (h : u.isLN k = false) : gB k u m = gR 1 u m := by
  cases u with
  | num w i =>
    refine if_neg fun z => ?_
    rw [Tm.isLN, decide_eq_true z.1, decide_eq_true z.2] at h; cases h
  | _ => rfl
theorem shp_leaf {u : Tm} (wf : u.wf) (lf : u.isLeaf = true) : SeqAt.shaped u.pd = true := by
  have go : ∀ (w : Str) (d : PyData), PyData.strOk w = true → d.canLay0 = true → d.depth = 0 → SeqAt.shaped (.tuple [.str w, d]) = true := fun w d h1 h2 h3 => by
    unfold SeqAt.shaped
    simp only [PyData.canLay0, PyData.canLayAll0, PyData.depth, PyData.depthAll, h1, h2, h3]
    decide
  cases u with
  | num w i =>
    refine go w (.int i) ?_ rfl rfl
    rcases wf with ⟨rfl, _⟩ | ⟨rfl | rfl | rfl, _⟩ <;> decide +kernel
  | name x => exact go _ (.str x) (by decide +kernel) (name_ok wf).1 rfl
  | count x i =>
    obtain ⟨rfl, _⟩ := wf
    show SeqAt.shaped (.tuple [.str "count", .str "Num", .int i]) = true
    have h1 : PyData.strOk "count" = true := by decide +kernel
    have h2 : PyData.strOk "Num" = true := by decide +kernel
    unfold SeqAt.shaped
    simp only [PyData.canLay0, PyData.canLayAll0, PyData.depth, PyData.depthAll, h1, h2]
    rfl
  | _ => cases lf
def spBindC (T : List NTab) (K : PySem.W.Frag) (ws : List (Option V)) : Sp := fun vs H Q _ => ∃ (v : V) (u : Tm) (m n : Int), ws = [some (.int n)] ∧ vs = [v, .int m] ∧ u.isLeaf = true ∧ u.wf ∧ 0 ≤ n ∧ Dt K H v u.pd ∧ TabsN T H ∧ ∀ v' H', Sx T H H' → Dt K H' v' (gB n u m).pd → Q v' H'
theorem ok_bindC {q : Str} {cl : List (Str × Addr)} {c' fa : Addr} : NOk P w K mg base CX0 1 fa (NF.of s_bound_to_bind "bind" q cl c') ["leaf", "ahead"] fr_bound_to_bind (spBindC T K) := by
  have S : NScope ["leaf", "ahead", "number"] ["leaf", "ahead"] fr_bound_to_bind (C8.fnScope s_bound_to_bind) := nscope_by (by decide +kernel)
  refine nok_of S (fun doc pm ctv us hl => match us, hl with | [_, _], _ => rfl) (fun ws vs H Q E h => ?_) (fun A outer s H vs ws Q E hr hf hc hw h => ?_)
  · obtain ⟨v, u, m, n, _, rfl, _⟩ := h; rfl
  · obtain ⟨v, u, m, n, rfl, rfl, lf, wf, hn, hv, hT, k⟩ := h
    refine ⟨_, (pss_cons (ps_if (pt_cmpR (uEq hr.units) (pv 0) (pe_tupN (pa_cons pe_str (pa_cons (pv 2) pa_nil))) (nomark _))
        (pss_one (ps_ret (pe_tupN (pa_cons pe_str (pa_cons (pv 1) pa_nil)))))
        pss_nil)
      (pss_one (ps_ret (pe_ifExp (pt_w (PW.pt (pw_and (pt_cmpR (uEq hr.units) (pe_ix ix_seq (pv 0) pe_int (fun _ _ => rfl)) pe_str (nomark _)) (pw_and1 (pt_cmpR op_ge (pe_ix ix_seq (pv 0) pe_int (fun _ _ => rfl)) (pv 1) (nomark _)))))) (pe_tupN (pa_cons pe_str (pa_cons (pe_op uAdd (pe_ix ix_seq (pv 0) pe_int (fun _ _ => rfl)) pe_int) pa_nil))) (pv 0))))), ?_⟩
    refine ⟨_, rfl, _, rfl, tup_new (K := K) (ds := [.str "local", .int n]) (.cons (.str _) (.cons (.int _) .nil)) (by show 2 ≤ 1000; decide) fun v1 H1 e1 d1 => ?_⟩
    have hv1 := hv.same e1
    have x1 := Sx.same hT e1
    refine eq_d (Dt.dp _ hv1) (Dt.dp _ d1) (shp_leaf wf lf) (shp_leaf (u := .num "local" n) (.inr ⟨.inl rfl, hn⟩) rfl) (by rw [num_pd_eq u lf n]) ⟨_, rfl, ?_⟩
    obtain ⟨p, xs, rfl, hp⟩ := dt_word hv1
    cases hb : u.isLN n with
    | true =>
      refine iteT ⟨_, rfl, tup_new (K := K) (ds := [.str "bound", .int m]) (.cons (.str _) (.cons (.int _) .nil)) (by show 2 ≤ 1000; decide) fun v' H' e d => k v' H' (x1.trans (Sx.same x1.tab e)) ?_⟩
      rw [gB_T hb]; exact d
    | false =>
      rw [gB_F hb] at k
      refine iteF ⟨?_⟩
      refine ⟨_, rfl, ixt (i := 0) hp rfl (eq_f rfl (by rw [word_w nb1 nb2 lf]) ⟨_, rfl, ?_⟩)⟩
      cases hb : u.isW "bound" with
      | false => exact iteF (iteF ⟨_, rfl, k _ H1 x1 (by rw [gR_off hb]; exact hv1)⟩)
      | true =>
        obtain ⟨i, rfl⟩ := isW_num hb
        obtain ⟨p', e, hp2⟩ := dt_num hv1
        cases e
        refine iteT ⟨_, rfl, ixt (i := 1) hp2 rfl ⟨_, rfl, _, _, rfl, rfl, _, rfl, ite2 (fun hc => ?_) (fun hc => ?_)⟩⟩
        · refine ⟨_, rfl, ixt (i := 1) hp2 rfl (add_i (tup_new (K := K) (ds := [.str "bound", .int (i + 1)]) (.cons (.str _) (.cons (.int _) .nil)) (by show 2 ≤ 1000; decide) fun v' H' e d => k v' H' (x1.trans (Sx.same x1.tab e)) ?_))⟩
          have : gR 1 (.num "bound" i) m = .num "bound" (i + 1) := if_pos ⟨rfl, of_decide_eq_true hc⟩
          rw [this]; exact d
        · refine ⟨_, rfl, k _ H1 x1 ?_⟩
          have : gR 1 (.num "bound" i) m = .num "bound" i := if_neg fun z => hc (decide_eq_true z.2)
          rw [this]; exact hv1
theorem sc_bound_to : FnScope ["term", "number", "bind"] ["term", "number"] (defScope s_bound_to) := ⟨rfl, rfl, rfl, by decide +kernel, rfl, by decide +kernel, by decide +kernel⟩
def spBound (T : List NTab) (K : PySem.W.Frag) (N : Nat) : Sp := fun vs H Q _ => ∃ (v : V) (t : Tm) (n : Int), vs = [v, .int n] ∧ Dt K H v t.pd ∧ t.wf ∧ t.depth ≤ N ∧ 0 ≤ n ∧ TabsN T H ∧ ∀ v' H', Sx T H H' → Dt K H' v' (t.led (gB n) 0).pd → Q v' H'
theorem ok_bound_to {f fl c Pt : Addr} {fd fdl : FuncData} {cdl : Value} (F : FunC K "bound_to" "bound_to" s_bound_to f fd (.ref c)) (L : LedF K mg fl fdl cdl) (M : TabM T base mg c Pt "bound_to.<locals>.bind") (N : Nat) :
    FnOk P w K mg base CX0 (N + 2) f fd ["term", "number"] (spBound T K N) := by
  refine (okZ F sc_bound_to (fun vs H Q E h => ?_) (fun A outer s H vs Q E hr e0 _ h => ?_)).ok
  · obtain ⟨v, t, n, rfl, _⟩ := h; rfl
  · obtain ⟨v, t, n, rfl, hv, wf, hd, hn, hT, k⟩ := h
    have nd := sc_bound_to.nd
    have TB := M.tb
    have hT_m := M.mem
    have hT_u := M.only
    have hT_n : ∀ a b : Nat, nmO "bound_to.<locals>.bind" a b = (envOfC "bound_to" (defScope s_bound_to) s.heap.objs.size f (.ref c)).qual ++ "bind" := fun _ _ => by
      show ("bound_to.<locals>.bind" : Str) = "bound_to.<locals>." ++ "bind"
      decide +kernel
    have m_led := L.m
    have b_led := L.b
    have k_led := L.F.kp
    let X := (cxOf CX0 P w K mg base ["term", "number", "bind"] "bound_to" (defScope s_bound_to) f (.ref c) A outer s H E).nox
    let mk : Addr × Addr → Clo := fun i => ⟨NF.of s_bound_to_bind "bind" (X.env.qual ++ "bind") (cloFrom X.env.cells (C8.fnScope s_bound_to_bind).names []) i.2, i.1, fr_bound_to_bind, [some (.int n)]⟩
    have D_led : ∀ i : Addr × Addr, FnZ (mk i).at P w K mg base (N + 1) fl fdl ["term", "ahead", "work"] (spLed T K N (mk i) (spBindC T K) (gB n)) := fun i => ok_led L.F L.m L.b ok_bindC N
    have hB : ndefB (defScope s_bound_to) (C8.fnScope s_bound_to_bind) fr_bound_to_bind = true := by decide +kernel
    have Z_led : ∀ (i : Addr × Addr) pins σ H' s', Inv X pins σ H' s' → ((mk i).seen H' ∧ (σ[1]?).join = some (.int n)) → (mk i).at s' H' := fun i pins σ H' s' I h => ⟨h.1, z_made hB rfl I h.2⟩
    refine ⟨_, (pss_cons (ps_ndefMS (st := s_bound_to_bind) (i := 2) rfl TB rfl hT_m (hT_n _ _) hT_u (ndef_free hB) rfl rfl rfl nd rfl (Or.inl rfl) (Or.inl rfl))
      (pss_one (ps_ret (pe_z D_led m_led k_led b_led Z_led hr (by omega) (pa_cons (pv 0) (pa_cons pe_int (pa_cons (pv 2) pa_nil))))))), ?_⟩
    refine ⟨hT, fun fa c' H1 eN nn T1 f0 f1 c1 => ?_⟩
    have x1 : Sx T H H1 := ⟨eN, nn, T1⟩
    refine ⟨_, rfl, _, rfl, (fa, c'), ⟨⟨f1, c1⟩, rfl⟩, v, t, 0, rfl, hv.sx x1, wf, hd, T1, fun u m v2 H2 Q2 l wfu e d2 kk => ?_, fun v' H' e d => k v' H' (x1.trans e) d⟩
    exact ⟨v2, u, m, n, rfl, rfl, l, wfu, hn, d2, e.tab, kk⟩
/-! ### exchanged -/
def spExC (T : List NTab) (K : PySem.W.Frag) (M : Nat) (ws : List (Option V)) : Sp := fun vs H Q _ => ∃ (v vv : V) (u : Tm) (vals : List Tm) (m : Int), ws = [some vv] ∧ vs = [v, .int m] ∧ u.isLeaf = true ∧ u.wf ∧ Dt K H v u.pd ∧ Dt K H vv (.tuple (vals.map Tm.pd)) ∧ (∀ a ∈ vals, a.wf ∧ a.depth ≤ M) ∧ TabsN T H ∧ ∀ v' H', Sx T H H' → Dt K H' v' (gX vals u m).pd → Q v' H'
theorem ok_exC {q : Str} {cl : List (Str × Addr)} {c' fa : Addr} {M : Nat} (n_len : mg "len" = none) (Draised : Df P w K mg base "raised" (M + 2) ["term", "by"] (spRaised T K M)) : NOk P w K mg base CX0 (M + 3) fa (NF.of s_exchanged_put "put" q cl c') ["leaf", "ahead"] fr_exchanged_put (spExC T K M) := by
  have S : NScope ["leaf", "ahead", "values"] ["leaf", "ahead"] fr_exchanged_put (C8.fnScope s_exchanged_put) := nscope_by (by decide +kernel)
  refine nok_of S (fun doc pm ctv us hl => match us, hl with | [_, _], _ => rfl) (fun ws vs H Q E h => ?_) (fun A outer s H vs ws Q E hr hf hc hw h => ?_)
  · obtain ⟨v, vv, u, vals, m, _, rfl, _⟩ := h; rfl
  · obtain ⟨v, vv, u, vals, m, rfl, rfl, lf, wf, hv, hvv, hva, hT, k⟩ := h
    refine ⟨_, (pss_one (ps_ret (pe_ifExp (pt_w (PW.pt (pw_and (pt_cmpR (uEq hr.units) (pe_ix ix_seq (pv 0) pe_int (fun _ _ => rfl)) pe_str (nomark _)) (pw_and1 (pt_cmpR op_lt (pe_ix ix_seq (pv 0) pe_int (fun _ _ => rfl)) (pe_callB uLen (by rfl) n_len (by decide +kernel) (pa_cons (pv 2) pa_nil)) (nomark _)))))) (pe_df Draised hr (by omega) (pa_cons (pe_ix ix_seq (pv 2) (pe_ix ix_seq (pv 0) pe_int (fun _ _ => rfl)) (fun _ _ => rfl)) (pa_cons (pv 1) pa_nil))) (pv 0)))), ?_⟩
    obtain ⟨p, xs, rfl, hp⟩ := dt_word hv
    obtain ⟨q, ys, rfl, hq, dq⟩ := Dt.tupI hvv
    have ly : ys.length = vals.length := by rw [dq.length, List.length_map]
    refine ⟨?_⟩
    refine ⟨_, rfl, ixt (i := 0) hp rfl (eq_f rfl (by rw [word_w nl1 nl2 lf]) ⟨_, rfl, ?_⟩)⟩
    cases hb : u.isW "local" with
    | false => exact iteF (iteF ⟨_, rfl, k _ H (Sx.refl hT) (by rw [gX_off hb]; exact hv)⟩)
    | true =>
      obtain ⟨i, rfl⟩ := isW_num hb
      obtain ⟨p', e, hp2⟩ := dt_num hv
      cases e
      have i0 : 0 ≤ i := by
        rcases wf with ⟨_, h, _⟩ | ⟨_, h⟩ <;> exact h
      refine iteT ⟨_, rfl, ixt (i := 1) hp2 rfl ⟨_, rfl, _, ys.length, rfl, .inr ⟨ys, hq, rfl⟩, _, _, rfl, rfl, _, rfl, ite2 (fun hc => ?_) (fun hc => ?_)⟩⟩
      · have hc' : i < (vals.length : Int) := by rw [← ly]; exact of_decide_eq_true hc
        obtain ⟨j, rfl⟩ : ∃ j : Nat, i = j := ⟨i.toNat, by omega⟩
        have hj : j < vals.length := by omega
        obtain ⟨yv, hy, dy⟩ := dq.get' (i := j) (d := (vals[j]).pd) (by rw [List.getElem?_map, List.getElem?_eq_getElem hj]; rfl)
        have hm := hva _ (List.getElem_mem hj)
        refine ⟨_, rfl, _, rfl, ixt (i := 1) hp2 rfl (ixt (i := j) hq hy ⟨_, rfl, yv, vals[j], m, rfl, dy, hm.1, hm.2, hT, fun v' H' e d => k v' H' e ?_⟩)⟩
        have e2 : gX vals (.num "local" (j : Int)) m = (vals[j]).led (gR m) 0 := by
          show (if ("local" : Str) = "local" ∧ (j : Int) < vals.length then (vals.getD (j : Int).toNat (.name "f")).led (gR m) 0 else .num "local" j) = _
          rw [if_pos ⟨rfl, hc'⟩, Int.toNat_natCast, List.getD_eq_getElem?_getD, List.getElem?_eq_getElem hj]
          rfl
        rw [e2]; exact d
      · refine ⟨_, rfl, k _ H (Sx.refl hT) ?_⟩
        have : gX vals (.num "local" i) m = .num "local" i := if_neg fun z => hc (decide_eq_true (by rw [ly]; exact z.2))
        rw [this]; exact hv
theorem sc_exchanged : FnScope ["term", "values", "put"] ["term", "values"] (defScope s_exchanged) := ⟨rfl, rfl, rfl, by decide +kernel, rfl, by decide +kernel, by decide +kernel⟩
def spEx (T : List NTab) (K : PySem.W.Frag) (N M : Nat) : Sp := fun vs H Q _ => ∃ (v vv : V) (t : Tm) (vals : List Tm), vs = [v, vv] ∧ Dt K H v t.pd ∧ t.wf ∧ t.depth ≤ N ∧ Dt K H vv (.tuple (vals.map Tm.pd)) ∧ (∀ a ∈ vals, a.wf ∧ a.depth ≤ M) ∧ TabsN T H ∧ ∀ v' H', Sx T H H' → Dt K H' v' (t.led (gX vals) 0).pd → Q v' H'
theorem ok_exchanged {f fl c Pt : Addr} {fd fdl : FuncData} {cdl : Value} (F : FunC K "exchanged" "exchanged" s_exchanged f fd (.ref c)) (L : LedF K mg fl fdl cdl) (M : TabM T base mg c Pt "exchanged.<locals>.put") (N M' : Nat) (n_len : mg "len" = none) (Draised : Df P w K mg base "raised" (M' + 2) ["term", "by"] (spRaised T K M')) :
    FnOk P w K mg base CX0 (N + (M' + 3) + 1) f fd ["term", "values"] (spEx T K N M') := by
  refine (okZ F sc_exchanged (fun vs H Q E h => ?_) (fun A outer s H vs Q E hr e0 _ h => ?_)).ok
  · obtain ⟨v, vv, t, val, rfl, _⟩ := h; rfl
  · obtain ⟨v, vv, t, vals, rfl, hv, wf, hd, hvv, hva, hT, k⟩ := h
    have nd := sc_exchanged.nd
    have TB := M.tb
    have hT_m := M.mem
    have hT_u := M.only
    have hT_n : ∀ a b : Nat, nmO "exchanged.<locals>.put" a b = (envOfC "exchanged" (defScope s_exchanged) s.heap.objs.size f (.ref c)).qual ++ "put" := fun _ _ => by
      show ("exchanged.<locals>.put" : Str) = "exchanged.<locals>." ++ "put"
      decide +kernel
    have m_led := L.m
    have b_led := L.b
    have k_led := L.F.kp
    let X := (cxOf CX0 P w K mg base ["term", "values", "put"] "exchanged" (defScope s_exchanged) f (.ref c) A outer s H E).nox
    let mk : Addr × Addr → Clo := fun i => ⟨NF.of s_exchanged_put "put" (X.env.qual ++ "put") (cloFrom X.env.cells (C8.fnScope s_exchanged_put).names []) i.2, i.1, fr_exchanged_put, [some vv]⟩
    have D_led : ∀ i : Addr × Addr, FnZ (mk i).at P w K mg base (N + (M' + 3)) fl fdl ["term", "ahead", "work"] (spLed T K N (mk i) (spExC T K M') (gX vals)) := fun i => ok_led L.F L.m L.b (ok_exC n_len Draised) N
    have hB : ndefB (defScope s_exchanged) (C8.fnScope s_exchanged_put) fr_exchanged_put = true := by decide +kernel
    have Z_led : ∀ (i : Addr × Addr) pins σ H' s', Inv X pins σ H' s' → ((mk i).seen H' ∧ (σ[1]?).join = some vv) → (mk i).at s' H' := fun i pins σ H' s' I h => ⟨h.1, z_made hB rfl I h.2⟩
    refine ⟨_, (pss_cons (ps_ndefMS (st := s_exchanged_put) (i := 2) rfl TB rfl hT_m (hT_n _ _) hT_u (ndef_free hB) rfl rfl rfl nd rfl (Or.inl rfl) (Or.inl rfl))
      (pss_one (ps_ret (pe_z D_led m_led k_led b_led Z_led hr (by omega) (pa_cons (pv 0) (pa_cons pe_int (pa_cons (pv 2) pa_nil))))))), ?_⟩
    refine ⟨hT, fun fa c' H1 eN nn T1 f0 f1 c1 => ?_⟩
    have x1 : Sx T H H1 := ⟨eN, nn, T1⟩
    refine ⟨_, rfl, _, rfl, (fa, c'), ⟨⟨f1, c1⟩, rfl⟩, v, t, 0, rfl, hv.sx x1, wf, hd, T1, fun u m v2 H2 Q2 l wfu e d2 kk => ?_, fun v' H' e d => k v' H' (x1.trans e) d⟩
    exact ⟨v2, vv, u, vals, m, rfl, rfl, l, wfu, d2, (hvv.sx x1).sx e, hva, e.tab, kk⟩
end
end RS

/-! With: the law's own putting back of leaves; its own raised, put, bound, exchanged, under, told. -/
namespace RS
open PySem PySem.Spec PyProof.Rows L2

theorem if_so {A B : Prop} {b : Bool} (h : b = true) (a : A) : if b = true then A else B := by rw [if_pos h]; exact a
theorem if_not {A B : Prop} {b : Bool} (h : b = false) (a : B) : if b = true then A else B := by rw [h]; exact iteF a
/-- all but l stays -/
def Mu (l : Addr) (H H' : Hp) : Prop := ∀ b o, b ≠ l → H b = some o → H' b = some o
theorem Mu.trans {l : Addr} {H H1 H2 : Hp} (a : Mu l H H1) (b : Mu l H1 H2) : Mu l H H2 := fun c o n h => b c o n (a c o n h)
theorem Mu.same {l : Addr} {H H' : Hp} (e : Same H H') : Mu l H H' := fun b o _ h => e b o h
theorem Mu.tk {K : PySem.W.Frag} {l : Addr} {xs : List V} {H H' : Hp} (m : Mu l H H') (h : H l = some (.lst xs)) : TK K H H' :=
  TK.of (fun a ys e => m a _ (ne_of e h (by intro z; cases z)) e) fun a o u e => m a _ (ne_of e h (by intro z; cases z)) e
def toldL (g : Tm → Int → Tm) (ps : List (Tm × Int)) : List Tm := ps.map fun p => g p.1 p.2
theorem toldL_app (g : Tm → Int → Tm) (a b : List (Tm × Int)) : toldL g (a ++ b) = toldL g a ++ toldL g b := List.map_append
def spWith (K : PySem.W.Frag) (N : Nat) : Sp := fun vs H Q _ => ∃ (v : V) (t : Tm) (l : Addr) (xs : List V) (g : Tm → Int → Tm) (n : Int) (rest : List Tm), vs = [v, .ref l] ∧ Dt K H v t.pd ∧ t.wf ∧ t.depth ≤ N ∧ H l = some (.lst xs) ∧
  DtAll K H xs ((toldL g (t.leaves n) ++ rest).map Tm.pd) ∧ ∀ v' H' xs', Mu l H H' → H' l = some (.lst xs') → DtAll K H' xs' (rest.map Tm.pd) → Dt K H' v' (t.led g n).pd → Q v' H'
section
variable {P : Program} {w : World} {K : PySem.W.Frag} {mg : Str → Option Value} {base : Heap}
theorem sc_law_rt_with : FnScope ["term", "leaves", "first", "second"] ["term", "leaves"] (defScope s_law_rt_with) := ⟨rfl, rfl, rfl, by decide +kernel, rfl, by decide +kernel, by decide +kernel⟩
theorem ok_with {f : Addr} {fd : FuncData} (F : Fun K "_law_rt_with" "_law_rt_with" s_law_rt_with f fd) (hm : mg "_law_rt_with" = some (.ref f)) (b : Binds K fd ["term", "leaves"] [])
    (D_law_rt_parts : Df P w K mg base "_law_rt_parts" 1 ["term"] (spParts K)) : ∀ N, FnOk P w K mg base CX0 (N + 1) f fd ["term", "leaves"] (spWith K N)
  | 0 => by
    refine ⟨fun vs H Q E h => ?_, fun A outer s H args us vs Q E _ _ _ _ h => ?_⟩
    · obtain ⟨v, t, l, xs, g, n, rest, rfl, _⟩ := h; rfl
    · obtain ⟨v, t, l, xs, g, n, rest, _, _, _, h1, _⟩ := h
      have := t.depth_pos
      omega
  | N + 1 => by
    have D_law_rt_with : Df P w K mg base "_law_rt_with" (N + 1) ["term", "leaves"] (spWith K N) := ⟨f, fd, ok_with F hm b D_law_rt_parts N, hm, F.kp, b⟩
    refine F.ok sc_law_rt_with (fun vs H Q E h => ?_) (fun cdv A outer s H vs Q E hr h => ?_)
    · obtain ⟨v, t, l, xs, g, n, rest, rfl, _⟩ := h; rfl
    · obtain ⟨v, t, l, xs, g, n, rest, rfl, hv, wf, hd, hl, dx, k⟩ := h
      have nd := sc_law_rt_with.nd
      refine ⟨_, (pss_cons (ps_if (pt_cmpR (uEq hr.units) (pe_df D_law_rt_parts hr (by omega) (pa_cons (pv 0) pa_nil)) (pe_lstN pa_nil) (nomark _))
        (pss_one (ps_ret (pe_bm PySem.F.plainAttrs_list PySem.F.slot_list_pop PySem.F.type_list_pop mt_popAt (pv 1) (pa_cons pe_int pa_nil))))
        pss_nil)
      (pss_cons (ps_if (pt_cmpR uIn (pe_ix ix_seq (pv 0) pe_int (fun _ _ => rfl)) (pe_tupN (pa_cons pe_str (pa_cons pe_str pa_nil))) (by rfl))
        (pss_cons (ps_set (i := 2) nd rfl (Or.inl rfl) (pe_df D_law_rt_with hr (by omega) (pa_cons (pe_ix ix_seq (pv 0) pe_int (fun _ _ => rfl)) (pa_cons (pv 1) pa_nil))))
        (pss_one (ps_ret (pe_tupN (pa_cons (pe_ix ix_seq (pv 0) pe_int (fun _ _ => rfl)) (pa_cons (pe_ix ix_seq (pv 0) pe_int (fun _ _ => rfl)) (pa_cons (pv 2) (pa_cons (pe_df D_law_rt_with hr (by omega) (pa_cons (pe_ix ix_seq (pv 0) pe_int (fun _ _ => rfl)) (pa_cons (pv 1) pa_nil))) pa_nil))))))))
        pss_nil)
      (pss_cons (ps_set (i := 2) nd rfl (Or.inl rfl) (pe_df D_law_rt_with hr (by omega) (pa_cons (pe_ix ix_seq (pv 0) pe_int (fun _ _ => rfl)) (pa_cons (pv 1) pa_nil))))
      (pss_cons (ps_if (pt_cmpR (uEq hr.units) (pe_ix ix_seq (pv 0) pe_int (fun _ _ => rfl)) pe_str (nomark _))
        (pss_one (ps_ret (pe_tupN (pa_cons pe_str (pa_cons (pv 2) (pa_cons (pe_ix ix_seq (pv 0) pe_int (fun _ _ => rfl)) (pa_cons (pe_df D_law_rt_with hr (by omega) (pa_cons (pe_ix ix_seq (pv 0) pe_int (fun _ _ => rfl)) (pa_cons (pv 1) pa_nil))) pa_nil)))))))
        pss_nil)
      (pss_cons (ps_set (i := 3) nd rfl (Or.inl rfl) (pe_df D_law_rt_with hr (by omega) (pa_cons (pe_ix ix_seq (pv 0) pe_int (fun _ _ => rfl)) (pa_cons (pv 1) pa_nil))))
      (pss_one (ps_ret (pe_tupN (pa_cons pe_str (pa_cons (pv 2) (pa_cons (pv 3) (pa_cons (pe_df D_law_rt_with hr (by omega) (pa_cons (pe_ix ix_seq (pv 0) pe_int (fun _ _ => rfl)) (pa_cons (pv 1) pa_nil))) pa_nil)))))))))))), ?_⟩
      obtain ⟨p, ws, rfl, hT0⟩ := dt_word hv
      have h1 := wf_pf wf
      have h3 := wf_app wf
      refine ⟨_, rfl, .ref p, t, rfl, hv, wf, fun lp ps H1 e1 nlp hlp dps => lst_new (Nat.zero_le _) fun q nq => eq_n (SqL.of ((upd_ne (ne_of_none hlp nq)).trans hlp)) (SqL.of upd_same) rfl ⟨_, rfl, ?_⟩⟩
      have e0 := same2 (o := .lst []) e1 nq
      have hl0 := e0 _ _ hl
      have dx0 := DtAll.keep (K := K) (TK.same e0) _ dx
      have hT1 := sqs hT0 e0
      have hv0 := hv.same e0
      generalize upd H1 q (.lst []) = H0 at e0 hl0 dx0 hT1 hv0
      have leafy : t.isLeaf = true → t.leaves n = [(t, n)] → t.led g n = g t n → ps = [] → tSeq (tRet (tBM K "list" rPopAt (tVar 1) (tCons (tC (.int 0)) tNil))) tNext { nx := fun _ H' => Q .non H', rt := Q } [some (.ref p), some (.ref l), none, none] H0 := fun lf el eg _ => by
        rw [el] at dx0
        obtain ⟨y, ys, rfl, dy, dys⟩ := dx0.consI
        refine ⟨_, rfl, .inl ⟨rfl, _, .inl (.inl hl0)⟩, l, _, 0, 0, y, rfl, rfl, hl0, by decide, by decide, by simp [seqIndex?], rfl, ?_⟩
        have m : Mu l H (upd H0 l (.lst ((y :: ys).eraseIdx 0))) := fun b o n h => by rw [upd_ne n]; exact e0 _ _ h
        exact k y _ ys m upd_same (DtAll.keep (TK.lst hl0) _ dys) (by rw [eg]; exact Dt.keep (TK.lst hl0) _ dy)
      cases t with
      | bin w m a b =>
        obtain ⟨p', va, vb, e, hB, ha, hb⟩ := dt_bin hv0
        cases e
        have h1' : ((("pi" : Str) == w) || (("fun" : Str) == w)) = true := h1
        have dm : max a.depth b.depth ≤ N := by simp only [Tm.depth] at hd; omega
        have hne : ps.isEmpty = false := by
          obtain ⟨y, ys, rfl, _⟩ := (show DtAll K H1 ps (pdP (a, 0) :: [pdP (b, 1)]) from dps).consI
          rfl
        refine if_not (by rw [hne]; rfl) ?_
        have ed : (toldL g ((Tm.bin w m a b).leaves n) ++ rest) = toldL g (a.leaves n) ++ (toldL g (b.leaves (n + 1)) ++ rest) := by rw [Tm.leaves, toldL_app, List.append_assoc]
        rw [ed] at dx0
        refine ⟨_, rfl, ixt (i := 0) hB rfl (tup_at (by show 2 ≤ 1000; decide) fun q2 nq2 => in_t (SqT.of upd_same) rfl rfl (by rw [in2, h1'] <;> rfl) ⟨_, rfl, iteT ?_⟩)⟩
        have e2 := same_new (o := .tup [.str "pi", .str "fun"]) nq2
        refine ⟨_, rfl, ixt (i := 2) (sqs hB e2) rfl ⟨_, rfl, va, a, l, xs, g, n, _, rfl, ha.same e2, wf.2.2.1, by omega, e2 _ _ hl0, DtAll.keep (TK.same e2) _ dx0, fun v1 H3 xs1 m3 hl3 dx3 d1 => ?_⟩⟩
        have hB2 := sqs hB e2
        have t3 : TK K (upd H0 q2 (.tup [.str "pi", .str "fun"])) H3 := m3.tk (e2 _ _ hl0)
        refine ⟨_, rfl, ixt (i := 0) (t3 _ _ hB2) rfl ⟨_, rfl, ixt (i := 1) (t3 _ _ hB2) rfl ⟨_, rfl, _, rfl, ixt (i := 3) (t3 _ _ hB2) rfl ⟨_, rfl, vb, b, l, xs1, g, n + 1, rest, rfl, Dt.keep t3 _ (hb.same e2), wf.2.2.2, by omega, hl3, dx3, fun v2 H4 xs2 m4 hl4 dx4 d2 => ?_⟩⟩⟩⟩
        refine tup_new (K := K) (ds := [.str w, .str m, (a.led g n).pd, (b.led g (n + 1)).pd]) (.cons (.str _) (.cons (.str _) (.cons (Dt.keep (m4.tk hl3) _ d1) (.cons d2 .nil)))) (by show 4 ≤ 1000; decide) fun v3 H5 e5 d3 => ?_
        exact k v3 H5 xs2 ((Mu.same (e0.trans e2)).trans (m3.trans (m4.trans (Mu.same e5)))) (e5 _ _ hl4) (DtAll.keep (TK.same e5) _ dx4) d3
      | letT a b c =>
        obtain ⟨p', va, vb, vc, e, hB, ha, hb, hc⟩ := dt_let hv0
        cases e
        have h1' : ((("pi" : Str) == ("let" : Str)) || (("fun" : Str) == ("let" : Str))) = false := h1
        have dm : max a.depth (max b.depth c.depth) ≤ N := by simp only [Tm.depth] at hd; omega
        have hne : ps.isEmpty = false := by
          obtain ⟨y, ys, rfl, _⟩ := (show DtAll K H1 ps (pdP (a, 0) :: [pdP (b, 0), pdP (c, 1)]) from dps).consI
          rfl
        refine if_not (by rw [hne]; rfl) ?_
        have ed : (toldL g ((Tm.letT a b c).leaves n) ++ rest) = toldL g (a.leaves n) ++ (toldL g (b.leaves n) ++ (toldL g (c.leaves (n + 1)) ++ rest)) := by rw [Tm.leaves, toldL_app, toldL_app, List.append_assoc, List.append_assoc]
        rw [ed] at dx0
        refine ⟨_, rfl, ixt (i := 0) hB rfl (tup_at (by show 2 ≤ 1000; decide) fun q2 nq2 => in_t (SqT.of upd_same) rfl rfl (by rw [in2, h1'] <;> rfl) ⟨_, rfl, iteF ?_⟩)⟩
        have e2 := same_new (o := .tup [.str "pi", .str "fun"]) nq2
        have hB2 := sqs hB e2
        refine ⟨_, rfl, ixt (i := 1) hB2 rfl ⟨_, rfl, va, a, l, xs, g, n, _, rfl, ha.same e2, wf.1, by omega, e2 _ _ hl0, DtAll.keep (TK.same e2) _ dx0, fun v1 H3 xs1 m3 hl3 dx3 d1 => ?_⟩⟩
        have t3 : TK K (upd H0 q2 (.tup [.str "pi", .str "fun"])) H3 := m3.tk (e2 _ _ hl0)
        refine ⟨_, rfl, ixt (i := 0) (t3 _ _ hB2) rfl (eq_f rfl (by rw [show decide (V.str "let" = V.str "app") = false from h3]; rfl) ⟨_, rfl, iteF ?_⟩)⟩
        refine ⟨_, rfl, ixt (i := 2) (t3 _ _ hB2) rfl ⟨_, rfl, vb, b, l, xs1, g, n, _, rfl, Dt.keep t3 _ (hb.same e2), wf.2.1, by omega, hl3, dx3, fun v2 H4 xs2 m4 hl4 dx4 d2 => ?_⟩⟩
        have t4 : TK K H3 H4 := m4.tk hl3
        refine ⟨_, rfl, _, rfl, _, rfl, ixt (i := 3) (t4 _ _ (t3 _ _ hB2)) rfl ⟨_, rfl, vc, c, l, xs2, g, n + 1, rest, rfl, Dt.keep (t3.trans t4) _ (hc.same e2), wf.2.2, by omega, hl4, dx4, fun v3 H5 xs3 m5 hl5 dx5 d3 => ?_⟩⟩
        have t5 : TK K H4 H5 := m5.tk hl4
        refine tup_new (K := K) (ds := [.str "let", (a.led g n).pd, (b.led g n).pd, (c.led g (n + 1)).pd]) (.cons (.str _) (.cons (Dt.keep (t4.trans t5) _ d1) (.cons (Dt.keep t5 _ d2) (.cons d3 .nil)))) (by show 4 ≤ 1000; decide) fun v4 H6 e6 d4 => ?_
        exact k v4 H6 xs3 ((Mu.same (e0.trans e2)).trans (m3.trans (m4.trans (m5.trans (Mu.same e6))))) (e6 _ _ hl5) (DtAll.keep (TK.same e6) _ dx5) d4
      | app a m b =>
        obtain ⟨p', va, vb, e, hB, ha, hb⟩ := dt_app hv0
        cases e
        have h1' : ((("pi" : Str) == ("app" : Str)) || (("fun" : Str) == ("app" : Str))) = false := h1
        have dm : max a.depth b.depth ≤ N := by simp only [Tm.depth] at hd; omega
        have hne : ps.isEmpty = false := by
          obtain ⟨y, ys, rfl, _⟩ := (show DtAll K H1 ps (pdP (a, 0) :: [pdP (b, 0)]) from dps).consI
          rfl
        refine if_not (by rw [hne]; rfl) ?_
        have ed : (toldL g ((Tm.app a m b).leaves n) ++ rest) = toldL g (a.leaves n) ++ (toldL g (b.leaves n) ++ rest) := by rw [Tm.leaves, toldL_app, List.append_assoc]
        rw [ed] at dx0
        refine ⟨_, rfl, ixt (i := 0) hB rfl (tup_at (by show 2 ≤ 1000; decide) fun q2 nq2 => in_t (SqT.of upd_same) rfl rfl (by rw [in2, h1'] <;> rfl) ⟨_, rfl, iteF ?_⟩)⟩
        have e2 := same_new (o := .tup [.str "pi", .str "fun"]) nq2
        have hB2 := sqs hB e2
        refine ⟨_, rfl, ixt (i := 1) hB2 rfl ⟨_, rfl, va, a, l, xs, g, n, _, rfl, ha.same e2, wf.1, by omega, e2 _ _ hl0, DtAll.keep (TK.same e2) _ dx0, fun v1 H3 xs1 m3 hl3 dx3 d1 => ?_⟩⟩
        have t3 : TK K (upd H0 q2 (.tup [.str "pi", .str "fun"])) H3 := m3.tk (e2 _ _ hl0)
        refine ⟨_, rfl, ixt (i := 0) (t3 _ _ hB2) rfl (eq_f rfl (by rw [show decide (V.str "app" = V.str "app") = true from h3]; rfl) ⟨_, rfl, iteT ?_⟩)⟩
        refine ⟨_, rfl, _, rfl, ixt (i := 2) (t3 _ _ hB2) rfl ⟨_, rfl, ixt (i := 3) (t3 _ _ hB2) rfl ⟨_, rfl, vb, b, l, xs1, g, n, rest, rfl, Dt.keep t3 _ (hb.same e2), wf.2.2, by omega, hl3, dx3, fun v2 H4 xs2 m4 hl4 dx4 d2 => ?_⟩⟩⟩
        refine tup_new (K := K) (ds := [.str "app", (a.led g n).pd, .str m, (b.led g n).pd]) (.cons (.str _) (.cons (Dt.keep (m4.tk hl3) _ d1) (.cons (.str _) (.cons d2 .nil)))) (by show 4 ≤ 1000; decide) fun v3 H5 e5 d3 => ?_
        exact k v3 H5 xs2 ((Mu.same (e0.trans e2)).trans (m3.trans (m4.trans (Mu.same e5)))) (e5 _ _ hl4) (DtAll.keep (TK.same e5) _ dx4) d3
      | num w i =>
        obtain rfl := DtAll.nilI (show DtAll K H1 ps [] from dps)
        exact iteT (leafy rfl rfl rfl rfl)
      | name x =>
        obtain rfl := DtAll.nilI (show DtAll K H1 ps [] from dps)
        exact iteT (leafy rfl rfl rfl rfl)
      | count x i =>
        obtain rfl := DtAll.nilI (show DtAll K H1 ps [] from dps)
        exact iteT (leafy rfl rfl rfl rfl)
theorem leaves_leaf : ∀ (t : Tm) (n : Int), ∀ q ∈ t.leaves n, q.1.isLeaf = true
  | .bin w m a b, n, q, h => (List.mem_append.mp h).elim (leaves_leaf a n q) (leaves_leaf b (n + 1) q)
  | .letT a b c, n, q, h => (List.mem_append.mp h).elim (leaves_leaf a n q) fun h => (List.mem_append.mp h).elim (leaves_leaf b n q) (leaves_leaf c (n + 1) q)
  | .app a m b, n, q, h => (List.mem_append.mp h).elim (leaves_leaf a n q) (leaves_leaf b n q)
  | .num w i, n, q, h => by rw [List.mem_singleton.mp h]; rfl
  | .name x, n, q, h => by rw [List.mem_singleton.mp h]; rfl
  | .count x i, n, q, h => by rw [List.mem_singleton.mp h]; rfl
theorem leaves_wf : ∀ (t : Tm) (n : Int), t.wf → ∀ q ∈ t.leaves n, q.1.wf
  | .bin w m a b, n, wf, q, h => (List.mem_append.mp h).elim (leaves_wf a n wf.2.2.1 q) (leaves_wf b (n + 1) wf.2.2.2 q)
  | .letT a b c, n, wf, q, h => (List.mem_append.mp h).elim (leaves_wf a n wf.1 q) fun h => (List.mem_append.mp h).elim (leaves_wf b n wf.2.1 q) (leaves_wf c (n + 1) wf.2.2 q)
  | .app a m b, n, wf, q, h => (List.mem_append.mp h).elim (leaves_wf a n wf.1 q) (leaves_wf b n wf.2.2 q)
  | .num w i, n, wf, q, h => by rw [List.mem_singleton.mp h]; exact wf
  | .name x, n, wf, q, h => by rw [List.mem_singleton.mp h]; exact wf
  | .count x i, n, wf, q, h => by rw [List.mem_singleton.mp h]; exact wf
theorem sc_law_rt_raised : FnScope ["term", "by", "told", "leaf", "ahead"] ["term", "by"] (defScope s_law_rt_raised) := ⟨rfl, rfl, rfl, by decide +kernel, rfl, by decide +kernel, by decide +kernel⟩
def spOR (K : PySem.W.Frag) (N : Nat) (n0 : Int) : Sp := fun vs H Q _ => ∃ (v : V) (t : Tm) (b : Int), vs = [v, .int b] ∧ Dt K H v t.pd ∧ t.wf ∧ t.depth ≤ N ∧ t.nodes ≤ 100000 ∧ ∀ v' H', Same H H' → Dt K H' v' (t.led (gR b) n0).pd → Q v' H'
theorem ok_oR {f : Addr} {fd : FuncData} {N : Nat} (F : Fun K "_law_rt_raised" "_law_rt_raised" s_law_rt_raised f fd) 
    (D_law_rt_leaves : Df P w K mg base "_law_rt_leaves" (N + 1) ["term", "ahead"] (spLeaves K N)) (D_law_rt_with : Df P w K mg base "_law_rt_with" (N + 1) ["term", "leaves"] (spWith K N)) : FnOk P w K mg base CX0 (N + 2) f fd ["term", "by"] (spOR K N 0) := by
  refine F.ok sc_law_rt_raised (fun vs H Q E h => ?_) (fun cdv A outer s H vs Q E hr h => ?_)
  · obtain ⟨v, t, b, rfl, hv, wf, hd, hnd, k⟩ := h; rfl
  · obtain ⟨v, t, b, rfl, hv, wf, hd, hnd, k⟩ := h
    have nd := sc_law_rt_raised.nd
    refine ⟨_, (pss_cons (ps_set (i := 2) nd rfl (Or.inl rfl) (pe_lstN pa_nil))
      (pss_cons (ps_for PassesOwn.never rfl (pi_seq (pe_df D_law_rt_leaves hr (by omega) (pa_cons (pv 0) (pa_cons pe_int pa_nil)))) (pg_tup rfl (pgs_cons (pg_name (i := 3) nd rfl (Or.inl rfl)) (pgs_cons (pg_name (i := 4) nd rfl (Or.inl rfl)) pgs_nil)))
        (pss_one (ps_expr (pe_bm PySem.F.plainAttrs_list PySem.F.slot_list_append PySem.F.type_list_append mt_append (pv 2) (pa_cons (pe_ifExp (pt_w (PW.pt (pw_and (pt_cmpR (uEq hr.units) (pe_ix ix_seq (pv 3) pe_int (fun _ _ => rfl)) pe_str (nomark _)) (pw_and1 (pt_cmpR op_ge (pe_ix ix_seq (pv 3) pe_int (fun _ _ => rfl)) (pv 4) (nomark _)))))) (pe_tupN (pa_cons pe_str (pa_cons (pe_op uAdd (pe_ix ix_seq (pv 3) pe_int (fun _ _ => rfl)) (pv 1)) pa_nil))) (pv 3)) pa_nil)))))
      (pss_one (ps_ret (pe_df D_law_rt_with hr (by omega) (pa_cons (pv 0) (pa_cons (pv 2) pa_nil))))))), ?_⟩
    refine lst_new (Nat.zero_le _) fun lt nlt => ?_
    have e1 := same_new (o := .lst []) nlt
    refine ⟨_, rfl, v, t, 0, rfl, hv.same e1, wf, by omega, hnd, fun ll zs H2 e2 nll hll dll => ⟨ll, rfl, .inl ⟨⟨_, SqL.of hll⟩, ?_⟩⟩⟩
    have lt2 : H2 lt = some (.lst []) := e2 _ _ upd_same
    have ne : ll ≠ lt := fun z => by rw [z, upd_same] at nll; cases nll
    have z1 : ∀ {H3 : Hp}, Mu lt H2 H3 → Same H H3 := fun m b o h => m b o (ne_of_none h nlt) (e2 _ _ (e1 _ _ h))
    have lz : zs.length = (t.leaves 0).length := by rw [dll.length, List.length_map]
    have l1 := t.leaves_len 0
    refine for_list (K := K) (a := ll) (xs := zs) (fun i σ H3 => ∃ (v3 v4 : Option V) (ws : List V), σ = [some v, some (.int b), some (.ref lt), v3, v4] ∧ Mu lt H2 H3 ∧ H3 lt = some (.lst ws) ∧ DtAll K H3 ws ((toldL (gR b) ((t.leaves 0).take i)).map Tm.pd))
      ⟨none, none, [], rfl, fun _ _ _ h => h, lt2, .nil⟩ (fun i σ H3 _ ⟨_, _, _, _, m, _⟩ => SqL.of (m _ _ ne hll)) ?_ ?_
    · rintro i x σ H3 hx ⟨v3, v4, ws, rfl, m3, hl3, dw⟩
      obtain ⟨u, m, p, vu, hu, rfl, hT, du⟩ := parts_at (DtAll.keep (m3.tk lt2) _ dll) hx
      have hsz : ws.length < sizeLine := by
        rw [dw.length, List.length_map, toldL, List.length_map, List.length_take, sizeLine_eq]; omega
      have lf : u.isLeaf = true := leaves_leaf t 0 _ (List.mem_of_getElem? hu)
      have wfu : u.wf := leaves_wf t 0 wf _ (List.mem_of_getElem? hu)
      have step : ∀ (y : V) (H4 : Hp), Same H3 H4 → Dt K H4 y ((gR b) u m).pd → ∃ ws', Mu lt H2 (upd H4 lt (.lst (ws ++ [y]))) ∧ (upd H4 lt (.lst (ws ++ [y]))) lt = some (.lst ws') ∧ DtAll K (upd H4 lt (.lst (ws ++ [y]))) ws' ((toldL (gR b) ((t.leaves 0).take (i + 1))).map Tm.pd) := fun y H4 e4 dy => by
        refine ⟨ws ++ [y], m3.trans ((Mu.same e4).trans fun b o n h => by rw [upd_ne n]; exact h), upd_same, ?_⟩
        rw [take_snoc hu, toldL_app, List.map_append]
        exact DtAll.append (DtAll.keep ((TK.same e4).trans (TK.lst (e4 _ _ hl3))) _ dw) (.cons (Dt.keep (TK.lst (e4 _ _ hl3)) _ dy) .nil)
      refine ⟨p, _, rfl, hT, rfl, vu, _, rfl, .int m, _, rfl, rfl, ?_⟩
      refine ⟨_, rfl, .inl ⟨rfl, _, .inl (.inl hl3)⟩, ⟨?_⟩⟩
      obtain ⟨p', xs, rfl, hp⟩ := dt_word du
      refine ⟨_, rfl, ixt (i := 0) hp rfl (eq_f rfl (by rw [word_w nb1 nb2 lf]) ⟨_, rfl, ?_⟩)⟩
      cases hb : u.isW "bound" with
      | false =>
        obtain ⟨ws', q1, q2, q3⟩ := step _ H3 (Same.refl _) (by rw [gR_off hb]; exact du)
        exact iteF (iteF ⟨_, rfl, lt, ws, _, rfl, rfl, hl3, hsz, _, _, ws', rfl, q1, q2, q3⟩)
      | true =>
        obtain ⟨j, rfl⟩ := isW_num hb
        obtain ⟨p2, e, hp2⟩ := dt_num du
        cases e
        refine iteT ⟨_, rfl, ixt (i := 1) hp2 rfl ⟨_, rfl, _, _, rfl, rfl, _, rfl, ite2 (fun hc => ?_) (fun hc => ?_)⟩⟩
        · refine ⟨_, rfl, ixt (i := 1) hp2 rfl ⟨_, rfl, add_i (tup_new (K := K) (ds := [.str "bound", .int (j + b)]) (.cons (.str _) (.cons (.int _) .nil)) (by show 2 ≤ 1000; decide) fun y H4 e4 d4 => ?_)⟩⟩
          have e5 : gR b (.num "bound" j) m = .num "bound" (j + b) := if_pos ⟨rfl, of_decide_eq_true hc⟩
          obtain ⟨ws', q1, q2, q3⟩ := step y H4 e4 (by rw [e5]; exact d4)
          exact ⟨lt, ws, _, rfl, rfl, e4 _ _ hl3, hsz, _, _, ws', rfl, q1, q2, q3⟩
        · have e5 : gR b (.num "bound" j) m = .num "bound" j := if_neg fun z => hc (decide_eq_true z.2)
          obtain ⟨ws', q1, q2, q3⟩ := step _ H3 (Same.refl _) (by rw [e5]; exact du)
          exact ⟨_, rfl, lt, ws, _, rfl, rfl, hl3, hsz, _, _, ws', rfl, q1, q2, q3⟩
    · rintro σ H3 ⟨v3, v4, ws, rfl, m3, hl3, dw⟩
      rw [lz, List.take_length] at dw
      refine ⟨_, rfl, _, rfl, v, t, lt, ws, (gR b), 0, [], rfl, hv.same (z1 m3), wf, by omega, hl3, by rw [List.append_nil]; exact dw, fun v' H' xs' m5 hl5 _ d5 => k v' H' (z1 (m3.trans m5)) d5⟩
theorem sc_law_k02_under : FnScope ["body", "by", "told", "leaf", "ahead"] ["body", "by"] (defScope s_law_k02_under) := ⟨rfl, rfl, rfl, by decide +kernel, rfl, by decide +kernel, by decide +kernel⟩

theorem ok_oU {f : Addr} {fd : FuncData} {N : Nat} (F : Fun K "_law_k02_under" "_law_k02_under" s_law_k02_under f fd) 
    (D_law_rt_leaves : Df P w K mg base "_law_rt_leaves" (N + 1) ["term", "ahead"] (spLeaves K N)) (D_law_rt_with : Df P w K mg base "_law_rt_with" (N + 1) ["term", "leaves"] (spWith K N)) : FnOk P w K mg base CX0 (N + 2) f fd ["body", "by"] (spOR K N 1) := by
  refine F.ok sc_law_k02_under (fun vs H Q E h => ?_) (fun cdv A outer s H vs Q E hr h => ?_)
  · obtain ⟨v, t, b, rfl, hv, wf, hd, hnd, k⟩ := h; rfl
  · obtain ⟨v, t, b, rfl, hv, wf, hd, hnd, k⟩ := h
    have nd := sc_law_k02_under.nd
    refine ⟨_, (pss_cons (ps_set (i := 2) nd rfl (Or.inl rfl) (pe_lstN pa_nil))
      (pss_cons (ps_for PassesOwn.never rfl (pi_seq (pe_df D_law_rt_leaves hr (by omega) (pa_cons (pv 0) (pa_cons pe_int pa_nil)))) (pg_tup rfl (pgs_cons (pg_name (i := 3) nd rfl (Or.inl rfl)) (pgs_cons (pg_name (i := 4) nd rfl (Or.inl rfl)) pgs_nil)))
        (pss_one (ps_expr (pe_bm PySem.F.plainAttrs_list PySem.F.slot_list_append PySem.F.type_list_append mt_append (pv 2) (pa_cons (pe_ifExp (pt_w (PW.pt (pw_and (pt_cmpR (uEq hr.units) (pe_ix ix_seq (pv 3) pe_int (fun _ _ => rfl)) pe_str (nomark _)) (pw_and1 (pt_cmpR op_ge (pe_ix ix_seq (pv 3) pe_int (fun _ _ => rfl)) (pv 4) (nomark _)))))) (pe_tupN (pa_cons pe_str (pa_cons (pe_op uAdd (pe_ix ix_seq (pv 3) pe_int (fun _ _ => rfl)) (pv 1)) pa_nil))) (pv 3)) pa_nil)))))
      (pss_one (ps_ret (pe_df D_law_rt_with hr (by omega) (pa_cons (pv 0) (pa_cons (pv 2) pa_nil))))))), ?_⟩
    refine lst_new (Nat.zero_le _) fun lt nlt => ?_
    have e1 := same_new (o := .lst []) nlt
    refine ⟨_, rfl, v, t, 1, rfl, hv.same e1, wf, by omega, hnd, fun ll zs H2 e2 nll hll dll => ⟨ll, rfl, .inl ⟨⟨_, SqL.of hll⟩, ?_⟩⟩⟩
    have lt2 : H2 lt = some (.lst []) := e2 _ _ upd_same
    have ne : ll ≠ lt := fun z => by rw [z, upd_same] at nll; cases nll
    have z1 : ∀ {H3 : Hp}, Mu lt H2 H3 → Same H H3 := fun m b o h => m b o (ne_of_none h nlt) (e2 _ _ (e1 _ _ h))
    have lz : zs.length = (t.leaves 1).length := by rw [dll.length, List.length_map]
    have l1 := t.leaves_len 1
    refine for_list (K := K) (a := ll) (xs := zs) (fun i σ H3 => ∃ (v3 v4 : Option V) (ws : List V), σ = [some v, some (.int b), some (.ref lt), v3, v4] ∧ Mu lt H2 H3 ∧ H3 lt = some (.lst ws) ∧ DtAll K H3 ws ((toldL (gR b) ((t.leaves 1).take i)).map Tm.pd))
      ⟨none, none, [], rfl, fun _ _ _ h => h, lt2, .nil⟩ (fun i σ H3 _ ⟨_, _, _, _, m, _⟩ => SqL.of (m _ _ ne hll)) ?_ ?_
    · rintro i x σ H3 hx ⟨v3, v4, ws, rfl, m3, hl3, dw⟩
      obtain ⟨u, m, p, vu, hu, rfl, hT, du⟩ := parts_at (DtAll.keep (m3.tk lt2) _ dll) hx
      have hsz : ws.length < sizeLine := by
        rw [dw.length, List.length_map, toldL, List.length_map, List.length_take, sizeLine_eq]; omega
      have lf : u.isLeaf = true := leaves_leaf t 1 _ (List.mem_of_getElem? hu)
      have wfu : u.wf := leaves_wf t 1 wf _ (List.mem_of_getElem? hu)
      have step : ∀ (y : V) (H4 : Hp), Same H3 H4 → Dt K H4 y ((gR b) u m).pd → ∃ ws', Mu lt H2 (upd H4 lt (.lst (ws ++ [y]))) ∧ (upd H4 lt (.lst (ws ++ [y]))) lt = some (.lst ws') ∧ DtAll K (upd H4 lt (.lst (ws ++ [y]))) ws' ((toldL (gR b) ((t.leaves 1).take (i + 1))).map Tm.pd) := fun y H4 e4 dy => by
        refine ⟨ws ++ [y], m3.trans ((Mu.same e4).trans fun b o n h => by rw [upd_ne n]; exact h), upd_same, ?_⟩
        rw [take_snoc hu, toldL_app, List.map_append]
        exact DtAll.append (DtAll.keep ((TK.same e4).trans (TK.lst (e4 _ _ hl3))) _ dw) (.cons (Dt.keep (TK.lst (e4 _ _ hl3)) _ dy) .nil)
      refine ⟨p, _, rfl, hT, rfl, vu, _, rfl, .int m, _, rfl, rfl, ?_⟩
      refine ⟨_, rfl, .inl ⟨rfl, _, .inl (.inl hl3)⟩, ⟨?_⟩⟩
      obtain ⟨p', xs, rfl, hp⟩ := dt_word du
      refine ⟨_, rfl, ixt (i := 0) hp rfl (eq_f rfl (by rw [word_w nb1 nb2 lf]) ⟨_, rfl, ?_⟩)⟩
      cases hb : u.isW "bound" with
      | false =>
        obtain ⟨ws', q1, q2, q3⟩ := step _ H3 (Same.refl _) (by rw [gR_off hb]; exact du)
        exact iteF (iteF ⟨_, rfl, lt, ws, _, rfl, rfl, hl3, hsz, _, _, ws', rfl, q1, q2, q3⟩)
      | true =>
        obtain ⟨j, rfl⟩ := isW_num hb
        obtain ⟨p2, e, hp2⟩ := dt_num du
        cases e
        refine iteT ⟨_, rfl, ixt (i := 1) hp2 rfl ⟨_, rfl, _, _, rfl, rfl, _, rfl, ite2 (fun hc => ?_) (fun hc => ?_)⟩⟩
        · refine ⟨_, rfl, ixt (i := 1) hp2 rfl ⟨_, rfl, add_i (tup_new (K := K) (ds := [.str "bound", .int (j + b)]) (.cons (.str _) (.cons (.int _) .nil)) (by show 2 ≤ 1000; decide) fun y H4 e4 d4 => ?_)⟩⟩
          have e5 : gR b (.num "bound" j) m = .num "bound" (j + b) := if_pos ⟨rfl, of_decide_eq_true hc⟩
          obtain ⟨ws', q1, q2, q3⟩ := step y H4 e4 (by rw [e5]; exact d4)
          exact ⟨lt, ws, _, rfl, rfl, e4 _ _ hl3, hsz, _, _, ws', rfl, q1, q2, q3⟩
        · have e5 : gR b (.num "bound" j) m = .num "bound" j := if_neg fun z => hc (decide_eq_true z.2)
          obtain ⟨ws', q1, q2, q3⟩ := step _ H3 (Same.refl _) (by rw [e5]; exact du)
          exact ⟨_, rfl, lt, ws, _, rfl, rfl, hl3, hsz, _, _, ws', rfl, q1, q2, q3⟩
    · rintro σ H3 ⟨v3, v4, ws, rfl, m3, hl3, dw⟩
      rw [lz, List.take_length] at dw
      refine ⟨_, rfl, _, rfl, v, t, lt, ws, (gR b), 1, [], rfl, hv.same (z1 m3), wf, by omega, hl3, by rw [List.append_nil]; exact dw, fun v' H' xs' m5 hl5 _ d5 => k v' H' (z1 (m3.trans m5)) d5⟩
theorem sc_law_rt_put : FnScope ["body", "value", "told", "leaf", "ahead"] ["body", "value"] (defScope s_law_rt_put) := ⟨rfl, rfl, rfl, by decide +kernel, rfl, by decide +kernel, by decide +kernel⟩
def spOP (K : PySem.W.Frag) (N M : Nat) : Sp := fun vs H Q _ => ∃ (v vv : V) (t val : Tm), vs = [v, vv] ∧ Dt K H v t.pd ∧ t.wf ∧ t.depth ≤ N ∧ t.nodes ≤ 100000 ∧ Dt K H vv val.pd ∧ val.wf ∧ val.depth ≤ M ∧ val.nodes ≤ 100000 ∧ ∀ v' H', Same H H' → Dt K H' v' (t.led (gP val) 0).pd → Q v' H'
theorem ok_oP {f : Addr} {fd : FuncData} {N M : Nat} (F : Fun K "_law_rt_put" "_law_rt_put" s_law_rt_put f fd) (D_law_rt_raised : Df P w K mg base "_law_rt_raised" (M + 2) ["term", "by"] (spOR K M 0))
    (D_law_rt_leaves : Df P w K mg base "_law_rt_leaves" (N + 1) ["term", "ahead"] (spLeaves K N)) (D_law_rt_with : Df P w K mg base "_law_rt_with" (N + 1) ["term", "leaves"] (spWith K N)) : FnOk P w K mg base CX0 (N + M + 3) f fd ["body", "value"] (spOP K N M) := by
  refine F.ok sc_law_rt_put (fun vs H Q E h => ?_) (fun cdv A outer s H vs Q E hr h => ?_)
  · obtain ⟨v, vv, t, val, rfl, hv, wf, hd, hnd, hvv, wfv, hdv, hnv, k⟩ := h; rfl
  · obtain ⟨v, vv, t, val, rfl, hv, wf, hd, hnd, hvv, wfv, hdv, hnv, k⟩ := h
    have nd := sc_law_rt_put.nd
    refine ⟨_, (pss_cons (ps_set (i := 2) nd rfl (Or.inl rfl) (pe_lstN pa_nil))
      (pss_cons (ps_for PassesOwn.never rfl (pi_seq (pe_df D_law_rt_leaves hr (by omega) (pa_cons (pv 0) (pa_cons pe_int pa_nil)))) (pg_tup rfl (pgs_cons (pg_name (i := 3) nd rfl (Or.inl rfl)) (pgs_cons (pg_name (i := 4) nd rfl (Or.inl rfl)) pgs_nil)))
        (pss_cons (ps_join (ps_if (pt_w (PW.pt (pw_and (pt_cmpR (uEq hr.units) (pe_ix ix_seq (pv 3) pe_int (fun _ _ => rfl)) pe_str (nomark _)) (pw_and1 (pt_cmpR (uEq hr.units) (pe_ix ix_seq (pv 3) pe_int (fun _ _ => rfl)) (pv 4) (nomark _))))))
          (pss_one (ps_set (i := 3) nd rfl (Or.inl rfl) (pe_df D_law_rt_raised hr (by omega) (pa_cons (pv 1) (pa_cons (pv 4) pa_nil)))))
          (pss_one (ps_if (pt_w (PW.pt (pw_and (pt_cmpR (uEq hr.units) (pe_ix ix_seq (pv 3) pe_int (fun _ _ => rfl)) pe_str (nomark _)) (pw_and1 (pt_cmpR op_gt (pe_ix ix_seq (pv 3) pe_int (fun _ _ => rfl)) (pv 4) (nomark _))))))
            (pss_one (ps_set (i := 3) nd rfl (Or.inl rfl) (pe_tupN (pa_cons pe_str (pa_cons (pe_op op_sub (pe_ix ix_seq (pv 3) pe_int (fun _ _ => rfl)) pe_int) pa_nil)))))
            pss_nil))))
        (pss_one (ps_expr (pe_bm PySem.F.plainAttrs_list PySem.F.slot_list_append PySem.F.type_list_append mt_append (pv 2) (pa_cons (pv 3) pa_nil))))))
      (pss_one (ps_ret (pe_df D_law_rt_with hr (by omega) (pa_cons (pv 0) (pa_cons (pv 2) pa_nil))))))), ?_⟩
    refine lst_new (Nat.zero_le _) fun lt nlt => ?_
    have e1 := same_new (o := .lst []) nlt
    refine ⟨_, rfl, v, t, 0, rfl, hv.same e1, wf, by omega, hnd, fun ll zs H2 e2 nll hll dll => ⟨ll, rfl, .inl ⟨⟨_, SqL.of hll⟩, ?_⟩⟩⟩
    have lt2 : H2 lt = some (.lst []) := e2 _ _ upd_same
    have ne : ll ≠ lt := fun z => by rw [z, upd_same] at nll; cases nll
    have z1 : ∀ {H3 : Hp}, Mu lt H2 H3 → Same H H3 := fun m b o h => m b o (ne_of_none h nlt) (e2 _ _ (e1 _ _ h))
    have lz : zs.length = (t.leaves 0).length := by rw [dll.length, List.length_map]
    have l1 := t.leaves_len 0
    refine for_list (K := K) (a := ll) (xs := zs) (fun i σ H3 => ∃ (v3 v4 : Option V) (ws : List V), σ = [some v, some vv, some (.ref lt), v3, v4] ∧ Mu lt H2 H3 ∧ H3 lt = some (.lst ws) ∧ DtAll K H3 ws ((toldL (gP val) ((t.leaves 0).take i)).map Tm.pd))
      ⟨none, none, [], rfl, fun _ _ _ h => h, lt2, .nil⟩ (fun i σ H3 _ ⟨_, _, _, _, m, _⟩ => SqL.of (m _ _ ne hll)) ?_ ?_
    · rintro i x σ H3 hx ⟨v3, v4, ws, rfl, m3, hl3, dw⟩
      obtain ⟨u, m, p, vu, hu, rfl, hT, du⟩ := parts_at (DtAll.keep (m3.tk lt2) _ dll) hx
      have hsz : ws.length < sizeLine := by
        rw [dw.length, List.length_map, toldL, List.length_map, List.length_take, sizeLine_eq]; omega
      have lf : u.isLeaf = true := leaves_leaf t 0 _ (List.mem_of_getElem? hu)
      have wfu : u.wf := leaves_wf t 0 wf _ (List.mem_of_getElem? hu)
      have step : ∀ (y : V) (H4 : Hp), Same H3 H4 → Dt K H4 y ((gP val) u m).pd → ∃ ws', Mu lt H2 (upd H4 lt (.lst (ws ++ [y]))) ∧ (upd H4 lt (.lst (ws ++ [y]))) lt = some (.lst ws') ∧ DtAll K (upd H4 lt (.lst (ws ++ [y]))) ws' ((toldL (gP val) ((t.leaves 0).take (i + 1))).map Tm.pd) := fun y H4 e4 dy => by
        refine ⟨ws ++ [y], m3.trans ((Mu.same e4).trans fun b o n h => by rw [upd_ne n]; exact h), upd_same, ?_⟩
        rw [take_snoc hu, toldL_app, List.map_append]
        exact DtAll.append (DtAll.keep ((TK.same e4).trans (TK.lst (e4 _ _ hl3))) _ dw) (.cons (Dt.keep (TK.lst (e4 _ _ hl3)) _ dy) .nil)
      have z3 := z1 m3
      refine ⟨p, _, rfl, hT, rfl, vu, _, rfl, .int m, _, rfl, rfl, ?_⟩
      refine ⟨fun σ' H4 => ∃ y, σ' = [some v, some vv, some (.ref lt), some y, some (.int m)] ∧ Same H3 H4 ∧ Dt K H4 y ((gP val) u m).pd, ?_, ?_⟩
      rotate_left
      · rintro σ' H4 ⟨y, rfl, e4, dy⟩
        obtain ⟨ws', q1, q2, q3⟩ := step y H4 e4 dy
        exact ⟨_, rfl, .inl ⟨rfl, _, .inl (.inl (e4 _ _ hl3))⟩, _, rfl, lt, ws, y, rfl, rfl, e4 _ _ hl3, hsz, _, _, ws', rfl, q1, q2, q3⟩
      refine ⟨?_⟩
      obtain ⟨p', xs, rfl, hp⟩ := dt_word du
      refine ⟨_, rfl, ixt (i := 0) hp rfl (eq_f rfl (by rw [word_w nb1 nb2 lf]) ⟨_, rfl, ?_⟩)⟩
      cases hb : u.isW "bound" with
      | false => exact iteF (iteF ⟨_, rfl, ixt (i := 0) hp rfl (eq_f rfl (by rw [word_w nb1 nb2 lf, hb]; rfl) ⟨_, rfl, iteF (iteF ⟨_, rfl, Same.refl _, by rw [gP_off hb]; exact du⟩)⟩)⟩)
      | true =>
        obtain ⟨j, rfl⟩ := isW_num hb
        obtain ⟨p2, e, hp2⟩ := dt_num du
        cases e
        refine iteT ⟨_, rfl, ixt (i := 1) hp2 rfl ⟨_, rfl, eq_f rfl rfl ⟨_, rfl, ite2 (fun hc => ?_) (fun hc => ?_)⟩⟩⟩
        · have ej : j = m := by
            have : decide (V.int j = V.int m) = true := by simpa using hc
            have := of_decide_eq_true this
            injection this
          have e5 : gP val (.num "bound" j) m = val.led (gR m) 0 := by
            show (if ("bound" : Str) = "bound" ∧ m ≤ j then (if j = m then val.led (gR m) 0 else .num "bound" (j - 1)) else .num "bound" j) = _
            rw [if_pos ⟨rfl, by omega⟩, if_pos ej]
          exact ⟨_, rfl, _, rfl, vv, val, m, rfl, hvv.same z3, wfv, hdv, hnv, fun y H4 e4 d4 => ⟨y, rfl, e4, by rw [e5]; exact d4⟩⟩
        · have ej : ¬ j = m := fun z => hc (by rw [z]; simp)
          refine ⟨_, rfl, ixt (i := 0) hp2 rfl (eq_f rfl rfl ⟨_, rfl, iteT ⟨_, rfl, ixt (i := 1) hp2 rfl ⟨_, rfl, _, _, rfl, rfl, _, rfl, ite2 (fun hc2 => ?_) (fun hc2 => ?_)⟩⟩⟩)⟩
          · have hj : m < j := of_decide_eq_true hc2
            have e5 : gP val (.num "bound" j) m = .num "bound" (j - 1) := by
              show (if ("bound" : Str) = "bound" ∧ m ≤ j then (if j = m then val.led (gR m) 0 else .num "bound" (j - 1)) else .num "bound" j) = _
              rw [if_pos ⟨rfl, by omega⟩, if_neg ej]
            exact ⟨_, rfl, ixt (i := 1) hp2 rfl ⟨_, _, rfl, rfl, tup_new (K := K) (ds := [.str "bound", .int (j - 1)]) (.cons (.str _) (.cons (.int _) .nil)) (by show 2 ≤ 1000; decide) fun y H4 e4 d4 => ⟨y, rfl, e4, by rw [e5]; exact d4⟩⟩⟩
          · have hj : ¬ m < j := fun z => hc2 (decide_eq_true z)
            have e5 : gP val (.num "bound" j) m = .num "bound" j := if_neg fun z => by have := z.2; omega
            exact ⟨_, rfl, Same.refl _, by rw [e5]; exact du⟩
    · rintro σ H3 ⟨v3, v4, ws, rfl, m3, hl3, dw⟩
      rw [lz, List.take_length] at dw
      refine ⟨_, rfl, _, rfl, v, t, lt, ws, (gP val), 0, [], rfl, hv.same (z1 m3), wf, by omega, hl3, by rw [List.append_nil]; exact dw, fun v' H' xs' m5 hl5 _ d5 => k v' H' (z1 (m3.trans m5)) d5⟩
theorem sc_law_k02_bound : FnScope ["term", "number", "told", "leaf", "ahead"] ["term", "number"] (defScope s_law_k02_bound) := ⟨rfl, rfl, rfl, by decide +kernel, rfl, by decide +kernel, by decide +kernel⟩
def spOB (K : PySem.W.Frag) (N : Nat) : Sp := fun vs H Q _ => ∃ (v : V) (t : Tm) (n : Int), vs = [v, .int n] ∧ Dt K H v t.pd ∧ t.wf ∧ t.depth ≤ N ∧ t.nodes ≤ 100000 ∧ 0 ≤ n ∧ ∀ v' H', Same H H' → Dt K H' v' (t.led (gB n) 0).pd → Q v' H'
theorem ok_oB {f : Addr} {fd : FuncData} {N M : Nat} (F : Fun K "_law_k02_bound" "_law_k02_bound" s_law_k02_bound f fd) 
    (D_law_rt_leaves : Df P w K mg base "_law_rt_leaves" (N + 1) ["term", "ahead"] (spLeaves K N)) (D_law_rt_with : Df P w K mg base "_law_rt_with" (N + 1) ["term", "leaves"] (spWith K N)) : FnOk P w K mg base CX0 (N + M + 2) f fd ["term", "number"] (spOB K N) := by
  refine F.ok sc_law_k02_bound (fun vs H Q E h => ?_) (fun cdv A outer s H vs Q E hr h => ?_)
  · obtain ⟨v, t, n, rfl, hv, wf, hd, hnd, hn, k⟩ := h; rfl
  · obtain ⟨v, t, n, rfl, hv, wf, hd, hnd, hn, k⟩ := h
    have nd := sc_law_k02_bound.nd
    refine ⟨_, (pss_cons (ps_set (i := 2) nd rfl (Or.inl rfl) (pe_lstN pa_nil))
      (pss_cons (ps_for PassesOwn.never rfl (pi_seq (pe_df D_law_rt_leaves hr (by omega) (pa_cons (pv 0) (pa_cons pe_int pa_nil)))) (pg_tup rfl (pgs_cons (pg_name (i := 3) nd rfl (Or.inl rfl)) (pgs_cons (pg_name (i := 4) nd rfl (Or.inl rfl)) pgs_nil)))
        (pss_cons (ps_join (ps_if (pt_cmpR (uEq hr.units) (pv 3) (pe_tupN (pa_cons pe_str (pa_cons (pv 1) pa_nil))) (nomark _))
          (pss_one (ps_set (i := 3) nd rfl (Or.inl rfl) (pe_tupN (pa_cons pe_str (pa_cons (pv 4) pa_nil)))))
          (pss_one (ps_if (pt_w (PW.pt (pw_and (pt_cmpR (uEq hr.units) (pe_ix ix_seq (pv 3) pe_int (fun _ _ => rfl)) pe_str (nomark _)) (pw_and1 (pt_cmpR op_ge (pe_ix ix_seq (pv 3) pe_int (fun _ _ => rfl)) (pv 4) (nomark _))))))
            (pss_one (ps_set (i := 3) nd rfl (Or.inl rfl) (pe_tupN (pa_cons pe_str (pa_cons (pe_op uAdd (pe_ix ix_seq (pv 3) pe_int (fun _ _ => rfl)) pe_int) pa_nil)))))
            pss_nil))))
        (pss_one (ps_expr (pe_bm PySem.F.plainAttrs_list PySem.F.slot_list_append PySem.F.type_list_append mt_append (pv 2) (pa_cons (pv 3) pa_nil))))))
      (pss_one (ps_ret (pe_df D_law_rt_with hr (by omega) (pa_cons (pv 0) (pa_cons (pv 2) pa_nil))))))), ?_⟩
    refine lst_new (Nat.zero_le _) fun lt nlt => ?_
    have e1 := same_new (o := .lst []) nlt
    refine ⟨_, rfl, v, t, 0, rfl, hv.same e1, wf, by omega, hnd, fun ll zs H2 e2 nll hll dll => ⟨ll, rfl, .inl ⟨⟨_, SqL.of hll⟩, ?_⟩⟩⟩
    have lt2 : H2 lt = some (.lst []) := e2 _ _ upd_same
    have ne : ll ≠ lt := fun z => by rw [z, upd_same] at nll; cases nll
    have z1 : ∀ {H3 : Hp}, Mu lt H2 H3 → Same H H3 := fun m b o h => m b o (ne_of_none h nlt) (e2 _ _ (e1 _ _ h))
    have lz : zs.length = (t.leaves 0).length := by rw [dll.length, List.length_map]
    have l1 := t.leaves_len 0
    refine for_list (K := K) (a := ll) (xs := zs) (fun i σ H3 => ∃ (v3 v4 : Option V) (ws : List V), σ = [some v, some (.int n), some (.ref lt), v3, v4] ∧ Mu lt H2 H3 ∧ H3 lt = some (.lst ws) ∧ DtAll K H3 ws ((toldL (gB n) ((t.leaves 0).take i)).map Tm.pd))
      ⟨none, none, [], rfl, fun _ _ _ h => h, lt2, .nil⟩ (fun i σ H3 _ ⟨_, _, _, _, m, _⟩ => SqL.of (m _ _ ne hll)) ?_ ?_
    · rintro i x σ H3 hx ⟨v3, v4, ws, rfl, m3, hl3, dw⟩
      obtain ⟨u, m, p, vu, hu, rfl, hT, du⟩ := parts_at (DtAll.keep (m3.tk lt2) _ dll) hx
      have hsz : ws.length < sizeLine := by
        rw [dw.length, List.length_map, toldL, List.length_map, List.length_take, sizeLine_eq]; omega
      have lf : u.isLeaf = true := leaves_leaf t 0 _ (List.mem_of_getElem? hu)
      have wfu : u.wf := leaves_wf t 0 wf _ (List.mem_of_getElem? hu)
      have step : ∀ (y : V) (H4 : Hp), Same H3 H4 → Dt K H4 y ((gB n) u m).pd → ∃ ws', Mu lt H2 (upd H4 lt (.lst (ws ++ [y]))) ∧ (upd H4 lt (.lst (ws ++ [y]))) lt = some (.lst ws') ∧ DtAll K (upd H4 lt (.lst (ws ++ [y]))) ws' ((toldL (gB n) ((t.leaves 0).take (i + 1))).map Tm.pd) := fun y H4 e4 dy => by
        refine ⟨ws ++ [y], m3.trans ((Mu.same e4).trans fun b o n h => by rw [upd_ne n]; exact h), upd_same, ?_⟩
        rw [take_snoc hu, toldL_app, List.map_append]
        exact DtAll.append (DtAll.keep ((TK.same e4).trans (TK.lst (e4 _ _ hl3))) _ dw) (.cons (Dt.keep (TK.lst (e4 _ _ hl3)) _ dy) .nil)
      have z3 := z1 m3
      refine ⟨p, _, rfl, hT, rfl, vu, _, rfl, .int m, _, rfl, rfl, ?_⟩
      refine ⟨fun σ' H4 => ∃ y, σ' = [some v, some (.int n), some (.ref lt), some y, some (.int m)] ∧ Same H3 H4 ∧ Dt K H4 y ((gB n) u m).pd, ?_, ?_⟩
      rotate_left
      · rintro σ' H4 ⟨y, rfl, e4, dy⟩
        obtain ⟨ws', q1, q2, q3⟩ := step y H4 e4 dy
        exact ⟨_, rfl, .inl ⟨rfl, _, .inl (.inl (e4 _ _ hl3))⟩, _, rfl, lt, ws, y, rfl, rfl, e4 _ _ hl3, hsz, _, _, ws', rfl, q1, q2, q3⟩
      refine ⟨_, rfl, _, rfl, tup_new (K := K) (ds := [.str "local", .int n]) (.cons (.str _) (.cons (.int _) .nil)) (by show 2 ≤ 1000; decide) fun y1 H4 e4 d4 => ?_⟩
      have du4 := du.same e4
      refine eq_d (Dt.dp _ du4) (Dt.dp _ d4) (shp_leaf wfu lf) (shp_leaf (u := .num "local" n) (.inr ⟨.inl rfl, hn⟩) rfl) (by rw [num_pd_eq u lf n]) ⟨_, rfl, ?_⟩
      obtain ⟨p', xs, rfl, hp⟩ := dt_word du4
      cases hb : u.isLN n with
      | true =>
        exact iteT ⟨_, rfl, tup_new (K := K) (ds := [.str "bound", .int m]) (.cons (.str _) (.cons (.int _) .nil)) (by show 2 ≤ 1000; decide) fun y H5 e5 d5 => ⟨y, rfl, e4.trans e5, by rw [gB_T hb]; exact d5⟩⟩
      | false =>
        rw [gB_F hb]
        refine iteF ⟨?_⟩
        refine ⟨_, rfl, ixt (i := 0) hp rfl (eq_f rfl (by rw [word_w nb1 nb2 lf]) ⟨_, rfl, ?_⟩)⟩
        cases hb2 : u.isW "bound" with
        | false => exact iteF (iteF ⟨_, rfl, e4, by rw [gR_off hb2]; exact du4⟩)
        | true =>
          obtain ⟨j, rfl⟩ := isW_num hb2
          obtain ⟨p2, e, hp2⟩ := dt_num du4
          cases e
          refine iteT ⟨_, rfl, ixt (i := 1) hp2 rfl ⟨_, rfl, _, _, rfl, rfl, _, rfl, ite2 (fun hc => ?_) (fun hc => ?_)⟩⟩
          · have e5 : gR 1 (.num "bound" j) m = .num "bound" (j + 1) := if_pos ⟨rfl, of_decide_eq_true hc⟩
            exact ⟨_, rfl, ixt (i := 1) hp2 rfl (add_i (tup_new (K := K) (ds := [.str "bound", .int (j + 1)]) (.cons (.str _) (.cons (.int _) .nil)) (by show 2 ≤ 1000; decide) fun y H5 e5' d5 => ⟨y, rfl, e4.trans e5', by rw [e5]; exact d5⟩))⟩
          · have e5 : gR 1 (.num "bound" j) m = .num "bound" j := if_neg fun z => hc (decide_eq_true z.2)
            exact ⟨_, rfl, e4, by rw [e5]; exact du4⟩
    · rintro σ H3 ⟨v3, v4, ws, rfl, m3, hl3, dw⟩
      rw [lz, List.take_length] at dw
      refine ⟨_, rfl, _, rfl, v, t, lt, ws, (gB n), 0, [], rfl, hv.same (z1 m3), wf, by omega, hl3, by rw [List.append_nil]; exact dw, fun v' H' xs' m5 hl5 _ d5 => k v' H' (z1 (m3.trans m5)) d5⟩
theorem sc_law_k02_exchanged : FnScope ["term", "values", "told", "leaf", "ahead"] ["term", "values"] (defScope s_law_k02_exchanged) := ⟨rfl, rfl, rfl, by decide +kernel, rfl, by decide +kernel, by decide +kernel⟩
def spOX (K : PySem.W.Frag) (N M : Nat) : Sp := fun vs H Q _ => ∃ (v vv : V) (t : Tm) (vals : List Tm), vs = [v, vv] ∧ Dt K H v t.pd ∧ t.wf ∧ t.depth ≤ N ∧ t.nodes ≤ 100000 ∧ Dt K H vv (.tuple (vals.map Tm.pd)) ∧ (∀ a ∈ vals, a.wf ∧ a.depth ≤ M ∧ a.nodes ≤ 100000) ∧ ∀ v' H', Same H H' → Dt K H' v' (t.led (gX vals) 0).pd → Q v' H'
theorem ok_oX {f : Addr} {fd : FuncData} {N M : Nat} (F : Fun K "_law_k02_exchanged" "_law_k02_exchanged" s_law_k02_exchanged f fd) (n_len : mg "len" = none) (D_law_rt_raised : Df P w K mg base "_law_rt_raised" (M + 2) ["term", "by"] (spOR K M 0))
    (D_law_rt_leaves : Df P w K mg base "_law_rt_leaves" (N + 1) ["term", "ahead"] (spLeaves K N)) (D_law_rt_with : Df P w K mg base "_law_rt_with" (N + 1) ["term", "leaves"] (spWith K N)) : FnOk P w K mg base CX0 (N + M + 3) f fd ["term", "values"] (spOX K N M) := by
  refine F.ok sc_law_k02_exchanged (fun vs H Q E h => ?_) (fun cdv A outer s H vs Q E hr h => ?_)
  · obtain ⟨v, vv, t, vals, rfl, hv, wf, hd, hnd, hvv, hva, k⟩ := h; rfl
  · obtain ⟨v, vv, t, vals, rfl, hv, wf, hd, hnd, hvv, hva, k⟩ := h
    have nd := sc_law_k02_exchanged.nd
    refine ⟨_, (pss_cons (ps_set (i := 2) nd rfl (Or.inl rfl) (pe_lstN pa_nil))
      (pss_cons (ps_for PassesOwn.never rfl (pi_seq (pe_df D_law_rt_leaves hr (by omega) (pa_cons (pv 0) (pa_cons pe_int pa_nil)))) (pg_tup rfl (pgs_cons (pg_name (i := 3) nd rfl (Or.inl rfl)) (pgs_cons (pg_name (i := 4) nd rfl (Or.inl rfl)) pgs_nil)))
        (pss_one (ps_expr (pe_bm PySem.F.plainAttrs_list PySem.F.slot_list_append PySem.F.type_list_append mt_append (pv 2) (pa_cons (pe_ifExp (pt_w (PW.pt (pw_and (pt_cmpR (uEq hr.units) (pe_ix ix_seq (pv 3) pe_int (fun _ _ => rfl)) pe_str (nomark _)) (pw_and1 (pt_cmpR op_lt (pe_ix ix_seq (pv 3) pe_int (fun _ _ => rfl)) (pe_callB uLen (by rfl) n_len (by decide +kernel) (pa_cons (pv 1) pa_nil)) (nomark _)))))) (pe_df D_law_rt_raised hr (by omega) (pa_cons (pe_ix ix_seq (pv 1) (pe_ix ix_seq (pv 3) pe_int (fun _ _ => rfl)) (fun _ _ => rfl)) (pa_cons (pv 4) pa_nil))) (pv 3)) pa_nil)))))
      (pss_one (ps_ret (pe_df D_law_rt_with hr (by omega) (pa_cons (pv 0) (pa_cons (pv 2) pa_nil))))))), ?_⟩
    refine lst_new (Nat.zero_le _) fun lt nlt => ?_
    have e1 := same_new (o := .lst []) nlt
    refine ⟨_, rfl, v, t, 0, rfl, hv.same e1, wf, by omega, hnd, fun ll zs H2 e2 nll hll dll => ⟨ll, rfl, .inl ⟨⟨_, SqL.of hll⟩, ?_⟩⟩⟩
    have lt2 : H2 lt = some (.lst []) := e2 _ _ upd_same
    have ne : ll ≠ lt := fun z => by rw [z, upd_same] at nll; cases nll
    have z1 : ∀ {H3 : Hp}, Mu lt H2 H3 → Same H H3 := fun m b o h => m b o (ne_of_none h nlt) (e2 _ _ (e1 _ _ h))
    have lz : zs.length = (t.leaves 0).length := by rw [dll.length, List.length_map]
    have l1 := t.leaves_len 0
    refine for_list (K := K) (a := ll) (xs := zs) (fun i σ H3 => ∃ (v3 v4 : Option V) (ws : List V), σ = [some v, some vv, some (.ref lt), v3, v4] ∧ Mu lt H2 H3 ∧ H3 lt = some (.lst ws) ∧ DtAll K H3 ws ((toldL (gX vals) ((t.leaves 0).take i)).map Tm.pd))
      ⟨none, none, [], rfl, fun _ _ _ h => h, lt2, .nil⟩ (fun i σ H3 _ ⟨_, _, _, _, m, _⟩ => SqL.of (m _ _ ne hll)) ?_ ?_
    · rintro i x σ H3 hx ⟨v3, v4, ws, rfl, m3, hl3, dw⟩
      obtain ⟨u, m, p, vu, hu, rfl, hT, du⟩ := parts_at (DtAll.keep (m3.tk lt2) _ dll) hx
      have hsz : ws.length < sizeLine := by
        rw [dw.length, List.length_map, toldL, List.length_map, List.length_take, sizeLine_eq]; omega
      have lf : u.isLeaf = true := leaves_leaf t 0 _ (List.mem_of_getElem? hu)
      have wfu : u.wf := leaves_wf t 0 wf _ (List.mem_of_getElem? hu)
      have step : ∀ (y : V) (H4 : Hp), Same H3 H4 → Dt K H4 y ((gX vals) u m).pd → ∃ ws', Mu lt H2 (upd H4 lt (.lst (ws ++ [y]))) ∧ (upd H4 lt (.lst (ws ++ [y]))) lt = some (.lst ws') ∧ DtAll K (upd H4 lt (.lst (ws ++ [y]))) ws' ((toldL (gX vals) ((t.leaves 0).take (i + 1))).map Tm.pd) := fun y H4 e4 dy => by
        refine ⟨ws ++ [y], m3.trans ((Mu.same e4).trans fun b o n h => by rw [upd_ne n]; exact h), upd_same, ?_⟩
        rw [take_snoc hu, toldL_app, List.map_append]
        exact DtAll.append (DtAll.keep ((TK.same e4).trans (TK.lst (e4 _ _ hl3))) _ dw) (.cons (Dt.keep (TK.lst (e4 _ _ hl3)) _ dy) .nil)
      have z3 := z1 m3
      refine ⟨p, _, rfl, hT, rfl, vu, _, rfl, .int m, _, rfl, rfl, ?_⟩
      refine ⟨_, rfl, .inl ⟨rfl, _, .inl (.inl hl3)⟩, ⟨?_⟩⟩
      obtain ⟨p', xs, rfl, hp⟩ := dt_word du
      obtain ⟨q, ys, eq, hq, dq⟩ := Dt.tupI (hvv.same z3)
      have ly : ys.length = vals.length := by rw [dq.length, List.length_map]
      refine ⟨_, rfl, ixt (i := 0) hp rfl (eq_f rfl (by rw [word_w nl1 nl2 lf]) ⟨_, rfl, ?_⟩)⟩
      cases hb : u.isW "local" with
      | false =>
        obtain ⟨ws', q1, q2, q3⟩ := step _ H3 (Same.refl _) (by rw [gX_off hb]; exact du)
        exact iteF (iteF ⟨_, rfl, lt, ws, _, rfl, rfl, hl3, hsz, _, _, ws', rfl, q1, q2, q3⟩)
      | true =>
        obtain ⟨j, rfl⟩ := isW_num hb
        obtain ⟨p2, e, hp2⟩ := dt_num du
        cases e
        have j0 : 0 ≤ j := by
          rcases wfu with ⟨_, h, _⟩ | ⟨_, h⟩ <;> exact h
        subst eq
        refine iteT ⟨_, rfl, ixt (i := 1) hp2 rfl ⟨_, rfl, _, ys.length, rfl, .inr ⟨ys, hq, rfl⟩, _, _, rfl, rfl, _, rfl, ite2 (fun hc => ?_) (fun hc => ?_)⟩⟩
        · have hc' : j < (vals.length : Int) := by rw [← ly]; exact of_decide_eq_true hc
          obtain ⟨i', rfl⟩ : ∃ i' : Nat, j = i' := ⟨j.toNat, by omega⟩
          have hj : i' < vals.length := by omega
          obtain ⟨yv, hy, dy⟩ := dq.get' (i := i') (d := (vals[i']).pd) (by rw [List.getElem?_map, List.getElem?_eq_getElem hj]; rfl)
          have hm := hva _ (List.getElem_mem hj)
          have e5 : gX vals (.num "local" (i' : Int)) m = (vals[i']).led (gR m) 0 := by
            show (if ("local" : Str) = "local" ∧ (i' : Int) < vals.length then (vals.getD (i' : Int).toNat (.name "f")).led (gR m) 0 else .num "local" i') = _
            rw [if_pos ⟨rfl, hc'⟩, Int.toNat_natCast, List.getD_eq_getElem?_getD, List.getElem?_eq_getElem hj]
            rfl
          refine ⟨_, rfl, _, rfl, ixt (i := 1) hp2 rfl (ixt (i := i') hq hy ⟨_, rfl, yv, vals[i'], m, rfl, dy, hm.1, hm.2.1, hm.2.2, fun y H4 e4 d4 => ?_⟩)⟩
          obtain ⟨ws', q1, q2, q3⟩ := step y H4 e4 (by rw [e5]; exact d4)
          exact ⟨lt, ws, _, rfl, rfl, e4 _ _ hl3, hsz, _, _, ws', rfl, q1, q2, q3⟩
        · have e5 : gX vals (.num "local" j) m = .num "local" j := if_neg fun z => hc (decide_eq_true (by rw [ly]; exact z.2))
          obtain ⟨ws', q1, q2, q3⟩ := step _ H3 (Same.refl _) (by rw [e5]; exact du)
          exact ⟨_, rfl, lt, ws, _, rfl, rfl, hl3, hsz, _, _, ws', rfl, q1, q2, q3⟩
    · rintro σ H3 ⟨v3, v4, ws, rfl, m3, hl3, dw⟩
      rw [lz, List.take_length] at dw
      refine ⟨_, rfl, _, rfl, v, t, lt, ws, (gX vals), 0, [], rfl, hv.same (z1 m3), wf, by omega, hl3, by rw [List.append_nil]; exact dw, fun v' H' xs' m5 hl5 _ d5 => k v' H' (z1 (m3.trans m5)) d5⟩
/-! ### told -/
theorem Same.mutN {H H1 : Hp} {l : Addr} {o : HO} (e : Same H H1) (h : H l = none) : Same H (upd H1 l o) := fun b u q => by rw [upd_ne (ne_of_none q h)]; exact e b u q
def toldN (a b : Int) (i : Int) : Tm := .num "local" (if i = a then 701 else if i = b then 700 else i)
def toldV (a b : Int) : List Tm := (List.range 8).map fun (i : Nat) => toldN a b (i : Int)
theorem sc_law_k02_told : FnScope ["number", "other", "found", "one"] ["number", "other"] (defScope s_law_k02_told) := ⟨rfl, rfl, rfl, by decide +kernel, rfl, by decide +kernel, by decide +kernel⟩
def spTold (K : PySem.W.Frag) : Sp := fun vs H Q _ => ∃ (a b : Int), vs = [.int a, .int b] ∧ ∀ v' H', Same H H' → Dt K H' v' (.tuple ((toldV a b).map Tm.pd)) → Q v' H'
theorem ok_told {f : Addr} {fd : FuncData} (F : Fun K "_law_k02_told" "_law_k02_told" s_law_k02_told f fd) (n_range : mg "range" = none) (n_tuple : mg "tuple" = none) : FnOk P w K mg base CX0 1 f fd ["number", "other"] (spTold K) := by
  refine F.ok sc_law_k02_told (fun vs H Q E h => ?_) (fun cdv A outer s H vs Q E hr h => ?_)
  · obtain ⟨a, b, rfl, _⟩ := h; rfl
  · obtain ⟨a, b, rfl, k⟩ := h
    have nd := sc_law_k02_told.nd
    refine ⟨_, (pss_cons (ps_set (i := 2) nd rfl (Or.inl rfl) (pe_lstN pa_nil))
      (pss_cons (ps_for PassesOwn.never rfl (pi_range1 rfl n_range (pa_cons pe_int pa_nil)) (pg_name (i := 3) nd rfl (Or.inl rfl))
        (pss_one (ps_expr (pe_bm PySem.F.plainAttrs_list PySem.F.slot_list_append PySem.F.type_list_append mt_append (pv 2) (pa_cons (pe_tupN (pa_cons pe_str (pa_cons (pe_ifExp (pt_cmpR (uEq hr.units) (pv 3) (pv 0) (nomark _)) pe_int (pe_ifExp (pt_cmpR (uEq hr.units) (pv 3) (pv 1) (nomark _)) pe_int (pv 3))) pa_nil))) pa_nil)))))
      (pss_one (ps_ret (pe_callTy call_tuple_of (by rfl) n_tuple (by decide +kernel) (pa_cons (pv 2) pa_nil)))))), ?_⟩
    refine lst_new (Nat.zero_le _) fun lt nlt => ?_
    refine ⟨8, rfl, by decide, by decide, for_range (fun i σ H3 => ∃ (v3 : Option V) (ws : List V), σ = [some (.int a), some (.int b), some (.ref lt), v3] ∧ Same H H3 ∧ H3 lt = some (.lst ws) ∧ DtAll K H3 ws (((List.range i).map fun (i : Nat) => toldN a b (i : Int)).map Tm.pd))
      ⟨none, [], rfl, same_new nlt, upd_same, .nil⟩ ?_ ?_⟩
    · rintro i σ H3 hi ⟨v3, ws, rfl, e3, hl3, dw⟩
      have hi8 : i < 8 := hi
      have hsz : ws.length < sizeLine := by rw [dw.length, List.length_map, List.length_map, List.length_range, sizeLine_eq]; omega
      have fin : ∀ (z : Int), toldN a b i = .num "local" z → rNewT [.str "local", .int z] H3 (fun y H4 => ∃ l xs y', V.ref lt = .ref l ∧ [y] = [y'] ∧ H4 l = some (.lst xs) ∧ xs.length < sizeLine ∧ ∃ (v3 : Option V) (ws : List V), [some (V.int a), some (.int b), some (.ref lt), some (.int (0 + (i : Int)))] = [some (V.int a), some (.int b), some (.ref lt), v3] ∧ Same H (upd H4 l (.lst (xs ++ [y']))) ∧ (upd H4 l (.lst (xs ++ [y']))) lt = some (.lst ws) ∧ DtAll K (upd H4 l (.lst (xs ++ [y']))) ws (((List.range (i + 1)).map fun (i : Nat) => toldN a b (i : Int)).map Tm.pd)) := fun z ez =>
        tup_new (K := K) (ds := [.str "local", .int z]) (.cons (.str _) (.cons (.int _) .nil)) (by show 2 ≤ 1000; decide) fun y H4 e4 d4 => by
          refine ⟨lt, ws, y, rfl, rfl, e4 _ _ hl3, hsz, _, ws ++ [y], rfl, Same.mutN (e3.trans e4) nlt, upd_same, ?_⟩
          rw [List.range_succ, List.map_append, List.map_append]
          refine DtAll.append (DtAll.keep ((TK.same e4).trans (TK.lst (e4 _ _ hl3))) _ dw) (.cons (Dt.keep (TK.lst (e4 _ _ hl3)) _ ?_) .nil)
          show Dt K H4 y (toldN a b i).pd
          rw [ez]; exact d4
      refine ⟨_, rfl, .inl ⟨rfl, _, .inl (.inl hl3)⟩, ?_⟩
      refine ⟨_, rfl, _, rfl, eq_f rfl rfl ⟨_, rfl, ite2 (fun hc => ?_) (fun hc => ?_)⟩⟩
      · have e : (0 + (i : Int)) = a := by
          have : decide (V.int (0 + (i : Int)) = V.int a) = true := by simpa using hc
          have := of_decide_eq_true this
          injection this
        exact fin 701 (by unfold toldN; rw [if_pos (by omega)])
      · have e : ¬ (i : Int) = a := fun z => hc (by rw [Int.zero_add, z]; simp)
        refine ⟨_, rfl, _, rfl, eq_f rfl rfl ⟨_, rfl, ite2 (fun hc2 => ?_) (fun hc2 => ?_)⟩⟩
        · have e2 : (0 + (i : Int)) = b := by
            have : decide (V.int (0 + (i : Int)) = V.int b) = true := by simpa using hc2
            have := of_decide_eq_true this
            injection this
          exact fin 700 (by unfold toldN; rw [if_neg e, if_pos (by omega)])
        · have e2 : ¬ (i : Int) = b := fun z => hc2 (by rw [Int.zero_add, z]; simp)
          exact ⟨_, rfl, fin (0 + (i : Int)) (by unfold toldN; rw [if_neg e, if_neg e2, Int.zero_add])⟩
    · rintro σ H3 ⟨v3, ws, rfl, e3, hl3, dw⟩
      exact ⟨_, rfl, lt, ws, rfl, .inl ⟨SqL.of hl3, fun q nq => k _ _ (e3.trans (same_new nq)) (.tup (SqT.of upd_same) (DtAll.keep (TK.new nq) _ dw))⟩⟩
end
end RS

/-! Subst: the plain laws of raising, putting in, opening, binding, exchanging. No program here. -/
namespace RS
open PySem

/-! ### led after led, led alike -/
theorem led_led (g h : Tm → Int → Tm) (d : Int) : ∀ (t : Tm) (n : Int), (t.led g n).led h (n + d) = t.led (fun u m => (g u m).led h (m + d)) n
  | .bin w m a b, n => by simp only [Tm.led]; rw [led_led g h d a n, show n + d + 1 = n + 1 + d by omega, led_led g h d b (n + 1)]
  | .letT a b c, n => by simp only [Tm.led]; rw [led_led g h d a n, led_led g h d b n, show n + d + 1 = n + 1 + d by omega, led_led g h d c (n + 1)]
  | .app a m b, n => by simp only [Tm.led]; rw [led_led g h d a n, led_led g h d b n]
  | .num w i, n => rfl
  | .name x, n => rfl
  | .count x i, n => rfl
theorem led_led0 (g h : Tm → Int → Tm) (t : Tm) (n : Int) : (t.led g n).led h n = t.led (fun u m => (g u m).led h m) n := by
  have := led_led g h 0 t n
  simpa only [Int.add_zero] using this
/-- leaves that are well formed, at their places, told alike: the terms are alike -/
theorem led_congr {g h : Tm → Int → Tm} : ∀ (t : Tm) (n : Int), t.wf → (∀ u m, u.isLeaf = true → u.wf → n ≤ m → g u m = h u m) → t.led g n = t.led h n
  | .bin w m a b, n, wf, e => by simp only [Tm.led]; rw [led_congr a n wf.2.2.1 e, led_congr b (n + 1) wf.2.2.2 fun u m l w h => e u m l w (by omega)]
  | .letT a b c, n, wf, e => by simp only [Tm.led]; rw [led_congr a n wf.1 e, led_congr b n wf.2.1 e, led_congr c (n + 1) wf.2.2 fun u m l w h => e u m l w (by omega)]
  | .app a m b, n, wf, e => by simp only [Tm.led]; rw [led_congr a n wf.1 e, led_congr b n wf.2.2 e]
  | .num w i, n, wf, e => e _ _ rfl wf (Int.le_refl _)
  | .name x, n, wf, e => e _ _ rfl wf (Int.le_refl _)
  | .count x i, n, wf, e => e _ _ rfl wf (Int.le_refl _)
theorem led_same {g : Tm → Int → Tm} (t : Tm) (n : Int) (wf : t.wf) (e : ∀ u m, u.isLeaf = true → u.wf → n ≤ m → g u m = u) : t.led g n = t := by
  rw [led_congr (h := fun u _ => u) t n wf e]
  exact led_id (fun _ _ _ => rfl) t n

/-! ### a leaf's cases -/
theorem gR_lt {b m i : Int} (h : i < m) : gR b (.num "bound" i) m = .num "bound" i := if_neg fun z => by have := z.2; omega
theorem gR_ge {b m i : Int} (h : m ≤ i) : gR b (.num "bound" i) m = .num "bound" (i + b) := if_pos ⟨rfl, h⟩
theorem gP_lt {v : Tm} {m i : Int} (h : i < m) : gP v (.num "bound" i) m = .num "bound" i := if_neg fun z => by have := z.2; omega
theorem gP_eq {v : Tm} {m : Int} : gP v (.num "bound" m) m = v.led (gR m) 0 := by
  show (if ("bound" : Str) = "bound" ∧ m ≤ m then (if m = m then v.led (gR m) 0 else .num "bound" (m - 1)) else .num "bound" m) = _
  rw [if_pos ⟨rfl, Int.le_refl _⟩, if_pos rfl]
theorem gP_gt {v : Tm} {m i : Int} (h : m < i) : gP v (.num "bound" i) m = .num "bound" (i - 1) := by
  show (if ("bound" : Str) = "bound" ∧ m ≤ i then (if i = m then v.led (gR m) 0 else .num "bound" (i - 1)) else .num "bound" i) = _
  rw [if_pos ⟨rfl, by omega⟩, if_neg (by omega)]
theorem isW_led {g : Tm → Int → Tm} {u : Tm} {m : Int} (lf : u.isLeaf = true) : u.led g m = g u m := by
  cases u with
  | bin _ _ _ _ => cases lf
  | letT _ _ _ => cases lf
  | app _ _ _ => cases lf
  | _ => rfl
theorem off_local {k : Int} : (Tm.num "local" k).isW "bound" = false := by
  show decide (("local" : Str) = "bound") = false
  decide +kernel
theorem bound_off {k : Int} : (Tm.num "bound" k).isW "local" = false := by
  show decide (("bound" : Str) = "local") = false
  decide +kernel
theorem led_num {g : Tm → Int → Tm} {w : Str} {i m : Int} : (Tm.num w i).led g m = g (.num w i) m := rfl
theorem LN_off {k : Int} {u : Tm} (h : u.isW "local" = false) : u.isLN k = false := by
  cases u with
  | num w i =>
    have : ¬ w = "local" := of_decide_eq_false h
    show (decide (w = "local") && decide (i = k)) = false
    rw [decide_eq_false this]; rfl
  | _ => rfl
theorem LN_num {k i : Int} (h : i ≠ k) : (Tm.num "local" i).isLN k = false := by
  show (decide (("local" : Str) = "local") && decide (i = k)) = false
  rw [decide_eq_false h, Bool.and_false]
theorem LN_eq {k : Int} : (Tm.num "local" k).isLN k = true := by
  show (decide (("local" : Str) = "local") && decide (k = k)) = true
  rw [decide_eq_true rfl, decide_eq_true rfl]; rfl
/-- a leaf is a bound one, a local, or neither -/
theorem leaf3 {u : Tm} (lf : u.isLeaf = true) : (∃ i, u = .num "bound" i) ∨ (∃ k, u = .num "local" k) ∨ (u.isW "bound" = false ∧ u.isW "local" = false) := by
  cases hb : u.isW "bound" with
  | true => exact .inl (isW_num hb)
  | false =>
    cases hl : u.isW "local" with
    | true => exact .inr (.inl (isW_num hl))
    | false => exact .inr (.inr ⟨rfl, rfl⟩)

/-! ### raised and put in -/
theorem raise_raise {b m : Int} (hb : 0 ≤ b) (hm : 0 ≤ m) (v : Tm) (wf : v.wf) (n : Int) : (v.led (gR m) n).led (gR b) (n + m) = (v.led (gR b) n).led (gR m) n := by
  rw [led_led, led_led0]
  refine led_congr v n wf fun u k lf _ _ => ?_
  rcases leaf3 lf with ⟨i, rfl⟩ | ⟨k, rfl⟩ | ⟨h1, _⟩
  · by_cases h : i < k
    · rw [gR_lt h, gR_lt h, led_num, led_num, gR_lt h, gR_lt (by omega)]
    · rw [gR_ge (by omega), gR_ge (by omega), led_num, led_num, gR_ge (by omega), gR_ge (by omega)]
      congr 1; omega
  · rw [gR_off off_local, gR_off off_local, led_num, led_num, gR_off off_local, gR_off off_local]
  · rw [gR_off h1, gR_off h1, isW_led lf, isW_led lf, gR_off h1, gR_off h1]
theorem raise_put {b : Int} (hb : 0 ≤ b) (body v : Tm) (wfb : body.wf) (wfv : v.wf) : (body.led (gP v) 0).led (gR b) 0 = (body.led (gR b) 1).led (gP (v.led (gR b) 0)) 0 := by
  have e := led_led (gR b) (gP (v.led (gR b) 0)) (-1) body 1
  rw [show (1 : Int) + -1 = 0 by decide] at e
  rw [e]
  rw [led_led0]
  have shift : ∀ (g : Tm → Int → Tm) (t : Tm) (n : Int), t.led (fun u m => g u (m + -1)) (n + 1) = t.led g n := fun g t => by
    induction t with
    | bin w m a b iha ihb => intro n; simp only [Tm.led]; rw [iha, ihb]
    | letT a b c iha ihb ihc => intro n; simp only [Tm.led]; rw [iha, ihb, ihc]
    | app a m b iha ihb => intro n; simp only [Tm.led]; rw [iha, ihb]
    | num w i => intro n; show g _ (n + 1 + -1) = g _ n; rw [show n + 1 + -1 = n by omega]
    | name x => intro n; show g _ (n + 1 + -1) = g _ n; rw [show n + 1 + -1 = n by omega]
    | count x i => intro n; show g _ (n + 1 + -1) = g _ n; rw [show n + 1 + -1 = n by omega]
  have s := shift (fun u m => (gR b u (m + 1)).led (gP (v.led (gR b) 0)) m) body 0
  have s' : body.led (fun u m => (gR b u m).led (gP (v.led (gR b) 0)) (m + -1)) 1 = body.led (fun u m => (gR b u (m + 1)).led (gP (v.led (gR b) 0)) m) 0 := by
    rw [← s]
    refine led_congr body 1 wfb fun u m _ _ _ => ?_
    show _ = (gR b u (m + -1 + 1)).led _ (m + -1)
    rw [show m + -1 + 1 = m by omega]
  rw [s']
  refine led_congr body 0 wfb fun u m lf wfu hm => ?_
  rcases leaf3 lf with ⟨i, rfl⟩ | ⟨k, rfl⟩ | ⟨h1, _⟩
  · by_cases h : i < m
    · rw [gP_lt h, gR_lt (by omega), led_num, led_num, gR_lt h, gP_lt h]
    · by_cases h2 : i = m
      · subst h2
        rw [gP_eq, gR_lt (by omega), led_num, gP_eq]
        have := raise_raise hb hm v wfv 0
        rw [Int.zero_add] at this
        exact this
      · rw [gP_gt (by omega), gR_ge (by omega), led_num, led_num, gR_ge (by omega), gP_gt (by omega)]
        congr 1; omega
  · rw [gP_off off_local, gR_off off_local, led_num, led_num, gR_off off_local, gP_off off_local]
  · rw [gP_off h1, gR_off h1, isW_led lf, isW_led lf, gR_off h1, gP_off h1]

/-! ### opened and bound -/
theorem led_local {m k : Int} : (Tm.num "local" k).led (gR m) 0 = .num "local" k := by rw [led_num, gR_off off_local]
theorem gB_bound {k m i : Int} : gB k (.num "bound" i) m = gR 1 (.num "bound" i) m := gB_F (LN_off (bound_off))
theorem bound_opened {f : Int} (body : Tm) (wfb : body.wf) (hl : body.loc f) : (body.led (gP (.num "local" f)) 0).led (gB f) 0 = body := by
  rw [led_led0]
  have go : ∀ (t : Tm) (n : Int), t.wf → t.loc f → t.led (fun u m => (gP (.num "local" f) u m).led (gB f) m) n = t := fun t => by
    have leaf : ∀ (u : Tm) (m : Int), u.isLeaf = true → u.loc f → (gP (.num "local" f) u m).led (gB f) m = u := fun u m lf hu => by
      rcases leaf3 lf with ⟨i, rfl⟩ | ⟨k, rfl⟩ | ⟨h1, h2⟩
      · by_cases h : i < m
        · rw [gP_lt h, led_num, gB_bound, gR_lt h]
        · by_cases h2 : i = m
          · subst h2
            rw [gP_eq, led_local, led_num, gB_T LN_eq]
          · rw [gP_gt (by omega), led_num, gB_bound, gR_ge (by omega)]
            congr 1; omega
      · have hk : k < f := hu rfl
        rw [gP_off off_local, led_num, gB_F (LN_num (by omega)), gR_off off_local]
      · rw [gP_off h1, isW_led lf, gB_F (LN_off h2), gR_off h1]
    induction t with
    | bin w m a b iha ihb => intro n wf hl; simp only [Tm.led]; rw [iha n wf.2.2.1 hl.1, ihb (n + 1) wf.2.2.2 hl.2]
    | letT a b c iha ihb ihc => intro n wf hl; simp only [Tm.led]; rw [iha n wf.1 hl.1, ihb n wf.2.1 hl.2.1, ihc (n + 1) wf.2.2 hl.2.2]
    | app a m b iha ihb => intro n wf hl; simp only [Tm.led]; rw [iha n wf.1 hl.1, ihb n wf.2.2 hl.2]
    | num w i => intro n wf hl; exact leaf _ _ rfl hl
    | name x => intro n wf hl; exact leaf _ _ rfl hl
    | count x i => intro n wf hl; exact leaf _ _ rfl hl
  exact go body 0 wfb hl
theorem opened_bound {k : Int} (v : Tm) (wfv : v.wf) : (v.led (gB k) 0).led (gP (.num "local" k)) 0 = v := by
  rw [led_led0]
  refine led_same v 0 wfv fun u m lf wfu hm => ?_
  rcases leaf3 lf with ⟨i, rfl⟩ | ⟨j, rfl⟩ | ⟨h1, h2⟩
  · rw [gB_bound]
    by_cases h : i < m
    · rw [gR_lt h, led_num, gP_lt h]
    · rw [gR_ge (by omega), led_num, gP_gt (by omega)]
      congr 1; omega
  · by_cases h : j = k
    · subst h
      rw [gB_T LN_eq, led_num, gP_eq, led_local]
    · rw [gB_F (LN_num h), gR_off off_local, led_num, gP_off off_local]
  · rw [gB_F (LN_off h2), gR_off h1, isW_led lf, gP_off h1]
theorem gX_num {vals : List Tm} {k m : Int} (h0 : 0 ≤ k) (h : k < vals.length) : gX vals (.num "local" k) m = (vals.getD k.toNat (.name "f")).led (gR m) 0 := if_pos ⟨rfl, h⟩
theorem gX_out {vals : List Tm} {k m : Int} (h : (vals.length : Int) ≤ k) : gX vals (.num "local" k) m = .num "local" k := if_neg fun z => by have := z.2; omega
theorem toldV_at {a b k : Int} (h0 : 0 ≤ k) (h8 : k < 8) : (toldV a b).getD k.toNat (.name "f") = toldN a b k := by
  obtain ⟨j, rfl⟩ : ∃ j : Nat, k = j := ⟨k.toNat, by omega⟩
  have hj : j < 8 := by omega
  rw [Int.toNat_natCast, List.getD_eq_getElem?_getD, toldV, List.getElem?_map, List.getElem?_range hj]
  rfl
theorem opened_two {a : Int} (h0 : 0 ≤ a) (h5 : a ≤ 5) (v : Tm) (wfv : v.wf) (hl : v.loc 4) :
    ((((v.led (gB a) 0).led (gB (a + 1)) 0).led (gP (.num "local" 700)) 0).led (gP (.num "local" 701)) 0) = v.led (gX (toldV a (a + 1))) 0 := by
  rw [led_led0 (gB a) (gB (a + 1)) v, led_led0 _ (gP (.num "local" 700)) v, led_led0 _ (gP (.num "local" 701)) v]
  have leaf : ∀ (u : Tm) (m : Int), u.isLeaf = true → u.wf → u.loc 4 → 0 ≤ m → ((((gB a u m).led (gB (a + 1)) m).led (gP (.num "local" 700)) m).led (gP (.num "local" 701)) m) = gX (toldV a (a + 1)) u m := fun u m lf wfu hlu hm => by
    have l8 : ((toldV a (a + 1)).length : Int) = 8 := by simp [toldV]
    rcases leaf3 lf with ⟨i, rfl⟩ | ⟨j, rfl⟩ | ⟨h1, h2⟩
    · rw [gX_off (bound_off), gB_bound]
      by_cases h : i < m
      · rw [gR_lt h, led_num, gB_bound, gR_lt h, led_num, gP_lt h, led_num, gP_lt h]
      · rw [gR_ge (by omega), led_num, gB_bound, gR_ge (by omega), led_num, gP_gt (by omega), led_num, gP_gt (by omega)]
        congr 1; omega
    · have j0 : 0 ≤ j := by
        rcases wfu with ⟨_, h, _⟩ | ⟨_, h⟩ <;> exact h
      have j4 : j < 4 := hlu rfl
      rw [gX_num j0 (by omega), toldV_at j0 (by omega)]
      by_cases h : j = a
      · subst h
        rw [gB_T LN_eq, led_num, gB_bound, gR_ge (Int.le_refl _), led_num, gP_gt (by omega), show m + 1 - 1 = m by omega, led_num, gP_eq, led_local]
        unfold toldN
        rw [if_pos rfl, led_local]
      · by_cases h2 : j = a + 1
        · subst h2
          rw [gB_F (LN_num (by omega)), gR_off off_local, led_num, gB_T LN_eq, led_num, gP_eq, led_local, led_num, gP_off off_local]
          unfold toldN
          rw [if_neg (by omega), if_pos rfl, led_local]
        · rw [gB_F (LN_num h), gR_off off_local, led_num, gB_F (LN_num h2), gR_off off_local, led_num, gP_off off_local, led_num, gP_off off_local]
          unfold toldN
          rw [if_neg h, if_neg h2, led_local]
    · rw [gB_F (LN_off h2), gR_off h1, isW_led lf, gB_F (LN_off h2), gR_off h1, isW_led lf, gP_off h1, isW_led lf, gP_off h1, gX_off h2]
  have go : ∀ (t : Tm) (n : Int), t.wf → t.loc 4 → 0 ≤ n → t.led (fun u m => (((gB a u m).led (gB (a + 1)) m).led (gP (.num "local" 700)) m).led (gP (.num "local" 701)) m) n = t.led (gX (toldV a (a + 1))) n := fun t => by
    induction t with
    | bin w m a b iha ihb => intro n wf hl hn; simp only [Tm.led]; rw [iha n wf.2.2.1 hl.1 hn, ihb (n + 1) wf.2.2.2 hl.2 (by omega)]
    | letT a b c iha ihb ihc => intro n wf hl hn; simp only [Tm.led]; rw [iha n wf.1 hl.1 hn, ihb n wf.2.1 hl.2.1 hn, ihc (n + 1) wf.2.2 hl.2.2 (by omega)]
    | app a m b iha ihb => intro n wf hl hn; simp only [Tm.led]; rw [iha n wf.1 hl.1 hn, ihb n wf.2.2 hl.2 hn]
    | num w i => intro n wf hl hn; exact leaf _ _ rfl wf hl hn
    | name x => intro n wf hl hn; exact leaf _ _ rfl wf hl hn
    | count x i => intro n wf hl hn; exact leaf _ _ rfl wf hl hn
  exact go v 0 wfv hl (Int.le_refl _)
theorem exchanged_none (t : Tm) (wf : t.wf) : t.led (gX []) 0 = t := by
  refine led_same t 0 wf fun u m lf wfu _ => ?_
  rcases leaf3 lf with ⟨i, rfl⟩ | ⟨j, rfl⟩ | ⟨h1, h2⟩
  · exact gX_off (bound_off)
  · have j0 : 0 ≤ j := by
      rcases wfu with ⟨_, h, _⟩ | ⟨_, h⟩ <;> exact h
    exact gX_out j0
  · exact gX_off h2

/-! ### what becomes of well-formedness, numbers, depth, nodes -/
theorem led_wf {g : Tm → Int → Tm} : ∀ (t : Tm) (n : Int), t.wf → (∀ u m, u.isLeaf = true → u.wf → n ≤ m → (g u m).wf) → (t.led g n).wf
  | .bin w m a b, n, wf, e => ⟨wf.1, wf.2.1, led_wf a n wf.2.2.1 e, led_wf b (n + 1) wf.2.2.2 fun u m l w h => e u m l w (by omega)⟩
  | .letT a b c, n, wf, e => ⟨led_wf a n wf.1 e, led_wf b n wf.2.1 e, led_wf c (n + 1) wf.2.2 fun u m l w h => e u m l w (by omega)⟩
  | .app a m b, n, wf, e => ⟨led_wf a n wf.1 e, wf.2.1, led_wf b n wf.2.2 e⟩
  | .num w i, n, wf, e => e _ _ rfl wf (Int.le_refl _)
  | .name x, n, wf, e => e _ _ rfl wf (Int.le_refl _)
  | .count x i, n, wf, e => e _ _ rfl wf (Int.le_refl _)
theorem led_lt {g : Tm → Int → Tm} {B B' M : Int} : ∀ (t : Tm) (n : Int), t.lt B → 0 ≤ n → n + t.depth ≤ M → (∀ u m, u.isLeaf = true → u.lt B → 0 ≤ m → m ≤ M → (g u m).lt B') → (t.led g n).lt B'
  | .bin w m a b, n, h, h0, hM, e => by
    simp only [Tm.depth] at hM
    exact ⟨led_lt a n h.1 h0 (by omega) e, led_lt b (n + 1) h.2 (by omega) (by omega) e⟩
  | .letT a b c, n, h, h0, hM, e => by
    simp only [Tm.depth] at hM
    exact ⟨led_lt a n h.1 h0 (by omega) e, led_lt b n h.2.1 h0 (by omega) e, led_lt c (n + 1) h.2.2 (by omega) (by omega) e⟩
  | .app a m b, n, h, h0, hM, e => by
    simp only [Tm.depth] at hM
    exact ⟨led_lt a n h.1 h0 (by omega) e, led_lt b n h.2 h0 (by omega) e⟩
  | .num w i, n, h, h0, hM, e => e _ _ rfl h h0 (by omega)
  | .name x, n, h, h0, hM, e => e _ _ rfl h h0 (by omega)
  | .count x i, n, h, h0, hM, e => e _ _ rfl h h0 (by omega)
theorem led_depth {g : Tm → Int → Tm} {M : Nat} (e : ∀ u m, u.isLeaf = true → (g u m).depth ≤ M + 1) : ∀ (t : Tm) (n : Int), (t.led g n).depth ≤ t.depth + M
  | .bin w m a b, n => by have := led_depth e a n; have := led_depth e b (n + 1); simp only [Tm.led, Tm.depth]; omega
  | .letT a b c, n => by have := led_depth e a n; have := led_depth e b n; have := led_depth e c (n + 1); simp only [Tm.led, Tm.depth]; omega
  | .app a m b, n => by have := led_depth e a n; have := led_depth e b n; simp only [Tm.led, Tm.depth]; omega
  | .num w i, n => by have := e (.num w i) n rfl; simp only [Tm.depth]; exact Nat.le_trans this (by omega)
  | .name x, n => by have := e (.name x) n rfl; simp only [Tm.depth]; exact Nat.le_trans this (by omega)
  | .count x i, n => by have := e (.count x i) n rfl; simp only [Tm.depth]; exact Nat.le_trans this (by omega)
theorem led_nodes {g : Tm → Int → Tm} {c : Nat} (hc : 1 ≤ c) (e : ∀ u m, u.isLeaf = true → (g u m).nodes ≤ c) : ∀ (t : Tm) (n : Int), (t.led g n).nodes ≤ t.nodes * c
  | .bin w m a b, n => by have h1 := led_nodes hc e a n; have h2 := led_nodes hc e b (n + 1); simp only [Tm.led, Tm.nodes, Nat.add_mul]; omega
  | .letT a b d, n => by have h1 := led_nodes hc e a n; have h2 := led_nodes hc e b n; have h3 := led_nodes hc e d (n + 1); simp only [Tm.led, Tm.nodes, Nat.add_mul]; omega
  | .app a m b, n => by have h1 := led_nodes hc e a n; have h2 := led_nodes hc e b n; simp only [Tm.led, Tm.nodes, Nat.add_mul]; omega
  | .num w i, n => by have := e (.num w i) n rfl; simp only [Tm.nodes, Nat.one_mul]; exact this
  | .name x, n => by have := e (.name x) n rfl; simp only [Tm.nodes, Nat.one_mul]; exact this
  | .count x i, n => by have := e (.count x i) n rfl; simp only [Tm.nodes, Nat.one_mul]; exact this
end RS

/-! Law2: the law itself. -/
namespace RS
open PySem PySem.Spec PyProof.Rows L2 LamX NdefX

/-- well formed; its numbers, its depth, its nodes bounded -/
structure Bd (t : Tm) (B : Int) (D N : Nat) : Prop where
  wf : t.wf
  lt : t.lt B
  dep : t.depth ≤ D
  nod : t.nodes ≤ N
theorem Tm.lt_mono {B B' : Int} (h : B ≤ B') : ∀ t : Tm, t.lt B → t.lt B'
  | .num _ n, e => by have : n < B := e; show n < B'; omega
  | .name _, _ => trivial
  | .count _ _, _ => trivial
  | .bin _ _ a b, e => ⟨Tm.lt_mono h a e.1, Tm.lt_mono h b e.2⟩
  | .letT a b c, e => ⟨Tm.lt_mono h a e.1, Tm.lt_mono h b e.2.1, Tm.lt_mono h c e.2.2⟩
  | .app a _ b, e => ⟨Tm.lt_mono h a e.1, Tm.lt_mono h b e.2⟩
theorem Tm.loc_mono {B B' : Int} (h : B ≤ B') : ∀ t : Tm, t.loc B → t.loc B'
  | .num _ n, e => fun z => by have : n < B := e z; omega
  | .name _, _ => trivial
  | .count _ _, _ => trivial
  | .bin _ _ a b, e => ⟨Tm.loc_mono h a e.1, Tm.loc_mono h b e.2⟩
  | .letT a b c, e => ⟨Tm.loc_mono h a e.1, Tm.loc_mono h b e.2.1, Tm.loc_mono h c e.2.2⟩
  | .app a _ b, e => ⟨Tm.loc_mono h a e.1, Tm.loc_mono h b e.2⟩
theorem Bd.mono {t : Tm} {B B' : Int} {D N D' N' : Nat} (h : Bd t B D N) (a : B ≤ B') (b : D ≤ D') (c : N ≤ N') : Bd t B' D' N' := ⟨h.wf, Tm.lt_mono a t h.lt, Nat.le_trans h.dep b, Nat.le_trans h.nod c⟩
theorem Bd.okd {t : Tm} {B : Int} {D N : Nat} (h : Bd t B D N) (hB : B ≤ 1000000) : Okd t.pd D (45 * N) := (t.okd h.wf (Tm.lt_mono hB t h.lt)).mono h.dep (Nat.mul_le_mul_left 45 h.nod)
theorem leaf_dn {u : Tm} (lf : u.isLeaf = true) : u.depth = 1 ∧ u.nodes = 1 := by
  cases u with
  | num w i => exact ⟨rfl, rfl⟩
  | name x => exact ⟨rfl, rfl⟩
  | count x i => exact ⟨rfl, rfl⟩
  | _ => cases lf
/-- a leaf raised: another leaf -/
theorem gR_leaf {b m : Int} {u : Tm} (lf : u.isLeaf = true) : (gR b u m).depth = 1 ∧ (gR b u m).nodes = 1 := by
  rcases leaf3 lf with ⟨i, rfl⟩ | ⟨k, rfl⟩ | ⟨h, _⟩
  · by_cases h : i < m
    · rw [gR_lt h]; exact ⟨rfl, rfl⟩
    · rw [gR_ge (by omega)]; exact ⟨rfl, rfl⟩
  · rw [gR_off off_local]; exact ⟨rfl, rfl⟩
  · rw [gR_off h]; exact leaf_dn lf
theorem gR_wf {b m : Int} {u : Tm} (hb : 0 ≤ b) (lf : u.isLeaf = true) (wf : u.wf) : (gR b u m).wf := by
  rcases leaf3 lf with ⟨i, rfl⟩ | ⟨k, rfl⟩ | ⟨h, _⟩
  · have i0 : 0 ≤ i := by
      rcases wf with ⟨_, h, _⟩ | ⟨_, h⟩ <;> exact h
    by_cases h : i < m
    · rw [gR_lt h]; exact wf
    · rw [gR_ge (by omega)]; exact .inr ⟨.inr (.inl rfl), by omega⟩
  · rw [gR_off off_local]; exact wf
  · rw [gR_off h]; exact wf
theorem gR_below {b m B B' : Int} {u : Tm} (hb : 0 ≤ b) (hB : B + b ≤ B') (lf : u.isLeaf = true) (h : u.lt B) : (gR b u m).lt B' := by
  have up := Tm.lt_mono (show B ≤ B' by omega) u h
  rcases leaf3 lf with ⟨i, rfl⟩ | ⟨k, rfl⟩ | ⟨h1, _⟩
  · by_cases h2 : i < m
    · rw [gR_lt h2]; exact up
    · rw [gR_ge (by omega)]; have : i < B := h; show i + b < B'; omega
  · rw [gR_off off_local]; exact up
  · rw [gR_off h1]; exact up
theorem Bd.raised {t : Tm} {B B' b n : Int} {D N : Nat} (h : Bd t B D N) (hb : 0 ≤ b) (hn : 0 ≤ n) (hB : B + b ≤ B') : Bd (t.led (gR b) n) B' D N :=
  ⟨led_wf t n h.wf fun u m l w _ => gR_wf hb l w, led_lt (M := n + t.depth) t n h.lt hn (Int.le_refl _) fun u m l e _ _ => gR_below hb hB l e,
    Nat.le_trans (led_depth (M := 0) (fun u m l => by rw [(gR_leaf l).1]; exact Nat.le_refl _) t n) h.dep, Nat.le_trans (led_nodes (c := 1) (Nat.le_refl _) (fun u m l => by rw [(gR_leaf l).2]; exact Nat.le_refl _) t n) (by rw [Nat.mul_one]; exact h.nod)⟩
theorem Bd.put {t v : Tm} {B B2 B' : Int} {D N D2 N2 : Nat} (h : Bd t B D N) (hv : Bd v B2 (D2 + 1) N2) (h2 : 1 ≤ N2) (hB : B ≤ B') (hB2 : B2 + D ≤ B') : Bd (t.led (gP v) 0) B' (D + D2) (N * N2) := by
  refine ⟨led_wf t 0 h.wf fun u m l w hm => ?_, led_lt (M := D) t 0 h.lt (Int.le_refl _) (by have := h.dep; omega) fun u m l e hm hM => ?_, ?_, ?_⟩
  · rcases leaf3 l with ⟨i, rfl⟩ | ⟨k, rfl⟩ | ⟨h1, _⟩
    · have i0 : 0 ≤ i := by
        rcases w with ⟨_, h, _⟩ | ⟨_, h⟩ <;> exact h
      by_cases h1 : i < m
      · rw [gP_lt h1]; exact w
      · by_cases h2 : i = m
        · subst h2; rw [gP_eq]; exact (hv.raised hm (Int.le_refl _) (Int.le_refl _)).wf
        · rw [gP_gt (by omega)]; exact .inr ⟨.inr (.inl rfl), by omega⟩
    · rw [gP_off off_local]; exact w
    · rw [gP_off h1]; exact w
  · have up := Tm.lt_mono hB u e
    rcases leaf3 l with ⟨i, rfl⟩ | ⟨k, rfl⟩ | ⟨h1, _⟩
    · by_cases h1 : i < m
      · rw [gP_lt h1]; exact up
      · by_cases h2 : i = m
        · subst h2; rw [gP_eq]; exact (hv.raised hm (Int.le_refl _) (show B2 + i ≤ B' by omega)).lt
        · rw [gP_gt (by omega)]; have : i < B' := up; show i - 1 < B'; omega
    · rw [gP_off off_local]; exact up
    · rw [gP_off h1]; exact up
  · refine Nat.le_trans (led_depth (M := D2) (fun u m l => ?_) t 0) (Nat.add_le_add_right h.dep _)
    rcases leaf3 l with ⟨i, rfl⟩ | ⟨k, rfl⟩ | ⟨h1, _⟩
    · by_cases h1 : i < m
      · rw [gP_lt h1]; exact Nat.le_add_left _ _
      · by_cases h2 : i = m
        · subst h2; rw [gP_eq]
          exact Nat.le_trans (led_depth (M := 0) (fun u m l => by rw [(gR_leaf l).1]; exact Nat.le_refl _) v 0) hv.dep
        · rw [gP_gt (by omega)]; exact Nat.le_add_left _ _
    · rw [gP_off off_local]; exact Nat.le_add_left _ _
    · rw [gP_off h1, (leaf_dn l).1]; exact Nat.le_add_left _ _
  · refine Nat.le_trans (led_nodes (c := N2) h2 (fun u m l => ?_) t 0) (Nat.mul_le_mul_right _ h.nod)
    rcases leaf3 l with ⟨i, rfl⟩ | ⟨k, rfl⟩ | ⟨h1, _⟩
    · by_cases h1 : i < m
      · rw [gP_lt h1]; exact h2
      · by_cases h3 : i = m
        · subst h3; rw [gP_eq]
          exact Nat.le_trans (led_nodes (c := 1) (Nat.le_refl _) (fun u m l => by rw [(gR_leaf l).2]; exact Nat.le_refl _) v 0) (by rw [Nat.mul_one]; exact hv.nod)
        · rw [gP_gt (by omega)]; exact h2
    · rw [gP_off off_local]; exact h2
    · rw [gP_off h1, (leaf_dn l).2]; exact h2
theorem bd_local {k B : Int} (h0 : 0 ≤ k) (h : k < B) : Bd (.num "local" k) B 1 1 := ⟨.inr ⟨.inl rfl, h0⟩, h, Nat.le_refl _, Nat.le_refl _⟩
theorem Bd.opened {t : Tm} {B B' k : Int} {D N : Nat} (h : Bd t B D N) (h0 : 0 ≤ k) (hB : B ≤ B') (hk : k + 1 + D ≤ B') : Bd (t.led (gP (.num "local" k)) 0) B' D N := by
  have := h.put (v := .num "local" k) (D2 := 0) (N2 := 1) (bd_local h0 (show k < k + 1 by omega)) (Nat.le_refl _) hB hk
  rw [Nat.mul_one, Nat.add_zero] at this; exact this
theorem gB_case {k m : Int} {u : Tm} : (gB k u m = .num "bound" m) ∨ gB k u m = gR 1 u m := by
  cases h : u.isLN k with
  | true => exact .inl (gB_T h)
  | false => exact .inr (gB_F h)
theorem Bd.bound {t : Tm} {B B' k : Int} {D N : Nat} (h : Bd t B D N) (hB : B + 1 ≤ B') (hD : (D : Int) < B') : Bd (t.led (gB k) 0) B' D N := by
  refine ⟨led_wf t 0 h.wf fun u m l w hm => ?_, led_lt (M := D) t 0 h.lt (Int.le_refl _) (by have := h.dep; omega) fun u m l e hm hM => ?_, ?_, ?_⟩
  · rcases gB_case (k := k) (m := m) (u := u) with e | e
    · rw [e]; exact .inr ⟨.inr (.inl rfl), hm⟩
    · rw [e]; exact gR_wf (by decide) l w
  · rcases gB_case (k := k) (m := m) (u := u) with e' | e'
    · rw [e']; show m < B'; omega
    · rw [e']; exact gR_below (by decide) hB l e
  · refine Nat.le_trans (led_depth (M := 0) (fun u m l => ?_) t 0) h.dep
    rcases gB_case (k := k) (m := m) (u := u) with e | e
    · rw [e]; exact Nat.le_refl _
    · rw [e, (gR_leaf l).1]; exact Nat.le_refl _
  · refine Nat.le_trans (led_nodes (c := 1) (Nat.le_refl _) (fun u m l => ?_) t 0) (by rw [Nat.mul_one]; exact h.nod)
    rcases gB_case (k := k) (m := m) (u := u) with e | e
    · rw [e]; exact Nat.le_refl _
    · rw [e, (gR_leaf l).2]; exact Nat.le_refl _
theorem gX_case {vals : List Tm} {u : Tm} {m : Int} (lf : u.isLeaf = true) : gX vals u m = u ∨ (∃ v ∈ vals, gX vals u m = v.led (gR m) 0) ∨ gX vals u m = .name "f" := by
  rcases leaf3 lf with ⟨i, rfl⟩ | ⟨k, rfl⟩ | ⟨h1, h2⟩
  · exact .inl (gX_off bound_off)
  · by_cases h : k < vals.length
    · have e : gX vals (.num "local" k) m = (vals.getD k.toNat (.name "f")).led (gR m) 0 := if_pos ⟨rfl, h⟩
      rw [e, List.getD_eq_getElem?_getD]
      by_cases hk : k.toNat < vals.length
      · exact .inr (.inl ⟨_, List.getElem_mem hk, by rw [List.getElem?_eq_getElem hk]; rfl⟩)
      · rw [List.getElem?_eq_none (by omega)]; exact .inr (.inr rfl)
    · exact .inl (gX_out (by omega))
  · exact .inl (gX_off h2)
theorem nf_wf : (Tm.name "f").wf := by
  show ("f" : Str) ∈ namesL
  decide +kernel
theorem Bd.exch {t : Tm} {vals : List Tm} {B B2 B' : Int} {D N D2 N2 : Nat} (h : Bd t B D N) (hv : ∀ v ∈ vals, Bd v B2 (D2 + 1) N2) (h2 : 1 ≤ N2) (hB : B ≤ B') (hB2 : B2 + D ≤ B') : Bd (t.led (gX vals) 0) B' (D + D2) (N * N2) := by
  refine ⟨led_wf t 0 h.wf fun u m l w hm => ?_, led_lt (M := D) t 0 h.lt (Int.le_refl _) (by have := h.dep; omega) fun u m l e hm hM => ?_, ?_, ?_⟩
  · rcases gX_case (vals := vals) (m := m) l with e | ⟨v, hm', e⟩ | e
    · rw [e]; exact w
    · rw [e]; exact ((hv v hm').raised hm (Int.le_refl _) (Int.le_refl _)).wf
    · rw [e]; exact nf_wf
  · rcases gX_case (vals := vals) (m := m) l with e' | ⟨v, hm', e'⟩ | e'
    · rw [e']; exact Tm.lt_mono hB u e
    · rw [e']; exact ((hv v hm').raised hm (Int.le_refl _) (show B2 + m ≤ B' by omega)).lt
    · rw [e']; exact trivial
  · refine Nat.le_trans (led_depth (M := D2) (fun u m l => ?_) t 0) (Nat.add_le_add_right h.dep _)
    rcases gX_case (vals := vals) (m := m) l with e | ⟨v, hm', e⟩ | e
    · rw [e, (leaf_dn l).1]; exact Nat.le_add_left _ _
    · rw [e]; exact Nat.le_trans (led_depth (M := 0) (fun u m l => by rw [(gR_leaf l).1]; exact Nat.le_refl _) v 0) (hv v hm').dep
    · rw [e]; exact Nat.le_add_left _ _
  · refine Nat.le_trans (led_nodes (c := N2) h2 (fun u m l => ?_) t 0) (Nat.mul_le_mul_right _ h.nod)
    rcases gX_case (vals := vals) (m := m) l with e | ⟨v, hm', e⟩ | e
    · rw [e, (leaf_dn l).2]; exact h2
    · rw [e]; exact Nat.le_trans (led_nodes (c := 1) (Nat.le_refl _) (fun u m l => by rw [(gR_leaf l).2]; exact Nat.le_refl _) v 0) (by rw [Nat.mul_one]; exact (hv v hm').nod)
    · rw [e]; exact h2
theorem Bd.ok2 {t : Tm} {B : Int} {D N : Nat} (h : Bd t B D N) (hB : B ≤ 1000000) : OkdA [t.pd, t.pd] D (90 * N + 4) := (OkdA.cons (h.okd hB) (.cons (h.okd hB) .nil)).mono (Nat.le_refl _) (by omega)
/-! ### the state and the tables -/
theorem TabsN.ch {T : List NTab} {d g c : Addr} {H H' : Hp} {k : Nat} (t : TabsN T H) (C : Ch d g H H') (S : Stt H d g c k) : TabsN T H' := fun p hp => by
  obtain ⟨kv, hd⟩ := S.d
  obtain ⟨xs, hg⟩ := S.g
  obtain ⟨ps, h1, h2, h3⟩ := t p hp
  have stay : ∀ b o, H b = some o → (∀ kv, o ≠ .dK kv) → (∀ xs, o ≠ .lst xs) → H' b = some o := fun b o e n1 n2 => C b o (fun z => by rw [z, hd] at e; exact n1 _ (Option.some.inj e).symm) (fun z => by rw [z, hg] at e; exact n2 _ (Option.some.inj e).symm) e
  refine ⟨ps, stay _ _ h1 (fun _ z => by cases z) (fun _ z => by cases z), h2, fun pos cv hc => ?_⟩
  obtain ⟨c0, e1, e2⟩ := h3 pos cv hc
  exact ⟨c0, e1, stay _ _ e2 (fun _ z => by unfold CodeO at z; cases z) (fun _ z => by unfold CodeO at z; cases z)⟩
theorem Stt.sx {T : List NTab} {d g c : Addr} {H H' : Hp} {k : Nat} (S : Stt H d g c k) (x : Sx T H H') : Stt H' d g c k := by
  obtain ⟨gs, cs, l, t, h1, h2, h3, h4, h5⟩ := S.ex
  exact ⟨S.ne, gs, cs, l, t, x.ext _ _ h1 (fun _ z => by cases z), x.lst h2, x.lst h3, h4, h5⟩
theorem Stt.mut {H : Hp} {d g c p : Addr} {T : Nat} {o : HO} (S : Stt H d g c T) (h1 : p ≠ d) (h2 : p ≠ g) (h3 : p ≠ c) : Stt (upd H p o) d g c T := by
  obtain ⟨gs, cs, l, t, e1, e2, e3, e4, e5⟩ := S.ex
  exact ⟨S.ne, gs, cs, l, t, (upd_ne h1.symm).trans e1, (upd_ne h2.symm).trans e2, (upd_ne h3.symm).trans e3, e4, e5⟩
theorem Stt.fresh {H : Hp} {d g c p : Addr} {T : Nat} (S : Stt H d g c T) (h : H p = none) : p ≠ d ∧ p ≠ g ∧ p ≠ c := by
  obtain ⟨_, e1⟩ := S.d
  obtain ⟨_, e2⟩ := S.g
  obtain ⟨_, e3⟩ := S.c
  exact ⟨(ne_of_none e1 h).symm, (ne_of_none e2 h).symm, (ne_of_none e3 h).symm⟩
theorem Ch.mut {d g p : Addr} {H H1 : Hp} {o : HO} (C : Ch d g H H1) (h : H p = none) : Ch d g H (upd H1 p o) := fun b u z1 z2 e => by rw [upd_ne (ne_of_none e h)]; exact C b u z1 z2 e
abbrev fm (a d : Addr) (vb vv : V) (v2 v3 v4 v5 v6 v7 v8 v9 v12 : Option V) : L2.St := [some (.ref a), some (.ref d), v2, v3, v4, v5, v6, v7, v8, v9, some vb, some vv, v12]
def Fr (a d : Addr) (σ : L2.St) : Prop := ∃ v2 v3 v4 v5 v6 v7 v8 v9 v10 v11 v12 : Option V, σ = [some (.ref a), some (.ref d), v2, v3, v4, v5, v6, v7, v8, v9, v10, v11, v12]
theorem fr_mk {a d : Addr} {v2 v3 v4 v5 v6 v7 v8 v9 v10 v11 v12 : Option V} : Fr a d [some (.ref a), some (.ref d), v2, v3, v4, v5, v6, v7, v8, v9, v10, v11, v12] := ⟨_, _, _, _, _, _, _, _, _, _, _, rfl⟩
def spLaw (T : List NTab) (K : PySem.W.Frag) : Sp := fun vs H Q _ => ∃ (a : Addr) (ns : List Int), vs = [.ref a] ∧ SqL K H a (ns.map V.int) ∧ ns.length ≤ 63 ∧ TabsN T H ∧ ∀ H', Q (.bl true) H'
theorem sc_law : FnScope ["script", "state", "turn", "by", "due", "number", "fresh", "other", "inner", "values", "body", "value", "spot"] ["script"] (defScope s_law) := ⟨rfl, rfl, rfl, by decide +kernel, rfl, by decide +kernel, by decide +kernel⟩
section
variable {P : Program} {w : World} {K : PySem.W.Frag} {mg : Str → Option Value} {base : Heap} {T : List NTab}
theorem ok_law {f : Addr} {fd : FuncData} (F : Fun K "law" "law" s_law f fd)
    (n_len : mg "len" = none) (n_min : mg "min" = none) (n_range : mg "range" = none) (n_repr : mg "repr" = none) (n_tuple : mg "tuple" = none)
    (D_law_begun : Df P w K mg base "_law_begun" 1 ["script"] (spBegun K)) (D_law_draw : Df P w K mg base "_law_draw" 2 ["state", "size_here"] spDraw) (D_law_pick : Df P w K mg base "_law_pick" 3 ["state", "several"] spPick)
    (D_law_rt_term : Df P w K mg base "_law_rt_term" 9 ["state", "deep", "ahead"] (spTerm K 6)) (D_law_rt_raised : Df P w K mg base "_law_rt_raised" 8 ["term", "by"] (spOR K 6 0)) (D_law_k02_under : Df P w K mg base "_law_k02_under" 8 ["body", "by"] (spOR K 6 1))
    (D_law_rt_put : Df P w K mg base "_law_rt_put" 15 ["body", "value"] (spOP K 6 6)) (D_law_k02_bound : Df P w K mg base "_law_k02_bound" 14 ["term", "number"] (spOB K 6)) (D_law_k02_exchanged : Df P w K mg base "_law_k02_exchanged" 15 ["term", "values"] (spOX K 6 6))
    (D_law_k02_told : Df P w K mg base "_law_k02_told" 1 ["number", "other"] (spTold K))
    (Draised : Df P w K mg base "raised" 12 ["term", "by"] (spRaised T K 10)) (Dkraised : DfK P w K mg base "raised" 12 ["term", "by"] (spRaised T K 10) ["by", "term"] [1, 0])
    (Dput_in : Df P w K mg base "put_in" 24 ["body", "value"] (spPut T K 10 10)) (Dkput_in : DfK P w K mg base "put_in" 24 ["body", "value"] (spPut T K 10 10) ["value", "body"] [1, 0])
    (Dopened : Df P w K mg base "opened" 25 ["body", "number"] (spOpened T K 10)) (Dkopened : DfK P w K mg base "opened" 25 ["body", "number"] (spOpened T K 10) ["number", "body"] [1, 0])
    (Dbound_to : Df P w K mg base "bound_to" 12 ["term", "number"] (spBound T K 10)) (Dkbound_to : DfK P w K mg base "bound_to" 12 ["term", "number"] (spBound T K 10) ["number", "term"] [1, 0])
    (Dexchanged : Df P w K mg base "exchanged" 24 ["term", "values"] (spEx T K 10 10)) (Dkexchanged : DfK P w K mg base "exchanged" 24 ["term", "values"] (spEx T K 10 10) ["values", "term"] [1, 0]) :
    FnG P w K mg base 26 f fd ["script"] (spLaw T K) := by
  refine okG F sc_law (fun vs H Q E h => ?_) (fun cdv A outer s H vs Q E hg hr h => ?_)
  · obtain ⟨a, ns, rfl, _⟩ := h; rfl
  · obtain ⟨a, ns, rfl, hS, hl, hT, k⟩ := h
    have nd := sc_law.nd
    refine ⟨_, (pss_cons (ps_set (i := 1) nd rfl (Or.inr rfl) (pe_df D_law_begun hr (by omega) (pa_cons (pv 0) pa_nil)))
      (pss_cons (ps_for PassesOwn.never rfl (pi_range1 rfl n_range (pa_cons (pe_op uAdd pe_int (pe_callB (call_min2 rfl) (by rfl) n_min (by decide +kernel) (pa_cons (pe_callB uLen (by rfl) n_len (by decide +kernel) (pa_cons (pv 0) pa_nil)) (pa_cons pe_int pa_nil)))) pa_nil)) (pg_name (i := 2) nd rfl (Or.inl rfl))
        (pss_cons (ps_par (i := 10) (j := 11) rfl nd rfl rfl (by decide) rfl rfl (pa_cons (pe_df D_law_rt_term hr (by omega) (pa_cons (pv 1) (pa_cons pe_int (pa_cons pe_int pa_nil)))) (pa_cons (pe_df D_law_rt_term hr (by omega) (pa_cons (pv 1) (pa_cons pe_int (pa_cons pe_int pa_nil)))) pa_nil)) rfl)
        (pss_cons (ps_set (i := 3) nd rfl (Or.inl rfl) (pe_df D_law_pick hr (by omega) (pa_cons (pv 1) (pa_cons (pe_lstN (pa_cons pe_int (pa_cons pe_int (pa_cons pe_int (pa_cons pe_int pa_nil))))) pa_nil))))
        (pss_cons (ps_if (pt_cmpR (uNe hr.units) (pe_callB (uRepr hg hr.units) (by rfl) n_repr (by decide +kernel) (pa_cons (pe_lstN (pa_cons (pe_df Draised hr (by omega) (pa_cons (pv 10) (pa_cons (pv 3) pa_nil))) (pa_cons (pe_dfK Dkraised hr (by omega) (pk_cons (pv 3) (pk_cons (pv 10) pk_nil))) pa_nil))) pa_nil)) (pe_callB (uRepr hg hr.units) (by rfl) n_repr (by decide +kernel) (pa_cons (pe_op uMul (pe_lstN (pa_cons (pe_df D_law_rt_raised hr (by omega) (pa_cons (pv 10) (pa_cons (pv 3) pa_nil))) pa_nil)) pe_int) pa_nil)) (nomark _))
          (pss_one (ps_ret pe_bl))
          pss_nil)
        (pss_cons (ps_set (i := 4) nd rfl (Or.inl rfl) (pe_df D_law_rt_put hr (by omega) (pa_cons (pv 10) (pa_cons (pv 11) pa_nil))))
        (pss_cons (ps_if (pt_cmpR (uNe hr.units) (pe_callB (uRepr hg hr.units) (by rfl) n_repr (by decide +kernel) (pa_cons (pe_lstN (pa_cons (pe_df Dput_in hr (by omega) (pa_cons (pv 10) (pa_cons (pv 11) pa_nil))) (pa_cons (pe_dfK Dkput_in hr (by omega) (pk_cons (pv 11) (pk_cons (pv 10) pk_nil))) pa_nil))) pa_nil)) (pe_callB (uRepr hg hr.units) (by rfl) n_repr (by decide +kernel) (pa_cons (pe_lstN (pa_cons (pv 4) (pa_cons (pv 4) pa_nil))) pa_nil)) (nomark _))
          (pss_one (ps_ret pe_bl))
          pss_nil)
        (pss_cons (ps_if (pt_cmpR (uNe hr.units) (pe_df Draised hr (by omega) (pa_cons (pv 4) (pa_cons (pv 3) pa_nil))) (pe_df Dput_in hr (by omega) (pa_cons (pe_df D_law_k02_under hr (by omega) (pa_cons (pv 10) (pa_cons (pv 3) pa_nil))) (pa_cons (pe_df Draised hr (by omega) (pa_cons (pv 11) (pa_cons (pv 3) pa_nil))) pa_nil))) (nomark _))
          (pss_one (ps_ret pe_bl))
          pss_nil)
        (pss_cons (ps_set (i := 5) nd rfl (Or.inl rfl) (pe_df D_law_draw hr (by omega) (pa_cons (pv 1) (pa_cons pe_int pa_nil))))
        (pss_cons (ps_set (i := 4) nd rfl (Or.inl rfl) (pe_df D_law_rt_put hr (by omega) (pa_cons (pv 10) (pa_cons (pe_tupN (pa_cons pe_str (pa_cons (pv 5) pa_nil))) pa_nil))))
        (pss_cons (ps_if (pt_cmpR (uNe hr.units) (pe_callB (uRepr hg hr.units) (by rfl) n_repr (by decide +kernel) (pa_cons (pe_lstN (pa_cons (pe_df Dopened hr (by omega) (pa_cons (pv 10) (pa_cons (pv 5) pa_nil))) (pa_cons (pe_dfK Dkopened hr (by omega) (pk_cons (pv 5) (pk_cons (pv 10) pk_nil))) pa_nil))) pa_nil)) (pe_callB (uRepr hg hr.units) (by rfl) n_repr (by decide +kernel) (pa_cons (pe_lstN (pa_cons (pv 4) (pa_cons (pv 4) pa_nil))) pa_nil)) (nomark _))
          (pss_one (ps_ret pe_bl))
          pss_nil)
        (pss_cons (ps_set (i := 6) nd rfl (Or.inl rfl) (pe_op uAdd pe_int (pv 5)))
        (pss_cons (ps_if (pt_cmpR (uNe hr.units) (pe_df Dbound_to hr (by omega) (pa_cons (pe_df Dopened hr (by omega) (pa_cons (pv 10) (pa_cons (pv 6) pa_nil))) (pa_cons (pv 6) pa_nil))) (pv 10) (nomark _))
          (pss_one (ps_ret pe_bl))
          pss_nil)
        (pss_cons (ps_set (i := 4) nd rfl (Or.inl rfl) (pe_df D_law_k02_bound hr (by omega) (pa_cons (pv 11) (pa_cons (pv 5) pa_nil))))
        (pss_cons (ps_if (pt_w (PW.pt (pw_or (pt_cmpR (uNe hr.units) (pe_callB (uRepr hg hr.units) (by rfl) n_repr (by decide +kernel) (pa_cons (pe_lstN (pa_cons (pe_df Dbound_to hr (by omega) (pa_cons (pv 11) (pa_cons (pv 5) pa_nil))) (pa_cons (pe_dfK Dkbound_to hr (by omega) (pk_cons (pv 5) (pk_cons (pv 11) pk_nil))) pa_nil))) pa_nil)) (pe_callB (uRepr hg hr.units) (by rfl) n_repr (by decide +kernel) (pa_cons (pe_lstN (pa_cons (pv 4) (pa_cons (pv 4) pa_nil))) pa_nil)) (nomark _)) (pw_or1 (pt_cmpR (uNe hr.units) (pe_df Dopened hr (by omega) (pa_cons (pv 4) (pa_cons (pv 5) pa_nil))) (pv 11) (nomark _))))))
          (pss_one (ps_ret pe_bl))
          pss_nil)
        (pss_cons (ps_set (i := 7) nd rfl (Or.inl rfl) (pe_op uAdd (pv 5) pe_int))
        (pss_cons (ps_set (i := 8) nd rfl (Or.inl rfl) (pe_df Dbound_to hr (by omega) (pa_cons (pe_df Dbound_to hr (by omega) (pa_cons (pv 11) (pa_cons (pv 5) pa_nil))) (pa_cons (pv 7) pa_nil))))
        (pss_cons (ps_if (pt_w (PW.pt (pw_or (pt_cmpR (uNe hr.units) (pe_df Dopened hr (by omega) (pa_cons (pe_df Dopened hr (by omega) (pa_cons (pv 8) (pa_cons (pv 7) pa_nil))) (pa_cons (pv 5) pa_nil))) (pv 11) (nomark _)) (pw_or1 (pt_cmpR (uNe hr.units) (pe_df Dopened hr (by omega) (pa_cons (pe_df Dopened hr (by omega) (pa_cons (pv 8) (pa_cons pe_int pa_nil))) (pa_cons pe_int pa_nil))) (pe_df Dexchanged hr (by omega) (pa_cons (pv 11) (pa_cons (pe_df D_law_k02_told hr (by omega) (pa_cons (pv 5) (pa_cons (pv 7) pa_nil))) pa_nil))) (nomark _))))))
          (pss_one (ps_ret pe_bl))
          pss_nil)
        (pss_cons (ps_set (i := 9) nd rfl (Or.inl rfl) (pe_callTy call_tuple_of (by rfl) n_tuple (by decide +kernel) (pa_cons (pe_lc (own := [("spot", 12)]) (g := gName 12) rfl nd (pi_range1 rfl n_range (pa_cons (pe_df D_law_draw hr (by omega) (pa_cons (pv 1) (pa_cons pe_int pa_nil))) pa_nil)) (blkOk_by (own := [("spot", 12)]) (N := ["script", "state", "turn", "by", "due", "number", "fresh", "other", "inner", "values", "body", "value", "spot"]) (sc := defScope s_law) (by decide +kernel)) (fun _ _ _ _ _ => (pg_name (i := 12) nd rfl (Or.inl rfl))) (fun _ _ _ _ _ => pts_nil) (fun _ _ _ _ _ => (pe_df D_law_rt_term hr (by omega) (pa_cons (pv 1) (pa_cons pe_int (pa_cons pe_int pa_nil)))))) pa_nil)))
        (pss_cons (ps_set (i := 4) nd rfl (Or.inl rfl) (pe_df D_law_k02_exchanged hr (by omega) (pa_cons (pv 10) (pa_cons (pv 9) pa_nil))))
        (pss_one (ps_if (pt_w (PW.pt (pw_or (pt_cmpR (uNe hr.units) (pe_callB (uRepr hg hr.units) (by rfl) n_repr (by decide +kernel) (pa_cons (pe_lstN (pa_cons (pe_df Dexchanged hr (by omega) (pa_cons (pv 10) (pa_cons (pv 9) pa_nil))) (pa_cons (pe_dfK Dkexchanged hr (by omega) (pk_cons (pv 9) (pk_cons (pv 10) pk_nil))) pa_nil))) pa_nil)) (pe_callB (uRepr hg hr.units) (by rfl) n_repr (by decide +kernel) (pa_cons (pe_lstN (pa_cons (pv 4) (pa_cons (pv 4) pa_nil))) pa_nil)) (nomark _)) (pw_or1 (pt_cmpR (uNe hr.units) (pe_df Dexchanged hr (by omega) (pa_cons (pv 10) (pa_cons (pe_tupN pa_nil) pa_nil))) (pv 10) (nomark _))))))
          (pss_one (ps_ret pe_bl))
          pss_nil)))))))))))))))))))))
      (pss_one (ps_ret pe_bl)))), ?_⟩
    refine ⟨_, rfl, a, ns, rfl, hS, by omega, fun d g c H1 e1 nd' ng nc dg S0 => ?_⟩
    have hmin : ∀ n : Nat, n ≤ 63 → 0 ≤ (6 + (if (10 : Int) < (n : Int) then (10 : Int) else (n : Int))) ∧ (6 + (if (10 : Int) < (n : Int) then (10 : Int) else (n : Int))) ≤ 20 := fun n h => by split <;> omega
    obtain ⟨m0, m1⟩ := hmin ns.length hl
    refine ⟨_, rfl, _, ns.length, rfl, .inl ⟨_, e1.seq hS, by rw [List.length_map]⟩, _, _, rfl, add_i ⟨_, rfl, by omega, by omega, for_range (fun i σ H2 => Fr a d σ ∧ Stt H2 d g c (30000 * i) ∧ TabsN T H2) ⟨fr_mk, S0, hT.ext e1⟩ ?_ ?_⟩⟩
    · rintro i σ H2 hi ⟨⟨v2, v3, v4, v5, v6, v7, v8, v9, v10, v11, v12, rfl⟩, S, hT⟩
      have hc0 : 30000 * i ≤ 600000 := by
        have : i < 20 := by omega
        omega
      rw [show 30000 * (i + 1) = 30000 * i + 30000 by omega]
      generalize 30000 * i = Z at *
      have c6 : cost 6 = 3640 := rfl
      have hT2 : topT = 1099511627776 := rfl
      refine ⟨_, rfl, d, g, c, Z, 6, 1, rfl, S, by omega, by decide, by decide, by decide, by decide, fun body vb H3 C3 S3 db wfb dpb => ?_⟩
      refine ⟨_, rfl, d, g, c, Z + cost 6, 4, 1, rfl, S3, by omega, by decide, by decide, by decide, by decide, fun value vv H4 C4 S4 dv wfv dpv => ⟨_, _, rfl, ?_⟩⟩
      rw [c6] at S4
      replace db := Dt.keep (C4.tk S3) _ db
      replace hT := RS.TabsN.ch (RS.TabsN.ch hT C3 S) C4 S3
      clear C3 C4 S3 S
      have bb : Bd body 1010 6 364 := ⟨wfb.1, wfb.2.1, by omega, Tm.nodes_at (n := 6) dpb⟩
      have bv : Bd value 1010 4 40 := ⟨wfv.1, wfv.2.1, by omega, Tm.nodes_at (n := 4) dpv⟩
      refine ⟨_, rfl, lst_new (by show 4 ≤ 1000; decide) fun lm nlm => ?_⟩
      have S5 := S4.new (o := .lst [V.int 0, V.int 1, V.int 2, V.int 50]) nlm
      obtain ⟨lmd, lmg, lmc⟩ := S4.fresh nlm
      have e5 := same_new (o := .lst [V.int 0, V.int 1, V.int 2, V.int 50]) nlm
      refine ⟨d, g, c, Z + 3640 + 3640, lm, _, rfl, S5, upd_same, lmg, by decide, by decide, by omega, fun ix bx H6 hbx C6 S6 => ?_⟩
      obtain ⟨b, rfl, b0, b50⟩ : ∃ b : Int, bx = .int b ∧ 0 ≤ b ∧ b ≤ 50 := by
        match ix, hbx with
        | 0, e => exact ⟨_, (Option.some.inj e).symm, by decide, by decide⟩
        | 1, e => exact ⟨_, (Option.some.inj e).symm, by decide, by decide⟩
        | 2, e => exact ⟨_, (Option.some.inj e).symm, by decide, by decide⟩
        | 3, e => exact ⟨_, (Option.some.inj e).symm, by decide, by decide⟩
        | i + 4, e => simp at e
      replace db := Dt.keep (C6.tk S5) _ (db.same e5)
      replace dv := Dt.keep (C6.tk S5) _ (dv.same e5)
      replace hT := RS.TabsN.ch (TabsN.ext hT e5) C6 S5
      clear C6 S5 e5 lmd lmg lmc nlm hbx S4
      -- raised
      have br : Bd (body.led (gR b) 0) 2000 6 364 := bb.raised b0 (Int.le_refl _) (by omega)
      refine ⟨_, rfl, _, rfl, vb, body, b, rfl, db, bb.wf, by have := bb.dep; omega, hT, fun w1 H7 x7 d7 => ?_⟩
      refine ⟨_, rfl, _, rfl, rfl, vb, body, b, rfl, db.sx x7, bb.wf, by have := bb.dep; omega, x7.tab, fun w2 H8 x8 d8 => ?_⟩
      refine lst_new (by show 2 ≤ 1000; decide) fun l1 n1 => rpL (K := K) (SqL.of upd_same) (.cons ((d7.sx x8).same (same_new n1)) (.cons (d8.same (same_new n1)) .nil)) (br.ok2 (by decide)) (by decide) (by decide) ?_
      have x9 := (x7.trans x8).new (o := .lst [w1, w2]) n1
      refine ⟨_, rfl, _, rfl, vb, body, b, rfl, db.sx x9, bb.wf, bb.dep, Nat.le_trans bb.nod (by decide), fun w3 H10 e10 d10 => ?_⟩
      refine lst_new (by show 1 ≤ 1000; decide) fun l2 n2 => mul_l (xs := [w3]) ⟨l2, 2, [w3], rfl, rfl, upd_same, by decide, by decide, (by rw [sizeLine_eq]; show 1 * 2 ≤ 16777216; decide), fun r n3 => ?_⟩
      refine rpL (K := K) (xs := [w3, w3]) (SqL.of upd_same) (.cons ((d10.same (same_new n2)).same (same_new n3)) (.cons ((d10.same (same_new n2)).same (same_new n3)) .nil)) (br.ok2 (by decide)) (by decide) (by decide) ?_
      have x11 := ((x9.trans (Sx.same x9.tab e10)).new (o := .lst [w3]) n2).new (o := .lst [w3, w3]) n3
      change rEqU _ _ _ _ (upd (upd H10 l2 (.lst [w3])) r (.lst [w3, w3])) _
      generalize upd (upd H10 l2 (.lst [w3])) r (.lst [w3, w3]) = H11 at x11
      refine eq_f rfl (by simp) ⟨_, rfl, iteF ?_⟩
      replace db := db.sx x11
      replace dv := dv.sx x11
      replace S6 := S6.sx x11
      replace hT := x11.tab
      clear x11 x9 x8 x7 d7 d8 d10 e10 n1 n2 n3 br
      -- put_in
      have bd : Bd (body.led (gP value) 0) 3000 9 14560 := bb.put (D2 := 3) bv (by decide) (by decide) (by decide)
      refine ⟨_, rfl, _, rfl, vb, vv, body, value, rfl, db, bb.wf, bb.dep, Nat.le_trans bb.nod (by decide), dv, bv.wf, Nat.le_trans bv.dep (by decide), Nat.le_trans bv.nod (by decide), fun vd H7 e7 dd => ?_⟩
      have x7 := Sx.same hT e7
      replace db := db.sx x7
      replace dv := dv.sx x7
      replace S6 := S6.sx x7
      replace hT := x7.tab
      clear x7 e7
      refine ⟨_, rfl, _, rfl, vb, vv, body, value, rfl, db, bb.wf, Nat.le_trans bb.dep (by decide), dv, bv.wf, Nat.le_trans bv.dep (by decide), hT, fun w1 H7 x7 d7 => ?_⟩
      refine ⟨_, rfl, _, rfl, rfl, vb, vv, body, value, rfl, db.sx x7, bb.wf, Nat.le_trans bb.dep (by decide), dv.sx x7, bv.wf, Nat.le_trans bv.dep (by decide), x7.tab, fun w2 H8 x8 d8 => ?_⟩
      refine lst_new (by show 2 ≤ 1000; decide) fun l1 n1 => rpL (K := K) (SqL.of upd_same) (.cons ((d7.sx x8).same (same_new n1)) (.cons (d8.same (same_new n1)) .nil)) (bd.ok2 (by decide)) (by decide) (by decide) ?_
      have x9 := (x7.trans x8).new (o := .lst [w1, w2]) n1
      have dd9 := dd.sx x9
      refine ⟨_, rfl, _, rfl, lst_new (by show 2 ≤ 1000; decide) fun l2 n2 => rpL (K := K) (SqL.of upd_same) (.cons (dd9.same (same_new n2)) (.cons (dd9.same (same_new n2)) .nil)) (bd.ok2 (by decide)) (by decide) (by decide) ?_⟩
      have x11 := x9.new (o := .lst [vd, vd]) n2
      generalize upd (upd H8 l1 (.lst [w1, w2])) l2 (.lst [vd, vd]) = H11 at x11
      refine eq_f rfl (by simp) ⟨_, rfl, iteF ?_⟩
      replace db := db.sx x11
      replace dv := dv.sx x11
      replace S6 := S6.sx x11
      replace hT := x11.tab
      replace dd := dd.sx x11
      clear x11 x9 x8 x7 d7 d8 n1 n2 dd9
      -- raising and putting in
      have bu : Bd (body.led (gR b) 1) 2000 6 364 := bb.raised b0 (by decide) (by omega)
      have bw : Bd (value.led (gR b) 0) 2000 4 40 := bv.raised b0 (by decide) (by omega)
      have bdr : Bd ((body.led (gP value) 0).led (gR b) 0) 4000 9 14560 := bd.raised b0 (by decide) (by omega)
      refine ⟨_, rfl, _, rfl, vd, body.led (gP value) 0, b, rfl, dd, bd.wf, Nat.le_trans bd.dep (by decide), hT, fun w1 H7 x7 d7 => ?_⟩
      refine ⟨_, rfl, _, rfl, vb, body, b, rfl, db.sx x7, bb.wf, bb.dep, Nat.le_trans bb.nod (by decide), fun w2 H8 e8 d8 => ?_⟩
      have x8 := x7.trans (Sx.same x7.tab e8)
      refine ⟨_, rfl, _, rfl, vv, value, b, rfl, dv.sx x8, bv.wf, Nat.le_trans bv.dep (by decide), x8.tab, fun w3 H9 x9 d9 => ?_⟩
      refine ⟨w2, w3, body.led (gR b) 1, value.led (gR b) 0, rfl, d8.sx x9, bu.wf, Nat.le_trans bu.dep (by decide), d9, bw.wf, Nat.le_trans bw.dep (by decide), x9.tab, fun w4 H10 x10 d10 => ?_⟩
      rw [← raise_put b0 body value bb.wf bv.wf] at d10
      refine eq_d (Dt.dp _ (((d7.same e8).sx x9).sx x10)) (Dt.dp _ d10) ((bdr.okd (by decide)).shaped (by decide)) ((bdr.okd (by decide)).shaped (by decide)) (by rw [(bdr.okd (by decide)).eqv]; rfl) ⟨_, rfl, iteF ?_⟩
      have x11 := (x8.trans x9).trans x10
      replace db := db.sx x11
      replace dv := dv.sx x11
      replace S6 := S6.sx x11
      replace hT := x11.tab
      clear x11 x10 x9 x8 x7 d7 d8 d9 d10 e8 dd bd bdr bu bw
      -- opened
      refine ⟨_, rfl, d, g, c, Z + 3640 + 3640 + 1, 6, rfl, S6, by omega, by decide, by decide, fun nb H7 C7 S7 n0 n6 => ?_⟩
      replace db := Dt.keep (C7.tk S6) _ db
      replace dv := Dt.keep (C7.tk S6) _ dv
      replace hT := RS.TabsN.ch hT C7 S6
      replace S6 := S7
      clear C7 S7
      have bo : Bd (body.led (gP (.num "local" nb)) 0) 2000 6 364 := bb.opened n0 (by decide) (by omega)
      refine ⟨_, rfl, _, rfl, tup_new (K := K) (ds := [.str "local", .int nb]) (.cons (.str _) (.cons (.int _) .nil)) (by show 2 ≤ 1000; decide) fun vl H8 e8 dl => ?_⟩
      have x8 := Sx.same hT e8
      replace db := db.sx x8
      replace dv := dv.sx x8
      replace S6 := S6.sx x8
      replace hT := x8.tab
      have bl := bd_local n0 (show nb < 1010 by omega)
      refine ⟨vb, vl, body, .num "local" nb, rfl, db, bb.wf, bb.dep, Nat.le_trans bb.nod (by decide), dl, bl.wf, (by show 1 ≤ 6; decide), (by show 1 ≤ 100000; decide), fun vd H9 e9 dd => ?_⟩
      have x9 := Sx.same hT e9
      replace db := db.sx x9
      replace dv := dv.sx x9
      replace S6 := S6.sx x9
      replace hT := x9.tab
      clear x9 x8 e8 e9 dl
      refine ⟨_, rfl, _, rfl, vb, body, nb, rfl, db, bb.wf, Nat.le_trans bb.dep (by decide), n0, hT, fun w1 H7 x7 d7 => ?_⟩
      refine ⟨_, rfl, _, rfl, rfl, vb, body, nb, rfl, db.sx x7, bb.wf, Nat.le_trans bb.dep (by decide), n0, x7.tab, fun w2 H8 x8 d8 => ?_⟩
      refine lst_new (by show 2 ≤ 1000; decide) fun l1 n1 => rpL (K := K) (SqL.of upd_same) (.cons ((d7.sx x8).same (same_new n1)) (.cons (d8.same (same_new n1)) .nil)) (bo.ok2 (by decide)) (by decide) (by decide) ?_
      have x9 := (x7.trans x8).new (o := .lst [w1, w2]) n1
      have dd9 := dd.sx x9
      refine ⟨_, rfl, _, rfl, lst_new (by show 2 ≤ 1000; decide) fun l2 n2 => rpL (K := K) (SqL.of upd_same) (.cons (dd9.same (same_new n2)) (.cons (dd9.same (same_new n2)) .nil)) (bo.ok2 (by decide)) (by decide) (by decide) ?_⟩
      have x11 := x9.new (o := .lst [vd, vd]) n2
      generalize upd (upd H8 l1 (.lst [w1, w2])) l2 (.lst [vd, vd]) = H11 at x11
      refine eq_f rfl (by simp) ⟨_, rfl, iteF ?_⟩
      replace db := db.sx x11
      replace dv := dv.sx x11
      replace S6 := S6.sx x11
      replace hT := x11.tab
      replace dd := dd.sx x11
      clear x11 x9 x8 x7 d7 d8 n1 n2 dd9
      -- bound again
      have bf : Bd (body.led (gP (.num "local" (900 + nb))) 0) 3000 6 364 := bb.opened (by omega) (by decide) (by omega)
      refine ⟨_, rfl, add_i ?_⟩
      refine ⟨_, rfl, _, rfl, vb, body, 900 + nb, rfl, db, bb.wf, Nat.le_trans bb.dep (by decide), by omega, hT, fun w1 H7 x7 d7 => ?_⟩
      refine ⟨_, rfl, w1, _, 900 + nb, rfl, d7, bf.wf, Nat.le_trans bf.dep (by decide), by omega, x7.tab, fun w2 H8 x8 d8 => ?_⟩
      rw [bound_opened body bb.wf (Tm.loc_mono (by omega) body wfb.2.2)] at d8
      refine ⟨_, rfl, eq_d (Dt.dp _ d8) (Dt.dp _ ((db.sx x7).sx x8)) ((bb.okd (by decide)).shaped (by decide)) ((bb.okd (by decide)).shaped (by decide)) (by rw [(bb.okd (by decide)).eqv]; rfl) ⟨_, rfl, iteF ?_⟩⟩
      have x11 := x7.trans x8
      replace db := db.sx x11
      replace dv := dv.sx x11
      replace S6 := S6.sx x11
      replace hT := x11.tab
      clear x11 x8 x7 d7 d8 bf dd bo
      -- bound_to
      have bn : Bd (value.led (gB nb) 0) 1100 4 40 := bv.bound (by decide) (by decide)
      refine ⟨_, rfl, _, rfl, vv, value, nb, rfl, dv, bv.wf, Nat.le_trans bv.dep (by decide), Nat.le_trans bv.nod (by decide), n0, fun vd H7 e7 dd => ?_⟩
      have x7 := Sx.same hT e7
      replace db := db.sx x7
      replace dv := dv.sx x7
      replace S6 := S6.sx x7
      replace hT := x7.tab
      clear x7 e7
      refine ⟨?_⟩
      refine ⟨_, rfl, _, rfl, vv, value, nb, rfl, dv, bv.wf, Nat.le_trans bv.dep (by decide), n0, hT, fun w1 H7 x7 d7 => ?_⟩
      refine ⟨_, rfl, _, rfl, rfl, vv, value, nb, rfl, dv.sx x7, bv.wf, Nat.le_trans bv.dep (by decide), n0, x7.tab, fun w2 H8 x8 d8 => ?_⟩
      refine lst_new (by show 2 ≤ 1000; decide) fun l1 n1 => rpL (K := K) (SqL.of upd_same) (.cons ((d7.sx x8).same (same_new n1)) (.cons (d8.same (same_new n1)) .nil)) (bn.ok2 (by decide)) (by decide) (by decide) ?_
      have x9 := (x7.trans x8).new (o := .lst [w1, w2]) n1
      have dd9 := dd.sx x9
      refine ⟨_, rfl, _, rfl, lst_new (by show 2 ≤ 1000; decide) fun l2 n2 => rpL (K := K) (SqL.of upd_same) (.cons (dd9.same (same_new n2)) (.cons (dd9.same (same_new n2)) .nil)) (bn.ok2 (by decide)) (by decide) (by decide) ?_⟩
      have x11 := x9.new (o := .lst [vd, vd]) n2
      generalize upd (upd H8 l1 (.lst [w1, w2])) l2 (.lst [vd, vd]) = H11 at x11
      refine eq_f rfl (by simp) ⟨_, rfl, iteF ?_⟩
      replace db := db.sx x11
      replace dv := dv.sx x11
      replace S6 := S6.sx x11
      replace hT := x11.tab
      replace dd := dd.sx x11
      clear x11 x9 x8 x7 d7 d8 n1 n2 dd9
      refine ⟨_, rfl, _, rfl, vd, value.led (gB nb) 0, nb, rfl, dd, bn.wf, Nat.le_trans bn.dep (by decide), n0, hT, fun w1 H7 x7 d7 => ?_⟩
      rw [opened_bound value bv.wf] at d7
      refine ⟨_, rfl, eq_d (Dt.dp _ d7) (Dt.dp _ (dv.sx x7)) ((bv.okd (by decide)).shaped (by decide)) ((bv.okd (by decide)).shaped (by decide)) (by rw [(bv.okd (by decide)).eqv]; rfl) ⟨_, rfl, iteF ?_⟩⟩
      replace db := db.sx x7
      replace dv := dv.sx x7
      replace S6 := S6.sx x7
      replace hT := x7.tab
      clear x7 d7 dd
      -- two locals
      have bn2 : Bd ((value.led (gB nb) 0).led (gB (nb + 1)) 0) 1200 4 40 := bn.bound (by decide) (by decide)
      refine ⟨_, rfl, add_i ?_⟩
      refine ⟨_, rfl, _, rfl, vv, value, nb, rfl, dv, bv.wf, Nat.le_trans bv.dep (by decide), n0, hT, fun w1 H7 x7 d7 => ?_⟩
      refine ⟨_, rfl, w1, _, nb + 1, rfl, d7, bn.wf, Nat.le_trans bn.dep (by decide), by omega, x7.tab, fun vi H8 x8 di => ?_⟩
      have x11 := x7.trans x8
      replace db := db.sx x11
      replace dv := dv.sx x11
      replace S6 := S6.sx x11
      replace hT := x11.tab
      clear x11 x8 x7 d7
      refine ⟨?_⟩
      have b1 : Bd (((value.led (gB nb) 0).led (gB (nb + 1)) 0).led (gP (.num "local" (nb + 1))) 0) 1300 4 40 := bn2.opened (by omega) (by decide) (by omega)
      refine ⟨_, rfl, _, rfl, vi, _, nb + 1, rfl, di, bn2.wf, Nat.le_trans bn2.dep (by decide), by omega, hT, fun w1 H7 x7 d7 => ?_⟩
      refine ⟨_, rfl, w1, _, nb, rfl, d7, b1.wf, Nat.le_trans b1.dep (by decide), n0, x7.tab, fun w2 H8 x8 d8 => ?_⟩
      rw [opened_bound (value.led (gB nb) 0) bn.wf, opened_bound value bv.wf] at d8
      refine ⟨_, rfl, eq_d (Dt.dp _ d8) (Dt.dp _ ((dv.sx x7).sx x8)) ((bv.okd (by decide)).shaped (by decide)) ((bv.okd (by decide)).shaped (by decide)) (by rw [(bv.okd (by decide)).eqv]; rfl) ⟨_, rfl, iteF ?_⟩⟩
      have x11 := x7.trans x8
      replace db := db.sx x11
      replace dv := dv.sx x11
      replace S6 := S6.sx x11
      replace hT := x11.tab
      replace di := di.sx x11
      clear x11 x8 x7 d7 d8 b1
      have b2 : Bd (((value.led (gB nb) 0).led (gB (nb + 1)) 0).led (gP (.num "local" 700)) 0) 1300 4 40 := bn2.opened (by decide) (by decide) (by decide)
      have bt : ∀ v ∈ toldV nb (nb + 1), Bd v 1010 1 1 := fun v hv => by
        obtain ⟨j, hj, rfl⟩ := List.mem_map.mp hv
        have := List.mem_range.mp hj
        refine bd_local ?_ ?_ <;> split <;> first | decide | (split <;> omega)
      have bx : Bd (value.led (gX (toldV nb (nb + 1))) 0) 2000 4 40 := bv.exch (D2 := 0) (N2 := 1) bt (by decide) (by decide) (by decide)
      refine ⟨_, rfl, vi, _, 700, rfl, di, bn2.wf, Nat.le_trans bn2.dep (by decide), by decide, hT, fun w1 H7 x7 d7 => ?_⟩
      refine ⟨w1, _, 701, rfl, d7, b2.wf, Nat.le_trans b2.dep (by decide), by decide, x7.tab, fun w2 H8 x8 d8 => ?_⟩
      rw [opened_two n0 (by omega) value bv.wf wfv.2.2] at d8
      refine ⟨_, rfl, _, rfl, _, rfl, nb, nb + 1, rfl, fun vt H9 e9 dt => ?_⟩
      have x9 := (x7.trans x8).trans (Sx.same x8.tab e9)
      refine ⟨vv, vt, value, toldV nb (nb + 1), rfl, dv.sx x9, bv.wf, Nat.le_trans bv.dep (by decide), dt, fun a ha => ⟨(bt a ha).wf, Nat.le_trans (bt a ha).dep (by decide)⟩, x9.tab, fun w3 H10 x10 d10 => ?_⟩
      refine eq_d (Dt.dp _ ((d8.same e9).sx x10)) (Dt.dp _ d10) ((bx.okd (by decide)).shaped (by decide)) ((bx.okd (by decide)).shaped (by decide)) (by rw [(bx.okd (by decide)).eqv]; rfl) ⟨_, rfl, iteF ?_⟩
      have x11 := x9.trans x10
      replace db := db.sx x11
      replace dv := dv.sx x11
      replace S6 := S6.sx x11
      replace hT := x11.tab
      clear x11 x10 x9 x8 x7 d7 d8 d10 di dt e9 b2 bt bx bn bn2
      -- exchanged
      refine ⟨_, rfl, d, g, c, Z + 3640 + 3640 + 1 + 1, 5, rfl, S6, by omega, by decide, by decide, fun r H7 C7 S7 r0 r5 => ⟨r, rfl, by omega, by omega, fun D nD => ?_⟩⟩
      replace db := Dt.keep (C7.tk S6) _ db
      replace hT := RS.TabsN.ch hT C7 S6
      clear S6 C7 dv
      obtain ⟨Dd, Dg, Dc⟩ := S7.fresh nD
      refine lc_range (fun j H8 => ∃ (as : List Tm) (xs : List V), Stt H8 d g c (Z + 7283 + 3640 * j) ∧ Ch d g H7 H8 ∧ H8 D = some (.lst xs) ∧ DtAll K H8 xs (as.map Tm.pd) ∧ as.length = j ∧ ∀ a ∈ as, Bd a 1010 2 4)
        ⟨[], [], (S7.new nD).mono (by omega), Ch.new nD, upd_same, .nil, rfl, fun a h => nomatch h⟩ (fun j H8 hj ⟨as, xs, S8, C8, hD8, da8, la, ba⟩ => ?_) (fun H8 ⟨as, xs, S8, C8, hD8, da8, la, ba⟩ => ?_)
      · have hj4 : j < 5 := by omega
        refine ⟨rfl, _, rfl, d, g, c, Z + 7283 + 3640 * j, 2, 0, rfl, S8, by omega, by decide, by decide, by decide, by decide, fun u vu H9 C9 S9 du9 wfu dpu => ?_⟩
        have hD9 := C9 _ _ Dd Dg hD8
        have bu : Bd u 1010 2 4 := ⟨wfu.1, wfu.2.1, by omega, Tm.nodes_at (n := 2) dpu⟩
        refine ⟨xs, hD9, ?_, as ++ [u], xs ++ [vu], (S9.mut Dd Dg Dc).mono (by omega), (C8.trans C9).mut nD, upd_same, ?_, by rw [List.length_append, la]; rfl, ?_⟩
        · rw [da8.length, List.length_map, sizeLine_eq]; omega
        · rw [List.map_append]
          exact DtAll.append (DtAll.keep ((C9.tk S8).trans (TK.lst hD9)) _ da8) (.cons (Dt.keep (TK.lst hD9) _ du9) .nil)
        · intro b hb
          rcases List.mem_append.mp hb with hb | hb
          · exact ba b hb
          · rw [List.mem_singleton.mp hb]; exact bu
      · replace db := Dt.keep (C8.tk S7) _ db
        replace hT := RS.TabsN.ch hT C8 S7
        have S6 := S8.mono (T' := Z + 30000) (by omega)
        refine ⟨D, xs, rfl, .inl ⟨SqL.of hD8, fun q nq => ?_⟩⟩
        have dvs : Dt K (upd H8 q (.tup xs)) (.ref q) (.tuple (as.map Tm.pd)) := .tup (SqT.of upd_same) (DtAll.keep (TK.new nq) _ da8)
        have x7 := (Sx.refl hT).new (o := .tup xs) nq
        replace db := db.sx x7
        replace S6 := S6.sx x7
        replace hT := x7.tab
        clear x7 S8 C8 hD8 da8 S7
        change tSeq _ _ _ _ (upd H8 q (.tup xs))
        generalize upd H8 q (.tup xs) = H9 at db S6 hT dvs
        have bX : Bd (body.led (gX as) 0) 2000 7 1456 := bb.exch (D2 := 1) (N2 := 4) ba (by decide) (by decide) (by decide)
        refine ⟨_, rfl, _, rfl, vb, .ref q, body, as, rfl, db, bb.wf, bb.dep, Nat.le_trans bb.nod (by decide), dvs, fun a ha => ⟨(ba a ha).wf, Nat.le_trans (ba a ha).dep (by decide), Nat.le_trans (ba a ha).nod (by decide)⟩, fun vd H10 e10 dd => ?_⟩
        have x7 := Sx.same hT e10
        replace db := db.sx x7
        replace S6 := S6.sx x7
        replace hT := x7.tab
        replace dvs := dvs.sx x7
        clear x7 e10
        refine ⟨?_⟩
        refine ⟨_, rfl, _, rfl, vb, .ref q, body, as, rfl, db, bb.wf, Nat.le_trans bb.dep (by decide), dvs, fun a ha => ⟨(ba a ha).wf, Nat.le_trans (ba a ha).dep (by decide)⟩, hT, fun w1 H7 x7 d7 => ?_⟩
        refine ⟨_, rfl, _, rfl, rfl, vb, .ref q, body, as, rfl, db.sx x7, bb.wf, Nat.le_trans bb.dep (by decide), dvs.sx x7, fun a ha => ⟨(ba a ha).wf, Nat.le_trans (ba a ha).dep (by decide)⟩, x7.tab, fun w2 H8 x8 d8 => ?_⟩
        refine lst_new (by show 2 ≤ 1000; decide) fun l1 n1 => rpL (K := K) (SqL.of upd_same) (.cons ((d7.sx x8).same (same_new n1)) (.cons (d8.same (same_new n1)) .nil)) (bX.ok2 (by decide)) (by decide) (by decide) ?_
        have x9 := (x7.trans x8).new (o := .lst [w1, w2]) n1
        have dd9 := dd.sx x9
        refine ⟨_, rfl, _, rfl, lst_new (by show 2 ≤ 1000; decide) fun l2 n2 => rpL (K := K) (SqL.of upd_same) (.cons (dd9.same (same_new n2)) (.cons (dd9.same (same_new n2)) .nil)) (bX.ok2 (by decide)) (by decide) (by decide) ?_⟩
        have x11 := x9.new (o := .lst [vd, vd]) n2
        generalize upd (upd H8 l1 (.lst [w1, w2])) l2 (.lst [vd, vd]) = H11 at x11
        refine eq_f rfl (by simp) ⟨_, rfl, iteF ?_⟩
        replace db := db.sx x11
        replace S6 := S6.sx x11
        replace hT := x11.tab
        clear x11 x9 x8 x7 d7 d8 n1 n2 dd9 dd
        refine ⟨_, rfl, tup_new (K := K) (ds := []) .nil (Nat.zero_le _) fun ve H12 e12 de => ?_⟩
        have x12 := Sx.same hT e12
        refine ⟨vb, ve, body, [], rfl, db.same e12, bb.wf, Nat.le_trans bb.dep (by decide), de, (fun a h => nomatch h), x12.tab, fun w1 H13 x13 d13 => ?_⟩
        rw [exchanged_none body bb.wf] at d13
        have x14 := x12.trans x13
        exact ⟨_, rfl, eq_d (Dt.dp _ d13) (Dt.dp _ (db.sx x14)) ((bb.okd (by decide)).shaped (by decide)) ((bb.okd (by decide)).shaped (by decide)) (by rw [(bb.okd (by decide)).eqv]; rfl) ⟨_, rfl, iteF ⟨fr_mk, S6.sx x14, x14.tab⟩⟩⟩
    · rintro σ H2 ⟨⟨v2, v3, v4, v5, v6, v7, v8, v9, v10, v11, v12, rfl⟩, S, hT⟩
      exact k _
end
end RS

/-! RSTab: the law's own call where defs make nested functions: their tables of code objects, empty at the start, are tracked. -/
namespace RS
open PySem PySem.Spec PyProof.Rows L2 LamX NdefX

abbrev emptyT : Obj := { cls := .none, data := .fields #[] }
section
variable {K : PySem.W.Frag}
theorem less_hd {h : Heap} {c P : Addr} {o : Obj} (X : K.In h) (ho : K.lookup c = some o) (hd : PySem.W.codeHdIn [(c, o)] c P = true) : PySem.W.CodeHd h c P := by
  have e : PySem.W.codeHdIn K c P = true := by
    unfold PySem.W.codeHdIn at hd ⊢
    rw [ho]
    have : ([(c, o)] : PySem.W.Frag).lookup c = some o := by simp [List.lookup_cons]
    rw [this] at hd
    exact hd
  exact PySem.W.codeHd_of_K X e
/-- the values of a code object -/
def obVs (o : Obj) : Array Value := match o.data with
  | .fields vs => vs
  | _ => #[]
end
/-- what is tracked as the law begins: its script where the module has not written it, the tables -/
def beginH (K : PySem.W.Frag) (a : Addr) (vs : List Value) (ns : List Int) (ts : List Addr) : Hp := fun b =>
  if b = a ∧ K.lookup a = none then some (.frz { cls := .type "list", data := .seq vs.toArray } (.lst (ns.map V.int))) else if b ∈ ts then some (.tbl #[]) else none
theorem law_goesT {P : Program} {w : World} {K : PySem.W.Frag} {mg mb : Str → Option Value} {k : Nat} {fa a : Addr} {cs : List (Addr × Addr)} {fd : FuncData} {x : Str} {sp : Sp} {s1 : Shared} {vs : List Value} {ns : List Int} (kin : K.In s1.heap) (gl : s1.heap.Ns mainGlobals mg) (bl : s1.heap.Ns builtinsNs mb)
    (blt : ∀ x : Str, x ≠ "__name__" → mb x = bootBuiltins x) (lim : s1.heap.NoLimit) (gens : s1.gens = #[])
    (tabs : ∀ p ∈ cs, s1.heap.get? p.2 = some emptyT) (out : ∀ p ∈ cs, K.lookup p.2 = none) (heads : ∀ p ∈ cs, PySem.W.CodeHd s1.heap p.1 p.2)
    (main : ∃ (bm : Addr) (ob : Obj), mg "__builtins__" = some (.ref bm) ∧ bm ≠ builtinsNs ∧ s1.heap.get? bm = some ob ∧ ob.cls = .type "module" ∧ ob.dict = some builtinsNs ∧ ob.data = .plain)
    (ha : s1.heap.get? a = some { cls := .type "list", data := .seq vs.toArray }) (hi : IntsAre vs ns) (hl : ns.length ≤ sizeLine) (hr : Room k callerA)
    (F : ∀ base : Heap, K.In base → base.Ns mainGlobals mg → (∀ p ∈ cs, TabB base mg p.1 p.2) → FnG P w K mg base k fa fd [x] sp) (bind : ∀ (s : Shared) (u : Value), BindsTo s fd ⟨[u], []⟩ [(x, u)])
    (hsp : ∀ H : Hp, (∀ p ∈ cs, H p.2 = some (.tbl #[])) → SqL K H a (ns.map V.int) → sp [.ref a] H (fun v _ => v = .bl true) fun _ _ _ => False) :
    codeAny (model P w) callerA (.call (.ref fa) ⟨[.ref a], []⟩) (fun r s' => r = .ok (.ret (.bool true)) ∧ OldK s1.heap s'.heap ∧ s'.os = s1.os ∧ AllBare s'.gens) s1 := by
  have rv := vals_ints hi
  let ts := cs.map (·.2)
  let H0 := beginH K a vs ns ts
  have tabAt : ∀ b ∈ ts, s1.heap.get? b = some emptyT := fun b hb => by
    obtain ⟨p, hp, rfl⟩ := List.mem_map.mp hb
    exact tabs p hp
  have aNo : a ∉ ts := fun z => by
    have e := tabAt a z
    rw [ha] at e
    cases e
  have only : ∀ b u, H0 b = some u → (b = a ∧ K.lookup a = none ∧ u = .frz { cls := .type "list", data := .seq vs.toArray } (.lst (ns.map V.int))) ∨ (b ∈ ts ∧ u = .tbl #[]) := fun b u e => by
    have e : (if b = a ∧ K.lookup a = none then some (HO.frz { cls := .type "list", data := .seq vs.toArray } (.lst (ns.map V.int))) else if b ∈ ts then some (.tbl #[]) else none) = some u := e
    split at e
    · rename_i h; exact .inl ⟨h.1, h.2, (Option.some.inj e).symm⟩
    · split at e
      · rename_i h; exact .inr ⟨h, (Option.some.inj e).symm⟩
      · cases e
  have isTab : ∀ b ∈ ts, H0 b = some (.tbl #[]) := fun b hb => by
    have no : ¬ (b = a ∧ K.lookup a = none) := fun z => aNo (z.1 ▸ hb)
    exact (if_neg no).trans (if_pos hb)
  have hok : HOk P w H0 s1.heap := fun b u e => by
    rcases only b u e with ⟨rfl, _, rfl⟩ | ⟨hb, rfl⟩
    · exact ⟨ha, by rw [List.length_map]; exact hl, vs, _, rv, ha⟩
    · exact tabAt b hb
  have sq : SqL K H0 a (ns.map V.int) := by
    cases e : K.lookup a with
    | none => exact .inl (.inr ⟨_, if_pos ⟨rfl, e⟩⟩)
    | some o =>
      have e' := kin a o e
      rw [ha] at e'
      cases e'
      exact .inr ⟨_, vs.toArray, _, e, rfl, rfl, rfl, by rw [List.size_toArray, hi.length]; exact hl, by simpa using rv⟩
  -- what is no list and no such table is not tracked
  have untr : ∀ {b : Addr} {o : Obj}, s1.heap.get? b = some o → (∀ xs n, o.data ≠ .seq xs n) → o.data ≠ .fields #[] → H0 b = none := fun {b o} e d d2 => by
    cases q : H0 b with
    | none => rfl
    | some u =>
      rcases only b u q with ⟨rfl, _, _⟩ | ⟨hb, _⟩
      · rw [ha] at e; cases e
        exact absurd rfl (d _ _)
      · rw [tabAt b hb] at e; cases e
        exact absurd rfl d2
  have nsB : ∀ {b : Addr} {m : Str → Option Value}, s1.heap.Ns b m → (hidT s1.heap H0).Ns b m := fun {b m} ⟨o, es, ep, e, d, r⟩ => ⟨o, es, ep, hidT_get e (untr e (fun xs n z => by rw [d] at z; cases z) fun z => by rw [d] at z; cases z), d, r⟩
  have kinB : K.In (hidT s1.heap H0) := fun b o e => hidT_get (kin b o e) (by
    cases q : H0 b with
    | none => rfl
    | some u =>
      rcases only b u q with ⟨rfl, z, _⟩ | ⟨hb, _⟩
      · rw [z] at e; cases e
      · obtain ⟨p, hp, rfl⟩ := List.mem_map.mp hb
        rw [out p hp] at e; cases e)
  have tb : ∀ p ∈ cs, TabB (hidT s1.heap H0) mg p.1 p.2 := fun p hp => by
    have tp := tabs p hp
    refine ⟨?_, ?_, fun z => ?_⟩
    · obtain ⟨o, us, file, tf, flags, tg, inF, text, tt, e1, r1, r2, r3, r⟩ := heads p hp
      refine ⟨o, us, file, tf, flags, tg, inF, text, tt, hidT_get e1 (untr e1 (fun xs n z => by rw [r2] at z; cases z) fun z => ?_), r1, r2, r3, r⟩
      rw [r2] at z; cases z; cases r3
    · obtain ⟨bm, ob, b1, b2, b3, b4, b5, b6⟩ := main
      refine ⟨bm, ob, b1, b2, fun q => ?_, fun q => ?_, hidT_get b3 (untr b3 (fun xs n z => by rw [b6] at z; cases z) fun z => by rw [b6] at z; cases z), b4, b5, b6⟩
      · obtain ⟨o, es, ep, e, d, _⟩ := gl
        rw [q, e] at b3; cases b3
        rw [d] at b6; cases b6
      · rw [q, tp] at b3; cases b3; cases b6
    · obtain ⟨o, es, ep, e, d, _⟩ := gl
      rw [z, tp] at e; cases e; cases d
  have e0 : Env0 P w K mg (hidT s1.heap H0) callerA [] s1 H0 := by
    refine ⟨rfl, ⟨kinB, nsB gl, ⟨mb, nsB bl, blt⟩, ?_⟩, fun b o e => of_hidT e, Nat.le_of_eq (hidT_size _ _), trivial, (fun b z => nomatch z), hok, .of_eq gens⟩
    obtain ⟨mc, q1, q2⟩ := lim
    exact ⟨mc, nsB q1, q2⟩
  refine codeAny_mono ((F _ kinB (nsB gl) tb).run callerA [] s1 _ ⟨[.ref a], []⟩ [.ref a] [.ref a] _ _ rfl hr e0 (bind s1 (.ref a)) (.cons rfl .nil) (hsp _ (fun p hp => isTab p.2 (List.mem_map.mpr ⟨p, hp, rfl⟩)) sq)) fun r s' z => ?_
  match r, z with
  | .ok (.ret u), ⟨v, H', os, bare, un, hok', r', q⟩ =>
    obtain rfl : v = .bl true := q
    obtain rfl : u = Value.bool true := r'
    have stay : ∀ b o, b ∉ ts → s1.heap.get? b = some o → s'.heap.get? b = some o := fun b o nb e => by
      cases q : H0 b with
      | none => exact un.keep b o e q (fun z => nomatch z) (fun z => nomatch z)
      | some u =>
        rcases only b u q with ⟨rfl, _, rfl⟩ | ⟨hb, _⟩
        · obtain ⟨t1, _⟩ := hok b _ q
          obtain ⟨t2, _⟩ := hok' b _ (un.frzs b _ _ q)
          rw [e] at t1; cases t1
          exact t2
        · exact absurd hb nb
    have grew : ∀ b ∈ ts, ∃ more : Array Value, s'.heap.get? b = some { cls := .none, data := .fields more } := fun b hb => by
      obtain ⟨more, z⟩ := un.tbls b #[] (isTab b hb)
      exact ⟨_, hok' b _ z⟩
    refine ⟨rfl, ⟨fun b o e => ?_, fun b o e => ?_⟩, os, bare⟩
    · by_cases hb : b ∈ ts
      · obtain ⟨more, z⟩ := grew b hb
        rw [tabAt b hb] at e; cases e
        obtain ⟨p, hp, rfl⟩ := List.mem_map.mp hb
        refine .inr (.inl ⟨((heads p hp).tab (tabs p hp)).isCodeTable, rfl, #[], more, rfl, ?_⟩)
        rw [Array.empty_append]; exact z
      · exact .inl (stay b o hb e)
    · by_cases hb : b ∈ ts
      · obtain ⟨more, z⟩ := grew b hb
        exact ⟨_, z⟩
      · exact ⟨o, stay b o hb e⟩
/-- the goal behind the head, with tables -/
theorem walkT {l : PySem.W.OpenLaw} {n k : Nat} {q : Program} {loose : List Str} {XP : (Str → Option Value) → Heap → Prop} {YP : World → Heap → Prop} {d : DefRec} {K : Params → PySem.W.Frag} {x : Str} (hn : l.most = some n) (hn2 : n ≤ sizeLine) (hdf : d.params.defaults = []) (hr : Room k callerA)
    (hY : ∀ (w : World) (h : Heap), YP w h → (K w.params).In h)
    (F : ∀ (w : World) (mg : Str → Option Value) (fa : Addr) (h : Heap), YP w h → (K w.params).In h → h.Ns mainGlobals mg → mg d.name = some (.ref fa) →
      ∃ (fd : FuncData) (cs : List (Addr × Addr)) (sp : Sp), (∀ p ∈ cs, h.get? p.2 = some emptyT) ∧ (∀ p ∈ cs, (K w.params).lookup p.2 = none) ∧ (∀ p ∈ cs, PySem.W.CodeHd h p.1 p.2) ∧ (∀ (s : Shared) (u : Value), BindsTo s fd ⟨[u], []⟩ [(x, u)]) ∧
        (∀ (H : Hp) (a : Addr) (ns : List Int), ns.length ≤ n → (∀ p ∈ cs, H p.2 = some (.tbl #[])) → SqL (K w.params) H a (ns.map V.int) → sp [.ref a] H (fun v _ => v = .bl true) fun _ _ _ => False) ∧
        ∀ base : Heap, (K w.params).In base → base.Ns mainGlobals mg → (∀ p ∈ cs, TabB base mg p.1 p.2) → FnG l.prog w (K w.params) mg base k fa fd [x] sp) :
    PySem.W.WalkO q loose XP YP l.row.toRowW d [] (fun f vs => PySem.call f vs) := by
  refine Att.attach_callB hn hdf fun w s0 s1 mg mb fa o pm cd doc a vs ns G Y ho hd hcd hmg ha hi hlen hbits hg => ?_
  obtain ⟨fd, cs, sp, t1, t2, t3, hb, hsp, hF⟩ := F w mg fa _ Y (hY w _ Y) G.T.g hmg
  exact law_goesT (hY w _ Y) G.T.g G.T.b G.T.builtins G.T.nolimit hg t1 t2 t3 G.T.bmain ha hi (Nat.le_trans hlen hn2) hr hF hb fun H hH hS => hsp H a ns hlen hH hS
end RS

/-! End: what the top has written, and the law. -/
namespace RS
open PySem PySem.Spec PyProof.Rows L2 LamX NdefX

theorem all_mk {l : PySem.W.OpenLaw} {w : World} {K : PySem.W.Frag} {h : Heap} {mg : Str → Option Value} {fa f_led f_raised f_put_in f_opened f_bound_to f_exchanged f__law_begun f__law_blended f__law_draw f__law_pick f__law_rt_term f__law_rt_parts f__law_rt_leaves f__law_rt_with f__law_rt_raised f__law_rt_put f__law_k02_bound f__law_k02_exchanged f__law_k02_told f__law_k02_under f_law : Addr} (X : K.In h) (G : h.Ns mainGlobals mg) (hfa : mg "law" = some (.ref fa))
    {od_led an_led od_raised an_raised od_put_in an_put_in od_opened an_opened od_bound_to an_bound_to od_exchanged an_exchanged od__law_begun an__law_begun od__law_blended an__law_blended od__law_draw an__law_draw od__law_pick an__law_pick od__law_rt_term an__law_rt_term od__law_rt_parts an__law_rt_parts od__law_rt_leaves an__law_rt_leaves od__law_rt_with an__law_rt_with od__law_rt_raised an__law_rt_raised od__law_rt_put an__law_rt_put od__law_k02_bound an__law_k02_bound od__law_k02_exchanged an__law_k02_exchanged od__law_k02_told an__law_k02_told od__law_k02_under an__law_k02_under od_law an_law : Option Addr} {sl_led sl_raised sl_put_in sl_opened sl_bound_to sl_exchanged sl__law_begun sl__law_blended sl__law_draw sl__law_pick sl__law_rt_term sl__law_rt_parts sl__law_rt_leaves sl__law_rt_with sl__law_rt_raised sl__law_rt_put sl__law_k02_bound sl__law_k02_exchanged sl__law_k02_told sl__law_k02_under sl_law : Array (Option Value)}
    {oc_led kV_led dc_led pm_led ct_led cd_led oc_raised kV_raised dc_raised pm_raised ct_raised oc_put_in kV_put_in dc_put_in pm_put_in ct_put_in oc_opened kV_opened dc_opened pm_opened ct_opened cd_opened oc_bound_to kV_bound_to dc_bound_to pm_bound_to ct_bound_to oc_exchanged kV_exchanged dc_exchanged pm_exchanged ct_exchanged oc__law_begun kV__law_begun dc__law_begun pm__law_begun ct__law_begun cd__law_begun oc__law_blended kV__law_blended dc__law_blended pm__law_blended ct__law_blended cd__law_blended oc__law_draw kV__law_draw dc__law_draw pm__law_draw ct__law_draw cd__law_draw oc__law_pick kV__law_pick dc__law_pick pm__law_pick ct__law_pick cd__law_pick oc__law_rt_term kV__law_rt_term dc__law_rt_term pm__law_rt_term ct__law_rt_term cd__law_rt_term oc__law_rt_parts kV__law_rt_parts dc__law_rt_parts pm__law_rt_parts ct__law_rt_parts cd__law_rt_parts oc__law_rt_leaves kV__law_rt_leaves dc__law_rt_leaves pm__law_rt_leaves ct__law_rt_leaves cd__law_rt_leaves oc__law_rt_with kV__law_rt_with dc__law_rt_with pm__law_rt_with ct__law_rt_with cd__law_rt_with oc__law_rt_raised kV__law_rt_raised dc__law_rt_raised pm__law_rt_raised ct__law_rt_raised cd__law_rt_raised oc__law_rt_put kV__law_rt_put dc__law_rt_put pm__law_rt_put ct__law_rt_put cd__law_rt_put oc__law_k02_bound kV__law_k02_bound dc__law_k02_bound pm__law_k02_bound ct__law_k02_bound cd__law_k02_bound oc__law_k02_exchanged kV__law_k02_exchanged dc__law_k02_exchanged pm__law_k02_exchanged ct__law_k02_exchanged cd__law_k02_exchanged oc__law_k02_told kV__law_k02_told dc__law_k02_told pm__law_k02_told ct__law_k02_told cd__law_k02_told oc__law_k02_under kV__law_k02_under dc__law_k02_under pm__law_k02_under ct__law_k02_under cd__law_k02_under oc_law kV_law dc_law pm_law ct_law cd_law : Value} {c_raised P_raised c_put_in P_put_in c_bound_to P_bound_to c_exchanged P_exchanged : Addr} {ob_raised ob_put_in ob_bound_to ob_exchanged : Obj}
    (a_led : PySem.W.nsIn K mainGlobals "led" = some (some (.ref f_led))) (l_led : K.lookup f_led = some ⟨oc_led, od_led, .func (PySem.W.fnOf "led" "led" (defArgs s_led) (defBody s_led) (defScope s_led) .none kV_led dc_led pm_led an_led cd_led ct_led), sl_led⟩) (c_led : PySem.W.codeIn K cd_led "led" = true) (k_led : PySem.W.keepIn K (.ref f_led) = true)
    (a_raised : PySem.W.nsIn K mainGlobals "raised" = some (some (.ref f_raised))) (l_raised : K.lookup f_raised = some ⟨oc_raised, od_raised, .func (PySem.W.fnOf "raised" "raised" (defArgs s_raised) (defBody s_raised) (defScope s_raised) .none kV_raised dc_raised pm_raised an_raised (.ref c_raised) ct_raised), sl_raised⟩) (cq_raised : PySem.W.codeIn K (.ref c_raised) "raised" = true) (k_raised : PySem.W.keepIn K (.ref f_raised) = true)
    (a_put_in : PySem.W.nsIn K mainGlobals "put_in" = some (some (.ref f_put_in))) (l_put_in : K.lookup f_put_in = some ⟨oc_put_in, od_put_in, .func (PySem.W.fnOf "put_in" "put_in" (defArgs s_put_in) (defBody s_put_in) (defScope s_put_in) .none kV_put_in dc_put_in pm_put_in an_put_in (.ref c_put_in) ct_put_in), sl_put_in⟩) (cq_put_in : PySem.W.codeIn K (.ref c_put_in) "put_in" = true) (k_put_in : PySem.W.keepIn K (.ref f_put_in) = true)
    (a_opened : PySem.W.nsIn K mainGlobals "opened" = some (some (.ref f_opened))) (l_opened : K.lookup f_opened = some ⟨oc_opened, od_opened, .func (PySem.W.fnOf "opened" "opened" (defArgs s_opened) (defBody s_opened) (defScope s_opened) .none kV_opened dc_opened pm_opened an_opened cd_opened ct_opened), sl_opened⟩) (c_opened : PySem.W.codeIn K cd_opened "opened" = true) (k_opened : PySem.W.keepIn K (.ref f_opened) = true)
    (a_bound_to : PySem.W.nsIn K mainGlobals "bound_to" = some (some (.ref f_bound_to))) (l_bound_to : K.lookup f_bound_to = some ⟨oc_bound_to, od_bound_to, .func (PySem.W.fnOf "bound_to" "bound_to" (defArgs s_bound_to) (defBody s_bound_to) (defScope s_bound_to) .none kV_bound_to dc_bound_to pm_bound_to an_bound_to (.ref c_bound_to) ct_bound_to), sl_bound_to⟩) (cq_bound_to : PySem.W.codeIn K (.ref c_bound_to) "bound_to" = true) (k_bound_to : PySem.W.keepIn K (.ref f_bound_to) = true)
    (a_exchanged : PySem.W.nsIn K mainGlobals "exchanged" = some (some (.ref f_exchanged))) (l_exchanged : K.lookup f_exchanged = some ⟨oc_exchanged, od_exchanged, .func (PySem.W.fnOf "exchanged" "exchanged" (defArgs s_exchanged) (defBody s_exchanged) (defScope s_exchanged) .none kV_exchanged dc_exchanged pm_exchanged an_exchanged (.ref c_exchanged) ct_exchanged), sl_exchanged⟩) (cq_exchanged : PySem.W.codeIn K (.ref c_exchanged) "exchanged" = true) (k_exchanged : PySem.W.keepIn K (.ref f_exchanged) = true)
    (a__law_begun : PySem.W.nsIn K mainGlobals "_law_begun" = some (some (.ref f__law_begun))) (l__law_begun : K.lookup f__law_begun = some ⟨oc__law_begun, od__law_begun, .func (PySem.W.fnOf "_law_begun" "_law_begun" (defArgs s_law_begun) (defBody s_law_begun) (defScope s_law_begun) .none kV__law_begun dc__law_begun pm__law_begun an__law_begun cd__law_begun ct__law_begun), sl__law_begun⟩) (c__law_begun : PySem.W.codeIn K cd__law_begun "_law_begun" = true) (k__law_begun : PySem.W.keepIn K (.ref f__law_begun) = true)
    (a__law_blended : PySem.W.nsIn K mainGlobals "_law_blended" = some (some (.ref f__law_blended))) (l__law_blended : K.lookup f__law_blended = some ⟨oc__law_blended, od__law_blended, .func (PySem.W.fnOf "_law_blended" "_law_blended" (defArgs s_law_blended) (defBody s_law_blended) (defScope s_law_blended) .none kV__law_blended dc__law_blended pm__law_blended an__law_blended cd__law_blended ct__law_blended), sl__law_blended⟩) (c__law_blended : PySem.W.codeIn K cd__law_blended "_law_blended" = true) (k__law_blended : PySem.W.keepIn K (.ref f__law_blended) = true)
    (a__law_draw : PySem.W.nsIn K mainGlobals "_law_draw" = some (some (.ref f__law_draw))) (l__law_draw : K.lookup f__law_draw = some ⟨oc__law_draw, od__law_draw, .func (PySem.W.fnOf "_law_draw" "_law_draw" (defArgs s_law_draw) (defBody s_law_draw) (defScope s_law_draw) .none kV__law_draw dc__law_draw pm__law_draw an__law_draw cd__law_draw ct__law_draw), sl__law_draw⟩) (c__law_draw : PySem.W.codeIn K cd__law_draw "_law_draw" = true) (k__law_draw : PySem.W.keepIn K (.ref f__law_draw) = true)
    (a__law_pick : PySem.W.nsIn K mainGlobals "_law_pick" = some (some (.ref f__law_pick))) (l__law_pick : K.lookup f__law_pick = some ⟨oc__law_pick, od__law_pick, .func (PySem.W.fnOf "_law_pick" "_law_pick" (defArgs s_law_pick) (defBody s_law_pick) (defScope s_law_pick) .none kV__law_pick dc__law_pick pm__law_pick an__law_pick cd__law_pick ct__law_pick), sl__law_pick⟩) (c__law_pick : PySem.W.codeIn K cd__law_pick "_law_pick" = true) (k__law_pick : PySem.W.keepIn K (.ref f__law_pick) = true)
    (a__law_rt_term : PySem.W.nsIn K mainGlobals "_law_rt_term" = some (some (.ref f__law_rt_term))) (l__law_rt_term : K.lookup f__law_rt_term = some ⟨oc__law_rt_term, od__law_rt_term, .func (PySem.W.fnOf "_law_rt_term" "_law_rt_term" (defArgs s_law_rt_term) (defBody s_law_rt_term) (defScope s_law_rt_term) .none kV__law_rt_term dc__law_rt_term pm__law_rt_term an__law_rt_term cd__law_rt_term ct__law_rt_term), sl__law_rt_term⟩) (c__law_rt_term : PySem.W.codeIn K cd__law_rt_term "_law_rt_term" = true) (k__law_rt_term : PySem.W.keepIn K (.ref f__law_rt_term) = true)
    (a__law_rt_parts : PySem.W.nsIn K mainGlobals "_law_rt_parts" = some (some (.ref f__law_rt_parts))) (l__law_rt_parts : K.lookup f__law_rt_parts = some ⟨oc__law_rt_parts, od__law_rt_parts, .func (PySem.W.fnOf "_law_rt_parts" "_law_rt_parts" (defArgs s_law_rt_parts) (defBody s_law_rt_parts) (defScope s_law_rt_parts) .none kV__law_rt_parts dc__law_rt_parts pm__law_rt_parts an__law_rt_parts cd__law_rt_parts ct__law_rt_parts), sl__law_rt_parts⟩) (c__law_rt_parts : PySem.W.codeIn K cd__law_rt_parts "_law_rt_parts" = true) (k__law_rt_parts : PySem.W.keepIn K (.ref f__law_rt_parts) = true)
    (a__law_rt_leaves : PySem.W.nsIn K mainGlobals "_law_rt_leaves" = some (some (.ref f__law_rt_leaves))) (l__law_rt_leaves : K.lookup f__law_rt_leaves = some ⟨oc__law_rt_leaves, od__law_rt_leaves, .func (PySem.W.fnOf "_law_rt_leaves" "_law_rt_leaves" (defArgs s_law_rt_leaves) (defBody s_law_rt_leaves) (defScope s_law_rt_leaves) .none kV__law_rt_leaves dc__law_rt_leaves pm__law_rt_leaves an__law_rt_leaves cd__law_rt_leaves ct__law_rt_leaves), sl__law_rt_leaves⟩) (c__law_rt_leaves : PySem.W.codeIn K cd__law_rt_leaves "_law_rt_leaves" = true) (k__law_rt_leaves : PySem.W.keepIn K (.ref f__law_rt_leaves) = true)
    (a__law_rt_with : PySem.W.nsIn K mainGlobals "_law_rt_with" = some (some (.ref f__law_rt_with))) (l__law_rt_with : K.lookup f__law_rt_with = some ⟨oc__law_rt_with, od__law_rt_with, .func (PySem.W.fnOf "_law_rt_with" "_law_rt_with" (defArgs s_law_rt_with) (defBody s_law_rt_with) (defScope s_law_rt_with) .none kV__law_rt_with dc__law_rt_with pm__law_rt_with an__law_rt_with cd__law_rt_with ct__law_rt_with), sl__law_rt_with⟩) (c__law_rt_with : PySem.W.codeIn K cd__law_rt_with "_law_rt_with" = true) (k__law_rt_with : PySem.W.keepIn K (.ref f__law_rt_with) = true)
    (a__law_rt_raised : PySem.W.nsIn K mainGlobals "_law_rt_raised" = some (some (.ref f__law_rt_raised))) (l__law_rt_raised : K.lookup f__law_rt_raised = some ⟨oc__law_rt_raised, od__law_rt_raised, .func (PySem.W.fnOf "_law_rt_raised" "_law_rt_raised" (defArgs s_law_rt_raised) (defBody s_law_rt_raised) (defScope s_law_rt_raised) .none kV__law_rt_raised dc__law_rt_raised pm__law_rt_raised an__law_rt_raised cd__law_rt_raised ct__law_rt_raised), sl__law_rt_raised⟩) (c__law_rt_raised : PySem.W.codeIn K cd__law_rt_raised "_law_rt_raised" = true) (k__law_rt_raised : PySem.W.keepIn K (.ref f__law_rt_raised) = true)
    (a__law_rt_put : PySem.W.nsIn K mainGlobals "_law_rt_put" = some (some (.ref f__law_rt_put))) (l__law_rt_put : K.lookup f__law_rt_put = some ⟨oc__law_rt_put, od__law_rt_put, .func (PySem.W.fnOf "_law_rt_put" "_law_rt_put" (defArgs s_law_rt_put) (defBody s_law_rt_put) (defScope s_law_rt_put) .none kV__law_rt_put dc__law_rt_put pm__law_rt_put an__law_rt_put cd__law_rt_put ct__law_rt_put), sl__law_rt_put⟩) (c__law_rt_put : PySem.W.codeIn K cd__law_rt_put "_law_rt_put" = true) (k__law_rt_put : PySem.W.keepIn K (.ref f__law_rt_put) = true)
    (a__law_k02_bound : PySem.W.nsIn K mainGlobals "_law_k02_bound" = some (some (.ref f__law_k02_bound))) (l__law_k02_bound : K.lookup f__law_k02_bound = some ⟨oc__law_k02_bound, od__law_k02_bound, .func (PySem.W.fnOf "_law_k02_bound" "_law_k02_bound" (defArgs s_law_k02_bound) (defBody s_law_k02_bound) (defScope s_law_k02_bound) .none kV__law_k02_bound dc__law_k02_bound pm__law_k02_bound an__law_k02_bound cd__law_k02_bound ct__law_k02_bound), sl__law_k02_bound⟩) (c__law_k02_bound : PySem.W.codeIn K cd__law_k02_bound "_law_k02_bound" = true) (k__law_k02_bound : PySem.W.keepIn K (.ref f__law_k02_bound) = true)
    (a__law_k02_exchanged : PySem.W.nsIn K mainGlobals "_law_k02_exchanged" = some (some (.ref f__law_k02_exchanged))) (l__law_k02_exchanged : K.lookup f__law_k02_exchanged = some ⟨oc__law_k02_exchanged, od__law_k02_exchanged, .func (PySem.W.fnOf "_law_k02_exchanged" "_law_k02_exchanged" (defArgs s_law_k02_exchanged) (defBody s_law_k02_exchanged) (defScope s_law_k02_exchanged) .none kV__law_k02_exchanged dc__law_k02_exchanged pm__law_k02_exchanged an__law_k02_exchanged cd__law_k02_exchanged ct__law_k02_exchanged), sl__law_k02_exchanged⟩) (c__law_k02_exchanged : PySem.W.codeIn K cd__law_k02_exchanged "_law_k02_exchanged" = true) (k__law_k02_exchanged : PySem.W.keepIn K (.ref f__law_k02_exchanged) = true)
    (a__law_k02_told : PySem.W.nsIn K mainGlobals "_law_k02_told" = some (some (.ref f__law_k02_told))) (l__law_k02_told : K.lookup f__law_k02_told = some ⟨oc__law_k02_told, od__law_k02_told, .func (PySem.W.fnOf "_law_k02_told" "_law_k02_told" (defArgs s_law_k02_told) (defBody s_law_k02_told) (defScope s_law_k02_told) .none kV__law_k02_told dc__law_k02_told pm__law_k02_told an__law_k02_told cd__law_k02_told ct__law_k02_told), sl__law_k02_told⟩) (c__law_k02_told : PySem.W.codeIn K cd__law_k02_told "_law_k02_told" = true) (k__law_k02_told : PySem.W.keepIn K (.ref f__law_k02_told) = true)
    (a__law_k02_under : PySem.W.nsIn K mainGlobals "_law_k02_under" = some (some (.ref f__law_k02_under))) (l__law_k02_under : K.lookup f__law_k02_under = some ⟨oc__law_k02_under, od__law_k02_under, .func (PySem.W.fnOf "_law_k02_under" "_law_k02_under" (defArgs s_law_k02_under) (defBody s_law_k02_under) (defScope s_law_k02_under) .none kV__law_k02_under dc__law_k02_under pm__law_k02_under an__law_k02_under cd__law_k02_under ct__law_k02_under), sl__law_k02_under⟩) (c__law_k02_under : PySem.W.codeIn K cd__law_k02_under "_law_k02_under" = true) (k__law_k02_under : PySem.W.keepIn K (.ref f__law_k02_under) = true)
    (a_law : PySem.W.nsIn K mainGlobals "law" = some (some (.ref f_law))) (l_law : K.lookup f_law = some ⟨oc_law, od_law, .func (PySem.W.fnOf "law" "law" (defArgs s_law) (defBody s_law) (defScope s_law) .none kV_law dc_law pm_law an_law cd_law ct_law), sl_law⟩) (c_law : PySem.W.codeIn K cd_law "law" = true) (k_law : PySem.W.keepIn K (.ref f_law) = true)
    (o_raised : K.lookup c_raised = some ob_raised) (p_raised : (obVs ob_raised)[11]? = some (.ref P_raised)) (h_raised : PySem.W.codeHdIn [(c_raised, ob_raised)] c_raised P_raised = true) (e_raised : h.get? P_raised = some emptyT) (n_raised : K.lookup P_raised = none)
    (o_put_in : K.lookup c_put_in = some ob_put_in) (p_put_in : (obVs ob_put_in)[11]? = some (.ref P_put_in)) (h_put_in : PySem.W.codeHdIn [(c_put_in, ob_put_in)] c_put_in P_put_in = true) (e_put_in : h.get? P_put_in = some emptyT) (n_put_in : K.lookup P_put_in = none)
    (o_bound_to : K.lookup c_bound_to = some ob_bound_to) (p_bound_to : (obVs ob_bound_to)[11]? = some (.ref P_bound_to)) (h_bound_to : PySem.W.codeHdIn [(c_bound_to, ob_bound_to)] c_bound_to P_bound_to = true) (e_bound_to : h.get? P_bound_to = some emptyT) (n_bound_to : K.lookup P_bound_to = none)
    (o_exchanged : K.lookup c_exchanged = some ob_exchanged) (p_exchanged : (obVs ob_exchanged)[11]? = some (.ref P_exchanged)) (h_exchanged : PySem.W.codeHdIn [(c_exchanged, ob_exchanged)] c_exchanged P_exchanged = true) (e_exchanged : h.get? P_exchanged = some emptyT) (n_exchanged : K.lookup P_exchanged = none)
    (dd : [P_raised, P_put_in, P_bound_to, P_exchanged].Nodup)
    (z_abs : PySem.W.nsIn K mainGlobals "abs" = some none) (z_int : PySem.W.nsIn K mainGlobals "int" = some none) (z_len : PySem.W.nsIn K mainGlobals "len" = some none) (z_min : PySem.W.nsIn K mainGlobals "min" = some none) (z_range : PySem.W.nsIn K mainGlobals "range" = some none) (z_repr : PySem.W.nsIn K mainGlobals "repr" = some none) (z_tuple : PySem.W.nsIn K mainGlobals "tuple" = some none) :
    ∃ (fd : FuncData) (cs : List (Addr × Addr)) (sp : Sp), (∀ p ∈ cs, h.get? p.2 = some emptyT) ∧ (∀ p ∈ cs, K.lookup p.2 = none) ∧ (∀ p ∈ cs, PySem.W.CodeHd h p.1 p.2) ∧ (∀ (s : Shared) (u : Value), BindsTo s fd ⟨[u], []⟩ [("script", u)]) ∧
        (∀ (H : Hp) (a : Addr) (ns : List Int), ns.length ≤ 63 → (∀ p ∈ cs, H p.2 = some (.tbl #[])) → SqL K H a (ns.map V.int) → sp [.ref a] H (fun v _ => v = .bl true) fun _ _ _ => False) ∧
        ∀ base : Heap, K.In base → base.Ns mainGlobals mg → (∀ p ∈ cs, TabB base mg p.1 p.2) → FnG l.prog w K mg base 26 fa fd ["script"] sp := by
  have e := hfa.symm.trans (PySem.W.mg_of X G a_law)
  cases e
  refine ⟨PySem.W.fnOf "law" "law" (defArgs s_law) (defBody s_law) (defScope s_law) .none kV_law dc_law pm_law an_law cd_law ct_law, [(c_raised, P_raised), (c_put_in, P_put_in), (c_bound_to, P_bound_to), (c_exchanged, P_exchanged)], spLaw [(P_raised, nmO "raised.<locals>.more"), (P_put_in, nmO "put_in.<locals>.put"), (P_bound_to, nmO "bound_to.<locals>.bind"), (P_exchanged, nmO "exchanged.<locals>.put")] K, ?_, ?_, ?_, fun s v => .of_eq rfl, ?_, fun base KB NB tbs => ?_⟩
  · intro q hq
    simp only [List.mem_cons, List.not_mem_nil, or_false] at hq
    rcases hq with rfl | rfl | rfl | rfl
    · exact e_raised
    · exact e_put_in
    · exact e_bound_to
    · exact e_exchanged
  · intro q hq
    simp only [List.mem_cons, List.not_mem_nil, or_false] at hq
    rcases hq with rfl | rfl | rfl | rfl
    · exact n_raised
    · exact n_put_in
    · exact n_bound_to
    · exact n_exchanged
  · intro q hq
    simp only [List.mem_cons, List.not_mem_nil, or_false] at hq
    rcases hq with rfl | rfl | rfl | rfl
    · exact less_hd X o_raised h_raised
    · exact less_hd X o_put_in h_put_in
    · exact less_hd X o_bound_to h_bound_to
    · exact less_hd X o_exchanged h_exchanged
  · intro H a ns hl hH hS
    refine ⟨a, ns, rfl, hS, hl, fun q hq => ?_, fun _ => rfl⟩
    simp only [List.mem_cons, List.not_mem_nil, or_false] at hq
    rcases hq with rfl | rfl | rfl | rfl
    · exact TabN.nil (hH (c_raised, P_raised) (by simp))
    · exact TabN.nil (hH (c_put_in, P_put_in) (by simp))
    · exact TabN.nil (hH (c_bound_to, P_bound_to) (by simp))
    · exact TabN.nil (hH (c_exchanged, P_exchanged) (by simp))
  have F_led := fun_mk (st := s_led) l_led c_led k_led
  have E_led : FunC K "led" "led" s_led f_led _ cd_led := ⟨⟨_, _, _, _, _, _, _, _, rfl, l_led, c_led⟩, k_led⟩
  have m_led := PySem.W.mg_of X G a_led
  have b_led := F_led.binds (ps := ["term", "ahead", "work"]) fun _ _ _ _ _ _ us hl => match us, hl with | [_, _, _], _ => rfl
  have F_raised := fun_mk (st := s_raised) l_raised cq_raised k_raised
  have E_raised : FunC K "raised" "raised" s_raised f_raised _ (.ref c_raised) := ⟨⟨_, _, _, _, _, _, _, _, rfl, l_raised, cq_raised⟩, k_raised⟩
  have m_raised := PySem.W.mg_of X G a_raised
  have b_raised := F_raised.binds (ps := ["term", "by"]) fun _ _ _ _ _ _ us hl => match us, hl with | [_, _], _ => rfl
  have F_put_in := fun_mk (st := s_put_in) l_put_in cq_put_in k_put_in
  have E_put_in : FunC K "put_in" "put_in" s_put_in f_put_in _ (.ref c_put_in) := ⟨⟨_, _, _, _, _, _, _, _, rfl, l_put_in, cq_put_in⟩, k_put_in⟩
  have m_put_in := PySem.W.mg_of X G a_put_in
  have b_put_in := F_put_in.binds (ps := ["body", "value"]) fun _ _ _ _ _ _ us hl => match us, hl with | [_, _], _ => rfl
  have F_opened := fun_mk (st := s_opened) l_opened c_opened k_opened
  have m_opened := PySem.W.mg_of X G a_opened
  have b_opened := F_opened.binds (ps := ["body", "number"]) fun _ _ _ _ _ _ us hl => match us, hl with | [_, _], _ => rfl
  have F_bound_to := fun_mk (st := s_bound_to) l_bound_to cq_bound_to k_bound_to
  have E_bound_to : FunC K "bound_to" "bound_to" s_bound_to f_bound_to _ (.ref c_bound_to) := ⟨⟨_, _, _, _, _, _, _, _, rfl, l_bound_to, cq_bound_to⟩, k_bound_to⟩
  have m_bound_to := PySem.W.mg_of X G a_bound_to
  have b_bound_to := F_bound_to.binds (ps := ["term", "number"]) fun _ _ _ _ _ _ us hl => match us, hl with | [_, _], _ => rfl
  have F_exchanged := fun_mk (st := s_exchanged) l_exchanged cq_exchanged k_exchanged
  have E_exchanged : FunC K "exchanged" "exchanged" s_exchanged f_exchanged _ (.ref c_exchanged) := ⟨⟨_, _, _, _, _, _, _, _, rfl, l_exchanged, cq_exchanged⟩, k_exchanged⟩
  have m_exchanged := PySem.W.mg_of X G a_exchanged
  have b_exchanged := F_exchanged.binds (ps := ["term", "values"]) fun _ _ _ _ _ _ us hl => match us, hl with | [_, _], _ => rfl
  have F__law_begun := fun_mk (st := s_law_begun) l__law_begun c__law_begun k__law_begun
  have m__law_begun := PySem.W.mg_of X G a__law_begun
  have b__law_begun := F__law_begun.binds (ps := ["script"]) fun _ _ _ _ _ _ us hl => match us, hl with | [_], _ => rfl
  have F__law_blended := fun_mk (st := s_law_blended) l__law_blended c__law_blended k__law_blended
  have m__law_blended := PySem.W.mg_of X G a__law_blended
  have b__law_blended := F__law_blended.binds (ps := ["state"]) fun _ _ _ _ _ _ us hl => match us, hl with | [_], _ => rfl
  have F__law_draw := fun_mk (st := s_law_draw) l__law_draw c__law_draw k__law_draw
  have m__law_draw := PySem.W.mg_of X G a__law_draw
  have b__law_draw := F__law_draw.binds (ps := ["state", "size_here"]) fun _ _ _ _ _ _ us hl => match us, hl with | [_, _], _ => rfl
  have F__law_pick := fun_mk (st := s_law_pick) l__law_pick c__law_pick k__law_pick
  have m__law_pick := PySem.W.mg_of X G a__law_pick
  have b__law_pick := F__law_pick.binds (ps := ["state", "several"]) fun _ _ _ _ _ _ us hl => match us, hl with | [_, _], _ => rfl
  have F__law_rt_term := fun_mk (st := s_law_rt_term) l__law_rt_term c__law_rt_term k__law_rt_term
  have m__law_rt_term := PySem.W.mg_of X G a__law_rt_term
  have b__law_rt_term := F__law_rt_term.binds (ps := ["state", "deep", "ahead"]) fun _ _ _ _ _ _ us hl => match us, hl with | [_, _, _], _ => rfl
  have F__law_rt_parts := fun_mk (st := s_law_rt_parts) l__law_rt_parts c__law_rt_parts k__law_rt_parts
  have m__law_rt_parts := PySem.W.mg_of X G a__law_rt_parts
  have b__law_rt_parts := F__law_rt_parts.binds (ps := ["term"]) fun _ _ _ _ _ _ us hl => match us, hl with | [_], _ => rfl
  have F__law_rt_leaves := fun_mk (st := s_law_rt_leaves) l__law_rt_leaves c__law_rt_leaves k__law_rt_leaves
  have m__law_rt_leaves := PySem.W.mg_of X G a__law_rt_leaves
  have b__law_rt_leaves := F__law_rt_leaves.binds (ps := ["term", "ahead"]) fun _ _ _ _ _ _ us hl => match us, hl with | [_, _], _ => rfl
  have F__law_rt_with := fun_mk (st := s_law_rt_with) l__law_rt_with c__law_rt_with k__law_rt_with
  have m__law_rt_with := PySem.W.mg_of X G a__law_rt_with
  have b__law_rt_with := F__law_rt_with.binds (ps := ["term", "leaves"]) fun _ _ _ _ _ _ us hl => match us, hl with | [_, _], _ => rfl
  have F__law_rt_raised := fun_mk (st := s_law_rt_raised) l__law_rt_raised c__law_rt_raised k__law_rt_raised
  have m__law_rt_raised := PySem.W.mg_of X G a__law_rt_raised
  have b__law_rt_raised := F__law_rt_raised.binds (ps := ["term", "by"]) fun _ _ _ _ _ _ us hl => match us, hl with | [_, _], _ => rfl
  have F__law_rt_put := fun_mk (st := s_law_rt_put) l__law_rt_put c__law_rt_put k__law_rt_put
  have m__law_rt_put := PySem.W.mg_of X G a__law_rt_put
  have b__law_rt_put := F__law_rt_put.binds (ps := ["body", "value"]) fun _ _ _ _ _ _ us hl => match us, hl with | [_, _], _ => rfl
  have F__law_k02_bound := fun_mk (st := s_law_k02_bound) l__law_k02_bound c__law_k02_bound k__law_k02_bound
  have m__law_k02_bound := PySem.W.mg_of X G a__law_k02_bound
  have b__law_k02_bound := F__law_k02_bound.binds (ps := ["term", "number"]) fun _ _ _ _ _ _ us hl => match us, hl with | [_, _], _ => rfl
  have F__law_k02_exchanged := fun_mk (st := s_law_k02_exchanged) l__law_k02_exchanged c__law_k02_exchanged k__law_k02_exchanged
  have m__law_k02_exchanged := PySem.W.mg_of X G a__law_k02_exchanged
  have b__law_k02_exchanged := F__law_k02_exchanged.binds (ps := ["term", "values"]) fun _ _ _ _ _ _ us hl => match us, hl with | [_, _], _ => rfl
  have F__law_k02_told := fun_mk (st := s_law_k02_told) l__law_k02_told c__law_k02_told k__law_k02_told
  have m__law_k02_told := PySem.W.mg_of X G a__law_k02_told
  have b__law_k02_told := F__law_k02_told.binds (ps := ["number", "other"]) fun _ _ _ _ _ _ us hl => match us, hl with | [_, _], _ => rfl
  have F__law_k02_under := fun_mk (st := s_law_k02_under) l__law_k02_under c__law_k02_under k__law_k02_under
  have m__law_k02_under := PySem.W.mg_of X G a__law_k02_under
  have b__law_k02_under := F__law_k02_under.binds (ps := ["body", "by"]) fun _ _ _ _ _ _ us hl => match us, hl with | [_, _], _ => rfl
  have F_law := fun_mk (st := s_law) l_law c_law k_law
  have n_abs := PySem.W.mg_none_of X G z_abs
  have n_int := PySem.W.mg_none_of X G z_int
  have n_len := PySem.W.mg_none_of X G z_len
  have n_min := PySem.W.mg_none_of X G z_min
  have n_range := PySem.W.mg_none_of X G z_range
  have n_repr := PySem.W.mg_none_of X G z_repr
  have n_tuple := PySem.W.mg_none_of X G z_tuple
  have nd4 := dd
  simp only [List.nodup_cons, List.mem_cons, List.not_mem_nil, or_false, not_or, not_false_eq_true, and_true, List.nodup_nil] at nd4
  obtain ⟨⟨u12, u13, u14⟩, ⟨u23, u24⟩, u34⟩ := nd4
  have T_raised : TabM [(P_raised, nmO "raised.<locals>.more"), (P_put_in, nmO "put_in.<locals>.put"), (P_bound_to, nmO "bound_to.<locals>.bind"), (P_exchanged, nmO "exchanged.<locals>.put")] base mg c_raised P_raised "raised.<locals>.more" := ⟨tbs (c_raised, P_raised) (by simp), by simp, fun q hq he => by
    simp only [List.mem_cons, List.not_mem_nil, or_false] at hq
    rcases hq with rfl | rfl | rfl | rfl
    · rfl
    · exact absurd he.symm u12
    · exact absurd he.symm u13
    · exact absurd he.symm u14⟩
  have T_put_in : TabM [(P_raised, nmO "raised.<locals>.more"), (P_put_in, nmO "put_in.<locals>.put"), (P_bound_to, nmO "bound_to.<locals>.bind"), (P_exchanged, nmO "exchanged.<locals>.put")] base mg c_put_in P_put_in "put_in.<locals>.put" := ⟨tbs (c_put_in, P_put_in) (by simp), by simp, fun q hq he => by
    simp only [List.mem_cons, List.not_mem_nil, or_false] at hq
    rcases hq with rfl | rfl | rfl | rfl
    · exact absurd he u12
    · rfl
    · exact absurd he.symm u23
    · exact absurd he.symm u24⟩
  have T_bound_to : TabM [(P_raised, nmO "raised.<locals>.more"), (P_put_in, nmO "put_in.<locals>.put"), (P_bound_to, nmO "bound_to.<locals>.bind"), (P_exchanged, nmO "exchanged.<locals>.put")] base mg c_bound_to P_bound_to "bound_to.<locals>.bind" := ⟨tbs (c_bound_to, P_bound_to) (by simp), by simp, fun q hq he => by
    simp only [List.mem_cons, List.not_mem_nil, or_false] at hq
    rcases hq with rfl | rfl | rfl | rfl
    · exact absurd he u13
    · exact absurd he u23
    · rfl
    · exact absurd he.symm u34⟩
  have T_exchanged : TabM [(P_raised, nmO "raised.<locals>.more"), (P_put_in, nmO "put_in.<locals>.put"), (P_bound_to, nmO "bound_to.<locals>.bind"), (P_exchanged, nmO "exchanged.<locals>.put")] base mg c_exchanged P_exchanged "exchanged.<locals>.put" := ⟨tbs (c_exchanged, P_exchanged) (by simp), by simp, fun q hq he => by
    simp only [List.mem_cons, List.not_mem_nil, or_false] at hq
    rcases hq with rfl | rfl | rfl | rfl
    · exact absurd he u14
    · exact absurd he u24
    · exact absurd he u34
    · rfl⟩
  have LF : LedF K mg f_led _ _ := ⟨E_led, m_led, b_led⟩
  have D_law_rt_parts : Df l.prog w K mg base "_law_rt_parts" 1 ["term"] (spParts K) := ⟨_, _, ok_rt_parts F__law_rt_parts, m__law_rt_parts, k__law_rt_parts, b__law_rt_parts⟩
  have D_law_blended : Df l.prog w K mg base "_law_blended" 1 ["state"] spBlended := ⟨_, _, ok_blended F__law_blended n_int, m__law_blended, k__law_blended, b__law_blended⟩
  have D_law_draw : Df l.prog w K mg base "_law_draw" 2 ["state", "size_here"] spDraw := ⟨_, _, ok_draw F__law_draw n_int D_law_blended, m__law_draw, k__law_draw, b__law_draw⟩
  have D_law_pick : Df l.prog w K mg base "_law_pick" 3 ["state", "several"] spPick := ⟨_, _, ok_pick F__law_pick n_len D_law_draw, m__law_pick, k__law_pick, b__law_pick⟩
  have D_law_rt_leaves : Df l.prog w K mg base "_law_rt_leaves" 7 ["term", "ahead"] (spLeaves K 6) := ⟨_, _, ok_leaves F__law_rt_leaves m__law_rt_leaves b__law_rt_leaves D_law_rt_parts 6, m__law_rt_leaves, k__law_rt_leaves, b__law_rt_leaves⟩
  have D_law_rt_with : Df l.prog w K mg base "_law_rt_with" 7 ["term", "leaves"] (spWith K 6) := ⟨_, _, ok_with F__law_rt_with m__law_rt_with b__law_rt_with D_law_rt_parts 6, m__law_rt_with, k__law_rt_with, b__law_rt_with⟩
  have D_law_rt_raised : Df l.prog w K mg base "_law_rt_raised" 8 ["term", "by"] (spOR K 6 0) := ⟨_, _, ok_oR F__law_rt_raised D_law_rt_leaves D_law_rt_with, m__law_rt_raised, k__law_rt_raised, b__law_rt_raised⟩
  have G_raised := ok_raised (P := l.prog) (w := w) E_raised LF T_raised 10
  have Draised : Df l.prog w K mg base "raised" 12 ["term", "by"] (spRaised [(P_raised, nmO "raised.<locals>.more"), (P_put_in, nmO "put_in.<locals>.put"), (P_bound_to, nmO "bound_to.<locals>.bind"), (P_exchanged, nmO "exchanged.<locals>.put")] K 10) := ⟨_, _, G_raised, m_raised, k_raised, b_raised⟩
  have G_put_in := ok_put_in (P := l.prog) (w := w) E_put_in LF T_put_in 10 10 Draised
  have Dput_in : Df l.prog w K mg base "put_in" 24 ["body", "value"] (spPut [(P_raised, nmO "raised.<locals>.more"), (P_put_in, nmO "put_in.<locals>.put"), (P_bound_to, nmO "bound_to.<locals>.bind"), (P_exchanged, nmO "exchanged.<locals>.put")] K 10 10) := ⟨_, _, G_put_in, m_put_in, k_put_in, b_put_in⟩
  have G_opened := ok_opened F_opened (by decide) Dput_in
  have G_bound_to := ok_bound_to (P := l.prog) (w := w) E_bound_to LF T_bound_to 10
  have G_exchanged := ok_exchanged (P := l.prog) (w := w) E_exchanged LF T_exchanged 10 10 n_len Draised
  exact ok_law F_law n_len n_min n_range n_repr n_tuple
    ⟨_, _, ok_begun F__law_begun n_abs, m__law_begun, k__law_begun, b__law_begun⟩ D_law_draw D_law_pick
    ⟨_, _, ok_term F__law_rt_term m__law_rt_term b__law_rt_term D_law_draw D_law_pick 6, m__law_rt_term, k__law_rt_term, b__law_rt_term⟩ D_law_rt_raised
    ⟨_, _, ok_oU F__law_k02_under D_law_rt_leaves D_law_rt_with, m__law_k02_under, k__law_k02_under, b__law_k02_under⟩
    ⟨_, _, ok_oP (N := 6) (M := 6) F__law_rt_put D_law_rt_raised D_law_rt_leaves D_law_rt_with, m__law_rt_put, k__law_rt_put, b__law_rt_put⟩
    ⟨_, _, ok_oB (N := 6) (M := 6) F__law_k02_bound D_law_rt_leaves D_law_rt_with, m__law_k02_bound, k__law_k02_bound, b__law_k02_bound⟩
    ⟨_, _, ok_oX (N := 6) (M := 6) F__law_k02_exchanged n_len D_law_rt_raised D_law_rt_leaves D_law_rt_with, m__law_k02_exchanged, k__law_k02_exchanged, b__law_k02_exchanged⟩
    ⟨_, _, ok_told F__law_k02_told n_range n_tuple, m__law_k02_told, k__law_k02_told, b__law_k02_told⟩
    Draised ⟨⟨_, _, G_raised, m_raised, k_raised, fun s ws _ h => match ws, h with | [_, _], _ => .of_eq rfl⟩, fun zs h => match zs, h with | [_, _], _ => rfl⟩
    Dput_in ⟨⟨_, _, G_put_in, m_put_in, k_put_in, fun s ws _ h => match ws, h with | [_, _], _ => .of_eq rfl⟩, fun zs h => match zs, h with | [_, _], _ => rfl⟩
    ⟨_, _, G_opened, m_opened, k_opened, b_opened⟩ ⟨⟨_, _, G_opened, m_opened, k_opened, fun s ws _ h => match ws, h with | [_, _], _ => .of_eq rfl⟩, fun zs h => match zs, h with | [_, _], _ => rfl⟩
    ⟨_, _, G_bound_to, m_bound_to, k_bound_to, b_bound_to⟩ ⟨⟨_, _, G_bound_to, m_bound_to, k_bound_to, fun s ws _ h => match ws, h with | [_, _], _ => .of_eq rfl⟩, fun zs h => match zs, h with | [_, _], _ => rfl⟩
    ⟨_, _, G_exchanged, m_exchanged, k_exchanged, b_exchanged⟩ ⟨⟨_, _, G_exchanged, m_exchanged, k_exchanged, fun s ws _ h => match ws, h with | [_, _], _ => .of_eq rfl⟩, fun zs h => match zs, h with | [_, _], _ => rfl⟩
end RS
open PySem PySem.W PyProof.Rows
set_option maxRecDepth 100000 in
set_option maxHeartbeats 0 in
theorem PySem.Challenge.cw_runsasshown_k02_whole_put_in_opened_and_holds : PySem.Challenge.rw_runsasshown_k02_whole_put_in_opened_and.Holds := by
  w_on; o_law; k_head; (case hw => w_witness2)
  k_fill
  refine RS.walkT (l := PySem.Challenge.rw_runsasshown_k02_whole_put_in_opened_and) (n := 63) (k := 26) (x := "script") rfl (by decide) rfl ⟨rfl, by decide, by decide⟩ (fun w h Y => PySem.W.km_in_of Y) ?F
  case F =>
    intro w mg fa h Y KX G hmg
    refine' RS.all_mk KX G hmg ?a_led ?l_led ?c_led ?k_led ?a_raised ?l_raised ?cq_raised ?k_raised ?a_put_in ?l_put_in ?cq_put_in ?k_put_in ?a_opened ?l_opened ?c_opened ?k_opened ?a_bound_to ?l_bound_to ?cq_bound_to ?k_bound_to ?a_exchanged ?l_exchanged ?cq_exchanged ?k_exchanged ?a__law_begun ?l__law_begun ?c__law_begun ?k__law_begun ?a__law_blended ?l__law_blended ?c__law_blended ?k__law_blended ?a__law_draw ?l__law_draw ?c__law_draw ?k__law_draw ?a__law_pick ?l__law_pick ?c__law_pick ?k__law_pick ?a__law_rt_term ?l__law_rt_term ?c__law_rt_term ?k__law_rt_term ?a__law_rt_parts ?l__law_rt_parts ?c__law_rt_parts ?k__law_rt_parts ?a__law_rt_leaves ?l__law_rt_leaves ?c__law_rt_leaves ?k__law_rt_leaves ?a__law_rt_with ?l__law_rt_with ?c__law_rt_with ?k__law_rt_with ?a__law_rt_raised ?l__law_rt_raised ?c__law_rt_raised ?k__law_rt_raised ?a__law_rt_put ?l__law_rt_put ?c__law_rt_put ?k__law_rt_put ?a__law_k02_bound ?l__law_k02_bound ?c__law_k02_bound ?k__law_k02_bound ?a__law_k02_exchanged ?l__law_k02_exchanged ?c__law_k02_exchanged ?k__law_k02_exchanged ?a__law_k02_told ?l__law_k02_told ?c__law_k02_told ?k__law_k02_told ?a__law_k02_under ?l__law_k02_under ?c__law_k02_under ?k__law_k02_under ?a_law ?l_law ?c_law ?k_law ?o_raised ?p_raised ?h_raised ?e_raised ?n_raised ?o_put_in ?p_put_in ?h_put_in ?e_put_in ?n_put_in ?o_bound_to ?p_bound_to ?h_bound_to ?e_bound_to ?n_bound_to ?o_exchanged ?p_exchanged ?h_exchanged ?e_exchanged ?n_exchanged ?dd ?z_abs ?z_int ?z_len ?z_min ?z_range ?z_repr ?z_tuple
    (case a_led => k_is); (case l_led => k_is); (case c_led => k_is); (case k_led => k_is); (case a_raised => k_is); (case l_raised => k_is)
    (case cq_raised => k_is); (case k_raised => k_is); (case a_put_in => k_is); (case l_put_in => k_is); (case cq_put_in => k_is); (case k_put_in => k_is)
    (case a_opened => k_is); (case l_opened => k_is); (case c_opened => k_is); (case k_opened => k_is); (case a_bound_to => k_is); (case l_bound_to => k_is)
    (case cq_bound_to => k_is); (case k_bound_to => k_is); (case a_exchanged => k_is); (case l_exchanged => k_is); (case cq_exchanged => k_is); (case k_exchanged => k_is)
    (case a__law_begun => k_is); (case l__law_begun => k_is); (case c__law_begun => k_is); (case k__law_begun => k_is); (case a__law_blended => k_is); (case l__law_blended => k_is)
    (case c__law_blended => k_is); (case k__law_blended => k_is); (case a__law_draw => k_is); (case l__law_draw => k_is); (case c__law_draw => k_is); (case k__law_draw => k_is)
    (case a__law_pick => k_is); (case l__law_pick => k_is); (case c__law_pick => k_is); (case k__law_pick => k_is); (case a__law_rt_term => k_is); (case l__law_rt_term => k_is)
    (case c__law_rt_term => k_is); (case k__law_rt_term => k_is); (case a__law_rt_parts => k_is); (case l__law_rt_parts => k_is); (case c__law_rt_parts => k_is); (case k__law_rt_parts => k_is)
    (case a__law_rt_leaves => k_is); (case l__law_rt_leaves => k_is); (case c__law_rt_leaves => k_is); (case k__law_rt_leaves => k_is); (case a__law_rt_with => k_is); (case l__law_rt_with => k_is)
    (case c__law_rt_with => k_is); (case k__law_rt_with => k_is); (case a__law_rt_raised => k_is); (case l__law_rt_raised => k_is); (case c__law_rt_raised => k_is); (case k__law_rt_raised => k_is)
    (case a__law_rt_put => k_is); (case l__law_rt_put => k_is); (case c__law_rt_put => k_is); (case k__law_rt_put => k_is); (case a__law_k02_bound => k_is); (case l__law_k02_bound => k_is)
    (case c__law_k02_bound => k_is); (case k__law_k02_bound => k_is); (case a__law_k02_exchanged => k_is); (case l__law_k02_exchanged => k_is); (case c__law_k02_exchanged => k_is); (case k__law_k02_exchanged => k_is)
    (case a__law_k02_told => k_is); (case l__law_k02_told => k_is); (case c__law_k02_told => k_is); (case k__law_k02_told => k_is); (case a__law_k02_under => k_is); (case l__law_k02_under => k_is)
    (case c__law_k02_under => k_is); (case k__law_k02_under => k_is); (case a_law => k_is); (case l_law => k_is); (case c_law => k_is); (case k_law => k_is)
    (case o_raised => k_is); (case p_raised => rfl); (case h_raised => rfl); (case e_raised => exact PySem.W.km_tabs_of Y _ (by decide)); (case n_raised => kernel_rfl); (case o_put_in => k_is)
    (case p_put_in => rfl); (case h_put_in => rfl); (case e_put_in => exact PySem.W.km_tabs_of Y _ (by decide)); (case n_put_in => kernel_rfl); (case o_bound_to => k_is); (case p_bound_to => rfl)
    (case h_bound_to => rfl); (case e_bound_to => exact PySem.W.km_tabs_of Y _ (by decide)); (case n_bound_to => kernel_rfl); (case o_exchanged => k_is); (case p_exchanged => rfl); (case h_exchanged => rfl)
    (case e_exchanged => exact PySem.W.km_tabs_of Y _ (by decide)); (case n_exchanged => kernel_rfl); (case dd => decide); (case z_abs => k_is); (case z_int => k_is); (case z_len => k_is)
    (case z_min => k_is); (case z_range => k_is); (case z_repr => k_is); (case z_tuple => k_is)

