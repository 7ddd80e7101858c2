import PyProof.Rows.All
import Wide.All
import OpenK.AllK
import Wide.FinOn
import HandS.ForMost
import HandS.EndBits
import HandS.Style
import HandS.CallLocal
import KE.SortData
import PyProof.NeData
import HandS.Set
import HandS.SetFor
import KE.DataEq
import PySem.Challenge.RW_runsasshown_k03_whole_spines_names_and_s
set_option Elab.async false
set_option linter.all false
set_option maxRecDepth 100000
set_option maxHeartbeats 8000000
/-! RS: rules on top of the hand layer that our proofs share: walks of lists or tuples, joined operators, data in the abstract heap, repr, defs told by their names. -/
namespace RS
open PySem PySem.Spec PyProof.Rows L2

/-! ### tests whose answer is known, heaps -/
theorem upd_at {H : Hp} {a b : Addr} {o : HO} (h : b = a) : upd H a o b = some o := by subst h; exact upd_same

/-! ### a for over a list or a tuple -/
def iSeq (K : PySem.W.Frag) (tl : TE) : TI := fun σ H R => tl σ H fun x H1 => ∃ a, x = .ref a ∧ (((∃ xs, SqL K H1 a xs) ∧ R (Itl K a) H1) ∨ ((∃ xs, SqT K H1 a xs) ∧ R (Itt K a) H1))
theorem pi_seq {X : Cx} {tg l : Expr} {tl : TE} (hl : PE X l tl) : PI X tg l (iSeq X.K tl) := by
  refine ⟨fun pins s σ H R I h => thn (hl.run pins s σ H _ I h) fun v s1 ⟨x, H1, I1, r1, a, e, q⟩ => ?_⟩
  subst e; cases r1
  have fp : ∀ b ∈ [s1.heap.objs.size], FpOk X pins H1 b := fun b hb => by
    rw [List.mem_singleton.mp hb]; exact I1.fpOk (Nat.le_refl _) (I1.hok.fresh (Nat.le_refl _))
  rcases q with ⟨⟨xs, hq⟩, q⟩ | ⟨⟨xs, hq⟩, q⟩
  · obtain ⟨its, _, p, _⟩ := I1.list hq
    exact wpAny_pyIter_list p.isList ⟨s1.heap.objs.size, [s1.heap.objs.size], _, _, H1, rfl, I1.kept (t' := s1.toks) (fun b o e => Heap.get?_push_of_some _ e), turn_list a _, ⟨_, Heap.get?_push_size _ rfl, rfl, rfl⟩, fp, q⟩
  · obtain ⟨its, _, p, _⟩ := I1.tuple hq
    exact wpAny_pyIter_tuple (show s1.heap.IsTuple a its.toArray from p) ⟨s1.heap.objs.size, [s1.heap.objs.size], _, _, H1, rfl, I1.kept (t' := s1.toks) (fun b o e => Heap.get?_push_of_some _ e), turn_tuple a _, ⟨_, Heap.get?_push_size _ rfl, rfl, rfl⟩, fp, q⟩

/-! ### operators joined over the kinds of values -/
section
variable {X : Cx}
/-- + (a structure, so that the unifier opens the other side) -/
structure rAddU (K : PySem.W.Frag) (x y : V) (H : Hp) (Q : VK) : Prop where
  or : (∃ i j, x = .int i ∧ y = .int j ∧ Q (.int (i + j)) H) ∨ ((∃ i j, x = .str i ∧ y = .str j ∧ i.length + j.length ≤ sizeLine ∧ Q (.str (i ++ j)) H) ∨ (rCat x y H Q ∨ rCatT K x y H Q))
theorem OpR.mono {f : Value → Value → Sem Value} {r r' : R2} (h : OpR X f r) (m : ∀ x y H Q, r' x y H Q → r x y H Q) : OpR X f r' :=
  fun pins s σ H x y v u Q I rx ry q => h pins s σ H x y v u Q I rx ry (m x y H Q q)
theorem uAdd : OpR X (binaryOp .Add) (rAddU X.K) := OpR.mono (OpR.or op_add (OpR.or op_add_str (OpR.or op_cat op_catT))) fun _ _ _ _ h => h.or
theorem add_i {K : PySem.W.Frag} {i j : Int} {H : Hp} {Q : VK} (h : Q (.int (i + j)) H) : rAddU K (.int i) (.int j) H Q := ⟨.inl ⟨i, j, rfl, rfl, h⟩⟩
theorem add_s {K : PySem.W.Frag} {i j : Str} {H : Hp} {Q : VK} (hl : i.length + j.length ≤ sizeLine) (h : Q (.str (i ++ j)) H) : rAddU K (.str i) (.str j) H Q := ⟨.inr (.inl ⟨i, j, rfl, rfl, hl, h⟩)⟩
theorem add_l {K : PySem.W.Frag} {l b : Addr} {xs zs : List V} {H : Hp} {Q : VK} (h1 : H l = some (.lst xs)) (h2 : H b = some (.lst zs)) (hl : xs.length + zs.length ≤ sizeLine) (h : ∀ p, H p = none → Q (.ref p) (upd H p (.lst (xs ++ zs)))) :
    rAddU K (.ref l) (.ref b) H Q := ⟨.inr (.inr (.inl ⟨l, b, xs, zs, rfl, rfl, h1, h2, hl, h⟩))⟩
/-- * -/
structure rMulU (x y : V) (H : Hp) (Q : VK) : Prop where
  or : rI CMul (fun i j => .int (i * j)) x y H Q ∨ rRep x y H Q
theorem uMul : OpR X (binaryOp .Mult) rMulU := OpR.mono (OpR.or op_mul op_rep) fun _ _ _ _ h => h.or
theorem mul_i {i j : Int} {H : Hp} {Q : VK} (hc : CMul i j) (h : Q (.int (i * j)) H) : rMulU (.int i) (.int j) H Q := ⟨.inl ⟨i, j, rfl, rfl, hc, h⟩⟩
theorem mul_l {l : Addr} {k : Int} {xs : List V} {H : Hp} {Q : VK} (h : rRep (.ref l) (.int k) H Q) : rMulU (.ref l) (.int k) H Q := ⟨.inr h⟩
/-- lists of unlike lengths, or both empty -/
def rEqNil (K : PySem.W.Frag) (neg : Bool) : R2 := fun x y H Q => ∃ a b xs, x = .ref a ∧ y = .ref b ∧ SqL K H a xs ∧ SqL K H b [] ∧ Q (.bl (xor neg xs.isEmpty)) H
theorem isL {s : Shared} {pins : List (Addr × Obj)} {σ : L2.St} {H : Hp} {a : Addr} {xs : List V} (I : Inv X pins σ H s) (h : SqL X.K H a xs) : ∃ its : List Value, s.heap.IsList a its.toArray ∧ its.length = xs.length := by
  obtain ⟨its, rv, p, _⟩ := I.list h
  exact ⟨its, p.isList, rv.length.symm⟩
theorem op_eqNil (hu : X.A.units + 64 < cLine) : OpR X (compareOp .Eq) (rEqNil X.K false) := by
  intro pins s σ H x y v u Q I rx ry h
  obtain ⟨a, b, xs, rfl, rfl, ha, hb, q⟩ := h
  cases rx; cases ry
  obtain ⟨i1, l1, e1⟩ := isL I ha
  obtain ⟨i2, l2, e2⟩ := isL I hb
  have e2' : i2 = [] := List.length_eq_zero_iff.mp e2
  subst e2'
  cases xs with
  | nil =>
    have e1' : i1 = [] := List.length_eq_zero_iff.mp e1
    subst e1'
    exact SeqAt.eq_listAt (e := fun _ => true) l1 l2 rfl (by omega) (fun j h1 => absurd h1 (Nat.not_lt_zero j)) ⟨.bl true, H, I, rfl, q⟩
  | cons x xs => exact SeqAt.eq_list_lengthsAt l1 l2 (by simp [e1]) (by omega) ⟨.bl false, H, I, rfl, q⟩
theorem op_neNil (hu : X.A.units + 64 < cLine) : OpR X (compareOp .NotEq) (rEqNil X.K true) := by
  intro pins s σ H x y v u Q I rx ry h
  obtain ⟨a, b, xs, rfl, rfl, ha, hb, q⟩ := h
  cases rx; cases ry
  obtain ⟨i1, l1, e1⟩ := isL I ha
  obtain ⟨i2, l2, e2⟩ := isL I hb
  have e2' : i2 = [] := List.length_eq_zero_iff.mp e2
  subst e2'
  cases xs with
  | nil =>
    have e1' : i1 = [] := List.length_eq_zero_iff.mp e1
    subst e1'
    exact SeqAt.RcNeAt.lists (e := fun _ => true) l1 l2 rfl (by omega) (fun j h1 => absurd h1 (Nat.not_lt_zero j)) _ _ _ _ ⟨.bl false, H, I, rfl, q⟩
  | cons x xs => exact SeqAt.RcNeAt.lists_lengths l1 l2 (by simp [e1]) (by omega) _ _ _ _ ⟨.bl true, H, I, rfl, q⟩
/-- == and != : flat values; a list and []; data of any depth -/
structure rEqU (K : PySem.W.Frag) (neg : Bool) (x y : V) (H : Hp) (Q : VK) : Prop where
  or : (scal x y = true ∧ Q (.bl (xor neg (decide (x = y)))) H) ∨ (rEqNil K neg x y H Q ∨ ∃ d e, Dp K H x d ∧ Dp K H y e ∧ SeqAt.shaped d = true ∧ SeqAt.shaped e = true ∧ Q (.bl (xor neg (PyData.eqv d e))) H)
theorem uEq (hu : X.A.units + 64 < cLine) : OpR X (compareOp .Eq) (rEqU X.K false) :=
  OpR.mono (OpR.or op_eq (OpR.or (op_eqNil hu) (op_eqD hu))) fun x y H Q h => by
    rcases h.or with ⟨h1, h2⟩ | h | ⟨d, e, h1, h2, h3, h4, h5⟩
    · exact .inl ⟨h1, by simpa using h2⟩
    · exact .inr (.inl h)
    · exact .inr (.inr ⟨d, e, h1, h2, h3, h4, by simpa using h5⟩)
theorem uNe (hu : X.A.units + 64 < cLine) : OpR X (compareOp .NotEq) (rEqU X.K true) :=
  OpR.mono (OpR.or op_ne (OpR.or (op_neNil hu) (op_neD hu))) fun x y H Q h => by
    rcases h.or with ⟨h1, h2⟩ | h | ⟨d, e, h1, h2, h3, h4, h5⟩
    · exact .inl ⟨h1, by simpa using h2⟩
    · exact .inr (.inl h)
    · exact .inr (.inr ⟨d, e, h1, h2, h3, h4, by simpa using h5⟩)
theorem eq_f {K : PySem.W.Frag} {neg : Bool} {x y : V} {H : Hp} {Q : VK} {b : Bool} (hs : scal x y = true) (hb : xor neg (decide (x = y)) = b) (h : Q (.bl b) H) : rEqU K neg x y H Q := ⟨.inl ⟨hs, by rw [hb]; exact h⟩⟩
theorem eq_n {K : PySem.W.Frag} {neg : Bool} {a p : Addr} {xs : List V} {H : Hp} {Q : VK} {b : Bool} (h1 : SqL K H a xs) (h2 : SqL K H p []) (hb : xor neg xs.isEmpty = b) (h : Q (.bl b) H) : rEqU K neg (.ref a) (.ref p) H Q :=
  ⟨.inr (.inl ⟨a, p, xs, rfl, rfl, h1, h2, by rw [hb]; exact h⟩)⟩
theorem eq_d {K : PySem.W.Frag} {neg : Bool} {x y : V} {d e : PyData} {H : Hp} {Q : VK} {b : Bool} (h1 : Dp K H x d) (h2 : Dp K H y e) (h3 : SeqAt.shaped d = true) (h4 : SeqAt.shaped e = true) (hb : xor neg (PyData.eqv d e) = b) (h : Q (.bl b) H) : rEqU K neg x y H Q :=
  ⟨.inr (.inr ⟨d, e, h1, h2, h3, h4, by rw [hb]; exact h⟩)⟩
/-- in, not in: a sign in a text is left out; flat values in a list or a tuple, a text in a text -/
structure rInU (K : PySem.W.Frag) (neg : Bool) (x y : V) (H : Hp) (Q : VK) : Prop where
  or : rIn K neg x y H Q ∨ ∃ i j, x = .str i ∧ y = .str j ∧ Q (.bl (xor neg (!(Builtin.Str.occurrences j i 0 j.length 1).isEmpty))) H
theorem uIn : OpR X (compareOp .In) (rInU X.K false) := OpR.mono (OpR.or op_in_seq op_in_str) fun x y H Q h => by
  rcases h.or with h | ⟨i, j, h1, h2, h3⟩
  · exact .inl h
  · exact .inr ⟨i, j, h1, h2, by simpa using h3⟩
theorem uNotIn : OpR X (compareOp .NotIn) (rInU X.K true) := OpR.mono (OpR.or op_notIn_seq op_notin_str) fun x y H Q h => by
  rcases h.or with h | ⟨i, j, h1, h2, h3⟩
  · exact .inl h
  · exact .inr ⟨i, j, h1, h2, by simpa using h3⟩
theorem in_t {K : PySem.W.Frag} {neg : Bool} {x : V} {p : Addr} {xs : List V} {H : Hp} {Q : VK} {b : Bool} (h1 : SqT K H p xs) (hf : flatV x = true) (hx : xs.all flatV = true) (hb : xor neg (inV x xs) = b) (h : Q (.bl b) H) : rInU K neg x (.ref p) H Q :=
  ⟨.inl ⟨p, xs, rfl, .inr h1, hf, hx, by cases neg <;> simpa [← hb] using h⟩⟩
theorem in_l {K : PySem.W.Frag} {neg : Bool} {x : V} {p : Addr} {xs : List V} {H : Hp} {Q : VK} {b : Bool} (h1 : SqL K H p xs) (hf : flatV x = true) (hx : xs.all flatV = true) (hb : xor neg (inV x xs) = b) (h : Q (.bl b) H) : rInU K neg x (.ref p) H Q :=
  ⟨.inl ⟨p, xs, rfl, .inl h1, hf, hx, by cases neg <;> simpa [← hb] using h⟩⟩
theorem uLen : CallR X (.builtin "len") (fun xs H Q => ∃ x n, xs = [x] ∧ LenV X.K x H n ∧ Q (.int n) H) := call_len
end

/-! ### the same, the written part told by a letter (within a comprehension's block) -/
theorem uAddK {X : Cx} {K : PySem.W.Frag} (h : X.K = K) : OpR X (binaryOp .Add) (rAddU K) := h ▸ uAdd
theorem uEqK {X : Cx} {K : PySem.W.Frag} (h : X.K = K) (hu : X.A.units + 64 < cLine) : OpR X (compareOp .Eq) (rEqU K false) := h ▸ uEq hu
theorem uNeK {X : Cx} {K : PySem.W.Frag} (h : X.K = K) (hu : X.A.units + 64 < cLine) : OpR X (compareOp .NotEq) (rEqU K true) := h ▸ uNe hu
theorem uInK {X : Cx} {K : PySem.W.Frag} (h : X.K = K) : OpR X (compareOp .In) (rInU K false) := h ▸ uIn
theorem uNotInK {X : Cx} {K : PySem.W.Frag} (h : X.K = K) : OpR X (compareOp .NotIn) (rInU K true) := h ▸ uNotIn
theorem ixK {X : Cx} {K : PySem.W.Frag} (h : X.K = K) : IxR X (rIx K) := h ▸ ix_seq

/-! ### and, or of tests: a structure, so that the unifier opens the other side -/
structure tW (t : TT) (σ : L2.St) (H : Hp) (Q : Bool → Hp → Prop) : Prop where
  h : t σ H Q
theorem pt_w {X : Cx} {e : Expr} {t : TT} (h : PT X e t) : PT X e (tW t) := ⟨fun pins s σ H Q I q => h.run pins s σ H Q I q.h⟩
/-- a test whose answer is known -/
def Val (t : TT) (σ : L2.St) (H : Hp) (b : Bool) : Prop := ∀ Q : Bool → Hp → Prop, Q b H → t σ H Q
theorem Val.and {tA tB : TT} {σ : L2.St} {H : Hp} {a b : Bool} (hA : Val tA σ H a) (hB : a = true → Val tB σ H b) : Val (tAnd tA tB) σ H (a && b) := fun Q h => by
  refine hA _ ?_
  cases a with
  | true => exact iteT (hB rfl _ h)
  | false => exact iteF h
theorem Val.or {tA tB : TT} {σ : L2.St} {H : Hp} {a b : Bool} (hA : Val tA σ H a) (hB : a = false → Val tB σ H b) : Val (tOr tA tB) σ H (a || b) := fun Q h => by
  refine hA _ ?_
  cases a with
  | true => exact iteT h
  | false => exact iteF (hB rfl _ h)
theorem w_val {t : TT} {σ : L2.St} {H : Hp} {Q : Bool → Hp → Prop} (b : Bool) (hv : Val t σ H b) (h : Q b H) : tW t σ H Q := ⟨hv _ h⟩

/-! ### data: atoms and tuples -/
mutual
inductive Dt (K : PySem.W.Frag) (H : Hp) : V → PyData → Prop
  | non : Dt K H .non .none
  | bl (b : Bool) : Dt K H (.bl b) (.bool b)
  | int (i : Int) : Dt K H (.int i) (.int i)
  | str (x : Str) : Dt K H (.str x) (.str x)
  | tup {a : Addr} {xs : List V} {ds : List PyData} : SqT K H a xs → DtAll K H xs ds → Dt K H (.ref a) (.tuple ds)
inductive DtAll (K : PySem.W.Frag) (H : Hp) : List V → List PyData → Prop
  | nil : DtAll K H [] []
  | cons {v : V} {vs : List V} {d : PyData} {ds : List PyData} : Dt K H v d → DtAll K H vs ds → DtAll K H (v :: vs) (d :: ds)
end
/-- the tuples stay -/
def TK (K : PySem.W.Frag) (H H' : Hp) : Prop := ∀ a xs, SqT K H a xs → SqT K H' a xs
theorem TK.refl {K : PySem.W.Frag} (H : Hp) : TK K H H := fun _ _ h => h
theorem TK.trans {K : PySem.W.Frag} {H H1 H2 : Hp} (a : TK K H H1) (b : TK K H1 H2) : TK K H H2 := fun c xs h => b c xs (a c xs h)
theorem TK.of {K : PySem.W.Frag} {H H' : Hp} (h : ∀ a xs, H a = some (.tup xs) → H' a = some (.tup xs)) (h2 : ∀ a o u, H a = some (.frz o u) → H' a = some (.frz o u)) : TK K H H' := fun a xs q => by
  rcases q with (q | ⟨o, q⟩) | q
  · exact .inl (.inl (h _ _ q))
  · exact .inl (.inr ⟨o, h2 _ _ _ q⟩)
  · exact .inr q
theorem TK.same {K : PySem.W.Frag} {H H' : Hp} (e : Same H H') : TK K H H' := TK.of (fun _ _ h => e _ _ h) fun _ _ _ h => e _ _ h
theorem TK.new {K : PySem.W.Frag} {H : Hp} {p : Addr} {o : HO} (h : H p = none) : TK K H (upd H p o) := TK.same fun b u e => by rw [upd_ne (ne_of_none e h)]; exact e
theorem TK.lst {K : PySem.W.Frag} {H : Hp} {p : Addr} {xs : List V} {o : HO} (h : H p = some (.lst xs)) : TK K H (upd H p o) :=
  TK.of (fun a ys e => by rw [upd_ne (ne_of e h (by intro z; cases z))]; exact e) fun a u w e => by rw [upd_ne (ne_of e h (by intro z; cases z))]; exact e
theorem TK.dK {K : PySem.W.Frag} {H : Hp} {p : Addr} {xs : List (Key × V)} {o : HO} (h : H p = some (.dK xs)) : TK K H (upd H p o) :=
  TK.of (fun a ys e => by rw [upd_ne (ne_of e h (by intro z; cases z))]; exact e) fun a u w e => by rw [upd_ne (ne_of e h (by intro z; cases z))]; exact e
mutual
theorem Dt.keep {K : PySem.W.Frag} {H H' : Hp} (t : TK K H H') : ∀ {v : V} (d : PyData), Dt K H v d → Dt K H' v d
  | _, _, .non => .non
  | _, _, .bl b => .bl b
  | _, _, .int i => .int i
  | _, _, .str x => .str x
  | _, _, .tup h r => .tup (t _ _ h) (DtAll.keep t _ r)
theorem DtAll.keep {K : PySem.W.Frag} {H H' : Hp} (t : TK K H H') : ∀ {vs : List V} (ds : List PyData), DtAll K H vs ds → DtAll K H' vs ds
  | _, _, .nil => .nil
  | _, _, .cons h r => .cons (Dt.keep t _ h) (DtAll.keep t _ r)
end
mutual
theorem Dt.dp {K : PySem.W.Frag} {H : Hp} : ∀ {v : V} (d : PyData), Dt K H v d → Dp K H v d
  | _, _, .non => .non
  | _, _, .bl b => .bl b
  | _, _, .int i => .int i
  | _, _, .str x => .str x
  | _, _, .tup h r => .tup h (DtAll.dp _ r)
theorem DtAll.dp {K : PySem.W.Frag} {H : Hp} : ∀ {vs : List V} (ds : List PyData), DtAll K H vs ds → DpAll K H vs ds
  | _, _, .nil => .nil
  | _, _, .cons h r => .cons (Dt.dp _ h) (DtAll.dp _ r)
end
theorem DtAll.length {K : PySem.W.Frag} {H : Hp} : ∀ {vs : List V} {ds : List PyData}, DtAll K H vs ds → vs.length = ds.length
  | _, _, .nil => rfl
  | _, _, .cons _ r => by rw [List.length_cons, List.length_cons, r.length]
theorem DtAll.append {K : PySem.W.Frag} {H : Hp} : ∀ {vs ws : List V} {ds es : List PyData}, DtAll K H vs ds → DtAll K H ws es → DtAll K H (vs ++ ws) (ds ++ es)
  | _, _, _, _, .nil, s => s
  | _, _, _, _, .cons h r, s => .cons h (r.append s)
theorem DtAll.get {K : PySem.W.Frag} {H : Hp} : ∀ {vs : List V} {ds : List PyData} {i : Nat} {v : V}, DtAll K H vs ds → vs[i]? = some v → ∃ d, ds[i]? = some d ∧ Dt K H v d
  | _, _, _, _, .nil, e => by simp at e
  | _, _, 0, _, .cons h _, e => by simp at e; subst e; exact ⟨_, rfl, h⟩
  | _, _, i + 1, v, .cons _ r, e => by
    obtain ⟨d, h1, h2⟩ := DtAll.get (i := i) (v := v) r (by simpa using e)
    exact ⟨d, by simpa using h1, h2⟩
theorem DtAll.get' {K : PySem.W.Frag} {H : Hp} : ∀ {vs : List V} {ds : List PyData} {i : Nat} {d : PyData}, DtAll K H vs ds → ds[i]? = some d → ∃ v, vs[i]? = some v ∧ Dt K H v d
  | _, _, _, _, .nil, e => by simp at e
  | _, _, 0, _, .cons h _, e => by simp at e; subst e; exact ⟨_, rfl, h⟩
  | _, _, i + 1, d, .cons _ r, e => by
    obtain ⟨v, h1, h2⟩ := DtAll.get' (i := i) (d := d) r (by simpa using e)
    exact ⟨v, by simpa using h1, h2⟩
theorem DtAll.reverse {K : PySem.W.Frag} {H : Hp} : ∀ {vs : List V} {ds : List PyData}, DtAll K H vs ds → DtAll K H vs.reverse ds.reverse
  | _, _, .nil => .nil
  | _, _, .cons h r => by rw [List.reverse_cons, List.reverse_cons]; exact r.reverse.append (.cons h .nil)
theorem DtAll.dropLast {K : PySem.W.Frag} {H : Hp} : ∀ {vs : List V} {ds : List PyData}, DtAll K H vs ds → DtAll K H vs.dropLast ds.dropLast
  | _, _, .nil => .nil
  | _, _, .cons h .nil => .nil
  | _, _, .cons h (.cons h2 r) => .cons h (DtAll.dropLast (.cons h2 r))

/-! ### displays: structures, so that the unifier opens the other side -/
theorem line_of {n : Nat} (h : n ≤ 1000) : n ≤ sizeLine := by rw [sizeLine_eq]; omega
theorem lt_line {n : Nat} (h : n ≤ 1000) : n < sizeLine := by rw [sizeLine_eq]; omega
theorem same_new {H : Hp} {p : Addr} {o : HO} (h : H p = none) : Same H (upd H p o) := fun b u e => by rw [upd_ne (ne_of_none e h)]; exact e
structure rNewT (xs : List V) (H : Hp) (Q : VK) : Prop where
  h : xs.length ≤ sizeLine ∧ ∀ p, H p = none → Q (.ref p) (upd H p (.tup xs))
structure rNewL (xs : List V) (H : Hp) (Q : VK) : Prop where
  h : xs.length ≤ sizeLine ∧ ∀ p, H p = none → Q (.ref p) (upd H p (.lst xs))
theorem PE.mono {X : Cx} {e : Expr} {t t' : TE} (h : PE X e t) (m : ∀ σ H Q, t' σ H Q → t σ H Q) : PE X e t' := ⟨fun pins s σ H Q I q => h.run pins s σ H Q I (m σ H Q q)⟩
theorem PA.mono {X : Cx} {es : List Expr} {t : TA} (h : PA X es t) {σ : L2.St} {H : Hp} {Q Q' : List V → Hp → Prop} (q : t σ H Q) (m : ∀ xs H1, Q xs H1 → Q' xs H1) (pos : Pos) (pins : List (Addr × Obj)) (s : Shared) (I : Inv X pins σ H s) :
    wpAny (model X.prog X.w) X.A (spliced (backTo pos (starEach es X.env))) (AP X pins σ Q') X.xe s :=
  thn (h.run pos pins s σ H Q I q) fun us s1 ⟨xs, H1, I1, r, q1⟩ => ⟨xs, H1, I1, r, m xs H1 q1⟩
def tTupN (t : TA) : TE := fun σ H Q => t σ H fun xs H1 => rNewT xs H1 Q
def tLstN (t : TA) : TE := fun σ H Q => t σ H fun xs H1 => rNewL xs H1 Q
theorem pe_tupN {X : Cx} {es : List Expr} {t : TA} {x1 : Nat} {pos : Pos} (h : PA X es t) : PE X (.Tuple es x1 pos) (tTupN t) := by
  refine ⟨fun pins s σ H Q I q => wpAny_Tuple_spliced (thn (h.run pos pins s σ H _ I q) fun us s1 ⟨xs, H1, I1, r, ⟨z, q⟩⟩ => ⟨by rw [← r.length]; exact z, ?_⟩)⟩
  have nf : H1 s1.heap.objs.size = none := I1.hok.fresh (Nat.le_refl _)
  exact ⟨.ref s1.heap.objs.size, upd H1 s1.heap.objs.size (.tup xs), I1.laid (t' := s1.toks) (fun b u e => Heap.get?_push_of_some _ e) (Nat.le_refl _) ⟨z, us, r, ⟨_, Heap.get?_push_size _ rfl, rfl, _, rfl⟩⟩, rfl, q _ nf⟩
theorem pe_lstN {X : Cx} {es : List Expr} {t : TA} {pos : Pos} (h : PA X es t) : PE X (.List es pos) (tLstN t) := by
  refine ⟨fun pins s σ H Q I q => wpAny_List_spliced (thn (h.run pos pins s σ H _ I q) fun us s1 ⟨xs, H1, I1, r, ⟨z, q⟩⟩ => ⟨by rw [← r.length]; exact z, ?_⟩)⟩
  have nf : H1 s1.heap.objs.size = none := I1.hok.fresh (Nat.le_refl _)
  exact ⟨.ref s1.heap.objs.size, upd H1 s1.heap.objs.size (.lst xs), I1.laid (t' := s1.toks) (fun b u e => Heap.get?_push_of_some _ e) (Nat.le_refl _) ⟨z, us, 0, r, Heap.get?_push_size _ rfl⟩, rfl, q _ nf⟩
theorem tup_new {K : PySem.W.Frag} {H : Hp} {xs : List V} {ds : List PyData} {Q : VK} (h : DtAll K H xs ds) (hz : xs.length ≤ 1000) (k : ∀ v H', Same H H' → Dt K H' v (.tuple ds) → Q v H') : rNewT xs H Q :=
  ⟨line_of hz, fun p np => k _ _ (same_new np) (.tup (SqT.of upd_same) (DtAll.keep (TK.new np) _ h))⟩
theorem tup_at {H : Hp} {xs : List V} {Q : VK} (hz : xs.length ≤ 1000) (k : ∀ p, H p = none → Q (.ref p) (upd H p (.tup xs))) : rNewT xs H Q := ⟨line_of hz, k⟩
theorem lst_new {H : Hp} {xs : List V} {Q : VK} (hz : xs.length ≤ 1000) (k : ∀ p, H p = none → Q (.ref p) (upd H p (.lst xs))) : rNewL xs H Q := ⟨line_of hz, k⟩
theorem Dt.same {K : PySem.W.Frag} {H H' : Hp} {v : V} {d : PyData} (h : Dt K H v d) (e : Same H H') : Dt K H' v d := Dt.keep (TK.same e) _ h

/-! ### what holds behind a statement, said once for all its ways -/
def tJoin (t : TS) : TS := fun D σ H => ∃ R : L2.St → Hp → Prop, t { D with nx := R } σ H ∧ ∀ σ' H', R σ' H' → D.nx σ' H'
theorem ps_join {X : Cx} {st : Stmt} {t : TS} (h : PS X st t) : PS X st (tJoin t) := by
  refine ⟨fun pins s σ H D I ⟨R, q, m⟩ => thn (h.run pins s σ H _ I q) fun f s' z => ?_⟩
  cases f with
  | next => obtain ⟨σ', H', J, r⟩ := z; exact ⟨σ', H', J, m _ _ r⟩
  | brk => exact z
  | cont => exact z
  | ret u => exact z

/-! ### repr of data -/
def AG (A : Around) : Prop := A.guards = some []
theorem cr_repr {X : Cx} (hg : AG X.A) (hu : X.A.units + 64 < cLine) : CallR X (.builtin "repr") (fun xs H Q => ∃ a d, xs = [.ref a] ∧ Dp X.K H (.ref a) d ∧ d.showable = true ∧ d.hasDict = false ∧ d.depth + 1 ≤ 64 ∧ d.shown.length ≤ sizeLine ∧ Q (.str d.shown) H) := by
  intro pins s σ H xs us Q I r h
  obtain ⟨a, d, rfl, hd, hs, hn, hdep, hz, q⟩ := h
  obtain ⟨as, rd⟩ := Dp.reads I d (.ref a) (.ref a) hd rfl
  rw [Vals.ref1 r]
  exact repr_of_reads' rd hs (PyData.noDict_hsm hn) hg (by omega) (fun _ _ e => e) (fun h' u tk hk => ⟨.str d.shown, H, I.kept hk, ⟨u, rfl⟩, q⟩) hz

/-! ### a def of the module, told by its name -/
structure Df (P : Program) (w : World) (K : PySem.W.Frag) (mg : Str → Option Value) (base : Heap) (x : Str) (k : Nat) (ps : List Str) (sp : Sp) : Prop where
  ex : ∃ f fd, FnOk P w K mg base CX0 k f fd ps sp ∧ mg x = some (.ref f) ∧ PySem.W.keepIn K (.ref f) = true ∧ Binds K fd ps []
theorem Df.mono {P : Program} {w : World} {K : PySem.W.Frag} {mg : Str → Option Value} {base : Heap} {x : Str} {j k : Nat} {ps : List Str} {sp : Sp} (D : Df P w K mg base x j ps sp) (h : j ≤ k) : Df P w K mg base x k ps sp := by
  obtain ⟨f, fd, F, r⟩ := D.ex
  exact ⟨f, fd, F.mono h, r⟩
theorem Df.imp {P : Program} {w : World} {K : PySem.W.Frag} {mg : Str → Option Value} {base : Heap} {x : Str} {k : Nat} {ps : List Str} {sp sp' : Sp} (D : Df P w K mg base x k ps sp) (h : ∀ vs H Q E, sp' vs H Q E → sp vs H Q E) : Df P w K mg base x k ps sp' := by
  obtain ⟨f, fd, F, r⟩ := D.ex
  exact ⟨f, fd, F.imp h, r⟩
theorem app_nil_call {sp : Sp} {t : TA} {E : XK} : tCall sp [] E t = fun σ H Q => t σ H fun vs H1 => sp vs H1 Q E := by
  funext σ H Q
  show t σ H (fun vs H1 => sp (vs ++ []) H1 Q E) = _
  have e : (fun (vs : List V) (H1 : Hp) => sp (vs ++ []) H1 Q E) = fun vs H1 => sp vs H1 Q E := by funext vs H1; rw [List.append_nil]
  rw [e]
def tDf (sp : Sp) (t : TA) : TE := fun σ H Q => t σ H fun vs H1 => sp vs H1 Q E0
theorem pe_df {X : Cx} {x : Str} {j k : Nat} {ps : List Str} {sp : Sp} {e : Expr} {es : List Expr} {t : TA} {p pos : Pos} (D : Df X.prog X.w X.K X.mg X.base x j ps sp) (hr : Room k X.A) (hk : j ≤ k) (ha : PA X (e :: es) t) (hg : Gl X x := by rfl)
    (hdb : (x == ("__debug__" : Str)) = false := by decide) (he : starEach (e :: es) X.env = (false, eval e X.env) :: starEach es X.env := by rfl) (hpl : (backTo pos (starEach es X.env)).any (·.1) = false := by rfl) :
    PE X (.Call (.Name x p) (e :: es) [] pos) (tDf sp t) := by
  obtain ⟨f, fd, F, hm, kp, b⟩ := D.ex
  have q := pe_call (p := p) (pos := pos) F (hr.mono hk) hg hm kp b .nil (pass0 (X := X)) ha hdb he hpl
  rw [app_nil_call] at q
  exact q

/-! ### calls by keywords alone -/
def permL {α : Type} (π : List Nat) (ws : List α) : List α := π.filterMap fun i => ws[i]?
theorem vals_perm {zs : List V} {ws : List Value} (r : Vals zs ws) : ∀ π : List Nat, Vals (permL π zs) (permL π ws)
  | [] => .nil
  | i :: π => by
    have ih := vals_perm r π
    unfold permL at ih ⊢
    rw [List.filterMap_cons, List.filterMap_cons]
    cases e : zs[i]? with
    | none => rw [r.none_of e]; exact ih
    | some x =>
      obtain ⟨u, hu, ru⟩ := r.get e
      rw [hu]
      exact .cons ru ih
/-- how a call by keywords alone binds: ks the keywords as written, π their places in the parameters' order -/
def BindsK0 (K : PySem.W.Frag) (fd : FuncData) (ps ks : List Str) (π : List Nat) : Prop :=
  ∀ (s : Shared) (ws : List Value), K.In s.heap → ws.length = ks.length → BindsTo s fd ⟨[], ks.zip ws⟩ (ps.zip (permL π ws))
structure DfK (P : Program) (w : World) (K : PySem.W.Frag) (mg : Str → Option Value) (base : Heap) (x : Str) (k : Nat) (ps : List Str) (sp : Sp) (ks : List Str) (π : List Nat) : Prop where
  ex : ∃ f fd, FnOk P w K mg base CX0 k f fd ps sp ∧ mg x = some (.ref f) ∧ PySem.W.keepIn K (.ref f) = true ∧ BindsK0 K fd ps ks π
  ln : ∀ {α : Type} (zs : List α), zs.length = ks.length → (permL π zs).length = ps.length
def tDfK (sp : Sp) (ks : List Str) (π : List Nat) (tk : TA) : TE := fun σ H Q => tk σ H fun zs H1 => zs.length = ks.length ∧ sp (permL π zs) H1 Q E0
theorem run_k0 {X : Cx} {pins : List (Addr × Obj)} {σ : L2.St} {H : Hp} {s : Shared} {Q : VK} {ws : List Value} {zs : List V} {f : Addr} {fd : FuncData} {ps ks : List Str} {π : List Nat} {sp : Sp} {k : Nat} (F : FnOk X.prog X.w X.K X.mg X.base CX0 k f fd ps sp) (hr : Room k X.A)
    (hb : BindsK0 X.K fd ps ks π) (I : Inv X pins σ H s) (rz : Vals zs ws) (hl : zs.length = ks.length) (h : sp (permL π zs) H Q E0) : wpAny (model X.prog X.w) X.A (call (.ref f) [] (ks.zip ws)) (EP X pins σ Q) X.xe s := by
  refine wpAny_call (codeAny_mono (F.run X.A X.stack s H ⟨[], ks.zip ws⟩ (permL π ws) (permL π zs) Q E0 hr I.env0 (hb s ws I.kIn (by rw [← rz.length]; exact hl)) (vals_perm rz π) h) fun r s' hq => ?_)
  cases r with
  | error e => exact False.elim hq
  | ok fl =>
    cases fl with
    | ret u => exact I.after hq
    | next => exact False.elim hq
    | brk => exact False.elim hq
    | cont => exact False.elim hq
theorem pe_dfK {X : Cx} {x : Str} {j k : Nat} {ps ks : List Str} {π : List Nat} {sp : Sp} {kws : List Keyword} {tk : TA} {p pos : Pos} (D : DfK X.prog X.w X.K X.mg X.base x j ps sp ks π) (hr : Room k X.A) (hk : j ≤ k) (hkw : PK X kws tk) (hg : Gl X x := by rfl)
    (hall : (backToKw pos (keywordEach kws X.env)).all (·.1.isSome) = true := by rfl) (hks : (backToKw pos (keywordEach kws X.env)).filterMap (·.1) = ks := by rfl) (hdb : (x == ("__debug__" : Str)) = false := by decide)
    (hpl : ((backTo pos (starEach [] X.env)).any (·.1) || (backToKw pos (keywordEach kws X.env)).any (·.1.isNone)) = false := by rfl) :
    PE X (.Call (.Name x p) [] kws pos) (tDfK sp ks π tk) := by
  obtain ⟨f, fd, F, hm, kp, b⟩ := D.ex
  refine ⟨fun pins s σ H Q I h => wpAny_Call_Name_kw (ld_glob I hg hm ?_ hdb)⟩
  refine PySem.W.callWith_KW0 (h₀ := X.base) I.ok.mod.kin kp hall (thn (hkw.run pos pins s σ H _ I h) fun ws s2 ⟨zs, H2, I2, rz, hl, q2⟩ => ⟨I2.kIn, ?_⟩) hpl
  rw [hks]
  exact run_k0 F (hr.mono hk) b I2 rz hl q2
/-- a local name that holds one of some defs: called by position, by keywords -/
structure Hd (P : Program) (w : World) (K : PySem.W.Frag) (mg : Str → Option Value) (base : Heap) (k : Nat) (f : Addr) (ps : List Str) (sp : Sp) (ks : List Str) (π : List Nat) : Prop where
  ex : ∃ fd, FnOk P w K mg base CX0 k f fd ps sp ∧ PySem.W.keepIn K (.ref f) = true ∧ Binds K fd ps [] ∧ BindsK0 K fd ps ks π
def tHd (i : Nat) (S : Addr → Sp → Prop) (t : TA) : TE := fun σ H Q => ∃ f sp, σ[i]? = some (some (.ref f)) ∧ S f sp ∧ t σ H fun vs H1 => sp vs H1 Q E0
def tHdK (i : Nat) (S : Addr → Sp → Prop) (ks : List Str) (π : List Nat) (t : TA) : TE := fun σ H Q => ∃ f sp, σ[i]? = some (some (.ref f)) ∧ S f sp ∧ t σ H fun zs H1 => zs.length = ks.length ∧ sp (permL π zs) H1 Q E0
theorem pe_hd {X : Cx} {i j k : Nat} {x : Str} {S : Addr → Sp → Prop} {ps ks : List Str} {π : List Nat} {e : Expr} {es : List Expr} {t : TA} {p pos : Pos} (A : ∀ f sp, S f sp → Hd X.prog X.w X.K X.mg X.base j f ps sp ks π) (hr : Room k X.A) (hk : j ≤ k) (ha : PA X (e :: es) t)
    (hN : X.N[i]? = some x := by rfl) (hv : Vis X.env.scope x := by first | exact Or.inl rfl | exact Or.inr (Or.inl rfl) | exact Or.inr (Or.inr rfl)) (hdb : (x == ("__debug__" : Str)) = false := by decide) (hcd : (x == ("__classdict__" : Str)) = false := by decide)
    (he : starEach (e :: es) X.env = (false, eval e X.env) :: starEach es X.env := by rfl) (hpl : (backTo pos (starEach es X.env)).any (·.1) = false := by rfl) : PE X (.Call (.Name x p) (e :: es) [] pos) (tHd i S t) := by
  refine ⟨fun pins s σ H Q I ⟨f, sp, hs, hS, ht⟩ => ?_⟩
  obtain ⟨fd, F, kp, b, _⟩ := (A f sp hS).ex
  have q := (pe_callL (p := p) (pos := pos) F (hr.mono hk) hN hv kp b .nil (pass0 (X := X)) ha hdb hcd he hpl).run pins s σ H Q I
  refine q ⟨hs, ?_⟩
  have e0 : (fun (vs : List V) (H1 : Hp) => sp (vs ++ []) H1 Q E0) = fun vs H1 => sp vs H1 Q E0 := by funext vs H1; rw [List.append_nil]
  rw [e0]; exact ht
theorem pe_hdK {X : Cx} {i j k : Nat} {x : Str} {S : Addr → Sp → Prop} {ps ks : List Str} {π : List Nat} {kws : List Keyword} {tk : TA} {p pos : Pos} (A : ∀ f sp, S f sp → Hd X.prog X.w X.K X.mg X.base j f ps sp ks π) (hr : Room k X.A) (hk : j ≤ k) (hkw : PK X kws tk)
    (hN : X.N[i]? = some x := by rfl) (hv : Vis X.env.scope x := by first | exact Or.inl rfl | exact Or.inr (Or.inl rfl) | exact Or.inr (Or.inr rfl))
    (hall : (backToKw pos (keywordEach kws X.env)).all (·.1.isSome) = true := by rfl) (hks : (backToKw pos (keywordEach kws X.env)).filterMap (·.1) = ks := by rfl) (hdb : (x == ("__debug__" : Str)) = false := by decide) (hcd : (x == ("__classdict__" : Str)) = false := by decide)
    (hpl : ((backTo pos (starEach [] X.env)).any (·.1) || (backToKw pos (keywordEach kws X.env)).any (·.1.isNone)) = false := by rfl) :
    PE X (.Call (.Name x p) [] kws pos) (tHdK i S ks π tk) := by
  refine ⟨fun pins s σ H Q I ⟨f, sp, hs, hS, ht⟩ => ?_⟩
  obtain ⟨fd, F, kp, _, b⟩ := (A f sp hS).ex
  refine wpAny_Call_Name_kw (thn ((pe_var (pos := p) hN hv hdb hcd).run pins s σ H (fun v H1 => v = .ref f ∧ H1 = H) I ⟨.ref f, hs, rfl, rfl⟩) fun u s1 ⟨v, H1, I1, r1, q1⟩ => ?_)
  obtain ⟨rfl, rfl⟩ := q1
  cases r1
  refine PySem.W.callWith_KW0 (h₀ := X.base) I.ok.mod.kin kp hall (thn (hkw.run pos pins s1 σ _ _ I1 ht) fun ws s2 ⟨zs, H2, I2, rz, hl, q2⟩ => ⟨I2.kIn, ?_⟩) hpl
  rw [hks]
  exact run_k0 F (hr.mono hk) b I2 rz hl q2
end RS

/-! RSSets: sets of ints and texts made of a list, and sorted. What is told of a set: the list of its keys, up to their order. -/
namespace RS
open PySem PySem.Spec PyProof.Rows L2

/-! ### the keys of a set's entries -/
def valKey : Value → Key
  | .int i _ => Sum.inl i
  | .str x _ => Sum.inr x
  | _ => Sum.inl 0
theorem valKey_of {k : Key} {v : Value} (h : keyIs k v = true) : valKey v = k := by
  rcases keyIs_shape h with ⟨i, t, rfl, rfl⟩ | ⟨x, t, rfl, rfl⟩ <;> rfl
theorem keyIs_rel {k : Key} {v : Value} (h : RelV (kV k) v) : keyIs k v = true := by
  cases k with
  | inl i => obtain ⟨t, rfl⟩ := h; exact keyIs_int i t
  | inr x => obtain ⟨t, rfl⟩ := h; exact keyIs_str x t
theorem rel_keyIs {k : Key} {v : Value} (h : keyIs k v = true) : RelV (kV k) v := by
  rcases keyIs_shape h with ⟨i, t, rfl, rfl⟩ | ⟨x, t, rfl, rfl⟩ <;> exact ⟨t, rfl⟩
theorem scan_key {k : Key} {v : Value} (h : keyIs k v = true) : v.scannable = true := by
  rcases keyIs_shape h with ⟨i, t, rfl, rfl⟩ | ⟨x, t, rfl, rfl⟩ <;> rfl
def memK (k : Key) (l : List Key) : Bool := l.any fun j => decide (j = k)
theorem memK_iff {k : Key} {l : List Key} : memK k l = true ↔ k ∈ l := by
  unfold memK
  rw [List.any_eq_true]
  exact ⟨fun ⟨j, hj, e⟩ => by rw [← of_decide_eq_true e]; exact hj, fun h => ⟨k, h, decide_eq_true rfl⟩⟩
theorem memK_not {k : Key} {l : List Key} (h : k ∉ l) : memK k l = false := by
  cases e : memK k l with
  | false => rfl
  | true => exact absurd (memK_iff.mp e) h
def EntK (w : World) (e : Int × Value) : Prop := ∃ k, keyIs k e.2 = true ∧ e.1 = keyH w k
abbrev entKey (e : Int × Value) : Key := valKey e.2
/-- the set at a, its keys ks in some order; its table can be walked -/
def SetL (w : World) (h : Heap) (a : Addr) (ks : List Key) : Prop :=
  ∃ o es ep t, h.get? a = some o ∧ o.ExactSet ∧ o.data = .set es ep t ∧ (∀ e ∈ es.toList, EntK w e) ∧ (es.toList.map entKey).Perm ks ∧ ks.Nodup ∧ ks.length < scanBound ∧ t.fits es.size = true ∧ Ris t.place.toList ∧ (w.params.followText "set-order" = true ∨ t.led = true)
section
variable {P : Program} {w : World} {h h' : Heap} {a : Addr} {ks : List Key}
theorem SetL.at (R : SetL w h a ks) (m : ∀ o, h.get? a = some o → h'.get? a = some o) : SetL w h' a ks := by
  obtain ⟨o, es, ep, t, e, r⟩ := R; exact ⟨o, es, ep, t, m o e, r⟩
theorem SetL.perm {ls : List Key} (R : SetL w h a ks) (p : ks.Perm ls) : SetL w h a ls := by
  obtain ⟨o, es, ep, t, e, r1, r2, r3, r4, r5, r6, r7⟩ := R
  exact ⟨o, es, ep, t, e, r1, r2, r3, r4.trans p, p.nodup_iff.mp r5, by rw [← p.length_eq]; exact r6, r7⟩
theorem ents_elems {l : List (Int × Value)} (g : ∀ e ∈ l, EntK w e) : ElemsOf (mixKind P w) l := fun e he => by
  obtain ⟨k, h1, h2⟩ := g e he
  exact ⟨⟨k, h1, h2⟩, scan_key h1⟩
theorem ent_is {e : Int × Value} (g : EntK w e) (k : Key) : (mixKind P w).is k e.2 = true ↔ entKey e = k := by
  obtain ⟨k0, h1, _⟩ := g
  refine ⟨fun z => (valKey_of z), fun z => ?_⟩
  have : k0 = k := by rw [← z, entKey, valKey_of h1]
  rw [← this]; exact h1
end
section
variable {P : Program} {w : World} {A : Around} {E : Value → Shared → Prop} {s : Shared} {a : Addr} {ks : List Key}
/-- the last steps of an insertion: the entries are stored; the table may grow -/
theorem setL_store {g : Bool → Sem Unit} (hg : ∀ (b : Bool) (s1 : Shared) (Q1 : Unit → Shared → Prop), Q1 () s1 → wpAny (model P w) A (g b) Q1 E s1) {o : Obj} {es : Array (Int × Value)} {ep : Nat} {t : SetTable}
    (ho : s.heap.get? a = some o) (hx : o.ExactSet) (hd : o.data = .set es ep t) {fs : Array (Int × Value)} {u : SetTable} {ls : List Key} (gf : ∀ e ∈ fs.toList, EntK w e) (pf : (fs.toList.map entKey).Perm ls) (nf : ls.Nodup)
    (bf : ls.length < scanBound) (ff : u.fits fs.size = true) (rf : Ris u.place.toList) (lf : w.params.followText "set-order" = true ∨ u.led = true) {wd : Bool} {R : Option Bool → Shared → Prop}
    (hR : ∀ h', Heap.SameBut a s.heap h' → SetL w h' a ls → R (some true) { s with heap := h' }) :
    wpAny (model P w) A (do storeSet a fs u; if (!wd && u.tooFull) = true then do { g (relayAll u fs (SetTable.grown fs.size)).2.2; storeSet a (relayAll u fs (SetTable.grown fs.size)).1 (relayAll u fs (SetTable.grown fs.size)).2.1; pure (some true) } else pure (some true)) R E s := by
  have size_ls : fs.size = ls.length := by rw [← Array.length_toList, ← pf.length_eq, List.length_map]
  have hb : fs.size < scanBound := by rw [size_ls]; exact bf
  refine wpAny_bind (wpAny_storeSet_of ho hd ?_ (fits_of_scanBound hb))
  have ho' := store_at (es' := fs) (t' := u) ho hd
  have sb := Heap.SameBut.update s.heap a (Obj.putSet fs u)
  by_cases full : (!wd && u.tooFull) = true
  · rw [if_pos full]
    have p2 := relayAll_perm u fs (SetTable.grown fs.size)
    have f2 := relayAll_fits u fs (SetTable.grown fs.size)
    have r2 := relayAll_ris u fs (SetTable.grown fs.size)
    have l2 := relayAll_led u fs (SetTable.grown fs.size)
    generalize relayAll u fs (SetTable.grown fs.size) = Z at p2 f2 r2 l2 ⊢
    obtain ⟨gs, u2, gave⟩ := Z
    dsimp only at p2 f2 r2 l2 ⊢
    have sz : gs.size = fs.size := by rw [← Array.length_toList, p2.length_eq, Array.length_toList]
    refine wpAny_bind (hg _ _ _ (wpAny_bind (wpAny_storeSet_of ho' rfl ?_ (fits_of_scanBound (by rw [sz]; exact hb)))))
    have ho2 := store_at (es' := gs) (t' := u2) ho' rfl
    refine wpAny_pure (hR _ (sb.trans (Heap.SameBut.update _ a _)) ⟨_, gs, _, u2, ho2, hx, rfl, fun e he => gf e (p2.mem_iff.mp he), (p2.map entKey).trans pf, nf, bf, f2, r2, lf.imp id fun z => by rw [l2]; exact z⟩)
  · rw [if_neg full]
    exact wpAny_pure (hR _ sb ⟨_, fs, _, u, ho', hx, rfl, gf, pf, nf, bf, ff, rf, lf⟩)
theorem setL_add {k : Key} {v : Value} (hv : keyIs k v = true) {Q : Bool → Shared → Prop} (R : SetL w s.heap a ks) (room : ks.length + 1 < scanBound)
    (hQ : ∀ b h', Heap.SameBut a s.heap h' → SetL w h' a (if memK k ks = true then ks else k :: ks) → Q b { s with heap := h' }) : wpAny (model P w) A (setAddHashed a v (keyH w k)) Q E s := by
  obtain ⟨o, es, ep, t, ho, hx, hd, ge, pe, ne, be, fe, re, le⟩ := R
  have sc := scan_key hv
  have els : ElemsOf (mixKind P w) es.toList := ents_elems ge
  have sz : es.size = ks.length := by rw [← Array.length_toList, ← pe.length_eq, List.length_map]
  have hb : es.size < scanBound := by rw [sz]; exact be
  unfold setAddHashed setAddHashedIn
  refine wpAny_holding (wpAny_bind (wpAny_setState_of ho hd fe ?_))
  dsimp only
  rw [byScan_of sc hb els]
  simp only [↓reduceIte]
  unfold setAddByScan
  refine wpAny_bind (wpAny_bind (wpAny_rule (wpAny_bind (wpAny_setScan_of (knd := mixKind P w) (k := k) hv ho hd fe els ?_))))
  cases hf : List.findIdx? (fun e => (mixKind P w).is k e.2) es.toList with
  | some j =>
    dsimp only
    obtain ⟨hj, pj, _⟩ := List.findIdx?_eq_some_iff_getElem.mp hf
    have hm : k ∈ ks := pe.mem_iff.mp (List.mem_map.mpr ⟨es.toList[j], List.getElem_mem hj, (ent_is (P := P) (ge _ (List.getElem_mem hj)) k).mp pj⟩)
    refine wpAny_pure (wpAny_pure (hQ _ s.heap (Heap.SameBut.refl a s.heap) ?_))
    rw [if_pos (memK_iff.mpr hm)]
    exact ⟨o, es, ep, t, ho, hx, hd, ge, pe, ne, be, fe, re, le⟩
  | none =>
    dsimp only
    have hm : k ∉ ks := fun z => by
      obtain ⟨e, he, q⟩ := List.mem_map.mp (pe.mem_iff.mpr z)
      have c := List.findIdx?_eq_none_iff.mp hf e he
      rw [(ent_is (P := P) (ge e he) k).mpr q] at c
      cases c
    have gw : ∀ (b : Bool) {s1 : Shared} {Q1 : Unit → Shared → Prop}, Q1 () s1 → wpAny (model P w) A (match b with | true => rule "set.scan.the-table-gave-way" | false => pure ()) Q1 E s1 := fun b s1 Q1 q => by
      cases b <;> first | exact wpAny_pure q | exact wpAny_rule q
    have p1 := layNew_perm t es (keyH w k) v
    have f1 := layNew_fits t es (keyH w k) v
    have r1 := layNew_ris t es (keyH w k) v re
    have l1 := layNew_led t es (keyH w k) v
    generalize layNew t es (keyH w k) v = Z at p1 f1 r1 l1 ⊢
    obtain ⟨fs, u, wd, gave⟩ := Z
    dsimp only at p1 f1 r1 l1 ⊢
    rw [Array.toList_push] at p1
    have p2 : fs.toList.Perm ((keyH w k, v) :: es.toList) := p1.trans (List.perm_append_singleton _ _)
    have pk : (fs.toList.map entKey).Perm (k :: ks) := by
      have q := p2.map entKey
      rw [List.map_cons, show entKey (keyH w k, v) = k from valKey_of hv] at q
      exact q.trans (pe.cons k)
    have g1 : ∀ e ∈ fs.toList, EntK w e := fun e he => by
      rcases List.mem_cons.mp (p2.mem_iff.mp he) with z | z
      · rw [z]; exact ⟨k, hv, rfl⟩
      · exact ge e z
    have n1 : (k :: ks).Nodup := List.nodup_cons.mpr ⟨hm, ne⟩
    have led1 : w.params.followText "set-order" = true ∨ u.led = true := le.imp id fun z => by rw [l1]; exact z
    have fin : ∀ b h', Heap.SameBut a s.heap h' → SetL w h' a (k :: ks) → Q b { s with heap := h' } := fun b h' sb r => hQ b h' sb (by rw [memK_not hm]; exact r)
    refine wpAny_bind (gw _ ?_)
    split
    · refine wpAny_bind ?_
      rw [hashByValue_scannable 8 sc]
      refine wpAny_pure ?_
      refine setL_store (fun b s1 Q1 q => by cases b <;> first | exact wpAny_pure q | exact wpAny_rule q) ho hx hd g1 pk n1 room ?_ ?_ ?_ fun h' sb r => ?_
      · first | (split <;> first | exact f1 | exact SetTable.fits_plain_off f1) | exact f1
      · first | (split <;> exact r1) | exact r1
      · first | (split <;> exact led1) | exact led1
      · dsimp only; exact wpAny_pure (fin _ h' sb r)
    · refine wpAny_bind (wpAny_pure ?_)
      simp only [↓reduceIte]
      exact setL_store (fun b s1 Q1 q => by cases b <;> first | exact wpAny_pure q | exact wpAny_rule q) ho hx hd g1 pk n1 room f1 r1 led1 fun h' sb r => by dsimp only; exact wpAny_pure (fin _ h' sb r)
end
/-- the keys of a list, each once: later ones ahead -/
def keysOf : List Key → List Key
  | [] => []
  | k :: l => if memK k (keysOf l) = true then keysOf l else k :: keysOf l
theorem mem_keysOf {k : Key} : ∀ l : List Key, k ∈ keysOf l ↔ k ∈ l
  | [] => Iff.rfl
  | j :: l => by
    unfold keysOf
    split
    · rename_i h
      rw [mem_keysOf l, List.mem_cons]
      refine ⟨.inr, fun z => z.elim (fun e => ?_) id⟩
      rw [e]; exact (mem_keysOf l).mp (memK_iff.mp h)
    · rw [List.mem_cons, List.mem_cons, mem_keysOf l]
theorem nodup_keysOf : ∀ l : List Key, (keysOf l).Nodup
  | [] => List.nodup_nil
  | j :: l => by
    unfold keysOf
    split
    · exact nodup_keysOf l
    · exact List.nodup_cons.mpr ⟨fun z => absurd (memK_iff.mpr z) (by assumption), nodup_keysOf l⟩
theorem len_keysOf : ∀ l : List Key, (keysOf l).length ≤ l.length
  | [] => Nat.le_refl _
  | j :: l => by
    unfold keysOf
    have := len_keysOf l
    split
    · simp only [List.length_cons]; omega
    · simp only [List.length_cons]; omega

theorem paired_at {α β : Type} {R : α → β → Prop} : ∀ {l : List α} {m : List β} {i : Nat} {x : α} {y : β}, Paired R l m → l[i]? = some x → m[i]? = some y → R x y
  | _, _, _, _, _, .nil, h, _ => by simp at h
  | _, _, 0, _, _, .cons r _, h1, h2 => by simp at h1 h2; subst h1; subst h2; exact r
  | _, _, i + 1, _, _, .cons _ t, h1, h2 => paired_at (i := i) t (by simpa using h1) (by simpa using h2)
/-! ### set(list) -/
section
variable {P : Program} {w : World} {A : Around} {E : Value → Shared → Prop} {s : Shared}
theorem setL_fresh {h : Heap} {a : Addr} (ho : h.get? a = some { cls := .type "set", dict := none, data := .set #[] 0 (.fresh 0 0 (!w.params.followText "set-order")) }) : SetL w h a [] :=
  ⟨_, #[], 0, _, ho, ⟨rfl, rfl, rfl⟩, rfl, (fun e z => by simp at z), (by simp), List.nodup_nil, (by decide), rfl, List.Pairwise.nil, by
    cases e : w.params.followText "set-order" with
    | true => exact .inl rfl
    | false => exact .inr rfl⟩
theorem setL_update {I : Addr} {fp wr : List Addr} {G : Array GenState → Array GenState → Prop} {n : Nat} {Pv : Nat → Value → Prop} {St : Nat → Shared → Prop} {R : Result → Shared → Prop} (W : WalksS P w A.in1 I fp wr G n Pv St) (S : Addr) (out : S ∉ fp)
    (kl : List Key) (hn : n = kl.length) (room : kl.length + 1 < scanBound) (val : ∀ i v, Pv i v → ∃ k, kl[i]? = some k ∧ keyIs k v = true) :
    ∀ (m i : Nat) (s : Shared), n - i = m → i ≤ n → St i s → SetL w s.heap S (keysOf (kl.take i).reverse) →
      (∀ s', Moved (S :: wr) G s s' → SetL w s'.heap S (keysOf kl.reverse) → R (.ok (.ret .none)) s') → codeAny (model P w) A (.builtin "set.update.loop" ⟨[.ref S, .ref I], []⟩) R s := by
  have outW : S ∉ wr := fun z => out (W.sub _ z)
  have more : ∀ b ∈ wr, b ∈ S :: wr := fun b z => List.mem_cons_of_mem _ z
  intro m
  induction m with
  | zero =>
    intro i s em hi st hS hR
    have full : kl.take i = kl := List.take_of_length_le (by omega)
    rw [full] at hS
    obtain rfl : i = n := by omega
    refine codeAny_builtin F.entry_set_update_loop ?_
    rw [Around.under_plainId F.plain_set_update_loop _]
    show wpAny _ A.in1 (pyNext (.ref I) >>= _) _ _ s
    exact wpAny_bind (W.done s _ _ st fun s1 mv => show wpAny _ A.in1 (ret Value.none) _ _ s1 from wpAny_pure (hR s1 (mv.mono more) (hS.at fun o e => mv.heap S o outW e)))
  | succ m ih =>
    intro i s em hi st hS hR
    have lt : i < n := by omega
    refine codeAny_builtin F.entry_set_update_loop ?_
    rw [Around.under_plainId F.plain_set_update_loop _]
    show wpAny _ A.in1 (pyNext (.ref I) >>= _) _ _ s
    refine wpAny_bind (W.item i s _ _ lt st fun v s1 hP st1 mv => ?_)
    obtain ⟨k, hk, hv⟩ := val i v hP
    have hS1 : SetL w s1.heap S (keysOf (kl.take i).reverse) := hS.at fun o e => mv.heap S o outW e
    have lk : (keysOf (kl.take i).reverse).length ≤ i := by
      have := len_keysOf (kl.take i).reverse
      rw [List.length_reverse, List.length_take] at this
      omega
    show wpAny _ A.in1 (holding [v] (setAdd S v) >>= _) _ _ s1
    refine wpAny_bind (wpAny_holding ?_)
    unfold setAdd
    refine wpAny_holding (wpAny_bind ((mixKind P w).pyHash (k := k) hv ?_))
    refine setL_add (s := { s1 with toks := s1.toks + 1 }) hv hS1 (by omega) fun b h2 sb hS2 => ?_
    have e2 : keysOf (kl.take (i + 1)).reverse = if memK k (keysOf (kl.take i).reverse) = true then keysOf (kl.take i).reverse else k :: keysOf (kl.take i).reverse := by
      rw [List.take_add_one, hk]; simp [keysOf]
    rw [← e2] at hS2
    refine wpAny_pure ⟨plainId_quiet F.plain_set_update_loop _, ih (i + 1) _ (by omega) lt (W.frame _ s1 _ _ st1 (Nat.le_succ _) fun b hb o e => (sb.2 b fun z => out (z ▸ hb)).trans e) hS2 fun s3 mv3 hS3 => ?_⟩
    exact hR s3 (Moved.trans W.gtrans ((mv.mono more).then_heap (Nat.le_succ _) fun b o hb e => (sb.2 b fun z => hb (z ▸ List.mem_cons_self)).trans e) mv3) hS3
set_option maxHeartbeats 8000000 in
theorem set_of_list {l : Addr} {items : Array Value} (kl : List Key) {Q : Value → Shared → Prop} (hh : A.handled = none) (hl : s.heap.IsList l items) (hit : Paired (fun (k : Key) v => keyIs k v = true) kl items.toList) (room : kl.length + 1 < scanBound)
    (hQ : ∀ (h' : Heap) (tk : Nat), SetL w h' s.heap.objs.size (keysOf kl.reverse) → (∀ b o, s.heap.get? b = some o → h'.get? b = some o) → Q (.ref s.heap.objs.size) { s with heap := h', toks := tk }) :
    wpAny (model P w) A (call (.type "set") [.ref l]) Q E s := by
  have size_kl : items.size = kl.length := by rw [← Array.length_toList]; exact hit.length.symm
  obtain ⟨c0, tl0, hmro⟩ := F.called_set.mro
  have made := F.called_set.made
  have subs := F.called_set.sub
  refine wpAny_call (codeAny_of_tree ?_)
  show wpAny _ _ (callAny (.type "set") _) _ _ _
  refine wpAny_pure ⟨Code.quiet_builtin _ (by decide +kernel), codeAny_builtin F.entry_type_call ?_⟩
  rw [Around.under_plain (weight_type_call_type "set" [.ref l] []) rfl]
  have q1 := F.called_set.notType
  have q2 := F.called_set.canCreate
  have q3 := F.typeCall_set_1 (.ref l)
  repeat (any_goals (first | assumption | wp_step))
  generalize hE0 : ({ cls := .type "set", dict := none, data := .set #[] 0 (.fresh 0 0 (!w.params.followText "set-order")) } : Obj) = emptySet
  refine codeAny_mono (code_set_led1 (.ref l) (E := E) (Q₁ := fun obj s1 => obj = .ref s.heap.objs.size ∧ s1 = { s with heap := s.heap.push emptySet }) (by rw [← hE0]; exact ⟨rfl, rfl⟩)) fun r s1 hr => ?_
  cases r with
  | error e => exact hr
  | ok fl =>
    cases fl with
    | ret obj =>
      obtain ⟨rfl, rfl⟩ := hr
      have atS : (s.heap.push emptySet).get? s.heap.objs.size = some emptySet := Heap.get?_push_size _ (by rw [← hE0]; rfl)
      have tyS : Shared.TypeIs { s with heap := s.heap.push emptySet } (.ref s.heap.objs.size) "set" := ⟨_, atS, by rw [← hE0]⟩
      have i1 := F.called_set.init.lookup
      have i2 := F.called_set.init.bind (.ref s.heap.objs.size)
      repeat (any_goals (first | assumption | wp_step))
      refine codeAny_mono (codeAny_call_builtin (R := wants (fun r s2 => r = .none ∧ ∃ h' tk, s2 = { s with heap := h', toks := tk } ∧ SetL w h' s.heap.objs.size (keysOf kl.reverse) ∧ (∀ b o, s.heap.get? b = some o → h'.get? b = some o)) E)
        F.called_set.init.plain F.entry_set_init (check_set_init_1 tyS ?_)) fun r2 s2 hr2 => ?_
      · obtain ⟨ol, hol, hcl, nl, hdl⟩ := hl
        obtain ⟨oc, od, oda, osl⟩ := ol
        simp only at hcl hdl
        subst hcl hdl
        have oldl : (s.heap.push emptySet).get? l = some { cls := .type "list", dict := od, data := .seq items nl, slots := osl } := Heap.get?_push_of_some _ hol
        have s1 := F.sub_list_set
        have s2 := F.sub_list_frozenset
        have s3 : (Value.type "list" == Value.type "dict") = false := by decide
        have isl : (s.heap.push emptySet).IsList l items := ⟨_, oldl, rfl, nl, rfl⟩
        have hz : (s.heap.push emptySet).objs.size = s.heap.objs.size + 1 := Heap.size_push ..
        have fr : SetL w ((s.heap.push emptySet).push { cls := .type "list_iterator", data := .fields #[.ref l, .int 0 0] }) s.heap.objs.size [] := setL_fresh (by rw [hE0]; exact Heap.get?_push_of_some _ atS)
        subst hE0
        unfold Builtin.«set.__init__» noKeywords Builtin.Frozenset.updateFrom
        generalize hPI : pyIter = PI
        wp_walk
        subst hPI
        generalize hh0 : s.heap.push _ = h0 at atS tyS oldl isl hz fr ⊢
        have keep0 : ∀ b o, s.heap.get? b = some o → h0.get? b = some o := fun b o e => by rw [← hh0]; exact Heap.get?_push_of_some _ e
        refine wpAny_pyIter_list (s := { s with heap := h0 }) isl ?_
        refine wpAny_bind (wpAny_runValue ?_)
        have lS : l < s.heap.objs.size := Heap.lt_size hol
        have lI : l ≠ h0.objs.size := by rw [hz]; exact Nat.ne_of_lt (Nat.lt_succ_of_lt lS)
        have outS : s.heap.objs.size ∉ [h0.objs.size, l] := by
          rw [hz]; simp only [List.mem_cons, List.not_mem_nil, or_false, not_or]; exact ⟨Nat.ne_of_lt (Nat.lt_succ_self _), Nat.ne_of_gt lS⟩
        have val : ∀ (i : Nat) (v : Value), items[i]? = some v → ∃ k, kl[i]? = some k ∧ keyIs k v = true := fun i v hv => by
          have hv' : items.toList[i]? = some v := by rw [Array.getElem?_toList]; exact hv
          have hi : i < kl.length := by rw [← size_kl]; exact (Array.getElem?_eq_some_iff.mp hv).1
          exact ⟨kl[i], List.getElem?_eq_getElem hi, paired_at (R := fun (k : Key) v => keyIs k v = true) hit (List.getElem?_eq_getElem hi) hv'⟩
        refine setL_update ((Walks.list (by simp [hh]) _ l lI items).toS) s.heap.objs.size outS kl size_kl room val (items.size - 0) 0 _ (by omega) (Nat.zero_le _) ⟨⟨_, Heap.get?_push_size _ rfl, rfl, rfl⟩, isl.push _⟩ ?_ fun s4 mv hS => ?_
        · exact fr
        · obtain ⟨h4, g4, d4, t4, o4⟩ := s4
          obtain rfl : g4 = s.gens := mv.gens
          obtain rfl : d4 = s.drawn := mv.drawn
          obtain rfl : o4 = s.os := mv.os
          show wpAny _ _ _ _ _ _
          refine wpAny_pure ?_
          show wpAny _ _ (ret Value.none) _ _ _
          refine wpAny_pure ⟨rfl, h4, t4, rfl, hS, fun b o e => ?_⟩
          have hb := Heap.lt_size e
          refine mv.heap b o ?_ (Heap.get?_push_of_some _ (keep0 b o e))
          simp only [List.mem_cons, List.not_mem_nil, or_false, not_or]
          exact ⟨Nat.ne_of_lt hb, by rw [hz]; exact Nat.ne_of_lt (Nat.lt_succ_of_lt hb)⟩
      · cases r2 with
        | error e => exact hr2
        | ok f2 =>
          cases f2 with
          | ret r =>
            obtain ⟨rfl, h', tk, rfl, hS, kp⟩ := hr2
            repeat (any_goals (first | assumption | wp_step))
            exact hQ _ _ hS kp
          | _ => exact hr2.elim
    | _ => exact hr.elim
end
end RS

/-! RSSort: sorted of a set or a list of ints, of texts. -/
namespace RS
open PySem PySem.Spec PyProof.Rows L2

/-! ### one sorted list of the same members -/
theorem pairwise_perm_eq {α : Type} {le : α → α → Bool} (anti : ∀ a b, le a b = true → le b a = true → a = b) : ∀ {l m : List α}, l.Perm m → l.Pairwise (fun a b => le a b = true) → m.Pairwise (fun a b => le a b = true) → l = m
  | [], m, p, _, _ => (List.nil_perm.mp p).symm
  | a :: l, [], p, _, _ => by have := p.length_eq; simp at this
  | a :: l, b :: m, p, h1, h2 => by
    obtain ⟨g1, r1⟩ := List.pairwise_cons.mp h1
    obtain ⟨g2, r2⟩ := List.pairwise_cons.mp h2
    have e : a = b := by
      rcases List.mem_cons.mp (p.mem_iff.mp List.mem_cons_self) with h | h
      · exact h
      · rcases List.mem_cons.mp (p.mem_iff.mpr (List.mem_cons_self (a := b) (l := m))) with h' | h'
        · exact h'.symm
        · exact anti a b (g1 b h') (g2 a h)
    subst e
    rw [pairwise_perm_eq anti (List.perm_cons a |>.mp p) r1 r2]
theorem mergeSort_perm_eq {α : Type} {le : α → α → Bool} (tr : ∀ a b c, le a b = true → le b c = true → le a c = true) (tot : ∀ a b, (le a b || le b a) = true) (anti : ∀ a b, le a b = true → le b a = true → a = b) {l m : List α} (p : l.Perm m) : l.mergeSort le = m.mergeSort le :=
  pairwise_perm_eq anti ((List.mergeSort_perm l le).trans (p.trans (List.mergeSort_perm m le).symm)) (List.pairwise_mergeSort tr tot l) (List.pairwise_mergeSort tr tot m)
def leI (a b : Int) : Bool := decide (a ≤ b)
def leS (a b : Str) : Bool := decide (a.cps.toList ≤ b.cps.toList)
def sortI (l : List Int) : List Int := l.mergeSort leI
def sortS (l : List Str) : List Str := l.mergeSort leS
theorem sortI_perm {l m : List Int} (p : l.Perm m) : sortI l = sortI m := mergeSort_perm_eq (fun a b c h1 h2 => by unfold leI at *; simp only [decide_eq_true_eq] at *; omega) (fun a b => by unfold leI; simp only [Bool.or_eq_true, decide_eq_true_eq]; omega) (fun a b h1 h2 => by unfold leI at *; simp only [decide_eq_true_eq] at *; omega) p
theorem str_ext' {a b : Str} (h : a.cps.toList = b.cps.toList) : a = b := by
  obtain ⟨a⟩ := a
  obtain ⟨b⟩ := b
  simp only at h
  have : a = b := by rw [← Array.toArray_toList (xs := a), h, Array.toArray_toList]
  rw [this]
theorem sortS_perm {l m : List Str} (p : l.Perm m) : sortS l = sortS m := mergeSort_perm_eq
  (fun a b c h1 h2 => by unfold leS at *; simp only [decide_eq_true_eq] at *; exact List.le_trans h1 h2)
  (fun a b => by unfold leS; simp only [Bool.or_eq_true, decide_eq_true_eq]; exact List.le_total _ _)
  (fun a b h1 h2 => by unfold leS at *; simp only [decide_eq_true_eq] at *; exact str_ext' (List.le_antisymm h1 h2)) p
theorem dataLe_I : PySem.W.dataLe false PyData.int = leI := by
  have := PySem.W.dataLe_int (fun b : Int => b)
  exact this
theorem dataLe_S : PySem.W.dataLe false PyData.str = leS := by
  have := PySem.W.dataLe_str (fun b : Str => b)
  exact this

/-! ### sorted -/
structure AK (β : Type) where
  key : β → Key
  enc : β → PyData
  inv : Key → β
  hinv : ∀ b, inv (key b) = b
  hkey : ∀ v k, keyIs k v = true → ∀ b, key b = k → keyIs (key (inv (valKey v))) v = true
  rd : ∀ (h : Heap) b v, keyIs (key b) v = true → Reads h v (enc b) []
  alk : ∀ b c, PySem.W.alike (enc b) (enc c) = true
  flat : ∀ b, enc b ≠ .none ∧ ∀ xs, enc b ≠ .tuple xs
  dep : ∀ b, (enc b).depth = 0
def akI : AK Int where
  key := Sum.inl
  enc := .int
  inv := fun k => k.elim id fun _ => 0
  hinv := fun _ => rfl
  hkey := fun v k h b e => by rw [valKey_of h, ← e]; rw [← e] at h; exact h
  rd := fun h b v q => by
    rcases keyIs_shape q with ⟨i, t, e, rfl⟩ | ⟨x, t, e, rfl⟩
    · cases e; exact .int _ _
    · cases e
  alk := fun _ _ => rfl
  flat := fun _ => ⟨(fun z => by cases z), fun _ z => by cases z⟩
  dep := fun _ => by simp [PyData.depth]
def akS : AK Str where
  key := Sum.inr
  enc := .str
  inv := fun k => k.elim (fun _ => "") id
  hinv := fun _ => rfl
  hkey := fun v k h b e => by rw [valKey_of h, ← e]; rw [← e] at h; exact h
  rd := fun h b v q => by
    rcases keyIs_shape q with ⟨i, t, e, rfl⟩ | ⟨x, t, e, rfl⟩
    · cases e
    · cases e; exact .str _ _
  alk := fun _ _ => rfl
  flat := fun _ => ⟨(fun z => by cases z), fun _ z => by cases z⟩
  dep := fun _ => by simp [PyData.depth]
section
variable {P : Program} {w : World} {A : Around} {E : Value → Shared → Prop} {s : Shared} {β : Type}
open PySem.W in
theorem each_of {R : Value → β → Prop} : ∀ {vs : List Value} {bs : List β}, vs.length = bs.length → (∀ (i : Nat) (v : Value) (b : β), vs[i]? = some v → bs[i]? = some b → R v b) → EachIs R vs bs
  | [], [], _, _ => .nil
  | [], _ :: _, h, _ => by simp at h
  | _ :: _, [], h, _ => by simp at h
  | v :: vs, b :: bs, h, f => .cons (f 0 v b rfl rfl) (each_of (by simpa using h) fun i x y h1 h2 => f (i + 1) x y (by simpa using h1) (by simpa using h2))
open PySem.W in
theorem sorted_setL (k : AK β) {a : Addr} {bs : List β} {Q : Value → Shared → Prop} (R : SetL w s.heap a (bs.map k.key)) (hh : A.handled = none) (hu : A.units + 8 < cLine)
    (hQ : ∀ (s' : Shared) (p : Addr) (out : List Value) (c : Nat) (bs' : List β), (∀ b o, s.heap.get? b = some o → s'.heap.get? b = some o) → s'.gens = s.gens → s'.os = s.os → s.heap.objs.size ≤ p → s'.heap.get? p = some (seqObj "list" (List.toArray out) c) → bs'.Perm bs → out.length = bs.length →
      EachIs (fun v b => keyIs (k.key b) v = true) out (bs'.mergeSort (dataLe false k.enc)) → Q (.ref p) s') :
    wpAny (model P w) A (call (.builtin "sorted") [.ref a]) Q E s := by
  obtain ⟨o, es, ep, t, ho, hx, hd, ge, pe, ne, be, fe, re, le⟩ := R
  have sz : es.size = bs.length := by rw [← Array.length_toList, ← List.length_map (f := entKey), pe.length_eq, List.length_map]
  refine Calls.call_function_entry kind_sorted plain_sorted entry_sorted (args_sorted1 _) ?_
  unfold Builtin.«sorted»
  refine wpAny_bind (m := checkCount "sorted" 1 1 _) (wpAny_pure ?_)
  refine wpAny_bind (collect_set (A := A.in1) hh ⟨o, ho, hx.1, hd⟩ fe (by rw [sz, ← List.length_map (f := k.key)]; exact be) re le fun s1 vs k1 hz g1 o1 pm => ?_)
  have lvs : vs.length = bs.length := by rw [pm.length_eq, List.length_map, Array.length_toList]; exact sz
  -- the members as keys of this kind
  let bs' : List β := vs.map fun v => k.inv (valKey v)
  have pk : (vs.map valKey).Perm (bs.map k.key) := by
    have q := pm.map valKey
    rw [List.map_map] at q
    exact q.trans pe
  have pb : bs'.Perm bs := by
    have q := pk.map k.inv
    rw [List.map_map, List.map_map] at q
    have e1 : bs.map (k.inv ∘ k.key) = bs := by
      have : (k.inv ∘ k.key) = id := funext k.hinv
      rw [this, List.map_id]
    rw [e1] at q
    exact q
  have ev : ∀ v ∈ vs, keyIs (k.key (k.inv (valKey v))) v = true := fun v hv => by
    obtain ⟨e, he, q⟩ := List.mem_map.mp (pm.mem_iff.mp hv)
    obtain ⟨k0, h1, _⟩ := ge e he
    rw [q] at h1
    have : valKey v ∈ bs.map k.key := pk.mem_iff.mp (List.mem_map.mpr ⟨v, hv, rfl⟩)
    obtain ⟨b, _, hb⟩ := List.mem_map.mp this
    exact k.hkey v k0 h1 b (by rw [hb, valKey_of h1])
  have each : EachIs (fun v b => keyIs (k.key b) v = true) vs bs' := each_of (by simp [bs']) fun i v b h1 h2 => by
    rw [List.getElem?_map, h1] at h2
    obtain rfl : k.inv (valKey v) = b := Option.some.inj h2
    exact ev v (List.mem_of_getElem? h1)
  refine wpAny_bind (wpAny_newList ?_ (by rw [lvs, ← List.length_map (f := k.key)]; exact Nat.le_of_lt (Nat.lt_of_lt_of_le be (by rw [sizeLine_eq]; decide))))
  have hL : (s1.heap.push (seqObj "list" vs.toArray 0)).get? s1.heap.objs.size = some (seqObj "list" vs.toArray 0) := Heap.get?_push_size _ rfl
  refine wpAny_bind (wpAny_holding (list_sort_data (R := fun v b => keyIs (k.key b) v = true) (enc := k.enc) hL each ?_ ?_ ?_ ?_ ?_ fun out lo eo => ?_))
  · exact each.mono fun v b h => ⟨[], k.rd _ b v h, List.not_mem_nil⟩
  · exact AllAlike.of k.alk
  · exact Sortable.others k.flat
  · rw [List.length_map, lvs, ← List.length_map (f := k.key)]; exact Nat.le_of_lt (Nat.lt_of_lt_of_le be (by rw [sizeLine_eq]; decide))
  · intro b _
    rw [k.dep b]
    show A.units + 1 + 1 + 0 < cLine
    omega
  · obtain ⟨c, hc⟩ := sortedHeap_at (vs := vs) (out := List.toArray out) hL
    refine wpAny_pure ⟨_, rfl, hQ _ s1.heap.objs.size out c bs' (fun b u e => ?_) g1 o1 hz hc pb (by rw [lo, List.length_map, lvs]) eo⟩
    have q := k1 b u e
    have hlt := Heap.lt_size q
    show (sortedHeap (s1.heap.push (seqObj "list" vs.toArray 0)) s1.heap.objs.size vs (List.toArray out)).get? b = some u
    rw [sortedHeap_old (Nat.ne_of_lt hlt) (by rw [size_push']; exact Nat.lt_succ_of_lt hlt)]
    exact Heap.get?_push_of_some _ q
end

/-! ### set and sorted as called in a def -/
def SetH (w : World) (p : Addr) (ks : List Key) : HO := .ext fun h => SetL w h p ks
structure rSetU (K : PySem.W.Frag) (w : World) (xs : List V) (H : Hp) (Q : VK) : Prop where
  h : ∃ (a : Addr) (kl : List Key), xs = [.ref a] ∧ SqL K H a (kl.map kV) ∧ kl.length + 1 < scanBound ∧ ∀ p, H p = none → Q (.ref p) (upd H p (SetH w p (keysOf kl.reverse)))
structure rSortU (K : PySem.W.Frag) (w : World) (xs : List V) (H : Hp) (Q : VK) : Prop where
  h : ∃ (a : Addr), xs = [.ref a] ∧ ((∃ ns : List Int, (SqL K H a (ns.map V.int) ∨ H a = some (SetH w a (ns.map Sum.inl))) ∧ ∀ p, H p = none → Q (.ref p) (upd H p (.lst ((sortI ns).map V.int)))) ∨
    (∃ ns : List Str, (SqL K H a (ns.map V.str) ∨ H a = some (SetH w a (ns.map Sum.inr))) ∧ ∀ p, H p = none → Q (.ref p) (upd H p (.lst ((sortS ns).map V.str)))))
theorem keys_vals : ∀ {kl : List Key} {us : List Value}, Vals (kl.map kV) us → Paired (fun (k : Key) v => keyIs k v = true) kl us
  | [], _, .nil => .nil
  | _ :: _, _, .cons r t => .cons (keyIs_rel r) (keys_vals t)
theorem vals_each {β : Type} (k : AK β) {f : β → V} (hf : ∀ b, f b = kV (k.key b)) : ∀ {us : List Value} {bs : List β}, PySem.W.EachIs (fun v b => keyIs (k.key b) v = true) us bs → Vals (bs.map f) us
  | _, _, .nil => .nil
  | _, _, .cons r t => .cons (by rw [hf]; exact rel_keyIs r) (vals_each k hf t)
theorem each_vals {β : Type} (k : AK β) {f : β → V} (hf : ∀ b, f b = kV (k.key b)) : ∀ {us : List Value} {bs : List β}, Vals (bs.map f) us → PySem.W.EachIs (fun v b => keyIs (k.key b) v = true) us bs
  | _, [], .nil => .nil
  | _, b :: _, .cons r t => .cons (keyIs_rel (by rw [hf] at r; exact r)) (each_vals k hf t)
section
variable {X : Cx}
theorem uSet (hc : X.calm = true) : CallR X (.type "set") (rSetU X.K X.w) := by
  intro pins s σ H xs us Q I r h
  obtain ⟨a, kl, rfl, hs, room, q⟩ := h.h
  rw [Vals.ref1 r]
  obtain ⟨its, rv, hl, _⟩ := I.list hs
  refine set_of_list kl (I.ok.hd hc) hl.isList (by simpa using keys_vals rv) room fun h' tk S kp => ?_
  have at1 : ∃ o, h'.get? s.heap.objs.size = some o := by obtain ⟨o, _, _, _, e, _⟩ := S; exact ⟨o, e⟩
  exact ⟨.ref _, _, I.laid (a := s.heap.objs.size) (o := SetH X.w s.heap.objs.size (keysOf kl.reverse)) kp (Nat.le_refl _) ⟨S, at1, fun h1 h2 z m => z.at m⟩, rfl, q _ (I.hok.fresh (Nat.le_refl _))⟩
theorem sorted_go {β : Type} (k : AK β) {f : β → V} (hf : ∀ b, f b = kV (k.key b)) {so : List β → List β} (hso : ∀ l, so l = l.mergeSort (PySem.W.dataLe false k.enc)) (hp : ∀ {l m : List β}, l.Perm m → so l = so m) (hc : X.calm = true) (hu : X.A.units + 64 < cLine)
    {pins : List (Addr × Obj)} {s : Shared} {σ : L2.St} {H : Hp} {Q : VK} {a : Addr} {bs : List β} (I : Inv X pins σ H s) (hs : SqL X.K H a (bs.map f) ∨ H a = some (SetH X.w a (bs.map k.key))) (q : ∀ p, H p = none → Q (.ref p) (upd H p (.lst ((so bs).map f)))) :
    wpAny (model X.prog X.w) X.A (call (.builtin "sorted") [.ref a]) (EP X pins σ Q) X.xe s := by
  have lso : (so bs).length = bs.length := by rw [hso, (List.mergeSort_perm bs _).length_eq]
  rcases hs with hs | hs
  · obtain ⟨its, rv, hl, hz⟩ := I.list hs
    rw [List.length_map] at hz
    refine PySem.W.sorted_data (R := fun v b => keyIs (k.key b) v = true) (enc := k.enc) hl.isList (each_vals k hf rv) ((each_vals k hf rv).mono fun v b h => ⟨[], k.rd _ b v h⟩) (PySem.W.AllAlike.of k.alk) (PySem.W.Sortable.others k.flat) hz (fun b _ => by rw [k.dep b]; omega) fun out lo eo => ?_
    obtain ⟨ep, he⟩ := PyProof.Rows.sortedAll_at s.heap its (List.toArray out)
    rw [← hso] at eo
    exact ⟨.ref _, upd H (s.heap.objs.size + 1) (.lst ((so bs).map f)), I.laid (t' := s.toks) (fun _ _ => PyProof.Rows.sortedAll_old) (Nat.le_succ _) ⟨by rw [List.length_map, lso]; exact hz, out, ep, vals_each k hf eo, he⟩, rfl, q _ (I.hok.fresh (Nat.le_succ _))⟩
  · have S : SetL X.w s.heap a (bs.map k.key) := (I.hok a _ hs).1
    refine sorted_setL k S (I.ok.hd hc) (by omega) fun s' p out c bs' kp g o hp1 hg pb lo eo => ?_
    rw [← hso, hp pb] at eo
    have lz : bs.length ≤ sizeLine := by
      obtain ⟨_, _, _, _, _, _, _, _, _, _, b4, _⟩ := S
      rw [List.length_map] at b4
      rw [sizeLine_eq]; exact Nat.le_of_lt (Nat.lt_of_lt_of_le b4 (by decide))
    have nf : H p = none := I.hok.fresh hp1
    have J : Inv X pins σ (upd H p (.lst ((so bs).map f))) { s with heap := s'.heap, gens := s'.gens, drawn := s'.drawn, toks := s'.toks } :=
      I.call (ch := []) (Un.laid kp hp1 nf) (I.hok.laid kp hp1 ⟨by rw [List.length_map, lso]; exact lz, out, c, vals_each k hf eo, hg⟩) (by rw [g]; exact I.bare) (fun _ z => nomatch z)
    have e : s' = { s with heap := s'.heap, gens := s'.gens, drawn := s'.drawn, toks := s'.toks } := by cases s'; cases s; cases o; rfl
    rw [e]
    exact ⟨.ref p, _, J, rfl, q p nf⟩
theorem uSorted (hc : X.calm = true) (hu : X.A.units + 64 < cLine) : CallR X (.builtin "sorted") (rSortU X.K X.w) := by
  intro pins s σ H xs us Q I r h
  obtain ⟨a, rfl, q⟩ := h.h
  rw [Vals.ref1 r]
  rcases q with ⟨ns, hs, q⟩ | ⟨ns, hs, q⟩
  · exact sorted_go akI (fun _ => rfl) (so := sortI) (fun l => by unfold sortI; rw [← dataLe_I]; rfl) sortI_perm hc hu I hs q
  · exact sorted_go akS (fun _ => rfl) (so := sortS) (fun l => by unfold sortS; rw [← dataLe_S]; rfl) sortS_perm hc hu I hs q
end
end RS

/-! RSLaw: a def that is called where no repr is under way; the law's own call. -/
namespace RS
open PySem PySem.Spec PyProof.Rows L2

/-- a def's promise where no guarded call is under way -/
structure FnG (P : Program) (w : World) (K : PySem.W.Frag) (mg : Str → Option Value) (base : Heap) (k : Nat) (f : Addr) (fd : FuncData) (ps : List Str) (sp : Sp) : Prop where
  len : ∀ vs H Q E, sp vs H Q E → vs.length = ps.length
  run : ∀ (A : Around) (outer : List Env) (s : Shared) (H : Hp) (args : Args) (us : List Value) (vs : List V) (Q : VK) (E : XK), AG A → Room k A → Env0 P w K mg base A outer s H → BindsTo s fd args (ps.zip us) → Vals vs us → sp vs H Q E →
    codeAny (model P w) A (.call (.ref f) args) (CR CX0 outer P w H s Q E) s
theorem okG {P : Program} {w : World} {K : PySem.W.Frag} {mg : Str → Option Value} {base : Heap} {x qual : Str} {st : Stmt} {f : Addr} {fd : FuncData} {N ps : List Str} {k : Nat} {sp : Sp} (F : Fun K x qual st f fd) (S : FnScope N ps (defScope st)) (len : ∀ vs H Q E, sp vs H Q E → vs.length = ps.length)
    (body : ∀ (cdv : Value) (A : Around) (outer : List Env) (s : Shared) (H : Hp) (vs : List V) (Q : VK) (E : XK), AG (A.deeper (envOfC qual (defScope st) s.heap.objs.size f cdv)) → Room k (A.deeper (envOfC qual (defScope st) s.heap.objs.size f cdv)) → sp vs H Q E →
      ∃ t, PSs (cxOf CX0 P w K mg base N qual (defScope st) f cdv A outer s H E).nox (defBody st) t ∧ t { nx := fun _ H' => Q .non H', rt := Q } (start N vs) H) : FnG P w K mg base (k + 1) f fd ps sp := by
  obtain ⟨oc, od, kV, doc, pm, an, cdv, ct, osl, rfl, lk, hcd⟩ := F.ex
  refine ⟨len, fun A outer s H args us vs Q E hg hr e0 hb r q => ?_⟩
  have hlen := len _ _ _ _ q
  have keep : ∀ b o, base.get? b = some o → s.heap.get? b = some o := fun b o e => (e0.bs b o e).1
  have kin : K.In s.heap := e0.mod.kin.keeps keep
  have kinds : ∀ y ∈ ps.zip us, (defScope st).names.lookup y.1 = some .local ∨ ((defScope st).names.lookup y.1 = some .cell ∧ ((cellsFrom (s.heap.objs.size + 1) (defScope st).names []).lookup y.1).isSome = true) := by
    rintro ⟨n, v⟩ hy
    exact (S.par n (List.of_mem_zip hy).1).imp id fun z => ⟨z, PySem.W.cellsFrom_some _ _ _ (.inl z)⟩
  refine codeAny_call_function hr.depth (kin _ _ lk) rfl S.co S.gen rfl (PySem.W.codeRec_of kin hcd) (hb _ _ _ _ (wpAny_newFunctionEnv_cells S.kind kinds fun env he s1 ic => ?_))
  subst he
  obtain ⟨t, ht, hq⟩ := body cdv A outer s H vs Q E hg (hr.deeper _) q
  refine ⟨(e0.mod.nolimit.keeps keep).keeps ic.toInCall.keep, codeAny_func (wpAny_mono (ht.nox.run [] s1 _ H _ (inv_start S hr.hd e0 hlen r ic) hq) (fun fl s' z => ?_) fun e s' z => z)⟩
  cases fl with
  | ret u => obtain ⟨v, σ', H', J, rv, q'⟩ := z; exact ⟨v, H', J.os, J.bare, J.base, J.hok, rv, q'⟩
  | next => obtain ⟨σ', H', J, q'⟩ := z; exact ⟨.non, H', J.os, J.bare, J.base, J.hok, rfl, q'⟩
  | brk => exact (z.elim fun _ z => z.elim fun _ z => z.2.elim)
  | cont => exact (z.elim fun _ z => z.elim fun _ z => z.2.elim)
/-- the script as the law's call finds it: locked, or an object of the module -/
def scriptH (K : PySem.W.Frag) (a : Addr) (vs : List Value) (ns : List Int) : Hp := fun b => if b = a ∧ K.lookup a = none then some (.frz { cls := .type "list", data := .seq vs.toArray } (.lst (ns.map V.int))) else none
theorem law_goes {P : Program} {w : World} {K : PySem.W.Frag} {mg mb : Str → Option Value} {k : Nat} {fa a : Addr} {fd : FuncData} {x : Str} {sp : Sp} {s1 : Shared} {vs : List Value} {ns : List Int} (kin : K.In s1.heap) (gl : s1.heap.Ns mainGlobals mg) (bl : s1.heap.Ns builtinsNs mb)
    (blt : ∀ x : Str, x ≠ "__name__" → mb x = bootBuiltins x) (lim : s1.heap.NoLimit) (gens : s1.gens = #[]) (ha : s1.heap.get? a = some { cls := .type "list", data := .seq vs.toArray }) (hi : IntsAre vs ns) (hl : ns.length ≤ sizeLine) (hr : Room k callerA)
    (F : ∀ base : Heap, K.In base → base.Ns mainGlobals mg → FnG P w K mg base k fa fd [x] sp) (bind : ∀ (s : Shared) (u : Value), BindsTo s fd ⟨[u], []⟩ [(x, u)])
    (hsp : ∀ H : Hp, SqL K H a (ns.map V.int) → sp [.ref a] H (fun v _ => v = .bl true) fun _ _ _ => False) :
    codeAny (model P w) callerA (.call (.ref fa) ⟨[.ref a], []⟩) (fun r s' => r = .ok (.ret (.bool true)) ∧ OldK s1.heap s'.heap ∧ s'.os = s1.os ∧ AllBare s'.gens) s1 := by
  have rv := vals_ints hi
  have only : ∀ b u, scriptH K a vs ns b = some u → b = a ∧ K.lookup a = none ∧ u = .frz { cls := .type "list", data := .seq vs.toArray } (.lst (ns.map V.int)) := fun b u e => by
    unfold scriptH at e
    split at e
    · rename_i h; exact ⟨h.1, h.2, (Option.some.inj e).symm⟩
    · cases e
  have frees : ∀ b, (scriptH K a vs ns b ≠ none → b = a) := fun b z => by
    cases e : scriptH K a vs ns b with
    | none => exact absurd e z
    | some u => exact (only b u e).1
  have hok : HOk P w (scriptH K a vs ns) s1.heap := fun b u e => by
    obtain ⟨rfl, _, rfl⟩ := only b u e
    exact ⟨ha, by rw [List.length_map]; exact hl, vs, _, rv, ha⟩
  have sq : SqL K (scriptH K a vs ns) a (ns.map V.int) := by
    cases e : K.lookup a with
    | none => exact .inl (.inr ⟨_, if_pos ⟨rfl, e⟩⟩)
    | some o =>
      have e' := kin a o e
      rw [ha] at e'
      cases e'
      exact .inr ⟨_, vs.toArray, _, e, rfl, rfl, rfl, by rw [List.size_toArray, hi.length]; exact hl, by simpa using rv⟩
  -- what is a dict, what the written part knows, is not tracked
  have untr : ∀ {b : Addr} {o : Obj}, s1.heap.get? b = some o → (∀ xs n, o.data ≠ .seq xs n) → scriptH K a vs ns b = none := fun {b o} e d => by
    cases q : scriptH K a vs ns b with
    | none => rfl
    | some u =>
      obtain ⟨rfl, _, _⟩ := only b u q
      rw [ha] at e; cases e
      exact absurd rfl (d _ _)
  have nsB : ∀ {b : Addr} {m : Str → Option Value}, s1.heap.Ns b m → (hidT s1.heap (scriptH K a vs ns)).Ns b m := fun {b m} ⟨o, es, ep, e, d, r⟩ => ⟨o, es, ep, hidT_get e (untr e fun xs n z => by rw [d] at z; cases z), d, r⟩
  have kinB : K.In (hidT s1.heap (scriptH K a vs ns)) := fun b o e => hidT_get (kin b o e) (by
    cases q : scriptH K a vs ns b with
    | none => rfl
    | some u =>
      obtain ⟨rfl, z, _⟩ := only b u q
      rw [z] at e; cases e)
  have e0 : Env0 P w K mg (hidT s1.heap (scriptH K a vs ns)) callerA [] s1 (scriptH K a vs ns) := by
    refine ⟨rfl, ⟨kinB, nsB gl, ⟨mb, nsB bl, blt⟩, ?_⟩, fun b o e => of_hidT e, Nat.le_of_eq (hidT_size _ _), trivial, (fun b z => nomatch z), hok, .of_eq gens⟩
    obtain ⟨mc, q1, q2⟩ := lim
    exact ⟨mc, nsB q1, q2⟩
  refine codeAny_mono ((F _ kinB (nsB gl)).run callerA [] s1 _ ⟨[.ref a], []⟩ [.ref a] [.ref a] _ _ rfl hr e0 (bind s1 (.ref a)) (.cons rfl .nil) (hsp _ sq)) fun r s' z => ?_
  match r, z with
  | .ok (.ret u), ⟨v, H', os, bare, un, hok', r', q⟩ =>
    obtain rfl : v = .bl true := q
    obtain rfl : u = Value.bool true := r'
    refine ⟨rfl, OldK.of_keep fun b o e => ?_, os, bare⟩
    cases q : scriptH K a vs ns b with
    | none => exact un.keep b o e q (fun z => nomatch z) (fun z => nomatch z)
    | some u =>
      obtain ⟨rfl, _, rfl⟩ := only b u q
      obtain ⟨t1, _⟩ := hok b _ q
      obtain ⟨t2, _⟩ := hok' b _ (un.frzs b _ _ q)
      rw [e] at t1; cases t1
      exact t2
/-- the goal behind the head, from the law's promise -/
theorem walkG {l : PySem.W.OpenLaw} {n k : Nat} {q : Program} {loose : List Str} {XP : (Str → Option Value) → Heap → Prop} {YP : World → Heap → Prop} {d : DefRec} {K : Params → PySem.W.Frag} {sp : World → Sp} {x : Str} (hn : l.most = some n) (hn2 : n ≤ sizeLine) (hdf : d.params.defaults = []) (hr : Room k callerA)
    (hY : ∀ (w : World) (h : Heap), YP w h → (K w.params).In h)
    (F : ∀ (w : World) (mg : Str → Option Value) (fa : Addr) (h : Heap), (K w.params).In h → h.Ns mainGlobals mg → mg d.name = some (.ref fa) →
      ∃ fd : FuncData, (∀ (s : Shared) (u : Value), BindsTo s fd ⟨[u], []⟩ [(x, u)]) ∧ ∀ base : Heap, (K w.params).In base → base.Ns mainGlobals mg → FnG l.prog w (K w.params) mg base k fa fd [x] (sp w))
    (hsp : ∀ (w : World) (H : Hp) (a : Addr) (ns : List Int), ns.length ≤ n → (∀ z ∈ ns, Builtin.Int.intBits z ≤ 1048576) → SqL (K w.params) H a (ns.map V.int) → sp w [.ref a] H (fun v _ => v = .bl true) fun _ _ _ => False) :
    PySem.W.WalkO q loose XP YP l.row.toRowW d [] (fun f vs => PySem.call f vs) := by
  refine Att.attach_callB hn hdf fun w s0 s1 mg mb fa o pm cd doc a vs ns G Y ho hd hcd hmg ha hi hlen hbits hg => ?_
  obtain ⟨fd, hb, hF⟩ := F w mg fa _ (hY w _ Y) G.T.g hmg
  exact law_goes (hY w _ Y) G.T.g G.T.b G.T.builtins G.T.nolimit hg ha hi (Nat.le_trans hlen hn2) hr hF hb fun H hS => hsp w H a ns hlen hbits hS
end RS

namespace RS
open PySem PySem.Spec PyProof.Rows L2
def topS (i : Nat) : Stmt := PySem.Challenge.pw_runsasshown_k03_whole_spines_names_and_s.main.body.getD i (.Pass ⟨0, 0, 0, 0⟩)
abbrev s_law_begun : Stmt := topS 11
abbrev s_law_blended : Stmt := topS 12
abbrev s_law_draw : Stmt := topS 13
abbrev s_law_pick : Stmt := topS 14
abbrev s_own_parts : Stmt := topS 1
abbrev s_spine : Stmt := topS 2
abbrev s_applied : Stmt := topS 3
abbrev s_leaves_of : Stmt := topS 4
abbrev s_names_in : Stmt := topS 5
abbrev s_locals_in : Stmt := topS 6
abbrev s_holes_in : Stmt := topS 7
abbrev s_nodes_of : Stmt := topS 8
abbrev s_depth_of : Stmt := topS 9
abbrev s_law_k03_size : Stmt := topS 18
abbrev s_law : Stmt := topS 19
abbrev s_law_rt_term : Stmt := topS 15
abbrev s_law_rt_parts : Stmt := topS 16
abbrev s_law_rt_leaves : Stmt := topS 17
end RS

/-! Draws: the source of draws that every law has: a dict with two lists and two ints; what a draw changes and gives. -/
namespace RS
open PySem PySem.Spec PyProof.Rows L2

/-! ### the state -/
def kS (x : Str) : Key := Sum.inr x
def stk (g c : Addr) (l t : Int) : List (Key × V) := [(kS "great", .ref g), (kS "cells", .ref c), (kS "left", .int l), (kS "turn", .int t)]
theorem dget_great {H : Hp} {d g c : Addr} {l t : Int} (h : H d = some (.dK (stk g c l t))) : DGet H d (.str "great") (some (.ref g)) := .inl ⟨_, kS "great", .inl h, rfl, by simp [stk, valV, kS]⟩
theorem dget_cells {H : Hp} {d g c : Addr} {l t : Int} (h : H d = some (.dK (stk g c l t))) : DGet H d (.str "cells") (some (.ref c)) := .inl ⟨_, kS "cells", .inl h, rfl, by simp +decide [stk, valV, kS, List.find?_cons]⟩
theorem dget_left {H : Hp} {d g c : Addr} {l t : Int} (h : H d = some (.dK (stk g c l t))) : DGet H d (.str "left") (some (.int l)) := .inl ⟨_, kS "left", .inl h, rfl, by simp +decide [stk, valV, kS, List.find?_cons]⟩
theorem dget_turn {H : Hp} {d g c : Addr} {l t : Int} (h : H d = some (.dK (stk g c l t))) : DGet H d (.str "turn") (some (.int t)) := .inl ⟨_, kS "turn", .inl h, rfl, by simp +decide [stk, valV, kS, List.find?_cons]⟩
theorem four_line : 4 < sizeLine := by rw [sizeLine_eq]; decide
theorem dput_left {H : Hp} {d g c : Addr} {l t : Int} (h : H d = some (.dK (stk g c l t))) (v : Int) : DPut H d (.str "left") (.int v) (upd H d (.dK (stk g c v t))) :=
  .inl ⟨_, kS "left", h, rfl, four_line, by simp +decide [stk, putK, kS]⟩
theorem dput_turn {H : Hp} {d g c : Addr} {l t : Int} (h : H d = some (.dK (stk g c l t))) (v : Int) : DPut H d (.str "turn") (.int v) (upd H d (.dK (stk g c l v))) :=
  .inl ⟨_, kS "turn", h, rfl, four_line, by simp +decide [stk, putK, kS]⟩
structure Stt (H : Hp) (d g c : Addr) (T : Nat) : Prop where
  ne : c ≠ g
  ex : ∃ (gs cs : List Int) (l t : Int), H d = some (.dK (stk g c l t)) ∧ H g = some (.lst (gs.map V.int)) ∧ H c = some (.lst (cs.map V.int)) ∧ 0 ≤ t ∧ t ≤ T
/-- all but the state's own two objects stays -/
def Ch (d g : Addr) (H H' : Hp) : Prop := ∀ b o, b ≠ d → b ≠ g → H b = some o → H' b = some o
theorem Ch.refl {d g : Addr} (H : Hp) : Ch d g H H := fun _ _ _ _ h => h
theorem Ch.trans {d g : Addr} {H H1 H2 : Hp} (a : Ch d g H H1) (b : Ch d g H1 H2) : Ch d g H H2 := fun c o h1 h2 h => b c o h1 h2 (a c o h1 h2 h)
theorem Ch.same {d g : Addr} {H H' : Hp} (e : Same H H') : Ch d g H H' := fun b o _ _ h => e b o h
theorem Ch.new {d g p : Addr} {H : Hp} {o : HO} (h : H p = none) : Ch d g H (upd H p o) := fun b u _ _ e => by rw [upd_ne (ne_of_none e h)]; exact e
theorem Stt.mono {H : Hp} {d g c : Addr} {T T' : Nat} (S : Stt H d g c T) (h : T ≤ T') : Stt H d g c T' := by
  obtain ⟨gs, cs, l, t, h1, h2, h3, h4, h5⟩ := S.ex
  exact ⟨S.ne, gs, cs, l, t, h1, h2, h3, h4, by omega⟩
theorem Stt.d {H : Hp} {d g c : Addr} {T : Nat} (S : Stt H d g c T) : ∃ kv, H d = some (.dK kv) := by obtain ⟨_, _, _, _, h, _⟩ := S.ex; exact ⟨_, h⟩
theorem Stt.g {H : Hp} {d g c : Addr} {T : Nat} (S : Stt H d g c T) : ∃ xs, H g = some (.lst xs) := by obtain ⟨_, _, _, _, _, h, _⟩ := S.ex; exact ⟨_, h⟩
theorem Stt.c {H : Hp} {d g c : Addr} {T : Nat} (S : Stt H d g c T) : ∃ xs, H c = some (.lst xs) := by obtain ⟨_, _, _, _, _, _, h, _⟩ := S.ex; exact ⟨_, h⟩
theorem Ch.tk {K : PySem.W.Frag} {d g c : Addr} {H H' : Hp} {T : Nat} (C : Ch d g H H') (S : Stt H d g c T) : TK K H H' := by
  obtain ⟨kv, hd⟩ := S.d
  obtain ⟨xs, hg⟩ := S.g
  exact TK.of (fun a ys e => C a _ (ne_of e hd (by intro z; cases z)) (ne_of e hg (by intro z; cases z)) e) fun a o u e => C a _ (ne_of e hd (by intro z; cases z)) (ne_of e hg (by intro z; cases z)) e
theorem Ch.free {d g c : Addr} {H H' : Hp} {T : Nat} (C : Ch d g H H') (S' : Stt H' d g c T) {p : Addr} (h : H' p = none) : H p = none := by
  obtain ⟨kv, hd⟩ := S'.d
  obtain ⟨xs, hg⟩ := S'.g
  cases e : H p with
  | none => rfl
  | some o =>
    have := C p o (fun z => by rw [z, hd] at h; cases h) (fun z => by rw [z, hg] at h; cases h) e
    rw [h] at this; cases this
/-- the state stays where all else is new -/
theorem Stt.keep {H H' : Hp} {d g c : Addr} {T : Nat} (S : Stt H d g c T) (e : Same H H') : Stt H' d g c T := by
  obtain ⟨gs, cs, l, t, h1, h2, h3, h4, h5⟩ := S.ex
  exact ⟨S.ne, gs, cs, l, t, e _ _ h1, e _ _ h2, e _ _ h3, h4, h5⟩
theorem Stt.new {H : Hp} {d g c p : Addr} {T : Nat} {o : HO} (S : Stt H d g c T) (h : H p = none) : Stt (upd H p o) d g c T := S.keep (same_new h)

abbrev topT : Nat := 2 ^ 40

/-! ### _law_begun -/
theorem sc_law_begun : FnScope ["script", "great", "cell"] ["script"] (defScope s_law_begun) := ⟨rfl, rfl, rfl, by decide +kernel, rfl, by decide +kernel, by decide +kernel⟩
def spBegun (K : PySem.W.Frag) : Sp := fun vs H Q _ => ∃ (a : Addr) (ns : List Int), vs = [.ref a] ∧ SqL K H a (ns.map V.int) ∧ ns.length ≤ 1000 ∧
  ∀ d g c H', Same H H' → H d = none → H g = none → H c = none → d ≠ g → Stt H' d g c 0 → Q (.ref d) H'
section
variable {P : Program} {w : World} {K : PySem.W.Frag} {mg : Str → Option Value} {base : Heap}
abbrev absI (n : Int) : Int := if n < 0 then -n else n
theorem len_filterMap_le {α β : Type} (f : α → Option β) : ∀ l : List α, (l.filterMap f).length ≤ l.length
  | [] => Nat.le_refl _
  | x :: l => by
    have := len_filterMap_le f l
    rw [List.filterMap_cons]
    split <;> simp only [List.length_cons] <;> omega
theorem take_snoc {α : Type} {l : List α} {i : Nat} {x : α} (h : l[i]? = some x) : l.take (i + 1) = l.take i ++ [x] := by
  rw [List.take_add_one, h]; rfl
theorem ok_begun {f : Addr} {fd : FuncData} (F : Fun K "_law_begun" "_law_begun" s_law_begun f fd) (n_abs : mg "abs" = none) : FnOk P w K mg base CX0 1 f fd ["script"] (spBegun K) := by
  refine F.ok sc_law_begun (fun vs H Q E h => ?_) (fun cdv A outer s H vs Q E hr h => ?_)
  · obtain ⟨a, ns, rfl, _⟩ := h; rfl
  · obtain ⟨a, ns, rfl, hS, hl, k⟩ := h
    have nd := sc_law_begun.nd
    have hz : ∀ n, n ≤ 1000 → n < sizeLine := fun n h => by rw [sizeLine_eq]; omega
    refine ⟨_, (pss_cons (ps_setLc (i := 1) (own := [("cell", 2)]) (g := gName 2) rfl nd rfl rfl (sw_true rfl rfl rfl (by decide +kernel)) (pi_seq (pv 0)) (blkOk_by (own := [("cell", 2)]) (N := ["script", "great", "cell"]) (sc := defScope s_law_begun) (by decide +kernel)) (fun _ _ _ _ _ => (pg_name (i := 2) nd rfl (Or.inl rfl))) (fun _ _ _ _ _ => (pts_one (pt_cmpR op_ge (pe_callB call_abs (by rfl) n_abs (by decide +kernel) (pa_cons (pv 2) pa_nil)) (pe_op op_pow pe_int pe_int) (nomark _)))) (fun _ _ _ _ _ => (pe_op op_sub (pe_callB call_abs (by rfl) n_abs (by decide +kernel) (pa_cons (pv 2) pa_nil)) (pe_op op_pow pe_int pe_int))))
      (pss_one (ps_ret (pe_disp (pps_cons pe_str (pv 1) (pps_cons pe_str (pe_lc (own := [("cell", 2)]) (g := gName 2) rfl nd (pi_seq (pv 0)) (blkOk_by (own := [("cell", 2)]) (N := ["script", "great", "cell"]) (sc := defScope s_law_begun) (by decide +kernel)) (fun _ _ _ _ _ => (pg_name (i := 2) nd rfl (Or.inl rfl))) (fun _ _ _ _ _ => pts_nil) (fun _ _ _ _ _ => (pe_callB call_abs (by rfl) n_abs (by decide +kernel) (pa_cons (pv 2) pa_nil)))) (pps_cons pe_str pe_int (pps_cons pe_str pe_int pps_nil)))) (by rfl) (by rfl) (fun z => by cases z) (by decide))))), ?_⟩
    have intAt : ∀ {i : Nat} {x : V}, (ns.map V.int)[i]? = some x → ∃ n, ns[i]? = some n ∧ x = .int n := fun {i x} hx => by
      rw [List.getElem?_map] at hx
      cases e : ns[i]? with
      | none => rw [e] at hx; cases hx
      | some n => rw [e] at hx; exact ⟨n, rfl, (Option.some.inj hx).symm⟩
    let fg : Int → Option Int := fun n => if 10 ^ 18 ≤ absI n then some (absI n - 10 ^ 18) else none
    refine ⟨_, rfl, a, rfl, .inl ⟨⟨_, hS⟩, fun D nD => lc_list (K := K) (a := a) (xs := ns.map V.int) (fun i H' => Same H H' ∧ H' D = some (.lst (((ns.take i).filterMap fg).map V.int)))
      ⟨same_new nD, upd_same⟩ (fun i H' _ h => h.1.seq hS) (fun i x H' hx ⟨h1, h2⟩ => ?_) (fun H' ⟨h1, h2⟩ => ?_)⟩⟩
    · obtain ⟨n, hn, rfl⟩ := intAt hx
      have hlt : i < ns.length := (List.getElem?_eq_some_iff.mp hn).1
      refine ⟨rfl, _, rfl, n, rfl, _, _, rfl, rfl, ⟨by decide, by decide, by decide⟩, _, _, rfl, rfl, _, rfl, ?_⟩
      have e18 : (10 : Int) ^ (18 : Int).toNat = 10 ^ 18 := rfl
      have hln : ((ns.take i).filterMap fg).length ≤ 1000 := Nat.le_trans (len_filterMap_le _ _) (by rw [List.length_take]; omega)
      refine ite2 (fun hc => ?_) (fun hc => ?_)
      · have hc' : (10 : Int) ^ 18 ≤ absI n := of_decide_eq_true hc
        have ef : fg n = some (absI n - 10 ^ 18) := if_pos hc'
        refine ⟨_, rfl, n, rfl, _, _, rfl, rfl, ⟨by decide, by decide, by decide⟩, _, _, rfl, rfl, _, h2, by rw [List.length_map]; exact hz _ hln, fun b o e => ?_, ?_⟩
        · rw [upd_ne (ne_of_none e nD)]; exact h1 b o e
        · rw [upd_same, take_snoc hn, List.filterMap_append, List.map_append, List.filterMap_cons, ef]; rfl
      · have hc' : ¬ (10 : Int) ^ 18 ≤ absI n := fun z => hc (decide_eq_true z)
        have ef : fg n = none := if_neg hc'
        refine ⟨h1, ?_⟩
        rw [take_snoc hn, List.filterMap_append, List.filterMap_cons, ef, List.filterMap_nil, List.append_nil]; exact h2
    · intro p np
      rw [List.length_map, List.take_length] at h2
      have hpD : D ≠ p := fun z => by rw [← z, h2] at np; cases np
      have s1 : Same H (upd H' p (.dK [])) := h1.trans (same_new np)
      refine ⟨_, rfl, _, rfl, a, rfl, .inl ⟨⟨_, s1.seq hS⟩, fun D2 nD2 => lc_list (K := K) (a := a) (xs := ns.map V.int) (fun i H2 => Same (upd H' p (.dK [])) H2 ∧ H2 D2 = some (.lst (((ns.take i).map absI).map V.int)))
        ⟨same_new nD2, upd_same⟩ (fun i H2 _ h => (s1.trans h.1).seq hS) (fun i x H2 hx ⟨g1, g2⟩ => ?_) (fun H2 ⟨g1, g2⟩ => ?_)⟩⟩
      · obtain ⟨n, hn, rfl⟩ := intAt hx
        have hlt : i < ns.length := (List.getElem?_eq_some_iff.mp hn).1
        refine ⟨rfl, _, rfl, n, rfl, _, g2, by rw [List.length_map, List.length_map, List.length_take]; exact hz _ (by omega), fun b o e => ?_, ?_⟩
        · rw [upd_ne (ne_of_none e nD2)]; exact g1 b o e
        · rw [upd_same, take_snoc hn, List.map_append, List.map_append]; rfl
      · rw [List.length_map, List.take_length] at g2
        have hp2 : H2 p = some (.dK []) := g1 _ _ upd_same
        have hD2p : D2 ≠ p := fun z => by rw [z, upd_same] at nD2; cases nD2
        have hDD2 : D ≠ D2 := fun z => by
          have : upd H' p (.dK []) D = some _ := (upd_ne hpD).trans h2
          rw [z, nD2] at this; cases this
        have h2D : H2 D = some (.lst ((ns.filterMap fg).map V.int)) := g1 _ _ ((upd_ne hpD).trans h2)
        refine ⟨hp2, stk D D2 0 0, rfl, (by show 4 ≤ 15; decide), k p D D2 _ (fun b o e => ?_) ?_ nD ?_ hpD.symm ⟨hDD2.symm, _, _, 0, 0, ?_, (upd_ne hpD).trans h2D, (upd_ne hD2p).trans g2, Int.le_refl _, by decide⟩⟩
        · have hbp : b ≠ p := ne_of_none (h1 _ _ e) np
          rw [upd_ne hbp]; exact g1 _ _ ((upd_ne hbp).trans (h1 _ _ e))
        · exact h1.free np
        · exact s1.free nD2
        · rw [upd_same]; rfl
/-! ### _law_blended -/
theorem sc_law_blended : FnScope ["state", "prime", "turn", "found", "blend", "cell"] ["state"] (defScope s_law_blended) := ⟨rfl, rfl, rfl, by decide +kernel, rfl, by decide +kernel, by decide +kernel⟩
def spBlended : Sp := fun vs H Q _ => ∃ (d g c : Addr) (T : Nat), vs = [.ref d] ∧ Stt H d g c T ∧ T < topT ∧ ∀ r H', Ch d g H H' → Stt H' d g c (T + 1) → (∀ xs, H g = some (.lst xs) → H' g = some (.lst xs)) → Q (.int r) H'
theorem three_line : 3 ≤ sizeLine := by rw [sizeLine_eq]; decide
theorem fdiv67 {p : Int} (h1 : 0 ≤ p) (h2 : p < 2 ^ 31) : 0 ≤ p / 67 ∧ p / 67 < 2 ^ 31 := by omega
theorem ok_blended {f : Addr} {fd : FuncData} (F : Fun K "_law_blended" "_law_blended" s_law_blended f fd) (n_int : mg "int" = none) : FnOk P w K mg base CX0 1 f fd ["state"] spBlended := by
  refine F.ok sc_law_blended (fun vs H Q E h => ?_) (fun cdv A outer s H vs Q E hr h => ?_)
  · obtain ⟨d, g, c, T, rfl, _⟩ := h; rfl
  · obtain ⟨d, g, c, T, rfl, S, hT, k⟩ := h
    have nd := sc_law_blended.nd
    obtain ⟨gs, cs, l, t, hd, hg, hc, ht0, htT⟩ := S.ex
    have eT : (topT : Int) = 1099511627776 := by decide
    have hT' : t < 1099511627776 := by have : ((T : Nat) : Int) < (topT : Nat) := by exact_mod_cast hT
                                       omega
    refine ⟨_, (pss_cons (ps_par (i := 2) (j := 3) rfl nd rfl rfl (by decide) rfl rfl (pa_cons (pe_op uAdd (pe_dget (hu_of hr) (pv 0) pe_str (fun _ _ => rfl)) pe_int) (pa_cons pe_int pa_nil)) rfl)
      (pss_cons (ps_dput (hu_of hr) (pv 0) pe_str (pv 2) rfl)
      (pss_cons (ps_for PassesOwn.never rfl (pi_seq (pe_lstN (pa_cons pe_int (pa_cons pe_int (pa_cons pe_int pa_nil))))) (pg_name (i := 1) nd rfl (Or.inl rfl))
        (pss_cons (ps_set (i := 4) nd rfl (Or.inl rfl) (pe_op uAdd (pe_op uMul pe_int (pv 2)) (pe_op op_fdiv (pv 1) pe_int)))
        (pss_cons (ps_for PassesOwn.never rfl (pi_seq (pe_dget (hu_of hr) (pv 0) pe_str (fun _ _ => rfl))) (pg_name (i := 5) nd rfl (Or.inl rfl))
          (pss_one (ps_set (i := 4) nd rfl (Or.inl rfl) (pe_op op_mod (pe_callTy call_int1 (by rfl) n_int (by decide +kernel) (pa_cons (pe_op uAdd (pe_op uAdd (pe_op uMul (pv 4) pe_int) (pv 5)) (pv 2)) pa_nil)) (pv 1)))))
        (pss_one (ps_set (i := 3) nd rfl (Or.inl rfl) (pe_op uAdd (pe_op uMul (pv 3) pe_int) (pe_op op_mod (pe_callTy call_int1 (by rfl) n_int (by decide +kernel) (pa_cons (pe_op op_pow (pv 4) pe_int) pa_nil)) (pv 1))))))))
      (pss_one (ps_ret (pv 3)))))), ?_⟩
    refine ⟨_, rfl, d, _, rfl, dget_turn hd, add_i ⟨_, _, rfl, ?_⟩⟩
    refine ⟨_, rfl, _, rfl, d, _, rfl, dput_turn hd _, ?_⟩
    have gd : g ≠ d := ne_of hg hd (by intro z; cases z)
    have cd : c ≠ d := ne_of hc hd (by intro z; cases z)
    refine lst_new (by show 3 ≤ 1000; decide) fun p np => ?_
    have dp : d ≠ p := fun z => by rw [z, upd_same] at np; cases np
    have np0 : H p = none := by rw [upd_ne dp.symm] at np; exact np
    generalize hG : upd (upd H d (.dK (stk g c l (t + 1)))) p (.lst [.int 2147482081, .int 2147482063, .int 2147482021]) = G
    have Gp : G p = some (.lst [.int 2147482081, .int 2147482063, .int 2147482021]) := by rw [← hG]; exact upd_same
    have Gd : G d = some (.dK (stk g c l (t + 1))) := by rw [← hG, upd_ne dp]; exact upd_same
    have Go : ∀ b o, b ≠ d → H b = some o → G b = some o := fun b o hb e => by rw [← hG, upd_ne (ne_of_none e np0), upd_ne hb]; exact e
    have Gg := Go g _ gd hg
    have Gc := Go c _ cd hc
    refine ⟨p, rfl, .inl ⟨⟨_, SqL.of Gp⟩, for_list (K := K) (a := p) (xs := [.int 2147482081, .int 2147482063, .int 2147482021])
      (fun i σ H3 => G = H3 ∧ ∃ (v1 v4 v5 : Option V) (fnd : Int), σ = [some (.ref d), v1, some (.int (t + 1)), some (.int fnd), v4, v5])
      ⟨rfl, none, none, none, 0, rfl⟩ (fun i σ H3 _ ⟨h, _⟩ => by rw [← h]; exact SqL.of Gp) ?_ ?_⟩⟩
    · rintro i y σ H3 hy ⟨rfl, v1, v4, v5, fnd, rfl⟩
      obtain ⟨pr, rfl, p0, p1⟩ : ∃ pr : Int, y = .int pr ∧ 0 < pr ∧ pr < 2147483647 := by
        match i, hy with
        | 0, e => exact ⟨_, (Option.some.inj e).symm, by decide, by decide⟩
        | 1, e => exact ⟨_, (Option.some.inj e).symm, by decide, by decide⟩
        | 2, e => exact ⟨_, (Option.some.inj e).symm, by decide, by decide⟩
        | i + 3, e => simp at e
      have hq := fdiv67 (p := pr) (by omega) (by omega)
      refine ⟨_, rfl, mul_i (.inl ⟨by decide, by decide⟩) ⟨_, rfl, _, _, rfl, rfl, ⟨by decide, by decide⟩, add_i ?_⟩⟩
      refine ⟨_, rfl, d, _, rfl, dget_cells Gd, c, rfl, .inl ⟨⟨_, SqL.of Gc⟩, for_list (K := K) (a := c) (xs := cs.map V.int)
        (fun i σ H3 => G = H3 ∧ ∃ (v5 : Option V) (b : Int), σ = [some (.ref d), some (.int pr), some (.int (t + 1)), some (.int fnd), some (.int b), v5] ∧ 0 ≤ b ∧ b < 2 ^ 60)
        ⟨rfl, v5, _, rfl, by omega, by omega⟩ (fun i σ H3 _ ⟨h, _⟩ => by rw [← h]; exact SqL.of Gc) ?_ ?_⟩⟩
      · rintro j y σ H3 hy2 ⟨rfl, v5, b, rfl, b0, b1⟩
        obtain ⟨z, rfl⟩ : ∃ z, y = V.int z := by
          rw [List.getElem?_map] at hy2
          cases e : cs[j]? with
          | none => rw [e] at hy2; cases hy2
          | some z => rw [e] at hy2; exact ⟨z, (Option.some.inj hy2).symm⟩
        refine ⟨_, rfl, mul_i (.inr ⟨by decide, by decide⟩) ⟨_, rfl, add_i ⟨_, rfl, add_i (.inl ⟨_, rfl, _, rfl, _, _, rfl, rfl, p0, ?_⟩)⟩⟩⟩
        have m0 := Int.emod_nonneg (b * 69621 + z + (t + 1)) (by omega : pr ≠ 0)
        have m1 := Int.emod_lt_of_pos (b * 69621 + z + (t + 1)) p0
        exact ⟨rfl, _, _, rfl, m0, by omega⟩
      · rintro σ H3 ⟨rfl, v5, b, rfl, b0, b1⟩
        refine ⟨_, rfl, mul_i (.inr ⟨by decide, by decide⟩) ⟨_, rfl, _, _, rfl, rfl, ⟨by decide, by decide, by omega⟩, .inl ⟨_, rfl, _, rfl, _, _, rfl, rfl, p0, add_i ?_⟩⟩⟩
        exact ⟨rfl, _, _, _, _, rfl⟩
    · rintro σ H3 ⟨rfl, v1, v4, v5, fnd, rfl⟩
      refine ⟨_, rfl, k fnd _ (fun b o hb _ e => Go b o hb e) ⟨S.ne, gs, cs, l, t + 1, Gd, Gg, Gc, by omega, by omega⟩ fun xs e => Go g _ gd e⟩
/-! ### _law_draw -/
theorem sc_law_draw : FnScope ["state", "size_here", "found"] ["state", "size_here"] (defScope s_law_draw) := ⟨rfl, rfl, rfl, by decide +kernel, rfl, by decide +kernel, by decide +kernel⟩
def spDraw : Sp := fun vs H Q _ => ∃ (d g c : Addr) (T : Nat) (n : Int), vs = [.ref d, .int n] ∧ Stt H d g c T ∧ T < topT ∧ 0 < n ∧ n < 1073741824 ∧ ∀ r H', Ch d g H H' → Stt H' d g c (T + 1) → 0 ≤ r → r < n → Q (.int r) H'
theorem ok_draw {f : Addr} {fd : FuncData} (F : Fun K "_law_draw" "_law_draw" s_law_draw f fd) (n_int : mg "int" = none) (D_law_blended : Df P w K mg base "_law_blended" 1 ["state"] spBlended) : FnOk P w K mg base CX0 2 f fd ["state", "size_here"] spDraw := by
  refine F.ok sc_law_draw (fun vs H Q E h => ?_) (fun cdv A outer s H vs Q E hr h => ?_)
  · obtain ⟨d, g, c, T, n, rfl, _⟩ := h; rfl
  · obtain ⟨d, g, c, T, n, rfl, S, hT, n0, n1, k⟩ := h
    have nd := sc_law_draw.nd
    obtain ⟨gs, cs, l, t, hd, hg, hc, ht0, htT⟩ := S.ex
    have gd : g ≠ d := ne_of hg hd (by intro z; cases z)
    have cd : c ≠ d := ne_of hc hd (by intro z; cases z)
    refine ⟨_, (pss_cons (ps_if (pt_cmpR (uEq hr.units) (pe_dget (hu_of hr) (pv 0) pe_str (fun _ _ => rfl)) pe_int (nomark _))
        (pss_one (ps_dput (hu_of hr) (pv 0) pe_str (pe_ifExp (pt_cmpR (uNe hr.units) (pe_dget (hu_of hr) (pv 0) pe_str (fun _ _ => rfl)) (pe_lstN pa_nil) (nomark _)) (pe_bm PySem.F.plainAttrs_list PySem.F.slot_list_pop PySem.F.type_list_pop mt_popAt (pe_dget (hu_of hr) (pv 0) pe_str (fun _ _ => rfl)) (pa_cons pe_int pa_nil)) (pe_df D_law_blended hr (by omega) (pa_cons (pv 0) pa_nil))) rfl))
        pss_nil)
      (pss_cons (ps_set (i := 2) nd rfl (Or.inl rfl) (pe_op op_mod (pe_callTy call_int1 (by rfl) n_int (by decide +kernel) (pa_cons (pe_dget (hu_of hr) (pv 0) pe_str (fun _ _ => rfl)) pa_nil)) (pv 1)))
      (pss_cons (ps_dput (hu_of hr) (pv 0) pe_str (pe_op op_fdiv (pe_dget (hu_of hr) (pv 0) pe_str (fun _ _ => rfl)) (pv 1)) rfl)
      (pss_one (ps_ret (pv 2)))))), ?_⟩
    -- the last three rows, from any state
    have fin : ∀ H1, Ch d g H H1 → Stt H1 d g c (T + 1) → tSeq (tAsg (tOp (rI (fun _ j => 0 < j) fun i j => .int (i % j)) (tCB (fun xs H Q => (∃ i, xs = [.int i] ∧ Q (.int i) H) ∨ ∃ k, xs = [.bl k] ∧ Q (.int (if k then 1 else 0)) H) (tCons (tDGet (tVar 0) (tC (.str "left"))) tNil)) (tVar 1)) (gName 2))
        (tSeq (sDPut (tVar 0) (tC (.str "left")) (tOp (rI CDiv fun i j => .int (i / j)) (tDGet (tVar 0) (tC (.str "left"))) (tVar 1))) (tRet (tVar 2))) { nx := fun _ H' => Q .non H', rt := Q } (L2.start ["state", "size_here", "found"] [V.ref d, V.int n]) H1 := fun H1 C1 S1 => by
      obtain ⟨gs, cs, l, t, hd, hg, hc, ht0, htT⟩ := S1.ex
      have gd : g ≠ d := ne_of hg hd (by intro z; cases z)
      have cd : c ≠ d := ne_of hc hd (by intro z; cases z)
      refine ⟨_, rfl, d, _, rfl, dget_left hd, .inl ⟨_, rfl, _, rfl, _, _, rfl, rfl, n0, ?_⟩⟩
      refine ⟨_, rfl, d, _, rfl, dget_left hd, _, rfl, _, _, rfl, rfl, ⟨n0, n1⟩, _, rfl, d, _, rfl, dput_left hd _, _, rfl, ?_⟩
      refine k _ _ (C1.trans fun b o hb _ e => ?_) ⟨S1.ne, gs, cs, _, t, upd_same, ?_, ?_, ht0, htT⟩ (Int.emod_nonneg _ (by omega)) (Int.emod_lt_of_pos _ n0)
      · rw [upd_ne hb]; exact e
      · rw [upd_ne gd]; exact hg
      · rw [upd_ne cd]; exact hc
    refine ⟨_, rfl, d, _, rfl, dget_left hd, eq_f rfl rfl ⟨_, rfl, ?_⟩⟩
    refine ite2 (fun _ => ?_) (fun _ => fin H (Ch.refl H) (S.mono (Nat.le_succ _)))
    refine ⟨_, rfl, d, _, rfl, dget_great hd, lst_new (Nat.zero_le _) fun p np => ?_⟩
    have S1 := S.new (o := .lst []) np
    have C1 : Ch d g H (upd H p (.lst [])) := Ch.new np
    have hg1 : upd H p (.lst []) g = some (.lst (gs.map V.int)) := by rw [upd_ne (ne_of_none hg np)]; exact hg
    have hd1 : upd H p (.lst []) d = some (.dK (stk g c l t)) := by rw [upd_ne (ne_of_none hd np)]; exact hd
    have hc1 : upd H p (.lst []) c = some (.lst (cs.map V.int)) := by rw [upd_ne (ne_of_none hc np)]; exact hc
    refine eq_n (SqL.of hg1) (SqL.of upd_same) rfl ⟨_, rfl, ?_⟩
    have put : ∀ (v : Int) (H1 : Hp), Ch d g H H1 → Stt H1 d g c (T + 1) → ∃ (x : V), (L2.start ["state", "size_here", "found"] [V.ref d, V.int n])[0]? = some (some x) ∧ ∃ a H4, x = .ref a ∧ DPut H1 a (.str "left") (.int v) H4 ∧ Ch d g H H4 ∧ Stt H4 d g c (T + 1) := fun v H1 C2 S2 => by
      obtain ⟨gs, cs, l, t, hd, hg, hc, ht0, htT⟩ := S2.ex
      refine ⟨_, rfl, d, _, rfl, dput_left hd v, C2.trans fun b o hb _ e => ?_, ⟨S2.ne, gs, cs, _, t, upd_same, ?_, ?_, ht0, htT⟩⟩
      · rw [upd_ne hb]; exact e
      · rw [upd_ne (ne_of hg hd (by intro z; cases z))]; exact hg
      · rw [upd_ne (ne_of hc hd (by intro z; cases z))]; exact hc
    cases gs with
    | nil =>
      refine iteF ?_
      refine ⟨_, rfl, d, g, c, T, rfl, S1, hT, fun r H2 C2 S2 _ => ?_⟩
      obtain ⟨x, e, a, H4, e2, hp, C4, S4⟩ := put r H2 (C1.trans C2) S2
      exact ⟨x, e, a, H4, e2, hp, fin H4 C4 S4⟩
    | cons z gs =>
      refine iteT ?_
      refine ⟨_, rfl, d, _, rfl, dget_great hd1, .inl ⟨rfl, _, .inl (.inl hg1)⟩, g, _, 0, 0, .int z, rfl, rfl, hg1, by decide, by decide, ?_, rfl, ?_⟩
      · simp [seqIndex?]
      have C2 : Ch d g H (upd (upd H p (.lst [])) g (.lst ((V.int z :: gs.map V.int).eraseIdx 0))) := C1.trans fun b o _ hb e => by rw [upd_ne hb]; exact e
      have S2 : Stt (upd (upd H p (.lst [])) g (.lst ((V.int z :: gs.map V.int).eraseIdx 0))) d g c (T + 1) := ⟨S.ne, gs, cs, l, t, by rw [upd_ne gd.symm]; exact hd1, upd_same, by rw [upd_ne S.ne]; exact hc1, ht0, by omega⟩
      obtain ⟨x, e, a, H4, e2, hp, C4, S4⟩ := put z _ C2 S2
      exact ⟨x, e, a, H4, e2, hp, fin H4 C4 S4⟩
end
end RS

/-! Terms: drawn core terms as trees; _law_pick, _law_rt_term. -/
namespace RS
open PySem PySem.Spec PyProof.Rows L2

inductive Tm where
  | num (w : Str) (n : Int)
  | name (x : Str)
  | count (x : Str) (n : Int)
  | bin (w m : Str) (a b : Tm)
  | letT (a b c : Tm)
  | app (f : Tm) (m : Str) (x : Tm)
def Tm.pd : Tm → PyData
  | .num w n => .tuple [.str w, .int n]
  | .name x => .tuple [.str "name", .str x]
  | .count x n => .tuple [.str "count", .str x, .int n]
  | .bin w m a b => .tuple [.str w, .str m, a.pd, b.pd]
  | .letT a b c => .tuple [.str "let", a.pd, b.pd, c.pd]
  | .app f m x => .tuple [.str "app", f.pd, .str m, x.pd]
def marksL : List Str := ["plain", "hidden", "ghost", "shadow"]
def namesL : List Str := ["f", "Num", "x_1", "aBcDeFgHiJkLmNoP"]
def Tm.wf : Tm → Prop
  | .num w n => (w = "sort" ∧ 0 ≤ n ∧ n < 4) ∨ ((w = "local" ∨ w = "bound" ∨ w = "hole") ∧ 0 ≤ n ∧ n < 1000000)
  | .name x => x ∈ namesL
  | .count x n => x = "Num" ∧ 0 ≤ n ∧ n < 10 ^ 18
  | .bin w m a b => (w = "pi" ∨ w = "fun") ∧ m ∈ marksL ∧ a.wf ∧ b.wf
  | .letT a b c => a.wf ∧ b.wf ∧ c.wf
  | .app f m x => f.wf ∧ m ∈ marksL ∧ x.wf
def Tm.depth : Tm → Nat
  | .num _ _ => 1
  | .name _ => 1
  | .count _ _ => 1
  | .bin _ _ a b => 1 + max a.depth b.depth
  | .letT a b c => 1 + max a.depth (max b.depth c.depth)
  | .app f _ x => 1 + max f.depth x.depth
def Tm.nodes : Tm → Nat
  | .num _ _ => 1
  | .name _ => 1
  | .count _ _ => 1
  | .bin _ _ a b => 1 + (a.nodes + b.nodes)
  | .letT a b c => 1 + (a.nodes + (b.nodes + c.nodes))
  | .app f _ x => 1 + (f.nodes + x.nodes)

/-! ### displays -/
theorem Ch.ofSame {d g : Addr} {H H1 H2 : Hp} (c : Ch d g H H1) (e : Same H1 H2) : Ch d g H H2 := c.trans (Ch.same e)

/-! ### _law_pick -/
theorem sc_law_pick : FnScope ["state", "several"] ["state", "several"] (defScope s_law_pick) := ⟨rfl, rfl, rfl, by decide +kernel, rfl, by decide +kernel, by decide +kernel⟩
def spPick : Sp := fun vs H Q _ => ∃ (d g c : Addr) (T : Nat) (l : Addr) (xs : List V), vs = [.ref d, .ref l] ∧ Stt H d g c T ∧ H l = some (.lst xs) ∧ l ≠ g ∧ 0 < xs.length ∧ xs.length ≤ 1000 ∧ T < topT ∧ ∀ (i : Nat) (x : V) (H' : Hp), xs[i]? = some x → Ch d g H H' → Stt H' d g c (T + 1) → Q x H'
section
variable {P : Program} {w : World} {K : PySem.W.Frag} {mg : Str → Option Value} {base : Heap}
theorem ok_pick {f : Addr} {fd : FuncData} (F : Fun K "_law_pick" "_law_pick" s_law_pick f fd) (n_len : mg "len" = none) (D_law_draw : Df P w K mg base "_law_draw" 2 ["state", "size_here"] spDraw) : FnOk P w K mg base CX0 3 f fd ["state", "several"] spPick := by
  refine F.ok sc_law_pick (fun vs H Q E h => ?_) (fun cdv A outer s H vs Q E hr h => ?_)
  · obtain ⟨d, g, c, T, l, xs, rfl, _⟩ := h; rfl
  · obtain ⟨d, g, c, T, l, xs, rfl, S, hl, lg, l0, l1, hT, k⟩ := h
    obtain ⟨kv, hd⟩ := S.d
    have ld : l ≠ d := ne_of hl hd (by intro z; cases z)
    refine ⟨_, (pss_one (ps_ret (pe_ix ix_seq (pv 1) (pe_df D_law_draw hr (by omega) (pa_cons (pv 0) (pa_cons (pe_callB uLen (by rfl) n_len (by decide +kernel) (pa_cons (pv 1) pa_nil)) pa_nil))) (fun _ _ => rfl)))), ?_⟩
    refine ⟨_, rfl, _, rfl, _, rfl, _, xs.length, rfl, .inl ⟨xs, SqL.of hl, rfl⟩, d, g, c, T, (xs.length : Int), rfl, S, hT, by omega, by omega, fun r H' C S' r0 r1 => ?_⟩
    obtain ⟨j, rfl⟩ : ∃ j : Nat, r = j := ⟨r.toNat, by omega⟩
    have hj : j < xs.length := by omega
    exact .inl ⟨l, xs, j, xs[j], rfl, rfl, SqL.of (C l _ ld lg hl), atI_nat (by simp [hj]), k j _ H' (by simp [hj]) C S'⟩
/-- one of some written texts -/
theorem pick_str {xs : List Str} {i : Nat} {x : V} (h : (xs.map V.str)[i]? = some x) : ∃ m ∈ xs, x = .str m := by
  rw [List.getElem?_map] at h
  cases e : xs[i]? with
  | none => rw [e] at h; cases h
  | some m => rw [e] at h; exact ⟨m, List.mem_of_getElem? e, (Option.some.inj h).symm⟩

/-! ### _law_rt_term -/
theorem sc_law_rt_term : FnScope ["state", "deep", "ahead", "some", "way", "mark", "word"] ["state", "deep", "ahead"] (defScope s_law_rt_term) := ⟨rfl, rfl, rfl, by decide +kernel, rfl, by decide +kernel, by decide +kernel⟩
def cost : Nat → Nat
  | 0 => 0
  | n + 1 => 10 + 3 * cost n
def spTerm (K : PySem.W.Frag) (N : Nat) : Sp := fun vs H Q _ => ∃ (d g c : Addr) (T : Nat) (deep ahead : Int), vs = [.ref d, .int deep, .int ahead] ∧ Stt H d g c T ∧ T + cost N ≤ topT ∧ 1 ≤ deep ∧ deep ≤ N ∧ 0 ≤ ahead ∧ ahead + N ≤ 1000 ∧
  ∀ (t : Tm) v H', Ch d g H H' → Stt H' d g c (T + cost N) → Dt K H' v t.pd → t.wf → (t.depth : Int) ≤ deep → Q v H'
theorem term_none {f : Addr} {fd : FuncData} : FnOk P w K mg base CX0 3 f fd ["state", "deep", "ahead"] (spTerm K 0) := by
  refine ⟨fun vs H Q E h => ?_, fun A outer s H args us vs Q E _ _ _ _ h => ?_⟩
  · obtain ⟨d, g, c, T, deep, ahead, _, _, _, h1, h2, _⟩ := h
    exact absurd (show deep ≤ 0 from h2) (by omega)
  · obtain ⟨d, g, c, T, deep, ahead, _, _, _, h1, h2, _⟩ := h
    exact absurd (show deep ≤ 0 from h2) (by omega)
theorem ok_term {f : Addr} {fd : FuncData} (F : Fun K "_law_rt_term" "_law_rt_term" s_law_rt_term f fd) (hm : mg "_law_rt_term" = some (.ref f)) (b : Binds K fd ["state", "deep", "ahead"] [])
    (D_law_draw : Df P w K mg base "_law_draw" 2 ["state", "size_here"] spDraw) (D_law_pick : Df P w K mg base "_law_pick" 3 ["state", "several"] spPick) :
    ∀ N, FnOk P w K mg base CX0 (N + 3) f fd ["state", "deep", "ahead"] (spTerm K N)
  | 0 => term_none
  | N + 1 => by
    have D_law_rt_term : Df P w K mg base "_law_rt_term" (N + 3) ["state", "deep", "ahead"] (spTerm K N) := ⟨f, fd, ok_term F hm b D_law_draw D_law_pick N, hm, F.kp, b⟩
    refine F.ok sc_law_rt_term (fun vs H Q E h => ?_) (fun cdv A outer s H vs Q E hr h => ?_)
    · obtain ⟨d, g, c, T, deep, ahead, rfl, _⟩ := h; rfl
    · obtain ⟨d, g, c, T, deep, ahead, rfl, S, hT, d1, dN, a0, aN, k⟩ := h
      have nd := sc_law_rt_term.nd
      have ec : cost (N + 1) = 10 + 3 * cost N := rfl
      rw [ec] at hT k
      refine ⟨_, (pss_cons (ps_par (i := 4) (j := 5) rfl nd rfl rfl (by decide) rfl rfl (pa_cons (pe_df D_law_draw hr (by omega) (pa_cons (pv 0) (pa_cons pe_int pa_nil))) (pa_cons (pe_df D_law_pick hr (by omega) (pa_cons (pv 0) (pa_cons (pe_lstN (pa_cons pe_str (pa_cons pe_str (pa_cons pe_str (pa_cons pe_str pa_nil))))) pa_nil))) pa_nil)) rfl)
      (pss_cons (ps_if (pt_w (PW.pt (pw_and (pt_cmpR op_gt (pv 1) pe_int (nomark _)) (pw_and1 (pt_cmpR op_gt (pv 4) pe_int (nomark _))))))
        (pss_cons (ps_if (pt_cmpR op_lt (pv 4) pe_int (nomark _))
          (pss_cons (ps_set (i := 6) nd rfl (Or.inl rfl) (pe_ifExp (pt_cmpR (uEq hr.units) (pv 4) pe_int (nomark _)) pe_str pe_str))
          (pss_one (ps_ret (pe_tupN (pa_cons (pv 6) (pa_cons (pv 5) (pa_cons (pe_df D_law_rt_term hr (by omega) (pa_cons (pv 0) (pa_cons (pe_op op_sub (pv 1) pe_int) (pa_cons (pv 2) pa_nil)))) (pa_cons (pe_df D_law_rt_term hr (by omega) (pa_cons (pv 0) (pa_cons (pe_op op_sub (pv 1) pe_int) (pa_cons (pe_op uAdd (pv 2) pe_int) pa_nil)))) pa_nil))))))))
          pss_nil)
        (pss_cons (ps_if (pt_cmpR (uEq hr.units) (pv 4) pe_int (nomark _))
          (pss_one (ps_ret (pe_tupN (pa_cons pe_str (pa_cons (pe_df D_law_rt_term hr (by omega) (pa_cons (pv 0) (pa_cons (pe_op op_sub (pv 1) pe_int) (pa_cons (pv 2) pa_nil)))) (pa_cons (pe_df D_law_rt_term hr (by omega) (pa_cons (pv 0) (pa_cons (pe_op op_sub (pv 1) pe_int) (pa_cons (pv 2) pa_nil)))) (pa_cons (pe_df D_law_rt_term hr (by omega) (pa_cons (pv 0) (pa_cons (pe_op op_sub (pv 1) pe_int) (pa_cons (pe_op uAdd (pv 2) pe_int) pa_nil)))) pa_nil)))))))
          pss_nil)
        (pss_one (ps_ret (pe_tupN (pa_cons pe_str (pa_cons (pe_df D_law_rt_term hr (by omega) (pa_cons (pv 0) (pa_cons (pe_op op_sub (pv 1) pe_int) (pa_cons (pv 2) pa_nil)))) (pa_cons (pv 5) (pa_cons (pe_df D_law_rt_term hr (by omega) (pa_cons (pv 0) (pa_cons (pe_op op_sub (pv 1) pe_int) (pa_cons (pv 2) pa_nil)))) pa_nil)))))))))
        pss_nil)
      (pss_cons (ps_set (i := 3) nd rfl (Or.inl rfl) (pe_lstN (pa_cons (pe_tupN (pa_cons pe_str (pa_cons (pe_df D_law_draw hr (by omega) (pa_cons (pv 0) (pa_cons pe_int pa_nil))) pa_nil))) (pa_cons (pe_tupN (pa_cons pe_str (pa_cons (pe_df D_law_draw hr (by omega) (pa_cons (pv 0) (pa_cons pe_int pa_nil))) pa_nil))) (pa_cons (pe_tupN (pa_cons pe_str (pa_cons (pe_df D_law_pick hr (by omega) (pa_cons (pv 0) (pa_cons (pe_lstN (pa_cons pe_str (pa_cons pe_str (pa_cons pe_str (pa_cons pe_str pa_nil))))) pa_nil))) pa_nil))) pa_nil)))))
      (pss_cons (ps_set (i := 3) nd rfl (Or.inl rfl) (pe_op uAdd (pv 3) (pe_lstN (pa_cons (pe_tupN (pa_cons pe_str (pa_cons pe_str (pa_cons (pe_df D_law_pick hr (by omega) (pa_cons (pv 0) (pa_cons (pe_lstN (pa_cons pe_int (pa_cons pe_int (pa_cons (pe_op uAdd (pe_op op_pow pe_int pe_int) pe_int) (pa_cons (pe_op op_sub (pe_op op_pow pe_int pe_int) pe_int) pa_nil))))) pa_nil))) pa_nil)))) (pa_cons (pe_tupN (pa_cons pe_str (pa_cons (pe_df D_law_draw hr (by omega) (pa_cons (pv 0) (pa_cons (pe_op uAdd (pv 2) pe_int) pa_nil))) pa_nil))) pa_nil)))))
      (pss_one (ps_ret (pe_ifExp (pt_cmpR op_lt (pv 4) pe_int (nomark _)) (pe_ix ix_seq (pv 3) (pv 4) (fun _ _ => rfl)) (pe_ifExp (pt_cmpR op_gt (pv 2) pe_int (nomark _)) (pe_tupN (pa_cons pe_str (pa_cons (pe_df D_law_draw hr (by omega) (pa_cons (pv 0) (pa_cons (pv 2) pa_nil))) pa_nil))) (pe_tupN (pa_cons pe_str (pa_cons (pe_df D_law_draw hr (by omega) (pa_cons (pv 0) (pa_cons pe_int pa_nil))) pa_nil))))))))))), ?_⟩
      have topE : topT = 1099511627776 := by decide
      refine ⟨_, rfl, d, g, c, T, 11, rfl, S, by omega, by decide, by decide, fun way H1 C1 S1 w0 w1 => ?_⟩
      obtain ⟨gx, hg1⟩ := S1.g
      refine ⟨_, rfl, lst_new (by show 4 ≤ 1000; decide) fun p np => ⟨d, g, c, T + 1, p, marksL.map V.str, rfl, S1.new np, upd_same, (ne_of_none hg1 np).symm, by decide, by decide, by omega, fun i m H2 hm C2 S2 => ⟨_, _, rfl, ?_⟩⟩⟩
      obtain ⟨m, hmk, rfl⟩ := pick_str hm
      have C2' : Ch d g H H2 := C1.trans ((Ch.new np).trans C2)
      clear C1 C2 np hg1 S1
      refine w_val (decide (1 < deep) && decide (5 < way)) (.and (fun Q' h => ⟨_, rfl, _, _, rfl, rfl, _, rfl, h⟩) fun _ Q' h => ⟨_, rfl, _, _, rfl, rfl, _, rfl, h⟩) ?_
      refine ite2 (fun hc => ?_) (fun hc => ?_)
      · rw [Bool.and_eq_true, decide_eq_true_eq, decide_eq_true_eq] at hc
        obtain ⟨c1, c2⟩ := hc
        refine ⟨_, rfl, _, _, rfl, rfl, _, rfl, ite2 (fun hw => ?_) (fun hw => ?_)⟩
        · -- pi, fun
          refine ⟨_, rfl, eq_f rfl rfl ⟨_, rfl, ?_⟩⟩
          refine ite2 (fun _ => ?_) (fun _ => ?_)
          all_goals
            refine ⟨_, rfl, _, rfl, _, rfl, _, rfl, _, _, rfl, rfl, _, rfl, d, g, c, T + 2, deep - 1, ahead, rfl, S2, by omega, by omega, by omega, a0, by omega, fun t1 v1 H3 C3 S3 D3 wf1 dp1 => ?_⟩
            refine ⟨_, rfl, _, rfl, _, _, rfl, rfl, _, rfl, add_i ⟨d, g, c, T + 2 + cost N, deep - 1, ahead + 1, rfl, S3, by omega, by omega, by omega, by omega, by omega, fun t2 v2 H4 C4 S4 D4 wf2 dp2 => ?_⟩⟩
            refine tup_new (K := K) (ds := [.str _, .str m, t1.pd, t2.pd]) (.cons (.str _) (.cons (.str m) (.cons (Dt.keep (C4.tk S3) _ D3) (.cons D4 .nil)))) (by show 4 ≤ 1000; decide) fun v H5 e hv => ?_
            exact k (.bin _ m t1 t2) v H5 ((C2'.trans (C3.trans C4)).ofSame e) ((S4.keep e).mono (by omega)) hv ⟨by first | exact .inl rfl | exact .inr rfl, hmk, wf1, wf2⟩ (by show ((1 + max t1.depth t2.depth : Nat) : Int) ≤ deep; omega)
        · refine ⟨_, rfl, eq_f rfl rfl ⟨_, rfl, ite2 (fun hw8 => ?_) (fun hw8 => ?_)⟩⟩
          · -- let
            refine ⟨_, rfl, _, rfl, _, _, rfl, rfl, _, rfl, d, g, c, T + 2, deep - 1, ahead, rfl, S2, by omega, by omega, by omega, a0, by omega, fun t1 v1 H3 C3 S3 D3 wf1 dp1 => ?_⟩
            refine ⟨_, rfl, _, rfl, _, _, rfl, rfl, _, rfl, d, g, c, T + 2 + cost N, deep - 1, ahead, rfl, S3, by omega, by omega, by omega, by omega, by omega, fun t2 v2 H4 C4 S4 D4 wf2 dp2 => ?_⟩
            refine ⟨_, rfl, _, rfl, _, _, rfl, rfl, _, rfl, add_i ⟨d, g, c, T + 2 + cost N + cost N, deep - 1, ahead + 1, rfl, S4, by omega, by omega, by omega, by omega, by omega, fun t3 v3 H5 C5 S5 D5 wf3 dp3 => ?_⟩⟩
            refine tup_new (K := K) (ds := [.str "let", t1.pd, t2.pd, t3.pd]) (.cons (.str _) (.cons (Dt.keep ((C4.trans C5).tk S3) _ D3) (.cons (Dt.keep (C5.tk S4) _ D4) (.cons D5 .nil)))) (by show 4 ≤ 1000; decide) fun v H6 e hv => ?_
            exact k (.letT t1 t2 t3) v H6 ((C2'.trans (C3.trans (C4.trans C5))).ofSame e) ((S5.keep e).mono (by omega)) hv ⟨wf1, wf2, wf3⟩ (by show ((1 + max t1.depth (max t2.depth t3.depth) : Nat) : Int) ≤ deep; omega)
          · -- app
            refine ⟨_, rfl, _, rfl, _, _, rfl, rfl, _, rfl, d, g, c, T + 2, deep - 1, ahead, rfl, S2, by omega, by omega, by omega, a0, by omega, fun t1 v1 H3 C3 S3 D3 wf1 dp1 => ?_⟩
            refine ⟨_, rfl, _, rfl, _, rfl, _, _, rfl, rfl, _, rfl, d, g, c, T + 2 + cost N, deep - 1, ahead, rfl, S3, by omega, by omega, by omega, by omega, by omega, fun t2 v2 H4 C4 S4 D4 wf2 dp2 => ?_⟩
            refine tup_new (K := K) (ds := [.str "app", t1.pd, .str m, t2.pd]) (.cons (.str _) (.cons (Dt.keep (C4.tk S3) _ D3) (.cons (.str m) (.cons D4 .nil)))) (by show 4 ≤ 1000; decide) fun v H5 e hv => ?_
            exact k (.app t1 m t2) v H5 ((C2'.trans (C3.trans C4)).ofSame e) ((S4.keep e).mono (by omega)) hv ⟨wf1, hmk, wf2⟩ (by show ((1 + max t1.depth t2.depth : Nat) : Int) ≤ deep; omega)
      · -- a leaf
        have leaf : ∀ (t : Tm), t.depth = 1 → (t.depth : Int) ≤ deep := fun t h => by rw [h]; omega
        refine ⟨_, rfl, d, g, c, T + 2, 4, rfl, S2, by omega, by decide, by decide, fun r1 H3 C3 S3 r10 r11 => ?_⟩
        refine tup_new (K := K) (ds := [.str "sort", .int r1]) (.cons (.str _) (.cons (.int _) .nil)) (by show 2 ≤ 1000; decide) fun v1 H4 e4 D1 => ?_
        refine ⟨_, rfl, d, g, c, T + 3, 4, rfl, S3.keep e4, by omega, by decide, by decide, fun r2 H5 C5 S5 r20 r21 => ?_⟩
        refine tup_new (K := K) (ds := [.str "local", .int r2]) (.cons (.str _) (.cons (.int _) .nil)) (by show 2 ≤ 1000; decide) fun v2 H6 e6 D2 => ?_
        have S6 := S5.keep e6
        obtain ⟨gx, hg6⟩ := S6.g
        refine ⟨_, rfl, lst_new (by show 4 ≤ 1000; decide) fun p np => ⟨d, g, c, T + 4, p, namesL.map V.str, rfl, S6.new np, upd_same, (ne_of_none hg6 np).symm, by decide, by decide, by omega, fun i3 x3 H7 hx3 C7 S7 => ?_⟩⟩
        obtain ⟨nm, hnm, rfl⟩ := pick_str hx3
        have C7' : Ch d g H6 H7 := (Ch.new np).trans C7
        refine tup_new (K := K) (ds := [.str "name", .str nm]) (.cons (.str _) (.cons (.str _) .nil)) (by show 2 ≤ 1000; decide) fun v3 H8 e8 D3 => ?_
        refine lst_new (by show 3 ≤ 1000; decide) fun l nl => ?_
        have S8 := S7.keep e8
        have S9 := S8.new (o := .lst [v1, v2, v3]) nl
        have h9 : upd H8 l (.lst [v1, v2, v3]) l = some (.lst [v1, v2, v3]) := upd_same
        obtain ⟨gx8, hg8⟩ := S8.g
        obtain ⟨dx8, hd8⟩ := S8.d
        have lg : l ≠ g := (ne_of_none hg8 nl).symm
        have ld : l ≠ d := (ne_of_none hd8 nl).symm
        have E1 : Dt K (upd H8 l (.lst [v1, v2, v3])) v1 (Tm.num "sort" r1).pd := Dt.keep ((C5.tk (S3.keep e4)).trans ((TK.same e6).trans ((C7'.tk S6).trans ((TK.same e8).trans (TK.new nl))))) _ D1
        have E2 : Dt K (upd H8 l (.lst [v1, v2, v3])) v2 (Tm.num "local" r2).pd := Dt.keep ((C7'.tk S6).trans ((TK.same e8).trans (TK.new nl))) _ D2
        have E3 : Dt K (upd H8 l (.lst [v1, v2, v3])) v3 (Tm.name nm).pd := Dt.keep (TK.new nl) _ D3
        have C9 : Ch d g H (upd H8 l (.lst [v1, v2, v3])) := (((C2'.trans C3).ofSame e4).trans ((C5.ofSame e6).trans (C7'.ofSame e8))).trans (Ch.new nl)
        generalize upd H8 l (.lst [v1, v2, v3]) = H9 at S9 h9 E1 E2 E3 C9
        clear D1 D2 D3 C7 C7' S7 S8 S6 S5 S3 C3 C5 e4 e6 e8 np nl hg6 hg8 hd8
        -- some + [count, bound]
        obtain ⟨gx9, hg9⟩ := S9.g
        refine ⟨_, rfl, _, rfl, _, _, rfl, rfl, ⟨by decide, by decide, by decide⟩, add_i ⟨_, _, rfl, rfl, ⟨by decide, by decide, by decide⟩, _, _, rfl, rfl, lst_new (by show 4 ≤ 1000; decide) fun p np => ?_⟩⟩
        refine ⟨d, g, c, T + 5, p, _, rfl, S9.new np, upd_same, (ne_of_none hg9 np).symm, by decide, by decide, by omega, fun i4 x4 H10 hx4 C10 S10 => ?_⟩
        obtain ⟨n4, rfl, n40, n41⟩ : ∃ n : Int, x4 = .int n ∧ 0 ≤ n ∧ n < 10 ^ 18 := by
          match i4, hx4 with
          | 0, e => exact ⟨_, (Option.some.inj e).symm, by decide, by decide⟩
          | 1, e => exact ⟨_, (Option.some.inj e).symm, by decide, by decide⟩
          | 2, e => exact ⟨_, (Option.some.inj e).symm, by decide, by decide⟩
          | 3, e => exact ⟨_, (Option.some.inj e).symm, by decide, by decide⟩
          | i + 4, e => simp at e
        have C10' : Ch d g H9 H10 := (Ch.new np).trans C10
        refine tup_new (K := K) (ds := [.str "count", .str "Num", .int n4]) (.cons (.str _) (.cons (.str _) (.cons (.int _) .nil))) (by show 3 ≤ 1000; decide) fun v4 H11 e11 D4 => ?_
        refine ⟨_, rfl, _, rfl, add_i ⟨d, g, c, T + 6, ahead + 2, rfl, S10.keep e11, by omega, by omega, by omega, fun r5 H12 C12 S12 r50 r51 => ?_⟩⟩
        refine tup_new (K := K) (ds := [.str "bound", .int r5]) (.cons (.str _) (.cons (.int _) .nil)) (by show 2 ≤ 1000; decide) fun v5 H13 e13 D5 => ?_
        refine lst_new (by show 2 ≤ 1000; decide) fun q nq => ?_
        have C13 : Ch d g H9 H13 := C10'.trans ((Ch.same e11).trans (C12.ofSame e13))
        have h13 : H13 l = some (.lst [v1, v2, v3]) := C13 l _ ld lg h9
        have S13 := S12.keep e13
        refine add_l ((upd_ne (ne_of_none h13 nq)).trans h13) upd_same (line_of (by show 5 ≤ 1000; decide)) fun r nr => ?_
        have K2 : TK K H13 (upd (upd H13 q (.lst [v4, v5])) r (.lst ([v1, v2, v3] ++ [v4, v5]))) := (TK.new nq).trans (TK.new nr)
        have E1' := Dt.keep ((C13.tk S9).trans K2) _ E1
        have E2' := Dt.keep ((C13.tk S9).trans K2) _ E2
        have E3' := Dt.keep ((C13.tk S9).trans K2) _ E3
        have E4' : Dt K (upd (upd H13 q (.lst [v4, v5])) r (.lst ([v1, v2, v3] ++ [v4, v5]))) v4 (Tm.count "Num" n4).pd := Dt.keep ((C12.tk (S10.keep e11)).trans ((TK.same e13).trans K2)) _ D4
        have E5' : Dt K (upd (upd H13 q (.lst [v4, v5])) r (.lst ([v1, v2, v3] ++ [v4, v5]))) v5 (Tm.num "bound" r5).pd := Dt.keep K2 _ D5
        have S14 : Stt (upd (upd H13 q (.lst [v4, v5])) r (.lst ([v1, v2, v3] ++ [v4, v5]))) d g c (T + 7) := (S13.new nq).new nr
        have h14 : (upd (upd H13 q (.lst [v4, v5])) r (.lst ([v1, v2, v3] ++ [v4, v5]))) r = some (.lst ([v1, v2, v3] ++ [v4, v5])) := upd_same
        have C14 : Ch d g H (upd (upd H13 q (.lst [v4, v5])) r (.lst ([v1, v2, v3] ++ [v4, v5]))) := C9.trans (C13.trans ((Ch.new nq).trans (Ch.new nr)))
        generalize upd (upd H13 q (.lst [v4, v5])) r (.lst ([v1, v2, v3] ++ [v4, v5])) = H14 at S14 h14 E1' E2' E3' E4' E5' C14 ⊢
        refine ⟨_, rfl, _, _, rfl, rfl, _, rfl, ite2 (fun hw => ?_) (fun hw => ?_)⟩
        · -- some[way]
          have hw' : way < 5 := of_decide_eq_true hw
          obtain ⟨j, rfl⟩ : ∃ j : Nat, way = j := ⟨way.toNat, by omega⟩
          obtain ⟨t, v, hv, ht, wf, dp⟩ : ∃ (t : Tm) (v : V), [v1, v2, v3, v4, v5][j]? = some v ∧ Dt K H14 v t.pd ∧ t.wf ∧ t.depth = 1 := by
            match j, hw' with
            | 0, _ => exact ⟨.num "sort" r1, v1, rfl, E1', .inl ⟨rfl, r10, r11⟩, rfl⟩
            | 1, _ => exact ⟨.num "local" r2, v2, rfl, E2', .inr ⟨.inl rfl, r20, by omega⟩, rfl⟩
            | 2, _ => exact ⟨.name nm, v3, rfl, E3', hnm, rfl⟩
            | 3, _ => exact ⟨.count "Num" n4, v4, rfl, E4', ⟨rfl, n40, n41⟩, rfl⟩
            | 4, _ => exact ⟨.num "bound" r5, v5, rfl, E5', .inr ⟨.inr (.inl rfl), r50, by omega⟩, rfl⟩
            | j + 5, h => omega
          exact ⟨_, rfl, _, rfl, .inl ⟨r, _, _, v, rfl, rfl, SqL.of h14, atI_nat hv, k t v H14 C14 (S14.mono (by omega)) ht wf (leaf t dp)⟩⟩
        · refine ⟨_, rfl, _, _, rfl, rfl, _, rfl, ite2 (fun ha => ?_) (fun ha => ?_)⟩
          · have ha' : 0 < ahead := of_decide_eq_true ha
            refine ⟨_, rfl, _, rfl, d, g, c, T + 7, ahead, rfl, S14, by omega, ha', by omega, fun r6 H15 C15 S15 r60 r61 => ?_⟩
            refine tup_new (K := K) (ds := [.str "bound", .int r6]) (.cons (.str _) (.cons (.int _) .nil)) (by show 2 ≤ 1000; decide) fun v6 H16 e16 D6 => ?_
            exact k (.num "bound" r6) v6 H16 ((C14.trans C15).ofSame e16) ((S15.keep e16).mono (by omega)) D6 (.inr ⟨.inr (.inl rfl), r60, by omega⟩) (leaf _ rfl)
          · refine ⟨_, rfl, d, g, c, T + 7, 3, rfl, S14, by omega, by decide, by decide, fun r6 H15 C15 S15 r60 r61 => ?_⟩
            refine tup_new (K := K) (ds := [.str "hole", .int r6]) (.cons (.str _) (.cons (.int _) .nil)) (by show 2 ≤ 1000; decide) fun v6 H16 e16 D6 => ?_
            exact k (.num "hole" r6) v6 H16 ((C14.trans C15).ofSame e16) ((S15.keep e16).mono (by omega)) D6 (.inr ⟨.inr (.inr rfl), r60, by omega⟩) (leaf _ rfl)
end
end RS

/-! Parts: the shapes of terms in the heap; the defs that tell a term's parts and leaves. -/
namespace RS
open PySem PySem.Spec PyProof.Rows L2

section
variable {K : PySem.W.Frag} {H : Hp} {v : V}
theorem Dt.tupI {ds : List PyData} (h : Dt K H v (.tuple ds)) : ∃ a xs, v = .ref a ∧ SqT K H a xs ∧ DtAll K H xs ds := by
  cases h with
  | tup h r => exact ⟨_, _, rfl, h, r⟩
theorem Dt.strI {x : Str} (h : Dt K H v (.str x)) : v = .str x := by cases h; rfl
theorem Dt.intI {x : Int} (h : Dt K H v (.int x)) : v = .int x := by cases h; rfl
theorem DtAll.consI {vs : List V} {d : PyData} {ds : List PyData} (h : DtAll K H vs (d :: ds)) : ∃ v ws, vs = v :: ws ∧ Dt K H v d ∧ DtAll K H ws ds := by
  cases h with
  | cons h r => exact ⟨_, _, rfl, h, r⟩
theorem DtAll.nilI {vs : List V} (h : DtAll K H vs []) : vs = [] := by cases h; rfl
theorem dt_num {w : Str} {n : Int} (h : Dt K H v (Tm.num w n).pd) : ∃ p, v = .ref p ∧ SqT K H p [.str w, .int n] := by
  obtain ⟨a, xs, rfl, hT, r⟩ := Dt.tupI h
  obtain ⟨v1, ws, rfl, d1, r⟩ := r.consI
  obtain ⟨v2, ws, rfl, d2, r⟩ := r.consI
  obtain rfl := r.nilI; obtain rfl := d1.strI; obtain rfl := d2.intI
  exact ⟨a, rfl, hT⟩
theorem dt_name {x : Str} (h : Dt K H v (Tm.name x).pd) : ∃ p, v = .ref p ∧ SqT K H p [.str "name", .str x] := by
  obtain ⟨a, xs, rfl, hT, r⟩ := Dt.tupI h
  obtain ⟨v1, ws, rfl, d1, r⟩ := r.consI
  obtain ⟨v2, ws, rfl, d2, r⟩ := r.consI
  obtain rfl := r.nilI; obtain rfl := d1.strI; obtain rfl := d2.strI
  exact ⟨a, rfl, hT⟩
theorem dt_count {x : Str} {n : Int} (h : Dt K H v (Tm.count x n).pd) : ∃ p, v = .ref p ∧ SqT K H p [.str "count", .str x, .int n] := by
  obtain ⟨a, xs, rfl, hT, r⟩ := Dt.tupI h
  obtain ⟨v1, ws, rfl, d1, r⟩ := r.consI
  obtain ⟨v2, ws, rfl, d2, r⟩ := r.consI
  obtain ⟨v3, ws, rfl, d3, r⟩ := r.consI
  obtain rfl := r.nilI; obtain rfl := d1.strI; obtain rfl := d2.strI; obtain rfl := d3.intI
  exact ⟨a, rfl, hT⟩
theorem dt_bin {w m : Str} {a b : Tm} (h : Dt K H v (Tm.bin w m a b).pd) : ∃ p va vb, v = .ref p ∧ SqT K H p [.str w, .str m, va, vb] ∧ Dt K H va a.pd ∧ Dt K H vb b.pd := by
  obtain ⟨p, xs, rfl, hT, r⟩ := Dt.tupI h
  obtain ⟨v1, ws, rfl, d1, r⟩ := r.consI
  obtain ⟨v2, ws, rfl, d2, r⟩ := r.consI
  obtain ⟨v3, ws, rfl, d3, r⟩ := r.consI
  obtain ⟨v4, ws, rfl, d4, r⟩ := r.consI
  obtain rfl := r.nilI; obtain rfl := d1.strI; obtain rfl := d2.strI
  exact ⟨p, v3, v4, rfl, hT, d3, d4⟩
theorem dt_let {a b c : Tm} (h : Dt K H v (Tm.letT a b c).pd) : ∃ p va vb vc, v = .ref p ∧ SqT K H p [.str "let", va, vb, vc] ∧ Dt K H va a.pd ∧ Dt K H vb b.pd ∧ Dt K H vc c.pd := by
  obtain ⟨p, xs, rfl, hT, r⟩ := Dt.tupI h
  obtain ⟨v1, ws, rfl, d1, r⟩ := r.consI
  obtain ⟨v2, ws, rfl, d2, r⟩ := r.consI
  obtain ⟨v3, ws, rfl, d3, r⟩ := r.consI
  obtain ⟨v4, ws, rfl, d4, r⟩ := r.consI
  obtain rfl := r.nilI; obtain rfl := d1.strI
  exact ⟨p, v2, v3, v4, rfl, hT, d2, d3, d4⟩
theorem dt_app {f x : Tm} {m : Str} (h : Dt K H v (Tm.app f m x).pd) : ∃ p vf vx, v = .ref p ∧ SqT K H p [.str "app", vf, .str m, vx] ∧ Dt K H vf f.pd ∧ Dt K H vx x.pd := by
  obtain ⟨p, xs, rfl, hT, r⟩ := Dt.tupI h
  obtain ⟨v1, ws, rfl, d1, r⟩ := r.consI
  obtain ⟨v2, ws, rfl, d2, r⟩ := r.consI
  obtain ⟨v3, ws, rfl, d3, r⟩ := r.consI
  obtain ⟨v4, ws, rfl, d4, r⟩ := r.consI
  obtain rfl := r.nilI; obtain rfl := d1.strI; obtain rfl := d3.strI
  exact ⟨p, v2, v4, rfl, hT, d2, d4⟩
end

/-! ### the word ahead, as a text -/
def Tm.word : Tm → Str
  | .num w _ => w
  | .name _ => "name"
  | .count _ _ => "count"
  | .bin w _ _ _ => w
  | .letT _ _ _ => "let"
  | .app _ _ _ => "app"
def Tm.isLeaf : Tm → Bool
  | .num _ _ => true
  | .name _ => true
  | .count _ _ => true
  | _ => false
def Tm.parts : Tm → List (Tm × Int)
  | .bin _ _ a b => [(a, 0), (b, 1)]
  | .letT a b c => [(a, 0), (b, 0), (c, 1)]
  | .app f _ x => [(f, 0), (x, 0)]
  | _ => []
def pdP (p : Tm × Int) : PyData := .tuple [p.1.pd, .int p.2]
theorem in2 (w a b : Str) : inV (.str w) [.str a, .str b] = (a == w || b == w) := by simp [inV, eqV]
def Tm.isBin : Tm → Bool
  | .bin _ _ _ _ => true
  | _ => false
def Tm.isLet : Tm → Bool
  | .letT _ _ _ => true
  | _ => false
def Tm.isApp : Tm → Bool
  | .app _ _ _ => true
  | _ => false
theorem wpf_sort : ((("pi" : Str) == ("sort" : Str)) || (("fun" : Str) == ("sort" : Str))) = false := by decide +kernel
theorem wpf_local : ((("pi" : Str) == ("local" : Str)) || (("fun" : Str) == ("local" : Str))) = false := by decide +kernel
theorem wpf_bound : ((("pi" : Str) == ("bound" : Str)) || (("fun" : Str) == ("bound" : Str))) = false := by decide +kernel
theorem wpf_hole : ((("pi" : Str) == ("hole" : Str)) || (("fun" : Str) == ("hole" : Str))) = false := by decide +kernel
theorem wpf_name : ((("pi" : Str) == ("name" : Str)) || (("fun" : Str) == ("name" : Str))) = false := by decide +kernel
theorem wpf_count : ((("pi" : Str) == ("count" : Str)) || (("fun" : Str) == ("count" : Str))) = false := by decide +kernel
theorem wpf_let : ((("pi" : Str) == ("let" : Str)) || (("fun" : Str) == ("let" : Str))) = false := by decide +kernel
theorem wpf_app : ((("pi" : Str) == ("app" : Str)) || (("fun" : Str) == ("app" : Str))) = false := by decide +kernel
theorem wpf_pi : ((("pi" : Str) == ("pi" : Str)) || (("fun" : Str) == ("pi" : Str))) = true := by decide +kernel
theorem wpf_fun : ((("pi" : Str) == ("fun" : Str)) || (("fun" : Str) == ("fun" : Str))) = true := by decide +kernel
theorem wf_pf {t : Tm} (h : t.wf) : ((("pi" : Str) == t.word) || (("fun" : Str) == t.word)) = t.isBin := by
  cases t with
  | num w n =>
    rcases h with ⟨rfl, _⟩ | ⟨rfl | rfl | rfl, _⟩
    · exact wpf_sort
    · exact wpf_local
    · exact wpf_bound
    · exact wpf_hole
  | name x => exact wpf_name
  | count x n => exact wpf_count
  | bin w m a b =>
    rcases h.1 with rfl | rfl
    · exact wpf_pi
    · exact wpf_fun
  | letT a b c => exact wpf_let
  | app f m x => exact wpf_app
theorem wlet_sort : decide (V.str ("sort" : Str) = V.str "let") = false := by decide +kernel
theorem wlet_local : decide (V.str ("local" : Str) = V.str "let") = false := by decide +kernel
theorem wlet_bound : decide (V.str ("bound" : Str) = V.str "let") = false := by decide +kernel
theorem wlet_hole : decide (V.str ("hole" : Str) = V.str "let") = false := by decide +kernel
theorem wlet_name : decide (V.str ("name" : Str) = V.str "let") = false := by decide +kernel
theorem wlet_count : decide (V.str ("count" : Str) = V.str "let") = false := by decide +kernel
theorem wlet_let : decide (V.str ("let" : Str) = V.str "let") = true := by decide +kernel
theorem wlet_app : decide (V.str ("app" : Str) = V.str "let") = false := by decide +kernel
theorem wlet_pi : decide (V.str ("pi" : Str) = V.str "let") = false := by decide +kernel
theorem wlet_fun : decide (V.str ("fun" : Str) = V.str "let") = false := by decide +kernel
theorem wf_let {t : Tm} (h : t.wf) : decide (V.str t.word = V.str "let") = t.isLet := by
  cases t with
  | num w n =>
    rcases h with ⟨rfl, _⟩ | ⟨rfl | rfl | rfl, _⟩
    · exact wlet_sort
    · exact wlet_local
    · exact wlet_bound
    · exact wlet_hole
  | name x => exact wlet_name
  | count x n => exact wlet_count
  | bin w m a b =>
    rcases h.1 with rfl | rfl
    · exact wlet_pi
    · exact wlet_fun
  | letT a b c => exact wlet_let
  | app f m x => exact wlet_app
theorem wapp_sort : decide (V.str ("sort" : Str) = V.str "app") = false := by decide +kernel
theorem wapp_local : decide (V.str ("local" : Str) = V.str "app") = false := by decide +kernel
theorem wapp_bound : decide (V.str ("bound" : Str) = V.str "app") = false := by decide +kernel
theorem wapp_hole : decide (V.str ("hole" : Str) = V.str "app") = false := by decide +kernel
theorem wapp_name : decide (V.str ("name" : Str) = V.str "app") = false := by decide +kernel
theorem wapp_count : decide (V.str ("count" : Str) = V.str "app") = false := by decide +kernel
theorem wapp_let : decide (V.str ("let" : Str) = V.str "app") = false := by decide +kernel
theorem wapp_app : decide (V.str ("app" : Str) = V.str "app") = true := by decide +kernel
theorem wapp_pi : decide (V.str ("pi" : Str) = V.str "app") = false := by decide +kernel
theorem wapp_fun : decide (V.str ("fun" : Str) = V.str "app") = false := by decide +kernel
theorem wf_app {t : Tm} (h : t.wf) : decide (V.str t.word = V.str "app") = t.isApp := by
  cases t with
  | num w n =>
    rcases h with ⟨rfl, _⟩ | ⟨rfl | rfl | rfl, _⟩
    · exact wapp_sort
    · exact wapp_local
    · exact wapp_bound
    · exact wapp_hole
  | name x => exact wapp_name
  | count x n => exact wapp_count
  | bin w m a b =>
    rcases h.1 with rfl | rfl
    · exact wapp_pi
    · exact wapp_fun
  | letT a b c => exact wapp_let
  | app f m x => exact wapp_app
/-- a term's tuple and its word ahead -/
theorem dt_word {K : PySem.W.Frag} {H : Hp} {v : V} {t : Tm} (h : Dt K H v t.pd) : ∃ p xs, v = .ref p ∧ SqT K H p (.str t.word :: xs) := by
  cases t with
  | num w n => obtain ⟨p, rfl, q⟩ := dt_num h; exact ⟨p, _, rfl, q⟩
  | name x => obtain ⟨p, rfl, q⟩ := dt_name h; exact ⟨p, _, rfl, q⟩
  | count x n => obtain ⟨p, rfl, q⟩ := dt_count h; exact ⟨p, _, rfl, q⟩
  | bin w m a b => obtain ⟨p, va, vb, rfl, q, _⟩ := dt_bin h; exact ⟨p, _, rfl, q⟩
  | letT a b c => obtain ⟨p, va, vb, vc, rfl, q, _⟩ := dt_let h; exact ⟨p, _, rfl, q⟩
  | app f m x => obtain ⟨p, vf, vx, rfl, q, _⟩ := dt_app h; exact ⟨p, _, rfl, q⟩
/-- an item of a tuple -/
theorem ixt {K : PySem.W.Frag} {p : Addr} {xs : List V} {i : Nat} {v : V} {H : Hp} {Q : VK} (h : SqT K H p xs) (hi : xs[i]? = some v) (q : Q v H) : rIx K (.ref p) (.int i) H Q := .inr (.inl ⟨p, xs, i, v, rfl, rfl, h, atI_nat hi, q⟩)
theorem ixl {K : PySem.W.Frag} {p : Addr} {xs : List V} {i : Nat} {v : V} {H : Hp} {Q : VK} (h : SqL K H p xs) (hi : xs[i]? = some v) (q : Q v H) : rIx K (.ref p) (.int i) H Q := .inl ⟨p, xs, i, v, rfl, rfl, h, atI_nat hi, q⟩

/-! ### own_parts -/
def spParts (K : PySem.W.Frag) : Sp := fun vs H Q _ => ∃ (v : V) (t : Tm), vs = [v] ∧ Dt K H v t.pd ∧ t.wf ∧ ∀ l xs H', Same H H' → H l = none → H' l = some (.lst xs) → DtAll K H' xs (t.parts.map pdP) → Q (.ref l) H'
theorem sqs {K : PySem.W.Frag} {H H' : Hp} {a : Addr} {xs : List V} (h : SqT K H a xs) (e : Same H H') : SqT K H' a xs := TK.same e _ _ h
theorem same2 {H H1 : Hp} {p : Addr} {o : HO} (e : Same H H1) (h : H1 p = none) : Same H (upd H1 p o) := e.trans (same_new h)
section
variable {P : Program} {w : World} {K : PySem.W.Frag} {mg : Str → Option Value} {base : Heap}
theorem sc_own_parts : FnScope ["term", "word"] ["term"] (defScope s_own_parts) := ⟨rfl, rfl, rfl, by decide +kernel, rfl, by decide +kernel, by decide +kernel⟩
theorem ok_own_parts {f : Addr} {fd : FuncData} (F : Fun K "own_parts" "own_parts" s_own_parts f fd) : FnOk P w K mg base CX0 1 f fd ["term"] (spParts K) := by
  refine F.ok sc_own_parts (fun vs H Q E h => ?_) (fun cdv A outer s H vs Q E hr h => ?_)
  · obtain ⟨v, t, rfl, _⟩ := h; rfl
  · obtain ⟨v, t, rfl, hv, wf, k⟩ := h
    have nd := sc_own_parts.nd
    have h1 := wf_pf wf
    have h2 := wf_let wf
    have h3 := wf_app wf
    obtain ⟨p, xs, rfl, hT⟩ := dt_word hv
    refine ⟨_, (pss_cons (ps_set (i := 1) nd rfl (Or.inl rfl) (pe_ix ix_seq (pv 0) pe_int (fun _ _ => rfl)))
      (pss_cons (ps_if (pt_cmpR uIn (pv 1) (pe_tupN (pa_cons pe_str (pa_cons pe_str pa_nil))) (by rfl))
        (pss_one (ps_ret (pe_lstN (pa_cons (pe_tupN (pa_cons (pe_ix ix_seq (pv 0) pe_int (fun _ _ => rfl)) (pa_cons pe_int pa_nil))) (pa_cons (pe_tupN (pa_cons (pe_ix ix_seq (pv 0) pe_int (fun _ _ => rfl)) (pa_cons pe_int pa_nil))) pa_nil)))))
        pss_nil)
      (pss_cons (ps_if (pt_cmpR (uEq hr.units) (pv 1) pe_str (nomark _))
        (pss_one (ps_ret (pe_lstN (pa_cons (pe_tupN (pa_cons (pe_ix ix_seq (pv 0) pe_int (fun _ _ => rfl)) (pa_cons pe_int pa_nil))) (pa_cons (pe_tupN (pa_cons (pe_ix ix_seq (pv 0) pe_int (fun _ _ => rfl)) (pa_cons pe_int pa_nil))) (pa_cons (pe_tupN (pa_cons (pe_ix ix_seq (pv 0) pe_int (fun _ _ => rfl)) (pa_cons pe_int pa_nil))) pa_nil))))))
        pss_nil)
      (pss_one (ps_ret (pe_ifExp (pt_cmpR (uEq hr.units) (pv 1) pe_str (nomark _)) (pe_lstN (pa_cons (pe_tupN (pa_cons (pe_ix ix_seq (pv 0) pe_int (fun _ _ => rfl)) (pa_cons pe_int pa_nil))) (pa_cons (pe_tupN (pa_cons (pe_ix ix_seq (pv 0) pe_int (fun _ _ => rfl)) (pa_cons pe_int pa_nil))) pa_nil))) (pe_lstN pa_nil))))))), ?_⟩
    refine ⟨_, rfl, ixt (i := 0) hT rfl ?_⟩
    refine ⟨_, rfl, tup_at (by show 2 ≤ 1000; decide) fun q nq => in_t (SqT.of upd_same) rfl rfl (by rw [in2, h1]) ⟨_, rfl, ?_⟩⟩
    have e0 := same_new (o := .tup [V.str "pi", V.str "fun"]) nq
    cases t with
    | bin w m a b =>
      obtain ⟨p', va, vb, e, hB, ha, hb⟩ := dt_bin hv
      cases e
      refine iteT ⟨_, rfl, ixt (i := 2) (sqs hB e0) rfl (tup_new (K := K) (ds := [a.pd, .int 0]) (.cons (ha.same e0) (.cons (.int 0) .nil)) (by show 2 ≤ 1000; decide) fun v1 H1 e1 d1 => ?_)⟩
      refine ⟨_, rfl, ixt (i := 3) (sqs (sqs hB e0) e1) rfl (tup_new (K := K) (ds := [b.pd, .int 1]) (.cons ((hb.same e0).same e1) (.cons (.int 1) .nil)) (by show 2 ≤ 1000; decide) fun v2 H2 e2 d2 => lst_new (by show 2 ≤ 1000; decide) fun l nl => ?_)⟩
      exact k l _ _ (same2 (e0.trans (e1.trans e2)) nl) ((e0.trans (e1.trans e2)).free nl) upd_same (DtAll.keep (TK.new nl) _ (.cons (d1.same e2) (.cons d2 .nil)))
    | letT a b c =>
      obtain ⟨p', va, vb, vc, e, hB, ha, hb, hc⟩ := dt_let hv
      cases e
      refine iteF ⟨_, rfl, eq_f rfl (by rw [h2]; rfl) ⟨_, rfl, iteT ?_⟩⟩
      refine ⟨_, rfl, ixt (i := 1) (sqs hB e0) rfl (tup_new (K := K) (ds := [a.pd, .int 0]) (.cons (ha.same e0) (.cons (.int 0) .nil)) (by show 2 ≤ 1000; decide) fun v1 H1 e1 d1 => ?_)⟩
      refine ⟨_, rfl, ixt (i := 2) (sqs (sqs hB e0) e1) rfl (tup_new (K := K) (ds := [b.pd, .int 0]) (.cons ((hb.same e0).same e1) (.cons (.int 0) .nil)) (by show 2 ≤ 1000; decide) fun v2 H2 e2 d2 => ?_)⟩
      refine ⟨_, rfl, ixt (i := 3) (sqs (sqs (sqs hB e0) e1) e2) rfl (tup_new (K := K) (ds := [c.pd, .int 1]) (.cons (((hc.same e0).same e1).same e2) (.cons (.int 1) .nil)) (by show 2 ≤ 1000; decide) fun v3 H3 e3 d3 => lst_new (by show 3 ≤ 1000; decide) fun l nl => ?_)⟩
      have ee := e0.trans (e1.trans (e2.trans e3))
      exact k l _ _ (same2 ee nl) (ee.free nl) upd_same (DtAll.keep (TK.new nl) _ (.cons ((d1.same e2).same e3) (.cons (d2.same e3) (.cons d3 .nil))))
    | app f m x =>
      obtain ⟨p', vf, vx, e, hB, ha, hb⟩ := dt_app hv
      cases e
      refine iteF ⟨_, rfl, eq_f rfl (by rw [h2]; rfl) ⟨_, rfl, iteF ⟨_, rfl, eq_f rfl (by rw [h3]; rfl) ⟨_, rfl, iteT ?_⟩⟩⟩⟩
      refine ⟨_, rfl, ixt (i := 1) (sqs hB e0) rfl (tup_new (K := K) (ds := [f.pd, .int 0]) (.cons (ha.same e0) (.cons (.int 0) .nil)) (by show 2 ≤ 1000; decide) fun v1 H1 e1 d1 => ?_)⟩
      refine ⟨_, rfl, ixt (i := 3) (sqs (sqs hB e0) e1) rfl (tup_new (K := K) (ds := [x.pd, .int 0]) (.cons ((hb.same e0).same e1) (.cons (.int 0) .nil)) (by show 2 ≤ 1000; decide) fun v2 H2 e2 d2 => lst_new (by show 2 ≤ 1000; decide) fun l nl => ?_)⟩
      exact k l _ _ (same2 (e0.trans (e1.trans e2)) nl) ((e0.trans (e1.trans e2)).free nl) upd_same (DtAll.keep (TK.new nl) _ (.cons (d1.same e2) (.cons d2 .nil)))
    | num w n => exact iteF ⟨_, rfl, eq_f rfl (by rw [h2]; rfl) ⟨_, rfl, iteF ⟨_, rfl, eq_f rfl (by rw [h3]; rfl) ⟨_, rfl, iteF (lst_new (Nat.zero_le _) fun l nl => k l _ _ (same2 e0 nl) (e0.free nl) upd_same .nil)⟩⟩⟩⟩
    | name x => exact iteF ⟨_, rfl, eq_f rfl (by rw [h2]; rfl) ⟨_, rfl, iteF ⟨_, rfl, eq_f rfl (by rw [h3]; rfl) ⟨_, rfl, iteF (lst_new (Nat.zero_le _) fun l nl => k l _ _ (same2 e0 nl) (e0.free nl) upd_same .nil)⟩⟩⟩⟩
    | count x n => exact iteF ⟨_, rfl, eq_f rfl (by rw [h2]; rfl) ⟨_, rfl, iteF ⟨_, rfl, eq_f rfl (by rw [h3]; rfl) ⟨_, rfl, iteF (lst_new (Nat.zero_le _) fun l nl => k l _ _ (same2 e0 nl) (e0.free nl) upd_same .nil)⟩⟩⟩⟩
end
end RS

/-! Leaves: the law's own parts and leaves of a term. -/
namespace RS
open PySem PySem.Spec PyProof.Rows L2

def Tm.leaves : Tm → Int → List (Tm × Int)
  | .bin _ _ a b, n => a.leaves n ++ b.leaves (n + 1)
  | .letT a b c, n => a.leaves n ++ (b.leaves n ++ c.leaves (n + 1))
  | .app f _ x, n => f.leaves n ++ x.leaves n
  | .num w k, n => [(.num w k, n)]
  | .name x, n => [(.name x, n)]
  | .count x k, n => [(.count x k, n)]
theorem Tm.depth_pos (t : Tm) : 1 ≤ t.depth := by cases t <;> simp only [Tm.depth] <;> omega
theorem Tm.nodes_pos (t : Tm) : 1 ≤ t.nodes := by cases t <;> simp only [Tm.nodes] <;> omega
theorem Tm.leaves_len : ∀ (t : Tm) (n : Int), (t.leaves n).length ≤ t.nodes
  | .bin _ _ a b, n => by simp only [Tm.leaves, Tm.nodes, List.length_append]; have := a.leaves_len n; have := b.leaves_len (n + 1); omega
  | .letT a b c, n => by simp only [Tm.leaves, Tm.nodes, List.length_append]; have := a.leaves_len n; have := b.leaves_len n; have := c.leaves_len (n + 1); omega
  | .app f _ x, n => by simp only [Tm.leaves, Tm.nodes, List.length_append]; have := f.leaves_len n; have := x.leaves_len n; omega
  | .num _ _, _ => Nat.le_refl _
  | .name _, _ => Nat.le_refl _
  | .count _ _, _ => Nat.le_refl _
theorem Tm.part_lt {t p : Tm} {n : Int} (h : (p, n) ∈ t.parts) : p.depth < t.depth ∧ p.nodes < t.nodes := by
  cases t with
  | bin w m a b => simp only [Tm.parts, List.mem_cons, List.not_mem_nil, or_false, Prod.mk.injEq] at h; rcases h with ⟨rfl, _⟩ | ⟨rfl, _⟩ <;> simp only [Tm.depth, Tm.nodes] <;> omega
  | letT a b c => simp only [Tm.parts, List.mem_cons, List.not_mem_nil, or_false, Prod.mk.injEq] at h; rcases h with ⟨rfl, _⟩ | ⟨rfl, _⟩ | ⟨rfl, _⟩ <;> simp only [Tm.depth, Tm.nodes] <;> omega
  | app f m x => simp only [Tm.parts, List.mem_cons, List.not_mem_nil, or_false, Prod.mk.injEq] at h; rcases h with ⟨rfl, _⟩ | ⟨rfl, _⟩ <;> simp only [Tm.depth, Tm.nodes] <;> omega
  | num _ _ => cases h
  | name _ => cases h
  | count _ _ => cases h
theorem Tm.part_wf {t p : Tm} {n : Int} (wf : t.wf) (h : (p, n) ∈ t.parts) : p.wf := by
  cases t with
  | bin w m a b => simp only [Tm.parts, List.mem_cons, List.not_mem_nil, or_false, Prod.mk.injEq] at h; rcases h with ⟨rfl, _⟩ | ⟨rfl, _⟩ <;> first | exact wf.2.2.1 | exact wf.2.2.2
  | letT a b c => simp only [Tm.parts, List.mem_cons, List.not_mem_nil, or_false, Prod.mk.injEq] at h; rcases h with ⟨rfl, _⟩ | ⟨rfl, _⟩ | ⟨rfl, _⟩ <;> first | exact wf.1 | exact wf.2.1 | exact wf.2.2
  | app f m x => simp only [Tm.parts, List.mem_cons, List.not_mem_nil, or_false, Prod.mk.injEq] at h; rcases h with ⟨rfl, _⟩ | ⟨rfl, _⟩ <;> first | exact wf.1 | exact wf.2.2
  | num _ _ => cases h
  | name _ => cases h
  | count _ _ => cases h
def partLeaves (n : Int) (ps : List (Tm × Int)) : List (Tm × Int) := ps.flatMap fun p => p.1.leaves (n + p.2)
theorem partLeaves_snoc (n : Int) (ps : List (Tm × Int)) (p : Tm × Int) : partLeaves n (ps ++ [p]) = partLeaves n ps ++ p.1.leaves (n + p.2) := by simp [partLeaves]
theorem partLeaves_all {t : Tm} (n : Int) (h : t.parts ≠ []) : partLeaves n t.parts = t.leaves n := by
  cases t <;> simp_all [Tm.parts, partLeaves, Tm.leaves]
theorem partLeaves_take_len {t : Tm} (n : Int) (i : Nat) : (partLeaves n (t.parts.take i)).length ≤ t.nodes := by
  have h : ∀ (ps : List (Tm × Int)) (i : Nat), (partLeaves n (ps.take i)).length ≤ (ps.map fun p => p.1.nodes).sum := by
    intro ps
    induction ps with
    | nil => intro i; simp [partLeaves]
    | cons p ps ih =>
      intro i
      cases i with
      | zero => simp [partLeaves]
      | succ i =>
        have h1 := p.1.leaves_len (n + p.2)
        have h2 := ih i
        simp only [List.take_succ_cons, partLeaves, List.flatMap_cons, List.length_append, List.map_cons, List.sum_cons] at *
        omega
  refine Nat.le_trans (h t.parts i) ?_
  cases t <;> simp only [Tm.parts, List.map_cons, List.map_nil, List.sum_cons, List.sum_nil, Tm.nodes] <;> omega
theorem leaf_leaves {t : Tm} (n : Int) (h : t.parts = []) : t.leaves n = [(t, n)] := by
  cases t <;> simp_all [Tm.parts, Tm.leaves]
/-- one of the parts, in the heap -/
theorem parts_at {K : PySem.W.Frag} {H : Hp} {xs : List V} {ps : List (Tm × Int)} {i : Nat} {x : V} (h : DtAll K H xs (ps.map pdP)) (hx : xs[i]? = some x) :
    ∃ pt n p vp, ps[i]? = some (pt, n) ∧ x = .ref p ∧ SqT K H p [vp, .int n] ∧ Dt K H vp pt.pd := by
  obtain ⟨d, hd, dx⟩ := h.get hx
  rw [List.getElem?_map] at hd
  cases e : ps[i]? with
  | none => rw [e] at hd; cases hd
  | some q =>
    rw [e] at hd
    obtain rfl : pdP q = d := Option.some.inj hd
    obtain ⟨p, ys, rfl, hT, r⟩ := Dt.tupI (show Dt K H x (.tuple [q.1.pd, .int q.2]) from dx)
    obtain ⟨v1, ws, rfl, d1, r⟩ := r.consI
    obtain ⟨v2, ws, rfl, d2, r⟩ := r.consI
    obtain rfl := r.nilI; obtain rfl := d2.intI
    exact ⟨q.1, q.2, p, v1, by rw [Prod.eta], rfl, hT, d1⟩
section
variable {P : Program} {w : World} {K : PySem.W.Frag} {mg : Str → Option Value} {base : Heap}
theorem sc_law_rt_parts : FnScope ["term"] ["term"] (defScope s_law_rt_parts) := ⟨rfl, rfl, rfl, by decide +kernel, rfl, by decide +kernel, by decide +kernel⟩
theorem ok_rt_parts {f : Addr} {fd : FuncData} (F : Fun K "_law_rt_parts" "_law_rt_parts" s_law_rt_parts f fd) : FnOk P w K mg base CX0 1 f fd ["term"] (spParts K) := by
  refine F.ok sc_law_rt_parts (fun vs H Q E h => ?_) (fun cdv A outer s H vs Q E hr h => ?_)
  · obtain ⟨v, t, rfl, _⟩ := h; rfl
  · obtain ⟨v, t, rfl, hv, wf, k⟩ := h
    have nd := sc_law_rt_parts.nd
    have h1 := wf_pf wf
    have h2 := wf_let wf
    have h3 := wf_app wf
    obtain ⟨p, xs, rfl, hT⟩ := dt_word hv
    refine ⟨_, (pss_cons (ps_if (pt_cmpR uIn (pe_ix ix_seq (pv 0) pe_int (fun _ _ => rfl)) (pe_tupN (pa_cons pe_str (pa_cons pe_str pa_nil))) (by rfl))
        (pss_one (ps_ret (pe_lstN (pa_cons (pe_tupN (pa_cons (pe_ix ix_seq (pv 0) pe_int (fun _ _ => rfl)) (pa_cons pe_int pa_nil))) (pa_cons (pe_tupN (pa_cons (pe_ix ix_seq (pv 0) pe_int (fun _ _ => rfl)) (pa_cons pe_int pa_nil))) pa_nil)))))
        pss_nil)
      (pss_cons (ps_if (pt_cmpR (uEq hr.units) (pe_ix ix_seq (pv 0) pe_int (fun _ _ => rfl)) pe_str (nomark _))
        (pss_one (ps_ret (pe_lstN (pa_cons (pe_tupN (pa_cons (pe_ix ix_seq (pv 0) pe_int (fun _ _ => rfl)) (pa_cons pe_int pa_nil))) (pa_cons (pe_tupN (pa_cons (pe_ix ix_seq (pv 0) pe_int (fun _ _ => rfl)) (pa_cons pe_int pa_nil))) (pa_cons (pe_tupN (pa_cons (pe_ix ix_seq (pv 0) pe_int (fun _ _ => rfl)) (pa_cons pe_int pa_nil))) pa_nil))))))
        pss_nil)
      (pss_one (ps_ret (pe_ifExp (pt_cmpR (uEq hr.units) (pe_ix ix_seq (pv 0) pe_int (fun _ _ => rfl)) pe_str (nomark _)) (pe_lstN (pa_cons (pe_tupN (pa_cons (pe_ix ix_seq (pv 0) pe_int (fun _ _ => rfl)) (pa_cons pe_int pa_nil))) (pa_cons (pe_tupN (pa_cons (pe_ix ix_seq (pv 0) pe_int (fun _ _ => rfl)) (pa_cons pe_int pa_nil))) pa_nil))) (pe_lstN pa_nil)))))), ?_⟩
    refine ⟨_, rfl, ixt (i := 0) hT rfl (tup_at (by show 2 ≤ 1000; decide) fun q nq => in_t (SqT.of upd_same) rfl rfl (by rw [in2, h1]) ⟨_, rfl, ?_⟩)⟩
    have e0 := same_new (o := .tup [V.str "pi", V.str "fun"]) nq
    have hT0 := sqs hT e0
    cases t with
    | bin w m a b =>
      obtain ⟨p', va, vb, e, hB, ha, hb⟩ := dt_bin hv
      cases e
      refine iteT ⟨_, rfl, ixt (i := 2) (sqs hB e0) rfl (tup_new (K := K) (ds := [a.pd, .int 0]) (.cons (ha.same e0) (.cons (.int 0) .nil)) (by show 2 ≤ 1000; decide) fun v1 H1 e1 d1 => ?_)⟩
      refine ⟨_, rfl, ixt (i := 3) (sqs (sqs hB e0) e1) rfl (tup_new (K := K) (ds := [b.pd, .int 1]) (.cons ((hb.same e0).same e1) (.cons (.int 1) .nil)) (by show 2 ≤ 1000; decide) fun v2 H2 e2 d2 => lst_new (by show 2 ≤ 1000; decide) fun l nl => ?_)⟩
      exact k l _ _ (same2 (e0.trans (e1.trans e2)) nl) ((e0.trans (e1.trans e2)).free nl) upd_same (DtAll.keep (TK.new nl) _ (.cons (d1.same e2) (.cons d2 .nil)))
    | letT a b c =>
      obtain ⟨p', va, vb, vc, e, hB, ha, hb, hc⟩ := dt_let hv
      cases e
      refine iteF ⟨_, rfl, ixt (i := 0) hT0 rfl (eq_f rfl (by rw [h2]; rfl) ⟨_, rfl, iteT ?_⟩)⟩
      refine ⟨_, rfl, ixt (i := 1) (sqs hB e0) rfl (tup_new (K := K) (ds := [a.pd, .int 0]) (.cons (ha.same e0) (.cons (.int 0) .nil)) (by show 2 ≤ 1000; decide) fun v1 H1 e1 d1 => ?_)⟩
      refine ⟨_, rfl, ixt (i := 2) (sqs (sqs hB e0) e1) rfl (tup_new (K := K) (ds := [b.pd, .int 0]) (.cons ((hb.same e0).same e1) (.cons (.int 0) .nil)) (by show 2 ≤ 1000; decide) fun v2 H2 e2 d2 => ?_)⟩
      refine ⟨_, rfl, ixt (i := 3) (sqs (sqs (sqs hB e0) e1) e2) rfl (tup_new (K := K) (ds := [c.pd, .int 1]) (.cons (((hc.same e0).same e1).same e2) (.cons (.int 1) .nil)) (by show 2 ≤ 1000; decide) fun v3 H3 e3 d3 => lst_new (by show 3 ≤ 1000; decide) fun l nl => ?_)⟩
      have ee := e0.trans (e1.trans (e2.trans e3))
      exact k l _ _ (same2 ee nl) (ee.free nl) upd_same (DtAll.keep (TK.new nl) _ (.cons ((d1.same e2).same e3) (.cons (d2.same e3) (.cons d3 .nil))))
    | app f m x =>
      obtain ⟨p', vf, vx, e, hB, ha, hb⟩ := dt_app hv
      cases e
      refine iteF ⟨_, rfl, ixt (i := 0) hT0 rfl (eq_f rfl (by rw [h2]; rfl) ⟨_, rfl, iteF ⟨_, rfl, ixt (i := 0) hT0 rfl (eq_f rfl (by rw [h3]; rfl) ⟨_, rfl, iteT ?_⟩)⟩⟩)⟩
      refine ⟨_, rfl, ixt (i := 1) (sqs hB e0) rfl (tup_new (K := K) (ds := [f.pd, .int 0]) (.cons (ha.same e0) (.cons (.int 0) .nil)) (by show 2 ≤ 1000; decide) fun v1 H1 e1 d1 => ?_)⟩
      refine ⟨_, rfl, ixt (i := 3) (sqs (sqs hB e0) e1) rfl (tup_new (K := K) (ds := [x.pd, .int 0]) (.cons ((hb.same e0).same e1) (.cons (.int 0) .nil)) (by show 2 ≤ 1000; decide) fun v2 H2 e2 d2 => lst_new (by show 2 ≤ 1000; decide) fun l nl => ?_)⟩
      exact k l _ _ (same2 (e0.trans (e1.trans e2)) nl) ((e0.trans (e1.trans e2)).free nl) upd_same (DtAll.keep (TK.new nl) _ (.cons (d1.same e2) (.cons d2 .nil)))
    | num w n => exact iteF ⟨_, rfl, ixt (i := 0) hT0 rfl (eq_f rfl (by rw [h2]; rfl) ⟨_, rfl, iteF ⟨_, rfl, ixt (i := 0) hT0 rfl (eq_f rfl (by rw [h3]; rfl) ⟨_, rfl, iteF (lst_new (Nat.zero_le _) fun l nl => k l _ _ (same2 e0 nl) (e0.free nl) upd_same .nil)⟩)⟩⟩)⟩
    | name x => exact iteF ⟨_, rfl, ixt (i := 0) hT0 rfl (eq_f rfl (by rw [h2]; rfl) ⟨_, rfl, iteF ⟨_, rfl, ixt (i := 0) hT0 rfl (eq_f rfl (by rw [h3]; rfl) ⟨_, rfl, iteF (lst_new (Nat.zero_le _) fun l nl => k l _ _ (same2 e0 nl) (e0.free nl) upd_same .nil)⟩)⟩⟩)⟩
    | count x n => exact iteF ⟨_, rfl, ixt (i := 0) hT0 rfl (eq_f rfl (by rw [h2]; rfl) ⟨_, rfl, iteF ⟨_, rfl, ixt (i := 0) hT0 rfl (eq_f rfl (by rw [h3]; rfl) ⟨_, rfl, iteF (lst_new (Nat.zero_le _) fun l nl => k l _ _ (same2 e0 nl) (e0.free nl) upd_same .nil)⟩)⟩⟩)⟩

/-! ### _law_rt_leaves -/
theorem sc_law_rt_leaves : FnScope ["term", "ahead", "parts", "found", "part", "more"] ["term", "ahead"] (defScope s_law_rt_leaves) := ⟨rfl, rfl, rfl, by decide +kernel, rfl, by decide +kernel, by decide +kernel⟩
def spLeaves (K : PySem.W.Frag) (N : Nat) : Sp := fun vs H Q _ => ∃ (v : V) (t : Tm) (n : Int), vs = [v, .int n] ∧ Dt K H v t.pd ∧ t.wf ∧ t.depth ≤ N ∧ t.nodes ≤ 100000 ∧
  ∀ l xs H', Same H H' → H l = none → H' l = some (.lst xs) → DtAll K H' xs ((t.leaves n).map pdP) → Q (.ref l) H'
theorem ok_leaves {f : Addr} {fd : FuncData} (F : Fun K "_law_rt_leaves" "_law_rt_leaves" s_law_rt_leaves f fd) (hm : mg "_law_rt_leaves" = some (.ref f)) (b : Binds K fd ["term", "ahead"] [])
    (D_law_rt_parts : Df P w K mg base "_law_rt_parts" 1 ["term"] (spParts K)) : ∀ N, FnOk P w K mg base CX0 (N + 1) f fd ["term", "ahead"] (spLeaves K N)
  | 0 => by
    refine ⟨fun vs H Q E h => ?_, fun A outer s H args us vs Q E _ _ _ _ h => ?_⟩
    · obtain ⟨v, t, n, rfl, _⟩ := h; rfl
    · obtain ⟨v, t, n, _, _, _, h1, _⟩ := h
      have := t.depth_pos
      omega
  | N + 1 => by
    have D_law_rt_leaves : Df P w K mg base "_law_rt_leaves" (N + 1) ["term", "ahead"] (spLeaves K N) := ⟨f, fd, ok_leaves F hm b D_law_rt_parts N, hm, F.kp, b⟩
    refine F.ok sc_law_rt_leaves (fun vs H Q E h => ?_) (fun cdv A outer s H vs Q E hr h => ?_)
    · obtain ⟨v, t, n, rfl, _⟩ := h; rfl
    · obtain ⟨v, t, n, rfl, hv, wf, hd, hn, k⟩ := h
      have nd := sc_law_rt_leaves.nd
      refine ⟨_, (pss_cons (ps_par (i := 2) (j := 3) rfl nd rfl rfl (by decide) rfl rfl (pa_cons (pe_df D_law_rt_parts hr (by omega) (pa_cons (pv 0) pa_nil)) (pa_cons (pe_lstN pa_nil) pa_nil)) rfl)
      (pss_cons (ps_for PassesOwn.never rfl (pi_seq (pv 2)) (pg_tup rfl (pgs_cons (pg_name (i := 4) nd rfl (Or.inl rfl)) (pgs_cons (pg_name (i := 5) nd rfl (Or.inl rfl)) pgs_nil)))
        (pss_one (ps_set (i := 3) nd rfl (Or.inl rfl) (pe_op uAdd (pv 3) (pe_df D_law_rt_leaves hr (by omega) (pa_cons (pv 4) (pa_cons (pe_op uAdd (pv 1) (pv 5)) pa_nil)))))))
      (pss_one (ps_ret (pe_ifExp (pt_cmpR (uNe hr.units) (pv 2) (pe_lstN pa_nil) (nomark _)) (pv 3) (pe_lstN (pa_cons (pe_tupN (pa_cons (pv 0) (pa_cons (pv 1) pa_nil))) pa_nil))))))), ?_⟩
      refine ⟨_, rfl, v, t, rfl, hv, wf, fun l xs H1 e1 nl hl dl => lst_new (Nat.zero_le _) fun l0 nl0 => ⟨_, _, rfl, ?_⟩⟩
      have e1' : Same H (upd H1 l0 (.lst [])) := same2 e1 nl0
      have hl' : upd H1 l0 (.lst []) l = some (.lst xs) := (upd_ne (ne_of_none hl nl0)).trans hl
      have dl' := DtAll.keep (K := K) (TK.new (o := .lst []) nl0) _ dl
      have hl0 : upd H1 l0 (.lst []) l0 = some (.lst []) := upd_same
      have n0 : H l0 = none := e1.free nl0
      generalize upd H1 l0 (.lst []) = H2 at e1' hl' dl' hl0
      clear e1 hl dl nl0
      refine ⟨_, rfl, l, rfl, .inl ⟨⟨_, SqL.of hl'⟩, for_list (K := K) (a := l) (xs := xs)
        (fun i σ H3 => ∃ (l2 : Addr) (ys : List V) (v4 v5 : Option V), σ = [some v, some (.int n), some (.ref l), some (.ref l2), v4, v5] ∧ Same H2 H3 ∧ H l2 = none ∧ H3 l2 = some (.lst ys) ∧ DtAll K H3 ys ((partLeaves n (t.parts.take i)).map pdP))
        ⟨l0, [], none, none, rfl, Same.refl _, n0, hl0, .nil⟩ (fun i σ H3 _ ⟨_, _, _, _, _, e, _⟩ => SqL.of (e _ _ hl')) ?_ ?_⟩⟩
      · rintro i x σ H3 hx ⟨l2, ys, v4, v5, rfl, e3, nl2, hl2, dy⟩
        obtain ⟨pt, m, p, vp, hp, rfl, hT, dp⟩ := parts_at (DtAll.keep (TK.same e3) _ dl') hx
        have hmem := List.mem_of_getElem? hp
        obtain ⟨lt1, lt2⟩ := Tm.part_lt hmem
        refine ⟨p, _, rfl, hT, rfl, vp, _, rfl, .int m, _, rfl, rfl, ?_⟩
        refine ⟨_, rfl, _, rfl, _, rfl, _, rfl, add_i ⟨vp, pt, n + m, rfl, dp, Tm.part_wf wf hmem, by omega, by omega, fun l3 zs H4 e4 nl3 hl3 dz => ?_⟩⟩
        have dy4 := DtAll.keep (TK.same e4) _ dy
        have len1 : ys.length ≤ t.nodes := by rw [dy.length, List.length_map]; exact partLeaves_take_len n i
        have len2 : zs.length ≤ pt.nodes := by rw [dz.length, List.length_map]; exact pt.leaves_len _
        refine add_l (e4 _ _ hl2) hl3 (by rw [sizeLine_eq]; omega) fun q nq => ?_
        refine ⟨q, ys ++ zs, _, _, rfl, same2 (e3.trans e4) nq, ?_, upd_same, ?_⟩
        · exact (e1'.trans (e3.trans e4)).free nq
        · have : t.parts.take (i + 1) = t.parts.take i ++ [(pt, m)] := take_snoc hp
          rw [this, partLeaves_snoc, List.map_append]
          exact DtAll.keep (TK.new nq) _ (dy4.append dz)
      · rintro σ H3 ⟨l2, ys, v4, v5, rfl, e3, nl2, hl2, dy⟩
        rw [show xs.length = t.parts.length by rw [dl'.length, List.length_map], List.take_length] at dy
        refine ⟨_, rfl, lst_new (Nat.zero_le _) fun q nq => eq_n (SqL.of ((upd_ne (ne_of_none (e3 _ _ hl') nq)).trans (e3 _ _ hl'))) (SqL.of upd_same) rfl ⟨_, rfl, ?_⟩⟩
        have eq := same2 (o := .lst []) (e1'.trans e3) nq
        cases hxs : xs with
        | nil =>
          have hp : t.parts = [] := by
            have := dl'.length
            rw [hxs, List.length_map] at this
            exact List.length_eq_zero_iff.mp this.symm
          refine iteF ⟨_, rfl, _, rfl, tup_new (K := K) (ds := [t.pd, .int n]) (.cons (hv.same eq) (.cons (.int n) .nil)) (by show 2 ≤ 1000; decide) fun v1 H5 e5 d1 => lst_new (by show 1 ≤ 1000; decide) fun r nr => ?_⟩
          refine k r [v1] _ (same2 (eq.trans e5) nr) ((eq.trans e5).free nr) upd_same ?_
          rw [leaf_leaves n hp]
          exact .cons (Dt.keep (TK.new nr) _ d1) .nil
        | cons x xs' =>
          have hp : t.parts ≠ [] := fun z => by
            have := dl'.length
            rw [hxs, List.length_map, z] at this
            cases this
          rw [partLeaves_all n hp] at dy
          refine iteT ⟨_, rfl, k l2 ys _ eq nl2 ((upd_ne (ne_of_none hl2 nq)).trans hl2) (DtAll.keep (TK.new nq) _ dy)⟩
end
end RS

/-! Walks: the program's walks over a term by a list of what is left: nodes_of, depth_of, leaves_of; spine, applied; the law's size. -/
namespace RS
open PySem PySem.Spec PyProof.Rows L2

theorem same_mut {H H1 : Hp} {l : Addr} {o : HO} (e : Same H H1) (h : H l = none) : Same H (upd H1 l o) := fun b u q => by rw [upd_ne (ne_of_none q h)]; exact e b u q
theorem DtAll.snocI {K : PySem.W.Frag} {H : Hp} : ∀ {xs : List V} {ds : List PyData} {d : PyData}, DtAll K H xs (ds ++ [d]) → ∃ ys y, xs = ys ++ [y] ∧ DtAll K H ys ds ∧ Dt K H y d
  | xs, [], d, h => by
    obtain ⟨v, ws, rfl, h1, r⟩ := DtAll.consI (show DtAll K H xs (d :: []) from h)
    obtain rfl := r.nilI
    exact ⟨[], v, rfl, .nil, h1⟩
  | xs, e :: ds, d, h => by
    obtain ⟨v, ws, rfl, h1, r⟩ := DtAll.consI (show DtAll K H xs (e :: (ds ++ [d])) from h)
    obtain ⟨ys, y, rfl, h2, h3⟩ := DtAll.snocI r
    exact ⟨v :: ys, y, rfl, .cons h1 h2, h3⟩
def sumN (ts : List Tm) : Nat := (ts.map Tm.nodes).sum
theorem sumN_app (a b : List Tm) : sumN (a ++ b) = sumN a + sumN b := by simp [sumN, List.map_append, List.sum_append]
theorem sumN_rev (a : List Tm) : sumN a.reverse = sumN a := by
  induction a with
  | nil => rfl
  | cons t a ih => rw [List.reverse_cons, sumN_app, ih]; simp [sumN]; omega
theorem sumN_len (a : List Tm) : a.length ≤ sumN a := by
  induction a with
  | nil => exact Nat.le_refl _
  | cons t a ih => have := t.nodes_pos; simp only [sumN, List.map_cons, List.sum_cons, List.length_cons] at *; omega
theorem sumN_cons (t : Tm) (a : List Tm) : sumN (t :: a) = t.nodes + sumN a := by simp [sumN]
def Tm.kids (t : Tm) : List Tm := t.parts.map (·.1)
theorem Tm.nodes_kids (t : Tm) : t.nodes = 1 + sumN t.kids := by cases t <;> simp [Tm.kids, Tm.parts, sumN, Tm.nodes]
theorem Tm.kids_wf {t p : Tm} (wf : t.wf) (h : p ∈ t.kids) : p.wf := by
  obtain ⟨q, hq, rfl⟩ := List.mem_map.mp h
  exact Tm.part_wf wf hq
theorem Tm.depth_kids (t : Tm) : (t.kids = [] ∧ t.depth = 1) ∨ ∃ p ∈ t.kids, p.depth + 1 = t.depth := by
  cases t with
  | bin w m a b =>
    refine .inr ?_
    by_cases h : a.depth ≤ b.depth
    · exact ⟨b, by simp [Tm.kids, Tm.parts], by simp only [Tm.depth]; omega⟩
    · exact ⟨a, by simp [Tm.kids, Tm.parts], by simp only [Tm.depth]; omega⟩
  | app a w b =>
    refine .inr ?_
    by_cases h : a.depth ≤ b.depth
    · exact ⟨b, by simp [Tm.kids, Tm.parts], by simp only [Tm.depth]; omega⟩
    · exact ⟨a, by simp [Tm.kids, Tm.parts], by simp only [Tm.depth]; omega⟩
  | letT a b c =>
    refine .inr ?_
    by_cases h : a.depth ≤ b.depth
    · by_cases h2 : b.depth ≤ c.depth
      · exact ⟨c, by simp [Tm.kids, Tm.parts], by simp only [Tm.depth]; omega⟩
      · exact ⟨b, by simp [Tm.kids, Tm.parts], by simp only [Tm.depth]; omega⟩
    · by_cases h2 : a.depth ≤ c.depth
      · exact ⟨c, by simp [Tm.kids, Tm.parts], by simp only [Tm.depth]; omega⟩
      · exact ⟨a, by simp [Tm.kids, Tm.parts], by simp only [Tm.depth]; omega⟩
  | num _ _ => exact .inl ⟨rfl, rfl⟩
  | name _ => exact .inl ⟨rfl, rfl⟩
  | count _ _ => exact .inl ⟨rfl, rfl⟩
theorem Tm.kid_lt {t p : Tm} (h : p ∈ t.kids) : p.depth < t.depth ∧ p.nodes < t.nodes := by
  obtain ⟨q, hq, rfl⟩ := List.mem_map.mp h
  exact Tm.part_lt hq

section
variable {P : Program} {w : World} {K : PySem.W.Frag} {mg : Str → Option Value} {base : Heap}
/-- a list's last item is taken off -/
theorem pop_last {l : Addr} {ys : List V} {y : V} {H : Hp} {Q : VK} (hl : H l = some (.lst (ys ++ [y]))) (q : Q y (upd H l (.lst ys))) : tyV K "list" (.ref l) H ∧ rPop (.ref l) [] H Q := by
  refine ⟨.inl ⟨rfl, _, SqL.of hl⟩, l, ys ++ [y], y, rfl, rfl, hl, by simp, ?_⟩
  rw [List.dropLast_concat]
  exact q
/-! ### nodes_of -/
theorem sc_nodes_of : FnScope ["term", "many", "left", "part", "ahead"] ["term"] (defScope s_nodes_of) := ⟨rfl, rfl, rfl, by decide +kernel, rfl, by decide +kernel, by decide +kernel⟩
def spNodes (K : PySem.W.Frag) : Sp := fun vs H Q _ => ∃ (v : V) (t : Tm), vs = [v] ∧ Dt K H v t.pd ∧ t.wf ∧ t.nodes ≤ 100000 ∧ ∀ H', Same H H' → Q (.int t.nodes) H'
theorem ok_nodes_of {f : Addr} {fd : FuncData} (F : Fun K "nodes_of" "nodes_of" s_nodes_of f fd) (Down_parts : Df P w K mg base "own_parts" 1 ["term"] (spParts K)) : FnOk P w K mg base CX0 2 f fd ["term"] (spNodes K) := by
  refine F.ok sc_nodes_of (fun vs H Q E h => ?_) (fun cdv A outer s H vs Q E hr h => ?_)
  · obtain ⟨v, t, rfl, _⟩ := h; rfl
  · obtain ⟨v, t, rfl, hv, wf, hn, k⟩ := h
    have nd := sc_nodes_of.nd
    refine ⟨_, (pss_cons (ps_par (i := 1) (j := 2) rfl nd rfl rfl (by decide) rfl rfl (pa_cons pe_int (pa_cons (pe_lstN (pa_cons (pv 0) pa_nil)) pa_nil)) rfl)
      (pss_cons (ps_while PassesOwn.never (pt_cmpR (uNe hr.units) (pv 2) (pe_lstN pa_nil) (nomark _))
        (pss_cons (ps_set (i := 1) nd rfl (Or.inl rfl) (pe_op uAdd (pv 1) pe_int))
        (pss_one (ps_set (i := 2) nd rfl (Or.inl rfl) (pe_op uAdd (pv 2) (pe_lc (own := [("part", 3), ("ahead", 4)]) (g := gTup K 2 (gCons (gName 3) (gCons (gName 4) gNil))) rfl nd (pi_seq (pe_df Down_parts hr (by omega) (pa_cons (pe_bm0 PySem.F.plainAttrs_list PySem.F.slot_list_pop PySem.F.type_list_pop mt_pop (pv 2)) pa_nil))) (blkOk_by (own := [("part", 3), ("ahead", 4)]) (N := ["term", "many", "left", "part", "ahead"]) (sc := defScope s_nodes_of) (by decide +kernel)) (fun _ _ _ _ _ => (pg_tup rfl (pgs_cons (pg_name (i := 3) nd rfl (Or.inl rfl)) (pgs_cons (pg_name (i := 4) nd rfl (Or.inl rfl)) pgs_nil)))) (fun _ _ _ _ _ => pts_nil) (fun _ _ _ _ _ => (pv 3))))))))
      (pss_one (ps_ret (pv 1))))), ?_⟩
    refine ⟨_, rfl, lst_new (by show 1 ≤ 1000; decide) fun l0 nl0 => ⟨_, _, rfl, ?_⟩⟩
    refine ⟨fun m σ H1 => ∃ (many : Nat) (l : Addr) (st : List Tm) (xs : List V) (v3 v4 : Option V), σ = [some v, some (.int many), some (.ref l), v3, v4] ∧ Same H H1 ∧ H l = none ∧ H1 l = some (.lst xs) ∧ DtAll K H1 xs (st.reverse.map Tm.pd) ∧
      (∀ u ∈ st, u.wf) ∧ many + sumN st = t.nodes ∧ m = sumN st, ⟨_, 0, l0, [t], [v], none, none, rfl, same_new nl0, nl0, upd_same, .cons (Dt.keep (TK.new nl0) _ hv) .nil, by simpa using wf, by simp [sumN], rfl⟩, ?_⟩
    rintro m σ H1 ⟨many, l, st, xs, v3, v4, rfl, e1, nl, hl, dx, hwf, hsum, rfl⟩
    refine ⟨_, rfl, lst_new (Nat.zero_le _) fun q nq => eq_n (SqL.of ((upd_ne (ne_of_none hl nq)).trans hl)) (SqL.of upd_same) rfl ⟨_, rfl, ?_⟩⟩
    have e2 : Same H (upd H1 q (.lst [])) := same2 e1 nq
    have hl2 : upd H1 q (.lst []) l = some (.lst xs) := (upd_ne (ne_of_none hl nq)).trans hl
    have dx2 := DtAll.keep (K := K) (TK.new (o := .lst []) nq) _ dx
    generalize upd H1 q (.lst []) = H2 at e2 hl2 dx2
    clear e1 hl dx nq
    cases st with
    | nil =>
      obtain rfl := dx2.nilI
      refine iteF ⟨_, rfl, ?_⟩
      have : many = t.nodes := by simpa [sumN] using hsum
      rw [this]
      exact k H2 e2
    | cons u st =>
      rw [List.reverse_cons, List.map_append] at dx2
      obtain ⟨ys, y, rfl, dy, du⟩ := dx2.snocI
      have wfu := hwf u List.mem_cons_self
      refine (show ∀ {A B : Prop} {b : Bool}, b = true → A → (if b = true then A else B) from fun h a => by rw [if_pos h]; exact a) (by cases ys <;> rfl) ?_
      refine ⟨fun σ' H' => ∃ m', m' < sumN (u :: st) ∧ _, fun σ' H' h => h, ?_⟩
      refine ⟨_, rfl, add_i ⟨_, rfl, _, rfl, pop_last hl2 ⟨y, u, rfl, Dt.keep (TK.lst hl2) _ du, wfu, fun la zs H3 e3 nla hla dz => ?_⟩⟩⟩
      have dy3 := DtAll.keep (K := K) (TK.same e3) _ (DtAll.keep (TK.lst (o := .lst ys) hl2) _ dy)
      have hl3 : H3 l = some (.lst ys) := e3 _ _ upd_same
      have e3' : Same H H3 := (same_mut e2 nl).trans e3
      refine ⟨la, rfl, .inl ⟨⟨_, SqL.of hla⟩, fun D nD => lc_list (K := K) (a := la) (xs := zs) (fun i H4 => ∃ ws, Same H3 H4 ∧ H4 D = some (.lst ws) ∧ DtAll K H4 ws ((u.kids.take i).map Tm.pd))
        ⟨[], same_new nD, upd_same, .nil⟩ (fun i H4 _ ⟨_, e, _⟩ => SqL.of (e _ _ hla)) (fun i x H4 hx ⟨ws, e4, hD, dw⟩ => ?_) (fun H4 ⟨ws, e4, hD, dw⟩ => ?_)⟩⟩
      · obtain ⟨pt, n, p, vp, hp, rfl, hT, dp⟩ := parts_at (DtAll.keep (TK.same e4) _ dz) hx
        refine ⟨p, _, rfl, hT, rfl, vp, _, rfl, .int n, _, rfl, rfl, rfl, _, rfl, ws, hD, ?_, ws ++ [vp], same_mut e4 nD, upd_same, ?_⟩
        · have := dw.length
          rw [List.length_map, List.length_take] at this
          have l1 := sumN_len u.kids
          have l2 := u.nodes_kids
          rw [sumN_cons] at hsum
          rw [sizeLine_eq]; omega
        · have : u.kids.take (i + 1) = u.kids.take i ++ [pt] := take_snoc (by rw [Tm.kids, List.getElem?_map, hp]; rfl)
          rw [this, List.map_append]
          exact DtAll.append (DtAll.keep (TK.lst hD) _ dw) (.cons (Dt.keep (TK.lst hD) _ dp) .nil)
      · rw [show zs.length = u.kids.length by rw [dz.length, List.length_map, Tm.kids, List.length_map], List.take_length] at dw
        have l1 := sumN_len u.kids
        have l2 := u.nodes_kids
        have l3 := sumN_len st
        rw [sumN_cons] at hsum
        refine add_l (e4 _ _ hl3) hD ?_ fun r nr => ?_
        · rw [dy.length, dw.length]
          simp only [List.length_map, List.length_reverse]
          rw [sizeLine_eq]; omega
        · refine ⟨sumN (u.kids.reverse ++ st), ?_, many + 1, r, u.kids.reverse ++ st, ys ++ ws, v3, v4, by simp, (e3'.trans e4).trans (same_new nr), (e3'.trans e4).free nr, upd_same, ?_, ?_, ?_, rfl⟩
          · rw [sumN_app, sumN_rev, sumN_cons]; omega
          · have : ((u.kids.reverse ++ st).reverse.map Tm.pd) = st.reverse.map Tm.pd ++ u.kids.map Tm.pd := by simp
            rw [this]
            exact DtAll.append (DtAll.keep ((TK.same e4).trans (TK.new nr)) _ dy3) (DtAll.keep (TK.new nr) _ dw)
          · intro p hp
            rcases List.mem_append.mp hp with hp | hp
            · exact Tm.kids_wf wfu (List.mem_reverse.mp hp)
            · exact hwf p (List.mem_cons_of_mem _ hp)
          · rw [sumN_app, sumN_rev]; omega
/-! ### depth_of -/
theorem sc_depth_of : FnScope ["term", "most", "left", "one", "deep", "part", "ahead"] ["term"] (defScope s_depth_of) := ⟨rfl, rfl, rfl, by decide +kernel, rfl, by decide +kernel, by decide +kernel⟩
def spDepth (K : PySem.W.Frag) : Sp := fun vs H Q _ => ∃ (v : V) (t : Tm), vs = [v] ∧ Dt K H v t.pd ∧ t.wf ∧ t.nodes ≤ 100000 ∧ ∀ H', Same H H' → Q (.int t.depth) H'
def pdD (p : Tm × Nat) : PyData := .tuple [p.1.pd, .int p.2]
theorem ok_depth_of {f : Addr} {fd : FuncData} (F : Fun K "depth_of" "depth_of" s_depth_of f fd) (n_max : mg "max" = none) (Down_parts : Df P w K mg base "own_parts" 1 ["term"] (spParts K)) : FnOk P w K mg base CX0 2 f fd ["term"] (spDepth K) := by
  refine F.ok sc_depth_of (fun vs H Q E h => ?_) (fun cdv A outer s H vs Q E hr h => ?_)
  · obtain ⟨v, t, rfl, _⟩ := h; rfl
  · obtain ⟨v, t, rfl, hv, wf, hn, k⟩ := h
    have nd := sc_depth_of.nd
    refine ⟨_, (pss_cons (ps_par (i := 1) (j := 2) rfl nd rfl rfl (by decide) rfl rfl (pa_cons pe_int (pa_cons (pe_lstN (pa_cons (pe_tupN (pa_cons (pv 0) (pa_cons pe_int pa_nil))) pa_nil)) pa_nil)) rfl)
      (pss_cons (ps_while PassesOwn.never (pt_cmpR (uNe hr.units) (pv 2) (pe_lstN pa_nil) (nomark _))
        (pss_cons (ps_asg (pe_bm0 PySem.F.plainAttrs_list PySem.F.slot_list_pop PySem.F.type_list_pop mt_pop (pv 2)) (pg_tup rfl (pgs_cons (pg_name (i := 3) nd rfl (Or.inl rfl)) (pgs_cons (pg_name (i := 4) nd rfl (Or.inr rfl)) pgs_nil))))
        (pss_cons (ps_set (i := 1) nd rfl (Or.inl rfl) (pe_callB (call_max2 rfl) (by rfl) n_max (by decide +kernel) (pa_cons (pv 1) (pa_cons (pv 4) pa_nil))))
        (pss_one (ps_set (i := 2) nd rfl (Or.inl rfl) (pe_op uAdd (pv 2) (pe_lc (own := [("part", 5), ("ahead", 6)]) (g := gTup K 2 (gCons (gName 5) (gCons (gName 6) gNil))) rfl nd (pi_seq (pe_df Down_parts hr (by omega) (pa_cons (pv 3) pa_nil))) (blkOk_by (own := [("part", 5), ("ahead", 6)]) (N := ["term", "most", "left", "one", "deep", "part", "ahead"]) (sc := defScope s_depth_of) (by decide +kernel)) (fun _ _ _ _ _ => (pg_tup rfl (pgs_cons (pg_name (i := 5) nd rfl (Or.inl rfl)) (pgs_cons (pg_name (i := 6) nd rfl (Or.inl rfl)) pgs_nil)))) (fun _ _ _ _ _ => pts_nil) (fun _ _ _ _ _ => (pe_tupN (pa_cons (pv 5) (pa_cons (pe_op (uAddK (K := K) rfl) (pv 4) pe_int) pa_nil)))))))))))
      (pss_one (ps_ret (pv 1))))), ?_⟩
    refine ⟨_, rfl, tup_new (K := K) (ds := [t.pd, .int 1]) (.cons hv (.cons (.int 1) .nil)) (by show 2 ≤ 1000; decide) fun v0 H0 e0 d0 => lst_new (by show 1 ≤ 1000; decide) fun l0 nl0 => ⟨_, _, rfl, ?_⟩⟩
    refine ⟨fun m σ H1 => ∃ (most : Nat) (l : Addr) (st : List (Tm × Nat)) (xs : List V) (v3 v4 v5 v6 : Option V), σ = [some v, some (.int most), some (.ref l), v3, v4, v5, v6] ∧ Same H H1 ∧ H l = none ∧ H1 l = some (.lst xs) ∧ DtAll K H1 xs (st.reverse.map pdD) ∧
      (∀ u ∈ st, u.1.wf ∧ 1 ≤ u.2 ∧ u.2 + u.1.depth ≤ t.depth + 1) ∧ most ≤ t.depth ∧ (most = t.depth ∨ ∃ u ∈ st, u.2 + u.1.depth = t.depth + 1) ∧ sumN (st.map (·.1)) ≤ t.nodes ∧ m = sumN (st.map (·.1)),
      ⟨_, 0, l0, [(t, 1)], [v0], none, none, none, none, rfl, same2 e0 nl0, e0.free nl0, upd_same, .cons (Dt.keep (TK.new nl0) _ d0) .nil, by simpa [Nat.add_comm] using wf, Nat.zero_le _, .inr ⟨(t, 1), by simp, by simp [Nat.add_comm]⟩, by simp [sumN], rfl⟩, ?_⟩
    rintro m σ H1 ⟨most, l, st, xs, v3, v4, v5, v6, rfl, e1, nl, hl, dx, hst, hmost, hatt, hsum, rfl⟩
    refine ⟨_, rfl, lst_new (Nat.zero_le _) fun q nq => eq_n (SqL.of ((upd_ne (ne_of_none hl nq)).trans hl)) (SqL.of upd_same) rfl ⟨_, rfl, ?_⟩⟩
    have e2 : Same H (upd H1 q (.lst [])) := same2 e1 nq
    have hl2 : upd H1 q (.lst []) l = some (.lst xs) := (upd_ne (ne_of_none hl nq)).trans hl
    have dx2 := DtAll.keep (K := K) (TK.new (o := .lst []) nq) _ dx
    generalize upd H1 q (.lst []) = H2 at e2 hl2 dx2
    clear e1 hl dx nq
    cases st with
    | nil =>
      obtain rfl := dx2.nilI
      refine iteF ⟨_, rfl, ?_⟩
      have : most = t.depth := by simpa using hatt
      rw [this]
      exact k H2 e2
    | cons ud st =>
      obtain ⟨u, dp⟩ := ud
      rw [List.reverse_cons, List.map_append] at dx2
      obtain ⟨ys, y, rfl, dy, du⟩ := dx2.snocI
      obtain ⟨wfu, dp1, hub⟩ := hst (u, dp) List.mem_cons_self
      simp only at wfu dp1 hub
      obtain ⟨py, zs, rfl, hTy, rz⟩ := Dt.tupI (show Dt K H2 y (.tuple [u.pd, .int dp]) from du)
      obtain ⟨vu, zs, rfl, du1, rz⟩ := rz.consI
      obtain ⟨v2, zs, rfl, du2, rz⟩ := rz.consI
      obtain rfl := rz.nilI; obtain rfl := du2.intI
      refine (show ∀ {A B : Prop} {b : Bool}, b = true → A → (if b = true then A else B) from fun h a => by rw [if_pos h]; exact a) (by cases ys <;> rfl) ?_
      refine ⟨fun σ' H' => ∃ m', m' < sumN (((u, dp) :: st).map (·.1)) ∧ _, fun σ' H' h => h, ?_⟩
      refine ⟨_, rfl, pop_last hl2 ⟨py, _, rfl, TK.lst hl2 _ _ hTy, rfl, vu, _, rfl, .int dp, _, rfl, rfl, ?_⟩⟩
      refine ⟨_, rfl, _, rfl, _, _, rfl, ?_⟩
      refine ⟨_, rfl, _, rfl, vu, u, rfl, Dt.keep (TK.lst hl2) _ du1, wfu, fun la zs H3 e3 nla hla dz => ?_⟩
      have dy3 := DtAll.keep (K := K) (TK.same e3) _ (DtAll.keep (TK.lst (o := .lst ys) hl2) _ dy)
      have hl3 : H3 l = some (.lst ys) := e3 _ _ upd_same
      have e3' : Same H H3 := (same_mut e2 nl).trans e3
      refine ⟨la, rfl, .inl ⟨⟨_, SqL.of hla⟩, fun D nD => lc_list (K := K) (a := la) (xs := zs) (fun i H4 => ∃ ws, Same H3 H4 ∧ H4 D = some (.lst ws) ∧ DtAll K H4 ws ((u.kids.take i).map fun p => pdD (p, dp + 1)))
        ⟨[], same_new nD, upd_same, .nil⟩ (fun i H4 _ ⟨_, e, _⟩ => SqL.of (e _ _ hla)) (fun i x H4 hx ⟨ws, e4, hD, dw⟩ => ?_) (fun H4 ⟨ws, e4, hD, dw⟩ => ?_)⟩⟩
      · obtain ⟨pt, n, p, vp, hp, rfl, hT, dvp⟩ := parts_at (DtAll.keep (TK.same e4) _ dz) hx
        refine ⟨p, _, rfl, hT, rfl, vp, _, rfl, .int n, _, rfl, rfl, rfl, _, rfl, _, rfl, add_i (tup_at (by show 2 ≤ 1000; decide) fun r nr => ⟨ws, (upd_ne (ne_of_none hD nr)).trans hD, ?_, ws ++ [.ref r], ?_, upd_same, ?_⟩)⟩
        · have := dw.length
          rw [List.length_map, List.length_take] at this
          have l1 := sumN_len u.kids
          have l2 := u.nodes_kids
          simp only [List.map_cons, sumN_cons] at hsum
          rw [sizeLine_eq]; omega
        · exact same_mut (same2 e4 nr) nD
        · have : u.kids.take (i + 1) = u.kids.take i ++ [pt] := take_snoc (by rw [Tm.kids, List.getElem?_map, hp]; rfl)
          have hDr : upd H4 r (.tup [vp, .int (↑dp + 1)]) D = some (.lst ws) := (upd_ne (ne_of_none hD nr)).trans hD
          rw [this, List.map_append]
          refine DtAll.append (DtAll.keep ((TK.new nr).trans (TK.lst hDr)) _ dw) (.cons ?_ .nil)
          refine Dt.keep (TK.lst hDr) _ (show Dt K _ (.ref r) (.tuple [pt.pd, .int ((dp + 1 : Nat) : Int)]) from .tup (SqT.of upd_same) (.cons (Dt.keep (TK.new nr) _ dvp) (.cons ?_ .nil)))
          have : ((dp + 1 : Nat) : Int) = (dp : Int) + 1 := by omega
          rw [this]; exact .int _
      · rw [show zs.length = u.kids.length by rw [dz.length, List.length_map, Tm.kids, List.length_map], List.take_length] at dw
        have l1 := sumN_len u.kids
        have l2 := u.nodes_kids
        have l3 := sumN_len (st.map (·.1))
        simp only [List.map_cons, sumN_cons] at hsum
        refine add_l (e4 _ _ hl3) hD ?_ fun r nr => ?_
        · rw [dy.length, dw.length]
          simp only [List.length_map, List.length_reverse] at *
          rw [sizeLine_eq]; omega
        · have emax : (if (dp : Int) > (most : Int) then (dp : Int) else (most : Int)) = ((max most dp : Nat) : Int) := by
            split <;> omega
          have emap : (u.kids.reverse.map fun p => (p, dp + 1)).map (·.1) = u.kids.reverse := by simp [List.map_map, Function.comp_def]
          have du1 := u.depth_pos
          refine ⟨sumN (((u.kids.reverse.map fun p => (p, dp + 1)) ++ st).map (·.1)), ?_, max most dp, r, (u.kids.reverse.map fun p => (p, dp + 1)) ++ st, ys ++ ws, some vu, some (.int dp), v5, v6, ?_, (e3'.trans e4).trans (same_new nr), (e3'.trans e4).free nr, upd_same, ?_, ?_, ?_, ?_, ?_, rfl⟩
          · rw [List.map_append, emap, sumN_app, sumN_rev]; simp only [List.map_cons, sumN_cons]; omega
          · rw [← emax]; rfl
          · have : (((u.kids.reverse.map fun p => (p, dp + 1)) ++ st).reverse.map pdD) = st.reverse.map pdD ++ u.kids.map fun p => pdD (p, dp + 1) := by simp [List.map_reverse, Function.comp_def]
            rw [this]
            exact DtAll.append (DtAll.keep ((TK.same e4).trans (TK.new nr)) _ dy3) (DtAll.keep (TK.new nr) _ dw)
          · intro p hp
            rcases List.mem_append.mp hp with hp | hp
            · obtain ⟨q, hq, rfl⟩ := List.mem_map.mp hp
              have hq' := List.mem_reverse.mp hq
              have := Tm.kid_lt hq'
              exact ⟨Tm.kids_wf wfu hq', by simp, by simp only; omega⟩
            · exact hst p (List.mem_cons_of_mem _ hp)
          · omega
          · rcases hatt with h | ⟨p, hp, h⟩
            · exact .inl (by omega)
            · rcases List.mem_cons.mp hp with rfl | hp
              · simp only at h
                rcases u.depth_kids with ⟨_, h2⟩ | ⟨q, hq, h2⟩
                · exact .inl (by omega)
                · exact .inr ⟨(q, dp + 1), List.mem_append_left _ (List.mem_map.mpr ⟨q, List.mem_reverse.mpr hq, rfl⟩), by simp only; omega⟩
              · exact .inr ⟨p, List.mem_append_right _ hp, h⟩
          · rw [List.map_append, emap, sumN_app, sumN_rev]; omega
end
end RS

/-! Spines: leaves_of, spine, applied, the law's own size. -/
namespace RS
open PySem PySem.Spec PyProof.Rows L2

def Tm.lvs : Tm → List Tm
  | .bin _ _ a b => a.lvs ++ b.lvs
  | .letT a b c => a.lvs ++ (b.lvs ++ c.lvs)
  | .app f _ x => f.lvs ++ x.lvs
  | .num w k => [.num w k]
  | .name x => [.name x]
  | .count x k => [.count x k]
theorem Tm.leaves_fst : ∀ (t : Tm) (n : Int), (t.leaves n).map (·.1) = t.lvs
  | .bin _ _ a b, n => by simp only [Tm.leaves, Tm.lvs, List.map_append, a.leaves_fst, b.leaves_fst]
  | .letT a b c, n => by simp only [Tm.leaves, Tm.lvs, List.map_append, a.leaves_fst, b.leaves_fst, c.leaves_fst]
  | .app f _ x, n => by simp only [Tm.leaves, Tm.lvs, List.map_append, f.leaves_fst, x.leaves_fst]
  | .num _ _, _ => rfl
  | .name _, _ => rfl
  | .count _ _, _ => rfl
theorem Tm.lvs_len (t : Tm) : t.lvs.length ≤ t.nodes := by have := t.leaves_len 0; rw [← t.leaves_fst 0, List.length_map]; exact this
def lvsAll (ts : List Tm) : List Tm := ts.flatMap Tm.lvs
theorem lvsAll_len (ts : List Tm) : (lvsAll ts).length ≤ sumN ts := by
  induction ts with
  | nil => exact Nat.le_refl _
  | cons t ts ih => have := t.lvs_len; simp only [lvsAll, List.flatMap_cons, List.length_append, sumN_cons] at *; omega
theorem Tm.lvs_kids {t : Tm} (h : t.kids ≠ []) : t.lvs = lvsAll t.kids := by
  cases t <;> simp_all [Tm.kids, Tm.parts, lvsAll, Tm.lvs]
theorem Tm.lvs_leaf {t : Tm} (h : t.kids = []) : t.lvs = [t] := by
  cases t <;> simp_all [Tm.kids, Tm.parts, Tm.lvs]
theorem Tm.lvs_wf : ∀ {t : Tm}, t.wf → ∀ u ∈ t.lvs, u.wf
  | .bin _ _ a b, h, u, hu => by
    rcases List.mem_append.mp hu with hu | hu
    · exact Tm.lvs_wf h.2.2.1 u hu
    · exact Tm.lvs_wf h.2.2.2 u hu
  | .letT a b c, h, u, hu => by
    rcases List.mem_append.mp hu with hu | hu
    · exact Tm.lvs_wf h.1 u hu
    · rcases List.mem_append.mp hu with hu | hu
      · exact Tm.lvs_wf h.2.1 u hu
      · exact Tm.lvs_wf h.2.2 u hu
  | .app f _ x, h, u, hu => by
    rcases List.mem_append.mp hu with hu | hu
    · exact Tm.lvs_wf h.1 u hu
    · exact Tm.lvs_wf h.2.2 u hu
  | .num _ _, h, u, hu => by rw [List.mem_singleton.mp hu]; exact h
  | .name _, h, u, hu => by rw [List.mem_singleton.mp hu]; exact h
  | .count _ _, h, u, hu => by rw [List.mem_singleton.mp hu]; exact h
theorem Tm.lvs_isLeaf : ∀ {t : Tm}, ∀ u ∈ t.lvs, u.isLeaf = true
  | .bin _ _ a b, u, hu => by
    rcases List.mem_append.mp hu with hu | hu
    · exact Tm.lvs_isLeaf u hu
    · exact Tm.lvs_isLeaf u hu
  | .letT a b c, u, hu => by
    rcases List.mem_append.mp hu with hu | hu
    · exact Tm.lvs_isLeaf u hu
    · rcases List.mem_append.mp hu with hu | hu
      · exact Tm.lvs_isLeaf u hu
      · exact Tm.lvs_isLeaf u hu
  | .app f _ x, u, hu => by
    rcases List.mem_append.mp hu with hu | hu
    · exact Tm.lvs_isLeaf u hu
    · exact Tm.lvs_isLeaf u hu
  | .num _ _, u, hu => by rw [List.mem_singleton.mp hu]; rfl
  | .name _, u, hu => by rw [List.mem_singleton.mp hu]; rfl
  | .count _ _, u, hu => by rw [List.mem_singleton.mp hu]; rfl
theorem if_so {A B : Prop} {b : Bool} (h : b = true) (a : A) : if b = true then A else B := by rw [if_pos h]; exact a
theorem if_not {A B : Prop} {b : Bool} (h : b = false) (a : B) : if b = true then A else B := by rw [h]; exact iteF a
section
variable {P : Program} {w : World} {K : PySem.W.Frag} {mg : Str → Option Value} {base : Heap}
/-! ### leaves_of -/
theorem sc_leaves_of : FnScope ["term", "found", "left", "one", "parts", "part", "ahead"] ["term"] (defScope s_leaves_of) := ⟨rfl, rfl, rfl, by decide +kernel, rfl, by decide +kernel, by decide +kernel⟩
def spLeavesOf (K : PySem.W.Frag) : Sp := fun vs H Q _ => ∃ (v : V) (t : Tm), vs = [v] ∧ Dt K H v t.pd ∧ t.wf ∧ t.nodes ≤ 100000 ∧
  ∀ l xs H', Same H H' → H l = none → H' l = some (.lst xs) → DtAll K H' xs (t.lvs.map Tm.pd) → Q (.ref l) H'
theorem ok_leaves_of {f : Addr} {fd : FuncData} (F : Fun K "leaves_of" "leaves_of" s_leaves_of f fd) (Down_parts : Df P w K mg base "own_parts" 1 ["term"] (spParts K)) : FnOk P w K mg base CX0 2 f fd ["term"] (spLeavesOf K) := by
  refine F.ok sc_leaves_of (fun vs H Q E h => ?_) (fun cdv A outer s H vs Q E hr h => ?_)
  · obtain ⟨v, t, rfl, _⟩ := h; rfl
  · obtain ⟨v, t, rfl, hv, wf, hn, k⟩ := h
    have nd := sc_leaves_of.nd
    refine ⟨_, (pss_cons (ps_par (i := 1) (j := 2) rfl nd rfl rfl (by decide) rfl rfl (pa_cons (pe_lstN pa_nil) (pa_cons (pe_lstN (pa_cons (pv 0) pa_nil)) pa_nil)) rfl)
      (pss_cons (ps_while PassesOwn.never (pt_cmpR (uNe hr.units) (pv 2) (pe_lstN pa_nil) (nomark _))
        (pss_cons (ps_set (i := 3) nd rfl (Or.inl rfl) (pe_bm0 PySem.F.plainAttrs_list PySem.F.slot_list_pop PySem.F.type_list_pop mt_pop (pv 2)))
        (pss_cons (ps_set (i := 4) nd rfl (Or.inl rfl) (pe_df Down_parts hr (by omega) (pa_cons (pv 3) pa_nil)))
        (pss_cons (ps_join (ps_if (pt_cmpR (uEq hr.units) (pv 4) (pe_lstN pa_nil) (nomark _))
          (pss_one (ps_expr (pe_bm PySem.F.plainAttrs_list PySem.F.slot_list_append PySem.F.type_list_append mt_append (pv 1) (pa_cons (pv 3) pa_nil))))
          pss_nil))
        (pss_one (ps_set (i := 2) nd rfl (Or.inl rfl) (pe_op uAdd (pv 2) (pe_lc (own := [("part", 5), ("ahead", 6)]) (g := gTup K 2 (gCons (gName 5) (gCons (gName 6) gNil))) rfl nd (pi_seq (pe_revL (pv 4))) (blkOk_by (own := [("part", 5), ("ahead", 6)]) (N := ["term", "found", "left", "one", "parts", "part", "ahead"]) (sc := defScope s_leaves_of) (by decide +kernel)) (fun _ _ _ _ _ => (pg_tup rfl (pgs_cons (pg_name (i := 5) nd rfl (Or.inl rfl)) (pgs_cons (pg_name (i := 6) nd rfl (Or.inl rfl)) pgs_nil)))) (fun _ _ _ _ _ => pts_nil) (fun _ _ _ _ _ => (pv 5))))))))))
      (pss_one (ps_ret (pv 1))))), ?_⟩
    refine lst_new (Nat.zero_le _) fun lf nlf => ⟨_, rfl, lst_new (by show 1 ≤ 1000; decide) fun l0 nl0 => ⟨_, _, rfl, ?_⟩⟩
    have nlf0 : l0 ≠ lf := fun z => by rw [z, upd_same] at nl0; cases nl0
    refine ⟨fun m σ H1 => ∃ (l : Addr) (fs st : List Tm) (xs ys : List V) (v3 v4 v5 v6 : Option V), σ = [some v, some (.ref lf), some (.ref l), v3, v4, v5, v6] ∧ Same H H1 ∧ H l = none ∧ l ≠ lf ∧ H1 l = some (.lst xs) ∧ DtAll K H1 xs (st.reverse.map Tm.pd) ∧
      H1 lf = some (.lst ys) ∧ DtAll K H1 ys (fs.map Tm.pd) ∧ (∀ u ∈ st, u.wf) ∧ fs ++ lvsAll st = t.lvs ∧ sumN st ≤ t.nodes ∧ m = sumN st,
      ⟨_, l0, [], [t], [v], [], none, none, none, none, rfl, (same_new nlf).trans (same_new nl0), (same_new nlf).free nl0, nlf0, upd_same, .cons (Dt.keep ((TK.new nlf).trans (TK.new nl0)) _ hv) .nil,
        (upd_ne nlf0.symm).trans upd_same, .nil, by simpa using wf, by simp [lvsAll], by simp [sumN], rfl⟩, ?_⟩
    rintro m σ H1 ⟨l, fs, st, xs, ys, v3, v4, v5, v6, rfl, e1, nl, llf, hl, dx, hlf, dfs, hwf, happ, hsum, rfl⟩
    refine ⟨_, rfl, lst_new (Nat.zero_le _) fun q nq => eq_n (SqL.of ((upd_ne (ne_of_none hl nq)).trans hl)) (SqL.of upd_same) rfl ⟨_, rfl, ?_⟩⟩
    have e2 : Same H (upd H1 q (.lst [])) := same2 e1 nq
    have hl2 : upd H1 q (.lst []) l = some (.lst xs) := (upd_ne (ne_of_none hl nq)).trans hl
    have hlf2 : upd H1 q (.lst []) lf = some (.lst ys) := (upd_ne (ne_of_none hlf nq)).trans hlf
    have dx2 := DtAll.keep (K := K) (TK.new (o := .lst []) nq) _ dx
    have dfs2 := DtAll.keep (K := K) (TK.new (o := .lst []) nq) _ dfs
    generalize upd H1 q (.lst []) = H2 at e2 hl2 hlf2 dx2 dfs2
    clear e1 hl dx nq hlf dfs
    cases st with
    | nil =>
      obtain rfl := dx2.nilI
      refine iteF ⟨_, rfl, ?_⟩
      have : fs = t.lvs := by simpa [lvsAll] using happ
      rw [this] at dfs2
      exact k lf ys H2 e2 nlf hlf2 dfs2
    | cons u st =>
      rw [List.reverse_cons, List.map_append] at dx2
      obtain ⟨zs, y, rfl, dy, du⟩ := dx2.snocI
      have wfu := hwf u List.mem_cons_self
      rw [sumN_cons] at hsum
      have lfs : fs.length ≤ t.nodes := by
        have h1 := t.lvs_len
        have h2 := congrArg List.length happ
        rw [List.length_append] at h2
        omega
      refine if_so (by cases zs <;> rfl) ?_
      refine ⟨fun σ' H' => ∃ m', m' < sumN (u :: st) ∧ _, fun σ' H' h => h, ?_⟩
      refine ⟨_, rfl, pop_last hl2 ⟨_, rfl, y, u, rfl, Dt.keep (TK.lst hl2) _ du, wfu, fun la ps H3 e3 nla hla dz => ?_⟩⟩
      have hlf3 : H3 lf = some (.lst ys) := e3 _ _ ((upd_ne llf.symm).trans hlf2)
      have hl3 : H3 l = some (.lst zs) := e3 _ _ upd_same
      have e3' : Same H H3 := (same_mut e2 nl).trans e3
      have dy3 := DtAll.keep (K := K) (TK.same e3) _ (DtAll.keep (TK.lst (o := .lst zs) hl2) _ dy)
      have dfs3 := DtAll.keep (K := K) (TK.same e3) _ (DtAll.keep (TK.lst (o := .lst zs) hl2) _ dfs2)
      have du3 := Dt.keep (K := K) (TK.same e3) _ (Dt.keep (TK.lst (o := .lst zs) hl2) _ du)
      have lla : la ≠ l := fun z => by rw [z, upd_same] at nla; cases nla
      have llaf : la ≠ lf := fun z => by rw [z, upd_ne llf.symm, hlf2] at nla; cases nla
      clear dy du dfs2 hl2 hlf2 e3 e2
      -- if parts == []: found.append(one)
      have lps : ps.length = u.kids.length := by rw [dz.length, List.length_map, Tm.kids, List.length_map]
      refine ⟨fun σ' H5 => ∃ (fs' : List Tm) (ys' : List V), σ' = [some v, some (.ref lf), some (.ref l), some y, some (.ref la), v5, v6] ∧ Same H H5 ∧ H5 l = some (.lst zs) ∧ H5 la = some (.lst ps) ∧ H5 lf = some (.lst ys') ∧ DtAll K H5 zs (st.reverse.map Tm.pd) ∧ DtAll K H5 ps (u.parts.map pdP) ∧ DtAll K H5 ys' (fs'.map Tm.pd) ∧
          fs' ++ lvsAll (u.kids ++ st) = t.lvs, ?_, ?_⟩
      · refine ⟨_, rfl, lst_new (Nat.zero_le _) fun q nq => eq_n (SqL.of ((upd_ne (ne_of_none hla nq)).trans hla)) (SqL.of upd_same) rfl ⟨_, rfl, ?_⟩⟩
        have e4 : Same H (upd H3 q (.lst [])) := same2 e3' nq
        have hl4 : upd H3 q (.lst []) l = some (.lst zs) := (upd_ne (ne_of_none hl3 nq)).trans hl3
        have hlf4 : upd H3 q (.lst []) lf = some (.lst ys) := (upd_ne (ne_of_none hlf3 nq)).trans hlf3
        have hla4 : upd H3 q (.lst []) la = some (.lst ps) := (upd_ne (ne_of_none hla nq)).trans hla
        have dy4 := DtAll.keep (K := K) (TK.new (o := .lst []) nq) _ dy3
        have dfs4 := DtAll.keep (K := K) (TK.new (o := .lst []) nq) _ dfs3
        have du4 := Dt.keep (K := K) (TK.new (o := .lst []) nq) _ du3
        have dz4 := DtAll.keep (K := K) (TK.new (o := .lst []) nq) _ dz
        by_cases hk : u.kids = []
        · refine if_so (by rw [hk] at lps; rw [List.length_eq_zero_iff.mp lps]; rfl) ?_
          refine ⟨_, rfl, .inl ⟨rfl, _, SqL.of hlf4⟩, _, rfl, lf, ys, y, rfl, rfl, hlf4, ?_, fs ++ [u], ys ++ [y], rfl, same_mut e4 nlf, (upd_ne llf).trans hl4, (upd_ne llaf).trans hla4, upd_same, DtAll.keep (TK.lst hlf4) _ dy4, DtAll.keep (TK.lst hlf4) _ dz4, ?_, ?_⟩
          · rw [dfs4.length, List.length_map, sizeLine_eq]; omega
          · rw [List.map_append]; exact DtAll.append (DtAll.keep (TK.lst hlf4) _ dfs4) (.cons (Dt.keep (TK.lst hlf4) _ du4) .nil)
          · rw [hk, ← happ]; simp [lvsAll, Tm.lvs_leaf hk]
        · refine if_not ?_ ⟨fs, ys, rfl, e4, hl4, hla4, hlf4, dy4, dz4, dfs4, ?_⟩
          · cases ps with
            | nil => exact absurd (List.length_eq_zero_iff.mp lps.symm) hk
            | cons _ _ => rfl
          · rw [← happ]; simp [lvsAll, Tm.lvs_kids hk]
      · rintro σ' H5 ⟨fs', ys', rfl, e5, hl5, hla5, hlf5, dy5, dz5, dfs5, happ5⟩
        have lfs' : fs'.length ≤ t.nodes := by
          have h1 := t.lvs_len
          have h2 := congrArg List.length happ5
          rw [List.length_append] at h2
          omega
        refine ⟨_, rfl, _, rfl, la, ps, rfl, SqL.of hla5, fun lr nlr => ?_⟩
        have dr : DtAll K (upd H5 lr (.lst ps.reverse)) ps.reverse (u.parts.reverse.map pdP) := by rw [List.map_reverse]; exact (DtAll.keep (TK.new nlr) _ dz5).reverse
        have nkeep : ∀ {b : Addr} {o : HO}, H5 b = some o → upd H5 lr (.lst ps.reverse) b = some o := fun h => (upd_ne (ne_of_none h nlr)).trans h
        have e6 : Same H (upd H5 lr (.lst ps.reverse)) := same2 e5 nlr
        have hl6 := nkeep hl5
        have hlf6 := nkeep hlf5
        have hlr6 : upd H5 lr (.lst ps.reverse) lr = some (.lst ps.reverse) := upd_same
        have dy6 := DtAll.keep (K := K) (TK.new (o := .lst ps.reverse) nlr) _ dy5
        have dfs6 := DtAll.keep (K := K) (TK.new (o := .lst ps.reverse) nlr) _ dfs5
        generalize upd H5 lr (.lst ps.reverse) = H6 at dr e6 hl6 hlf6 hlr6 dy6 dfs6
        refine ⟨lr, rfl, .inl ⟨⟨_, SqL.of hlr6⟩, fun D nD => lc_list (K := K) (a := lr) (xs := ps.reverse) (fun i H7 => ∃ ws, Same H6 H7 ∧ H7 D = some (.lst ws) ∧ DtAll K H7 ws ((u.kids.reverse.take i).map Tm.pd))
          ⟨[], same_new nD, upd_same, .nil⟩ (fun i H7 _ ⟨_, e, _⟩ => SqL.of (e _ _ hlr6)) (fun i x H7 hx ⟨ws, e7, hD, dw⟩ => ?_) (fun H7 ⟨ws, e7, hD, dw⟩ => ?_)⟩⟩
        · obtain ⟨pt, n, p, vp, hp, rfl, hT, dp⟩ := parts_at (DtAll.keep (TK.same e7) _ dr) hx
          refine ⟨p, _, rfl, hT, rfl, vp, _, rfl, .int n, _, rfl, rfl, rfl, _, rfl, ws, hD, ?_, ws ++ [vp], same_mut e7 nD, upd_same, ?_⟩
          · have := dw.length
            rw [List.length_map, List.length_take] at this
            have l1 := sumN_len u.kids
            have l2 := u.nodes_kids
            rw [List.length_reverse] at this
            rw [sizeLine_eq]; omega
          · have : u.kids.reverse.take (i + 1) = u.kids.reverse.take i ++ [pt] := take_snoc (by rw [Tm.kids, ← List.map_reverse, List.getElem?_map, hp]; rfl)
            rw [this, List.map_append]
            exact DtAll.append (DtAll.keep (TK.lst hD) _ dw) (.cons (Dt.keep (TK.lst hD) _ dp) .nil)
        · rw [show ps.reverse.length = u.kids.reverse.length by rw [List.length_reverse, List.length_reverse, lps], List.take_length] at dw
          have l1 := sumN_len u.kids
          have l2 := u.nodes_kids
          have l3 := sumN_len st
          refine add_l (e7 _ _ hl6) hD ?_ fun r nr => ?_
          · rw [dy6.length, dw.length]
            simp only [List.length_map, List.length_reverse]
            rw [sizeLine_eq]; omega
          · have nrlf : r ≠ lf := (ne_of_none (e7 _ _ hlf6) nr).symm
            refine ⟨sumN (u.kids ++ st), ?_, r, fs', u.kids ++ st, zs ++ ws, ys', some y, some (.ref la), v5, v6, by simp, (e6.trans e7).trans (same_new nr), (e6.trans e7).free nr, nrlf, upd_same, ?_, (upd_ne nrlf.symm).trans (e7 _ _ hlf6), DtAll.keep ((TK.same e7).trans (TK.new nr)) _ dfs6, ?_, happ5, ?_, rfl⟩
            · rw [sumN_app, sumN_cons]; omega
            · have : ((u.kids ++ st).reverse.map Tm.pd) = st.reverse.map Tm.pd ++ u.kids.reverse.map Tm.pd := by simp
              rw [this]
              exact DtAll.append (DtAll.keep ((TK.same e7).trans (TK.new nr)) _ dy6) (DtAll.keep (TK.new nr) _ dw)
            · intro p hp
              rcases List.mem_append.mp hp with hp | hp
              · exact Tm.kids_wf wfu hp
              · exact hwf p (List.mem_cons_of_mem _ hp)
            · rw [sumN_app]; omega
/-! ### spine -/
def Tm.head : Tm → Tm
  | .app f _ _ => f.head
  | t => t
def Tm.args : Tm → List (Str × Tm)
  | .app f m x => f.args ++ [(m, x)]
  | _ => []
def pdA (p : Str × Tm) : PyData := .tuple [.str p.1, p.2.pd]
def Tm.applied (h : Tm) (as : List (Str × Tm)) : Tm := as.foldl (fun f a => .app f a.1 a.2) h
theorem Tm.args_len : ∀ t : Tm, t.args.length ≤ t.nodes
  | .app f m x => by have := f.args_len; have := x.nodes_pos; simp only [Tm.args, Tm.nodes, List.length_append, List.length_cons, List.length_nil]; omega
  | .num _ _ => Nat.zero_le _
  | .name _ => Nat.zero_le _
  | .count _ _ => Nat.zero_le _
  | .bin _ _ _ _ => Nat.zero_le _
  | .letT _ _ _ => Nat.zero_le _
theorem sc_spine : FnScope ["term", "arguments"] ["term"] (defScope s_spine) := ⟨rfl, rfl, rfl, by decide +kernel, rfl, by decide +kernel, by decide +kernel⟩
def spSpine (K : PySem.W.Frag) : Sp := fun vs H Q _ => ∃ (v : V) (t : Tm), vs = [v] ∧ Dt K H v t.pd ∧ t.wf ∧ t.nodes ≤ 100000 ∧ ∀ v' H', Same H H' → Dt K H' v' (.tuple [t.head.pd, .tuple (t.args.map pdA)]) → Q v' H'
theorem ok_spine {f : Addr} {fd : FuncData} (F : Fun K "spine" "spine" s_spine f fd) (n_tuple : mg "tuple" = none) : FnOk P w K mg base CX0 1 f fd ["term"] (spSpine K) := by
  refine F.ok sc_spine (fun vs H Q E h => ?_) (fun cdv A outer s H vs Q E hr h => ?_)
  · obtain ⟨v, t, rfl, _⟩ := h; rfl
  · obtain ⟨v, t, rfl, hv, wf, hn, k⟩ := h
    have nd := sc_spine.nd
    refine ⟨_, (pss_cons (ps_set (i := 1) nd rfl (Or.inl rfl) (pe_lstN pa_nil))
      (pss_cons (ps_while PassesOwn.never (pt_cmpR (uEq hr.units) (pe_ix ix_seq (pv 0) pe_int (fun _ _ => rfl)) pe_str (nomark _))
        (pss_cons (ps_expr (pe_bm PySem.F.plainAttrs_list PySem.F.slot_list_append PySem.F.type_list_append mt_append (pv 1) (pa_cons (pe_tupN (pa_cons (pe_ix ix_seq (pv 0) pe_int (fun _ _ => rfl)) (pa_cons (pe_ix ix_seq (pv 0) pe_int (fun _ _ => rfl)) pa_nil))) pa_nil)))
        (pss_one (ps_set (i := 0) nd rfl (Or.inl rfl) (pe_ix ix_seq (pv 0) pe_int (fun _ _ => rfl))))))
      (pss_one (ps_ret (pe_tupN (pa_cons (pv 0) (pa_cons (pe_callTy call_tuple_of (by rfl) n_tuple (by decide +kernel) (pa_cons (pe_revL (pv 1)) pa_nil)) pa_nil))))))), ?_⟩
    refine lst_new (Nat.zero_le _) fun l nl => ?_
    refine ⟨fun m σ H1 => ∃ (u : Tm) (acc : List (Str × Tm)) (vu : V) (xs : List V), σ = [some vu, some (.ref l)] ∧ Same H H1 ∧ H1 l = some (.lst xs) ∧ DtAll K H1 xs (acc.map pdA) ∧ Dt K H1 vu u.pd ∧ u.wf ∧ t.head = u.head ∧ t.args = u.args ++ acc.reverse ∧ m = u.nodes,
      ⟨_, t, [], v, [], rfl, same_new nl, upd_same, .nil, Dt.keep (TK.new nl) _ hv, wf, rfl, by simp, rfl⟩, ?_⟩
    rintro m σ H1 ⟨u, acc, vu, xs, rfl, e1, hl, da, du, wfu, eh, ea, rfl⟩
    obtain ⟨p, ws, rfl, hT⟩ := dt_word du
    refine ⟨_, rfl, ixt (i := 0) hT rfl (eq_f rfl (by rw [wf_app wfu]) ⟨_, rfl, ?_⟩)⟩
    have lacc : acc.length ≤ t.nodes := by
      have h1 := t.args_len
      rw [ea, List.length_append, List.length_reverse] at h1
      omega
    have fin : u.args = [] → u.head = u → tSeq (tRet (tTupN (tCons (tVar 0) (tCons (tCB (fun xs H Q => ∃ p ys, xs = [.ref p] ∧ ((SqL K H p ys ∧ ∀ l, H l = none → Q (.ref l) (upd H l (.tup ys))) ∨ (SqT K H p ys ∧ Q (.ref p) H))) (tCons (tRevL K (tVar 1)) tNil)) tNil)))) tNext { nx := fun _ H' => Q .non H', rt := Q } [some (.ref p), some (.ref l)] H1 := fun h1 h2 => by
      refine ⟨_, rfl, _, rfl, l, xs, rfl, SqL.of hl, fun lr nlr => ⟨lr, xs.reverse, rfl, .inl ⟨SqL.of upd_same, fun lt nlt => ?_⟩⟩⟩
      have t1 : TK K H1 (upd (upd H1 lr (.lst xs.reverse)) lt (.tup xs.reverse)) := (TK.new nlr).trans (TK.new nlt)
      refine tup_new (K := K) (ds := [t.head.pd, .tuple (t.args.map pdA)]) (.cons ?_ (.cons (.tup (SqT.of upd_same) ?_) .nil)) (by show 2 ≤ 1000; decide) fun v' H2 e2 d2 => k v' H2 ((same2 (same2 e1 nlr) nlt).trans e2) d2
      · rw [eh, h2]; exact Dt.keep t1 _ du
      · rw [ea, h1, List.nil_append, List.map_reverse]; exact (DtAll.keep t1 _ da).reverse
    cases u with
    | app g m x =>
      obtain ⟨p', vf, vx, e, hB, hf, hx⟩ := dt_app du
      cases e
      refine iteT ⟨fun σ' H' => ∃ m', m' < (Tm.app g m x).nodes ∧ _, fun σ' H' h => h, ?_⟩
      refine ⟨_, rfl, .inl ⟨rfl, _, SqL.of hl⟩, _, rfl, ixt (i := 2) hB rfl ⟨_, rfl, ixt (i := 3) hB rfl (tup_new (K := K) (ds := [.str m, x.pd]) (.cons (.str m) (.cons hx .nil)) (by show 2 ≤ 1000; decide) fun va H2 e2 d2 => ?_)⟩⟩
      refine ⟨l, xs, va, rfl, rfl, e2 _ _ hl, ?_, ?_⟩
      · rw [da.length, List.length_map, sizeLine_eq]; omega
      · have t2 : TK K H1 (upd H2 l (.lst (xs ++ [va]))) := (TK.same e2).trans (TK.lst (e2 _ _ hl))
        refine ⟨_, rfl, ixt (i := 1) (t2 _ _ hB) rfl ⟨g.nodes, by simp only [Tm.nodes]; omega, g, acc ++ [(m, x)], vf, xs ++ [va], rfl, same_mut (e1.trans e2) nl, upd_same, ?_, Dt.keep t2 _ hf, wfu.1, eh, ?_, rfl⟩⟩
        · rw [List.map_append]; exact DtAll.append (DtAll.keep t2 _ da) (.cons (Dt.keep (TK.lst (e2 _ _ hl)) _ d2) .nil)
        · rw [ea]; simp [Tm.args]
    | num w n => exact iteF (fin rfl rfl)
    | name x => exact iteF (fin rfl rfl)
    | count x n => exact iteF (fin rfl rfl)
    | bin w m a b => exact iteF (fin rfl rfl)
    | letT a b c => exact iteF (fin rfl rfl)
/-! ### applied -/
theorem sc_applied : FnScope ["head", "arguments", "mark", "argument"] ["head", "arguments"] (defScope s_applied) := ⟨rfl, rfl, rfl, by decide +kernel, rfl, by decide +kernel, by decide +kernel⟩
def spApplied (K : PySem.W.Frag) : Sp := fun vs H Q _ => ∃ (v1 v2 : V) (h : Tm) (as : List (Str × Tm)), vs = [v1, v2] ∧ Dt K H v1 h.pd ∧ Dt K H v2 (.tuple (as.map pdA)) ∧ ∀ v' H', Same H H' → Dt K H' v' (h.applied as).pd → Q v' H'
theorem args_at {H : Hp} {xs : List V} {as : List (Str × Tm)} {i : Nat} {x : V} (h : DtAll K H xs (as.map pdA)) (hx : xs[i]? = some x) :
    ∃ m t p vt, as[i]? = some (m, t) ∧ x = .ref p ∧ SqT K H p [.str m, vt] ∧ Dt K H vt t.pd := by
  obtain ⟨d, hd, dx⟩ := h.get hx
  rw [List.getElem?_map] at hd
  cases e : as[i]? with
  | none => rw [e] at hd; cases hd
  | some q =>
    rw [e] at hd
    obtain rfl : pdA q = d := Option.some.inj hd
    obtain ⟨p, ys, rfl, hT, r⟩ := Dt.tupI (show Dt K H x (.tuple [.str q.1, q.2.pd]) from dx)
    obtain ⟨v1, ws, rfl, d1, r⟩ := r.consI
    obtain ⟨v2, ws, rfl, d2, r⟩ := r.consI
    obtain rfl := r.nilI; obtain rfl := d1.strI
    exact ⟨q.1, q.2, p, v2, by rw [Prod.eta], rfl, hT, d2⟩
theorem ok_applied {f : Addr} {fd : FuncData} (F : Fun K "applied" "applied" s_applied f fd) : FnOk P w K mg base CX0 1 f fd ["head", "arguments"] (spApplied K) := by
  refine F.ok sc_applied (fun vs H Q E h => ?_) (fun cdv A outer s H vs Q E hr h => ?_)
  · obtain ⟨v1, v2, h, as, rfl, _⟩ := h; rfl
  · obtain ⟨v1, v2, h, as, rfl, d1, d2, k⟩ := h
    have nd := sc_applied.nd
    obtain ⟨p, xs, rfl, hT, da⟩ := Dt.tupI d2
    refine ⟨_, (pss_cons (ps_for PassesOwn.never rfl (pi_seq (pv 1)) (pg_tup rfl (pgs_cons (pg_name (i := 2) nd rfl (Or.inl rfl)) (pgs_cons (pg_name (i := 3) nd rfl (Or.inl rfl)) pgs_nil)))
        (pss_one (ps_set (i := 0) nd rfl (Or.inl rfl) (pe_tupN (pa_cons pe_str (pa_cons (pv 0) (pa_cons (pv 2) (pa_cons (pv 3) pa_nil))))))))
      (pss_one (ps_ret (pv 0)))), ?_⟩
    refine ⟨_, rfl, p, rfl, .inr ⟨⟨_, hT⟩, for_tup (K := K) (a := p) (xs := xs) (fun i σ H1 => ∃ (vh : V) (v3 v4 : Option V), σ = [some vh, some (.ref p), v3, v4] ∧ Same H H1 ∧ Dt K H1 vh (h.applied (as.take i)).pd)
      ⟨v1, none, none, rfl, Same.refl _, d1⟩ (fun i σ H1 _ ⟨_, _, _, _, e, _⟩ => sqs hT e) ?_ ?_⟩⟩
    · rintro i x σ H1 hx ⟨vh, v3, v4, rfl, e1, dh⟩
      obtain ⟨m, t, q, vt, ht, rfl, hq, dt⟩ := args_at (DtAll.keep (TK.same e1) _ da) hx
      refine ⟨q, _, rfl, hq, rfl, .str m, _, rfl, vt, _, rfl, rfl, ?_⟩
      refine ⟨_, rfl, _, rfl, _, rfl, tup_new (K := K) (ds := [.str "app", (h.applied (as.take i)).pd, .str m, t.pd]) (.cons (.str _) (.cons dh (.cons (.str m) (.cons dt .nil)))) (by show 4 ≤ 1000; decide) fun v5 H5 e5 d5 => ⟨v5, _, _, rfl, e1.trans e5, ?_⟩⟩
      rw [take_snoc ht]
      have : h.applied (as.take i ++ [(m, t)]) = .app (h.applied (as.take i)) m t := by simp [Tm.applied]
      rw [this]; exact d5
    · rintro σ H1 ⟨vh, v3, v4, rfl, e1, dh⟩
      rw [show xs.length = as.length by rw [da.length, List.length_map], List.take_length] at dh
      exact ⟨_, rfl, k vh H1 e1 dh⟩
/-! ### the law's own size -/
theorem sc_law_k03_size : FnScope ["term", "many", "deep", "part", "more", "inner"] ["term"] (defScope s_law_k03_size) := ⟨rfl, rfl, rfl, by decide +kernel, rfl, by decide +kernel, by decide +kernel⟩
def spSize (K : PySem.W.Frag) (N : Nat) : Sp := fun vs H Q _ => ∃ (v : V) (t : Tm), vs = [v] ∧ Dt K H v t.pd ∧ t.wf ∧ t.depth ≤ N ∧ ∀ v' H', Same H H' → Dt K H' v' (.tuple [.int t.nodes, .int t.depth]) → Q v' H'
def maxD (ts : List Tm) : Nat := ts.foldl (fun m t => max m t.depth) 0
theorem maxD_snoc (ts : List Tm) (t : Tm) : maxD (ts ++ [t]) = max (maxD ts) t.depth := by simp [maxD]
theorem Tm.depth_max (t : Tm) : t.depth = maxD t.kids + 1 := by cases t <;> simp [Tm.kids, Tm.parts, maxD, Tm.depth] <;> omega
theorem ok_size {f : Addr} {fd : FuncData} (F : Fun K "_law_k03_size" "_law_k03_size" s_law_k03_size f fd) (hm : mg "_law_k03_size" = some (.ref f)) (b : Binds K fd ["term"] []) (n_max : mg "max" = none)
    (D_law_rt_parts : Df P w K mg base "_law_rt_parts" 1 ["term"] (spParts K)) : ∀ N, FnOk P w K mg base CX0 (N + 1) f fd ["term"] (spSize K N)
  | 0 => by
    refine ⟨fun vs H Q E h => ?_, fun A outer s H args us vs Q E _ _ _ _ h => ?_⟩
    · obtain ⟨v, t, rfl, _⟩ := h; rfl
    · obtain ⟨v, t, _, _, _, h1, _⟩ := h
      have := t.depth_pos
      omega
  | N + 1 => by
    have D_law_k03_size : Df P w K mg base "_law_k03_size" (N + 1) ["term"] (spSize K N) := ⟨f, fd, ok_size F hm b n_max D_law_rt_parts N, hm, F.kp, b⟩
    refine F.ok sc_law_k03_size (fun vs H Q E h => ?_) (fun cdv A outer s H vs Q E hr h => ?_)
    · obtain ⟨v, t, rfl, _⟩ := h; rfl
    · obtain ⟨v, t, rfl, hv, wf, hd, k⟩ := h
      have nd := sc_law_k03_size.nd
      refine ⟨_, (pss_cons (ps_asg (pe_tupN (pa_cons pe_int (pa_cons pe_int pa_nil))) (pg_tup rfl (pgs_cons (pg_name (i := 1) nd rfl (Or.inl rfl)) (pgs_cons (pg_name (i := 2) nd rfl (Or.inl rfl)) pgs_nil))))
      (pss_cons (ps_for PassesOwn.never rfl (pi_seq (pe_df D_law_rt_parts hr (by omega) (pa_cons (pv 0) pa_nil))) (pg_tup rfl (pgs_cons (pg_name (i := 3) nd rfl (Or.inl rfl)) (pgs_cons (pg_name (i := 4) nd rfl (Or.inl rfl)) pgs_nil)))
        (pss_cons (ps_set (i := 5) nd rfl (Or.inl rfl) (pe_df D_law_k03_size hr (by omega) (pa_cons (pv 3) pa_nil)))
        (pss_one (ps_par (i := 1) (j := 2) rfl nd rfl rfl (by decide) rfl rfl (pa_cons (pe_op uAdd (pv 1) (pe_ix ix_seq (pv 5) pe_int (fun _ _ => rfl))) (pa_cons (pe_callB (call_max2 rfl) (by rfl) n_max (by decide +kernel) (pa_cons (pv 2) (pa_cons (pe_ix ix_seq (pv 5) pe_int (fun _ _ => rfl)) pa_nil))) pa_nil)) rfl))))
      (pss_one (ps_ret (pe_tupN (pa_cons (pv 1) (pa_cons (pe_op uAdd (pv 2) pe_int) pa_nil))))))), ?_⟩
      refine tup_at (by show 2 ≤ 1000; decide) fun q0 nq0 => ⟨q0, _, rfl, SqT.of upd_same, rfl, .int 1, _, rfl, .int 0, _, rfl, rfl, ?_⟩
      have e0 := same_new (o := .tup [.int 1, .int 0]) nq0
      refine ⟨_, rfl, v, t, rfl, hv.same e0, wf, fun l xs H1 e1 nl hl dl => ?_⟩
      replace e1 := e0.trans e1
      refine ⟨l, rfl, .inl ⟨⟨_, SqL.of hl⟩, for_list (K := K) (a := l) (xs := xs)
        (fun i σ H3 => ∃ (v3 v4 v5 : Option V), σ = [some v, some (.int ((1 + sumN (t.kids.take i) : Nat) : Int)), some (.int (maxD (t.kids.take i) : Nat)), v3, v4, v5] ∧ Same H1 H3)
        ⟨none, none, none, rfl, Same.refl _⟩ (fun i σ H3 _ ⟨_, _, _, _, e⟩ => SqL.of (e _ _ hl)) ?_ ?_⟩⟩
      · rintro i x σ H3 hx ⟨v3, v4, v5, rfl, e3⟩
        obtain ⟨pt, m, p, vp, hp, rfl, hT, dp⟩ := parts_at (DtAll.keep (TK.same e3) _ dl) hx
        have hmem := List.mem_of_getElem? hp
        obtain ⟨lt1, lt2⟩ := Tm.part_lt hmem
        refine ⟨p, _, rfl, hT, rfl, vp, _, rfl, .int m, _, rfl, rfl, ?_⟩
        refine ⟨_, rfl, vp, pt, rfl, dp, Tm.part_wf wf hmem, by omega, fun vi H4 e4 di => ?_⟩
        obtain ⟨q, ys, rfl, hq, r⟩ := Dt.tupI di
        obtain ⟨w1, ws, rfl, g1, r⟩ := r.consI
        obtain ⟨w2, ws, rfl, g2, r⟩ := r.consI
        obtain rfl := r.nilI; obtain rfl := g1.intI; obtain rfl := g2.intI
        refine ⟨_, rfl, _, rfl, ixt (i := 0) hq rfl (add_i ⟨_, rfl, _, rfl, ixt (i := 1) hq rfl ⟨_, _, rfl, _, _, rfl, ?_⟩⟩)⟩
        have htk : t.kids.take (i + 1) = t.kids.take i ++ [pt] := take_snoc (by rw [Tm.kids, List.getElem?_map, hp]; rfl)
        have e5 : ((1 + sumN (t.kids.take (i + 1)) : Nat) : Int) = ((1 + sumN (t.kids.take i) : Nat) : Int) + (pt.nodes : Int) := by rw [htk, sumN_app]; simp [sumN]; omega
        have e6 : (if (pt.depth : Int) > (maxD (t.kids.take i) : Int) then (pt.depth : Int) else (maxD (t.kids.take i) : Int)) = ((maxD (t.kids.take (i + 1)) : Nat) : Int) := by
          rw [htk, maxD_snoc]; split <;> omega
        refine ⟨some vp, some (.int m), some (.ref q), ?_, e3.trans e4⟩
        rw [e5, ← e6]; rfl
      · rintro σ H3 ⟨v3, v4, v5, rfl, e3⟩
        have hx : xs.length = t.kids.length := by rw [dl.length, List.length_map, Tm.kids, List.length_map]
        rw [hx, List.take_length]
        refine ⟨_, rfl, _, rfl, add_i (tup_new (K := K) (ds := [.int t.nodes, .int t.depth]) (.cons ?_ (.cons ?_ .nil)) (by show 2 ≤ 1000; decide) fun v' H5 e5 d5 => k v' H5 (e1.trans (e3.trans e5)) d5)⟩
        · rw [← t.nodes_kids]; exact .int _
        · have : (t.depth : Int) = (maxD t.kids : Int) + 1 := by rw [t.depth_max]; omega
          rw [this]; exact .int _
end
end RS

/-! Names: names_in, locals_in, holes_in. -/
namespace RS
open PySem PySem.Spec PyProof.Rows L2

def uniqI (l : List Int) : List Int := (keysOf (l.map Sum.inl).reverse).map akI.inv
def uniqS (l : List Str) : List Str := (keysOf (l.map Sum.inr).reverse).map akS.inv
theorem uniqI_key (l : List Int) : (uniqI l).map Sum.inl = keysOf (l.map Sum.inl).reverse := by
  unfold uniqI
  rw [List.map_map]
  have h : ∀ k ∈ keysOf (l.map Sum.inl).reverse, (Sum.inl ∘ akI.inv) k = k := fun k hk => by
    have := List.mem_reverse.mp ((mem_keysOf _).mp hk)
    obtain ⟨n, _, rfl⟩ := List.mem_map.mp this
    rfl
  rw [List.map_congr_left h, List.map_id']
theorem uniqS_key (l : List Str) : (uniqS l).map Sum.inr = keysOf (l.map Sum.inr).reverse := by
  unfold uniqS
  rw [List.map_map]
  have h : ∀ k ∈ keysOf (l.map Sum.inr).reverse, (Sum.inr ∘ akS.inv) k = k := fun k hk => by
    have := List.mem_reverse.mp ((mem_keysOf _).mp hk)
    obtain ⟨n, _, rfl⟩ := List.mem_map.mp this
    rfl
  rw [List.map_congr_left h, List.map_id']
def pickStr : Tm → Option Str
  | .name x => some x
  | .count x _ => some x
  | _ => none
def pickNum (w0 : Str) : Tm → Option Int
  | .num w n => if w = w0 then some n else none
  | _ => none
def namesT (t : Tm) : List Str := t.lvs.filterMap pickStr
def numsT (w0 : Str) (t : Tm) : List Int := t.lvs.filterMap (pickNum w0)
def resS (t : Tm) : PyData := .tuple ((sortS (uniqS (namesT t))).map .str)
def resI (w0 : Str) (t : Tm) : PyData := .tuple ((sortI (uniqI (numsT w0 t))).map .int)
theorem dts {K : PySem.W.Frag} {H : Hp} : ∀ l : List Str, DtAll K H (l.map V.str) (l.map PyData.str)
  | [] => .nil
  | x :: l => .cons (.str x) (dts l)
theorem dti {K : PySem.W.Frag} {H : Hp} : ∀ l : List Int, DtAll K H (l.map V.int) (l.map PyData.int)
  | [] => .nil
  | x :: l => .cons (.int x) (dti l)
theorem nc_w (t : Tm) (wf : t.wf) (lf : t.isLeaf = true) : inV (.str t.word) [.str "name", .str "count"] = (pickStr t).isSome := by
  rw [in2]
  cases t with
  | num w n =>
    rcases wf with ⟨rfl, _⟩ | ⟨rfl | rfl | rfl, _⟩
    · exact (by decide +kernel : ((("name" : Str) == ("sort" : Str)) || (("count" : Str) == ("sort" : Str))) = false)
    · exact (by decide +kernel : ((("name" : Str) == ("local" : Str)) || (("count" : Str) == ("local" : Str))) = false)
    · exact (by decide +kernel : ((("name" : Str) == ("bound" : Str)) || (("count" : Str) == ("bound" : Str))) = false)
    · exact (by decide +kernel : ((("name" : Str) == ("hole" : Str)) || (("count" : Str) == ("hole" : Str))) = false)
  | name x => exact (by decide +kernel : ((("name" : Str) == ("name" : Str)) || (("count" : Str) == ("name" : Str))) = true)
  | count x n => exact (by decide +kernel : ((("name" : Str) == ("count" : Str)) || (("count" : Str) == ("count" : Str))) = true)
  | bin _ _ _ _ => cases lf
  | letT _ _ _ => cases lf
  | app _ _ _ => cases lf
theorem num_w {w0 : Str} (h1 : ("name" : Str) ≠ w0) (h2 : ("count" : Str) ≠ w0) (t : Tm) (lf : t.isLeaf = true) : decide (V.str t.word = V.str w0) = (pickNum w0 t).isSome := by
  cases t with
  | num w n =>
    by_cases e : w = w0
    · subst e; simp [pickNum, Tm.word]
    · have : ¬ V.str w = V.str w0 := fun z => e (by injection z)
      simp [pickNum, Tm.word, e, this]
  | name x => exact decide_eq_false fun z => h1 (by injection z)
  | count x n => exact decide_eq_false fun z => h2 (by injection z)
  | bin _ _ _ _ => cases lf
  | letT _ _ _ => cases lf
  | app _ _ _ => cases lf
theorem leaf_str {K : PySem.W.Frag} {H : Hp} {v : V} {t : Tm} {x : Str} (h : Dt K H v t.pd) (e : pickStr t = some x) : ∃ p xs, v = .ref p ∧ SqT K H p xs ∧ xs[1]? = some (.str x) := by
  cases t with
  | name y => obtain ⟨p, rfl, q⟩ := dt_name h; cases e; exact ⟨p, _, rfl, q, rfl⟩
  | count y n => obtain ⟨p, rfl, q⟩ := dt_count h; cases e; exact ⟨p, _, rfl, q, rfl⟩
  | _ => cases e
theorem leaf_num {K : PySem.W.Frag} {H : Hp} {v : V} {t : Tm} {w0 : Str} {n : Int} (h : Dt K H v t.pd) (e : pickNum w0 t = some n) : ∃ p xs, v = .ref p ∧ SqT K H p xs ∧ xs[1]? = some (.int n) := by
  cases t with
  | num w k =>
    obtain ⟨p, rfl, q⟩ := dt_num h
    by_cases hw : w = w0
    · have e1 : pickNum w0 (.num w k) = some k := if_pos hw
      rw [e1] at e; cases e; exact ⟨p, _, rfl, q, rfl⟩
    · have e1 : pickNum w0 (.num w k) = none := if_neg hw
      rw [e1] at e; cases e
  | _ => cases e
section
variable {P : Program} {w : World} {K : PySem.W.Frag} {mg : Str → Option Value} {base : Heap}
def spNames (K : PySem.W.Frag) (res : Tm → PyData) : Sp := fun vs H Q _ => ∃ (v : V) (t : Tm), vs = [v] ∧ Dt K H v t.pd ∧ t.wf ∧ t.nodes ≤ 4000 ∧ ∀ v' H', Same H H' → Dt K H' v' (res t) → Q v' H'
theorem sc_names_in : FnScope ["term", "leaf"] ["term"] (defScope s_names_in) := ⟨rfl, rfl, rfl, by decide +kernel, rfl, by decide +kernel, by decide +kernel⟩
theorem leaves_at {H : Hp} {xs : List V} {ts : List Tm} {i : Nat} {x : V} (h : DtAll K H xs (ts.map Tm.pd)) (hx : xs[i]? = some x) : ∃ t, ts[i]? = some t ∧ Dt K H x t.pd := by
  obtain ⟨d, hd, dx⟩ := h.get hx
  rw [List.getElem?_map] at hd
  cases e : ts[i]? with
  | none => rw [e] at hd; cases hd
  | some q => rw [e] at hd; exact ⟨q, rfl, by rw [Option.some.inj hd]; exact dx⟩
theorem ok_names_in {f : Addr} {fd : FuncData} (F : Fun K "names_in" "names_in" s_names_in f fd) (n_tuple : mg "tuple" = none) (n_sorted : mg "sorted" = none) (n_set : mg "set" = none) (Dleaves_of : Df P w K mg base "leaves_of" 2 ["term"] (spLeavesOf K)) :
    FnOk P w K mg base CX0 3 f fd ["term"] (spNames K resS) := by
  refine F.ok sc_names_in (fun vs H Q E h => ?_) (fun cdv A outer s H vs Q E hr h => ?_)
  · obtain ⟨v, t, rfl, _⟩ := h; rfl
  · obtain ⟨v, t, rfl, hv, wf, hn, k⟩ := h
    have nd := sc_names_in.nd
    refine ⟨_, (pss_one (ps_ret (pe_callTy call_tuple_of (by rfl) n_tuple (by decide +kernel) (pa_cons (pe_callB (uSorted rfl hr.units) (by rfl) n_sorted (by decide +kernel) (pa_cons (pe_callTy (uSet rfl) (by rfl) n_set (by decide +kernel) (pa_cons (pe_lc (own := [("leaf", 1)]) (g := gName 1) rfl nd (pi_seq (pe_df Dleaves_of hr (by omega) (pa_cons (pv 0) pa_nil))) (blkOk_by (own := [("leaf", 1)]) (N := ["term", "leaf"]) (sc := defScope s_names_in) (by decide +kernel)) (fun _ _ _ _ _ => (pg_name (i := 1) nd rfl (Or.inl rfl))) (fun _ _ _ _ _ => (pts_one (pt_cmpR (uInK (K := K) rfl) (pe_ix (ixK (K := K) rfl) (pv 1) pe_int (fun _ _ => rfl)) (pe_tupN (pa_cons pe_str (pa_cons pe_str pa_nil))) (by rfl)))) (fun _ _ _ _ _ => (pe_ix (ixK (K := K) rfl) (pv 1) pe_int (fun _ _ => rfl)))) pa_nil)) pa_nil)) pa_nil)))), ?_⟩
    have lv := t.lvs_len
    refine ⟨_, rfl, v, t, rfl, hv, wf, by omega, fun l xs H1 e1 nl hl dl => ?_⟩
    have lxs : xs.length = t.lvs.length := by rw [dl.length, List.length_map]
    refine ⟨l, rfl, .inl ⟨⟨_, SqL.of hl⟩, fun D nD => lc_list (K := K) (a := l) (xs := xs) (fun i H2 => Same H1 H2 ∧ H2 D = some (.lst (((t.lvs.take i).filterMap pickStr).map V.str)))
      ⟨same_new nD, upd_same⟩ (fun i H2 _ h => SqL.of (h.1 _ _ hl)) (fun i x H2 hx ⟨e2, hD⟩ => ?_) (fun H2 ⟨e2, hD⟩ => ?_)⟩⟩
    · obtain ⟨u, hu, du⟩ := leaves_at (DtAll.keep (TK.same e2) _ dl) hx
      have hmem := List.mem_of_getElem? hu
      obtain ⟨p, ys, rfl, hT⟩ := dt_word du
      refine ⟨rfl, _, rfl, ixt (i := 0) hT rfl (tup_at (by show 2 ≤ 1000; decide) fun q nq => in_t (SqT.of upd_same) rfl rfl (by rw [nc_w u (Tm.lvs_wf wf u hmem) (Tm.lvs_isLeaf u hmem)]) ⟨_, rfl, ?_⟩)⟩
      have e3 := same2 (o := .tup [V.str "name", V.str "count"]) e2 nq
      have hD3 := (upd_ne (o := .tup [V.str "name", V.str "count"]) (ne_of_none hD nq)).trans hD
      have du3 := Dt.keep (K := K) (TK.new (o := .tup [V.str "name", V.str "count"]) nq) _ du
      cases ep : pickStr u with
      | some x =>
        obtain ⟨p2, ys2, e, hT2, h1⟩ := leaf_str du3 ep
        cases e
        refine if_so (by rfl) ⟨_, rfl, ixt (i := 1) hT2 h1 ⟨_, hD3, ?_, same_mut e3 nD, ?_⟩⟩
        · rw [List.length_map]
          have := len_filterMap_le pickStr (t.lvs.take i)
          rw [List.length_take] at this
          rw [sizeLine_eq]; omega
        · rw [upd_same, take_snoc hu, List.filterMap_append, List.map_append, List.filterMap_cons, ep]; rfl
      | none =>
        refine if_not (by rfl) ⟨e3, ?_⟩
        rw [take_snoc hu, List.filterMap_append, List.filterMap_cons, ep, List.filterMap_nil, List.append_nil]; exact hD3
    · rw [lxs, List.take_length] at hD
      refine ⟨D, (namesT t).map Sum.inr, rfl, ?_, ?_, fun q nq => ⟨q, rfl, .inr ⟨uniqS (namesT t), .inr (by rw [upd_same, uniqS_key]), fun r nr => ?_⟩⟩⟩
      · have : ((namesT t).map Sum.inr).map kV = (namesT t).map V.str := by rw [List.map_map]; rfl
        rw [this]; exact SqL.of hD
      · have := len_filterMap_le pickStr t.lvs
        rw [List.length_map]
        show (t.lvs.filterMap pickStr).length + 1 < 4096
        omega
      · refine ⟨r, _, rfl, .inl ⟨SqL.of upd_same, fun y ny => ?_⟩⟩
        exact k _ _ (same2 (same2 (same2 (e1.trans e2) nq) nr) ny) (.tup (SqT.of upd_same) (dts _))
theorem sc_locals_in : FnScope ["term", "leaf"] ["term"] (defScope s_locals_in) := ⟨rfl, rfl, rfl, by decide +kernel, rfl, by decide +kernel, by decide +kernel⟩
theorem ok_locals_in {f : Addr} {fd : FuncData} (F : Fun K "locals_in" "locals_in" s_locals_in f fd) (n_tuple : mg "tuple" = none) (n_sorted : mg "sorted" = none) (n_set : mg "set" = none) (Dleaves_of : Df P w K mg base "leaves_of" 2 ["term"] (spLeavesOf K)) :
    FnOk P w K mg base CX0 3 f fd ["term"] (spNames K (resI "local")) := by
  refine F.ok sc_locals_in (fun vs H Q E h => ?_) (fun cdv A outer s H vs Q E hr h => ?_)
  · obtain ⟨v, t, rfl, _⟩ := h; rfl
  · obtain ⟨v, t, rfl, hv, wf, hn, k⟩ := h
    have nd := sc_locals_in.nd
    refine ⟨_, (pss_one (ps_ret (pe_callTy call_tuple_of (by rfl) n_tuple (by decide +kernel) (pa_cons (pe_callB (uSorted rfl hr.units) (by rfl) n_sorted (by decide +kernel) (pa_cons (pe_callTy (uSet rfl) (by rfl) n_set (by decide +kernel) (pa_cons (pe_lc (own := [("leaf", 1)]) (g := gName 1) rfl nd (pi_seq (pe_df Dleaves_of hr (by omega) (pa_cons (pv 0) pa_nil))) (blkOk_by (own := [("leaf", 1)]) (N := ["term", "leaf"]) (sc := defScope s_locals_in) (by decide +kernel)) (fun _ _ _ _ _ => (pg_name (i := 1) nd rfl (Or.inl rfl))) (fun _ _ _ _ _ => (pts_one (pt_cmpR (uEqK (K := K) rfl hr.units) (pe_ix (ixK (K := K) rfl) (pv 1) pe_int (fun _ _ => rfl)) pe_str (nomark _)))) (fun _ _ _ _ _ => (pe_ix (ixK (K := K) rfl) (pv 1) pe_int (fun _ _ => rfl)))) pa_nil)) pa_nil)) pa_nil)))), ?_⟩
    have lv := t.lvs_len
    refine ⟨_, rfl, v, t, rfl, hv, wf, by omega, fun l xs H1 e1 nl hl dl => ?_⟩
    have lxs : xs.length = t.lvs.length := by rw [dl.length, List.length_map]
    refine ⟨l, rfl, .inl ⟨⟨_, SqL.of hl⟩, fun D nD => lc_list (K := K) (a := l) (xs := xs) (fun i H2 => Same H1 H2 ∧ H2 D = some (.lst (((t.lvs.take i).filterMap (pickNum "local")).map V.int)))
      ⟨same_new nD, upd_same⟩ (fun i H2 _ h => SqL.of (h.1 _ _ hl)) (fun i x H2 hx ⟨e2, hD⟩ => ?_) (fun H2 ⟨e2, hD⟩ => ?_)⟩⟩
    · obtain ⟨u, hu, du⟩ := leaves_at (DtAll.keep (TK.same e2) _ dl) hx
      have hmem := List.mem_of_getElem? hu
      obtain ⟨p, ys, rfl, hT⟩ := dt_word du
      refine ⟨rfl, _, rfl, ixt (i := 0) hT rfl (eq_f rfl (by rw [num_w (by decide +kernel) (by decide +kernel) u (Tm.lvs_isLeaf u hmem)]) ⟨_, rfl, ?_⟩)⟩
      cases ep : pickNum "local" u with
      | some n =>
        obtain ⟨p2, ys2, e, hT2, h1⟩ := leaf_num du ep
        cases e
        refine if_so (by rfl) ⟨_, rfl, ixt (i := 1) hT2 h1 ⟨_, hD, ?_, same_mut e2 nD, ?_⟩⟩
        · rw [List.length_map]
          have := len_filterMap_le (pickNum "local") (t.lvs.take i)
          rw [List.length_take] at this
          rw [sizeLine_eq]; omega
        · rw [upd_same, take_snoc hu, List.filterMap_append, List.map_append, List.filterMap_cons, ep]; rfl
      | none =>
        refine if_not (by rfl) ⟨e2, ?_⟩
        rw [take_snoc hu, List.filterMap_append, List.filterMap_cons, ep, List.filterMap_nil, List.append_nil]; exact hD
    · rw [lxs, List.take_length] at hD
      refine ⟨D, (numsT "local" t).map Sum.inl, rfl, ?_, ?_, fun q nq => ⟨q, rfl, .inl ⟨uniqI (numsT "local" t), .inr (by rw [upd_same, uniqI_key]), fun r nr => ?_⟩⟩⟩
      · have : ((numsT "local" t).map Sum.inl).map kV = (numsT "local" t).map V.int := by rw [List.map_map]; rfl
        rw [this]; exact SqL.of hD
      · have := len_filterMap_le (pickNum "local") t.lvs
        rw [List.length_map]
        show (t.lvs.filterMap (pickNum "local")).length + 1 < 4096
        omega
      · refine ⟨r, _, rfl, .inl ⟨SqL.of upd_same, fun y ny => ?_⟩⟩
        exact k _ _ (same2 (same2 (same2 (e1.trans e2) nq) nr) ny) (.tup (SqT.of upd_same) (dti _))
theorem sc_holes_in : FnScope ["term", "leaf"] ["term"] (defScope s_holes_in) := ⟨rfl, rfl, rfl, by decide +kernel, rfl, by decide +kernel, by decide +kernel⟩
theorem ok_holes_in {f : Addr} {fd : FuncData} (F : Fun K "holes_in" "holes_in" s_holes_in f fd) (n_tuple : mg "tuple" = none) (n_sorted : mg "sorted" = none) (n_set : mg "set" = none) (Dleaves_of : Df P w K mg base "leaves_of" 2 ["term"] (spLeavesOf K)) :
    FnOk P w K mg base CX0 3 f fd ["term"] (spNames K (resI "hole")) := by
  refine F.ok sc_holes_in (fun vs H Q E h => ?_) (fun cdv A outer s H vs Q E hr h => ?_)
  · obtain ⟨v, t, rfl, _⟩ := h; rfl
  · obtain ⟨v, t, rfl, hv, wf, hn, k⟩ := h
    have nd := sc_holes_in.nd
    refine ⟨_, (pss_one (ps_ret (pe_callTy call_tuple_of (by rfl) n_tuple (by decide +kernel) (pa_cons (pe_callB (uSorted rfl hr.units) (by rfl) n_sorted (by decide +kernel) (pa_cons (pe_callTy (uSet rfl) (by rfl) n_set (by decide +kernel) (pa_cons (pe_lc (own := [("leaf", 1)]) (g := gName 1) rfl nd (pi_seq (pe_df Dleaves_of hr (by omega) (pa_cons (pv 0) pa_nil))) (blkOk_by (own := [("leaf", 1)]) (N := ["term", "leaf"]) (sc := defScope s_holes_in) (by decide +kernel)) (fun _ _ _ _ _ => (pg_name (i := 1) nd rfl (Or.inl rfl))) (fun _ _ _ _ _ => (pts_one (pt_cmpR (uEqK (K := K) rfl hr.units) (pe_ix (ixK (K := K) rfl) (pv 1) pe_int (fun _ _ => rfl)) pe_str (nomark _)))) (fun _ _ _ _ _ => (pe_ix (ixK (K := K) rfl) (pv 1) pe_int (fun _ _ => rfl)))) pa_nil)) pa_nil)) pa_nil)))), ?_⟩
    have lv := t.lvs_len
    refine ⟨_, rfl, v, t, rfl, hv, wf, by omega, fun l xs H1 e1 nl hl dl => ?_⟩
    have lxs : xs.length = t.lvs.length := by rw [dl.length, List.length_map]
    refine ⟨l, rfl, .inl ⟨⟨_, SqL.of hl⟩, fun D nD => lc_list (K := K) (a := l) (xs := xs) (fun i H2 => Same H1 H2 ∧ H2 D = some (.lst (((t.lvs.take i).filterMap (pickNum "hole")).map V.int)))
      ⟨same_new nD, upd_same⟩ (fun i H2 _ h => SqL.of (h.1 _ _ hl)) (fun i x H2 hx ⟨e2, hD⟩ => ?_) (fun H2 ⟨e2, hD⟩ => ?_)⟩⟩
    · obtain ⟨u, hu, du⟩ := leaves_at (DtAll.keep (TK.same e2) _ dl) hx
      have hmem := List.mem_of_getElem? hu
      obtain ⟨p, ys, rfl, hT⟩ := dt_word du
      refine ⟨rfl, _, rfl, ixt (i := 0) hT rfl (eq_f rfl (by rw [num_w (by decide +kernel) (by decide +kernel) u (Tm.lvs_isLeaf u hmem)]) ⟨_, rfl, ?_⟩)⟩
      cases ep : pickNum "hole" u with
      | some n =>
        obtain ⟨p2, ys2, e, hT2, h1⟩ := leaf_num du ep
        cases e
        refine if_so (by rfl) ⟨_, rfl, ixt (i := 1) hT2 h1 ⟨_, hD, ?_, same_mut e2 nD, ?_⟩⟩
        · rw [List.length_map]
          have := len_filterMap_le (pickNum "hole") (t.lvs.take i)
          rw [List.length_take] at this
          rw [sizeLine_eq]; omega
        · rw [upd_same, take_snoc hu, List.filterMap_append, List.map_append, List.filterMap_cons, ep]; rfl
      | none =>
        refine if_not (by rfl) ⟨e2, ?_⟩
        rw [take_snoc hu, List.filterMap_append, List.filterMap_cons, ep, List.filterMap_nil, List.append_nil]; exact hD
    · rw [lxs, List.take_length] at hD
      refine ⟨D, (numsT "hole" t).map Sum.inl, rfl, ?_, ?_, fun q nq => ⟨q, rfl, .inl ⟨uniqI (numsT "hole" t), .inr (by rw [upd_same, uniqI_key]), fun r nr => ?_⟩⟩⟩
      · have : ((numsT "hole" t).map Sum.inl).map kV = (numsT "hole" t).map V.int := by rw [List.map_map]; rfl
        rw [this]; exact SqL.of hD
      · have := len_filterMap_le (pickNum "hole") t.lvs
        rw [List.length_map]
        show (t.lvs.filterMap (pickNum "hole")).length + 1 < 4096
        omega
      · refine ⟨r, _, rfl, .inl ⟨SqL.of upd_same, fun y ny => ?_⟩⟩
        exact k _ _ (same2 (same2 (same2 (e1.trans e2) nq) nr) ny) (.tup (SqT.of upd_same) (dti _))
end
end RS

/-! Data: what repr and == ask of a datum, put together part by part. -/
namespace RS
open PySem PySem.Spec PyProof.Rows L2

/-- d may be laid, shown; its height, its weight -/
structure Okd (d : PyData) (D W : Nat) : Prop where
  lay : d.canLay0 = true
  shw : d.showable = true
  dep : d.depth ≤ D
  ivs : d.intsShort 20 = true
  wei : d.weight ≤ W
structure OkdA (ds : List PyData) (D W : Nat) : Prop where
  lay : PyData.canLayAll0 ds = true
  shw : PyData.showableAll ds = true
  dep : PyData.depthAll ds ≤ D
  ivs : PyData.intsShortAll 20 ds = true
  wei : PyData.weightAll ds ≤ W
theorem Okd.mono {d : PyData} {D W D' W' : Nat} (h : Okd d D W) (a : D ≤ D') (b : W ≤ W') : Okd d D' W' := ⟨h.lay, h.shw, Nat.le_trans h.dep a, h.ivs, Nat.le_trans h.wei b⟩
theorem OkdA.mono {d : List PyData} {D W D' W' : Nat} (h : OkdA d D W) (a : D ≤ D') (b : W ≤ W') : OkdA d D' W' := ⟨h.lay, h.shw, Nat.le_trans h.dep a, h.ivs, Nat.le_trans h.wei b⟩
theorem OkdA.nil {D : Nat} : OkdA [] D 0 := ⟨by simp only [PyData.canLayAll0], by simp only [PyData.showableAll], by simp only [PyData.depthAll]; exact Nat.zero_le _, by simp only [PyData.intsShortAll], by simp only [PyData.weightAll]; exact Nat.zero_le _⟩
theorem OkdA.cons {d : PyData} {ds : List PyData} {D W W' : Nat} (h : Okd d D W) (r : OkdA ds D W') : OkdA (d :: ds) D (W + 1 + W') :=
  ⟨by simp only [PyData.canLayAll0, h.lay, r.lay, Bool.and_self], by simp only [PyData.showableAll, h.shw, r.shw, Bool.and_self], by simp only [PyData.depthAll]; exact Nat.max_le.mpr ⟨h.dep, r.dep⟩,
    by simp only [PyData.intsShortAll, h.ivs, r.ivs, Bool.and_self], by simp only [PyData.weightAll]; have := h.wei; have := r.wei; omega⟩
theorem OkdA.tup {ds : List PyData} {D W : Nat} (h : OkdA ds D W) : Okd (.tuple ds) (D + 1) W :=
  ⟨by simp only [PyData.canLay0]; exact h.lay, by simp only [PyData.showable]; exact h.shw, by simp only [PyData.depth]; have := h.dep; omega, by simp only [PyData.intsShort]; exact h.ivs, by simp only [PyData.weight]; exact h.wei⟩
theorem OkdA.lst {ds : List PyData} {D W : Nat} (h : OkdA ds D W) : Okd (.list ds) (D + 1) W :=
  ⟨by simp only [PyData.canLay0]; exact h.lay, by simp only [PyData.showable]; exact h.shw, by simp only [PyData.depth]; have := h.dep; omega, by simp only [PyData.intsShort]; exact h.ivs, by simp only [PyData.weight]; exact h.wei⟩
theorem OkdA.all {W : Nat} {D : Nat} : ∀ (ds : List PyData), (∀ d ∈ ds, Okd d D W) → OkdA ds D (ds.length * (W + 1))
  | [], _ => OkdA.nil.mono (Nat.le_refl _) (Nat.zero_le _)
  | d :: ds, h => ((OkdA.cons (h d List.mem_cons_self) (OkdA.all ds fun x hx => h x (List.mem_cons_of_mem _ hx)))).mono (Nat.le_refl _) (by rw [List.length_cons, Nat.succ_mul]; omega)
theorem Okd.int {i : Int} {D : Nat} (h : i.natAbs < 10 ^ 18) : Okd (.int i) D 64 := by
  have hl : i.natAbs.log2 < 64 := by
    rcases Nat.eq_zero_or_pos i.natAbs with z | z
    · rw [z]; decide
    · exact (Nat.log2_lt (by omega)).mpr (Nat.lt_trans h (by decide))
  refine ⟨rfl, by simp only [PyData.showable, decide_eq_true_eq]; omega, Nat.zero_le _, ?_, ?_⟩
  · have e := int_text_length_le10 (k := 18) (by decide) h
    simp only [PyData.intsShort, decide_eq_true_eq]
    show (Str.ofString (toString i)).length ≤ 20
    rw [PySem.ofString_length]; omega
  · simp only [PyData.weight]
    split <;> omega
theorem Okd.str {x : Str} {D W : Nat} (h : PyData.strOk x = true) (hw : x.cps.size ≤ W) : Okd (.str x) D W := ⟨h, rfl, Nat.zero_le _, rfl, hw⟩
theorem Okd.shaped {d : PyData} {D W : Nat} (h : Okd d D W) (hD : D ≤ 64) : SeqAt.shaped d = true := Bool.and_eq_true_iff.mpr ⟨h.lay, decide_eq_true (Nat.le_trans h.dep hD)⟩
theorem Okd.noDict {d : PyData} {D W : Nat} (h : Okd d D W) : d.hasDict = false := PyData.hasDict_of_canLay d h.lay
theorem Okd.len {d : PyData} {D W : Nat} (h : Okd d D W) (hW : W ≤ 700000) : d.shown.length ≤ sizeLine := by
  have h1 := PyData.shown_le 20 (by decide) d (PyData.leavesShort_of_canLay0 20 d h.lay h.ivs)
  have h2 := Nat.mul_le_mul_left (20 + 2) (Nat.le_trans h.wei hW)
  rw [sizeLine_eq]; omega
theorem Okd.eqv {d : PyData} {D W : Nat} (h : Okd d D W) : PyData.eqv d d = true := SeqAt.eqv_refl_plain d (PyData.plain_of_canLay0 d h.lay)

/-! ### repr, told so that the unifier opens the other side -/
structure rRepU (K : PySem.W.Frag) (xs : List V) (H : Hp) (Q : VK) : Prop where
  ex : ∃ a d D W, xs = [.ref a] ∧ Dp K H (.ref a) d ∧ Okd d D W ∧ D + 1 ≤ 64 ∧ W ≤ 700000 ∧ Q (.str d.shown) H
theorem uRepr {X : Cx} (hg : AG X.A) (hu : X.A.units + 64 < cLine) : CallR X (.builtin "repr") (rRepU X.K) := fun pins s σ H xs us Q I r h => by
  obtain ⟨a, d, D, W, e, hd, o, h1, h2, q⟩ := h.ex
  exact cr_repr hg hu pins s σ H xs us Q I r ⟨a, d, e, hd, o.shw, o.noDict, by have := o.dep; omega, o.len h2, q⟩
theorem rp {K : PySem.W.Frag} {H : Hp} {l : Addr} {d : PyData} {D W : Nat} {Q : VK} (h : Dp K H (.ref l) d) (o : Okd d D W) (hD : D + 1 ≤ 64) (hW : W ≤ 700000) (q : Q (.str d.shown) H) : rRepU K [.ref l] H Q := ⟨l, d, D, W, rfl, h, o, hD, hW, q⟩
theorem rpL {K : PySem.W.Frag} {H : Hp} {l : Addr} {xs : List V} {ds : List PyData} {D W : Nat} {Q : VK} (h : SqL K H l xs) (hd : DtAll K H xs ds) (o : OkdA ds D W) (hD : D + 2 ≤ 64) (hW : W ≤ 700000) (q : Q (.str (PyData.list ds).shown) H) : rRepU K [.ref l] H Q :=
  rp (.lst h (DtAll.dp _ hd)) o.lst (by omega) hW q

/-! ### terms -/
theorem mark_ok {m : Str} (h : m ∈ marksL) : PyData.strOk m = true ∧ m.cps.size ≤ 6 := by
  have : ∀ x ∈ marksL, PyData.strOk x = true ∧ x.cps.size ≤ 6 := by decide +kernel
  exact this m h
theorem name_ok {m : Str} (h : m ∈ namesL) : PyData.strOk m = true ∧ m.cps.size ≤ 16 := by
  have : ∀ x ∈ namesL, PyData.strOk x = true ∧ x.cps.size ≤ 16 := by decide +kernel
  exact this m h
theorem lit_ok {x : Str} {n : Nat} {D : Nat} (h : (PyData.strOk x && decide (x.cps.size ≤ n)) = true) : Okd (.str x) D n := by
  rw [Bool.and_eq_true, decide_eq_true_eq] at h
  exact .str h.1 h.2
theorem Tm.nodes_one : ∀ t : Tm, 1 ≤ t.nodes
  | .num _ _ => Nat.le_refl _
  | .name _ => Nat.le_refl _
  | .count _ _ => Nat.le_refl _
  | .bin _ _ _ _ => Nat.le_add_right _ _
  | .letT _ _ _ => Nat.le_add_right _ _
  | .app _ _ _ => Nat.le_add_right _ _
theorem Tm.okd : ∀ (t : Tm), t.wf → Okd t.pd t.depth (80 * t.nodes)
  | .num w n, h => by
    have hw : Okd (.str w) 0 6 := by
      rcases h with ⟨rfl, _⟩ | ⟨rfl | rfl | rfl, _⟩ <;> exact lit_ok (by decide +kernel)
    have hn : n.natAbs < 10 ^ 18 := by
      have e : (10 : Nat) ^ 18 = 1000000000000000000 := by decide
      rcases h with ⟨_, h1, h2⟩ | ⟨_, h1, h2⟩ <;> omega
    exact (OkdA.tup (.cons hw (.cons (.int hn) .nil))).mono (Nat.le_refl _) (by show 6 + 1 + (64 + 1 + 0) ≤ 80 * 1; decide)
  | .name x, h => by
    have hx := name_ok h
    have hw : Okd (.str "name") 0 6 := lit_ok (by decide +kernel)
    exact (OkdA.tup (.cons hw (.cons (Okd.str (W := 16) hx.1 hx.2) .nil))).mono (Nat.le_refl _) (by show 6 + 1 + (16 + 1 + 0) ≤ 80 * 1; decide)
  | .count x n, h => by
    obtain ⟨rfl, h1, h2⟩ := h
    have hn : n.natAbs < 10 ^ 18 := by
      have e : (10 : Nat) ^ 18 = 1000000000000000000 := by decide
      have e' : (10 : Int) ^ 18 = 1000000000000000000 := by decide
      omega
    have hw : Okd (.str "count") 0 5 := lit_ok (by decide +kernel)
    have hx : Okd (.str "Num") 0 3 := lit_ok (by decide +kernel)
    exact (OkdA.tup (.cons hw (.cons hx (.cons (.int hn) .nil)))).mono (Nat.le_refl _) (by show 5 + 1 + (3 + 1 + (64 + 1 + 0)) ≤ 80 * 1; decide)
  | .bin w m a b, h => by
    obtain ⟨h1, h2, h3, h4⟩ := h
    have hw : Okd (.str w) (max a.depth b.depth) 6 := by rcases h1 with rfl | rfl <;> exact lit_ok (by decide +kernel)
    have hm := mark_ok h2
    have ia := (a.okd h3).mono (Nat.le_max_left _ b.depth) (Nat.le_refl _)
    have ib := (b.okd h4).mono (Nat.le_max_right a.depth _) (Nat.le_refl _)
    have na := a.nodes_one; have nb := b.nodes_one
    exact (OkdA.tup (.cons hw (.cons (Okd.str (W := 6) hm.1 hm.2) (.cons ia (.cons ib .nil))))).mono (by simp only [Tm.depth]; omega) (by simp only [Tm.nodes]; omega)
  | .letT a b c, h => by
    obtain ⟨h1, h2, h3⟩ := h
    have hw : Okd (.str "let") (max a.depth (max b.depth c.depth)) 6 := lit_ok (by decide +kernel)
    have ia := (a.okd h1).mono (Nat.le_max_left _ (max b.depth c.depth)) (Nat.le_refl _)
    have ib := (b.okd h2).mono (Nat.le_trans (Nat.le_max_left _ c.depth) (Nat.le_max_right a.depth _)) (Nat.le_refl _)
    have ic := (c.okd h3).mono (Nat.le_trans (Nat.le_max_right b.depth _) (Nat.le_max_right a.depth _)) (Nat.le_refl _)
    exact (OkdA.tup (.cons hw (.cons ia (.cons ib (.cons ic .nil))))).mono (by simp only [Tm.depth]; omega) (by simp only [Tm.nodes]; omega)
  | .app f m x, h => by
    obtain ⟨h1, h2, h3⟩ := h
    have hw : Okd (.str "app") (max f.depth x.depth) 6 := lit_ok (by decide +kernel)
    have hm := mark_ok h2
    have ia := (f.okd h1).mono (Nat.le_max_left _ x.depth) (Nat.le_refl _)
    have ib := (x.okd h3).mono (Nat.le_max_right f.depth _) (Nat.le_refl _)
    exact (OkdA.tup (.cons hw (.cons ia (.cons (Okd.str (W := 6) hm.1 hm.2) (.cons ib .nil))))).mono (by simp only [Tm.depth]; omega) (by simp only [Tm.nodes]; omega)

/-! ### sizes by the depth -/
def pw3 : Nat → Nat
  | 0 => 0
  | n + 1 => 1 + 3 * pw3 n
theorem pw3_mono : ∀ {m n : Nat}, m ≤ n → pw3 m ≤ pw3 n
  | 0, _, _ => Nat.zero_le _
  | m + 1, 0, h => absurd h (by omega)
  | m + 1, n + 1, h => by have := pw3_mono (m := m) (n := n) (by omega); simp only [pw3]; omega
theorem Tm.nodes_le : ∀ t : Tm, t.nodes ≤ pw3 t.depth
  | .num _ _ => by simp [Tm.nodes, Tm.depth, pw3]
  | .name _ => by simp [Tm.nodes, Tm.depth, pw3]
  | .count _ _ => by simp [Tm.nodes, Tm.depth, pw3]
  | .bin _ _ a b => by
    have h1 := Nat.le_trans a.nodes_le (pw3_mono (Nat.le_max_left a.depth b.depth))
    have h2 := Nat.le_trans b.nodes_le (pw3_mono (Nat.le_max_right a.depth b.depth))
    simp only [Tm.nodes, Tm.depth, Nat.add_comm 1, pw3]; omega
  | .letT a b c => by
    have h1 := Nat.le_trans a.nodes_le (pw3_mono (Nat.le_max_left a.depth (max b.depth c.depth)))
    have h2 := Nat.le_trans b.nodes_le (pw3_mono (Nat.le_trans (Nat.le_max_left b.depth c.depth) (Nat.le_max_right a.depth _)))
    have h3 := Nat.le_trans c.nodes_le (pw3_mono (Nat.le_trans (Nat.le_max_right b.depth c.depth) (Nat.le_max_right a.depth _)))
    simp only [Tm.nodes, Tm.depth, Nat.add_comm 1, pw3]; omega
  | .app f _ x => by
    have h1 := Nat.le_trans f.nodes_le (pw3_mono (Nat.le_max_left f.depth x.depth))
    have h2 := Nat.le_trans x.nodes_le (pw3_mono (Nat.le_max_right f.depth x.depth))
    simp only [Tm.nodes, Tm.depth, Nat.add_comm 1, pw3]; omega
theorem Tm.nodes_at {t : Tm} {n : Nat} (h : (t.depth : Int) ≤ n) : t.nodes ≤ pw3 n := Nat.le_trans t.nodes_le (pw3_mono (by omega))

/-! ### heads and arguments -/
theorem Tm.applied_app (h : Tm) (as : List (Str × Tm)) (a : Str × Tm) : h.applied (as ++ [a]) = .app (h.applied as) a.1 a.2 := by simp [Tm.applied]
def argsW : List (Str × Tm) → Nat
  | [] => 0
  | a :: r => 1 + a.2.nodes + argsW r
theorem argsW_app : ∀ (as bs : List (Str × Tm)), argsW (as ++ bs) = argsW as + argsW bs
  | [], bs => by simp [argsW]
  | a :: r, bs => by simp only [List.cons_append, argsW, argsW_app r bs]; omega
theorem Tm.applied_nodes : ∀ (as : List (Str × Tm)) (h : Tm), (h.applied as).nodes = h.nodes + argsW as
  | [], h => by simp [Tm.applied, argsW]
  | a :: r, h => by
    have := Tm.applied_nodes r (.app h a.1 a.2)
    simp only [Tm.applied, List.foldl_cons, argsW] at this ⊢
    rw [this]; simp only [Tm.nodes]; omega
theorem Tm.applied_depth : ∀ (as : List (Str × Tm)) (h : Tm) (n : Nat), (∀ a ∈ as, a.2.depth ≤ n) → h.depth ≤ n → (h.applied as).depth ≤ n + as.length
  | [], h, n, _, h2 => by simpa [Tm.applied] using h2
  | a :: r, h, n, h1, h2 => by
    have ha := h1 a List.mem_cons_self
    have := Tm.applied_depth r (.app h a.1 a.2) (n + 1) (fun x hx => Nat.le_succ_of_le (h1 x (List.mem_cons_of_mem _ hx))) (by simp only [Tm.depth]; omega)
    simp only [Tm.applied, List.foldl_cons, List.length_cons] at this ⊢
    omega
theorem Tm.applied_wf : ∀ (as : List (Str × Tm)) (h : Tm), (∀ a ∈ as, a.1 ∈ marksL ∧ a.2.wf) → h.wf → (h.applied as).wf
  | [], h, _, h2 => h2
  | a :: r, h, h1, h2 => Tm.applied_wf r (.app h a.1 a.2) (fun x hx => h1 x (List.mem_cons_of_mem _ hx)) ⟨h2, (h1 a List.mem_cons_self).1, (h1 a List.mem_cons_self).2⟩
theorem Tm.applied_spine : ∀ t : Tm, t.head.applied t.args = t
  | .app f m x => by rw [show (Tm.app f m x).args = f.args ++ [(m, x)] from rfl, show (Tm.app f m x).head = f.head from rfl, Tm.applied_app, f.applied_spine]
  | .num _ _ => rfl
  | .name _ => rfl
  | .count _ _ => rfl
  | .bin _ _ _ _ => rfl
  | .letT _ _ _ => rfl
theorem Tm.head_wf : ∀ t : Tm, t.wf → t.head.wf
  | .app f m x, h => f.head_wf h.1
  | .num _ _, h => h
  | .name _, h => h
  | .count _ _, h => h
  | .bin _ _ _ _, h => h
  | .letT _ _ _, h => h
theorem Tm.args_wf : ∀ t : Tm, t.wf → ∀ a ∈ t.args, a.1 ∈ marksL ∧ a.2.wf
  | .app f m x, h, a, ha => by
    rcases List.mem_append.mp ha with ha | ha
    · exact f.args_wf h.1 a ha
    · rw [List.mem_singleton.mp ha]; exact ⟨h.2.1, h.2.2⟩
  | .num _ _, _, a, ha => nomatch ha
  | .name _, _, a, ha => nomatch ha
  | .count _ _, _, a, ha => nomatch ha
  | .bin _ _ _ _, _, a, ha => nomatch ha
  | .letT _ _ _, _, a, ha => nomatch ha
theorem Tm.head_depth : ∀ t : Tm, t.head.depth ≤ t.depth
  | .app f m x => by have := f.head_depth; simp only [Tm.head, Tm.depth]; omega
  | .num _ _ => Nat.le_refl _
  | .name _ => Nat.le_refl _
  | .count _ _ => Nat.le_refl _
  | .bin _ _ _ _ => Nat.le_refl _
  | .letT _ _ _ => Nat.le_refl _
theorem Tm.args_depth : ∀ t : Tm, ∀ a ∈ t.args, a.2.depth ≤ t.depth
  | .app f m x, a, ha => by
    rcases List.mem_append.mp ha with ha | ha
    · have := f.args_depth a ha; simp only [Tm.depth]; omega
    · rw [List.mem_singleton.mp ha]; simp only [Tm.depth]; omega
  | .num _ _, a, ha => nomatch ha
  | .name _, a, ha => nomatch ha
  | .count _ _, a, ha => nomatch ha
  | .bin _ _ _ _, a, ha => nomatch ha
  | .letT _ _ _, a, ha => nomatch ha
theorem Tm.spine_nodes : ∀ t : Tm, t.head.nodes + argsW t.args = t.nodes := fun t => by
  have := Tm.applied_nodes t.args t.head
  rw [t.applied_spine] at this; exact this.symm
theorem args_okd {D : Nat} : ∀ (as : List (Str × Tm)), (∀ a ∈ as, a.1 ∈ marksL ∧ a.2.wf) → (∀ a ∈ as, a.2.depth ≤ D) → OkdA (as.map pdA) (D + 1) (80 * argsW as)
  | [], _, _ => .nil
  | a :: r, h1, h2 => by
    have hm := mark_ok (h1 a List.mem_cons_self).1
    have ha := (a.2.okd (h1 a List.mem_cons_self).2).mono (h2 a List.mem_cons_self) (Nat.le_refl _)
    exact (OkdA.cons (OkdA.tup (.cons (Okd.str (W := 6) hm.1 hm.2) (.cons ha .nil))) (args_okd r (fun x hx => h1 x (List.mem_cons_of_mem _ hx)) fun x hx => h2 x (List.mem_cons_of_mem _ hx))).mono (Nat.le_refl _) (by simp only [argsW]; omega)
theorem Tm.okd_spine (t : Tm) (h : t.wf) : Okd (.tuple [t.head.pd, .tuple (t.args.map pdA)]) (t.depth + 3) (80 * t.nodes + 2) := by
  have h1 := (t.head.okd (t.head_wf h)).mono (Nat.le_trans t.head_depth (Nat.le_add_right _ 2)) (Nat.le_refl _)
  have h2 := OkdA.tup (args_okd (D := t.depth) t.args (t.args_wf h) t.args_depth)
  exact (OkdA.tup (.cons h1 (.cons h2 .nil))).mono (Nat.le_refl _) (by have := t.spine_nodes; omega)

/-! ### names, numbers -/
theorem mem_sortS {l : List Str} {x : Str} (h : x ∈ sortS l) : x ∈ l := (List.mergeSort_perm l leS).mem_iff.mp h
theorem mem_sortI {l : List Int} {x : Int} (h : x ∈ sortI l) : x ∈ l := (List.mergeSort_perm l leI).mem_iff.mp h
theorem sortS_sort (l : List Str) : sortS (sortS l) = sortS l := sortS_perm (List.mergeSort_perm l leS)
theorem sortI_sort (l : List Int) : sortI (sortI l) = sortI l := sortI_perm (List.mergeSort_perm l leI)
theorem mem_uniqS {l : List Str} {x : Str} (h : x ∈ uniqS l) : x ∈ l := by
  have h1 : (Sum.inr x : Key) ∈ (uniqS l).map Sum.inr := List.mem_map.mpr ⟨x, h, rfl⟩
  rw [uniqS_key, mem_keysOf, List.mem_reverse] at h1
  obtain ⟨y, hy, e⟩ := List.mem_map.mp h1
  cases e; exact hy
theorem mem_uniqI {l : List Int} {x : Int} (h : x ∈ uniqI l) : x ∈ l := by
  have h1 : (Sum.inl x : Key) ∈ (uniqI l).map Sum.inl := List.mem_map.mpr ⟨x, h, rfl⟩
  rw [uniqI_key, mem_keysOf, List.mem_reverse] at h1
  obtain ⟨y, hy, e⟩ := List.mem_map.mp h1
  cases e; exact hy
theorem len_uniqS (l : List Str) : (uniqS l).length ≤ l.length := by
  have h := congrArg List.length (uniqS_key l)
  rw [List.length_map] at h
  have h2 := len_keysOf (l.map Sum.inr).reverse
  rw [List.length_reverse, List.length_map] at h2
  omega
theorem len_uniqI (l : List Int) : (uniqI l).length ≤ l.length := by
  have h := congrArg List.length (uniqI_key l)
  rw [List.length_map] at h
  have h2 := len_keysOf (l.map Sum.inl).reverse
  rw [List.length_reverse, List.length_map] at h2
  omega
theorem okd_resS (t : Tm) (h : t.wf) : Okd (resS t) 1 (t.nodes * 17) := by
  refine (OkdA.tup (OkdA.all (D := 0) (W := 16) _ fun d hd => ?_)).mono (Nat.le_refl _) ?_
  · obtain ⟨x, hx, rfl⟩ := List.mem_map.mp hd
    obtain ⟨u, hu, e⟩ := List.mem_filterMap.mp (mem_uniqS (mem_sortS hx))
    have wf := Tm.lvs_wf h u hu
    cases u with
    | name y => cases e; exact .str (name_ok wf).1 (name_ok wf).2
    | count y n => cases e; rw [wf.1]; exact lit_ok (by decide +kernel)
    | _ => cases e
  · have h1 := len_uniqS (namesT t)
    have h2 : (namesT t).length ≤ t.lvs.length := len_filterMap_le _ _
    have h3 := t.lvs_len
    have h4 : (sortS (uniqS (namesT t))).length = (uniqS (namesT t)).length := (List.mergeSort_perm _ leS).length_eq
    rw [List.length_map]
    have : (sortS (uniqS (namesT t))).length ≤ t.nodes := by omega
    exact Nat.mul_le_mul_right 17 this
theorem okd_resI (w0 : Str) (t : Tm) (h : t.wf) : Okd (resI w0 t) 1 (t.nodes * 65) := by
  refine (OkdA.tup (OkdA.all (D := 0) (W := 64) _ fun d hd => ?_)).mono (Nat.le_refl _) ?_
  · obtain ⟨x, hx, rfl⟩ := List.mem_map.mp hd
    obtain ⟨u, hu, e⟩ := List.mem_filterMap.mp (mem_uniqI (mem_sortI hx))
    have wf := Tm.lvs_wf h u hu
    cases u with
    | num y n =>
      by_cases hw : y = w0
      · have e1 : pickNum w0 (.num y n) = some n := if_pos hw
        rw [e1] at e; cases e
        refine .int ?_
        have e : (10 : Nat) ^ 18 = 1000000000000000000 := by decide
        rcases wf with ⟨_, h1, h2⟩ | ⟨_, h1, h2⟩ <;> omega
      · have e1 : pickNum w0 (.num y n) = none := if_neg hw
        rw [e1] at e; cases e
    | _ => cases e
  · have h1 := len_uniqI (numsT w0 t)
    have h2 : (numsT w0 t).length ≤ t.lvs.length := len_filterMap_le _ _
    have h3 := t.lvs_len
    have h4 : (sortI (uniqI (numsT w0 t))).length = (uniqI (numsT w0 t)).length := (List.mergeSort_perm _ leI).length_eq
    rw [List.length_map]
    have : (sortI (uniqI (numsT w0 t))).length ≤ t.nodes := by omega
    exact Nat.mul_le_mul_right 65 this
end RS

/-! Law3: the law itself. -/
namespace RS
open PySem PySem.Spec PyProof.Rows L2

theorem argsW_le (n : Nat) : ∀ as : List (Str × Tm), (∀ a ∈ as, a.2.nodes ≤ n) → argsW as ≤ as.length * (n + 1)
  | [], _ => Nat.zero_le _
  | a :: r, h => by
    have h1 := h a List.mem_cons_self
    have h2 := argsW_le n r fun x hx => h x (List.mem_cons_of_mem _ hx)
    rw [List.length_cons, Nat.succ_mul]; simp only [argsW]; omega
theorem lt18 {n : Nat} (h : n ≤ 364) : (n : Int).natAbs < 10 ^ 18 := by
  have e : (10 : Nat) ^ 18 = 1000000000000000000 := by decide
  omega
theorem not_app {u : Tm} (h : ¬ u.isApp = true) : u.args = [] ∧ u.head = u := by
  cases u with
  | app _ _ _ => exact absurd rfl h
  | _ => exact ⟨rfl, rfl⟩
theorem Stt.mut {H : Hp} {d g c p : Addr} {T : Nat} {o : HO} (S : Stt H d g c T) (h1 : p ≠ d) (h2 : p ≠ g) (h3 : p ≠ c) : Stt (upd H p o) d g c T := by
  obtain ⟨gs, cs, l, t, e1, e2, e3, e4, e5⟩ := S.ex
  exact ⟨S.ne, gs, cs, l, t, (upd_ne h1.symm).trans e1, (upd_ne h2.symm).trans e2, (upd_ne h3.symm).trans e3, e4, e5⟩
theorem Stt.fresh {H : Hp} {d g c p : Addr} {T : Nat} (S : Stt H d g c T) (h : H p = none) : p ≠ d ∧ p ≠ g ∧ p ≠ c := by
  obtain ⟨_, e1⟩ := S.d
  obtain ⟨_, e2⟩ := S.g
  obtain ⟨_, e3⟩ := S.c
  exact ⟨(ne_of_none e1 h).symm, (ne_of_none e2 h).symm, (ne_of_none e3 h).symm⟩
theorem Ch.mut {d g p : Addr} {H H1 : Hp} {o : HO} (C : Ch d g H H1) (h : H p = none) : Ch d g H (upd H1 p o) := fun b u z1 z2 e => by rw [upd_ne (ne_of_none e h)]; exact C b u z1 z2 e
def Fr (a d : Addr) (σ : L2.St) : Prop := ∃ v2 v3 v4 v5 v6 v7 v8 v9 v10 v11 v12 v13 v14 v15 v16 v17 : Option V, σ = [some (.ref a), some (.ref d), v2, v3, v4, v5, v6, v7, v8, v9, v10, v11, v12, v13, v14, v15, v16, v17]
theorem fr_mk {a d : Addr} {v2 v3 v4 v5 v6 v7 v8 v9 v10 v11 v12 v13 v14 v15 v16 v17 : Option V} : Fr a d [some (.ref a), some (.ref d), v2, v3, v4, v5, v6, v7, v8, v9, v10, v11, v12, v13, v14, v15, v16, v17] := ⟨_, _, _, _, _, _, _, _, _, _, _, _, _, _, _, _, rfl⟩
abbrev frm (a d lm D : Addr) (vt vh : V) (v2 v5 v6 v7 v10 v11 v12 v13 v14 v15 v16 v17 : Option V) : L2.St := [some (.ref a), some (.ref d), v2, some (.ref lm), some (.ref D), v5, v6, v7, some vt, some vh, v10, v11, v12, v13, v14, v15, v16, v17]
def spLaw (K : PySem.W.Frag) : Sp := fun vs H Q _ => ∃ (a : Addr) (ns : List Int), vs = [.ref a] ∧ SqL K H a (ns.map V.int) ∧ ns.length ≤ 63 ∧ ∀ H', Q (.bl true) H'
theorem sc_law : FnScope ["script", "state", "turn", "marks", "some", "due", "leaves", "size_here", "term", "head", "mark", "argument", "told", "left", "ask", "spot", "leaf", "ahead"] ["script"] (defScope s_law) := ⟨rfl, rfl, rfl, by decide +kernel, rfl, by decide +kernel, by decide +kernel⟩
section
variable {P : Program} {w : World} {K : PySem.W.Frag} {mg : Str → Option Value} {base : Heap}
def askS (K : PySem.W.Frag) (f1 f2 f3 : Addr) (f : Addr) (sp : Sp) : Prop := (f = f1 ∧ sp = spNames K resS) ∨ (f = f2 ∧ sp = spNames K (resI "local")) ∨ (f = f3 ∧ sp = spNames K (resI "hole"))
theorem ok_law {f f1 f2 f3 : Addr} {fd : FuncData} (F : Fun K "law" "law" s_law f fd)
    (n_len : mg "len" = none) (n_min : mg "min" = none) (n_range : mg "range" = none) (n_repr : mg "repr" = none) (n_tuple : mg "tuple" = none) (n_sorted : mg "sorted" = none) (n_set : mg "set" = none) (n_list : mg "list" = none)
    (D_law_begun : Df P w K mg base "_law_begun" 1 ["script"] (spBegun K)) (D_law_draw : Df P w K mg base "_law_draw" 2 ["state", "size_here"] spDraw) (D_law_pick : Df P w K mg base "_law_pick" 3 ["state", "several"] spPick)
    (D_law_rt_term : Df P w K mg base "_law_rt_term" 9 ["state", "deep", "ahead"] (spTerm K 6)) (D_law_rt_leaves : Df P w K mg base "_law_rt_leaves" 7 ["term", "ahead"] (spLeaves K 6)) (D_law_k03_size : Df P w K mg base "_law_k03_size" 7 ["term"] (spSize K 6))
    (Dapplied : Df P w K mg base "applied" 1 ["head", "arguments"] (spApplied K)) (Dkapplied : DfK P w K mg base "applied" 1 ["head", "arguments"] (spApplied K) ["arguments", "head"] [1, 0])
    (Dspine : Df P w K mg base "spine" 1 ["term"] (spSpine K)) (Dkspine : DfK P w K mg base "spine" 1 ["term"] (spSpine K) ["term"] [0])
    (Dnodes_of : Df P w K mg base "nodes_of" 2 ["term"] (spNodes K)) (Dknodes_of : DfK P w K mg base "nodes_of" 2 ["term"] (spNodes K) ["term"] [0])
    (Ddepth_of : Df P w K mg base "depth_of" 2 ["term"] (spDepth K)) (Dkdepth_of : DfK P w K mg base "depth_of" 2 ["term"] (spDepth K) ["term"] [0])
    (g_names_in : mg "names_in" = some (.ref f1)) (g_locals_in : mg "locals_in" = some (.ref f2)) (g_holes_in : mg "holes_in" = some (.ref f3))
    (A_ask : ∀ f sp, askS K f1 f2 f3 f sp → Hd P w K mg base 3 f ["term"] sp ["term"] [0]) :
    FnG P w K mg base 10 f fd ["script"] (spLaw K) := by
  refine okG F sc_law (fun vs H Q E h => ?_) (fun cdv A outer s H vs Q E hg hr h => ?_)
  · obtain ⟨a, ns, rfl, _⟩ := h; rfl
  · obtain ⟨a, ns, rfl, hS, hl, k⟩ := h
    have nd := sc_law.nd
    refine ⟨_, (pss_cons (ps_set (i := 1) nd rfl (Or.inr rfl) (pe_df D_law_begun hr (by omega) (pa_cons (pv 0) pa_nil)))
      (pss_cons (ps_for PassesOwn.never rfl (pi_range1 rfl n_range (pa_cons (pe_op uAdd pe_int (pe_callB (call_min2 rfl) (by rfl) n_min (by decide +kernel) (pa_cons (pe_callB uLen (by rfl) n_len (by decide +kernel) (pa_cons (pv 0) pa_nil)) (pa_cons pe_int pa_nil)))) pa_nil)) (pg_name (i := 2) nd rfl (Or.inl rfl))
        (pss_cons (ps_par (i := 8) (j := 9) rfl nd rfl rfl (by decide) rfl rfl (pa_cons (pe_df D_law_rt_term hr (by omega) (pa_cons (pv 1) (pa_cons pe_int (pa_cons pe_int pa_nil)))) (pa_cons (pe_df D_law_rt_term hr (by omega) (pa_cons (pv 1) (pa_cons pe_int (pa_cons pe_int pa_nil)))) pa_nil)) rfl)
        (pss_cons (ps_set (i := 3) nd rfl (Or.inr rfl) (pe_lstN (pa_cons pe_str (pa_cons pe_str (pa_cons pe_str (pa_cons pe_str pa_nil))))))
        (pss_cons (ps_setLc (i := 4) (own := [("spot", 15)]) (g := gName 15) rfl nd rfl rfl (sw_true rfl rfl rfl (by decide +kernel)) (pi_range1 rfl n_range (pa_cons (pe_df D_law_draw hr (by omega) (pa_cons (pv 1) (pa_cons pe_int pa_nil))) pa_nil)) (blkOk_by (own := [("spot", 15)]) (N := ["script", "state", "turn", "marks", "some", "due", "leaves", "size_here", "term", "head", "mark", "argument", "told", "left", "ask", "spot", "leaf", "ahead"]) (sc := defScope s_law) (by decide +kernel)) (fun _ _ _ _ _ => (pg_name (i := 15) nd rfl (Or.inl rfl))) (fun _ _ _ _ _ => pts_nil) (fun _ _ _ _ _ => (pe_tupN (pa_cons (pe_df D_law_pick hr (by omega) (pa_cons (pv 1) (pa_cons (pv 3) pa_nil))) (pa_cons (pe_df D_law_rt_term hr (by omega) (pa_cons (pv 1) (pa_cons pe_int (pa_cons pe_int pa_nil)))) pa_nil)))))
        (pss_cons (ps_set (i := 5) nd rfl (Or.inl rfl) (pv 9))
        (pss_cons (ps_for PassesOwn.never rfl (pi_seq (pv 4)) (pg_tup rfl (pgs_cons (pg_name (i := 10) nd rfl (Or.inl rfl)) (pgs_cons (pg_name (i := 11) nd rfl (Or.inl rfl)) pgs_nil)))
          (pss_one (ps_set (i := 5) nd rfl (Or.inl rfl) (pe_tupN (pa_cons pe_str (pa_cons (pv 5) (pa_cons (pv 10) (pa_cons (pv 11) pa_nil))))))))
        (pss_cons (ps_if (pt_cmpR (uNe hr.units) (pe_callB (uRepr hg hr.units) (by rfl) n_repr (by decide +kernel) (pa_cons (pe_lstN (pa_cons (pe_df Dapplied hr (by omega) (pa_cons (pv 9) (pa_cons (pe_callTy call_tuple_of (by rfl) n_tuple (by decide +kernel) (pa_cons (pv 4) pa_nil)) pa_nil))) (pa_cons (pe_dfK Dkapplied hr (by omega) (pk_cons (pe_callTy call_tuple_of (by rfl) n_tuple (by decide +kernel) (pa_cons (pv 4) pa_nil)) (pk_cons (pv 9) pk_nil))) pa_nil))) pa_nil)) (pe_callB (uRepr hg hr.units) (by rfl) n_repr (by decide +kernel) (pa_cons (pe_lstN (pa_cons (pv 5) (pa_cons (pv 5) pa_nil))) pa_nil)) (nomark _))
          (pss_one (ps_ret pe_bl))
          pss_nil)
        (pss_cons (ps_par (i := 12) (j := 13) rfl nd rfl rfl (by decide) rfl rfl (pa_cons (pe_lstN pa_nil) (pa_cons (pv 5) pa_nil)) rfl)
        (pss_cons (ps_while PassesOwn.never (pt_cmpR (uEq hr.units) (pe_ix ix_seq (pv 13) pe_int (fun _ _ => rfl)) pe_str (nomark _))
          (pss_cons (ps_set (i := 12) nd rfl (Or.inl rfl) (pe_op uAdd (pe_lstN (pa_cons (pe_tupN (pa_cons (pe_ix ix_seq (pv 13) pe_int (fun _ _ => rfl)) (pa_cons (pe_ix ix_seq (pv 13) pe_int (fun _ _ => rfl)) pa_nil))) pa_nil)) (pv 12)))
          (pss_one (ps_set (i := 13) nd rfl (Or.inl rfl) (pe_ix ix_seq (pv 13) pe_int (fun _ _ => rfl))))))
        (pss_cons (ps_if (pt_w (PW.pt (pw_or (pt_cmpR (uNe hr.units) (pe_callB (uRepr hg hr.units) (by rfl) n_repr (by decide +kernel) (pa_cons (pe_lstN (pa_cons (pe_df Dspine hr (by omega) (pa_cons (pv 5) pa_nil)) (pa_cons (pe_dfK Dkspine hr (by omega) (pk_cons (pv 5) pk_nil)) pa_nil))) pa_nil)) (pe_callB (uRepr hg hr.units) (by rfl) n_repr (by decide +kernel) (pa_cons (pe_op uMul (pe_lstN (pa_cons (pe_tupN (pa_cons (pv 13) (pa_cons (pe_callTy call_tuple_of (by rfl) n_tuple (by decide +kernel) (pa_cons (pv 12) pa_nil)) pa_nil))) pa_nil)) pe_int) pa_nil)) (nomark _)) (pw_or1 (pt_cmpR (uNe hr.units) (pe_df Dapplied hr (by omega) (pa_cons (pv 13) (pa_cons (pe_callTy call_tuple_of (by rfl) n_tuple (by decide +kernel) (pa_cons (pv 12) pa_nil)) pa_nil))) (pv 5) (nomark _))))))
          (pss_one (ps_ret pe_bl))
          pss_nil)
        (pss_cons (ps_setLc (i := 6) (own := [("leaf", 16), ("ahead", 17)]) (g := gTup K 2 (gCons (gName 16) (gCons (gName 17) gNil))) rfl nd rfl rfl (sw_true rfl rfl rfl (by decide +kernel)) (pi_seq (pe_df D_law_rt_leaves hr (by omega) (pa_cons (pv 8) (pa_cons pe_int pa_nil)))) (blkOk_by (own := [("leaf", 16), ("ahead", 17)]) (N := ["script", "state", "turn", "marks", "some", "due", "leaves", "size_here", "term", "head", "mark", "argument", "told", "left", "ask", "spot", "leaf", "ahead"]) (sc := defScope s_law) (by decide +kernel)) (fun _ _ _ _ _ => (pg_tup rfl (pgs_cons (pg_name (i := 16) nd rfl (Or.inl rfl)) (pgs_cons (pg_name (i := 17) nd rfl (Or.inl rfl)) pgs_nil)))) (fun _ _ _ _ _ => pts_nil) (fun _ _ _ _ _ => (pv 16)))
        (pss_cons (ps_for PassesOwn.never rfl (pi_seq (pe_lstN (pa_cons (pe_tupN (pa_cons (pe_glob (v := .ref _) rfl g_names_in rfl) (pa_cons (pe_lc (own := [("leaf", 16)]) (g := gName 16) rfl nd (pi_seq (pv 6)) (blkOk_by (own := [("leaf", 16)]) (N := ["script", "state", "turn", "marks", "some", "due", "leaves", "size_here", "term", "head", "mark", "argument", "told", "left", "ask", "spot", "leaf", "ahead"]) (sc := defScope s_law) (by decide +kernel)) (fun _ _ _ _ _ => (pg_name (i := 16) nd rfl (Or.inl rfl))) (fun _ _ _ _ _ => (pts_one (pt_cmpR (uInK (K := K) rfl) (pe_ix (ixK (K := K) rfl) (pv 16) pe_int (fun _ _ => rfl)) (pe_tupN (pa_cons pe_str (pa_cons pe_str pa_nil))) (by rfl)))) (fun _ _ _ _ _ => (pe_ix (ixK (K := K) rfl) (pv 16) pe_int (fun _ _ => rfl)))) pa_nil))) (pa_cons (pe_tupN (pa_cons (pe_glob (v := .ref _) rfl g_locals_in rfl) (pa_cons (pe_lc (own := [("leaf", 16)]) (g := gName 16) rfl nd (pi_seq (pv 6)) (blkOk_by (own := [("leaf", 16)]) (N := ["script", "state", "turn", "marks", "some", "due", "leaves", "size_here", "term", "head", "mark", "argument", "told", "left", "ask", "spot", "leaf", "ahead"]) (sc := defScope s_law) (by decide +kernel)) (fun _ _ _ _ _ => (pg_name (i := 16) nd rfl (Or.inl rfl))) (fun _ _ _ _ _ => (pts_one (pt_cmpR (uEqK (K := K) rfl hr.units) (pe_ix (ixK (K := K) rfl) (pv 16) pe_int (fun _ _ => rfl)) pe_str (nomark _)))) (fun _ _ _ _ _ => (pe_ix (ixK (K := K) rfl) (pv 16) pe_int (fun _ _ => rfl)))) pa_nil))) (pa_cons (pe_tupN (pa_cons (pe_glob (v := .ref _) rfl g_holes_in rfl) (pa_cons (pe_lc (own := [("leaf", 16)]) (g := gName 16) rfl nd (pi_seq (pv 6)) (blkOk_by (own := [("leaf", 16)]) (N := ["script", "state", "turn", "marks", "some", "due", "leaves", "size_here", "term", "head", "mark", "argument", "told", "left", "ask", "spot", "leaf", "ahead"]) (sc := defScope s_law) (by decide +kernel)) (fun _ _ _ _ _ => (pg_name (i := 16) nd rfl (Or.inl rfl))) (fun _ _ _ _ _ => (pts_one (pt_cmpR (uEqK (K := K) rfl hr.units) (pe_ix (ixK (K := K) rfl) (pv 16) pe_int (fun _ _ => rfl)) pe_str (nomark _)))) (fun _ _ _ _ _ => (pe_ix (ixK (K := K) rfl) (pv 16) pe_int (fun _ _ => rfl)))) pa_nil))) pa_nil))))) (pg_tup rfl (pgs_cons (pg_name (i := 14) nd rfl (Or.inl rfl)) (pgs_cons (pg_name (i := 5) nd rfl (Or.inl rfl)) pgs_nil)))
          (pss_one (ps_if (pt_cmpR (uNe hr.units) (pe_callB (uRepr hg hr.units) (by rfl) n_repr (by decide +kernel) (pa_cons (pe_lstN (pa_cons (pe_hd (i := 14) A_ask hr (by omega) (pa_cons (pv 8) pa_nil)) (pa_cons (pe_hdK (i := 14) A_ask hr (by omega) (pk_cons (pv 8) pk_nil)) pa_nil))) pa_nil)) (pe_callB (uRepr hg hr.units) (by rfl) n_repr (by decide +kernel) (pa_cons (pe_op uMul (pe_lstN (pa_cons (pe_callTy call_tuple_of (by rfl) n_tuple (by decide +kernel) (pa_cons (pe_callB (uSorted rfl hr.units) (by rfl) n_sorted (by decide +kernel) (pa_cons (pe_callB (uSorted rfl hr.units) (by rfl) n_sorted (by decide +kernel) (pa_cons (pe_callTy (uSet rfl) (by rfl) n_set (by decide +kernel) (pa_cons (pv 5) pa_nil)) pa_nil)) pa_nil)) pa_nil)) pa_nil)) pe_int) pa_nil)) (nomark _))
            (pss_one (ps_ret pe_bl))
            pss_nil)))
        (pss_cons (ps_set (i := 7) nd rfl (Or.inl rfl) (pe_df D_law_k03_size hr (by omega) (pa_cons (pv 8) pa_nil)))
        (pss_cons (ps_if (pt_cmpR (uNe hr.units) (pe_callB (uRepr hg hr.units) (by rfl) n_repr (by decide +kernel) (pa_cons (pe_lstN (pa_cons (pe_df Dnodes_of hr (by omega) (pa_cons (pv 8) pa_nil)) (pa_cons (pe_df Ddepth_of hr (by omega) (pa_cons (pv 8) pa_nil)) (pa_cons (pe_dfK Dknodes_of hr (by omega) (pk_cons (pv 8) pk_nil)) (pa_cons (pe_dfK Dkdepth_of hr (by omega) (pk_cons (pv 8) pk_nil)) pa_nil))))) pa_nil)) (pe_callB (uRepr hg hr.units) (by rfl) n_repr (by decide +kernel) (pa_cons (pe_op uMul (pe_callTy call_list_of (by rfl) n_list (by decide +kernel) (pa_cons (pv 7) pa_nil)) pe_int) pa_nil)) (nomark _))
          (pss_one (ps_ret pe_bl))
          pss_nil)
        (pss_one (ps_if (pt_cmpR (uNe hr.units) (pe_df Dnodes_of hr (by omega) (pa_cons (pe_tupN (pa_cons pe_str (pa_cons pe_str (pa_cons (pv 9) (pa_cons (pv 8) pa_nil))))) pa_nil)) (pe_op uAdd (pe_op uAdd pe_int (pe_df Dnodes_of hr (by omega) (pa_cons (pv 9) pa_nil))) (pe_df Dnodes_of hr (by omega) (pa_cons (pv 8) pa_nil))) (nomark _))
          (pss_one (ps_ret pe_bl))
          pss_nil))))))))))))))))
      (pss_one (ps_ret pe_bl)))), ?_⟩
    refine ⟨_, rfl, a, ns, rfl, hS, by omega, fun d g c H1 e1 nd' ng nc dg S0 => ?_⟩
    have hmin : ∀ n : Nat, n ≤ 63 → 0 ≤ (8 + (if (12 : Int) < (n : Int) then (12 : Int) else (n : Int))) ∧ (8 + (if (12 : Int) < (n : Int) then (12 : Int) else (n : Int))) ≤ 20 := fun n h => by split <;> omega
    obtain ⟨m0, m1⟩ := hmin ns.length hl
    refine ⟨_, rfl, _, ns.length, rfl, .inl ⟨_, e1.seq hS, by rw [List.length_map]⟩, _, _, rfl, add_i ⟨_, rfl, by omega, by omega, for_range (fun i σ H2 => Fr a d σ ∧ Stt H2 d g c (30000 * i)) ⟨fr_mk, S0⟩ ?_ ?_⟩⟩
    · rintro i σ H2 hi ⟨⟨v2, v3, v4, v5, v6, v7, v8, v9, v10, v11, v12, v13, v14, v15, v16, v17, rfl⟩, S⟩
      have hT : 30000 * i ≤ 600000 := by
        have : i < 20 := by omega
        omega
      rw [show 30000 * (i + 1) = 30000 * i + 30000 by omega]
      generalize 30000 * i = T at *
      have c6 : cost 6 = 3640 := rfl
      have hT2 : topT = 1099511627776 := rfl
      refine ⟨_, rfl, d, g, c, T, 6, 1, rfl, S, by omega, by decide, by decide, by decide, by decide, fun t vt H3 C3 S3 dt3 wft dpt => ?_⟩
      refine ⟨_, rfl, d, g, c, T + cost 6, 3, 0, rfl, S3, by omega, by decide, by decide, by decide, by decide, fun h vh H4 C4 S4 dh4 wfh dph => ⟨_, _, rfl, ?_⟩⟩
      have dt4 := Dt.keep (C4.tk S3) _ dt3
      rw [c6] at S4
      refine lst_new (by show 4 ≤ 1000; decide) fun lm nlm => ?_
      have S5 := S4.new (o := .lst (marksL.map V.str)) nlm
      obtain ⟨lmd, lmg, lmc⟩ := S4.fresh nlm
      have dt5 := Dt.keep (K := K) (TK.new (o := .lst (marksL.map V.str)) nlm) _ dt4
      have dh5 := Dt.keep (K := K) (TK.new (o := .lst (marksL.map V.str)) nlm) _ dh4
      have hm5 : upd H4 lm (.lst (marksL.map V.str)) lm = some (.lst (marksL.map V.str)) := upd_same
      change tSeq _ _ _ _ (upd H4 lm (.lst (marksL.map V.str)))
      generalize upd H4 lm (.lst (marksL.map V.str)) = H5 at S5 dt5 dh5 hm5
      clear dt4 dh4 dt3 C3 C4 S3 S nlm S4
      refine ⟨_, rfl, d, g, c, T + 3640 + 3640, 5, rfl, S5, by omega, by decide, by decide, fun r H6 C6 S6 r0 r1 => ⟨r, rfl, by omega, by omega, fun D nD => ?_⟩⟩
      have dt6 := Dt.keep (C6.tk S5) _ dt5
      have dh6 := Dt.keep (C6.tk S5) _ dh5
      have hm6 := C6 _ _ lmd lmg hm5
      obtain ⟨Dd, Dg, Dc⟩ := S6.fresh nD
      have nDm : lm ≠ D := ne_of_none hm6 nD
      refine lc_range (fun j H7 => ∃ (as : List (Str × Tm)) (xs : List V), Stt H7 d g c (T + 7281 + 3641 * j) ∧ Ch d g H6 H7 ∧ H7 D = some (.lst xs) ∧ DtAll K H7 xs (as.map pdA) ∧ as.length = j ∧ (∀ a ∈ as, a.1 ∈ marksL ∧ a.2.wf) ∧ ∀ a ∈ as, a.2.depth ≤ 3)
        ⟨[], [], (S6.new nD).mono (by omega), Ch.new nD, upd_same, .nil, rfl, (fun a h => nomatch h), fun a h => nomatch h⟩ (fun j H7 hj ⟨as, xs, S7, C7, hD7, da7, la, wa, pa⟩ => ?_) (fun H7 ⟨as, xs, S7, C7, hD7, da7, la, wa, pa⟩ => ?_)
      · have hj4 : j < 5 := by omega
        refine ⟨rfl, _, rfl, _, rfl, d, g, c, T + 7281 + 3641 * j, lm, marksL.map V.str, rfl, S7, C7 _ _ lmd lmg hm6, lmg, by decide, by decide, by omega, fun im m H8 hm C8 S8 => ?_⟩
        obtain ⟨m, hmk, rfl⟩ := pick_str hm
        refine ⟨_, rfl, d, g, c, T + 7281 + 3641 * j + 1, 3, 1, rfl, S8, by omega, by decide, by decide, by decide, by decide, fun u vu H9 C9 S9 du9 wfu dpu => ?_⟩
        refine tup_new (K := K) (ds := [.str m, u.pd]) (.cons (.str m) (.cons du9 .nil)) (by show 2 ≤ 1000; decide) fun va H10 e10 da10 => ?_
        have CC : Ch d g H7 H10 := (C8.trans C9).ofSame e10
        have hD10 := CC _ _ Dd Dg hD7
        have SS := S9.keep e10
        have TT : TK K H7 (upd H10 D (.lst (xs ++ [va]))) := (CC.tk S7).trans (TK.lst hD10)
        refine ⟨xs, hD10, ?_, as ++ [(m, u)], xs ++ [va], (SS.mut Dd Dg Dc).mono (by omega), (C7.trans CC).mut nD, upd_same, ?_, by rw [List.length_append, la]; rfl, ?_, ?_⟩
        · rw [da7.length, List.length_map, sizeLine_eq]; omega
        · rw [List.map_append]
          exact DtAll.append (DtAll.keep TT _ da7) (.cons (Dt.keep (TK.lst hD10) _ da10) .nil)
        · intro b hb
          rcases List.mem_append.mp hb with hb | hb
          · exact wa b hb
          · rw [List.mem_singleton.mp hb]; exact ⟨hmk, wfu⟩
        · intro b hb
          rcases List.mem_append.mp hb with hb | hb
          · exact pa b hb
          · rw [List.mem_singleton.mp hb]; show u.depth ≤ 3; omega
      · have dt7 := Dt.keep (C7.tk S6) _ dt6
        have dh7 := Dt.keep (C7.tk S6) _ dh6
        have la4 : as.length ≤ 4 := by omega
        replace S7 := S7.mono (T' := T + 30000) (by omega)
        clear dt6 dh6 dt5 dh5 S6 S5 C6 C7 hm6 hm5 nD hT S0 e1
        have eT : T + 30000 = T + 30000 := rfl
        refine ⟨_, rfl, _, rfl, D, rfl, .inl ⟨⟨_, SqL.of hD7⟩, for_list (K := K) (a := D) (xs := xs) (fun j σ H8 => ∃ (vd : V) (v10 v11 : Option V), σ = frm a d lm D vt vh (some (.int (0 + (i : Int)))) (some vd) v6 v7 v10 v11 v12 v13 v14 v15 v16 v17 ∧ Same H7 H8 ∧ Dt K H8 vd (h.applied (as.take j)).pd)
          ⟨vh, v10, v11, rfl, Same.refl _, dh7⟩ (fun j σ H8 _ ⟨_, _, _, _, e, _⟩ => SqL.of (e _ _ hD7)) ?_ ?_⟩⟩
        · rintro j x σ H8 hx ⟨vd, v10, v11, rfl, e8, dd8⟩
          obtain ⟨m, u, q, vu, hu, rfl, hq, du⟩ := args_at (DtAll.keep (TK.same e8) _ da7) hx
          refine ⟨q, _, rfl, hq, rfl, .str m, _, rfl, vu, _, rfl, rfl, ?_⟩
          refine ⟨_, rfl, _, rfl, _, rfl, tup_new (K := K) (ds := [.str "app", (h.applied (as.take j)).pd, .str m, u.pd]) (.cons (.str _) (.cons dd8 (.cons (.str m) (.cons du .nil)))) (by show 4 ≤ 1000; decide) fun v9 H9 e9 d9 => ⟨v9, _, _, rfl, e8.trans e9, ?_⟩⟩
          rw [take_snoc hu, Tm.applied_app]
          exact d9
        · rintro σ H8 ⟨vd, v10, v11, rfl, e8, dd8⟩
          rw [show xs.length = as.length by rw [da7.length, List.length_map], List.take_length] at dd8
          have wfd := Tm.applied_wf as h wa wfh
          have ndd : (h.applied as).nodes ≤ 1000 := by
            rw [Tm.applied_nodes]
            have h1 : h.nodes ≤ 13 := Tm.nodes_at (n := 3) (by omega)
            have h2 : argsW as ≤ as.length * 14 := argsW_le 13 as fun a ha => Nat.le_trans a.2.nodes_le (pw3_mono (n := 3) (pa a ha))
            omega
          have dpd : (h.applied as).depth ≤ 7 := Nat.le_trans (Tm.applied_depth as h 3 pa (by omega)) (by omega)
          generalize hdm : h.applied as = dm at dd8 wfd ndd dpd
          have okd := (dm.okd wfd).mono dpd (Nat.mul_le_mul_left 80 ndd)
          have ok2 : OkdA [dm.pd, dm.pd] 7 160002 := (OkdA.cons okd (.cons okd .nil)).mono (Nat.le_refl _) (by decide)
          -- applied
          refine ⟨_, rfl, _, rfl, D, xs, rfl, .inl ⟨SqL.of (e8 _ _ hD7), fun q1 nq1 => ?_⟩⟩
          have f1 := e8.trans (same_new (o := .tup xs) nq1)
          refine ⟨vh, .ref q1, h, as, rfl, dh7.same f1, .tup (SqT.of upd_same) (DtAll.keep (TK.same f1) _ da7), fun va1 H9 e9 d9 => ?_⟩
          replace f1 := f1.trans e9
          refine ⟨_, rfl, D, xs, rfl, .inl ⟨SqL.of (f1 _ _ hD7), fun q2 nq2 => ⟨_, rfl, rfl, vh, .ref q2, h, as, rfl, dh7.same (same2 f1 nq2), .tup (SqT.of upd_same) (DtAll.keep (TK.same (same2 f1 nq2)) _ da7), fun va2 H10 e10 d10 => ?_⟩⟩⟩
          rw [hdm] at d9 d10
          have f2 := (same2 (o := .tup xs) f1 nq2).trans e10
          have dd10 := (dd8.same ((same_new (o := .tup xs) nq1).trans e9)).same ((same_new (o := .tup xs) nq2).trans e10)
          replace d9 := d9.same ((same_new (o := .tup xs) nq2).trans e10)
          clear e9 e10 nq1 nq2 f1 e8 dd8
          refine lst_new (by show 2 ≤ 1000; decide) fun l1 nl1 => rpL (K := K) (SqL.of upd_same) (.cons (d9.same (same_new nl1)) (.cons (d10.same (same_new nl1)) .nil)) ok2 (by decide) (by decide) ?_
          refine ⟨_, rfl, _, rfl, lst_new (by show 2 ≤ 1000; decide) fun l2 nl2 => rpL (K := K) (SqL.of upd_same) (.cons ((dd10.same (same_new nl1)).same (same_new nl2)) (.cons ((dd10.same (same_new nl1)).same (same_new nl2)) .nil)) ok2 (by decide) (by decide) ?_⟩
          refine eq_f rfl (by simp) ⟨_, rfl, iteF ?_⟩
          have e11 := same2 (o := .lst [vd, vd]) (same2 (o := .lst [va1, va2]) f2 nl1) nl2
          have dd11 := (dd10.same (same_new (o := .lst [va1, va2]) nl1)).same (same_new (o := .lst [vd, vd]) nl2)
          generalize upd (upd H10 l1 (.lst [va1, va2])) l2 (.lst [vd, vd]) = H11 at e11 dd11
          clear dd10 d9 d10 nl1 nl2 f2
          -- spine
          refine lst_new (Nat.zero_le _) fun l0 nl0 => ⟨_, rfl, ⟨_, _, rfl, ?_⟩⟩
          refine ⟨fun m σ H12 => ∃ (u : Tm) (acc : List (Str × Tm)) (vu : V) (l : Addr) (ys : List V), σ = frm a d lm D vt vh (some (.int (0 + (i : Int)))) (some vd) v6 v7 v10 v11 (some (.ref l)) (some vu) v14 v15 v16 v17 ∧ Same H11 H12 ∧ H12 l = some (.lst ys) ∧ DtAll K H12 ys (acc.map pdA) ∧ Dt K H12 vu u.pd ∧ u.wf ∧ u.head = dm.head ∧ u.args ++ acc = dm.args ∧ m = u.nodes,
            ⟨_, dm, [], vd, l0, [], rfl, same_new nl0, upd_same, .nil, dd11.same (same_new nl0), wfd, rfl, by simp, rfl⟩, ?_⟩
          rintro m σ H12 ⟨u, acc, vu, l, ys, rfl, e12, hl12, da12, du12, wfu, eh, ea, rfl⟩
          obtain ⟨p, ws, rfl, hT12⟩ := dt_word du12
          refine ⟨_, rfl, ixt (i := 0) hT12 rfl (eq_f rfl (by rw [wf_app wfu]) ⟨_, rfl, ?_⟩)⟩
          have lacc : acc.length ≤ 1000 := by
            have h1 := dm.args_len
            rw [← ea, List.length_append] at h1
            omega
          refine ite2 (fun hc => ?_) (fun hc => ?_)
          · cases u with
            | app gg m x =>
              obtain ⟨p', vf, vx, e, hB, hf, hx⟩ := dt_app du12
              cases e
              refine ⟨fun σ' H' => ∃ m', m' < (Tm.app gg m x).nodes ∧ _, fun σ' H' h => h, ?_⟩
              refine ⟨_, rfl, ixt (i := 2) hB rfl ⟨_, rfl, ixt (i := 3) hB rfl (tup_new (K := K) (ds := [.str m, x.pd]) (.cons (.str m) (.cons hx .nil)) (by show 2 ≤ 1000; decide) fun va H13 e13 d13 => ?_)⟩⟩
              refine lst_new (by show 1 ≤ 1000; decide) fun q nq => ⟨_, rfl, add_l upd_same ((same_new nq) _ _ (e13 _ _ hl12)) ?_ fun r nr => ?_⟩
              · have := da12.length
                rw [List.length_map] at this
                rw [this, sizeLine_eq]; simp; omega
              · have e14 := same2 (o := .lst ([va] ++ ys)) (same2 (o := .lst [va]) e13 nq) nr
                refine ⟨_, rfl, ixt (i := 1) (sqs hB e14) rfl ⟨gg.nodes, by simp only [Tm.nodes]; omega, gg, (m, x) :: acc, vf, r, [va] ++ ys, rfl, e12.trans e14, upd_same, ?_, hf.same e14, wfu.1, eh, ?_, rfl⟩⟩
                · exact .cons ((d13.same (same_new nq)).same (same_new nr)) (DtAll.keep (TK.same e14) _ da12)
                · rw [← ea]; simp [Tm.args]
            | _ => exact Bool.noConfusion hc
          · obtain ⟨h1, h2⟩ := not_app (u := u) fun z => hc (by rw [z]; rfl)
            rw [h2] at eh
            rw [h1, List.nil_append] at ea
            subst eh ea
            have dd12 := dd11.same e12
            have oks := dm.okd_spine wfd
            replace oks := oks.mono (D' := 10) (W' := 80002) (by omega) (by omega)
            have oks2 : OkdA [.tuple [dm.head.pd, .tuple (dm.args.map pdA)], .tuple [dm.head.pd, .tuple (dm.args.map pdA)]] 10 160008 := (OkdA.cons oks (.cons oks .nil)).mono (Nat.le_refl _) (by decide)
            refine ⟨_, rfl, vd, dm, rfl, dd12, wfd, by omega, fun vs1 H13 e13 ds1 => ⟨_, rfl, rfl, vd, dm, rfl, dd12.same e13, wfd, by omega, fun vs2 H14 e14 ds2 => ?_⟩⟩
            refine lst_new (by show 2 ≤ 1000; decide) fun l3 nl3 => rpL (K := K) (SqL.of upd_same) (.cons ((ds1.same e14).same (same_new nl3)) (.cons (ds2.same (same_new nl3)) .nil)) oks2 (by decide) (by decide) ?_
            have e15 := same2 (o := .lst [vs1, vs2]) (e13.trans e14) nl3
            generalize upd H14 l3 (.lst [vs1, vs2]) = H15 at e15
            clear nl3 ds1 ds2 e13 e14 H13 H14
            refine ⟨_, rfl, _, rfl, l, ys, rfl, .inl ⟨SqL.of (e15 _ _ hl12), fun q nq => tup_new (K := K) (ds := [dm.head.pd, .tuple (dm.args.map pdA)]) (.cons ((du12.same e15).same (same_new nq)) (.cons (.tup (SqT.of upd_same) (DtAll.keep (TK.same (same2 e15 nq)) _ da12)) .nil)) (by show 2 ≤ 1000; decide) fun vt2 H16 e16 dtt => ?_⟩⟩
            refine lst_new (by show 1 ≤ 1000; decide) fun l4 nl4 => mul_l (xs := [vt2]) ⟨l4, 2, [vt2], rfl, rfl, upd_same, by decide, by decide, (by rw [sizeLine_eq]; show 1 * 2 ≤ 16777216; decide), fun r nr => ?_⟩
            refine rpL (K := K) (xs := [vt2, vt2]) (SqL.of upd_same) (.cons ((dtt.same (same_new nl4)).same (same_new nr)) (.cons ((dtt.same (same_new nl4)).same (same_new nr)) .nil)) oks2 (by decide) (by decide) ?_
            have e17 := same2 (o := .lst [vt2, vt2]) (same2 (o := .lst [vt2]) ((same2 (o := .tup ys) e15 nq).trans e16) nl4) nr
            change rEqU _ _ _ _ (upd (upd H16 l4 (.lst [vt2])) r (.lst [vt2, vt2])) _
            generalize upd (upd H16 l4 (.lst [vt2])) r (.lst [vt2, vt2]) = H17 at e17
            clear nl4 nr dtt e16 nq e15 H15 H16
            refine eq_f rfl (by simp) ⟨_, rfl, iteF ?_⟩
            refine ⟨_, rfl, _, rfl, l, ys, rfl, .inl ⟨SqL.of (e17 _ _ hl12), fun q nq => ⟨.ref p, .ref q, dm.head, dm.args, rfl, du12.same (same2 e17 nq), .tup (SqT.of upd_same) (DtAll.keep (TK.same (same2 e17 nq)) _ da12), fun v9 H18 e18 d18 => ⟨_, rfl, ?_⟩⟩⟩⟩
            rw [dm.applied_spine] at d18
            have e19 := (same2 (o := .tup ys) e17 nq).trans e18
            refine eq_d (Dt.dp _ d18) (Dt.dp _ (dd12.same e19)) (okd.shaped (by decide)) (okd.shaped (by decide)) (by rw [okd.eqv]; rfl) ⟨_, rfl, iteF ?_⟩
            replace e19 := e11.trans (e12.trans e19)
            clear d18 e18 e17 nq dd12 oks oks2 e12 hl12 da12 du12 wfu hT12 e11 dd11 nl0
            -- leaves
            have ndt : t.nodes ≤ 364 := Tm.nodes_at (n := 6) dpt
            refine ⟨_, rfl, vt, t, 0, rfl, dt7.same e19, wft, by omega, by omega, fun lv zs H20 e20 nlv hlv dlv => ⟨lv, rfl, .inl ⟨⟨_, SqL.of hlv⟩, fun L nL => ?_⟩⟩⟩
            replace e20 := e19.trans e20
            refine lc_list (K := K) (a := lv) (xs := zs) (fun j H21 => ∃ ws, Same H20 H21 ∧ H21 L = some (.lst ws) ∧ DtAll K H21 ws ((t.lvs.take j).map Tm.pd))
              ⟨[], same_new nL, upd_same, .nil⟩ (fun j H21 _ ⟨_, e, _⟩ => SqL.of (e _ _ hlv)) (fun j x H21 hx ⟨ws, e21, hL, dw⟩ => ?_) (fun H21 ⟨ws, e21, hL, dw⟩ => ?_)
            · obtain ⟨pt, n, p, vp, hp, rfl, hT, dp⟩ := parts_at (DtAll.keep (TK.same e21) _ dlv) hx
              refine ⟨p, _, rfl, hT, rfl, vp, _, rfl, .int n, _, rfl, rfl, rfl, _, rfl, ws, hL, ?_, ws ++ [vp], same_mut e21 nL, upd_same, ?_⟩
              · have := dw.length
                rw [List.length_map, List.length_take] at this
                have l1 := t.lvs_len
                rw [sizeLine_eq]; omega
              · have : t.lvs.take (j + 1) = t.lvs.take j ++ [pt] := take_snoc (by rw [← t.leaves_fst 0, List.getElem?_map, hp]; rfl)
                rw [this, List.map_append]
                exact DtAll.append (DtAll.keep (TK.lst hL) _ dw) (.cons (Dt.keep (TK.lst hL) _ dp) .nil)
            · have lz : zs.length = t.lvs.length := by rw [dlv.length, List.length_map, ← t.leaves_fst 0, List.length_map]
              rw [lz, List.take_length] at dw
              replace e21 := e20.trans e21
              clear hlv dlv nL nlv e20 e19
              have lw : ws.length = t.lvs.length := by rw [dw.length, List.length_map]
              have e22 : Same H21 H21 := Same.refl _
              -- the three lists
              refine ⟨_, rfl, L, rfl, .inl ⟨⟨_, SqL.of hL⟩, fun D1 nD1 => lc_list (K := K) (a := L) (xs := ws) (fun j H3 => Same H21 H3 ∧ H3 D1 = some (.lst (((t.lvs.take j).filterMap pickStr).map V.str)))
                ⟨same_new nD1, upd_same⟩ (fun j H3 _ h => SqL.of (h.1 _ _ hL)) (fun j x H3 hx ⟨g2, hD⟩ => ?_) (fun H23 ⟨e23, hD1⟩ => ?_)⟩⟩
              · obtain ⟨u, hu, du⟩ := leaves_at (DtAll.keep (TK.same g2) _ dw) hx
                have hmem := List.mem_of_getElem? hu
                obtain ⟨p2, ys2, rfl, hT⟩ := dt_word du
                refine ⟨rfl, _, rfl, ixt (i := 0) hT rfl (tup_at (by show 2 ≤ 1000; decide) fun q nq => in_t (SqT.of upd_same) rfl rfl (by rw [nc_w u (Tm.lvs_wf wft u hmem) (Tm.lvs_isLeaf u hmem)]) ⟨_, rfl, ?_⟩)⟩
                have g3 := same2 (o := .tup [V.str "name", V.str "count"]) g2 nq
                have hD3 := (upd_ne (o := .tup [V.str "name", V.str "count"]) (ne_of_none hD nq)).trans hD
                have du3 := Dt.keep (K := K) (TK.new (o := .tup [V.str "name", V.str "count"]) nq) _ du
                cases ep : pickStr u with
                | some n =>
                  obtain ⟨p3, ys3, e, hT2, h1⟩ := leaf_str du3 ep
                  cases e
                  refine if_so (by rfl) ⟨_, rfl, ixt (i := 1) hT2 h1 ⟨_, hD3, ?_, same_mut g3 nD1, ?_⟩⟩
                  · rw [List.length_map]
                    have h3 := len_filterMap_le pickStr (t.lvs.take j)
                    rw [List.length_take] at h3
                    have h4 := t.lvs_len
                    rw [sizeLine_eq]; omega
                  · rw [upd_same, take_snoc hu, List.filterMap_append, List.map_append, List.filterMap_cons, ep]; rfl
                | none =>
                  refine if_not (by rfl) ⟨g3, ?_⟩
                  rw [take_snoc hu, List.filterMap_append, List.filterMap_cons, ep, List.filterMap_nil, List.append_nil]; exact hD3
              rw [lw, List.take_length] at hD1
              change H23 D1 = some (.lst ((namesT t).map V.str)) at hD1
              refine tup_at (by show 2 ≤ 1000; decide) fun q1 nq1 => ?_
              have hq1 : upd H23 q1 (.tup [.ref f1, .ref D1]) q1 = some (.tup [.ref f1, .ref D1]) := upd_same
              replace hD1 := (upd_ne (o := .tup [.ref f1, .ref D1]) (ne_of_none hD1 nq1)).trans hD1
              have e24 := same2 (o := .tup [.ref f1, .ref D1]) e23 nq1
              generalize upd H23 q1 (.tup [.ref f1, .ref D1]) = H24 at hq1 hD1 e24
              clear nD1 nq1 e23 e22
              refine ⟨_, rfl, L, rfl, .inl ⟨⟨_, SqL.of (e24 _ _ hL)⟩, fun D2 nD2 => lc_list (K := K) (a := L) (xs := ws) (fun j H3 => Same H24 H3 ∧ H3 D2 = some (.lst (((t.lvs.take j).filterMap (pickNum "local")).map V.int)))
                ⟨same_new nD2, upd_same⟩ (fun j H3 _ h => SqL.of (h.1 _ _ (e24 _ _ hL))) (fun j x H3 hx ⟨g2, hD⟩ => ?_) (fun H25 ⟨g2, hD2⟩ => ?_)⟩⟩
              · obtain ⟨u, hu, du⟩ := leaves_at (DtAll.keep (TK.same (e24.trans g2)) _ dw) hx
                have hmem := List.mem_of_getElem? hu
                obtain ⟨p2, ys2, rfl, hT⟩ := dt_word du
                refine ⟨rfl, _, rfl, ixt (i := 0) hT rfl (eq_f rfl (by rw [num_w (by decide +kernel) (by decide +kernel) u (Tm.lvs_isLeaf u hmem)]) ⟨_, rfl, ?_⟩)⟩
                cases ep : pickNum "local" u with
                | some n =>
                  obtain ⟨p3, ys3, e, hT2, h1⟩ := leaf_num du ep
                  cases e
                  refine if_so (by rfl) ⟨_, rfl, ixt (i := 1) hT2 h1 ⟨_, hD, ?_, same_mut g2 nD2, ?_⟩⟩
                  · rw [List.length_map]
                    have h3 := len_filterMap_le (pickNum "local") (t.lvs.take j)
                    rw [List.length_take] at h3
                    have h4 := t.lvs_len
                    rw [sizeLine_eq]; omega
                  · rw [upd_same, take_snoc hu, List.filterMap_append, List.map_append, List.filterMap_cons, ep]; rfl
                | none =>
                  refine if_not (by rfl) ⟨g2, ?_⟩
                  rw [take_snoc hu, List.filterMap_append, List.filterMap_cons, ep, List.filterMap_nil, List.append_nil]; exact hD
              rw [lw, List.take_length] at hD2
              change H25 D2 = some (.lst ((numsT "local" t).map V.int)) at hD2
              refine tup_at (by show 2 ≤ 1000; decide) fun q2 nq2 => ?_
              have hq2 : upd H25 q2 (.tup [.ref f2, .ref D2]) q2 = some (.tup [.ref f2, .ref D2]) := upd_same
              replace hD2 := (upd_ne (o := .tup [.ref f2, .ref D2]) (ne_of_none hD2 nq2)).trans hD2
              have e26 := same2 (o := .tup [.ref f2, .ref D2]) g2 nq2
              generalize upd H25 q2 (.tup [.ref f2, .ref D2]) = H26 at hq2 hD2 e26
              replace hq1 := e26 _ _ hq1
              replace hD1 := e26 _ _ hD1
              replace e26 := e24.trans e26
              clear nD2 nq2 g2 e24
              refine ⟨_, rfl, L, rfl, .inl ⟨⟨_, SqL.of (e26 _ _ hL)⟩, fun D3 nD3 => lc_list (K := K) (a := L) (xs := ws) (fun j H3 => Same H26 H3 ∧ H3 D3 = some (.lst (((t.lvs.take j).filterMap (pickNum "hole")).map V.int)))
                ⟨same_new nD3, upd_same⟩ (fun j H3 _ h => SqL.of (h.1 _ _ (e26 _ _ hL))) (fun j x H3 hx ⟨g2, hD⟩ => ?_) (fun H27 ⟨g2, hD3⟩ => ?_)⟩⟩
              · obtain ⟨u, hu, du⟩ := leaves_at (DtAll.keep (TK.same (e26.trans g2)) _ dw) hx
                have hmem := List.mem_of_getElem? hu
                obtain ⟨p2, ys2, rfl, hT⟩ := dt_word du
                refine ⟨rfl, _, rfl, ixt (i := 0) hT rfl (eq_f rfl (by rw [num_w (by decide +kernel) (by decide +kernel) u (Tm.lvs_isLeaf u hmem)]) ⟨_, rfl, ?_⟩)⟩
                cases ep : pickNum "hole" u with
                | some n =>
                  obtain ⟨p3, ys3, e, hT2, h1⟩ := leaf_num du ep
                  cases e
                  refine if_so (by rfl) ⟨_, rfl, ixt (i := 1) hT2 h1 ⟨_, hD, ?_, same_mut g2 nD3, ?_⟩⟩
                  · rw [List.length_map]
                    have h3 := len_filterMap_le (pickNum "hole") (t.lvs.take j)
                    rw [List.length_take] at h3
                    have h4 := t.lvs_len
                    rw [sizeLine_eq]; omega
                  · rw [upd_same, take_snoc hu, List.filterMap_append, List.map_append, List.filterMap_cons, ep]; rfl
                | none =>
                  refine if_not (by rfl) ⟨g2, ?_⟩
                  rw [take_snoc hu, List.filterMap_append, List.filterMap_cons, ep, List.filterMap_nil, List.append_nil]; exact hD
              rw [lw, List.take_length] at hD3
              change H27 D3 = some (.lst ((numsT "hole" t).map V.int)) at hD3
              refine tup_at (by show 2 ≤ 1000; decide) fun q3 nq3 => ?_
              have hq3 : upd H27 q3 (.tup [.ref f3, .ref D3]) q3 = some (.tup [.ref f3, .ref D3]) := upd_same
              replace hD3 := (upd_ne (o := .tup [.ref f3, .ref D3]) (ne_of_none hD3 nq3)).trans hD3
              have e28 := same2 (o := .tup [.ref f3, .ref D3]) g2 nq3
              generalize upd H27 q3 (.tup [.ref f3, .ref D3]) = H28 at hq3 hD3 e28
              replace hq1 := e28 _ _ hq1
              replace hD1 := e28 _ _ hD1
              replace hq2 := e28 _ _ hq2
              replace hD2 := e28 _ _ hD2
              replace e28 := e21.trans (e26.trans e28)
              clear nD3 nq3 g2 e26
              refine lst_new (by show 3 ≤ 1000; decide) fun l5 nl5 => ?_
              have hl5 : upd H28 l5 (.lst [.ref q1, .ref q2, .ref q3]) l5 = some (.lst [.ref q1, .ref q2, .ref q3]) := upd_same
              have e29 := same_new (o := .lst [.ref q1, .ref q2, .ref q3]) nl5
              generalize upd H28 l5 (.lst [.ref q1, .ref q2, .ref q3]) = H29 at hl5 e29
              replace hq1 := e29 _ _ hq1
              replace hD1 := e29 _ _ hD1
              replace hq2 := e29 _ _ hq2
              replace hD2 := e29 _ _ hD2
              replace hq3 := e29 _ _ hq3
              replace hD3 := e29 _ _ hD3
              replace e29 := e28.trans e29
              clear e28 nl5
              have o1 := okd_resS t wft
              have o2 := okd_resI "local" t wft
              have o3 := okd_resI "hole" t wft
              have z1 : (namesT t).length ≤ 364 := Nat.le_trans (Nat.le_trans (len_filterMap_le _ _) t.lvs_len) ndt
              have z2 : (numsT "local" t).length ≤ 364 := Nat.le_trans (Nat.le_trans (len_filterMap_le _ _) t.lvs_len) ndt
              have z3 : (numsT "hole" t).length ≤ 364 := Nat.le_trans (Nat.le_trans (len_filterMap_le _ _) t.lvs_len) ndt
              refine ⟨l5, rfl, .inl ⟨⟨_, SqL.of hl5⟩, for_list (K := K) (a := l5) (xs := [.ref q1, .ref q2, .ref q3]) (fun j σ H30 => ∃ (v5 v14 : Option V), σ = frm a d lm D vt vh (some (.int (0 + (i : Int)))) v5 (some (.ref L)) v7 v10 v11 (some (.ref l)) (some (.ref p)) v14 v15 v16 v17 ∧ Same H29 H30)
                ⟨_, _, rfl, Same.refl _⟩ (fun j H30 _ _ ⟨_, _, _, e⟩ => SqL.of (e _ _ hl5)) ?_ ?_⟩⟩
              · rintro j x σ H30 hx ⟨v5', v14', rfl, e30⟩
                have item : ∃ (ff q DD : Addr) (res : Tm → PyData) (lst : List V), x = .ref q ∧ askS K f1 f2 f3 ff (spNames K res) ∧ H29 q = some (.tup [.ref ff, .ref DD]) ∧ H29 DD = some (.lst lst) ∧ Okd (res t) 1 23660 ∧
                    ((∃ l : List Str, lst = l.map V.str ∧ l.length ≤ 364 ∧ res t = .tuple ((sortS (uniqS l)).map .str)) ∨ (∃ l : List Int, lst = l.map V.int ∧ l.length ≤ 364 ∧ res t = .tuple ((sortI (uniqI l)).map .int))) := by
                  match j, hx with
                  | 0, hx => exact ⟨f1, q1, D1, resS, _, (Option.some.inj hx).symm, .inl ⟨rfl, rfl⟩, hq1, hD1, o1.mono (Nat.le_refl _) (by omega), .inl ⟨namesT t, rfl, z1, rfl⟩⟩
                  | 1, hx => exact ⟨f2, q2, D2, resI "local", _, (Option.some.inj hx).symm, .inr (.inl ⟨rfl, rfl⟩), hq2, hD2, o2.mono (Nat.le_refl _) (by omega), .inr ⟨numsT "local" t, rfl, z2, rfl⟩⟩
                  | 2, hx => exact ⟨f3, q3, D3, resI "hole", _, (Option.some.inj hx).symm, .inr (.inr ⟨rfl, rfl⟩), hq3, hD3, o3.mono (Nat.le_refl _) (by omega), .inr ⟨numsT "hole" t, rfl, z3, rfl⟩⟩
                  | (n + 3), hx => simp at hx
                obtain ⟨ff, q, DD, res, lst, rfl, hS', hq, hDD, ok, hcase⟩ := item
                have okk : OkdA [res t, res t] 1 47322 := (OkdA.cons ok (.cons ok .nil)).mono (Nat.le_refl _) (by decide)
                have dtn := (dt7.same e29).same e30
                refine ⟨q, _, rfl, SqT.of (e30 _ _ hq), rfl, .ref ff, _, rfl, .ref DD, _, rfl, rfl, ?_⟩
                refine ⟨ff, _, rfl, hS', _, rfl, vt, t, rfl, dtn, wft, by omega, fun va Ha ea da => ⟨ff, _, rfl, hS', _, rfl, rfl, vt, t, rfl, dtn.same ea, wft, by omega, fun vb Hb eb db => ?_⟩⟩
                refine lst_new (by show 2 ≤ 1000; decide) fun l6 nl6 => rpL (K := K) (SqL.of upd_same) (.cons ((da.same eb).same (same_new nl6)) (.cons (db.same (same_new nl6)) .nil)) okk (by decide) (by decide) ?_
                have e31 := same2 (o := .lst [va, vb]) (ea.trans eb) nl6
                generalize upd Hb l6 (.lst [va, vb]) = H31 at e31
                clear nl6 da db ea eb
                have hDD31 := e31 _ _ (e30 _ _ hDD)
                rcases hcase with ⟨ll, rfl, hll, er⟩ | ⟨ll, rfl, hll, er⟩
                · refine ⟨_, rfl, ⟨DD, ll.map Sum.inr, rfl, ?_, ?_, fun q4 nq4 => ⟨q4, rfl, .inr ⟨uniqS ll, .inr (by rw [upd_same, uniqS_key]), fun r nr => ⟨r, rfl, .inr ⟨sortS (uniqS ll), .inl (SqL.of upd_same), fun r2 nr2 => ?_⟩⟩⟩⟩⟩⟩
                  · have e : (ll.map Sum.inr).map kV = ll.map V.str := by rw [List.map_map]; rfl
                    rw [e]; exact SqL.of hDD31
                  · rw [List.length_map]; show ll.length + 1 < 4096; omega
                  · rw [sortS_sort]
                    refine ⟨r2, _, rfl, .inl ⟨SqL.of upd_same, fun y ny => ?_⟩⟩
                    have dy := Dt.tup (K := K) (a := y) (SqT.of (upd_same (H := upd (upd (upd H31 q4 (SetH w q4 (keysOf (ll.map Sum.inr).reverse))) r (.lst ((sortS (uniqS ll)).map V.str))) r2 (.lst ((sortS (uniqS ll)).map V.str))))) (dts (K := K) (sortS (uniqS ll)))
                    have ey := same2 (o := .tup ((sortS (uniqS ll)).map V.str)) (same2 (o := .lst ((sortS (uniqS ll)).map V.str)) (same2 (o := .lst ((sortS (uniqS ll)).map V.str)) (same2 (o := SetH w q4 (keysOf (ll.map Sum.inr).reverse)) e31 nq4) nr) nr2) ny
                    rw [← er] at dy
                    refine lst_new (by show 1 ≤ 1000; decide) fun l4 nl4 => mul_l (xs := [.ref y]) ⟨l4, 2, [.ref y], rfl, rfl, upd_same, by decide, by decide, (by rw [sizeLine_eq]; show 1 * 2 ≤ 16777216; decide), fun r4 nr4 => ?_⟩
                    refine rpL (K := K) (xs := [.ref y, .ref y]) (SqL.of upd_same) (.cons ((dy.same (same_new nl4)).same (same_new nr4)) (.cons ((dy.same (same_new nl4)).same (same_new nr4)) .nil)) okk (by decide) (by decide) ?_
                    exact eq_f rfl (by simp) ⟨_, rfl, iteF ⟨_, _, rfl, e30.trans (same2 (same2 ey nl4) nr4)⟩⟩
                · refine ⟨_, rfl, ⟨DD, ll.map Sum.inl, rfl, ?_, ?_, fun q4 nq4 => ⟨q4, rfl, .inl ⟨uniqI ll, .inr (by rw [upd_same, uniqI_key]), fun r nr => ⟨r, rfl, .inl ⟨sortI (uniqI ll), .inl (SqL.of upd_same), fun r2 nr2 => ?_⟩⟩⟩⟩⟩⟩
                  · have e : (ll.map Sum.inl).map kV = ll.map V.int := by rw [List.map_map]; rfl
                    rw [e]; exact SqL.of hDD31
                  · rw [List.length_map]; show ll.length + 1 < 4096; omega
                  · rw [sortI_sort]
                    refine ⟨r2, _, rfl, .inl ⟨SqL.of upd_same, fun y ny => ?_⟩⟩
                    have dy := Dt.tup (K := K) (a := y) (SqT.of (upd_same (H := upd (upd (upd H31 q4 (SetH w q4 (keysOf (ll.map Sum.inl).reverse))) r (.lst ((sortI (uniqI ll)).map V.int))) r2 (.lst ((sortI (uniqI ll)).map V.int))))) (dti (K := K) (sortI (uniqI ll)))
                    have ey := same2 (o := .tup ((sortI (uniqI ll)).map V.int)) (same2 (o := .lst ((sortI (uniqI ll)).map V.int)) (same2 (o := .lst ((sortI (uniqI ll)).map V.int)) (same2 (o := SetH w q4 (keysOf (ll.map Sum.inl).reverse)) e31 nq4) nr) nr2) ny
                    rw [← er] at dy
                    refine lst_new (by show 1 ≤ 1000; decide) fun l4 nl4 => mul_l (xs := [.ref y]) ⟨l4, 2, [.ref y], rfl, rfl, upd_same, by decide, by decide, (by rw [sizeLine_eq]; show 1 * 2 ≤ 16777216; decide), fun r4 nr4 => ?_⟩
                    refine rpL (K := K) (xs := [.ref y, .ref y]) (SqL.of upd_same) (.cons ((dy.same (same_new nl4)).same (same_new nr4)) (.cons ((dy.same (same_new nl4)).same (same_new nr4)) .nil)) okk (by decide) (by decide) ?_
                    exact eq_f rfl (by simp) ⟨_, rfl, iteF ⟨_, _, rfl, e30.trans (same2 (same2 ey nl4) nr4)⟩⟩
              · rintro σ H30 ⟨v5', v14', rfl, e30⟩
                replace e30 := e29.trans e30
                have dpt6 : t.depth ≤ 6 := by omega
                have oki : ∀ n : Nat, n ≤ 364 → Okd (.int n) 0 64 := fun n hn => .int (lt18 hn)
                have okz : OkdA [.int t.nodes, .int t.depth, .int t.nodes, .int t.depth] 0 260 := (OkdA.cons (oki _ ndt) (.cons (oki _ (by omega)) (.cons (oki _ ndt) (.cons (oki _ (by omega)) .nil)))).mono (Nat.le_refl _) (by decide)
                refine ⟨_, rfl, vt, t, rfl, dt7.same e30, wft, dpt6, fun vz H31 e31 dz => ?_⟩
                replace e31 := e30.trans e31
                obtain ⟨pz, yz, rfl, hz, rz⟩ := Dt.tupI dz
                obtain ⟨w1, wz, rfl, g1, rz⟩ := rz.consI
                obtain ⟨w2, wz, rfl, g2, rz⟩ := rz.consI
                obtain rfl := rz.nilI; obtain rfl := g1.intI; obtain rfl := g2.intI
                refine ⟨_, rfl, vt, t, rfl, dt7.same e31, wft, by omega, fun H32 e32 => ?_⟩
                refine ⟨_, rfl, vt, t, rfl, (dt7.same e31).same e32, wft, by omega, fun H33 e33 => ?_⟩
                refine ⟨_, rfl, rfl, vt, t, rfl, ((dt7.same e31).same e32).same e33, wft, by omega, fun H34 e34 => ?_⟩
                refine ⟨_, rfl, rfl, vt, t, rfl, (((dt7.same e31).same e32).same e33).same e34, wft, by omega, fun H35 e35 => ?_⟩
                have e36 := e32.trans (e33.trans (e34.trans e35))
                refine lst_new (by show 4 ≤ 1000; decide) fun l6 nl6 => rpL (K := K) (ds := [.int t.nodes, .int t.depth, .int t.nodes, .int t.depth]) (SqL.of upd_same) (.cons (.int _) (.cons (.int _) (.cons (.int _) (.cons (.int _) .nil)))) okz (by decide) (by decide) ?_
                refine ⟨_, rfl, pz, _, rfl, .inr (sqs hz (same2 e36 nl6)), fun l7 nl7 => mul_l (xs := [.int t.nodes, .int t.depth]) ⟨l7, 2, [.int t.nodes, .int t.depth], rfl, rfl, upd_same, by decide, by decide, (by rw [sizeLine_eq]; show 2 * 2 ≤ 16777216; decide), fun r7 nr7 => ?_⟩⟩
                refine rpL (K := K) (xs := [.int t.nodes, .int t.depth, .int t.nodes, .int t.depth]) (ds := [.int t.nodes, .int t.depth, .int t.nodes, .int t.depth]) (SqL.of upd_same) (.cons (.int _) (.cons (.int _) (.cons (.int _) (.cons (.int _) .nil)))) okz (by decide) (by decide) ?_
                refine eq_f rfl (by simp) ⟨_, rfl, iteF ?_⟩
                have e37 := e31.trans (same2 (o := .lst [.int t.nodes, .int t.depth, .int t.nodes, .int t.depth]) (same2 (o := .lst [.int t.nodes, .int t.depth]) (same2 (o := .lst [.int t.nodes, .int t.depth, .int t.nodes, .int t.depth]) e36 nl6) nl7) nr7)
                have ndh : h.nodes ≤ 13 := Tm.nodes_at (n := 3) (by omega)
                refine ⟨_, rfl, _, rfl, tup_new (K := K) (ds := [.str "fun", .str "ghost", h.pd, t.pd]) (.cons (.str _) (.cons (.str _) (.cons (dh7.same e37) (.cons (dt7.same e37) .nil)))) (by show 4 ≤ 1000; decide) fun vn H38 e38 dn => ?_⟩
                have e39 := e37.trans e38
                refine ⟨vn, .bin "fun" "ghost" h t, rfl, dn, ⟨.inr rfl, by decide +kernel, wfh, wft⟩, by simp only [Tm.nodes]; omega, fun H40 e40 => ?_⟩
                refine ⟨_, rfl, vh, h, rfl, dh7.same (e39.trans e40), wfh, by omega, fun H41 e41 => add_i ⟨_, rfl, vt, t, rfl, dt7.same ((e39.trans e40).trans e41), wft, by omega, fun H42 e42 => add_i ?_⟩⟩
                refine eq_f rfl (b := false) ?_ ⟨_, rfl, iteF ⟨fr_mk, S7.keep (((e39.trans e40).trans e41).trans e42)⟩⟩
                have : (((Tm.bin "fun" "ghost" h t).nodes : Nat) : Int) = 1 + (h.nodes : Int) + (t.nodes : Int) := by simp only [Tm.nodes]; omega
                rw [this]; simp
    · rintro σ H2 ⟨⟨v2, v3, v4, v5, v6, v7, v8, v9, v10, v11, v12, v13, v14, v15, v16, v17, rfl⟩, S⟩
      exact k _
end
end RS

/-! End: what the top has written, and the law. -/
namespace RS
open PySem PySem.Spec PyProof.Rows L2

theorem all_mk {l : PySem.W.OpenLaw} {w : World} {K : PySem.W.Frag} {h : Heap} {mg : Str → Option Value} {fa f_own_parts f_spine f_applied f_leaves_of f_names_in f_locals_in f_holes_in f_nodes_of f_depth_of f__law_begun f__law_blended f__law_draw f__law_pick f__law_rt_term f__law_rt_parts f__law_rt_leaves f__law_k03_size f_law : Addr} (X : K.In h) (G : h.Ns mainGlobals mg) (hfa : mg "law" = some (.ref fa))
    {od_own_parts an_own_parts od_spine an_spine od_applied an_applied od_leaves_of an_leaves_of od_names_in an_names_in od_locals_in an_locals_in od_holes_in an_holes_in od_nodes_of an_nodes_of od_depth_of an_depth_of od__law_begun an__law_begun od__law_blended an__law_blended od__law_draw an__law_draw od__law_pick an__law_pick od__law_rt_term an__law_rt_term od__law_rt_parts an__law_rt_parts od__law_rt_leaves an__law_rt_leaves od__law_k03_size an__law_k03_size od_law an_law : Option Addr} {sl_own_parts sl_spine sl_applied sl_leaves_of sl_names_in sl_locals_in sl_holes_in sl_nodes_of sl_depth_of sl__law_begun sl__law_blended sl__law_draw sl__law_pick sl__law_rt_term sl__law_rt_parts sl__law_rt_leaves sl__law_k03_size sl_law : Array (Option Value)}
    {oc_own_parts kV_own_parts dc_own_parts pm_own_parts cd_own_parts ct_own_parts oc_spine kV_spine dc_spine pm_spine cd_spine ct_spine oc_applied kV_applied dc_applied pm_applied cd_applied ct_applied oc_leaves_of kV_leaves_of dc_leaves_of pm_leaves_of cd_leaves_of ct_leaves_of oc_names_in kV_names_in dc_names_in pm_names_in cd_names_in ct_names_in oc_locals_in kV_locals_in dc_locals_in pm_locals_in cd_locals_in ct_locals_in oc_holes_in kV_holes_in dc_holes_in pm_holes_in cd_holes_in ct_holes_in oc_nodes_of kV_nodes_of dc_nodes_of pm_nodes_of cd_nodes_of ct_nodes_of oc_depth_of kV_depth_of dc_depth_of pm_depth_of cd_depth_of ct_depth_of oc__law_begun kV__law_begun dc__law_begun pm__law_begun cd__law_begun ct__law_begun oc__law_blended kV__law_blended dc__law_blended pm__law_blended cd__law_blended ct__law_blended oc__law_draw kV__law_draw dc__law_draw pm__law_draw cd__law_draw ct__law_draw oc__law_pick kV__law_pick dc__law_pick pm__law_pick cd__law_pick ct__law_pick oc__law_rt_term kV__law_rt_term dc__law_rt_term pm__law_rt_term cd__law_rt_term ct__law_rt_term oc__law_rt_parts kV__law_rt_parts dc__law_rt_parts pm__law_rt_parts cd__law_rt_parts ct__law_rt_parts oc__law_rt_leaves kV__law_rt_leaves dc__law_rt_leaves pm__law_rt_leaves cd__law_rt_leaves ct__law_rt_leaves oc__law_k03_size kV__law_k03_size dc__law_k03_size pm__law_k03_size cd__law_k03_size ct__law_k03_size oc_law kV_law dc_law pm_law cd_law ct_law : Value}
    (a_own_parts : PySem.W.nsIn K mainGlobals "own_parts" = some (some (.ref f_own_parts))) (l_own_parts : K.lookup f_own_parts = some ⟨oc_own_parts, od_own_parts, .func (PySem.W.fnOf "own_parts" "own_parts" (defArgs s_own_parts) (defBody s_own_parts) (defScope s_own_parts) .none kV_own_parts dc_own_parts pm_own_parts an_own_parts cd_own_parts ct_own_parts), sl_own_parts⟩) (c_own_parts : PySem.W.codeIn K cd_own_parts "own_parts" = true) (k_own_parts : PySem.W.keepIn K (.ref f_own_parts) = true)
    (a_spine : PySem.W.nsIn K mainGlobals "spine" = some (some (.ref f_spine))) (l_spine : K.lookup f_spine = some ⟨oc_spine, od_spine, .func (PySem.W.fnOf "spine" "spine" (defArgs s_spine) (defBody s_spine) (defScope s_spine) .none kV_spine dc_spine pm_spine an_spine cd_spine ct_spine), sl_spine⟩) (c_spine : PySem.W.codeIn K cd_spine "spine" = true) (k_spine : PySem.W.keepIn K (.ref f_spine) = true)
    (a_applied : PySem.W.nsIn K mainGlobals "applied" = some (some (.ref f_applied))) (l_applied : K.lookup f_applied = some ⟨oc_applied, od_applied, .func (PySem.W.fnOf "applied" "applied" (defArgs s_applied) (defBody s_applied) (defScope s_applied) .none kV_applied dc_applied pm_applied an_applied cd_applied ct_applied), sl_applied⟩) (c_applied : PySem.W.codeIn K cd_applied "applied" = true) (k_applied : PySem.W.keepIn K (.ref f_applied) = true)
    (a_leaves_of : PySem.W.nsIn K mainGlobals "leaves_of" = some (some (.ref f_leaves_of))) (l_leaves_of : K.lookup f_leaves_of = some ⟨oc_leaves_of, od_leaves_of, .func (PySem.W.fnOf "leaves_of" "leaves_of" (defArgs s_leaves_of) (defBody s_leaves_of) (defScope s_leaves_of) .none kV_leaves_of dc_leaves_of pm_leaves_of an_leaves_of cd_leaves_of ct_leaves_of), sl_leaves_of⟩) (c_leaves_of : PySem.W.codeIn K cd_leaves_of "leaves_of" = true) (k_leaves_of : PySem.W.keepIn K (.ref f_leaves_of) = true)
    (a_names_in : PySem.W.nsIn K mainGlobals "names_in" = some (some (.ref f_names_in))) (l_names_in : K.lookup f_names_in = some ⟨oc_names_in, od_names_in, .func (PySem.W.fnOf "names_in" "names_in" (defArgs s_names_in) (defBody s_names_in) (defScope s_names_in) .none kV_names_in dc_names_in pm_names_in an_names_in cd_names_in ct_names_in), sl_names_in⟩) (c_names_in : PySem.W.codeIn K cd_names_in "names_in" = true) (k_names_in : PySem.W.keepIn K (.ref f_names_in) = true)
    (a_locals_in : PySem.W.nsIn K mainGlobals "locals_in" = some (some (.ref f_locals_in))) (l_locals_in : K.lookup f_locals_in = some ⟨oc_locals_in, od_locals_in, .func (PySem.W.fnOf "locals_in" "locals_in" (defArgs s_locals_in) (defBody s_locals_in) (defScope s_locals_in) .none kV_locals_in dc_locals_in pm_locals_in an_locals_in cd_locals_in ct_locals_in), sl_locals_in⟩) (c_locals_in : PySem.W.codeIn K cd_locals_in "locals_in" = true) (k_locals_in : PySem.W.keepIn K (.ref f_locals_in) = true)
    (a_holes_in : PySem.W.nsIn K mainGlobals "holes_in" = some (some (.ref f_holes_in))) (l_holes_in : K.lookup f_holes_in = some ⟨oc_holes_in, od_holes_in, .func (PySem.W.fnOf "holes_in" "holes_in" (defArgs s_holes_in) (defBody s_holes_in) (defScope s_holes_in) .none kV_holes_in dc_holes_in pm_holes_in an_holes_in cd_holes_in ct_holes_in), sl_holes_in⟩) (c_holes_in : PySem.W.codeIn K cd_holes_in "holes_in" = true) (k_holes_in : PySem.W.keepIn K (.ref f_holes_in) = true)
    (a_nodes_of : PySem.W.nsIn K mainGlobals "nodes_of" = some (some (.ref f_nodes_of))) (l_nodes_of : K.lookup f_nodes_of = some ⟨oc_nodes_of, od_nodes_of, .func (PySem.W.fnOf "nodes_of" "nodes_of" (defArgs s_nodes_of) (defBody s_nodes_of) (defScope s_nodes_of) .none kV_nodes_of dc_nodes_of pm_nodes_of an_nodes_of cd_nodes_of ct_nodes_of), sl_nodes_of⟩) (c_nodes_of : PySem.W.codeIn K cd_nodes_of "nodes_of" = true) (k_nodes_of : PySem.W.keepIn K (.ref f_nodes_of) = true)
    (a_depth_of : PySem.W.nsIn K mainGlobals "depth_of" = some (some (.ref f_depth_of))) (l_depth_of : K.lookup f_depth_of = some ⟨oc_depth_of, od_depth_of, .func (PySem.W.fnOf "depth_of" "depth_of" (defArgs s_depth_of) (defBody s_depth_of) (defScope s_depth_of) .none kV_depth_of dc_depth_of pm_depth_of an_depth_of cd_depth_of ct_depth_of), sl_depth_of⟩) (c_depth_of : PySem.W.codeIn K cd_depth_of "depth_of" = true) (k_depth_of : PySem.W.keepIn K (.ref f_depth_of) = true)
    (a__law_begun : PySem.W.nsIn K mainGlobals "_law_begun" = some (some (.ref f__law_begun))) (l__law_begun : K.lookup f__law_begun = some ⟨oc__law_begun, od__law_begun, .func (PySem.W.fnOf "_law_begun" "_law_begun" (defArgs s_law_begun) (defBody s_law_begun) (defScope s_law_begun) .none kV__law_begun dc__law_begun pm__law_begun an__law_begun cd__law_begun ct__law_begun), sl__law_begun⟩) (c__law_begun : PySem.W.codeIn K cd__law_begun "_law_begun" = true) (k__law_begun : PySem.W.keepIn K (.ref f__law_begun) = true)
    (a__law_blended : PySem.W.nsIn K mainGlobals "_law_blended" = some (some (.ref f__law_blended))) (l__law_blended : K.lookup f__law_blended = some ⟨oc__law_blended, od__law_blended, .func (PySem.W.fnOf "_law_blended" "_law_blended" (defArgs s_law_blended) (defBody s_law_blended) (defScope s_law_blended) .none kV__law_blended dc__law_blended pm__law_blended an__law_blended cd__law_blended ct__law_blended), sl__law_blended⟩) (c__law_blended : PySem.W.codeIn K cd__law_blended "_law_blended" = true) (k__law_blended : PySem.W.keepIn K (.ref f__law_blended) = true)
    (a__law_draw : PySem.W.nsIn K mainGlobals "_law_draw" = some (some (.ref f__law_draw))) (l__law_draw : K.lookup f__law_draw = some ⟨oc__law_draw, od__law_draw, .func (PySem.W.fnOf "_law_draw" "_law_draw" (defArgs s_law_draw) (defBody s_law_draw) (defScope s_law_draw) .none kV__law_draw dc__law_draw pm__law_draw an__law_draw cd__law_draw ct__law_draw), sl__law_draw⟩) (c__law_draw : PySem.W.codeIn K cd__law_draw "_law_draw" = true) (k__law_draw : PySem.W.keepIn K (.ref f__law_draw) = true)
    (a__law_pick : PySem.W.nsIn K mainGlobals "_law_pick" = some (some (.ref f__law_pick))) (l__law_pick : K.lookup f__law_pick = some ⟨oc__law_pick, od__law_pick, .func (PySem.W.fnOf "_law_pick" "_law_pick" (defArgs s_law_pick) (defBody s_law_pick) (defScope s_law_pick) .none kV__law_pick dc__law_pick pm__law_pick an__law_pick cd__law_pick ct__law_pick), sl__law_pick⟩) (c__law_pick : PySem.W.codeIn K cd__law_pick "_law_pick" = true) (k__law_pick : PySem.W.keepIn K (.ref f__law_pick) = true)
    (a__law_rt_term : PySem.W.nsIn K mainGlobals "_law_rt_term" = some (some (.ref f__law_rt_term))) (l__law_rt_term : K.lookup f__law_rt_term = some ⟨oc__law_rt_term, od__law_rt_term, .func (PySem.W.fnOf "_law_rt_term" "_law_rt_term" (defArgs s_law_rt_term) (defBody s_law_rt_term) (defScope s_law_rt_term) .none kV__law_rt_term dc__law_rt_term pm__law_rt_term an__law_rt_term cd__law_rt_term ct__law_rt_term), sl__law_rt_term⟩) (c__law_rt_term : PySem.W.codeIn K cd__law_rt_term "_law_rt_term" = true) (k__law_rt_term : PySem.W.keepIn K (.ref f__law_rt_term) = true)
    (a__law_rt_parts : PySem.W.nsIn K mainGlobals "_law_rt_parts" = some (some (.ref f__law_rt_parts))) (l__law_rt_parts : K.lookup f__law_rt_parts = some ⟨oc__law_rt_parts, od__law_rt_parts, .func (PySem.W.fnOf "_law_rt_parts" "_law_rt_parts" (defArgs s_law_rt_parts) (defBody s_law_rt_parts) (defScope s_law_rt_parts) .none kV__law_rt_parts dc__law_rt_parts pm__law_rt_parts an__law_rt_parts cd__law_rt_parts ct__law_rt_parts), sl__law_rt_parts⟩) (c__law_rt_parts : PySem.W.codeIn K cd__law_rt_parts "_law_rt_parts" = true) (k__law_rt_parts : PySem.W.keepIn K (.ref f__law_rt_parts) = true)
    (a__law_rt_leaves : PySem.W.nsIn K mainGlobals "_law_rt_leaves" = some (some (.ref f__law_rt_leaves))) (l__law_rt_leaves : K.lookup f__law_rt_leaves = some ⟨oc__law_rt_leaves, od__law_rt_leaves, .func (PySem.W.fnOf "_law_rt_leaves" "_law_rt_leaves" (defArgs s_law_rt_leaves) (defBody s_law_rt_leaves) (defScope s_law_rt_leaves) .none kV__law_rt_leaves dc__law_rt_leaves pm__law_rt_leaves an__law_rt_leaves cd__law_rt_leaves ct__law_rt_leaves), sl__law_rt_leaves⟩) (c__law_rt_leaves : PySem.W.codeIn K cd__law_rt_leaves "_law_rt_leaves" = true) (k__law_rt_leaves : PySem.W.keepIn K (.ref f__law_rt_leaves) = true)
    (a__law_k03_size : PySem.W.nsIn K mainGlobals "_law_k03_size" = some (some (.ref f__law_k03_size))) (l__law_k03_size : K.lookup f__law_k03_size = some ⟨oc__law_k03_size, od__law_k03_size, .func (PySem.W.fnOf "_law_k03_size" "_law_k03_size" (defArgs s_law_k03_size) (defBody s_law_k03_size) (defScope s_law_k03_size) .none kV__law_k03_size dc__law_k03_size pm__law_k03_size an__law_k03_size cd__law_k03_size ct__law_k03_size), sl__law_k03_size⟩) (c__law_k03_size : PySem.W.codeIn K cd__law_k03_size "_law_k03_size" = true) (k__law_k03_size : PySem.W.keepIn K (.ref f__law_k03_size) = true)
    (a_law : PySem.W.nsIn K mainGlobals "law" = some (some (.ref f_law))) (l_law : K.lookup f_law = some ⟨oc_law, od_law, .func (PySem.W.fnOf "law" "law" (defArgs s_law) (defBody s_law) (defScope s_law) .none kV_law dc_law pm_law an_law cd_law ct_law), sl_law⟩) (c_law : PySem.W.codeIn K cd_law "law" = true) (k_law : PySem.W.keepIn K (.ref f_law) = true)
    (z_abs : PySem.W.nsIn K mainGlobals "abs" = some none) (z_int : PySem.W.nsIn K mainGlobals "int" = some none) (z_len : PySem.W.nsIn K mainGlobals "len" = some none) (z_max : PySem.W.nsIn K mainGlobals "max" = some none) (z_min : PySem.W.nsIn K mainGlobals "min" = some none) (z_range : PySem.W.nsIn K mainGlobals "range" = some none) (z_repr : PySem.W.nsIn K mainGlobals "repr" = some none) (z_tuple : PySem.W.nsIn K mainGlobals "tuple" = some none) (z_sorted : PySem.W.nsIn K mainGlobals "sorted" = some none) (z_set : PySem.W.nsIn K mainGlobals "set" = some none) (z_list : PySem.W.nsIn K mainGlobals "list" = some none) :
    ∃ fd : FuncData, (∀ (s : Shared) (v : Value), BindsTo s fd ⟨[v], []⟩ [("script", v)]) ∧ ∀ base : Heap, K.In base → base.Ns mainGlobals mg → FnG l.prog w K mg base 10 fa fd ["script"] (spLaw K) := by
  have e := hfa.symm.trans (PySem.W.mg_of X G a_law)
  cases e
  have F_own_parts := fun_mk (st := s_own_parts) l_own_parts c_own_parts k_own_parts
  have m_own_parts := PySem.W.mg_of X G a_own_parts
  have b_own_parts := F_own_parts.binds (ps := ["term"]) fun _ _ _ _ _ _ us hl => match us, hl with | [_], _ => rfl
  have F_spine := fun_mk (st := s_spine) l_spine c_spine k_spine
  have m_spine := PySem.W.mg_of X G a_spine
  have b_spine := F_spine.binds (ps := ["term"]) fun _ _ _ _ _ _ us hl => match us, hl with | [_], _ => rfl
  have F_applied := fun_mk (st := s_applied) l_applied c_applied k_applied
  have m_applied := PySem.W.mg_of X G a_applied
  have b_applied := F_applied.binds (ps := ["head", "arguments"]) fun _ _ _ _ _ _ us hl => match us, hl with | [_, _], _ => rfl
  have F_leaves_of := fun_mk (st := s_leaves_of) l_leaves_of c_leaves_of k_leaves_of
  have m_leaves_of := PySem.W.mg_of X G a_leaves_of
  have b_leaves_of := F_leaves_of.binds (ps := ["term"]) fun _ _ _ _ _ _ us hl => match us, hl with | [_], _ => rfl
  have F_names_in := fun_mk (st := s_names_in) l_names_in c_names_in k_names_in
  have m_names_in := PySem.W.mg_of X G a_names_in
  have b_names_in := F_names_in.binds (ps := ["term"]) fun _ _ _ _ _ _ us hl => match us, hl with | [_], _ => rfl
  have F_locals_in := fun_mk (st := s_locals_in) l_locals_in c_locals_in k_locals_in
  have m_locals_in := PySem.W.mg_of X G a_locals_in
  have b_locals_in := F_locals_in.binds (ps := ["term"]) fun _ _ _ _ _ _ us hl => match us, hl with | [_], _ => rfl
  have F_holes_in := fun_mk (st := s_holes_in) l_holes_in c_holes_in k_holes_in
  have m_holes_in := PySem.W.mg_of X G a_holes_in
  have b_holes_in := F_holes_in.binds (ps := ["term"]) fun _ _ _ _ _ _ us hl => match us, hl with | [_], _ => rfl
  have F_nodes_of := fun_mk (st := s_nodes_of) l_nodes_of c_nodes_of k_nodes_of
  have m_nodes_of := PySem.W.mg_of X G a_nodes_of
  have b_nodes_of := F_nodes_of.binds (ps := ["term"]) fun _ _ _ _ _ _ us hl => match us, hl with | [_], _ => rfl
  have F_depth_of := fun_mk (st := s_depth_of) l_depth_of c_depth_of k_depth_of
  have m_depth_of := PySem.W.mg_of X G a_depth_of
  have b_depth_of := F_depth_of.binds (ps := ["term"]) fun _ _ _ _ _ _ us hl => match us, hl with | [_], _ => rfl
  have F__law_begun := fun_mk (st := s_law_begun) l__law_begun c__law_begun k__law_begun
  have m__law_begun := PySem.W.mg_of X G a__law_begun
  have b__law_begun := F__law_begun.binds (ps := ["script"]) fun _ _ _ _ _ _ us hl => match us, hl with | [_], _ => rfl
  have F__law_blended := fun_mk (st := s_law_blended) l__law_blended c__law_blended k__law_blended
  have m__law_blended := PySem.W.mg_of X G a__law_blended
  have b__law_blended := F__law_blended.binds (ps := ["state"]) fun _ _ _ _ _ _ us hl => match us, hl with | [_], _ => rfl
  have F__law_draw := fun_mk (st := s_law_draw) l__law_draw c__law_draw k__law_draw
  have m__law_draw := PySem.W.mg_of X G a__law_draw
  have b__law_draw := F__law_draw.binds (ps := ["state", "size_here"]) fun _ _ _ _ _ _ us hl => match us, hl with | [_, _], _ => rfl
  have F__law_pick := fun_mk (st := s_law_pick) l__law_pick c__law_pick k__law_pick
  have m__law_pick := PySem.W.mg_of X G a__law_pick
  have b__law_pick := F__law_pick.binds (ps := ["state", "several"]) fun _ _ _ _ _ _ us hl => match us, hl with | [_, _], _ => rfl
  have F__law_rt_term := fun_mk (st := s_law_rt_term) l__law_rt_term c__law_rt_term k__law_rt_term
  have m__law_rt_term := PySem.W.mg_of X G a__law_rt_term
  have b__law_rt_term := F__law_rt_term.binds (ps := ["state", "deep", "ahead"]) fun _ _ _ _ _ _ us hl => match us, hl with | [_, _, _], _ => rfl
  have F__law_rt_parts := fun_mk (st := s_law_rt_parts) l__law_rt_parts c__law_rt_parts k__law_rt_parts
  have m__law_rt_parts := PySem.W.mg_of X G a__law_rt_parts
  have b__law_rt_parts := F__law_rt_parts.binds (ps := ["term"]) fun _ _ _ _ _ _ us hl => match us, hl with | [_], _ => rfl
  have F__law_rt_leaves := fun_mk (st := s_law_rt_leaves) l__law_rt_leaves c__law_rt_leaves k__law_rt_leaves
  have m__law_rt_leaves := PySem.W.mg_of X G a__law_rt_leaves
  have b__law_rt_leaves := F__law_rt_leaves.binds (ps := ["term", "ahead"]) fun _ _ _ _ _ _ us hl => match us, hl with | [_, _], _ => rfl
  have F__law_k03_size := fun_mk (st := s_law_k03_size) l__law_k03_size c__law_k03_size k__law_k03_size
  have m__law_k03_size := PySem.W.mg_of X G a__law_k03_size
  have b__law_k03_size := F__law_k03_size.binds (ps := ["term"]) fun _ _ _ _ _ _ us hl => match us, hl with | [_], _ => rfl
  have F_law := fun_mk (st := s_law) l_law c_law k_law
  have n_abs := PySem.W.mg_none_of X G z_abs
  have n_int := PySem.W.mg_none_of X G z_int
  have n_len := PySem.W.mg_none_of X G z_len
  have n_max := PySem.W.mg_none_of X G z_max
  have n_min := PySem.W.mg_none_of X G z_min
  have n_range := PySem.W.mg_none_of X G z_range
  have n_repr := PySem.W.mg_none_of X G z_repr
  have n_tuple := PySem.W.mg_none_of X G z_tuple
  have n_sorted := PySem.W.mg_none_of X G z_sorted
  have n_set := PySem.W.mg_none_of X G z_set
  have n_list := PySem.W.mg_none_of X G z_list
  refine ⟨PySem.W.fnOf "law" "law" (defArgs s_law) (defBody s_law) (defScope s_law) .none kV_law dc_law pm_law an_law cd_law ct_law, fun s v => .of_eq rfl, fun base _ _ => ?_⟩
  have Down_parts : Df l.prog w K mg base "own_parts" 1 ["term"] (spParts K) := ⟨_, _, ok_own_parts F_own_parts, m_own_parts, k_own_parts, b_own_parts⟩
  have D_law_rt_parts : Df l.prog w K mg base "_law_rt_parts" 1 ["term"] (spParts K) := ⟨_, _, ok_rt_parts F__law_rt_parts, m__law_rt_parts, k__law_rt_parts, b__law_rt_parts⟩
  have Dleaves_of : Df l.prog w K mg base "leaves_of" 2 ["term"] (spLeavesOf K) := ⟨_, _, ok_leaves_of F_leaves_of Down_parts, m_leaves_of, k_leaves_of, b_leaves_of⟩
  have D_law_blended : Df l.prog w K mg base "_law_blended" 1 ["state"] spBlended := ⟨_, _, ok_blended F__law_blended n_int, m__law_blended, k__law_blended, b__law_blended⟩
  have D_law_draw : Df l.prog w K mg base "_law_draw" 2 ["state", "size_here"] spDraw := ⟨_, _, ok_draw F__law_draw n_int D_law_blended, m__law_draw, k__law_draw, b__law_draw⟩
  have D_law_pick : Df l.prog w K mg base "_law_pick" 3 ["state", "several"] spPick := ⟨_, _, ok_pick F__law_pick n_len D_law_draw, m__law_pick, k__law_pick, b__law_pick⟩
  have G_applied := ok_applied (P := l.prog) (w := w) (mg := mg) (base := base) F_applied
  have G_spine := ok_spine (P := l.prog) (w := w) (mg := mg) (base := base) F_spine n_tuple
  have G_nodes_of := ok_nodes_of (P := l.prog) (w := w) (mg := mg) (base := base) F_nodes_of Down_parts
  have G_depth_of := ok_depth_of (P := l.prog) (w := w) (mg := mg) (base := base) F_depth_of n_max Down_parts
  refine ok_law F_law n_len n_min n_range n_repr n_tuple n_sorted n_set n_list
    ⟨_, _, ok_begun F__law_begun n_abs, m__law_begun, k__law_begun, b__law_begun⟩ D_law_draw D_law_pick
    ⟨_, _, ok_term F__law_rt_term m__law_rt_term b__law_rt_term D_law_draw D_law_pick 6, m__law_rt_term, k__law_rt_term, b__law_rt_term⟩
    ⟨_, _, ok_leaves F__law_rt_leaves m__law_rt_leaves b__law_rt_leaves D_law_rt_parts 6, m__law_rt_leaves, k__law_rt_leaves, b__law_rt_leaves⟩
    ⟨_, _, ok_size F__law_k03_size m__law_k03_size b__law_k03_size n_max D_law_rt_parts 6, m__law_k03_size, k__law_k03_size, b__law_k03_size⟩
    ⟨_, _, G_applied, m_applied, k_applied, b_applied⟩ ⟨⟨_, _, G_applied, m_applied, k_applied, fun s ws _ h => match ws, h with | [_, _], _ => .of_eq rfl⟩, fun zs h => match zs, h with | [_, _], _ => rfl⟩
    ⟨_, _, G_spine, m_spine, k_spine, b_spine⟩ ⟨⟨_, _, G_spine, m_spine, k_spine, fun s ws _ h => match ws, h with | [_], _ => .of_eq rfl⟩, fun zs h => match zs, h with | [_], _ => rfl⟩
    ⟨_, _, G_nodes_of, m_nodes_of, k_nodes_of, b_nodes_of⟩ ⟨⟨_, _, G_nodes_of, m_nodes_of, k_nodes_of, fun s ws _ h => match ws, h with | [_], _ => .of_eq rfl⟩, fun zs h => match zs, h with | [_], _ => rfl⟩
    ⟨_, _, G_depth_of, m_depth_of, k_depth_of, b_depth_of⟩ ⟨⟨_, _, G_depth_of, m_depth_of, k_depth_of, fun s ws _ h => match ws, h with | [_], _ => .of_eq rfl⟩, fun zs h => match zs, h with | [_], _ => rfl⟩
    m_names_in m_locals_in m_holes_in ?_
  rintro f sp (⟨rfl, rfl⟩ | ⟨rfl, rfl⟩ | ⟨rfl, rfl⟩)
  · exact ⟨_, ok_names_in F_names_in n_tuple n_sorted n_set Dleaves_of, k_names_in, b_names_in, fun s ws _ h => match ws, h with | [_], _ => .of_eq rfl⟩
  · exact ⟨_, ok_locals_in F_locals_in n_tuple n_sorted n_set Dleaves_of, k_locals_in, b_locals_in, fun s ws _ h => match ws, h with | [_], _ => .of_eq rfl⟩
  · exact ⟨_, ok_holes_in F_holes_in n_tuple n_sorted n_set Dleaves_of, k_holes_in, b_holes_in, fun s ws _ h => match ws, h with | [_], _ => .of_eq rfl⟩
theorem walk0 {l : PySem.W.OpenLaw} {q : Program} {loose : List Str} {XP : (Str → Option Value) → Heap → Prop} {YP : World → Heap → Prop} {d : DefRec} {K : Params → PySem.W.Frag} (hn : l.most = some 63) (hdf : d.params.defaults = []) (hY : ∀ (w : World) (h : Heap), YP w h → (K w.params).In h)
    (F : ∀ (w : World) (mg : Str → Option Value) (fa : Addr) (h : Heap), (K w.params).In h → h.Ns mainGlobals mg → mg d.name = some (.ref fa) → ∃ fd : FuncData, (∀ (s : Shared) (u : Value), BindsTo s fd ⟨[u], []⟩ [("script", u)]) ∧ ∀ base : Heap, (K w.params).In base → base.Ns mainGlobals mg → FnG l.prog w (K w.params) mg base 10 fa fd ["script"] (spLaw (K w.params))) :
    PySem.W.WalkO q loose XP YP l.row.toRowW d [] (fun f vs => PySem.call f vs) :=
  walkG (n := 63) (k := 10) (x := "script") (sp := fun w => spLaw (K w.params)) hn (by decide) hdf ⟨rfl, by decide, by decide⟩ hY F fun w H a ns hl _ hS => ⟨a, ns, rfl, hS, hl, fun _ => rfl⟩
end RS
open PySem PySem.W PyProof.Rows
set_option maxRecDepth 100000 in
set_option maxHeartbeats 0 in
theorem PySem.Challenge.cw_runsasshown_k03_whole_spines_names_and_s_holds : PySem.Challenge.rw_runsasshown_k03_whole_spines_names_and_s.Holds := by
  w_on; o_law; k_head; (case hw => w_witness2)
  k_fill
  refine RS.walk0 (l := PySem.Challenge.rw_runsasshown_k03_whole_spines_names_and_s) rfl rfl (fun w h Y => PySem.W.kIn_of Y) ?F
  case F =>
    intro w mg fa h KX G hmg
    refine' RS.all_mk KX G hmg ?a_own_parts ?l_own_parts ?c_own_parts ?k_own_parts ?a_spine ?l_spine ?c_spine ?k_spine ?a_applied ?l_applied ?c_applied ?k_applied ?a_leaves_of ?l_leaves_of ?c_leaves_of ?k_leaves_of ?a_names_in ?l_names_in ?c_names_in ?k_names_in ?a_locals_in ?l_locals_in ?c_locals_in ?k_locals_in ?a_holes_in ?l_holes_in ?c_holes_in ?k_holes_in ?a_nodes_of ?l_nodes_of ?c_nodes_of ?k_nodes_of ?a_depth_of ?l_depth_of ?c_depth_of ?k_depth_of ?a__law_begun ?l__law_begun ?c__law_begun ?k__law_begun ?a__law_blended ?l__law_blended ?c__law_blended ?k__law_blended ?a__law_draw ?l__law_draw ?c__law_draw ?k__law_draw ?a__law_pick ?l__law_pick ?c__law_pick ?k__law_pick ?a__law_rt_term ?l__law_rt_term ?c__law_rt_term ?k__law_rt_term ?a__law_rt_parts ?l__law_rt_parts ?c__law_rt_parts ?k__law_rt_parts ?a__law_rt_leaves ?l__law_rt_leaves ?c__law_rt_leaves ?k__law_rt_leaves ?a__law_k03_size ?l__law_k03_size ?c__law_k03_size ?k__law_k03_size ?a_law ?l_law ?c_law ?k_law ?z_abs ?z_int ?z_len ?z_max ?z_min ?z_range ?z_repr ?z_tuple ?z_sorted ?z_set ?z_list
    (case a_own_parts => k_is); (case l_own_parts => k_is); (case c_own_parts => k_is); (case k_own_parts => k_is); (case a_spine => k_is); (case l_spine => k_is)
    (case c_spine => k_is); (case k_spine => k_is); (case a_applied => k_is); (case l_applied => k_is); (case c_applied => k_is); (case k_applied => k_is)
    (case a_leaves_of => k_is); (case l_leaves_of => k_is); (case c_leaves_of => k_is); (case k_leaves_of => k_is); (case a_names_in => k_is); (case l_names_in => k_is)
    (case c_names_in => k_is); (case k_names_in => k_is); (case a_locals_in => k_is); (case l_locals_in => k_is); (case c_locals_in => k_is); (case k_locals_in => k_is)
    (case a_holes_in => k_is); (case l_holes_in => k_is); (case c_holes_in => k_is); (case k_holes_in => k_is); (case a_nodes_of => k_is); (case l_nodes_of => k_is)
    (case c_nodes_of => k_is); (case k_nodes_of => k_is); (case a_depth_of => k_is); (case l_depth_of => k_is); (case c_depth_of => k_is); (case k_depth_of => k_is)
    (case a__law_begun => k_is); (case l__law_begun => k_is); (case c__law_begun => k_is); (case k__law_begun => k_is); (case a__law_blended => k_is); (case l__law_blended => k_is)
    (case c__law_blended => k_is); (case k__law_blended => k_is); (case a__law_draw => k_is); (case l__law_draw => k_is); (case c__law_draw => k_is); (case k__law_draw => k_is)
    (case a__law_pick => k_is); (case l__law_pick => k_is); (case c__law_pick => k_is); (case k__law_pick => k_is); (case a__law_rt_term => k_is); (case l__law_rt_term => k_is)
    (case c__law_rt_term => k_is); (case k__law_rt_term => k_is); (case a__law_rt_parts => k_is); (case l__law_rt_parts => k_is); (case c__law_rt_parts => k_is); (case k__law_rt_parts => k_is)
    (case a__law_rt_leaves => k_is); (case l__law_rt_leaves => k_is); (case c__law_rt_leaves => k_is); (case k__law_rt_leaves => k_is); (case a__law_k03_size => k_is); (case l__law_k03_size => k_is)
    (case c__law_k03_size => k_is); (case k__law_k03_size => k_is); (case a_law => k_is); (case l_law => k_is); (case c_law => k_is); (case k_law => k_is)
    (case z_abs => k_is); (case z_int => k_is); (case z_len => k_is); (case z_max => k_is); (case z_min => k_is); (case z_range => k_is)
    (case z_repr => k_is); (case z_tuple => k_is); (case z_sorted => k_is); (case z_set => k_is); (case z_list => k_is)

